import PyProof.Rows.All
import Wide.All
import OpenK.AllK
import Wide.FinOn
import PyProof.EqAt
import PyProof.EqKinds
import PyProof.TupleCall
import Open.SpecLaws
import KE.OsGo
import KE.OsHead
import HandS.ForSpec
import HandS.Comp
import HandS.Iter
import HandS.Walk
import HandS.Zip
import HandS.Deep
import HandS.TupAny
import HandS.TupMul
import HandS.TupLe
import HandS.TupSets
import HandS.Strs
import HandS.SetFor
import HandS.SortInts
import HandS.ExcInit
import HandS.ExcField
import HandS.TryMany
import HandS.CallRecv
import HandS.Defaults
import HandS.Head0
import HandS.Head1
import HandS.Head2
import HandS.Head3
import HandS.Head4
import HandS.HeadHook1
import HandS.HeadHook2
import HandS.HeadHook3
import HandS.HeadHook4
import Lean
import PyProof.ListMulRoad
import PyProof.FactsAll.tuple_2
import KE.DataMinMax
import HandS.TryOnly
import PySem.Challenge.RW_patterntables_s01_answers
set_option Elab.async false
set_option linter.all false
set_option maxRecDepth 100000
set_option maxHeartbeats 2100000
/-! The program's text by places, its defs as data, the facts that the head tells (printed by gen_head.py). -/
namespace Pt
open L2 PySem PySem.Spec PyProof.Rows
abbrev PP : Program := PySem.Challenge.pw_patterntables_s01_answers
def top (i : Nat) : Stmt := PP.main.body.getD i (.Pass ⟨0, 0, 0, 0⟩)
abbrev s_Fault_init : Stmt := inClass (top 14) 0
abbrev s_is_letter : Stmt := top 15
abbrev s_is_digit : Stmt := top 16
abbrev s_is_of_chunk : Stmt := top 17
abbrev s_chunk_end : Stmt := top 18
abbrev s_behind_remark : Stmt := top 19
abbrev s_token_at : Stmt := top 20
abbrev s_tokens_of : Stmt := top 21
abbrev s_Pattern_init : Stmt := inClass (top 37) 0
abbrev s_Pattern_signs : Stmt := inClass (top 37) 1
abbrev s_points_of : Stmt := top 38
abbrev s_read_body : Stmt := top 39
abbrev s_read_pattern : Stmt := top 40
abbrev s_letters_of_word : Stmt := top 41
abbrev s_Listed_init : Stmt := inClass (top 42) 0
abbrev s_Listed_with_patterns : Stmt := inClass (top 42) 1
abbrev s_place_of : Stmt := top 43
abbrev s_Reader_init : Stmt := inClass (top 44) 0
abbrev s_Reader_token : Stmt := inClass (top 44) 1
abbrev s_Reader_fault : Stmt := inClass (top 44) 2
abbrev s_Reader_comes : Stmt := inClass (top 44) 3
abbrev s_Reader_take : Stmt := inClass (top 44) 4
abbrev s_Reader_take_chunk_of : Stmt := inClass (top 44) 5
abbrev s_Reader_chunk : Stmt := inClass (top 44) 6
abbrev s_Reader_margin : Stmt := inClass (top 44) 7
abbrev s_Reader_word : Stmt := inClass (top 44) 8
abbrev s_Reader_pattern : Stmt := inClass (top 44) 9
abbrev s_Reader_all_words : Stmt := inClass (top 44) 10
abbrev s_Reader_all_patterns : Stmt := inClass (top 44) 11
abbrev s_Reader_listed : Stmt := inClass (top 44) 12
abbrev s_read_list : Stmt := top 45
abbrev s_signs_of : Stmt := top 47
abbrev s_steps_from : Stmt := top 48
abbrev s_ends_from : Stmt := top 49
abbrev s_put_over : Stmt := top 50
abbrev s_looked_up : Stmt := top 51
abbrev s_parted_gaps : Stmt := top 52
abbrev s_Table_init : Stmt := inClass (top 54) 0
abbrev s_Table_next_node : Stmt := inClass (top 54) 1
abbrev s_Table_way : Stmt := inClass (top 54) 2
abbrev s_Table_ends : Stmt := inClass (top 54) 3
abbrev s_Table_digits_behind : Stmt := inClass (top 54) 4
abbrev s_Table_does_tell : Stmt := inClass (top 54) 5
abbrev s_Packer_init : Stmt := inClass (top 55) 0
abbrev s_Packer_number_of : Stmt := inClass (top 55) 1
abbrev s_Packer_node_of : Stmt := inClass (top 55) 2
abbrev s_packed : Stmt := top 56
abbrev s_beginnings : Stmt := top 57
abbrev s_sizes : Stmt := top 58
abbrev s_node_told : Stmt := top 59
abbrev s_table_told : Stmt := top 60
abbrev s_translated : Stmt := top 61
abbrev s_many_kept : Stmt := top 62
abbrev s_Numbers_init : Stmt := inClass (top 66) 0
abbrev s_Numbers_some : Stmt := inClass (top 66) 1
abbrev s_Numbers_one : Stmt := inClass (top 66) 2
abbrev s_Numbers_node : Stmt := inClass (top 66) 3
abbrev s_Numbers_table : Stmt := inClass (top 66) 4
abbrev s_read_table : Stmt := top 67
abbrev s_are_edges_right : Stmt := top 68
abbrev s_is_right : Stmt := top 69
abbrev s_Refused_init : Stmt := inClass (top 75) 0
abbrev s_want : Stmt := top 76
abbrev s_want_letters : Stmt := top 77
abbrev s_Desk_init : Stmt := inClass (top 78) 0
abbrev s_Desk_load : Stmt := inClass (top 78) 1
abbrev s_Desk_counts : Stmt := inClass (top 78) 2
abbrev s_Desk_store : Stmt := inClass (top 78) 3
abbrev s_Desk_levels : Stmt := inClass (top 78) 4
abbrev s_Desk_part : Stmt := inClass (top 78) 5
abbrev s_Desk_change : Stmt := inClass (top 78) 6
abbrev s_Desk_add : Stmt := inClass (top 78) 7
abbrev s_Desk_drop : Stmt := inClass (top 78) 8
abbrev s_Desk_check : Stmt := inClass (top 78) 9
abbrev s_Desk_find : Stmt := inClass (top 78) 10
abbrev s_Desk_node : Stmt := inClass (top 78) 11
abbrev s_called : Stmt := top 83
abbrev s_answer : Stmt := top 84
abbrev s_call_at : Stmt := top 85
abbrev s_answers : Stmt := top 86
def d_Fault_init : He.DefD := ⟨("Fault", some "__init__"), "__init__", "Fault.__init__", defArgs s_Fault_init, defBody s_Fault_init, defScope s_Fault_init, [], []⟩
def d_is_letter : He.DefD := ⟨("is_letter", none), "is_letter", "is_letter", defArgs s_is_letter, defBody s_is_letter, defScope s_is_letter, [], []⟩
def d_is_digit : He.DefD := ⟨("is_digit", none), "is_digit", "is_digit", defArgs s_is_digit, defBody s_is_digit, defScope s_is_digit, [], []⟩
def d_is_of_chunk : He.DefD := ⟨("is_of_chunk", none), "is_of_chunk", "is_of_chunk", defArgs s_is_of_chunk, defBody s_is_of_chunk, defScope s_is_of_chunk, [], []⟩
def d_chunk_end : He.DefD := ⟨("chunk_end", none), "chunk_end", "chunk_end", defArgs s_chunk_end, defBody s_chunk_end, defScope s_chunk_end, [], []⟩
def d_behind_remark : He.DefD := ⟨("behind_remark", none), "behind_remark", "behind_remark", defArgs s_behind_remark, defBody s_behind_remark, defScope s_behind_remark, [], []⟩
def d_token_at : He.DefD := ⟨("token_at", none), "token_at", "token_at", defArgs s_token_at, defBody s_token_at, defScope s_token_at, [], []⟩
def d_tokens_of : He.DefD := ⟨("tokens_of", none), "tokens_of", "tokens_of", defArgs s_tokens_of, defBody s_tokens_of, defScope s_tokens_of, [], []⟩
def d_Pattern_init : He.DefD := ⟨("Pattern", some "__init__"), "__init__", "Pattern.__init__", defArgs s_Pattern_init, defBody s_Pattern_init, defScope s_Pattern_init, [], []⟩
def d_Pattern_signs : He.DefD := ⟨("Pattern", some "signs"), "signs", "Pattern.signs", defArgs s_Pattern_signs, defBody s_Pattern_signs, defScope s_Pattern_signs, [], []⟩
def d_points_of : He.DefD := ⟨("points_of", none), "points_of", "points_of", defArgs s_points_of, defBody s_points_of, defScope s_points_of, [], []⟩
def d_read_body : He.DefD := ⟨("read_body", none), "read_body", "read_body", defArgs s_read_body, defBody s_read_body, defScope s_read_body, [], []⟩
def d_read_pattern : He.DefD := ⟨("read_pattern", none), "read_pattern", "read_pattern", defArgs s_read_pattern, defBody s_read_pattern, defScope s_read_pattern, [], []⟩
def d_letters_of_word : He.DefD := ⟨("letters_of_word", none), "letters_of_word", "letters_of_word", defArgs s_letters_of_word, defBody s_letters_of_word, defScope s_letters_of_word, [], []⟩
def d_Listed_init : He.DefD := ⟨("Listed", some "__init__"), "__init__", "Listed.__init__", defArgs s_Listed_init, defBody s_Listed_init, defScope s_Listed_init, [], []⟩
def d_Listed_with_patterns : He.DefD := ⟨("Listed", some "with_patterns"), "with_patterns", "Listed.with_patterns", defArgs s_Listed_with_patterns, defBody s_Listed_with_patterns, defScope s_Listed_with_patterns, [], []⟩
def d_place_of : He.DefD := ⟨("place_of", none), "place_of", "place_of", defArgs s_place_of, defBody s_place_of, defScope s_place_of, [], []⟩
def d_Reader_init : He.DefD := ⟨("Reader", some "__init__"), "__init__", "Reader.__init__", defArgs s_Reader_init, defBody s_Reader_init, defScope s_Reader_init, [], []⟩
def d_Reader_token : He.DefD := ⟨("Reader", some "token"), "token", "Reader.token", defArgs s_Reader_token, defBody s_Reader_token, defScope s_Reader_token, [], []⟩
def d_Reader_fault : He.DefD := ⟨("Reader", some "fault"), "fault", "Reader.fault", defArgs s_Reader_fault, defBody s_Reader_fault, defScope s_Reader_fault, [], []⟩
def d_Reader_comes : He.DefD := ⟨("Reader", some "comes"), "comes", "Reader.comes", defArgs s_Reader_comes, defBody s_Reader_comes, defScope s_Reader_comes, [], []⟩
def d_Reader_take : He.DefD := ⟨("Reader", some "take"), "take", "Reader.take", defArgs s_Reader_take, defBody s_Reader_take, defScope s_Reader_take, [], []⟩
def d_Reader_take_chunk_of : He.DefD := ⟨("Reader", some "take_chunk_of"), "take_chunk_of", "Reader.take_chunk_of", defArgs s_Reader_take_chunk_of, defBody s_Reader_take_chunk_of, defScope s_Reader_take_chunk_of, [], []⟩
def d_Reader_chunk : He.DefD := ⟨("Reader", some "chunk"), "chunk", "Reader.chunk", defArgs s_Reader_chunk, defBody s_Reader_chunk, defScope s_Reader_chunk, [], []⟩
def d_Reader_margin : He.DefD := ⟨("Reader", some "margin"), "margin", "Reader.margin", defArgs s_Reader_margin, defBody s_Reader_margin, defScope s_Reader_margin, [], []⟩
def d_Reader_word : He.DefD := ⟨("Reader", some "word"), "word", "Reader.word", defArgs s_Reader_word, defBody s_Reader_word, defScope s_Reader_word, [], []⟩
def d_Reader_pattern : He.DefD := ⟨("Reader", some "pattern"), "pattern", "Reader.pattern", defArgs s_Reader_pattern, defBody s_Reader_pattern, defScope s_Reader_pattern, [], []⟩
def d_Reader_all_words : He.DefD := ⟨("Reader", some "all_words"), "all_words", "Reader.all_words", defArgs s_Reader_all_words, defBody s_Reader_all_words, defScope s_Reader_all_words, [], []⟩
def d_Reader_all_patterns : He.DefD := ⟨("Reader", some "all_patterns"), "all_patterns", "Reader.all_patterns", defArgs s_Reader_all_patterns, defBody s_Reader_all_patterns, defScope s_Reader_all_patterns, [], []⟩
def d_Reader_listed : He.DefD := ⟨("Reader", some "listed"), "listed", "Reader.listed", defArgs s_Reader_listed, defBody s_Reader_listed, defScope s_Reader_listed, [], []⟩
def d_read_list : He.DefD := ⟨("read_list", none), "read_list", "read_list", defArgs s_read_list, defBody s_read_list, defScope s_read_list, [], []⟩
def d_signs_of : He.DefD := ⟨("signs_of", none), "signs_of", "signs_of", defArgs s_signs_of, defBody s_signs_of, defScope s_signs_of, [], []⟩
def d_steps_from : He.DefD := ⟨("steps_from", none), "steps_from", "steps_from", defArgs s_steps_from, defBody s_steps_from, defScope s_steps_from, [], []⟩
def d_ends_from : He.DefD := ⟨("ends_from", none), "ends_from", "ends_from", defArgs s_ends_from, defBody s_ends_from, defScope s_ends_from, [], []⟩
def d_put_over : He.DefD := ⟨("put_over", none), "put_over", "put_over", defArgs s_put_over, defBody s_put_over, defScope s_put_over, [], []⟩
def d_looked_up : He.DefD := ⟨("looked_up", none), "looked_up", "looked_up", defArgs s_looked_up, defBody s_looked_up, defScope s_looked_up, [], []⟩
def d_parted_gaps : He.DefD := ⟨("parted_gaps", none), "parted_gaps", "parted_gaps", defArgs s_parted_gaps, defBody s_parted_gaps, defScope s_parted_gaps, [], []⟩
def d_Table_init : He.DefD := ⟨("Table", some "__init__"), "__init__", "Table.__init__", defArgs s_Table_init, defBody s_Table_init, defScope s_Table_init, [], []⟩
def d_Table_next_node : He.DefD := ⟨("Table", some "next_node"), "next_node", "Table.next_node", defArgs s_Table_next_node, defBody s_Table_next_node, defScope s_Table_next_node, [], []⟩
def d_Table_way : He.DefD := ⟨("Table", some "way"), "way", "Table.way", defArgs s_Table_way, defBody s_Table_way, defScope s_Table_way, [], []⟩
def d_Table_ends : He.DefD := ⟨("Table", some "ends"), "ends", "Table.ends", defArgs s_Table_ends, defBody s_Table_ends, defScope s_Table_ends, [], []⟩
def d_Table_digits_behind : He.DefD := ⟨("Table", some "digits_behind"), "digits_behind", "Table.digits_behind", defArgs s_Table_digits_behind, defBody s_Table_digits_behind, defScope s_Table_digits_behind, [], []⟩
def d_Table_does_tell : He.DefD := ⟨("Table", some "does_tell"), "does_tell", "Table.does_tell", defArgs s_Table_does_tell, defBody s_Table_does_tell, defScope s_Table_does_tell, [], []⟩
def d_Packer_init : He.DefD := ⟨("Packer", some "__init__"), "__init__", "Packer.__init__", defArgs s_Packer_init, defBody s_Packer_init, defScope s_Packer_init, [], []⟩
def d_Packer_number_of : He.DefD := ⟨("Packer", some "number_of"), "number_of", "Packer.number_of", defArgs s_Packer_number_of, defBody s_Packer_number_of, defScope s_Packer_number_of, [], []⟩
def d_Packer_node_of : He.DefD := ⟨("Packer", some "node_of"), "node_of", "Packer.node_of", defArgs s_Packer_node_of, defBody s_Packer_node_of, defScope s_Packer_node_of, [], []⟩
def d_packed : He.DefD := ⟨("packed", none), "packed", "packed", defArgs s_packed, defBody s_packed, defScope s_packed, [], []⟩
def d_beginnings : He.DefD := ⟨("beginnings", none), "beginnings", "beginnings", defArgs s_beginnings, defBody s_beginnings, defScope s_beginnings, [], []⟩
def d_sizes : He.DefD := ⟨("sizes", none), "sizes", "sizes", defArgs s_sizes, defBody s_sizes, defScope s_sizes, [], []⟩
def d_node_told : He.DefD := ⟨("node_told", none), "node_told", "node_told", defArgs s_node_told, defBody s_node_told, defScope s_node_told, [], []⟩
def d_table_told : He.DefD := ⟨("table_told", none), "table_told", "table_told", defArgs s_table_told, defBody s_table_told, defScope s_table_told, [], []⟩
def d_translated : He.DefD := ⟨("translated", none), "translated", "translated", defArgs s_translated, defBody s_translated, defScope s_translated, [], []⟩
def d_many_kept : He.DefD := ⟨("many_kept", none), "many_kept", "many_kept", defArgs s_many_kept, defBody s_many_kept, defScope s_many_kept, [], []⟩
def d_Numbers_init : He.DefD := ⟨("Numbers", some "__init__"), "__init__", "Numbers.__init__", defArgs s_Numbers_init, defBody s_Numbers_init, defScope s_Numbers_init, [], []⟩
def d_Numbers_some : He.DefD := ⟨("Numbers", some "some"), "some", "Numbers.some", defArgs s_Numbers_some, defBody s_Numbers_some, defScope s_Numbers_some, [], []⟩
def d_Numbers_one : He.DefD := ⟨("Numbers", some "one"), "one", "Numbers.one", defArgs s_Numbers_one, defBody s_Numbers_one, defScope s_Numbers_one, [], []⟩
def d_Numbers_node : He.DefD := ⟨("Numbers", some "node"), "node", "Numbers.node", defArgs s_Numbers_node, defBody s_Numbers_node, defScope s_Numbers_node, [], []⟩
def d_Numbers_table : He.DefD := ⟨("Numbers", some "table"), "table", "Numbers.table", defArgs s_Numbers_table, defBody s_Numbers_table, defScope s_Numbers_table, [], []⟩
def d_read_table : He.DefD := ⟨("read_table", none), "read_table", "read_table", defArgs s_read_table, defBody s_read_table, defScope s_read_table, [], []⟩
def d_are_edges_right : He.DefD := ⟨("are_edges_right", none), "are_edges_right", "are_edges_right", defArgs s_are_edges_right, defBody s_are_edges_right, defScope s_are_edges_right, [], []⟩
def d_is_right : He.DefD := ⟨("is_right", none), "is_right", "is_right", defArgs s_is_right, defBody s_is_right, defScope s_is_right, [], []⟩
def d_Refused_init : He.DefD := ⟨("Refused", some "__init__"), "__init__", "Refused.__init__", defArgs s_Refused_init, defBody s_Refused_init, defScope s_Refused_init, [], []⟩
def d_want : He.DefD := ⟨("want", none), "want", "want", defArgs s_want, defBody s_want, defScope s_want, [], []⟩
def d_want_letters : He.DefD := ⟨("want_letters", none), "want_letters", "want_letters", defArgs s_want_letters, defBody s_want_letters, defScope s_want_letters, [], []⟩
def d_Desk_init : He.DefD := ⟨("Desk", some "__init__"), "__init__", "Desk.__init__", defArgs s_Desk_init, defBody s_Desk_init, defScope s_Desk_init, [], []⟩
def d_Desk_load : He.DefD := ⟨("Desk", some "load"), "load", "Desk.load", defArgs s_Desk_load, defBody s_Desk_load, defScope s_Desk_load, [], []⟩
def d_Desk_counts : He.DefD := ⟨("Desk", some "counts"), "counts", "Desk.counts", defArgs s_Desk_counts, defBody s_Desk_counts, defScope s_Desk_counts, [], []⟩
def d_Desk_store : He.DefD := ⟨("Desk", some "store"), "store", "Desk.store", defArgs s_Desk_store, defBody s_Desk_store, defScope s_Desk_store, [], []⟩
def d_Desk_levels : He.DefD := ⟨("Desk", some "levels"), "levels", "Desk.levels", defArgs s_Desk_levels, defBody s_Desk_levels, defScope s_Desk_levels, [], []⟩
def d_Desk_part : He.DefD := ⟨("Desk", some "part"), "part", "Desk.part", defArgs s_Desk_part, defBody s_Desk_part, defScope s_Desk_part, [], []⟩
def d_Desk_change : He.DefD := ⟨("Desk", some "change"), "change", "Desk.change", defArgs s_Desk_change, defBody s_Desk_change, defScope s_Desk_change, [], []⟩
def d_Desk_add : He.DefD := ⟨("Desk", some "add"), "add", "Desk.add", defArgs s_Desk_add, defBody s_Desk_add, defScope s_Desk_add, [], []⟩
def d_Desk_drop : He.DefD := ⟨("Desk", some "drop"), "drop", "Desk.drop", defArgs s_Desk_drop, defBody s_Desk_drop, defScope s_Desk_drop, [], []⟩
def d_Desk_check : He.DefD := ⟨("Desk", some "check"), "check", "Desk.check", defArgs s_Desk_check, defBody s_Desk_check, defScope s_Desk_check, [], []⟩
def d_Desk_find : He.DefD := ⟨("Desk", some "find"), "find", "Desk.find", defArgs s_Desk_find, defBody s_Desk_find, defScope s_Desk_find, [], []⟩
def d_Desk_node : He.DefD := ⟨("Desk", some "node"), "node", "Desk.node", defArgs s_Desk_node, defBody s_Desk_node, defScope s_Desk_node, [], []⟩
def d_called : He.DefD := ⟨("called", none), "called", "called", defArgs s_called, defBody s_called, defScope s_called, [], []⟩
def d_answer : He.DefD := ⟨("answer", none), "answer", "answer", defArgs s_answer, defBody s_answer, defScope s_answer, [], []⟩
def d_call_at : He.DefD := ⟨("call_at", none), "call_at", "call_at", defArgs s_call_at, defBody s_call_at, defScope s_call_at, [], []⟩
def d_answers : He.DefD := ⟨("answers", none), "answers", "answers", defArgs s_answers, defBody s_answers, defScope s_answers, [], []⟩
def fnL : List He.DefD := [d_Fault_init, d_is_letter, d_is_digit, d_is_of_chunk, d_chunk_end, d_behind_remark, d_token_at, d_tokens_of, d_Pattern_init, d_Pattern_signs, d_points_of, d_read_body, d_read_pattern, d_letters_of_word, d_Listed_init, d_Listed_with_patterns, d_place_of, d_Reader_init, d_Reader_token, d_Reader_fault, d_Reader_comes, d_Reader_take, d_Reader_take_chunk_of, d_Reader_chunk, d_Reader_margin, d_Reader_word, d_Reader_pattern, d_Reader_all_words, d_Reader_all_patterns, d_Reader_listed, d_read_list, d_signs_of, d_steps_from, d_ends_from, d_put_over, d_looked_up, d_parted_gaps, d_Table_init, d_Table_next_node, d_Table_way, d_Table_ends, d_Table_digits_behind, d_Table_does_tell, d_Packer_init, d_Packer_number_of, d_Packer_node_of, d_packed, d_beginnings, d_sizes, d_node_told, d_table_told, d_translated, d_many_kept, d_Numbers_init, d_Numbers_some, d_Numbers_one, d_Numbers_node, d_Numbers_table, d_read_table, d_are_edges_right, d_is_right, d_Refused_init, d_want, d_want_letters, d_Desk_init, d_Desk_load, d_Desk_counts, d_Desk_store, d_Desk_levels, d_Desk_part, d_Desk_change, d_Desk_add, d_Desk_drop, d_Desk_check, d_Desk_find, d_Desk_node, d_called, d_answer, d_call_at, d_answers]
def faL : List He.Fa := [.str "CHUNK" "chunk",
  .str "STOP" "stop",
  .str "END" "end",
  .glo "BLANKS",
  .int "REMARK" (35),
  .int "LINE_END" (10),
  .int "STOP_BYTE" (59),
  .int "DASH" (45),
  .int "POINT" (46),
  .int "LONGEST" (40),
  .int "MOST_BYTES" (4096),
  .int "TOO_LONG" (1),
  .int "NO_TOKEN" (2),
  .glo "Fault",
  .meth "Fault" "__init__",
  .noat "Fault" "code",
  .noat "Fault" "place",
  .keep "Fault",
  .exm "Fault" "Fault" true,
  .glo "is_letter",
  .glo "is_digit",
  .glo "is_of_chunk",
  .glo "chunk_end",
  .glo "behind_remark",
  .glo "token_at",
  .glo "tokens_of",
  .int "NOT_ALLOWED" (3),
  .int "TOO_MANY" (4),
  .int "AGAIN" (5),
  .int "NOT_SO" (7),
  .str "MARGINS" "margins",
  .str "WORD" "word",
  .str "PATTERN" "pattern",
  .int "MOST_MARGIN" (5),
  .int "MOST_WORDS" (24),
  .int "MOST_PATTERNS" (40),
  .int "LEAST_LETTERS" (2),
  .int "MOST_LETTERS" (16),
  .int "MOST_OF_PATTERN" (6),
  .int "ZERO" (48),
  .glo "Pattern",
  .meth "Pattern" "__init__",
  .meth "Pattern" "signs",
  .noat "Pattern" "front",
  .noat "Pattern" "letters",
  .noat "Pattern" "end",
  .noat "Pattern" "digits",
  .cls "Pattern",
  .mkr "Pattern",
  .glo "points_of",
  .glo "read_body",
  .glo "read_pattern",
  .glo "letters_of_word",
  .glo "Listed",
  .meth "Listed" "__init__",
  .meth "Listed" "with_patterns",
  .noat "Listed" "left",
  .noat "Listed" "right",
  .noat "Listed" "many_words",
  .noat "Listed" "patterns",
  .cls "Listed",
  .mkr "Listed",
  .glo "place_of",
  .glo "Reader",
  .meth "Reader" "__init__",
  .meth "Reader" "token",
  .meth "Reader" "fault",
  .meth "Reader" "comes",
  .meth "Reader" "take",
  .meth "Reader" "take_chunk_of",
  .meth "Reader" "chunk",
  .meth "Reader" "margin",
  .meth "Reader" "word",
  .meth "Reader" "pattern",
  .meth "Reader" "all_words",
  .meth "Reader" "all_patterns",
  .meth "Reader" "listed",
  .noat "Reader" "tokens",
  .noat "Reader" "at",
  .cls "Reader",
  .mkr "Reader",
  .glo "read_list",
  .glo "signs_of",
  .glo "steps_from",
  .glo "ends_from",
  .glo "put_over",
  .glo "looked_up",
  .glo "parted_gaps",
  .glo "Table",
  .meth "Table" "__init__",
  .meth "Table" "next_node",
  .meth "Table" "way",
  .meth "Table" "ends",
  .meth "Table" "digits_behind",
  .meth "Table" "does_tell",
  .noat "Table" "nodes",
  .noat "Table" "first",
  .cls "Table",
  .mkr "Table",
  .glo "Packer",
  .meth "Packer" "__init__",
  .meth "Packer" "number_of",
  .meth "Packer" "node_of",
  .noat "Packer" "nodes",
  .cls "Packer",
  .mkr "Packer",
  .glo "packed",
  .glo "beginnings",
  .glo "sizes",
  .glo "node_told",
  .glo "table_told",
  .glo "translated",
  .glo "many_kept",
  .int "MOST_NODES" (300),
  .glo "NotTold",
  .keep "NotTold",
  .exm "NotTold" "NotTold" true,
  .exc "NotTold",
  .glo "Numbers",
  .meth "Numbers" "__init__",
  .meth "Numbers" "some",
  .meth "Numbers" "one",
  .meth "Numbers" "node",
  .meth "Numbers" "table",
  .noat "Numbers" "row",
  .noat "Numbers" "at",
  .cls "Numbers",
  .mkr "Numbers",
  .glo "read_table",
  .glo "are_edges_right",
  .glo "is_right",
  .int "NO_LIST" (-1),
  .int "NONE" (-2),
  .int "BAD" (-4),
  .int "FULL" (-7),
  .glo "Refused",
  .meth "Refused" "__init__",
  .noat "Refused" "refusal",
  .keep "Refused",
  .exm "Refused" "Refused" true,
  .glo "want",
  .glo "want_letters",
  .glo "Desk",
  .meth "Desk" "__init__",
  .meth "Desk" "load",
  .meth "Desk" "counts",
  .meth "Desk" "store",
  .meth "Desk" "levels",
  .meth "Desk" "part",
  .meth "Desk" "change",
  .meth "Desk" "add",
  .meth "Desk" "drop",
  .meth "Desk" "check",
  .meth "Desk" "find",
  .meth "Desk" "node",
  .noat "Desk" "held",
  .noat "Desk" "packed",
  .cls "Desk",
  .mkr "Desk",
  .glo "WITH_NUMBER",
  .glo "WITH_LIST",
  .int "LOAD" (0),
  .glo "called",
  .glo "answer",
  .glo "call_at",
  .glo "answers",
  .free "len",
  .free "range",
  .free "sorted",
  .free "set",
  .free "sum",
  .free "max",
  .free "min",
  .free "all",
  .free "any",
  .free "int",
  .free "tuple",
  .free "list",
  .free "enumerate",
  .free "zip",
  .free "ord",
  .free "ValueError"]
def names0 : List PySem.Str := ["CHUNK", "STOP", "END", "BLANKS", "REMARK", "LINE_END", "STOP_BYTE", "DASH", "POINT", "LONGEST", "MOST_BYTES", "TOO_LONG", "NO_TOKEN", "Fault", "is_letter", "is_digit", "is_of_chunk", "chunk_end", "behind_remark", "token_at", "tokens_of", "NOT_ALLOWED", "TOO_MANY", "AGAIN", "NOT_SO", "MARGINS", "WORD", "PATTERN", "MOST_MARGIN", "MOST_WORDS"]
def names1 : List PySem.Str := ["MOST_PATTERNS", "LEAST_LETTERS", "MOST_LETTERS", "MOST_OF_PATTERN", "ZERO", "Pattern", "points_of", "read_body", "read_pattern", "letters_of_word", "Listed", "place_of", "Reader", "read_list", "signs_of", "steps_from", "ends_from", "put_over", "looked_up", "parted_gaps", "Table", "Packer", "packed", "beginnings", "sizes", "node_told", "table_told", "translated", "many_kept", "MOST_NODES"]
def names2 : List PySem.Str := ["NotTold", "Numbers", "read_table", "are_edges_right", "is_right", "NO_LIST", "NONE", "BAD", "FULL", "Refused", "want", "want_letters", "Desk", "WITH_NUMBER", "WITH_LIST", "LOAD", "called", "answer", "call_at"]
def names : List PySem.Str := names0 ++ names1 ++ names2
/-- the class object of an own exception class over ValueError with an __init__ of its own -/
def oexB (K : PySem.W.Frag) (C : Addr) : Bool := match K.lookup C with
  | some ⟨.type t, _, .cls cd, sl⟩ => decide (t = "type") && (cd.hasDict && (!cd.hasDel && ((match cd.mro with
    | .ref c :: bm => decide (c = C) && PySem.HandSPX.refsVE bm
    | _ => false) && (match sl.toList with
    | [_, _, _, _, some (.builtin n), _] => decide (n = "ValueError.__new__")
    | _ => false))))
  | _ => false
def oexAll (K : PySem.W.Frag) (x : Str) : Bool := oexB K (He.ga K x) && (He.eqO (PySem.W.findIn K (.ref (He.ga K x)) "__setattr__") (some (some (.builtin "object.__setattr__"))) && (decide (PySem.W.subIn K (.ref (He.ga K x)) (.type "BaseException") = some true) && (decide (PySem.W.typeIn K (.ref (He.ga K x)) = some (.type "type")) && (xfB K (He.ga K x) && decide (PySem.W.typeIn K (.ref (He.ma K (He.ga K x) "__init__")) = some (.type "function"))))))
def initB (K : PySem.W.Frag) : Bool := match PySem.W.findCls K (.type "ValueError") (.type "type") "__init__" with
  | some (.val (.builtin n)) => decide (n = "ValueError.__init__")
  | _ => false
def exF (K : PySem.W.Frag) : Bool := oexAll K "Fault" && (oexAll K "Refused" && (He.tupB K "BLANKS" [.int 32, .int 9, .int 10] && (He.tupB K "WITH_NUMBER" [.int 6, .int 9] && (He.tupB K "WITH_LIST" [.int 0, .int 3, .int 4, .int 5, .int 7, .int 8] && (initB K)))))
end Pt
set_option maxHeartbeats 0
/-! The top's run, in two looks at its end (each within less memory than both at once). -/
namespace Pt
open PySem PySem.W PySem.Calls PyProof.Rows
abbrev RR : OpenSpec := PySem.Challenge.rw_patterntables_s01_answers
abbrev qv : Program := view RR.prog [86]
abbrev hk : PySem.W.Hook := He.hookX 4 faL fnL [] [] exF
def ob (s : PySem.W.SharedT) : He.AlX := He.obsX 4 faL fnL [] [] exF (HandSHeadRun.getT s)
theorem ob_eq (s : PySem.W.SharedT) : ob s = hk.obs s.abs := He.obsX_eq (HandSHeadRun.getT_eq s)
theorem run_looks (w : World) (os : OsState) : (HandSHeadRun.endF (HandSHeadRun.stepQ (HandSHeadRun.denQ HandSHeadRun.tabQ) RR.prog w) 6000 RR.prog w os).map (fun s => (HandSHeadRun.looksF RR.prog (boot_heap w.params) s.abs, HandSHeadRun.seenQ qv names (importedModules RR.prog.main.body) (fun s => xlAt qv [] s && recOk [] s) s.abs)) = some (true, openGood qv names) := by
  kernel_rfl
theorem run_obs (w : World) (os : OsState) : (HandSHeadRun.endF (HandSHeadRun.stepQ (HandSHeadRun.denQ HandSHeadRun.tabQ) RR.prog w) 6000 RR.prog w os).map (fun s => ob s) = some (hk.val w) := by
  kernel_rfl
theorem run (w : World) : HandSHeadRun.RunEqS RR qv hk ob 6000 names w := by
  intro os
  have a := run_looks w os
  have b := run_obs w os
  revert a b
  generalize HandSHeadRun.endF (HandSHeadRun.stepQ (HandSHeadRun.denQ HandSHeadRun.tabQ) RR.prog w) 6000 RR.prog w os = o
  intro a b
  cases o with
  | none => cases a
  | some s =>
    have e1 := Prod.mk.inj (Option.some.inj a)
    have e2 : ob s = hk.val w := Option.some.inj b
    show some (_, _, _) = some (_, _, _)
    rw [e1.1, e1.2, e2]
end Pt
set_option maxHeartbeats 2100000
/-! A calculus over the hand layer: values that stand for data, a frozen part G of the heap H, judgements of expressions, tests, arguments, statements. -/
namespace Q
open L2 PySem PySem.Spec PyProof.Rows

/-! ### predicates of values, steady as the heap grows -/
structure VP where
  p : V → Hp → Prop
  up : ∀ {v : V} {H H' : Hp}, Same H H' → p v H → p v H'
abbrev AllP (Ps : List VP) (xs : List V) (H : Hp) : Prop := Paired (fun (P : VP) (x : V) => P.p x H) Ps xs
theorem allP_up {Ps : List VP} {xs : List V} {H H' : Hp} (s : Same H H') (h : AllP Ps xs H) : AllP Ps xs H' := Paired.mapP h fun P x q => P.up s q
theorem paired_at {α β : Type} {F : α → β → Prop} {l : List α} {m : List β} (h : Paired F l m) : ∀ {i : Nat} {a : α}, l[i]? = some a → ∃ b, m[i]? = some b ∧ F a b := by
  induction h with
  | nil => intro i a e; cases e
  | cons r t ih =>
    intro i a e
    cases i with
    | zero => cases e; exact ⟨_, rfl, r⟩
    | succ i => exact ih e
theorem paired_at' {α β : Type} {F : α → β → Prop} {l : List α} {m : List β} (h : Paired F l m) : ∀ {i : Nat} {b : β}, m[i]? = some b → ∃ a, l[i]? = some a ∧ F a b := by
  induction h with
  | nil => intro i a e; cases e
  | cons r t ih =>
    intro i a e
    cases i with
    | zero => cases e; exact ⟨_, rfl, r⟩
    | succ i => exact ih e
theorem paired_app {α β : Type} {F : α → β → Prop} {l : List α} {m : List β} (h : Paired F l m) {l' : List α} {m' : List β} (h' : Paired F l' m') : Paired F (l ++ l') (m ++ m') := by
  induction h with
  | nil => exact h'
  | cons r t ih => exact .cons r ih
theorem paired_drop {α β : Type} {F : α → β → Prop} : ∀ {l : List α} {m : List β} (n : Nat), Paired F l m → Paired F (l.drop n) (m.drop n)
  | _, _, 0, h => h
  | _, _, _ + 1, .nil => .nil
  | _, _, n + 1, .cons _ t => paired_drop n t
theorem paired_take {α β : Type} {F : α → β → Prop} : ∀ {l : List α} {m : List β} (n : Nat), Paired F l m → Paired F (l.take n) (m.take n)
  | _, _, 0, _ => .nil
  | _, _, _ + 1, .nil => .nil
  | _, _, n + 1, .cons r t => .cons r (paired_take n t)
theorem paired_set {α β : Type} {F : α → β → Prop} {x : α} {y : β} (r : F x y) : ∀ {l : List α} {m : List β} (n : Nat), Paired F l m → Paired F (l.set n x) (m.set n y)
  | _, _, _, .nil => .nil
  | _, _, 0, .cons _ tl => .cons r tl
  | _, _, n + 1, .cons q t => .cons q (paired_set r n t)
theorem paired_one {α β : Type} {F : α → β → Prop} {a : α} {m : List β} (h : Paired F [a] m) : ∃ b, m = [b] ∧ F a b := by
  cases h with
  | cons r t => cases t; exact ⟨_, rfl, r⟩
theorem paired_two {α β : Type} {F : α → β → Prop} {a a' : α} {m : List β} (h : Paired F [a, a'] m) : ∃ b b', m = [b, b'] ∧ F a b ∧ F a' b' := by
  cases h with
  | cons r t => obtain ⟨b, rfl, q⟩ := paired_one t; exact ⟨_, _, rfl, r, q⟩
theorem paired_rep {α β : Type} {F : α → β → Prop} {a : α} {b : β} (r : F a b) : ∀ n, Paired F (List.replicate n a) (List.replicate n b)
  | 0 => .nil
  | n + 1 => .cons r (paired_rep r n)
theorem paired_flat {α β : Type} {F : α → β → Prop} {l : List α} {m : List β} (h : Paired F l m) : ∀ n, Paired F (List.replicate n l).flatten (List.replicate n m).flatten
  | 0 => .nil
  | n + 1 => paired_app h (paired_flat h n)

/-- just this value -/
def isV (v : V) : VP := ⟨fun x _ => x = v, fun _ h => h⟩
abbrev isI (i : Int) : VP := isV (.int i)
abbrev isB (b : Bool) : VP := isV (.bl b)
abbrev isS (s : Str) : VP := isV (.str s)
abbrev isN : VP := isV .non
theorem same_sqL {K : PySem.W.Frag} {H H' : Hp} {a : Addr} {xs : List V} (e : Same H H') (h : SqL K H a xs) : SqL K H' a xs := Same.seq e h
theorem same_sqT {K : PySem.W.Frag} {H H' : Hp} {a : Addr} {xs : List V} (e : Same H H') (h : SqT K H a xs) : SqT K H' a xs := by
  rcases h with h | h
  · rcases h with h | ⟨o, h⟩
    · exact .inl (.inl (e _ _ h))
    · (exact .inl (.inr ⟨o, e _ _ h⟩))
  · exact .inr h
/-- a list, a tuple of these; an instance with these fields -/
def isL (Ps : List VP) : VP := ⟨fun v H => ∃ a xs, v = .ref a ∧ H a = some (.lst xs) ∧ AllP Ps xs H, fun s ⟨a, xs, e, q, h⟩ => ⟨a, xs, e, s _ _ q, allP_up s h⟩⟩
def isT (Ps : List VP) : VP := ⟨fun v H => ∃ a xs, v = .ref a ∧ H a = some (.tup xs) ∧ AllP Ps xs H, fun s ⟨a, xs, e, q, h⟩ => ⟨a, xs, e, s _ _ q, allP_up s h⟩⟩
/-- a list that may be another's (what is handed in): read alone -/
def isQ (K : PySem.W.Frag) (Ps : List VP) : VP := ⟨fun v H => ∃ a xs, v = .ref a ∧ SqL K H a xs ∧ AllP Ps xs H, fun s ⟨a, xs, e, q, h⟩ => ⟨a, xs, e, same_sqL s q, allP_up s h⟩⟩
/-- a tuple of the module's own -/
def isK (K : PySem.W.Frag) (Ps : List VP) : VP := ⟨fun v H => ∃ a xs, v = .ref a ∧ SqT K H a xs ∧ AllP Ps xs H, fun s ⟨a, xs, e, q, h⟩ => ⟨a, xs, e, same_sqT s q, allP_up s h⟩⟩
/-- anything -/
def isAny : VP := ⟨fun _ _ => True, fun _ h => h⟩
abbrev Fs := List (Str × VP)
abbrev FldP (fs : Fs) (vs : List (Str × V)) (H : Hp) : Prop := Paired (fun (f : Str × VP) (x : Str × V) => x.1 = f.1 ∧ f.2.p x.2 H) fs vs
theorem fldP_up {fs : Fs} {vs : List (Str × V)} {H H' : Hp} (s : Same H H') (h : FldP fs vs H) : FldP fs vs H' := Paired.mapP h fun P x q => ⟨q.1, P.2.up s q.2⟩
def isO (C : Addr) (fs : Fs) : VP := ⟨fun v H => ∃ a dx vs, v = .ref a ∧ H a = some (.ins C dx vs) ∧ FldP fs vs H, fun s ⟨a, dx, vs, e, q, h⟩ => ⟨a, dx, vs, e, s _ _ q, fldP_up s h⟩⟩
/-- one or the other, by what is known -/
def orV (P P' : VP) : VP := ⟨fun v H => P.p v H ∨ P'.p v H, fun s h => h.elim (fun h => .inl (P.up s h)) fun h => .inr (P'.up s h)⟩
theorem fld_look {fs : Fs} {vs : List (Str × V)} {H : Hp} (h : FldP fs vs H) {f : Str} {P : VP} : fs.lookup f = some P → ∃ v, vs.lookup f = some v ∧ P.p v H := by
  induction h with
  | nil => intro e; cases e
  | @cons a b l m r t ih =>
    intro e
    obtain ⟨k, P'⟩ := a
    obtain ⟨k', v⟩ := b
    obtain ⟨rfl, r2⟩ := r
    have e1 : (match f == k' with | true => some P' | false => l.lookup f) = some P := e
    show ∃ v_1, (match f == k' with | true => some v | false => m.lookup f) = some v_1 ∧ _
    cases q : f == k' with
    | true => rw [q] at e1; cases e1; exact ⟨v, rfl, r2⟩
    | false => rw [q] at e1; exact ih e1
theorem fld_none {fs : Fs} {vs : List (Str × V)} {H : Hp} (h : FldP fs vs H) {f : Str} : fs.lookup f = none → vs.lookup f = none := by
  induction h with
  | nil => intro _; rfl
  | @cons a b l m r t ih =>
    intro e
    obtain ⟨k, P'⟩ := a
    obtain ⟨k', v⟩ := b
    obtain ⟨rfl, r2⟩ := r
    have e1 : (match f == k' with | true => some P' | false => l.lookup f) = none := e
    show (match f == k' with | true => some v | false => m.lookup f) = none
    cases q : f == k' with
    | true => rw [q] at e1; cases e1
    | false => rw [q] at e1; exact ih e1
def putP (f : Str) (P : VP) : Fs → Fs
  | [] => [(f, P)]
  | (g, x) :: r => if g = f then (g, P) :: r else (g, x) :: putP f P r
theorem fld_put {fs : Fs} {vs : List (Str × V)} {H : Hp} (h : FldP fs vs H) {f : Str} {P : VP} {v : V} (q : P.p v H) : FldP (putP f P fs) (putF f v vs) H := by
  induction h with
  | nil => exact .cons ⟨rfl, q⟩ .nil
  | @cons a b l m r t ih =>
    obtain ⟨k, P'⟩ := a
    obtain ⟨k', w⟩ := b
    obtain ⟨rfl, r2⟩ := r
    show FldP (if k' = f then (k', P) :: l else (k', P') :: putP f P l) (if k' = f then (k', v) :: m else (k', w) :: putF f v m) H
    by_cases e : k' = f
    · rw [if_pos e, if_pos e]; exact .cons ⟨rfl, q⟩ t
    · rw [if_neg e, if_neg e]; exact .cons ⟨rfl, r2⟩ ih

/-! ### how heaps grow: G the frozen part of H; the addresses in M may change -/
structure Gw (M : List Addr) (G H G' H' : Hp) : Prop where
  g : Same G G'
  h : ∀ b o, b ∉ M → H b = some o → H' b = some o
  i : Same G' H'
  n : ∀ a, G a = none → H a ≠ none → G' a = none
  t : ∀ a, H a ≠ none → H' a ≠ none
theorem Gw.refl {M : List Addr} {G H : Hp} (i : Same G H) : Gw M G H G H := ⟨Same.refl _, fun _ _ _ h => h, i, fun _ h _ => h, fun _ h => h⟩
theorem Gw.same {G H G' H' : Hp} (w : Gw [] G H G' H') : Same H H' := fun b o h => w.h b o (List.not_mem_nil) h
theorem Gw.trans' {M M' : List Addr} {G H G1 H1 G2 H2 : Hp} (a : Gw M G H G1 H1) (b : Gw M' G1 H1 G2 H2) (hM : ∀ x ∈ M', x ∈ M ∨ H x = none) : Gw M G H G2 H2 where
  g := Same.trans a.g b.g
  h := fun x o hx e => b.h x o (fun hm => (hM x hm).elim hx fun q => by rw [q] at e; cases e) (a.h x o hx e)
  i := b.i
  n := fun x h1 h2 => b.n x (a.n x h1 h2) (a.t x h2)
  t := fun x h => b.t x (a.t x h)
theorem Gw.trans {M : List Addr} {G H G1 H1 G2 H2 : Hp} (a : Gw M G H G1 H1) (b : Gw [] G1 H1 G2 H2) : Gw M G H G2 H2 := a.trans' b fun _ h => absurd h (List.not_mem_nil)
theorem Gw.new {M : List Addr} {G H : Hp} {p : Addr} {o : HO} (i : Same G H) (hp : H p = none) : Gw M G H (upd G p o) (upd H p o) := by
  have gp : G p = none := by
    cases e : G p with
    | none => rfl
    | some u => rw [i _ _ e] at hp; cases hp
  have nw : ∀ (F : Hp), F p = none → Same F (upd F p o) := fun F hF b u e => by
    have hb : b ≠ p := fun z => by rw [z, hF] at e; cases e
    rw [upd_ne hb]; exact e
  refine ⟨nw G gp, fun b u _ e => nw H hp b u e, fun b u e => ?_, fun a h1 h2 => ?_, fun a h => ?_⟩
  · by_cases hb : b = p
    · subst hb; rw [upd_same] at e; rw [upd_same]; exact e
    · rw [upd_ne hb] at e; rw [upd_ne hb]; exact i _ _ e
  · have ha : a ≠ p := fun z => h2 (by rw [z]; exact hp)
    rw [upd_ne ha]; exact h1
  · by_cases ha : a = p
    · subst ha; rw [upd_same]; exact fun z => nomatch z
    · rw [upd_ne ha]; exact h
/-- a new object that stays ours: not frozen -/
theorem Gw.own {M : List Addr} {G H : Hp} {p : Addr} {o : HO} (i : Same G H) (hp : H p = none) : Gw M G H G (upd H p o) := by
  refine ⟨Same.refl _, fun b u _ e => ?_, fun b u e => ?_, fun a h1 _ => h1, fun a h => ?_⟩
  · have hb : b ≠ p := fun z => by rw [z, hp] at e; cases e
    rw [upd_ne hb]; exact e
  · have q := i _ _ e
    have hb : b ≠ p := fun z => by rw [z, hp] at q; cases q
    rw [upd_ne hb]; exact q
  · by_cases ha : a = p
    · subst ha; rw [upd_same]; exact fun z => nomatch z
    · rw [upd_ne ha]; exact h
/-- an object of ours changes -/
theorem Gw.mut {G H : Hp} {p : Addr} {o : HO} (i : Same G H) (gp : G p = none) : Gw [p] G H G (upd H p o) := by
  refine ⟨Same.refl _, fun b u hb e => ?_, fun b u e => ?_, fun a h1 _ => h1, fun a h => ?_⟩
  · rw [upd_ne fun z => hb (by rw [z]; exact List.mem_singleton_self _)]; exact e
  · have hb : b ≠ p := fun z => by rw [z, gp] at e; cases e
    rw [upd_ne hb]; exact i _ _ e
  · by_cases ha : a = p
    · subst ha; rw [upd_same]; exact fun z => nomatch z
    · rw [upd_ne ha]; exact h

/-! ### assertions -/
structure As where
  p : L2.St → Hp → Hp → Prop
  st : ∀ {σ : L2.St} {G H G' H' : Hp}, Same G H → p σ G H → Gw [] G H G' H' → p σ G' H'
def As.no : As := ⟨fun _ _ _ => False, fun _ h _ => h⟩
def As.ex {ι : Type} (I : ι → As) : As := ⟨fun σ G H => ∃ i, (I i).p σ G H, fun s ⟨i, h⟩ w => ⟨i, (I i).st s h w⟩⟩
def As.andP (φ : Prop) (A : As) : As := ⟨fun σ G H => φ ∧ A.p σ G H, fun s h w => ⟨h.1, A.st s h.2 w⟩⟩
def As.le (A B : As) : Prop := ∀ σ G H, Same G H → A.p σ G H → B.p σ G H
theorem As.le.refl {A : As} : A.le A := fun _ _ _ _ h => h
theorem As.le.of_eq {A B : As} (h : A = B) : A.le B := h ▸ .refl
/-- behind an evaluation; fr: nothing of the caller's has changed -/
structure Po (fr : Prop) (A' : As) (σ : L2.St) (G H G' H' : Hp) : Prop where
  g : Same G G'
  i : Same G' H'
  a : A'.p σ G' H'
  f : fr → Gw [] G H G' H'
theorem Po.of {fr : Prop} {A : As} {σ : L2.St} {G H G' H' : Hp} (s : Same G H) (a : A.p σ G H) (w : Gw [] G H G' H') : Po fr A σ G H G' H' := ⟨w.g, w.i, A.st s a w, fun _ => w⟩
theorem Po.refl {fr : Prop} {A : As} {σ : L2.St} {G H : Hp} (s : Same G H) (a : A.p σ G H) : Po fr A σ G H G H := ⟨Same.refl _, s, a, fun _ => Gw.refl s⟩
theorem Po.trans {fr : Prop} {A1 A2 : As} {σ : L2.St} {G H G1 H1 G2 H2 : Hp} (a : Po fr A1 σ G H G1 H1) (b : Po fr A2 σ G1 H1 G2 H2) : Po fr A2 σ G H G2 H2 := ⟨Same.trans a.g b.g, b.i, b.a, fun h => (a.f h).trans (b.f h)⟩
theorem Po.then {fr : Prop} {A1 : As} {σ : L2.St} {G H G1 H1 G2 H2 : Hp} (a : Po fr A1 σ G H G1 H1) (w : Gw [] G1 H1 G2 H2) : Po fr A1 σ G H G2 H2 := a.trans (Po.of a.i a.a w)

/-! ### judgements -/
def jE (fr : Prop) (A : As) (P : VP) (A' : As) : TE := fun σ H Q => ∃ G, Same G H ∧ A.p σ G H ∧ ∀ v G' H', Po fr A' σ G H G' H' → P.p v G' → Q v H'
def jT (fr : Prop) (A : As) (b : Bool) (A' : As) : TT := fun σ H Q => ∃ G, Same G H ∧ A.p σ G H ∧ ∀ G' H', Po fr A' σ G H G' H' → Q b H'
def jA (fr : Prop) (A : As) (Ps : List VP) (A' : As) : TA := fun σ H Q => ∃ G, Same G H ∧ A.p σ G H ∧ ∀ vs G' H', Po fr A' σ G H G' H' → AllP Ps vs G' → Q vs H'
abbrev Je (fr : Prop) (X : Cx) (A : As) (e : Expr) (P : VP) (A' : As) : Prop := PE X e (jE fr A P A')
abbrev Jt (fr : Prop) (X : Cx) (A : As) (e : Expr) (b : Bool) (A' : As) : Prop := PT X e (jT fr A b A')
abbrev Jw (fr : Prop) (X : Cx) (A : As) (e : Expr) (b : Bool) (A' : As) : Prop := PW X e (jT fr A b A')
abbrev Ja (fr : Prop) (X : Cx) (A : As) (es : List Expr) (Ps : List VP) (A' : As) : Prop := PA X es (jA fr A Ps A')
/-- the exits of a statement -/
structure Out where
  nx : As
  rt : V → Hp → Hp → Prop
  bk : As := As.no
  ct : As := As.no
def jS (A : As) (o : Out) : TS := fun D σ H => ∃ G, Same G H ∧ A.p σ G H ∧ (∀ σ' G' H', Same G G' → Same G' H' → o.nx.p σ' G' H' → D.nx σ' H') ∧ (∀ v G' H', Same G' H' → o.rt v G' H' → D.rt v H') ∧
  (∀ σ' G' H', Same G G' → Same G' H' → o.bk.p σ' G' H' → D.bk σ' H') ∧ (∀ σ' G' H', Same G G' → Same G' H' → o.ct.p σ' G' H' → D.ct σ' H')
abbrev Js (X : Cx) (A : As) (st : Stmt) (o : Out) : Prop := PS X st (jS A o)
abbrev Jb (X : Cx) (A : As) (sts : List Stmt) (o : Out) : Prop := PSs X sts (jS A o)
/-- a target: ws: the slots that it writes -/
def SameOut (ws : List Nat) (σ σ' : L2.St) : Prop := σ'.length = σ.length ∧ ∀ i, i ∉ ws → σ'[i]? = σ[i]?
def jG (ws : List Nat) (A : As) (P : VP) (A' : As) : TG := fun v σ H Q => ∃ G, Same G H ∧ A.p σ G H ∧ P.p v G ∧ ∀ σ', SameOut ws σ σ' → A'.p σ' G H → Q σ' H
abbrev Jg (X : Cx) (ws : List Nat) (A : As) (tg : Expr) (P : VP) (A' : As) : Prop := PG X tg (jG ws A P A')
/-- a walk: what it gives, turn by turn -/
structure WP (J : It) (Ps : List VP) (G0 : Hp) : Prop where
  goes : ∀ i G H, i < Ps.length → Same G0 G → Same G H → J.go i H
  stops : ∀ G H, Same G0 G → Same G H → J.stop Ps.length H
  yields : ∀ i P G H x H', Ps[i]? = some P → Same G0 G → Same G H → J.yld i H x H' → ∃ G', Gw [] G H G' H' ∧ P.p x G'
def jI (fr : Prop) (A : As) (Ps : List VP) (A' : As) : TI := fun σ H R => ∃ G, Same G H ∧ A.p σ G H ∧ ∀ J G' H', Po fr A' σ G H G' H' → WP J Ps G' → R J H'
abbrev Ji (fr : Prop) (X : Cx) (A : As) (tg iter : Expr) (Ps : List VP) (A' : As) : Prop := PI X tg iter (jI fr A Ps A')
section
variable {X : Cx}
theorem pe_imp {e : Expr} {t t' : TE} (h : PE X e t) (k : ∀ σ H Q, t' σ H Q → t σ H Q) : PE X e t' := ⟨fun pins s σ H Q I hw => h.run pins s σ H Q I (k σ H Q hw)⟩
theorem pt_imp {e : Expr} {t t' : TT} (h : PT X e t) (k : ∀ σ H Q, t' σ H Q → t σ H Q) : PT X e t' := ⟨fun pins s σ H Q I hw => h.run pins s σ H Q I (k σ H Q hw)⟩
theorem pw_imp {e : Expr} {t t' : TT} (h : PW X e t) (k : ∀ σ H Q, t' σ H Q → t σ H Q) : PW X e t' := ⟨fun whole pins s σ H Q I hw => h.run whole pins s σ H Q I (k σ H Q hw)⟩
theorem pa_imp {e : List Expr} {t t' : TA} (h : PA X e t) (k : ∀ σ H Q, t' σ H Q → t σ H Q) : PA X e t' := ⟨fun pos pins s σ H Q I hw => h.run pos pins s σ H Q I (k σ H Q hw)⟩
theorem ps_imp {e : Stmt} {t t' : TS} (h : PS X e t) (k : ∀ D σ H, t' D σ H → t D σ H) : PS X e t' := ⟨fun pins s σ H D I hw => h.run pins s σ H D I (k D σ H hw)⟩
theorem pss_imp {e : List Stmt} {t t' : TS} (h : PSs X e t) (k : ∀ D σ H, t' D σ H → t D σ H) : PSs X e t' := ⟨fun pins s σ H D I hw => h.run pins s σ H D I (k D σ H hw)⟩
theorem pg_imp {e : Expr} {t t' : TG} (h : PG X e t) (k : ∀ v σ H Q, t' v σ H Q → t v σ H Q) : PG X e t' := ⟨fun pins s σ H v u Q I r hw => h.run pins s σ H v u Q I r (k v σ H Q hw)⟩
theorem pi_imp {tg e : Expr} {t t' : TI} (h : PI X tg e t) (k : ∀ σ H Q, t' σ H Q → t σ H Q) : PI X tg e t' := ⟨fun pins s σ H Q I hw => h.run pins s σ H Q I (k σ H Q hw)⟩
theorem pts_imp {e : List Expr} {t t' : TT} (h : PTs X e t) (k : ∀ σ H Q, t' σ H Q → t σ H Q) : PTs X e t' := ⟨fun pins s σ H Q I hw => h.run pins s σ H Q I (k σ H Q hw)⟩
/-- by any of many readings -/
theorem pe_any {ι : Sort _} {e : Expr} {t : ι → TE} (h : ∀ i, PE X e (t i)) : PE X e (fun σ H Q => ∃ i, t i σ H Q) := ⟨fun pins s σ H Q I ⟨i, hw⟩ => (h i).run pins s σ H Q I hw⟩
theorem pt_any {ι : Sort _} {e : Expr} {t : ι → TT} (h : ∀ i, PT X e (t i)) : PT X e (fun σ H Q => ∃ i, t i σ H Q) := ⟨fun pins s σ H Q I ⟨i, hw⟩ => (h i).run pins s σ H Q I hw⟩
theorem pts_any {ι : Sort _} {e : List Expr} {t : ι → TT} (h : ∀ i, PTs X e (t i)) : PTs X e (fun σ H Q => ∃ i, t i σ H Q) := ⟨fun pins s σ H Q I ⟨i, hw⟩ => (h i).run pins s σ H Q I hw⟩
theorem pss_any {ι : Sort _} {e : List Stmt} {t : ι → TS} (h : ∀ i, PSs X e (t i)) : PSs X e (fun D σ H => ∃ i, t i D σ H) := ⟨fun pins s σ H Q I ⟨i, hw⟩ => (h i).run pins s σ H Q I hw⟩
theorem pw_any {ι : Sort _} {e : Expr} {t : ι → TT} (h : ∀ i, PW X e (t i)) : PW X e (fun σ H Q => ∃ i, t i σ H Q) := ⟨fun whole pins s σ H Q I ⟨i, hw⟩ => (h i).run whole pins s σ H Q I hw⟩
theorem pg_any {ι : Sort _} {e : Expr} {t : ι → TG} (h : ∀ i, PG X e (t i)) : PG X e (fun v σ H Q => ∃ i, t i v σ H Q) := ⟨fun pins s σ H v u Q I r ⟨i, hw⟩ => (h i).run pins s σ H v u Q I r hw⟩
end
end Q
/-! Rules of expressions, tests, arguments. -/
namespace Q
open L2 PySem PySem.Spec PyProof.Rows
section
variable {X : Cx} {fr : Prop} {A A' A1 A2 A3 : As} {P P1 P2 P3 R : VP} {Ps Rs : List VP} {e a b c : Expr} {es : List Expr} {pos : Pos} {i j : Int} {k k' : Bool}
theorem e_raw {t : TE} (h : PE X e t) (q : ∀ σ G H Q, Same G H → A.p σ G H → (∀ v G' H', Po fr A' σ G H G' H' → R.p v G' → Q v H') → t σ H Q) : Je fr X A e R A' := pe_imp h fun σ H Q ⟨G, s, a, z⟩ => q σ G H Q s a z
/-- a value at once -/
theorem e_val {t : TE} (h : PE X e t) (q : ∀ σ G H Q, Same G H → A.p σ G H → (∀ v, R.p v G → Q v H) → t σ H Q) : Je fr X A e R A := e_raw h fun σ G H Q s a z => q σ G H Q s a fun v r => z v G H (Po.refl s a) r
theorem e_imp (h : Je fr X A e P A') (q : ∀ v H, P.p v H → R.p v H) : Je fr X A e R A' := pe_imp h fun σ H Q ⟨G, s, a, z⟩ => ⟨G, s, a, fun v G' H' w r => z v G' H' w (q v G' r)⟩
theorem e_pre (h : Je fr X A1 e P A') (q : As.le A A1) : Je fr X A e P A' := pe_imp h fun σ H Q ⟨G, s, a, z⟩ => ⟨G, s, q σ G H s a, z⟩
theorem e_post (h : Je fr X A e P A1) (q : As.le A1 A') : Je fr X A e P A' := pe_imp h fun σ H Q ⟨G, s, a, z⟩ => ⟨G, s, a, fun v G' H' w r => z v G' H' ⟨w.g, w.i, q _ _ _ w.i w.a, w.f⟩ r⟩
theorem e_cast (h : Je fr X A e P A') (q : P = R) : Je fr X A e R A' := q ▸ h
theorem e_int {z pos} : Je fr X A (.Constant (.int i) z pos) (isI i) A := e_val pe_int fun _ _ _ _ _ _ z => z _ rfl
theorem e_bl {z pos} : Je fr X A (.Constant (.bool k) z pos) (isB k) A := e_val pe_bl fun _ _ _ _ _ _ z => z _ rfl
theorem e_non {z pos} : Je fr X A (.Constant .none z pos) isN A := e_val pe_non fun _ _ _ _ _ _ z => z _ rfl
theorem e_str {x z pos} : Je fr X A (.Constant (.str x) z pos) (isS x) A := e_val pe_str fun _ _ _ _ _ _ z => z _ rfl
/-- a constant of the module -/
theorem e_glob {x : Str} {v : V} (hm : ∃ u, X.mg x = some u ∧ RelV v u) (hg : Gl X x := by rfl) (hd : (x == ("__debug__" : Str)) = false := by decide) : Je fr X A (.Name x pos) (isV v) A := by
  obtain ⟨u, h1, h2⟩ := hm
  exact e_val (pe_glob hg h1 h2 hd) fun _ _ _ _ _ _ z => z _ rfl
theorem allP_isV : ∀ (vs : List V) (G : Hp), AllP (vs.map isV) vs G
  | [], _ => .nil
  | v :: r, G => .cons rfl (allP_isV r G)
/-- a tuple of the module -/
theorem e_globT {x : Str} {p : Addr} {vs : List V} (hm : X.mg x = some (.ref p)) (ht : ∀ H, SqT X.K H p vs) (hg : Gl X x := by rfl) (hd : (x == ("__debug__" : Str)) = false := by decide) : Je fr X A (.Name x pos) (isK X.K (vs.map isV)) A := by
  exact e_val (pe_glob (v := .ref p) hg hm rfl hd) fun _ G _ _ _ _ z => z _ ⟨p, vs, rfl, ht G, allP_isV vs G⟩
theorem e_var (n : Nat) {x : Str} (hP : ∀ σ G H, A.p σ G H → ∃ v, σ[n]? = some (some v) ∧ P.p v G) (hN : X.N[n]? = some x := by rfl) (hv : Vis X.env.scope x := by first | exact Or.inl rfl | exact Or.inr (Or.inl rfl) | exact Or.inr (Or.inr rfl))
    (hd : (x == ("__debug__" : Str)) = false := by decide) (hcd : (x == ("__classdict__" : Str)) = false := by decide) : Je fr X A (.Name x pos) P A :=
  e_val (pv n hN hv hd hcd) fun σ G H Q s a z => let ⟨v, e, p⟩ := hP σ G H a; ⟨v, e, z v p⟩

/-! ### operators -/
/-- a two-place operation on values -/
def RS (r : R2) (P P' R : VP) : Prop := ∀ x y G H Q, Same G H → P.p x G → P'.p y G → (∀ v G' H', Gw [] G H G' H' → R.p v G' → Q v H') → r x y H Q
theorem RS.at {r : R2} (h : ∀ x y G H Q, Same G H → P.p x G → P1.p y G → (∀ v, R.p v G → Q v H) → r x y H Q) : RS r P P1 R := fun x y G H Q s p q z => h x y G H Q s p q fun v r => z v G H (Gw.refl s) r
theorem tOp_of {r : R2} (hr : RS r P1 P2 R) : ∀ σ H Q, jE fr A R A2 σ H Q → tOp r (jE fr A P1 A1) (jE fr A1 P2 A2) σ H Q := fun σ H Q ⟨G, s, a, q⟩ =>
  ⟨G, s, a, fun x G1 H1 p1 px => ⟨G1, p1.i, p1.a, fun y G2 H2 p2 py => hr x y G2 H2 Q p2.i (P1.up p2.g px) py fun v G3 H3 w r => q v G3 H3 ((p1.trans p2).then w) r⟩⟩
theorem e_op {op : Operator} {r : R2} (ho : OpR X (binaryOp op) r) (ha : Je fr X A a P1 A1) (hb : Je fr X A1 b P2 A2) (hr : RS r P1 P2 R) : Je fr X A (.BinOp a op b pos) R A2 := pe_imp (pe_op ho ha hb) (tOp_of hr)
theorem e_cmp {op : CmpOp} {r : R2} (ho : OpR X (compareOp op) r) (ha : Je fr X A a P1 A1) (hb : Je fr X A1 b P2 A2) (hr : RS r P1 P2 R) (hm : behindInMarks op b = false := by first | exact nomark _ | rfl) : Je fr X A (.Compare a [op] [b] pos) R A2 := pe_imp (pe_cmpR ho ha hb hm) (tOp_of hr)
theorem tTest_of {t : TE} (h : ∀ σ H Q, jE fr A (isB k) A1 σ H Q → t σ H Q) : ∀ σ H Q, jT fr A k A1 σ H Q → tTest t σ H Q := fun σ H Q ⟨G, s, a, q⟩ => h σ H _ ⟨G, s, a, fun v G1 H1 p pv => ⟨k, pv, q G1 H1 p⟩⟩
theorem t_cmp {op : CmpOp} {r : R2} (ho : OpR X (compareOp op) r) (ha : Je fr X A a P1 A1) (hb : Je fr X A1 b P2 A2) (hr : RS r P1 P2 (isB k)) (hm : behindInMarks op b = false := by first | exact nomark _ | rfl) : Jt fr X A (.Compare a [op] [b] pos) k A2 := pt_imp (pt_cmpR ho ha hb hm) (tTest_of (tOp_of hr))
theorem rs_I0 {g : Int → Int → V} : RS (rI0 g) (isI i) (isI j) (isV (g i j)) := .at fun x y G H Q s p q z => ⟨i, j, p, q, z _ rfl⟩
theorem rs_I {C : Int → Int → Prop} {g : Int → Int → V} (h : C i j) : RS (rI C g) (isI i) (isI j) (isV (g i j)) := .at fun x y G H Q s p q z => ⟨i, j, p, q, h, z _ rfl⟩
theorem e_add (ha : Je fr X A a (isI i) A1) (hb : Je fr X A1 b (isI j) A2) : Je fr X A (.BinOp a .Add b pos) (isI (i + j)) A2 := e_op op_add ha hb rs_I0
theorem e_sub (ha : Je fr X A a (isI i) A1) (hb : Je fr X A1 b (isI j) A2) : Je fr X A (.BinOp a .Sub b pos) (isI (i - j)) A2 := e_op op_sub ha hb rs_I0
theorem e_mul (ha : Je fr X A a (isI i) A1) (hb : Je fr X A1 b (isI j) A2) (h : CMul i j) : Je fr X A (.BinOp a .Mult b pos) (isI (i * j)) A2 := e_op op_mul ha hb (rs_I h)
theorem e_mod (ha : Je fr X A a (isI i) A1) (hb : Je fr X A1 b (isI j) A2) (h : 0 < j) : Je fr X A (.BinOp a .Mod b pos) (isI (i % j)) A2 := e_op op_mod ha hb (rs_I h)
theorem rs_eq {v w : V} (h : scal v w = true) : RS rEq (isV v) (isV w) (isB (decide (v = w))) := .at fun x y G H Q s p q z => by
  have p' : x = v := p
  have q' : y = w := q
  subst p' q'
  exact ⟨h, z _ rfl⟩
theorem rs_ne {v w : V} (h : scal v w = true) : RS rNe (isV v) (isV w) (isB (!decide (v = w))) := .at fun x y G H Q s p q z => by
  have p' : x = v := p
  have q' : y = w := q
  subst p' q'
  exact ⟨h, z _ rfl⟩
theorem dI : decide (V.int i = V.int j) = decide (i = j) := by
  by_cases h : i = j
  · subst h; rw [decide_eq_true rfl, decide_eq_true rfl]
  · rw [decide_eq_false h, decide_eq_false fun q => h (V.int.inj q)]
theorem rs_eqI : RS rEq (isI i) (isI j) (isB (decide (i = j))) := by
  have h := rs_eq (v := V.int i) (w := V.int j) rfl
  rw [dI] at h
  exact h
theorem rs_neI : RS rNe (isI i) (isI j) (isB (!decide (i = j))) := by
  have h := rs_ne (v := V.int i) (w := V.int j) rfl
  rw [dI] at h
  exact h
theorem t_eqI (ha : Je fr X A a (isI i) A1) (hb : Je fr X A1 b (isI j) A2) : Jt fr X A (.Compare a [.Eq] [b] pos) (decide (i = j)) A2 := t_cmp op_eq ha hb rs_eqI
theorem t_neI (ha : Je fr X A a (isI i) A1) (hb : Je fr X A1 b (isI j) A2) : Jt fr X A (.Compare a [.NotEq] [b] pos) (!decide (i = j)) A2 := t_cmp op_ne ha hb rs_neI
theorem t_lt (ha : Je fr X A a (isI i) A1) (hb : Je fr X A1 b (isI j) A2) : Jt fr X A (.Compare a [.Lt] [b] pos) (decide (i < j)) A2 := t_cmp op_lt ha hb rs_I0
theorem t_le (ha : Je fr X A a (isI i) A1) (hb : Je fr X A1 b (isI j) A2) : Jt fr X A (.Compare a [.LtE] [b] pos) (decide (i ≤ j)) A2 := t_cmp op_le ha hb rs_I0
theorem t_gt (ha : Je fr X A a (isI i) A1) (hb : Je fr X A1 b (isI j) A2) : Jt fr X A (.Compare a [.Gt] [b] pos) (decide (j < i)) A2 := t_cmp op_gt ha hb rs_I0
theorem t_ge (ha : Je fr X A a (isI i) A1) (hb : Je fr X A1 b (isI j) A2) : Jt fr X A (.Compare a [.GtE] [b] pos) (decide (j ≤ i)) A2 := t_cmp op_ge ha hb rs_I0
theorem t_eqS {x y : Str} (ha : Je fr X A a (isS x) A1) (hb : Je fr X A1 b (isS y) A2) : Jt fr X A (.Compare a [.Eq] [b] pos) (decide (V.str x = V.str y)) A2 := t_cmp op_eq ha hb (rs_eq rfl)
theorem t_neS {x y : Str} (ha : Je fr X A a (isS x) A1) (hb : Je fr X A1 b (isS y) A2) : Jt fr X A (.Compare a [.NotEq] [b] pos) (!decide (V.str x = V.str y)) A2 := t_cmp op_ne ha hb (rs_ne rfl)
theorem e_eqI (ha : Je fr X A a (isI i) A1) (hb : Je fr X A1 b (isI j) A2) : Je fr X A (.Compare a [.Eq] [b] pos) (isB (decide (i = j))) A2 := e_cmp op_eq ha hb rs_eqI
theorem e_eqS {x y : Str} (ha : Je fr X A a (isS x) A1) (hb : Je fr X A1 b (isS y) A2) : Je fr X A (.Compare a [.Eq] [b] pos) (isB (decide (V.str x = V.str y))) A2 := e_cmp op_eq ha hb (rs_eq rfl)
theorem e_lt (ha : Je fr X A a (isI i) A1) (hb : Je fr X A1 b (isI j) A2) : Je fr X A (.Compare a [.Lt] [b] pos) (isB (decide (i < j))) A2 := e_cmp op_lt ha hb rs_I0
theorem e_gt (ha : Je fr X A a (isI i) A1) (hb : Je fr X A1 b (isI j) A2) : Je fr X A (.Compare a [.Gt] [b] pos) (isB (decide (j < i))) A2 := e_cmp op_gt ha hb rs_I0
/-- is None, is not None -/
def nonP (P : VP) (k : Bool) : Prop := ∀ v H, P.p v H → decide (v = .non) = k
theorem nonP_N : nonP isN true := fun v H h => decide_eq_true h
theorem nonP_V {v : V} (h : decide (v = .non) = k) : nonP (isV v) k := fun w H q => by
  have e : w = v := q
  rw [e]; exact h
theorem nonP_T : nonP (isT Ps) false := fun v H ⟨a, xs, e, _⟩ => by subst e; exact decide_eq_false fun z => nomatch z
theorem nonP_L : nonP (isL Ps) false := fun v H ⟨a, xs, e, _⟩ => by subst e; exact decide_eq_false fun z => nomatch z
theorem nonP_O {C : Addr} {fs : Fs} : nonP (isO C fs) false := fun v H ⟨a, dx, xs, e, _⟩ => by subst e; exact decide_eq_false fun z => nomatch z
theorem t_isN (ha : Je fr X A a P A1) (h : nonP P k) (hb : Je fr X A1 b isN A2) : Jt fr X A (.Compare a [.Is] [b] pos) k A2 := t_cmp op_isN ha hb (.at fun x y G H Q s p q z => ⟨q, z _ (congrArg V.bl (h x G p))⟩)
theorem t_notN (ha : Je fr X A a P A1) (h : nonP P k) (hb : Je fr X A1 b isN A2) : Jt fr X A (.Compare a [.IsNot] [b] pos) (!k) A2 := t_cmp op_notN ha hb (.at fun x y G H Q s p q z => ⟨q, z _ (congrArg (fun k => V.bl (!k)) (h x G p))⟩)
theorem e_isN (ha : Je fr X A a P A1) (h : nonP P k) (hb : Je fr X A1 b isN A2) : Je fr X A (.Compare a [.Is] [b] pos) (isB k) A2 := e_cmp op_isN ha hb (.at fun x y G H Q s p q z => ⟨q, z _ (congrArg V.bl (h x G p))⟩)
theorem e_notN (ha : Je fr X A a P A1) (h : nonP P k) (hb : Je fr X A1 b isN A2) : Je fr X A (.Compare a [.IsNot] [b] pos) (isB (!k)) A2 := e_cmp op_notN ha hb (.at fun x y G H Q s p q z => ⟨q, z _ (congrArg (fun k => V.bl (!k)) (h x G p))⟩)
/-! ### chains, and, or, not, a if t else b -/
theorem tChain_of {r r' : R2} (hr : RS r P1 P2 (isB k)) (hr' : RS r' P2 P3 (isB k')) : ∀ σ H Q, jE fr A (isB (k && k')) A2 σ H Q → tChain r r' (jE fr A P1 A1) (jE fr A1 P2 A2) (jE fr A2 P3 A2) σ H Q := fun σ H Q ⟨G, s, a, q⟩ =>
  ⟨G, s, a, fun x G1 H1 p1 px => ⟨G1, p1.i, p1.a, fun y G2 H2 p2 py => hr x y G2 H2 _ p2.i (P1.up p2.g px) py fun v G3 H3 w r => ⟨k, r, by
    have p3 := (p1.trans p2).then w
    cases hk : k with
    | false =>
      subst hk
      exact iteF (q _ G3 H3 p3 rfl)
    | true =>
      subst hk
      exact iteT ⟨G3, w.i, p3.a, fun z G4 H4 p4 pz => hr' y z G4 H4 Q p4.i (P2.up (Same.trans w.g p4.g) py) pz fun u G5 H5 w5 ru => q u G5 H5 ((p3.trans p4).then w5) ru⟩⟩⟩⟩
theorem e_chain {op op' : CmpOp} {r r' : R2} (ho : OpR X (compareOp op) r) (ho' : OpR X (compareOp op') r') (ha : Je fr X A a P1 A1) (hb : Je fr X A1 b P2 A2) (hc : Je fr X A2 c P3 A2) (hr : RS r P1 P2 (isB k)) (hr' : RS r' P2 P3 (isB k')) (hm : lastMarks [op, op'] [b, c] = false := by with_unfolding_all rfl) :
    Je fr X A (.Compare a [op, op'] [b, c] pos) (isB (k && k')) A2 := pe_imp (pe_chain ho ho' ha hb hc hm) (tChain_of hr hr')
theorem t_chain {op op' : CmpOp} {r r' : R2} (ho : OpR X (compareOp op) r) (ho' : OpR X (compareOp op') r') (ha : Je fr X A a P1 A1) (hb : Je fr X A1 b P2 A2) (hc : Je fr X A2 c P3 A2) (hr : RS r P1 P2 (isB k)) (hr' : RS r' P2 P3 (isB k')) (hm : lastMarks [op, op'] [b, c] = false := by with_unfolding_all rfl) :
    Jt fr X A (.Compare a [op, op'] [b, c] pos) (k && k') A2 := pt_imp (pt_chain ho ho' ha hb hc hm) (tTest_of (tChain_of hr hr'))
theorem e_lele {n : Int} (ha : Je fr X A a (isI i) A1) (hb : Je fr X A1 b (isI j) A2) (hc : Je fr X A2 c (isI n) A2) (hm : lastMarks [.LtE, .LtE] [b, c] = false := by with_unfolding_all rfl) : Je fr X A (.Compare a [.LtE, .LtE] [b, c] pos) (isB (decide (i ≤ j) && decide (j ≤ n))) A2 := e_chain op_le op_le ha hb hc rs_I0 rs_I0 hm
theorem t_lele {n : Int} (ha : Je fr X A a (isI i) A1) (hb : Je fr X A1 b (isI j) A2) (hc : Je fr X A2 c (isI n) A2) (hm : lastMarks [.LtE, .LtE] [b, c] = false := by with_unfolding_all rfl) : Jt fr X A (.Compare a [.LtE, .LtE] [b, c] pos) (decide (i ≤ j) && decide (j ≤ n)) A2 := t_chain op_le op_le ha hb hc rs_I0 rs_I0 hm
theorem e_lelt {n : Int} (ha : Je fr X A a (isI i) A1) (hb : Je fr X A1 b (isI j) A2) (hc : Je fr X A2 c (isI n) A2) (hm : lastMarks [.LtE, .Lt] [b, c] = false := by with_unfolding_all rfl) : Je fr X A (.Compare a [.LtE, .Lt] [b, c] pos) (isB (decide (i ≤ j) && decide (j < n))) A2 := e_chain op_le op_lt ha hb hc rs_I0 rs_I0 hm
theorem e_one {op} (h : Je fr X A a P A') : Je fr X A (.BoolOp op [a] pos) P A' := pe_one h
theorem e_or (ha : Je fr X A a (isB k) A1) (hb : k = false → Je fr X A1 (.BoolOp .Or (b :: es) pos) (isB k') A1) : Je fr X A (.BoolOp .Or (a :: b :: es) pos) (isB (k || k')) A1 :=
  pe_imp (pe_or ha (pe_any hb)) fun σ H Q ⟨G, s, p, q⟩ => ⟨G, s, p, fun x G1 H1 p1 px => ⟨k, px, by
    cases hk : k with
    | true => subst hk; exact iteT (q _ G1 H1 p1 rfl)
    | false => subst hk; exact iteF ⟨rfl, G1, p1.i, p1.a, fun v G2 H2 p2 r => q v G2 H2 (p1.trans p2) r⟩⟩⟩
theorem e_and (ha : Je fr X A a (isB k) A1) (hb : k = true → Je fr X A1 (.BoolOp .And (b :: es) pos) (isB k') A1) : Je fr X A (.BoolOp .And (a :: b :: es) pos) (isB (k && k')) A1 :=
  pe_imp (pe_and ha (pe_any hb)) fun σ H Q ⟨G, s, p, q⟩ => ⟨G, s, p, fun x G1 H1 p1 px => ⟨k, px, by
    cases hk : k with
    | false => subst hk; exact iteF (q _ G1 H1 p1 rfl)
    | true => subst hk; exact iteT ⟨rfl, G1, p1.i, p1.a, fun v G2 H2 p2 r => q v G2 H2 (p1.trans p2) r⟩⟩⟩
theorem t_val (h : Je fr X A e (isB k) A') (he : ∀ whole, isTrue e X.env whole = (do let v ← whole; standAt e.pos; holding [v] (truthy v)) := by intro _; rfl) : Jt fr X A e k A' := pt_imp (pt_val h he) fun σ H Q ⟨G, s, p, q⟩ => ⟨G, s, p, fun v G1 H1 p1 r => ⟨k, r, q G1 H1 p1⟩⟩
theorem t_w (h : Jw fr X A e k A') : Jt fr X A e k A' := PW.pt h
theorem w_and1 (h : Jt fr X A a k A') : Jw fr X A (.BoolOp .And [a] pos) k A' := pw_and1 h
theorem w_or1 (h : Jt fr X A a k A') : Jw fr X A (.BoolOp .Or [a] pos) k A' := pw_or1 h
theorem w_and (ha : Jt fr X A a k A1) (hb : k = true → Jw fr X A1 (.BoolOp .And (b :: es) pos) k' A1) : Jw fr X A (.BoolOp .And (a :: b :: es) pos) (k && k') A1 :=
  pw_imp (pw_and ha (pw_any hb)) fun σ H Q ⟨G, s, p, q⟩ => ⟨G, s, p, fun G1 H1 p1 => by
    cases hk : k with
    | false => subst hk; exact iteF (q G1 H1 p1)
    | true => subst hk; exact iteT ⟨rfl, G1, p1.i, p1.a, fun G2 H2 p2 => q G2 H2 (p1.trans p2)⟩⟩
theorem w_or (ha : Jt fr X A a k A1) (hb : k = false → Jw fr X A1 (.BoolOp .Or (b :: es) pos) k' A1) : Jw fr X A (.BoolOp .Or (a :: b :: es) pos) (k || k') A1 :=
  pw_imp (pw_or ha (pw_any hb)) fun σ H Q ⟨G, s, p, q⟩ => ⟨G, s, p, fun G1 H1 p1 => by
    cases hk : k with
    | true => subst hk; exact iteT (q G1 H1 p1)
    | false => subst hk; exact iteF ⟨rfl, G1, p1.i, p1.a, fun G2 H2 p2 => q G2 H2 (p1.trans p2)⟩⟩
theorem t_not (h : Jt fr X A a k A') : Jt fr X A (.UnaryOp .Not a pos) (!k) A' := pt_imp (pt_not h) fun σ H Q ⟨G, s, p, q⟩ => ⟨G, s, p, fun G1 H1 p1 => q G1 H1 p1⟩
theorem t_cast (h : Jt fr X A e k A') (q : k = k') : Jt fr X A e k' A' := q ▸ h
theorem e_if (hc : Jt fr X A c k A1) (ha : k = true → Je fr X A1 a P A2) (hb : k = false → Je fr X A1 b P A2) : Je fr X A (.IfExp c a b pos) P A2 :=
  pe_imp (pe_ifExp hc (pe_any ha) (pe_any hb)) fun σ H Q ⟨G, s, p, q⟩ => ⟨G, s, p, fun G1 H1 p1 => by
    cases hk : k with
    | true => subst hk; exact iteT ⟨rfl, G1, p1.i, p1.a, fun v G2 H2 p2 r => q v G2 H2 (p1.trans p2) r⟩
    | false => subst hk; exact iteF ⟨rfl, G1, p1.i, p1.a, fun v G2 H2 p2 r => q v G2 H2 (p1.trans p2) r⟩⟩
/-! ### arguments, displays -/
theorem a_nil : Ja fr X A [] [] A := pa_imp pa_nil fun σ H Q ⟨G, s, p, q⟩ => q [] G H (Po.refl s p) .nil
theorem a_cons (ha : Je fr X A e P A1) (hr : Ja fr X A1 es Ps A2) (hs : starEach (e :: es) X.env = (false, eval e X.env) :: starEach es X.env := by rfl) : Ja fr X A (e :: es) (P :: Ps) A2 :=
  pa_imp (pa_cons ha hr hs) fun σ H Q ⟨G, s, p, q⟩ => ⟨G, s, p, fun v G1 H1 p1 r => ⟨G1, p1.i, p1.a, fun vs G2 H2 p2 rs => q (v :: vs) G2 H2 (p1.trans p2) (.cons (P.up p2.g r) rs)⟩⟩
theorem a_one (ha : Je fr X A e P A1) (hs : starEach [e] X.env = (false, eval e X.env) :: starEach [] X.env := by rfl) : Ja fr X A [e] [P] A1 := a_cons ha a_nil hs
theorem line_le {n : Nat} (h : Nat.ble n 1000 = true) : n ≤ sizeLine := by
  (have := Nat.le_of_ble_eq_true h)
  have e : (sizeLine : Nat) = 16777216 := rfl
  omega
theorem e_tup {x1} (h : Ja fr X A es Ps A') (hl : Nat.ble Ps.length 1000 = true := by rfl) : Je fr X A (.Tuple es x1 pos) (isT Ps) A' :=
  pe_imp (pe_tup h) fun σ H Q ⟨G, s, p, q⟩ => ⟨G, s, p, fun vs G1 H1 p1 r => ⟨by rw [← Paired.length r]; exact line_le hl, fun l hl => q _ _ _ (p1.then (Gw.new p1.i hl)) ⟨l, vs, rfl, upd_same, allP_up (Gw.new (M := []) p1.i hl).g r⟩⟩⟩
theorem e_lst (h : Ja fr X A es Ps A') (hl : Nat.ble Ps.length 1000 = true := by rfl) : Je fr X A (.List es pos) (isL Ps) A' :=
  pe_imp (pe_lst h) fun σ H Q ⟨G, s, p, q⟩ => ⟨G, s, p, fun vs G1 H1 p1 r => ⟨by rw [← Paired.length r]; exact line_le hl, fun l hl => q _ _ _ (p1.then (Gw.new p1.i hl)) ⟨l, vs, rfl, upd_same, allP_up (Gw.new (M := []) p1.i hl).g r⟩⟩⟩
/-! ### fields, places, slices -/
theorem e_fld {C : Addr} {fs : Fs} {f : Str} (he : Je fr X A e (isO C fs) A') (T : Cls X.K C) (n : NoAttr X.K C f) (hl : fs.lookup f = some P) (hb : attributeBase e f X.env (eval e X.env) = eval e X.env := by rfl) : Je fr X A (.Attribute e f pos) P A' :=
  pe_imp (pe_fld he hb) fun σ H Q ⟨G, s, p, q⟩ => ⟨G, s, p, fun v G1 H1 p1 ⟨a, dx, vs, e1, e2, r⟩ => let ⟨w, l, pw⟩ := fld_look r hl; ⟨a, C, dx, vs, w, e1, p1.i _ _ e2, T, n, l, q w G1 H1 p1 pw⟩⟩
theorem ixN_lt {n : Nat} {i : Int} {j : Nat} (h : ixN n i = some j) : j < n := (ixN_seq h).2.1
theorem atI_pair {α β : Type} {F : α → β → Prop} {l : List α} {m : List β} (h : Paired F l m) {i : Int} {x : α} (e : atI l i = some x) : ∃ y, atI m i = some y ∧ F x y := by
  unfold atI at e ⊢
  rw [← Paired.length h]
  cases q : ixN l.length i with
  | none => (rw [q] at e; cases e)
  | some j => rw [q] at e; exact paired_at h e
theorem rs_ixL {K : PySem.W.Frag} (h : atI Ps i = some R) : RS (rIxL K) (isL Ps) (isI i) R := .at fun x y G H Q s ⟨p, xs, e, q, r⟩ py z => let ⟨v, l, pv⟩ := atI_pair r h; ⟨p, xs, i, v, e, py, SqL.of (s _ _ q), l, z v pv⟩
theorem rs_ixT {K : PySem.W.Frag} (h : atI Ps i = some R) : RS (rIxT K) (isT Ps) (isI i) R := .at fun x y G H Q s ⟨p, xs, e, q, r⟩ py z => let ⟨v, l, pv⟩ := atI_pair r h; ⟨p, xs, i, v, e, py, SqT.of (s _ _ q), l, z v pv⟩
theorem rs_ixQ {K : PySem.W.Frag} (h : atI Ps i = some R) : RS (rIxL K) (isQ K Ps) (isI i) R := .at fun x y G H Q s ⟨p, xs, e, q, r⟩ py z => let ⟨v, l, pv⟩ := atI_pair r h; ⟨p, xs, i, v, e, py, same_sqL s q, l, z v pv⟩
theorem e_ixL (ha : Je fr X A a (isL Ps) A1) (hb : Je fr X A1 b (isI i) A2) (h : atI Ps i = some R) (hs : PlainIx b := by exact fun _ _ => rfl) : Je fr X A (.Subscript a b pos) R A2 := pe_imp (pe_ix ix_list ha hb hs) (tOp_of (rs_ixL h))
theorem e_ixT (ha : Je fr X A a (isT Ps) A1) (hb : Je fr X A1 b (isI i) A2) (h : atI Ps i = some R) (hs : PlainIx b := by exact fun _ _ => rfl) : Je fr X A (.Subscript a b pos) R A2 := pe_imp (pe_ix ix_tup ha hb hs) (tOp_of (rs_ixT h))
theorem e_ixQ (ha : Je fr X A a (isQ X.K Ps) A1) (hb : Je fr X A1 b (isI i) A2) (h : atI Ps i = some R) (hs : PlainIx b := by exact fun _ _ => rfl) : Je fr X A (.Subscript a b pos) R A2 := pe_imp (pe_ix ix_list ha hb hs) (tOp_of (rs_ixQ h))
def jO (fr : Prop) (A : As) (o : Option Int) (A' : As) : TO := fun σ H Q => ∃ G, Same G H ∧ A.p σ G H ∧ ∀ G' H', Po fr A' σ G H G' H' → Q o H'
abbrev Jo (fr : Prop) (X : Cx) (A : As) (e : Option Expr) (o : Option Int) (A' : As) : Prop := PO X e (jO fr A o A')
theorem po_imp {o : Option Expr} {t t' : TO} (h : PO X o t) (q : ∀ σ H Q, t' σ H Q → t σ H Q) : PO X o t' := ⟨fun pins s σ H Q I hw => h.run pins s σ H Q I (q σ H Q hw)⟩
theorem o_no : Jo fr X A none none A := po_imp po_none fun σ H Q ⟨G, s, p, q⟩ => q G H (Po.refl s p)
theorem o_at (h : Je fr X A e (isI i) A') : Jo fr X A (some e) (some i) A' := po_imp (po_some h) fun σ H Q ⟨G, s, p, q⟩ => ⟨G, s, p, fun v G1 H1 p1 r => ⟨i, r, q G1 H1 p1⟩⟩
def cutP {α : Type} (xs : List α) (lo hi : Option Int) : List α := (xs.drop (HT.sIx xs.length 0 lo)).take (HT.sIx xs.length xs.length hi - HT.sIx xs.length 0 lo)
theorem cut_pair {α : Type} {F : α → V → Prop} {l : List α} {m : List V} (h : Paired F l m) (lo hi : Option Int) : Paired F (cutP l lo hi) (cutV m lo hi) := by
  unfold cutP cutV
  rw [← Paired.length h]
  exact paired_take _ (paired_drop _ h)
variable {lo hi : Option Expr} {ol oh : Option Int} {p2 : Pos}
theorem e_slL (he : Je fr X A e (isL Ps) A1) (hl : Jo fr X A1 lo ol A2) (hu : Jo fr X A2 hi oh A3) : Je fr X A (.Subscript e (.Slice lo hi none p2) pos) (isL (cutP Ps ol oh)) A3 :=
  pe_imp (pe_slice sl_list he hl hu) fun σ H Q ⟨G, s, p, q⟩ => ⟨G, s, p, fun v G1 H1 p1 r => ⟨G1, p1.i, p1.a, fun G2 H2 q2 => ⟨G2, q2.i, q2.a, fun G3 H3 q3 => by
    obtain ⟨l, xs, e1, e2, e3⟩ := r
    have s13 := Same.trans q2.g q3.g
    refine ⟨l, xs, e1, SqL.of (q3.i _ _ (s13 _ _ e2)), fun d hd => q _ _ _ (((p1.trans q2).trans q3).then (Gw.new q3.i hd)) ⟨d, _, rfl, upd_same, allP_up (Gw.new (M := []) q3.i hd).g (cut_pair (allP_up s13 e3) ol oh)⟩⟩⟩⟩⟩
theorem e_slQ (he : Je fr X A e (isQ X.K Ps) A1) (hl : Jo fr X A1 lo ol A2) (hu : Jo fr X A2 hi oh A3) : Je fr X A (.Subscript e (.Slice lo hi none p2) pos) (isL (cutP Ps ol oh)) A3 :=
  pe_imp (pe_slice sl_list he hl hu) fun σ H Q ⟨G, s, p, q⟩ => ⟨G, s, p, fun v G1 H1 p1 r => ⟨G1, p1.i, p1.a, fun G2 H2 q2 => ⟨G2, q2.i, q2.a, fun G3 H3 q3 => by
    obtain ⟨l, xs, e1, e2, e3⟩ := r
    have s13 := Same.trans q2.g q3.g
    refine ⟨l, xs, e1, same_sqL (Same.trans s13 q3.i) e2, fun d hd => q _ _ _ (((p1.trans q2).trans q3).then (Gw.new q3.i hd)) ⟨d, _, rfl, upd_same, allP_up (Gw.new (M := []) q3.i hd).g (cut_pair (allP_up s13 e3) ol oh)⟩⟩⟩⟩⟩
theorem cutV_whole {α : Type} {xs : List α} {lo hi : Option Int} (h : HT.sIx xs.length 0 lo = 0 ∧ HT.sIx xs.length xs.length hi = xs.length) : cutP xs lo hi = xs := by
  unfold cutP
  rw [h.1, h.2]
  simp
theorem e_slT (he : Je fr X A e (isT Ps) A1) (hl : Jo fr X A1 lo ol A2) (hu : Jo fr X A2 hi oh A3) : Je fr X A (.Subscript e (.Slice lo hi none p2) pos) (isT (cutP Ps ol oh)) A3 :=
  pe_imp (pe_slice sl_tupA he hl hu) fun σ H Q ⟨G, s, p, q⟩ => ⟨G, s, p, fun v G1 H1 p1 r => ⟨G1, p1.i, p1.a, fun G2 H2 q2 => ⟨G2, q2.i, q2.a, fun G3 H3 q3 => by
    obtain ⟨l, xs, e1, e2, e3⟩ := r
    have s13 := Same.trans q2.g q3.g
    refine ⟨l, xs, e1, SqT.of (q3.i _ _ (s13 _ _ e2)), fun hw => ?_, fun _ d hd => q _ _ _ (((p1.trans q2).trans q3).then (Gw.new q3.i hd)) ⟨d, _, rfl, upd_same, allP_up (Gw.new (M := []) q3.i hd).g (cut_pair (allP_up s13 e3) ol oh)⟩⟩
    rw [← Paired.length e3] at hw
    rw [cutV_whole hw] at q
    exact q _ _ _ ((p1.trans q2).trans q3) ⟨l, xs, rfl, s13 _ _ e2, allP_up s13 e3⟩⟩⟩⟩
/-! ### lists and tuples put together -/
theorem e_cat (ha : Je fr X A a (isL Ps) A1) (hb : Je fr X A1 b (isL Rs) A2) (hz : Ps.length + Rs.length ≤ sizeLine) : Je fr X A (.BinOp a .Add b pos) (isL (Ps ++ Rs)) A2 := e_op op_cat ha hb fun x y G H Q s ⟨l, xs, e1, e2, e3⟩ ⟨m, ys, e4, e5, e6⟩ z =>
  ⟨l, m, xs, ys, e1, e4, s _ _ e2, s _ _ e5, by rw [← Paired.length e3, ← Paired.length e6]; exact hz, fun p hp => z _ _ _ (Gw.new s hp) ⟨p, _, rfl, upd_same, allP_up (Gw.new (M := []) s hp).g (paired_app e3 e6)⟩⟩
theorem e_catT (ha : Je fr X A a (isT Ps) A1) (hb : Je fr X A1 b (isT Rs) A2) (hz : Ps.length + Rs.length ≤ sizeLine) : Je fr X A (.BinOp a .Add b pos) (isT (Ps ++ Rs)) A2 := e_op op_catA ha hb fun x y G H Q s ⟨l, xs, e1, e2, e3⟩ ⟨m, ys, e4, e5, e6⟩ z => by
  refine ⟨l, m, xs, ys, e1, e4, SqT.of (s _ _ e2), SqT.of (s _ _ e5), by rw [← Paired.length e3, ← Paired.length e6]; exact hz, fun h => ?_, fun h1 h2 => ?_, fun h1 h2 p hp => z _ _ _ (Gw.new s hp) ⟨p, _, rfl, upd_same, allP_up (Gw.new (M := []) s hp).g (paired_app e3 e6)⟩⟩
  · subst h; cases e3; exact z _ _ _ (Gw.refl s) ⟨m, ys, rfl, e5, e6⟩
  · subst h2; cases e6; rw [List.append_nil] at z; exact z _ _ _ (Gw.refl s) ⟨l, xs, rfl, e2, e3⟩
theorem e_repL {n : Nat} (ha : Je fr X A a (isL Ps) A1) (hb : Je fr X A1 b (isI (n : Int)) A2) (hz : Ps.length * n ≤ sizeLine) (hn : n ≤ 100000) : Je fr X A (.BinOp a .Mult b pos) (isL (List.replicate n Ps).flatten) A2 := e_op op_rep ha hb fun x y G H Q s ⟨l, xs, e1, e2, e3⟩ py z =>
  ⟨l, n, xs, e1, py, s _ _ e2, by omega, by omega, by rw [← Paired.length e3]; exact hz, fun p hp => z _ _ _ (Gw.new s hp) ⟨p, _, rfl, upd_same, allP_up (Gw.new (M := []) s hp).g (paired_flat e3 n)⟩⟩
/-! ### calls of what is built in -/
def CS (r : List V → Hp → VK → Prop) (Ps : List VP) (R : VP) : Prop := ∀ vs G H Q, Same G H → AllP Ps vs G → (∀ v G' H', Gw [] G H G' H' → R.p v G' → Q v H') → r vs H Q
theorem CS.at {r : List V → Hp → VK → Prop} (h : ∀ vs G H Q, Same G H → AllP Ps vs G → (∀ v, R.p v G → Q v H) → r vs H Q) : CS r Ps R := fun vs G H Q s p z => h vs G H Q s p fun v r => z v G H (Gw.refl s) r
theorem tCB_of {r : List V → Hp → VK → Prop} (hs : CS r Ps R) : ∀ σ H Q, jE fr A R A1 σ H Q → tCB r (jA fr A Ps A1) σ H Q := fun σ H Q ⟨G, s, p, q⟩ => ⟨G, s, p, fun vs G1 H1 p1 r => hs vs G1 H1 Q p1.i r fun v G2 H2 w rv => q v G2 H2 (p1.then w) rv⟩
theorem e_callB {x : Str} {id : String} {r : List V → Hp → VK → Prop} {p : Pos} (hc : CallR X (.builtin id) r) (hm : X.mg x = none) (ha : Ja fr X A (e :: es) Ps A1) (hs : CS r Ps R) (hv : bootBuiltins x = some (.builtin id) := by decide +kernel) (hg : Gl X x := by rfl) (hn : x ≠ "__name__" := by decide) (hdb : (x == ("__debug__" : Str)) = false := by decide)
    (he : starEach (e :: es) X.env = (false, eval e X.env) :: starEach es X.env := by rfl) (hpl : (backTo pos (starEach es X.env)).any (·.1) = false := by rfl) : Je fr X A (.Call (.Name x p) (e :: es) [] pos) R A1 := pe_imp (pe_callB hc hg hm hv ha hn hdb he hpl) (tCB_of hs)
theorem e_callTy {x : Str} {T : String} {r : List V → Hp → VK → Prop} {p : Pos} (hc : CallR X (.type T) r) (hm : X.mg x = none) (ha : Ja fr X A (e :: es) Ps A1) (hs : CS r Ps R) (hv : bootBuiltins x = some (.type T) := by decide +kernel) (hg : Gl X x := by rfl) (hn : x ≠ "__name__" := by decide) (hdb : (x == ("__debug__" : Str)) = false := by decide)
    (he : starEach (e :: es) X.env = (false, eval e X.env) :: starEach es X.env := by rfl) (hpl : (backTo pos (starEach es X.env)).any (·.1) = false := by rfl) : Je fr X A (.Call (.Name x p) (e :: es) [] pos) R A1 := pe_imp (pe_callTy hc hg hm hv ha hn hdb he hpl) (tCB_of hs)
end
end Q
/-! Slots; statements; loops. -/
namespace Q
open L2 PySem PySem.Spec PyProof.Rows
/-! ### what the slots hold: nothing known; a value that stands for data; a list of ours (it may grow); an instance of ours -/
inductive Sl where
  | any
  | val (P : VP)
  | own (Ps : List VP)
  | obj (me : Bool) (C : Addr) (fs : Fs)
  | lent (Ps : List VP)
  | pk (C : Addr) (f : Str) (Ps : List VP)
def Sl.mine : Sl → Bool
  | .own _ => true
  | .obj _ _ _ => true
  | .lent _ => true
  | .pk _ _ _ => true
  | _ => false
/-- the heaps at the def's entry, the addresses that it may change -/
structure Bs where
  G0 : Hp
  H0 : Hp
  M : List Addr
  a0 : Addr
  d0 : Addr
  l0 : Addr
/-- an instance of ours: the one that was handed in, or a new one -/
def Bs.has (B : Bs) (me : Bool) (a dx : Addr) : Prop := match me with
  | true => a = B.a0 ∧ dx = B.d0 ∧ a ∈ B.M
  | false => B.H0 a = none
theorem Bs.has_ok {B : Bs} {a dx : Addr} : ∀ {me : Bool}, B.has me a dx → a ∈ B.M ∨ B.H0 a = none
  | true, h => .inl h.2.2
  | false, h => .inr h
def Sl.ok (B : Bs) (G H : Hp) : Sl → Option V → Prop
  | .any, _ => True
  | .val P, o => ∃ v, o = some v ∧ P.p v G
  | .own Ps, o => ∃ l xs, o = some (.ref l) ∧ G l = none ∧ H l = some (.lst xs) ∧ B.H0 l = none ∧ AllP Ps xs G
  | .obj me C fs, o => ∃ a dx vs, o = some (.ref a) ∧ G a = none ∧ H a = some (.ins C dx vs) ∧ B.has me a dx ∧ FldP fs vs G
  | .lent Ps, o => ∃ l xs, o = some (.ref l) ∧ G l = none ∧ H l = some (.lst xs) ∧ AllP Ps xs G
  | .pk C f Ps, o => ∃ xs, o = some (.ref B.a0) ∧ G B.a0 = none ∧ H B.a0 = some (.ins C B.d0 [(f, .ref B.l0)]) ∧ B.a0 ∈ B.M ∧ G B.l0 = none ∧ H B.l0 = some (.lst xs) ∧ B.l0 ∈ B.M ∧ B.H0 B.l0 ≠ none ∧ AllP Ps xs G
theorem Sl.ok_up {B : Bs} {G H G' H' : Hp} (w : Gw [] G H G' H') : ∀ {s : Sl} {o : Option V}, s.ok B G H o → s.ok B G' H' o
  | .any, _, _ => trivial
  | .val P, _, ⟨v, e, p⟩ => ⟨v, e, P.up w.g p⟩
  | .own Ps, _, ⟨l, xs, e, g, h, h0, q⟩ => ⟨l, xs, e, w.n l g (by rw [h]; exact fun z => nomatch z), w.same _ _ h, h0, allP_up w.g q⟩
  | .obj me C fs, _, ⟨a, dx, vs, e, g, h, h0, q⟩ => ⟨a, dx, vs, e, w.n a g (by rw [h]; exact fun z => nomatch z), w.same _ _ h, h0, fldP_up w.g q⟩
  | .lent Ps, _, ⟨l, xs, e, g, h, q⟩ => ⟨l, xs, e, w.n l g (by rw [h]; exact fun z => nomatch z), w.same _ _ h, allP_up w.g q⟩
  | .pk C f Ps, _, ⟨xs, e, g, h, m, g2, h2, m2, z2, q⟩ => ⟨xs, e, w.n _ g (by rw [h]; exact fun z => nomatch z), w.same _ _ h, m, w.n _ g2 (by rw [h2]; exact fun z => nomatch z), w.same _ _ h2, m2, z2, allP_up w.g q⟩
/-- what is ours stands apart -/
def Dis (Γ : List Sl) (σ : L2.St) : Prop := ∀ (i j : Nat) (s s' : Sl) (a : Addr), i ≠ j → Γ[i]? = some s → Γ[j]? = some s' → s.mine = true → s'.mine = true → σ[i]? = some (some (.ref a)) → σ[j]? = some (some (.ref a)) → False
def Ga (B : Bs) (Γ : List Sl) : As := ⟨fun σ G H => Gw B.M B.G0 B.H0 G H ∧ Paired (fun s o => Sl.ok B G H s o) Γ σ ∧ Dis Γ σ, fun _ h w => ⟨h.1.trans w, Paired.mapP h.2.1 fun _ _ q => Sl.ok_up w q, h.2.2⟩⟩
section
variable {B : Bs} {Γ Γ' : List Sl} {σ : L2.St} {G H : Hp} {P R : VP} {Ps Rs : List VP} {i j : Nat} {s : Sl}
theorem ga_get (h : (Ga B Γ).p σ G H) (e : Γ[i]? = some s) : ∃ o, σ[i]? = some o ∧ s.ok B G H o := paired_at h.2.1 e
theorem ga_val (h : (Ga B Γ).p σ G H) (e : Γ[i]? = some (.val P)) : ∃ v, σ[i]? = some (some v) ∧ P.p v G := by
  obtain ⟨o, q, v, rfl, p⟩ := ga_get h e
  exact ⟨v, q, p⟩
theorem get_set_same {α : Type} {l : List α} {i : Nat} {x a : α} (h : l[i]? = some a) : (l.set i x)[i]? = some x := by
  rw [List.getElem?_set]
  have := (List.getElem?_eq_some_iff.mp h).1
  simp [this]
theorem get_set_ne {α : Type} {l : List α} {i j : Nat} {x : α} (h : j ≠ i) : (l.set i x)[j]? = l[j]? := by
  rw [List.getElem?_set]
  simp [Ne.symm h]
/-- a slot stored anew, nothing of ours -/
theorem ga_set (h : (Ga B Γ).p σ G H) (hm : s.mine = false) {o : Option V} (ok : s.ok B G H o) : (Ga B (Γ.set i s)).p (σ.set i o) G H := by
  refine ⟨h.1, paired_set ok i h.2.1, fun a b t t' x hab e1 e2 m1 m2 q1 q2 => ?_⟩
  by_cases ha : a = i
  · subst ha
    rw [List.getElem?_set] at e1
    split at e1
    · split at e1
      · cases e1; rw [hm] at m1; cases m1
      · cases e1
    · rename_i z; exact z rfl
  · by_cases hb : b = i
    · subst hb
      rw [List.getElem?_set] at e2
      split at e2
      · split at e2
        · cases e2; rw [hm] at m2; cases m2
        · cases e2
      · rename_i z; exact z rfl
    · rw [get_set_ne ha] at e1 q1
      rw [get_set_ne hb] at e2 q2
      exact h.2.2 a b t t' x hab e1 e2 m1 m2 q1 q2
/-- a slot stored anew with something of ours that stands apart -/
theorem ga_setOwn (h : (Ga B Γ).p σ G H) {a : Addr} (ok : s.ok B G H (some (.ref a))) (ap : ∀ (j : Nat) (t : Sl), j ≠ i → Γ[j]? = some t → t.mine = true → σ[j]? ≠ some (some (.ref a))) : (Ga B (Γ.set i s)).p (σ.set i (some (.ref a))) G H := by
  refine ⟨h.1, paired_set ok i h.2.1, fun j b t t' x hab e1 e2 m1 m2 q1 q2 => ?_⟩
  have key : ∀ (b : Nat), b ≠ i → ∀ (x : Addr) (t : Sl), (Γ.set i s)[b]? = some t → t.mine = true → (σ.set i (some (.ref a)))[b]? = some (some (.ref x)) → x ≠ a := fun b hb x t e m q z => by
    rw [get_set_ne hb] at e q
    subst z
    exact ap b t hb e m q
  have at_i : ∀ (x : Addr), (σ.set i (some (.ref a)))[i]? = some (some (.ref x)) → x = a := fun x q => by
    rw [List.getElem?_set] at q
    split at q
    · split at q
      · cases q; rfl
      · cases q
    · rename_i z; exact absurd rfl z
  by_cases ha : j = i
  · subst ha
    exact key b (Ne.symm hab) x t' e2 m2 q2 (at_i x q1)
  · by_cases hb : b = i
    · subst hb
      exact key j ha x t e1 m1 q1 (at_i x q2)
    · rw [get_set_ne ha] at e1 q1
      rw [get_set_ne hb] at e2 q2
      exact h.2.2 j b t t' x hab e1 e2 m1 m2 q1 q2
/-- weaker slots -/
def Sl.le (s s' : Sl) : Prop := s' = s ∨ s' = .any ∨ ∃ P P', s = .val P ∧ s' = .val P' ∧ ∀ v H, P.p v H → P'.p v H
theorem Sl.le.rfl' : Sl.le s s := .inl rfl
theorem Sl.le.any' : Sl.le s .any := .inr (.inl rfl)
theorem Sl.le.val' {P P' : VP} (h : ∀ v H, P.p v H → P'.p v H) : Sl.le (.val P) (.val P') := .inr (.inr ⟨P, P', rfl, rfl, h⟩)
theorem ga_le' (q : Paired Sl.le Γ Γ') : As.le (Ga B Γ) (Ga B Γ') := fun σ G H _ h => by
  refine ⟨h.1, ?_, fun a b t t' x hab e1 e2 m1 m2 q1 q2 => ?_⟩
  · have h2 := h.2.1
    clear h
    induction q generalizing σ with
    | nil => cases h2; exact .nil
    | @cons s s' l l' r t ih =>
      cases h2 with
      | cons p u =>
        refine .cons ?_ (ih _ u)
        rcases r with rfl | rfl | ⟨P, P', rfl, rfl, k⟩
        · exact p
        · trivial
        · obtain ⟨v, e, z⟩ := p
          exact ⟨v, e, k v G z⟩
  · have back : ∀ (i : Nat) (t : Sl), Γ'[i]? = some t → t.mine = true → Γ[i]? = some t := fun i t e m => by
      obtain ⟨u, e', r⟩ := paired_at' q e
      rcases r with rfl | rfl | ⟨P, P', rfl, rfl, k⟩
      · exact e'
      · cases m
      · cases m
    exact h.2.2 a b t t' x hab (back a t e1 m1) (back b t' e2 m2) m1 m2 q1 q2
end
section
variable {X : Cx} {fr : Prop} {A A' A1 A2 A3 N M bk ct : As} {B : Bs} {Γ Γ' Γ1 : List Sl} {P P1 P2 R post : VP} {Ps Rs : List VP} {e a b c : Expr} {es : List Expr} {pos : Pos} {k : Bool} {rt : V → Hp → Hp → Prop} {st : Stmt} {rest t f : List Stmt} {o : Out}
/-- a name's slot -/
theorem e_v (n : Nat) (hΓ : Γ[n]? = some (.val P)) {x : Str} (hN : X.N[n]? = some x := by rfl) (hv : Vis X.env.scope x := by first | exact Or.inl rfl | exact Or.inr (Or.inl rfl) | exact Or.inr (Or.inr rfl))
    (hd : (x == ("__debug__" : Str)) = false := by decide) (hcd : (x == ("__classdict__" : Str)) = false := by decide) : Je fr X (Ga B Γ) (.Name x pos) P (Ga B Γ) := e_var n (fun σ G H h => ga_val h hΓ) hN hv hd hcd
/-! ### blocks, small statements -/
theorem s_pre (h : Js X A1 st o) (q : As.le A A1) : Js X A st o := ps_imp h fun D σ H ⟨G, s, a, r⟩ => ⟨G, s, q σ G H s a, r⟩
theorem b_pre (h : Jb X A1 rest o) (q : As.le A A1) : Jb X A rest o := pss_imp h fun D σ H ⟨G, s, a, r⟩ => ⟨G, s, q σ G H s a, r⟩
theorem s_post (h : Js X A st ⟨M, rt, bk, ct⟩) (q : As.le M N) : Js X A st ⟨N, rt, bk, ct⟩ := ps_imp h fun D σ H ⟨G, s, a, n, r⟩ => ⟨G, s, a, fun σ' G' H' g s' m => n σ' G' H' g s' (q σ' G' H' s' m), r⟩
theorem b_post (h : Jb X A rest ⟨M, rt, bk, ct⟩) (q : As.le M N) : Jb X A rest ⟨N, rt, bk, ct⟩ := pss_imp h fun D σ H ⟨G, s, a, n, r⟩ => ⟨G, s, a, fun σ' G' H' g s' m => n σ' G' H' g s' (q σ' G' H' s' m), r⟩
theorem b_nil (q : As.le A N) : Jb X A [] ⟨N, rt, bk, ct⟩ := pss_imp pss_nil fun D σ H ⟨G, s, a, n, r⟩ => n σ G H (Same.refl _) s (q σ G H s a)
theorem b_cons (h1 : Js X A st ⟨M, rt, bk, ct⟩) (h2 : Jb X M rest ⟨N, rt, bk, ct⟩) : Jb X A (st :: rest) ⟨N, rt, bk, ct⟩ := pss_imp (pss_cons h1 h2) fun D σ H ⟨G, s, a, n, r, b, c⟩ =>
  ⟨G, s, a, fun σ' G' H' g s' m => ⟨G', s', m, fun σ2 G2 H2 g2 s2 m2 => n σ2 G2 H2 (Same.trans g g2) s2 m2, r, fun σ2 G2 H2 g2 s2 m2 => b σ2 G2 H2 (Same.trans g g2) s2 m2, fun σ2 G2 H2 g2 s2 m2 => c σ2 G2 H2 (Same.trans g g2) s2 m2⟩, r, b, c⟩
theorem b_one (h : Js X A st o) : Jb X A [st] o := pss_one h
theorem s_expr (he : Je False X A e P A') (hs : swapsWith e none pos.line X.env = pure false := by rfl) : Js X A (.Expr e pos) ⟨A', rt, bk, ct⟩ := ps_imp (ps_expr he hs) fun D σ H ⟨G, s, a, n, r⟩ => ⟨G, s, a, fun v G1 H1 p1 pv => n σ G1 H1 p1.g p1.i p1.a⟩
theorem s_ret (he : Je False X A e P A') (q : ∀ σ v G H, Same G H → A'.p σ G H → P.p v G → rt v G H) : Js X A (.Return (some e) pos) ⟨N, rt, bk, ct⟩ := ps_imp (ps_ret he) fun D σ H ⟨G, s, a, n, r, _⟩ => ⟨G, s, a, fun v G1 H1 p1 pv => r v G1 H1 p1.i (q σ v G1 H1 p1.i p1.a pv)⟩
theorem s_if (hc : Jt False X A c k A1) (ht : k = true → Jb X A1 t o) (hf : k = false → Jb X A1 f o) : Js X A (.If c t f pos) o := ps_imp (ps_if hc (pss_any ht) (pss_any hf)) fun D σ H ⟨G, s, a, n, r, b, c⟩ => ⟨G, s, a, fun G1 H1 p1 => by
  have z : jS A1 o D σ H1 := ⟨G1, p1.i, p1.a, fun σ2 G2 H2 g2 s2 m2 => n σ2 G2 H2 (Same.trans p1.g g2) s2 m2, r, fun σ2 G2 H2 g2 s2 m2 => b σ2 G2 H2 (Same.trans p1.g g2) s2 m2, fun σ2 G2 H2 g2 s2 m2 => c σ2 G2 H2 (Same.trans p1.g g2) s2 m2⟩
  cases hk : k with
  | true => subst hk; exact iteT ⟨rfl, z⟩
  | false => subst hk; exact iteF ⟨rfl, z⟩⟩
theorem b_know {φ : Prop} (h : φ → Jb X A rest o) : Jb X (As.andP φ A) rest o := pss_imp (pss_any h) fun D σ H ⟨G, s, a, r⟩ => ⟨a.1, G, s, a.2, r⟩
/-- an if that does not come out, and what follows -/
theorem b_when (hc : Jt False X A c k A1) (ht : k = true → Jb X A1 t ⟨As.no, rt, bk, ct⟩) (hr : k = false → Jb X A1 rest ⟨N, rt, bk, ct⟩) : Jb X A (.If c t [] pos :: rest) ⟨N, rt, bk, ct⟩ :=
  b_cons (M := As.andP (k = false) A1) (s_if hc (fun h => b_post (ht h) fun _ _ _ _ z => z.elim) (fun h => b_nil fun _ _ _ _ z => ⟨h, z⟩)) (b_know hr)
/-- a way that cannot be -/
theorem s_never (h : ∀ σ G H, A.p σ G H → False) : Js X A st o := ⟨fun _ _ _ _ _ _ ⟨G, s, a, _⟩ => (h _ _ _ a).elim⟩
theorem b_never (h : ∀ σ G H, A.p σ G H → False) : Jb X A rest o := ⟨fun _ _ _ _ _ _ ⟨G, s, a, _⟩ => (h _ _ _ a).elim⟩
/-- the end of a def that changes nothing: its value and that all else stands -/
def rtF (B : Bs) (post : VP) : V → Hp → Hp → Prop := fun v G H => Gw B.M B.G0 B.H0 G H ∧ post.p v G
def nxF (B : Bs) (post : VP) : As := ⟨fun _ G H => Gw B.M B.G0 B.H0 G H ∧ post.p .non G, fun _ h w => ⟨h.1.trans w, post.up w.g h.2⟩⟩
theorem s_retF (he : Je False X A e P (Ga B Γ)) (q : ∀ v H, P.p v H → post.p v H := by exact fun _ _ h => h) : Js X A (.Return (some e) pos) ⟨N, rtF B post, bk, ct⟩ := s_ret he fun σ v G H s a p => ⟨a.1, q v G p⟩
theorem s_retP (he : Je False X A e post (Ga B Γ)) : Js X A (.Return (some e) pos) ⟨N, rtF B post, bk, ct⟩ := s_ret he fun σ v G H s a p => ⟨a.1, p⟩
/-! ### targets and assignments -/
theorem sameOut_refl {σ : L2.St} {ws : List Nat} : SameOut ws σ σ := ⟨rfl, fun _ _ => rfl⟩
theorem sameOut_set {σ : L2.St} {i : Nat} {o : Option V} {ws : List Nat} (h : i ∈ ws) : SameOut ws σ (σ.set i o) := ⟨List.length_set, fun j hj => get_set_ne fun z => hj (by rw [z]; exact h)⟩
theorem SameOut.trans {σ σ1 σ2 : L2.St} {ws : List Nat} (a : SameOut ws σ σ1) (b : SameOut ws σ1 σ2) : SameOut ws σ σ2 := ⟨b.1.trans a.1, fun j hj => (b.2 j hj).trans (a.2 j hj)⟩
theorem g_name (i : Nat) {x : Str} {ws : List Nat} (hN : X.N.Nodup) (hi : X.N[i]? = some x := by rfl) (hx : Loc X.env.scope x := by first | exact Or.inl rfl | exact Or.inr rfl) (hw : i ∈ ws := by decide) (hf : X.fn x = true ∨ X.env.scope.names.lookup x = some .local := by first | exact .inl rfl | exact .inr rfl) : Jg X ws (Ga B Γ) (.Name x pos) P (Ga B (Γ.set i (.val P))) :=
  pg_imp (pg_name hN hi hx hf) fun v σ H Q ⟨G, s, a, pv, q⟩ => q _ (sameOut_set hw) (ga_set (s := .val P) a rfl ⟨v, rfl, pv⟩)
/-- a, b = a pair -/
theorem g_pair (i j : Nat) {x y : Str} {ws : List Nat} {px py : Pos} {kk : Nat} (hN : X.N.Nodup) (hi : X.N[i]? = some x := by rfl) (hj : X.N[j]? = some y := by rfl) (hx : Loc X.env.scope x := by first | exact Or.inl rfl | exact Or.inr rfl) (hy : Loc X.env.scope y := by first | exact Or.inl rfl | exact Or.inr rfl) (hw : i ∈ ws := by decide) (hw2 : j ∈ ws := by decide)
    (hf : X.fn x = true ∨ X.env.scope.names.lookup x = some .local := by first | exact .inl rfl | exact .inr rfl) (hf2 : X.fn y = true ∨ X.env.scope.names.lookup y = some .local := by first | exact .inl rfl | exact .inr rfl) (hc : X.calm = true := by rfl)
    (hn : (assignEach [.Name x px, .Name y py] X.env).length = 2 := by rfl) (hst : (assignEach [.Name x px, .Name y py] X.env).findIdx? (·.1) = none := by rfl) (h1 : (assignEach (.Name x px :: [.Name y py]) X.env).map (·.2) = assign (.Name x px) X.env :: (assignEach [.Name y py] X.env).map (·.2) := by rfl) (h2 : (assignEach (.Name y py :: []) X.env).map (·.2) = assign (.Name y py) X.env :: (assignEach [] X.env).map (·.2) := by rfl) :
    Jg X ws (Ga B Γ) (.Tuple [.Name x px, .Name y py] kk pos) (isT [P, P1]) (Ga B ((Γ.set i (.val P)).set j (.val P1))) :=
  pg_imp (pg_tup (n := 2) hc (pgs_cons (pg_name hN hi hx hf) (pgs_cons (pg_name hN hj hy hf2) pgs_nil h2) h1) hn hst) fun v σ H Q ⟨G, s, a, ⟨l, xs, e1, e2, e3⟩, q⟩ => by
    obtain ⟨u, w, rfl, q1, q2⟩ := paired_two e3
    exact ⟨l, _, e1, SqT.of (s _ _ e2), rfl, u, _, rfl, w, _, rfl, rfl, q _ ((sameOut_set hw).trans (sameOut_set hw2)) (ga_set (s := .val P1) (ga_set (s := .val P) a rfl ⟨u, rfl, q1⟩) rfl ⟨w, rfl, q2⟩)⟩
theorem s_asg {tg : Expr} {ws : List Nat} (he : Je False X A e P A1) (hg : Jg X ws A1 tg P N) (hs : swapsWithSole [tg] e pos.line X.env = pure false := by rfl) (hw : swappedStores [tg] e X.env = pure none := by rfl) (h1 : (assignEach [tg] X.env).map (·.2) = [assign tg X.env] := by rfl) : Js X A (.Assign [tg] e pos) ⟨N, rt, bk, ct⟩ :=
  ps_imp (ps_asg he hg hs hw h1) fun D σ H ⟨G, s, a, n, r⟩ => ⟨G, s, a, fun v G1 H1 p1 pv => ⟨G1, p1.i, p1.a, pv, fun σ' _ a' => n σ' G1 H1 p1.g p1.i a'⟩⟩
theorem s_set (i : Nat) {x : Str} {pos' : Pos} (hN : X.N.Nodup) (he : Je False X A e P (Ga B Γ)) (hi : X.N[i]? = some x := by rfl) (hx : Loc X.env.scope x := by first | exact Or.inl rfl | exact Or.inr rfl) (hs : swapsWith e (some (.Name x pos')) pos.line X.env = pure false := by rfl) (hf : X.fn x = true ∨ X.env.scope.names.lookup x = some .local := by first | exact .inl rfl | exact .inr rfl) : Js X A (.Assign [.Name x pos'] e pos) ⟨Ga B (Γ.set i (.val P)), rt, bk, ct⟩ :=
  ps_imp (ps_set hN hi hx he hs hf) fun D σ H ⟨G, s, a, n, r⟩ => ⟨G, s, a, fun v G1 H1 p1 pv => n _ G1 H1 p1.g p1.i (ga_set (s := .val P) p1.a rfl ⟨v, rfl, pv⟩)⟩
/-! ### a list of ours -/
/-- an expression that makes a new list -/
def jL (fr : Prop) (A : As) (Ps : List VP) (A' : As) : TE := fun σ H Q => ∃ G, Same G H ∧ A.p σ G H ∧ ∀ l xs G1 H1, Po fr A' σ G H G1 H1 → H1 l = none → AllP Ps xs G1 → Q (.ref l) (upd H1 l (.lst xs))
abbrev Jl (fr : Prop) (X : Cx) (A : As) (e : Expr) (Ps : List VP) (A' : As) : Prop := PE X e (jL fr A Ps A')
theorem l_lst (h : Ja fr X A es Ps A') (hl : Nat.ble Ps.length 1000 = true := by rfl) : Jl fr X A (.List es pos) Ps A' :=
  pe_imp (pe_lst h) fun σ H Q ⟨G, s, p, q⟩ => ⟨G, s, p, fun vs G1 H1 p1 r => ⟨by rw [← Paired.length r]; exact line_le hl, fun l hl => q l vs G1 H1 p1 hl r⟩⟩
theorem base_none {G H : Hp} {l : Addr} (w : Gw B.M B.G0 B.H0 G H) (h : H l = none) : B.H0 l = none := by
  cases e : B.H0 l with
  | none => rfl
  | some u => exact absurd h (w.t l (by rw [e]; exact fun z => nomatch z))
theorem mine_there {G H : Hp} : ∀ {s : Sl} {v : V}, s.ok B G H (some v) → s.mine = true → ∃ a o, v = .ref a ∧ H a = some o
  | .own _, _, ⟨l, xs, e, _, h, _⟩, _ => ⟨l, _, Option.some.inj e, h⟩
  | .obj _ _ _, _, ⟨a, dx, vs, e, _, h, _⟩, _ => ⟨a, _, Option.some.inj e, h⟩
  | .lent _, _, ⟨l, xs, e, _, h, _⟩, _ => ⟨l, _, Option.some.inj e, h⟩
  | .pk _ _ _, _, ⟨xs, e, _, h, _⟩, _ => ⟨_, _, Option.some.inj e, h⟩
theorem ga_apart {σ : L2.St} {G H : Hp} {l : Addr} (h : (Ga B Γ).p σ G H) (hl : H l = none) : ∀ (j : Nat) (t : Sl), Γ[j]? = some t → t.mine = true → σ[j]? ≠ some (some (.ref l)) := fun j t e m q => by
  obtain ⟨o, q2, ok⟩ := ga_get h e
  rw [q] at q2
  cases q2
  obtain ⟨a, u, e1, e2⟩ := mine_there ok m
  cases e1
  rw [hl] at e2
  cases e2
/-- found = [..] -/
theorem s_own (i : Nat) {x : Str} {pos' : Pos} (hN : X.N.Nodup) (he : Jl False X A e Ps (Ga B Γ)) (hi : X.N[i]? = some x := by rfl) (hx : Loc X.env.scope x := by first | exact Or.inl rfl | exact Or.inr rfl) (hs : swapsWith e (some (.Name x pos')) pos.line X.env = pure false := by rfl) (hf : X.fn x = true ∨ X.env.scope.names.lookup x = some .local := by first | exact .inl rfl | exact .inr rfl) : Js X A (.Assign [.Name x pos'] e pos) ⟨Ga B (Γ.set i (.own Ps)), rt, bk, ct⟩ :=
  ps_imp (ps_set hN hi hx he hs hf) fun D σ H ⟨G, s, a, n, r⟩ => ⟨G, s, a, fun l xs G1 H1 p1 hl q => by
    have w : Gw [] G1 H1 G1 (upd H1 l (.lst xs)) := Gw.own p1.i hl
    have gl : G1 l = none := by
      cases e : G1 l with
      | none => rfl
      | some u => rw [p1.i _ _ e] at hl; cases hl
    exact n _ G1 _ p1.g w.i (ga_setOwn ((Ga B Γ).st p1.i p1.a w) ⟨l, xs, rfl, gl, upd_same, base_none p1.a.1 hl, q⟩ fun j t hj e m => ga_apart p1.a hl j t e m)⟩
theorem paired_all {α β : Type} {F F' : α → β → Prop} {l : List α} {m : List β} (p : Paired F l m) : (∀ (j : Nat) (s : α) (o : β), l[j]? = some s → m[j]? = some o → F s o → F' s o) → Paired F' l m := by
  induction p with
  | nil => intro _; exact .nil
  | cons r t ih => intro k; exact .cons (k 0 _ _ rfl rfl r) (ih fun j s o a b c => k (j + 1) s o a b c)
theorem paired_mod {α β : Type} {F F' : α → β → Prop} {l : List α} {m : List β} (p : Paired F l m) : ∀ (i : Nat) (x : α), (∀ (j : Nat) (s : α) (o : β), j ≠ i → l[j]? = some s → m[j]? = some o → F s o → F' s o) → (∀ o, m[i]? = some o → F' x o) → Paired F' (l.set i x) m := by
  induction p with
  | nil => intro i x _ _; exact .nil
  | cons r t ih =>
    intro i x k1 k2
    cases i with
    | zero => exact .cons (k2 _ rfl) (paired_all t fun j s o a b c => k1 (j + 1) s o (Nat.succ_ne_zero j) a b c)
    | succ i => exact .cons (k1 0 _ _ (Ne.symm (Nat.succ_ne_zero i)) rfl rfl r) (ih i x (fun j s o hj a b c => k1 (j + 1) s o (fun z => hj (Nat.succ.inj z)) a b c) fun o a => k2 o a)
/-- the list changes: everything else of ours stands -/
theorem ga_mut {σ : L2.St} {G H : Hp} {i : Nat} {l : Addr} {xs ys : List V} (h : (Ga B Γ).p σ G H) (hi : Γ[i]? = some (.own Ps)) (e : σ[i]? = some (some (.ref l))) (hl : H l = some (.lst xs)) (gl : G l = none) (h0 : B.H0 l = none) (q : AllP Rs ys G) (sG : Same G H) :
    (Ga B (Γ.set i (.own Rs))).p σ G (upd H l (.lst ys)) ∧ Same G (upd H l (.lst ys)) := by
  have w := Gw.mut (o := .lst ys) sG gl
  refine ⟨⟨h.1.trans' w fun x hx => ?_, ?_, ?_⟩, w.i⟩
  · rw [List.mem_singleton.mp hx]; exact .inr h0
  · have key : ∀ (j : Nat) (s : Sl) (o : Option V), j ≠ i → Γ[j]? = some s → σ[j]? = some o → s.ok B G H o → s.ok B G (upd H l (.lst ys)) o := fun j s o hj e1 e2 ok => by
      have ne : ∀ a, o = some (.ref a) → s.mine = true → a ≠ l := fun a ea m z => by
        subst z
        exact h.2.2 j i s _ a hj e1 hi m rfl (by rw [e2, ea]) e
      cases s with
      | any => trivial
      | val P => exact ok
      | own Qs =>
        obtain ⟨l', zs, e3, g3, h3, b3, q3⟩ := ok
        exact ⟨l', zs, e3, g3, by rw [upd_ne (ne l' e3 rfl)]; exact h3, b3, q3⟩
      | obj me C fs =>
        obtain ⟨a, dx, vs, e3, g3, h3, b3, q3⟩ := ok
        exact ⟨a, dx, vs, e3, g3, by rw [upd_ne (ne a e3 rfl)]; exact h3, b3, q3⟩
      | lent Qs =>
        obtain ⟨l', zs, e3, g3, h3, q3⟩ := ok
        exact ⟨l', zs, e3, g3, by rw [upd_ne (ne l' e3 rfl)]; exact h3, q3⟩
      | pk C f Qs =>
        obtain ⟨zs, e3, g3, h3, m3, g4, h4, m4, z4, q3⟩ := ok
        exact ⟨zs, e3, g3, by rw [upd_ne (ne _ e3 rfl)]; exact h3, m3, g4, by rw [upd_ne fun z => z4 (by rw [z]; exact h0)]; exact h4, m4, z4, q3⟩
    exact paired_mod h.2.1 i _ key fun o eo => by
      rw [e] at eo
      cases eo
      exact ⟨l, ys, rfl, gl, upd_same, h0, q⟩
  · intro a b t t' x hab e1 e2 m1 m2 q1 q2
    have back : ∀ (j : Nat) (t : Sl), (Γ.set i (.own Rs))[j]? = some t → ∃ u, Γ[j]? = some u ∧ (t.mine = true → u.mine = true) := fun j t ej => by
      by_cases hj : j = i
      · subst hj; exact ⟨_, hi, fun _ => rfl⟩
      · rw [get_set_ne hj] at ej; exact ⟨t, ej, fun z => z⟩
    obtain ⟨u, eu, mu⟩ := back a t e1
    obtain ⟨u', eu', mu'⟩ := back b t' e2
    exact h.2.2 a b u u' x hab eu eu' (mu m1) (mu' m2) q1 q2
theorem line_eq : (sizeLine : Nat) = 16777216 := rfl
/-- found.append(e) -/
theorem s_append (i : Nat) {x : Str} {pn apos cpos : Pos} {Γ2 : List Sl} (h2 : Γ2[i]? = some (.own Ps)) (h1 : Γ[i]? = some (.own Rs)) (he : Je False X (Ga B Γ) e P (Ga B Γ2)) (hz : Ps.length < sizeLine) (hN : X.N[i]? = some x := by rfl) (hv : Vis X.env.scope x := by first | exact Or.inl rfl | exact Or.inr (Or.inl rfl) | exact Or.inr (Or.inr rfl))
    (hd : (x == ("__debug__" : Str)) = false := by decide) (hcd : (x == ("__classdict__" : Str)) = false := by decide) (hbase : attributeBase (.Name x pn) "append" X.env (eval (.Name x pn) X.env) = eval (.Name x pn) X.env := by rfl) (hline : (apos.endLine == cpos.line) = true := by rfl)
    (hfew : ((backTo cpos (starEach [e] X.env)).all (fun x => !x.1) && (backToKw cpos (keywordEach [] X.env)).all (fun x => x.1.isSome) && decide ([e].length + ([] : List Keyword).length + (if ([] : List Keyword).isEmpty then 0 else 1) < 30)) = true := by rfl)
    (hs : starEach [e] X.env = (false, eval e X.env) :: starEach [] X.env := by rfl) (hplain : (backTo cpos (starEach [] X.env)).any (·.1) = false := by rfl) (hsw : swapsWith (.Call (.Attribute (.Name x pn) "append" apos) [e] [] cpos) none pos.line X.env = pure false := by rfl) :
    Js X (Ga B Γ) (.Expr (.Call (.Attribute (.Name x pn) "append" apos) [e] [] cpos) pos) ⟨Ga B (Γ2.set i (.own (Ps ++ [P]))), rt, bk, ct⟩ :=
  ps_imp (ps_expr (pe_bm PySem.F.plainAttrs_list PySem.F.slot_list_append PySem.F.type_list_append mt_append (pv i hN hv hd hcd) (pa_cons he pa_nil hs) hbase hfew hline hs hplain) hsw) fun D σ H ⟨G, s, a, n, r⟩ => by
    obtain ⟨o, e1, l, xs, rfl, g1, l1, b1, q1⟩ := ga_get a h1
    refine ⟨_, e1, .inl ⟨rfl, xs, SqL.of l1⟩, G, s, a, fun v G1 H1 p1 pv => ?_⟩
    obtain ⟨o', e2, l2, ys, rfl, g2, l2', b2, q2⟩ := ga_get p1.a h2
    rw [e1] at e2
    cases e2
    refine ⟨l, ys, v, rfl, rfl, l2', by rw [← Paired.length q2]; exact hz, ?_⟩
    obtain ⟨z1, z2⟩ := ga_mut p1.a h2 e1 l2' g2 b2 (paired_app q2 (.cons pv .nil)) p1.i
    exact n σ G1 _ p1.g z2 z1
/-- found.extend(e) -/
theorem s_extend (i : Nat) {x : Str} {pn apos cpos : Pos} {Γ2 : List Sl} {Qs : List VP} (h2 : Γ2[i]? = some (.own Ps)) (h1 : Γ[i]? = some (.own Rs)) (he : Je False X (Ga B Γ) e (isL Qs) (Ga B Γ2)) (hz : Ps.length + Qs.length ≤ sizeLine) (hN : X.N[i]? = some x := by rfl) (hv : Vis X.env.scope x := by first | exact Or.inl rfl | exact Or.inr (Or.inl rfl) | exact Or.inr (Or.inr rfl))
    (hd : (x == ("__debug__" : Str)) = false := by decide) (hcd : (x == ("__classdict__" : Str)) = false := by decide) (hbase : attributeBase (.Name x pn) "extend" X.env (eval (.Name x pn) X.env) = eval (.Name x pn) X.env := by rfl) (hline : (apos.endLine == cpos.line) = true := by rfl)
    (hfew : ((backTo cpos (starEach [e] X.env)).all (fun x => !x.1) && (backToKw cpos (keywordEach [] X.env)).all (fun x => x.1.isSome) && decide ([e].length + ([] : List Keyword).length + (if ([] : List Keyword).isEmpty then 0 else 1) < 30)) = true := by rfl)
    (hs : starEach [e] X.env = (false, eval e X.env) :: starEach [] X.env := by rfl) (hplain : (backTo cpos (starEach [] X.env)).any (·.1) = false := by rfl) (hsw : swapsWith (.Call (.Attribute (.Name x pn) "extend" apos) [e] [] cpos) none pos.line X.env = pure false := by rfl) :
    Js X (Ga B Γ) (.Expr (.Call (.Attribute (.Name x pn) "extend" apos) [e] [] cpos) pos) ⟨Ga B (Γ2.set i (.own (Ps ++ Qs))), rt, bk, ct⟩ :=
  ps_imp (ps_expr (pe_bm PySem.F.plainAttrs_list PySem.F.slot_list_extend PySem.F.type_list_extend mt_extend (pv i hN hv hd hcd) (pa_cons he pa_nil hs) hbase hfew hline hs hplain) hsw) fun D σ H ⟨G, s, a, n, r⟩ => by
    obtain ⟨o, e1, l, xs, rfl, g1, l1, b1, q1⟩ := ga_get a h1
    refine ⟨_, e1, .inl ⟨rfl, xs, SqL.of l1⟩, G, s, a, fun v G1 H1 p1 pv => ?_⟩
    obtain ⟨m, zs, rfl, em, qm⟩ := pv
    obtain ⟨o', e2, l2, ys, rfl, g2, l2', b2, q2⟩ := ga_get p1.a h2
    rw [e1] at e2
    cases e2
    refine ⟨l, m, ys, zs, rfl, rfl, l2', p1.i _ _ em, by rw [← Paired.length q2, ← Paired.length qm]; exact hz, ?_⟩
    obtain ⟨z1, z2⟩ := ga_mut p1.a h2 e1 l2' g2 b2 (paired_app q2 qm) p1.i
    exact n σ G1 _ p1.g z2 z1
/-- found[j] = e -/
theorem s_setIx (i : Nat) {n : Nat} {x : Str} {pn ps : Pos} {ix : Expr} {z : Int} {Γ2 : List Sl} (h2 : Γ2[i]? = some (.own Ps)) (he : Je False X A e P (Ga B Γ)) (hj : Je False X (Ga B Γ) ix (isI z) (Ga B Γ2)) (h1 : Γ[i]? = some (.own Rs)) (hz : ixN Ps.length z = some n) (hN : X.N[i]? = some x := by rfl) (hv : Vis X.env.scope x := by first | exact Or.inl rfl | exact Or.inr (Or.inl rfl) | exact Or.inr (Or.inr rfl)) (hd : (x == ("__debug__" : Str)) = false := by decide) (hcd : (x == ("__classdict__" : Str)) = false := by decide)
    (ha : ∀ v, assign (.Subscript (.Name x pn) ix ps) X.env v = (do let ov ← holding [v] (eval (.Name x pn) X.env); let iv ← holding [v, ov] (eval ix X.env); standAt ps; holding [v, ov, iv] (setItem ov iv v); release [v, ov, iv] []) := by intro _; rfl)
    (hs : swapsWithSole [.Subscript (.Name x pn) ix ps] e pos.line X.env = pure false := by rfl) (hw : swappedStores [.Subscript (.Name x pn) ix ps] e X.env = pure none := by rfl) (h1' : (assignEach [.Subscript (.Name x pn) ix ps] X.env).map (·.2) = [assign (.Subscript (.Name x pn) ix ps) X.env] := by rfl) :
    Js X A (.Assign [.Subscript (.Name x pn) ix ps] e pos) ⟨Ga B (Γ2.set i (.own (Ps.set n P))), rt, bk, ct⟩ :=
  ps_imp (ps_asg he (pg_sub (pv i hN hv hd hcd) hj set_list ha) hs hw h1') fun D σ H ⟨G, s, a, nx, r⟩ => ⟨G, s, a, fun v G1 H1 p1 pv => by
    obtain ⟨o, e1, l, xs, rfl, g1, l1, b1, q1⟩ := ga_get p1.a h1
    refine ⟨_, e1, G1, p1.i, p1.a, fun w G2 H2 p2 pw => ?_⟩
    obtain ⟨o', e2, l2, ys, rfl, g2, l2', b2, q2⟩ := ga_get p2.a h2
    rw [e1] at e2
    cases e2
    have pw' : w = .int z := pw
    refine ⟨l, ys, z, n, rfl, pw', l2', by rw [← Paired.length q2]; exact hz, ?_⟩
    obtain ⟨z1, z2⟩ := ga_mut p2.a h2 e1 l2' g2 b2 (paired_set (F := fun (P : VP) (x : V) => P.p x G2) (x := P) (y := v) (P.up p2.g pv) n q2) p2.i
    exact nx σ G2 _ (Same.trans p1.g p2.g) z2 z1⟩
/-- reading a list of ours -/
theorem e_ownIx (i : Nat) {x : Str} {pn : Pos} {z : Int} {Γ2 : List Sl} (h2 : Γ2[i]? = some (.own Ps)) (hb : Je fr X (Ga B Γ) b (isI z) (Ga B Γ2)) (h1 : Γ[i]? = some (.own Rs)) (h : atI Ps z = some R) (hs : PlainIx b := by exact fun _ _ => rfl) (hN : X.N[i]? = some x := by rfl) (hv : Vis X.env.scope x := by first | exact Or.inl rfl | exact Or.inr (Or.inl rfl) | exact Or.inr (Or.inr rfl))
    (hd : (x == ("__debug__" : Str)) = false := by decide) (hcd : (x == ("__classdict__" : Str)) = false := by decide) : Je fr X (Ga B Γ) (.Subscript (.Name x pn) b pos) R (Ga B Γ2) :=
  pe_imp (pe_ix ix_list (pv i hN hv hd hcd) hb hs) fun σ H Q ⟨G, s, a, q⟩ => by
    obtain ⟨o, e1, l, xs, rfl, g1, l1, b1, q1⟩ := ga_get a h1
    refine ⟨_, e1, G, s, a, fun w G2 H2 p2 pw => ?_⟩
    obtain ⟨o', e2, l2, ys, rfl, g2, l2', b2, q2⟩ := ga_get p2.a h2
    rw [e1] at e2
    cases e2
    have pw' : w = .int z := pw
    obtain ⟨u, eu, pu⟩ := atI_pair q2 h
    exact ⟨l, ys, z, u, rfl, pw', SqL.of l2', eu, q u G2 H2 p2 pu⟩
theorem e_ownLen (i : Nat) {x : Str} {pn p : Pos} (hm : X.mg "len" = none) (h1 : Γ[i]? = some (.own Ps)) (hN : X.N[i]? = some x := by rfl) (hv : Vis X.env.scope x := by first | exact Or.inl rfl | exact Or.inr (Or.inl rfl) | exact Or.inr (Or.inr rfl)) (hg : Gl X "len" := by rfl)
    (hd : (x == ("__debug__" : Str)) = false := by decide) (hcd : (x == ("__classdict__" : Str)) = false := by decide) (he : starEach [.Name x pn] X.env = (false, eval (.Name x pn) X.env) :: starEach [] X.env := by rfl) (hpl : (backTo pos (starEach [] X.env)).any (·.1) = false := by rfl) : Je fr X (Ga B Γ) (.Call (.Name "len" p) [.Name x pn] [] pos) (isI (Ps.length : Int)) (Ga B Γ) :=
  pe_imp (pe_callB call_len_seq hg hm PySem.boot_len (pa_cons (pv i hN hv hd hcd) pa_nil he) (by decide) (by decide) he hpl) fun σ H Q ⟨G, s, a, q⟩ => by
    obtain ⟨o, e1, l, xs, rfl, g1, l1, b1, q1⟩ := ga_get a h1
    exact ⟨_, e1, l, xs, rfl, .inl (SqL.of l1), q _ G H (Po.refl s a) (by rw [Paired.length q1]; rfl)⟩
end
end Q
/-! Loops, what is walked, comprehensions. -/
namespace Q
open L2 PySem PySem.Spec PyProof.Rows
section
variable {X : Cx} {fr : Prop} {A A' A1 A2 A3 N M bk ct : As} {B : Bs} {Γ Γ' Γ1 : List Sl} {P P1 P2 R post : VP} {Ps Rs : List VP} {e a b c tg iter elt : Expr} {es ifs : List Expr} {pos : Pos} {k : Bool} {rt : V → Hp → Hp → Prop} {st : Stmt} {rest t f body : List Stmt} {o : Out} {ws : List Nat}
/-- those of a family that come behind i -/
def As.less {ι : Type} (I : ι → As) (m : ι → Nat) (i : ι) : As := As.ex fun j : {j // m j < m i} => I j.1
theorem le_less {ι : Type} {I : ι → As} {m : ι → Nat} {i : ι} (j : ι) (hj : m j < m i) (h : As.le A (I j)) : As.le A (As.less I m i) := fun σ G H s a => ⟨⟨j, hj⟩, h σ G H s a⟩
theorem s_while {ι : Type} (I : ι → As) (m : ι → Nat) (k : ι → Bool) (i0 : ι) (h0 : As.le A (I i0)) (hc : ∀ i, Jt False X (I i) c (k i) (I i)) (hb : ∀ i, k i = true → Jb X (I i) body ⟨As.less I m i, rt, N, As.less I m i⟩) (hd : ∀ i, k i = false → As.le (I i) N)
    (hp : PassesOwn (model X.prog X.w) X.A X.env X.xe := by exact PassesOwn.never) : Js X A (.While c body [] pos) ⟨N, rt, bk, ct⟩ :=
  ps_imp (ps_while hp (pt_any hc) (pss_any fun z : {i // k i = true} => hb z.1 z.2)) fun D σ H ⟨G, s, a, n, r, b, c⟩ => by
    refine ⟨fun q σ H => ∃ i G', m i = q ∧ Same G G' ∧ Same G' H ∧ (I i).p σ G' H, ⟨m i0, i0, G, rfl, Same.refl _, s, h0 σ G H s a⟩, ?_⟩
    rintro q σ1 H1 ⟨i, G1, rfl, g1, s1, a1⟩
    refine ⟨i, G1, s1, a1, fun G2 H2 p2 => ?_⟩
    cases hk : k i with
    | false => exact iteF (n σ1 G2 H2 (Same.trans g1 p2.g) p2.i (hd i hk σ1 G2 H2 p2.i p2.a))
    | true =>
      refine iteT ⟨fun σ3 H3 => ∃ G3, Same G2 G3 ∧ Same G3 H3 ∧ (As.less I m i).p σ3 G3 H3, ?_, ⟨i, hk⟩, G2, p2.i, p2.a, ?_⟩
      · rintro σ3 H3 ⟨G3, g3, s3, ⟨j, hj⟩, a3⟩
        exact ⟨m j, hj, j, G3, rfl, Same.trans g1 (Same.trans p2.g g3), s3, a3⟩
      · exact ⟨fun σ3 G3 H3 g3 s3 a3 => ⟨G3, g3, s3, a3⟩, r, fun σ3 G3 H3 g3 s3 a3 => n σ3 G3 H3 (Same.trans g1 (Same.trans p2.g g3)) s3 a3, fun σ3 G3 H3 g3 s3 a3 => ⟨G3, g3, s3, a3⟩⟩
/-- for: I k ahead of turn k, J k behind the target's store -/
theorem s_for (I J : Nat → As) (hi : Ji False X A tg iter Ps A1) (h0 : As.le A1 (I 0)) (hg : ∀ k P, Ps[k]? = some P → Jg X ws (I k) tg P (J k)) (hb : ∀ k P, Ps[k]? = some P → Jb X (J k) body ⟨I (k + 1), rt, N, I (k + 1)⟩) (hd : As.le (I Ps.length) N)
    (hp : PassesOwn (model X.prog X.w) X.A X.env X.xe := by exact PassesOwn.never) (hc : X.calm = true := by rfl) (hs : ∀ x, foldedSetIterable iter X.env x = pure x := by intro _; rfl) : Js X A (.For tg iter body [] pos) ⟨N, rt, bk, ct⟩ :=
  ps_imp (ps_for hp hc hi (pg_any fun z : {z : Nat × VP // Ps[z.1]? = some z.2} => hg z.1.1 z.1.2 z.2) (pss_any fun z : {z : Nat × VP // Ps[z.1]? = some z.2} => hb z.1.1 z.1.2 z.2) hs) fun D σ H ⟨G, s, a, n, r, b, c⟩ => by
    refine ⟨G, s, a, fun J0 G1 H1 p1 w => ⟨fun i m σ H => i + m = Ps.length ∧ ∃ G', Same G1 G' ∧ Same G' H ∧ (I i).p σ G' H, ⟨Ps.length, Nat.zero_add _, G1, Same.refl _, p1.i, h0 σ G1 H1 p1.i p1.a⟩, ?_⟩⟩
    rintro i m σ2 H2 ⟨em, G2, g2, s2, a2⟩
    by_cases hi : i < Ps.length
    · refine .inr ⟨w.goes i G2 H2 hi g2 s2, fun σ' H' => ∃ G', Same G2 G' ∧ Same G' H' ∧ (I (i + 1)).p σ' G' H', ?_, ?_⟩
      · rintro σ3 H3 ⟨G3, g3, s3, a3⟩
        exact ⟨Ps.length - (i + 1), by omega, by omega, G3, Same.trans g2 g3, s3, a3⟩
      · intro x H3 hy
        obtain ⟨P, hP⟩ : ∃ P, Ps[i]? = some P := ⟨_, List.getElem?_eq_getElem hi⟩
        obtain ⟨G3, w3, px⟩ := w.yields i P G2 H2 x H3 hP g2 s2 hy
        refine ⟨⟨(i, P), hP⟩, G3, w3.i, (I i).st s2 a2 w3, px, fun σ3 _ a3 => ⟨⟨(i, P), hP⟩, G3, w3.i, a3, fun σ4 G4 H4 g4 s4 a4 => ⟨G4, Same.trans w3.g g4, s4, a4⟩, r, fun σ4 G4 H4 g4 s4 a4 => n σ4 G4 H4 (Same.trans p1.g (Same.trans g2 (Same.trans w3.g g4))) s4 a4, fun σ4 G4 H4 g4 s4 a4 => ⟨G4, Same.trans w3.g g4, s4, a4⟩⟩⟩
    · have ei : i = Ps.length := by omega
      subst ei
      exact .inl ⟨w.stops G2 H2 g2 s2, n σ2 G2 H2 (Same.trans p1.g g2) s2 (hd σ2 G2 H2 s2 a2)⟩
/-! ### what is walked -/
theorem vals_uniq {K : PySem.W.Frag} {H : Hp} {a : Addr} {xs : List V} (h : H a = some (.lst xs)) : SqL K H a xs := SqL.of h
theorem i_list (he : Je fr X A iter (isL Ps) A1) : Ji fr X A tg iter Ps A1 :=
  pi_imp (pi_list he) fun σ H R ⟨G, s, a, q⟩ => ⟨G, s, a, fun v G1 H1 p1 ⟨l, xs, e1, e2, e3⟩ => ⟨l, e1, ⟨xs, SqL.of (p1.i _ _ e2)⟩, q _ G1 H1 p1 ⟨fun i G2 H2 hi g s => by
      obtain ⟨y, ey, _⟩ := paired_at e3 (List.getElem?_eq_getElem hi)
      exact ⟨xs, y, SqL.of (s _ _ (g _ _ e2)), ey⟩, fun G2 H2 g s => ⟨xs, SqL.of (s _ _ (g _ _ e2)), Nat.le_of_eq (Paired.length e3).symm⟩, fun i P G2 H2 x H3 hP g s ⟨eH, k⟩ => by
      subst eH
      obtain ⟨y, ey, py⟩ := paired_at e3 hP
      have z := k xs (SqL.of (s _ _ (g _ _ e2)))
      rw [ey] at z
      cases z
      exact ⟨G2, Gw.refl s, P.up g py⟩⟩⟩⟩
theorem i_listQ (he : Je fr X A iter (isQ X.K Ps) A1) : Ji fr X A tg iter Ps A1 :=
  pi_imp (pi_list he) fun σ H R ⟨G, s, a, q⟩ => ⟨G, s, a, fun v G1 H1 p1 ⟨l, xs, e1, e2, e3⟩ => ⟨l, e1, ⟨xs, same_sqL p1.i e2⟩, q _ G1 H1 p1 ⟨fun i G2 H2 hi g s => by
      obtain ⟨y, ey, _⟩ := paired_at e3 (List.getElem?_eq_getElem hi)
      exact ⟨xs, y, same_sqL (Same.trans g s) e2, ey⟩, fun G2 H2 g s => ⟨xs, same_sqL (Same.trans g s) e2, Nat.le_of_eq (Paired.length e3).symm⟩, fun i P G2 H2 x H3 hP g s ⟨eH, k⟩ => by
      subst eH
      obtain ⟨y, ey, py⟩ := paired_at e3 hP
      have z := k xs (same_sqL (Same.trans g s) e2)
      rw [ey] at z
      cases z
      exact ⟨G2, Gw.refl s, P.up g py⟩⟩⟩⟩
theorem i_tup (he : Je fr X A iter (isT Ps) A1) : Ji fr X A tg iter Ps A1 :=
  pi_imp (pi_tup he) fun σ H R ⟨G, s, a, q⟩ => ⟨G, s, a, fun v G1 H1 p1 ⟨l, xs, e1, e2, e3⟩ => ⟨l, e1, ⟨xs, SqT.of (p1.i _ _ e2)⟩, q _ G1 H1 p1 ⟨fun i G2 H2 hi g s => by
      obtain ⟨y, ey, _⟩ := paired_at e3 (List.getElem?_eq_getElem hi)
      exact ⟨xs, y, SqT.of (s _ _ (g _ _ e2)), ey⟩, fun G2 H2 g s => ⟨xs, SqT.of (s _ _ (g _ _ e2)), Nat.le_of_eq (Paired.length e3).symm⟩, fun i P G2 H2 x H3 hP g s ⟨eH, k⟩ => by
      subst eH
      obtain ⟨y, ey, py⟩ := paired_at e3 hP
      have z := k xs (SqT.of (s _ _ (g _ _ e2)))
      rw [ey] at z
      cases z
      exact ⟨G2, Gw.refl s, P.up g py⟩⟩⟩⟩
def numP (lo : Int) (n : Nat) : List VP := (List.range n).map fun (i : Nat) => isI (lo + (i : Int))
theorem numP_len {lo : Int} {n : Nat} : (numP lo n).length = n := by unfold numP; rw [List.length_map, List.length_range]
theorem numP_at {lo : Int} {n i : Nat} {P : VP} (h : (numP lo n)[i]? = some P) : i < n ∧ P = isI (lo + (i : Int)) := by
  have hi : i < n := by
    have := (List.getElem?_eq_some_iff.mp h).1
    rwa [numP_len] at this
  unfold numP at h
  rw [List.getElem?_map, List.getElem?_range hi] at h
  exact ⟨hi, (Option.some.inj h).symm⟩
theorem wp_range {lo : Int} {n : Nat} {G : Hp} : WP (Itr lo n) (numP lo n) G := ⟨fun i G2 H2 hi _ _ => by rw [numP_len] at hi; exact hi, fun G2 H2 _ _ => by rw [numP_len]; exact Nat.le_refl n, fun i P G2 H2 x H3 hP g s ⟨eH, ex⟩ => by
  subst eH
  obtain ⟨_, rfl⟩ := numP_at hP
  exact ⟨G2, Gw.refl s, ex⟩⟩
theorem i_range1 {p : Pos} {n : Nat} (hm : X.mg "range" = none) (ha : Ja fr X A [a] [isI (n : Int)] A1) (hn : n ≤ 100000000) (hg : Gl X "range" := by rfl) (hs : starEach [a] X.env = [(false, eval a X.env)] := by rfl) : Ji fr X A tg (.Call (.Name "range" p) [a] [] pos) (numP 0 n) A1 :=
  pi_imp (pi_range1 hg hm ha hs) fun σ H R ⟨G, s, a, q⟩ => ⟨G, s, a, fun vs G1 H1 p1 r => by
    obtain ⟨v, rfl, rfl⟩ := paired_one r
    exact ⟨n, rfl, by omega, by omega, q _ G1 H1 p1 wp_range⟩⟩
theorem i_range2 {p : Pos} {i j : Int} (hm : X.mg "range" = none) (ha : Ja fr X A [a, b] [isI i, isI j] A1) (hi : -(2 ^ 62) ≤ i ∧ i < 2 ^ 62 ∧ -(2 ^ 62) ≤ j ∧ j < 2 ^ 62) (hg : Gl X "range" := by rfl) (hs : starEach [a, b] X.env = [(false, eval a X.env), (false, eval b X.env)] := by rfl) (hs2 : starEach [b] X.env = [(false, eval b X.env)] := by rfl) : Ji fr X A tg (.Call (.Name "range" p) [a, b] [] pos) (numP i (j - i).toNat) A1 :=
  pi_imp (pi_range2 hg hm ha hs hs2) fun σ H R ⟨G, s, a, q⟩ => ⟨G, s, a, fun vs G1 H1 p1 r => by
    obtain ⟨v, w, rfl, e1, e2⟩ := paired_two r
    have e1' : v = .int i := e1
    have e2' : w = .int j := e2
    subst e1' e2'
    exact ⟨i, j, rfl, hi, q _ G1 H1 p1 wp_range⟩⟩
/-- the signs of a text -/
def sgnP (x : Str) : List VP := x.cps.toList.map fun c => isS ⟨#[c]⟩
theorem i_str {x : Str} (he : Je fr X A iter (isS x) A1) : Ji fr X A tg iter (sgnP x) A1 :=
  pi_imp (pi_str he) fun σ H R ⟨G, s, a, q⟩ => ⟨G, s, a, fun v G1 H1 p1 e => ⟨x, e, q _ G1 H1 p1 ⟨fun i G2 H2 hi _ _ => by
    unfold sgnP at hi
    rw [List.length_map, Array.length_toList] at hi
    exact hi, fun G2 H2 _ _ => by
    show x.cps.size ≤ (sgnP x).length
    unfold sgnP
    (rw [List.length_map, Array.length_toList])
    exact Nat.le_refl _, fun i P G2 H2 y H3 hP g s ⟨eH, c, ec, ey⟩ => by
    subst eH
    unfold sgnP at hP
    rw [List.getElem?_map, Array.getElem?_toList, ec] at hP
    cases hP
    exact ⟨G2, Gw.refl s, ey⟩⟩⟩⟩
/-- each item with its place -/
def numd (Ps : List VP) : List VP := Ps.zipIdx.map fun z => isT [isI (z.2 : Int), z.1]
theorem numd_len : (numd Ps).length = Ps.length := by unfold numd; rw [List.length_map, List.length_zipIdx]
theorem numd_at {i : Nat} {R : VP} (h : (numd Ps)[i]? = some R) : ∃ P, Ps[i]? = some P ∧ R = isT [isI (i : Int), P] := by
  unfold numd at h
  rw [List.getElem?_map, List.getElem?_zipIdx] at h
  cases e : Ps[i]? with
  | none => (rw [e] at h; cases h)
  | some P =>
    rw [e] at h
    refine ⟨P, rfl, ?_⟩
    have := (Option.some.inj h).symm
    rw [Nat.zero_add] at this
    exact this
theorem pair_new {G H : Hp} {T : Addr} {x y : V} {P P' : VP} (s : Same G H) (hT : H T = none) (px : P.p x G) (py : P'.p y G) : ∃ G', Gw [] G H G' (upd H T (.tup [x, y])) ∧ (isT [P, P']).p (.ref T) G' := by
  have w : Gw [] G H (upd G T (.tup [x, y])) (upd H T (.tup [x, y])) := Gw.new s hT
  exact ⟨_, w, T, [x, y], rfl, upd_same, .cons (P.up w.g px) (.cons (P'.up w.g py) .nil)⟩
theorem i_enum {elts : List Expr} {kk : Nat} {tpos p : Pos} (hm : X.mg "enumerate" = none) (ha : Ja fr X A [e] [isL Ps] A1) (hg : Gl X "enumerate" := by rfl) (hs : starEach [e] X.env = [(false, eval e X.env)] := by rfl) : Ji fr X A (.Tuple elts kk tpos) (.Call (.Name "enumerate" p) [e] [] pos) (numd Ps) A1 :=
  pi_imp (pi_enum hg hm ha hs) fun σ H R ⟨G, s, a, q⟩ => ⟨G, s, a, fun vs G1 H1 p1 r => by
    obtain ⟨v, rfl, l, xs, rfl, e2, e3⟩ := paired_one r
    refine ⟨l, xs, rfl, SqL.of (p1.i _ _ e2), q _ G1 H1 p1 ⟨fun i G2 H2 hi g s => ?_, fun G2 H2 g s => ⟨xs, SqL.of (s _ _ (g _ _ e2)), Nat.le_of_eq ((Paired.length e3).symm.trans numd_len.symm)⟩, fun i R G2 H2 x H3 hP g s ⟨T, y, ex, hT, eH, k⟩ => ?_⟩⟩
    · rw [numd_len] at hi
      obtain ⟨y, ey, _⟩ := paired_at e3 (List.getElem?_eq_getElem hi)
      exact ⟨xs, y, SqL.of (s _ _ (g _ _ e2)), ey⟩
    · subst eH ex
      obtain ⟨P, hP', rfl⟩ := numd_at hP
      obtain ⟨y', ey, py⟩ := paired_at e3 hP'
      have z := k xs (SqL.of (s _ _ (g _ _ e2)))
      rw [ey] at z
      cases z
      exact pair_new s hT rfl (P.up g py)⟩
def zipd (Ps Rs : List VP) : List VP := (Ps.zip Rs).map fun z => isT [z.1, z.2]
theorem zipd_at {i : Nat} {R : VP} (h : (zipd Ps Rs)[i]? = some R) : ∃ P P', Ps[i]? = some P ∧ Rs[i]? = some P' ∧ R = isT [P, P'] := by
  unfold zipd at h
  rw [List.getElem?_map] at h
  cases e : (Ps.zip Rs)[i]? with
  | none => (rw [e] at h; cases h)
  | some z =>
    rw [e] at h
    obtain ⟨h1, h2⟩ := List.getElem?_zip_eq_some.mp e
    exact ⟨z.1, z.2, h1, h2, (Option.some.inj h).symm⟩
theorem zipd_len : (zipd Ps Rs).length = min Ps.length Rs.length := by unfold zipd; rw [List.length_map, List.length_zip]
theorem i_zip {elts : List Expr} {kk : Nat} {tpos p : Pos} (hm : X.mg "zip" = none) (ha : Ja fr X A [e, a] [isL Ps, isL Rs] A1) (hg : Gl X "zip" := by rfl) (hs : starEach [e, a] X.env = (false, eval e X.env) :: starEach [a] X.env := by rfl) (hpl : (backTo pos (starEach [a] X.env)).any (·.1) = false := by rfl) : Ji fr X A (.Tuple elts kk tpos) (.Call (.Name "zip" p) [e, a] [] pos) (zipd Ps Rs) A1 :=
  pi_imp (pi_zip hg hm ha hs hpl) fun σ H R ⟨G, s, a, q⟩ => ⟨G, s, a, fun vs G1 H1 p1 r => by
    obtain ⟨v, w, rfl, ⟨l, xs, rfl, e2, e3⟩, m, ys, rfl, f2, f3⟩ := paired_two r
    have L1 := Paired.length e3
    have L2 := Paired.length f3
    refine ⟨l, m, xs, ys, rfl, SqL.of (p1.i _ _ e2), SqL.of (p1.i _ _ f2), q _ G1 H1 p1 ⟨fun i G2 H2 hi g s => ?_, fun G2 H2 g s => ⟨xs, ys, SqL.of (s _ _ (g _ _ e2)), SqL.of (s _ _ (g _ _ f2)), by rw [zipd_len]; omega⟩, fun i R G2 H2 x H3 hP g s ⟨T, y, z, ex, hT, eH, k1, k2⟩ => ?_⟩⟩
    · rw [zipd_len] at hi
      obtain ⟨y, ey, _⟩ := paired_at e3 (List.getElem?_eq_getElem (show i < Ps.length by omega))
      obtain ⟨z, ez, _⟩ := paired_at f3 (List.getElem?_eq_getElem (show i < Rs.length by omega))
      exact ⟨xs, ys, y, z, SqL.of (s _ _ (g _ _ e2)), SqL.of (s _ _ (g _ _ f2)), ey, ez⟩
    · subst eH ex
      obtain ⟨P, P', h1, h2, rfl⟩ := zipd_at hP
      obtain ⟨y', ey, py⟩ := paired_at e3 h1
      obtain ⟨z', ez, pz⟩ := paired_at f3 h2
      have q1 := k1 xs (SqL.of (s _ _ (g _ _ e2)))
      have q2 := k2 ys (SqL.of (s _ _ (g _ _ f2)))
      rw [ey] at q1
      rw [ez] at q2
      cases q1
      cases q2
      exact pair_new s hT (P.up g py) (P'.up g pz)⟩
theorem i_zipT {elts : List Expr} {kk : Nat} {tpos p : Pos} (hm : X.mg "zip" = none) (ha : Ja fr X A [e, a] [isT Ps, isT Rs] A1) (hg : Gl X "zip" := by rfl) (hs : starEach [e, a] X.env = (false, eval e X.env) :: starEach [a] X.env := by rfl) (hpl : (backTo pos (starEach [a] X.env)).any (·.1) = false := by rfl) : Ji fr X A (.Tuple elts kk tpos) (.Call (.Name "zip" p) [e, a] [] pos) (zipd Ps Rs) A1 :=
  pi_imp (RZ.pi_zipA hg hm ha hs hpl) fun σ H R ⟨G, s, a, q⟩ => ⟨G, s, a, fun vs G1 H1 p1 r => by
    obtain ⟨v, w, rfl, ⟨l, xs, rfl, e2, e3⟩, m, ys, rfl, f2, f3⟩ := paired_two r
    have L1 := Paired.length e3
    have L2 := Paired.length f3
    refine ⟨l, m, xs, ys, rfl, .inr ⟨SqT.of (p1.i _ _ e2), SqT.of (p1.i _ _ f2), q _ G1 H1 p1 ⟨fun i G2 H2 hi g s => ?_, fun G2 H2 g s => ⟨xs, ys, SqT.of (s _ _ (g _ _ e2)), SqT.of (s _ _ (g _ _ f2)), by rw [zipd_len]; omega⟩, fun i R G2 H2 x H3 hP g s ⟨T, y, z, ex, hT, eH, k1, k2⟩ => ?_⟩⟩⟩
    · rw [zipd_len] at hi
      obtain ⟨y, ey, _⟩ := paired_at e3 (List.getElem?_eq_getElem (show i < Ps.length by omega))
      obtain ⟨z, ez, _⟩ := paired_at f3 (List.getElem?_eq_getElem (show i < Rs.length by omega))
      exact ⟨xs, ys, y, z, SqT.of (s _ _ (g _ _ e2)), SqT.of (s _ _ (g _ _ f2)), ey, ez⟩
    · subst eH ex
      obtain ⟨P, P', h1, h2, rfl⟩ := zipd_at hP
      obtain ⟨y', ey, py⟩ := paired_at e3 h1
      obtain ⟨z', ez, pz⟩ := paired_at f3 h2
      have q1 := k1 xs (SqT.of (s _ _ (g _ _ e2)))
      have q2 := k2 ys (SqT.of (s _ _ (g _ _ f2)))
      rw [ey] at q1
      rw [ez] at q2
      cases q1
      cases q2
      exact pair_new s hT (P.up g py) (P'.up g pz)⟩
/-! ### comprehensions -/
theorem wipe_same {σ σ' : L2.St} {ws : List Nat} (h : SameOut ws σ σ') : wipe σ' ws = wipe σ ws := by
  apply List.ext_getElem?
  intro i
  by_cases hi : i ∈ ws
  · have key : ∀ (τ : L2.St) (vs : List Nat), i ∈ vs → (wipe τ vs)[i]? = if i < τ.length then some none else none := fun τ vs => by
      induction vs with
      | nil => intro z; cases z
      | cons v vs ih =>
        intro z
        show ((wipe τ vs).set v none)[i]? = _
        rw [List.getElem?_set]
        by_cases e : v = i
        · subst e; simp [wipe_length]
        · rw [if_neg e]
          exact ih ((List.mem_cons.mp z).resolve_left (Ne.symm e))
    rw [key σ' ws hi, key σ ws hi, h.1]
  · rw [wipe_out hi, wipe_out hi]
    exact h.2 i hi
def wipeG (Γ : List Sl) : List Nat → List Sl
  | [] => Γ
  | v :: vs => (wipeG Γ vs).set v .any
theorem ga_wipe {σ : L2.St} {G H : Hp} (h : (Ga B Γ).p σ G H) : ∀ ws : List Nat, (Ga B (wipeG Γ ws)).p (wipe σ ws) G H
  | [] => h
  | v :: vs => ga_set (s := .any) (ga_wipe h vs) rfl trivial
abbrev Jts (fr : Prop) (X : Cx) (A : As) (ifs : List Expr) (b : Bool) (A' : As) : Prop := PTs X ifs (jT fr A b A')
theorem ts_nil : Jts fr X A [] true A := pts_imp pts_nil fun σ H Q ⟨G, s, a, q⟩ => q G H (Po.refl s a)
theorem ts_one (h : Jt fr X A c k A') : Jts fr X A [c] k A' := pts_one h
/-- the list that a comprehension makes -/
theorem lc_of {α : Type} {Γb : α → List Sl} (xs : List α) (src : α → VP) (p : α → Bool) (g : α → VP) (hn : xs.length < sizeLine) :
    ∀ σ H Q, jE fr A (isL ((xs.filter p).map g)) (Ga B Γ) σ H Q →
      tLc (jI fr A (xs.map src) (Ga B Γ)) (fun v σ H Q => ∃ z : {x // x ∈ xs}, jG ws (Ga B (wipeG Γ ws)) (src z.1) (Ga B (Γb z.1)) v σ H Q) (fun σ H Q => ∃ z : {x // x ∈ xs}, jT True (Ga B (Γb z.1)) (p z.1) (Ga B (Γb z.1)) σ H Q)
        (fun σ H Q => ∃ z : {x // x ∈ xs ∧ p x = true}, jE True (Ga B (Γb z.1)) (g z.1) (Ga B (Γb z.1)) σ H Q) ws σ H Q := fun σ H Q ⟨G, s, a, q⟩ => by
  refine ⟨G, s, a, fun J G1 H1 p1 w D hD => ?_⟩
  have hl : (xs.map src).length = xs.length := List.length_map _
  let Iv : Nat → Hp → Prop := fun i H => ∃ G' acc, Gw [] G1 (upd H1 D (.lst [])) G' H ∧ G' D = none ∧ H D = some (.lst acc) ∧ AllP (((xs.take i).filter p).map g) acc G'
  refine ⟨fun i m H => i + m = xs.length ∧ ((i = 0 ∧ H = upd H1 D (.lst [])) ∨ ∃ G' acc, Gw [] G1 H1 G' (fun b => if b = D then none else H b) ∧ Same G' H ∧ G' D = none ∧ H D = some (.lst acc) ∧ AllP (((xs.take i).filter p).map g) acc G'), ⟨xs.length, Nat.zero_add _, .inl ⟨rfl, rfl⟩⟩, ?_⟩
  have gD : G1 D = none := by
    cases e : G1 D with
    | none => rfl
    | some u => rw [p1.i _ _ e] at hD; cases hD
  have start : ∀ i m H, (i + m = xs.length ∧ ((i = 0 ∧ H = upd H1 D (.lst [])) ∨ ∃ G' acc, Gw [] G1 H1 G' (fun b => if b = D then none else H b) ∧ Same G' H ∧ G' D = none ∧ H D = some (.lst acc) ∧ AllP (((xs.take i).filter p).map g) acc G')) → ∃ G' acc, Gw [] G1 H1 G' (fun b => if b = D then none else H b) ∧ Same G' H ∧ G' D = none ∧ H D = some (.lst acc) ∧ AllP (((xs.take i).filter p).map g) acc G' := by
    rintro i m H ⟨_, ⟨rfl, rfl⟩ | z⟩
    · refine ⟨G1, [], ⟨Same.refl _, fun b o _ e => ?_, fun b o e => ?_, fun _ h _ => h, fun b h => ?_⟩, (Gw.own (M := []) p1.i hD).i, gD, upd_same, .nil⟩
      · have hb : b ≠ D := fun z => by rw [z, hD] at e; cases e
        show (if b = D then none else upd H1 D (.lst []) b) = _
        rw [if_neg hb, upd_ne hb]; exact e
      · have hb : b ≠ D := fun z => by rw [z, gD] at e; cases e
        show (if b = D then none else upd H1 D (.lst []) b) = _
        rw [if_neg hb, upd_ne hb]; exact p1.i _ _ e
      · show (if b = D then none else upd H1 D (.lst []) b) ≠ none
        have hb : b ≠ D := fun z => h (by rw [z]; exact hD)
        rw [if_neg hb, upd_ne hb]; exact h
    · exact z
  intro i m H2 hW
  obtain ⟨G2, acc, w2, s2, g2, d2, q2⟩ := start i m H2 hW
  have em := hW.1
  have w2' : Gw [] G1 H1 G2 H2 := ⟨w2.g, fun b o hb e => by
      have z := w2.h b o hb e
      have hb : b ≠ D := fun z => by rw [z, hD] at e; cases e
      rw [if_neg hb] at z
      exact z, s2, w2.n, fun b h => by
      have z := w2.t b h
      have hb : b ≠ D := fun z => h (by rw [z]; exact hD)
      rw [if_neg hb] at z
      exact z⟩
  by_cases hi : i < xs.length
  · refine .inr ⟨w.goes i G2 H2 (by rw [hl]; exact hi) w2.g s2, fun H3 => ∃ G' acc, Gw [] G1 H1 G' (fun b => if b = D then none else H3 b) ∧ Same G' H3 ∧ G' D = none ∧ H3 D = some (.lst acc) ∧ AllP (((xs.take (i + 1)).filter p).map g) acc G', fun H3 h3 => ⟨xs.length - (i + 1), by omega, by omega, .inr h3⟩, ?_⟩
    intro x H3 hy
    have hx : xs[i]? = some xs[i] := List.getElem?_eq_getElem hi
    have hm : xs[i] ∈ xs := List.getElem_mem hi
    obtain ⟨G3, w3, px⟩ := w.yields i (src xs[i]) G2 H2 x H3 (by rw [List.getElem?_map, hx] <;> rfl) w2.g s2 hy
    have tk : xs.take (i + 1) = xs.take i ++ [xs[i]] := by rw [List.take_succ, hx]; rfl
    have a3 : (Ga B (wipeG Γ ws)).p (wipe σ ws) G3 H3 := ga_wipe ((Ga B Γ).st s2 ((Ga B Γ).st p1.i p1.a w2') w3) ws
    -- the new list is nobody else's
    have far : ∀ {G4 H4 : Hp}, Gw [] G3 H3 G4 H4 → Gw [] G1 H1 G4 (fun b => if b = D then none else H4 b) ∧ G4 D = none ∧ H4 D = some (.lst acc) := fun {G4 H4} w4 => by
      have w24 := w3.trans w4
      have d4 : H4 D = some (.lst acc) := w24.same _ _ d2
      have g4 : G4 D = none := w24.n D g2 (by rw [d2]; exact fun z => nomatch z)
      refine ⟨⟨Same.trans w2.g w24.g, fun b o hb e => ?_, fun b o e => ?_, fun b h1 h2 => w24.n b (w2.n b h1 h2) ?_, fun b h => ?_⟩, g4, d4⟩
      · have z := w24.same _ _ (w2'.h b o hb e)
        have hb : b ≠ D := fun z => by rw [z, hD] at e; cases e
        show (if b = D then none else H4 b) = _
        rw [if_neg hb]; exact z
      · have hb : b ≠ D := fun z => by rw [z, g4] at e; cases e
        show (if b = D then none else H4 b) = _
        rw [if_neg hb]; exact w24.i _ _ e
      · exact w2'.t b h2
      · have z := w24.t b (w2'.t b h)
        have hb : b ≠ D := fun z => h (by rw [z]; exact hD)
        show (if b = D then none else H4 b) ≠ none
        rw [if_neg hb]; exact z
    refine ⟨⟨xs[i], hm⟩, G3, w3.i, a3, px, fun σ3 so a3' => ⟨(wipe_same so).trans ?_, ⟨xs[i], hm⟩, G3, w3.i, a3', fun G4 H4 p4 => ?_⟩⟩
    · have key : ∀ (vs : List Nat) (τ : L2.St), wipe (wipe τ vs) vs = wipe τ vs := fun vs τ => by
        apply List.ext_getElem?
        intro j
        by_cases hj : j ∈ vs
        · have key : ∀ (τ : L2.St) (vs : List Nat), j ∈ vs → (wipe τ vs)[j]? = if j < τ.length then some none else none := fun τ vs => by
            induction vs with
            | nil => intro z; cases z
            | cons v vs ih =>
              intro z
              show ((wipe τ vs).set v none)[j]? = _
              rw [List.getElem?_set]
              by_cases e : v = j
              · subst e; simp [wipe_length]
              · rw [if_neg e]
                exact ih ((List.mem_cons.mp z).resolve_left (Ne.symm e))
          rw [key _ vs hj, key _ vs hj, wipe_length]
        · rw [wipe_out hj]
      exact key ws σ
    · have w4 := p4.f trivial
      cases hk : p xs[i] with
      | false =>
        refine iteF ?_
        obtain ⟨z1, z2, z3⟩ := far w4
        refine ⟨G4, acc, z1, p4.i, z2, z3, ?_⟩
        rw [tk, List.filter_append]
        have e0 : [xs[i]].filter p = [] := by simp [hk]
        rw [e0, List.append_nil]
        exact allP_up (Same.trans w3.g w4.g) q2
      | true =>
        refine iteT ⟨⟨xs[i], hm, hk⟩, G4, p4.i, p4.a, fun y G5 H5 p5 py => ?_⟩
        have w5 := w4.trans (p5.f trivial)
        obtain ⟨z1, z2, z3⟩ := far w5
        have qa := allP_up (Same.trans w3.g w5.g) q2
        have len : acc.length ≤ i := by
          rw [← Paired.length q2, List.length_map]
          refine Nat.le_trans (List.length_filter_le _ _) ?_
          rw [List.length_take]; omega
        refine ⟨acc, z3, Nat.lt_of_le_of_lt len (Nat.lt_trans hi hn), G5, acc ++ [y], ?_, ?_, z2, upd_same, ?_⟩
        · have e : (fun b => if b = D then none else upd H5 D (.lst (acc ++ [y])) b) = fun b => if b = D then none else H5 b := by
            funext b
            by_cases hb : b = D
            · rw [if_pos hb, if_pos hb]
            · rw [if_neg hb, if_neg hb, upd_ne hb]
          rw [e]; exact z1
        · intro b o eb
          have hb : b ≠ D := fun z => by rw [z, z2] at eb; cases eb
          rw [upd_ne hb]; exact p5.i _ _ eb
        · rw [tk, List.filter_append]
          simp only [List.filter_cons, hk, List.filter_nil, if_true, List.map_append, List.map_cons, List.map_nil]
          exact paired_app qa (.cons py .nil)
  · have ei : i = xs.length := by omega
    subst ei
    refine .inl ⟨?_, ?_⟩
    · have := w.stops G2 H2 w2.g s2
      rw [hl] at this; exact this
    · rw [List.take_length] at q2
      -- freeze the new list
      have fz : Gw [] G1 H1 (upd G2 D (.lst acc)) H2 := ⟨Same.trans w2.g fun b o e => by
          have hb : b ≠ D := fun z => by rw [z, g2] at e; cases e
          rw [upd_ne hb]; exact e, w2'.h, fun b o e => by
          by_cases hb : b = D
          · subst hb; rw [upd_same] at e; rw [← e]; exact d2
          · rw [upd_ne hb] at e; exact s2 _ _ e, fun b h1 h2 => by
          have hb : b ≠ D := fun z => h2 (by rw [z]; exact hD)
          rw [upd_ne hb]; exact w2.n b h1 h2, w2'.t⟩
      refine q (.ref D) _ _ (p1.then fz) ⟨D, acc, rfl, upd_same, allP_up (fun b o e => ?_) q2⟩
      have hb : b ≠ D := fun z => by rw [z, g2] at e; cases e
      rw [upd_ne hb]; exact e
/-- [elt for tg in iter if ..] -/
theorem e_lc {α : Type} {scope : Scope} {own : List (Str × Nat)} {Γb : α → List Sl} (xs : List α) (src : α → VP) (p : α → Bool) (g : α → VP) (hN : X.N.Nodup) (hi : Ji fr X A tg iter (xs.map src) (Ga B Γ)) (ok : BlkOk X.N X.env.scope scope own) (hn : xs.length < sizeLine)
    (hg : ∀ (s : Shared) (H : Hp) (C : Addr) (cl : List (Str × Addr)) (fp : List Addr) (x : α), x ∈ xs → Jg (X.blk s H scope (compEnvC scope cl C X.env) fp) (own.map (·.2)) (Ga B (wipeG Γ (own.map (·.2)))) tg (src x) (Ga B (Γb x)))
    (ht : ∀ (s : Shared) (H : Hp) (C : Addr) (cl : List (Str × Addr)) (fp : List Addr) (x : α), x ∈ xs → Jts True (X.blk s H scope (compEnvC scope cl C X.env) fp) (Ga B (Γb x)) ifs (p x) (Ga B (Γb x)))
    (he : ∀ (s : Shared) (H : Hp) (C : Addr) (cl : List (Str × Addr)) (fp : List Addr) (x : α), x ∈ xs → p x = true → Je True (X.blk s H scope (compEnvC scope cl C X.env) fp) (Ga B (Γb x)) elt (g x) (Ga B (Γb x)))
    (hs : ∀ x, foldedSetIterable iter X.env x = pure x := by intro _; rfl) (hc : X.calm = true := by rfl) : Je fr X A (.ListComp elt [⟨tg, iter, ifs, 0⟩] scope pos) (isL ((xs.filter p).map g)) (Ga B Γ) :=
  pe_imp (pe_lc hc hN hi ok (fun s H C cl fp => pg_any fun z : {x // x ∈ xs} => hg s H C cl fp z.1 z.2) (fun s H C cl fp => pts_any fun z : {x // x ∈ xs} => ht s H C cl fp z.1 z.2) (fun s H C cl fp => pe_any fun z : {x // x ∈ xs ∧ p x = true} => he s H C cl fp z.1 z.2.1 z.2.2) hs) (lc_of xs src p g hn)
/-- name = [elt for tg in iter if ..] -/
theorem s_setLc {α : Type} {scope : Scope} {own : List (Str × Nat)} {Γb : α → List Sl} (i : Nat) {y : Str} {py spos : Pos} (xs : List α) (src : α → VP) (p : α → Bool) (g : α → VP) (hN : X.N.Nodup) (hi : Ji False X A tg iter (xs.map src) (Ga B Γ)) (ok : BlkOk X.N X.env.scope scope own) (hn : xs.length < sizeLine)
    (hg : ∀ (s : Shared) (H : Hp) (C : Addr) (cl : List (Str × Addr)) (fp : List Addr) (x : α), x ∈ xs → Jg (X.blk s H scope (compEnvC scope cl C X.env) fp) (own.map (·.2)) (Ga B (wipeG Γ (own.map (·.2)))) tg (src x) (Ga B (Γb x)))
    (ht : ∀ (s : Shared) (H : Hp) (C : Addr) (cl : List (Str × Addr)) (fp : List Addr) (x : α), x ∈ xs → Jts True (X.blk s H scope (compEnvC scope cl C X.env) fp) (Ga B (Γb x)) ifs (p x) (Ga B (Γb x)))
    (he : ∀ (s : Shared) (H : Hp) (C : Addr) (cl : List (Str × Addr)) (fp : List Addr) (x : α), x ∈ xs → p x = true → Je True (X.blk s H scope (compEnvC scope cl C X.env) fp) (Ga B (Γb x)) elt (g x) (Ga B (Γb x)))
    (hy : X.N[i]? = some y := by rfl) (hyl : X.env.scope.names.lookup y = some .local := by rfl) (hsw : swapsWith (.ListComp elt [⟨tg, iter, ifs, 0⟩] scope pos) (some (.Name y py)) spos.line X.env = pure true := by exact sw_true rfl rfl rfl (by decide +kernel))
    (hs : ∀ x, foldedSetIterable iter X.env x = pure x := by intro _; rfl) (hc : X.calm = true := by rfl) : Js X A (.Assign [.Name y py] (.ListComp elt [⟨tg, iter, ifs, 0⟩] scope pos) spos) ⟨Ga B (Γ.set i (.val (isL ((xs.filter p).map g)))), rt, bk, ct⟩ :=
  ps_imp (ps_setLc hc hN hy hyl hsw hi ok (fun s H C cl fp => pg_any fun z : {x // x ∈ xs} => hg s H C cl fp z.1 z.2) (fun s H C cl fp => pts_any fun z : {x // x ∈ xs} => ht s H C cl fp z.1 z.2) (fun s H C cl fp => pe_any fun z : {x // x ∈ xs ∧ p x = true} => he s H C cl fp z.1 z.2.1 z.2.2) hs) fun D σ H ⟨G, s, a, n, r⟩ =>
    lc_of xs src p g hn σ H (fun v H' => gName i v σ H' D.nx) ⟨G, s, a, fun v G' H' p1 pv => n _ G' H' p1.g p1.i (ga_set (s := .val (isL ((xs.filter p).map g))) p1.a rfl ⟨v, rfl, pv⟩)⟩
end
end Q
/-! Promises, calls, instances. -/
namespace Q
open L2 PySem PySem.Spec PyProof.Rows
/-! ### what may be raised -/
structure XP where
  p : Value → Option Addr → Hp → Prop
  up : ∀ {c : Value} {d : Option Addr} {H H' : Hp}, Same H H' → p c d H → p c d H'
def noX : XP := ⟨fun _ _ _ => False, fun _ h => h⟩
/-- an error of an own class, with these fields -/
def errX (C : Addr) (fs : List (Str × V)) : XP := ⟨fun c d H => c = .ref C ∧ ∃ dd gs, d = some dd ∧ H dd = some (.xd gs) ∧ ∀ f v, fs.lookup f = some v → gs.lookup f = some v, fun s ⟨e, dd, gs, e1, e2, k⟩ => ⟨e, dd, gs, e1, s _ _ e2, k⟩⟩
def bareX (C : Addr) : XP := ⟨fun c _ _ => c = .ref C, fun _ h => h⟩
/-! ### promises -/
/-- of plain arguments -/
def fSp {α : Type} (pre : α → Prop) (args : α → List VP) (post : α → VP) (exc : α → XP) : Sp := fun vs H Q E => ∃ z G, pre z ∧ Same G H ∧ AllP (args z) vs G ∧ (∀ v G' H', Gw [] G H G' H' → (post z).p v G' → Q v H') ∧ (∀ c d G' H', Gw [] G H G' H' → (exc z).p c d G' → E c d H')
/-- the first argument an instance of the caller's, which changes -/
def oSp {α : Type} (pre : α → Prop) (C : Addr) (fs : α → Fs) (args : α → List VP) (fs' : α → Fs) (post : α → VP) (fe : α → Fs) (exc : α → XP) : Sp := fun vs H Q E => ∃ z G a dx fv rest, pre z ∧ vs = .ref a :: rest ∧ Same G H ∧ G a = none ∧ H a = some (.ins C dx fv) ∧ FldP (fs z) fv G ∧ AllP (args z) rest G ∧
  (∀ v G' H' fv', Gw [a] G H G' H' → H' a = some (.ins C dx fv') → FldP (fs' z) fv' G' → (post z).p v G' → Q v H') ∧ (∀ c d G' H' fv', Gw [a] G H G' H' → H' a = some (.ins C dx fv') → FldP (fe z) fv' G' → (exc z).p c d G' → E c d H')
/-- a def by its name -/
structure Kn (P : Program) (w : World) (K : PySem.W.Frag) (mg : Str → Option Value) (base : Heap) (CX : CXT) (k : Nat) (x : Str) (ps : List Str) (sp : Sp) : Prop where
  ex : ∃ f fd, FnOk P w K mg base CX k f fd ps sp ∧ mg x = some (.ref f) ∧ PySem.W.keepIn K (.ref f) = true ∧ Binds K fd ps []
/-- a method by its class and name -/
structure Km (P : Program) (w : World) (K : PySem.W.Frag) (mg : Str → Option Value) (base : Heap) (CX : CXT) (k : Nat) (C : Addr) (m : Str) (ps : List Str) (sp : Sp) : Prop where
  ex : ∃ f fd, FnOk P w K mg base CX k f fd ps sp ∧ Meth K C m f ∧ Binds K fd ps []
/-- a class by its name, made by its __init__ -/
structure Kc (P : Program) (w : World) (K : PySem.W.Frag) (mg : Str → Option Value) (base : Heap) (k : Nat) (x : Str) (C : Addr) (ps : List Str) (sp : Sp) : Prop where
  ex : ∃ f fd, FnOk P w K mg base CX0 k f fd ps sp ∧ Mk K C f ∧ mg x = some (.ref C) ∧ Binds K fd ps []
section
variable {X : Cx} {fr : Prop} {A A' A1 A2 A3 N M bk ct : As} {B : Bs} {Γ Γ' Γ1 Γ2 : List Sl} {P P1 P2 R post : VP} {Ps Rs : List VP} {e a b c : Expr} {es : List Expr} {pos p apos : Pos} {k : Nat} {rt : V → Hp → Hp → Prop} {x m : Str} {ps : List Str} {α : Type} {pre : α → Prop} {args : α → List VP} {post' : α → VP} {exc : α → XP} {fs fs' fe : α → Fs} {C : Addr} {E : XK} {W : WX}
/-! ### calls of a def with plain arguments -/
theorem e_fn (F : Kn X.prog X.w X.K X.mg X.base CX0 k x ps (fSp pre args post' fun _ => noX)) (hr : Room k X.A) (z : α) (hz : pre z) (ha : Ja fr X A (e :: es) (args z) A') (hg : Gl X x := by rfl) (hdb : (x == ("__debug__" : Str)) = false := by decide)
    (he : starEach (e :: es) X.env = (false, eval e X.env) :: starEach es X.env := by rfl) (hpl : (backTo pos (starEach es X.env)).any (·.1) = false := by rfl) : Je fr X A (.Call (.Name x p) (e :: es) [] pos) (post' z) A' := by
  obtain ⟨f, fd, F1, g, kp, hb⟩ := F.ex
  exact pe_imp (pe_call F1 hr hg g kp hb .nil pass0 ha hdb he hpl) fun σ H Q ⟨G, s, a, q⟩ => ⟨G, s, a, fun vs G1 H1 p1 r => by
    simp only [tNil, List.append_nil]
    exact ⟨z, G1, hz, p1.i, r, fun v G2 H2 w pv => q v G2 H2 (p1.then w) pv, fun _ _ _ _ _ h => h⟩⟩
theorem e_fnX (F : Kn X.prog X.w X.K X.mg X.base (L2.CX X.prog X.w) k x ps (fSp pre args post' exc)) (hr : Room k X.A) (z : α) (hz : pre z) (tk : Takes X (fun c d _ H => E c d H)) (ha : Ja fr X A (e :: es) (args z) A') (hE : ∀ c d σ G H, Same G H → A'.p σ G H → (exc z).p c d G → E c d H) (hg : Gl X x := by rfl) (hdb : (x == ("__debug__" : Str)) = false := by decide)
    (he : starEach (e :: es) X.env = (false, eval e X.env) :: starEach es X.env := by rfl) (hpl : (backTo pos (starEach es X.env)).any (·.1) = false := by rfl) : Je fr X A (.Call (.Name x p) (e :: es) [] pos) (post' z) A' := by
  obtain ⟨f, fd, F1, g, kp, hb⟩ := F.ex
  exact pe_imp (pe_call F1 hr hg g kp hb .nil (passes_call tk fun _ _ _ _ h => h) ha hdb he hpl) fun σ H Q ⟨G, s, a, q⟩ => ⟨G, s, a, fun vs G1 H1 p1 r => by
    simp only [tNil, List.append_nil]
    exact ⟨z, G1, hz, p1.i, r, fun v G2 H2 w pv => q v G2 H2 (p1.then w) pv, fun c d G2 H2 w xv => hE c d σ G2 H2 w.i (A'.st p1.i p1.a w) xv⟩⟩
/-- a method of a frozen instance -/
theorem e_meth {o : Expr} {pl : Sem Bool} {fs : Fs} (F : Km X.prog X.w X.K X.mg X.base CX0 k C m ps (fSp pre args post' fun _ => noX)) (T : Cls X.K C) (hr : Room k X.A) (z : α) (hz : pre z) (ho : Je fr X A o (isO C fs) A1) (ha : Ja fr X A1 (e :: es) Rs A') (hl : fs.lookup m = none) (hA : args z = isO C fs :: Rs) (hst : starEach (e :: es) X.env = (false, eval e X.env) :: starEach es X.env := by rfl) (hpl : (backTo pos (starEach es X.env)).any (·.1) = false := by rfl)
    (ht : eval (.Call (.Attribute o m apos) (e :: es) [] pos) X.env = (do let ov ← eval o X.env; standAt apos.atName; let (f, first) ← holding [ov] (getMethod ov m pl); callWith pos f first (backTo pos (starEach (e :: es) X.env)) (backToKw pos (keywordEach [] X.env))) := by rfl) : Je fr X A (.Call (.Attribute o m apos) (e :: es) [] pos) (post' z) A' := by
  obtain ⟨f, fd, F1, g, hb⟩ := F.ex
  exact pe_imp (pe_meth ho T g F1 hr hb .nil pass0 ha hst hpl ht) fun σ H Q ⟨G, s, a, q⟩ => ⟨G, s, a, fun v G1 H1 p1 ⟨a, dx, fv, ev, e2, e3⟩ => ⟨a, dx, fv, ev, p1.i _ _ e2, fld_none e3 hl, G1, p1.i, p1.a, fun vs G2 H2 p2 r => by
    simp only [tNil, List.append_nil]
    refine ⟨z, G2, hz, p2.i, ?_, fun u G3 H3 w pu => q u G3 H3 ((p1.trans p2).then w) pu, fun _ _ _ _ _ h => h⟩
    rw [hA]
    exact .cons ⟨a, dx, fv, ev, p2.g _ _ e2, fldP_up p2.g e3⟩ r⟩⟩
theorem e_meth0 {o : Expr} {pl : Sem Bool} {fs : Fs} (F : Km X.prog X.w X.K X.mg X.base CX0 k C m ps (fSp pre args post' fun _ => noX)) (T : Cls X.K C) (hr : Room k X.A) (z : α) (hz : pre z) (ho : Je fr X A o (isO C fs) A') (hl : fs.lookup m = none) (hA : args z = [isO C fs])
    (ht : eval (.Call (.Attribute o m apos) [] [] pos) X.env = (do let ov ← eval o X.env; standAt apos.atName; let (f, first) ← holding [ov] (getMethod ov m pl); callWith pos f first (backTo pos (starEach [] X.env)) (backToKw pos (keywordEach [] X.env))) := by rfl) : Je fr X A (.Call (.Attribute o m apos) [] [] pos) (post' z) A' := by
  obtain ⟨f, fd, F1, g, hb⟩ := F.ex
  exact pe_imp (pe_meth0 ho T g F1 hr hb .nil pass0 ht) fun σ H Q ⟨G, s, a, q⟩ => ⟨G, s, a, fun v G1 H1 p1 ⟨a, dx, fv, ev, e2, e3⟩ => ⟨a, dx, fv, ev, p1.i _ _ e2, fld_none e3 hl, by
    simp only [tNil, List.append_nil]
    refine ⟨z, G1, hz, p1.i, ?_, fun u G3 H3 w pu => q u G3 H3 (p1.then w) pu, fun _ _ _ _ _ h => h⟩
    rw [hA]
    exact .cons ⟨a, dx, fv, ev, e2, e3⟩ .nil⟩⟩
/-- C(e, ..): a new instance, frozen behind its __init__ -/
theorem e_make (F : Kc X.prog X.w X.K X.mg X.base k x C ps (oSp pre C (fun _ => []) args fs' (fun _ => isN) fs' fun _ => noX)) (hr : Room (k + 1) X.A) (z : α) (hz : pre z) (ha : Ja fr X A (e :: es) (args z) A') (hg : Gl X x := by rfl) (hdb : (x == ("__debug__" : Str)) = false := by decide)
    (he : starEach (e :: es) X.env = (false, eval e X.env) :: starEach es X.env := by rfl) (hpl : (backTo pos (starEach es X.env)).any (·.1) = false := by rfl) : Je fr X A (.Call (.Name x p) (e :: es) [] pos) (isO C (fs' z)) A' := by
  obtain ⟨f, fd, F1, MK, g, hb⟩ := F.ex
  exact pe_imp (pe_make MK F1 hr hg g hb .nil pass0 ha hdb he hpl) fun σ H Q ⟨G, s, a, q⟩ => ⟨G, s, a, fun vs G1 H1 p1 r y dx hy hdx ne => by
    simp only [tNil, List.append_nil]
    have w1 : Gw [] G1 H1 G1 (upd H1 dx (.own y)) := Gw.own p1.i hdx
    have hy1 : (upd H1 dx (.own y)) y = none := by rw [upd_ne (Ne.symm ne)]; exact hy
    have w2 : Gw [] G1 (upd H1 dx (.own y)) G1 (upd (upd H1 dx (.own y)) y (.ins C dx [])) := Gw.own w1.i hy1
    have gy : G1 y = none := by
      cases e : G1 y with
      | none => rfl
      | some u => rw [p1.i _ _ e] at hy; cases hy
    refine ⟨z, G1, y, dx, [], vs, hz, rfl, w2.i, gy, upd_same, .nil, r, fun v G2 H2 fv w3 e2 e3 ev => ⟨ev, ?_⟩, fun _ _ _ _ _ _ _ _ h => h⟩
    -- freeze it
    have w13 : Gw [] G1 H1 G2 H2 := (w1.trans w2).trans' w3 fun u hu => by rw [List.mem_singleton.mp hu]; exact .inr hy
    have g2 : G2 y = none := w3.n y gy (by rw [upd_same]; exact fun z => nomatch z)
    have up : Same G2 (upd G2 y (.ins C dx fv)) := fun b o eb => by
      have hb : b ≠ y := fun z => by rw [z, g2] at eb; cases eb
      rw [upd_ne hb]; exact eb
    have w4 : Gw [] G1 H1 (upd G2 y (.ins C dx fv)) H2 := ⟨Same.trans w13.g up, w13.h, fun b o eb => by
      by_cases hb : b = y
      · subst hb; rw [upd_same] at eb; rw [← eb]; exact e2
      · rw [upd_ne hb] at eb; exact w13.i _ _ eb, fun b h1 h2 => by
      have hb : b ≠ y := fun z => h2 (by rw [z]; exact hy)
      rw [upd_ne hb]; exact w13.n b h1 h2, w13.t⟩
    exact q _ _ _ (p1.then w4) ⟨y, dx, fv, rfl, upd_same, fldP_up up e3⟩⟩
/-! ### an instance of ours in a slot -/
def Sl.ins? : Sl → Option (Addr × Fs)
  | .obj _ C fs => some (C, fs)
  | _ => none
def Sl.put (fs : Fs) : Sl → Sl
  | .obj me C _ => .obj me C fs
  | s => s
theorem ins_ok {s : Sl} {fs : Fs} {o : Option V} {G H : Hp} (ok : s.ok B G H o) (hs : s.ins? = some (C, fs)) : ∃ a dx vs me, s = .obj me C fs ∧ o = some (.ref a) ∧ G a = none ∧ H a = some (.ins C dx vs) ∧ B.has me a dx ∧ FldP fs vs G := by
  cases s with
  | obj me C' fs' =>
    have e : (C', fs') = (C, fs) := Option.some.inj hs
    cases e
    obtain ⟨a, dx, vs, h⟩ := ok
    exact ⟨a, dx, vs, me, rfl, h⟩
  | _ => cases hs
/-- the instance in slot i has changed, by a step that changes no more of what is tracked -/
theorem ga_obj {σ : L2.St} {G H G' H' : Hp} {i : Nat} {me : Bool} {f1 f2 : Fs} {a dx : Addr} {vs : List (Str × V)} (h : (Ga B Γ).p σ G H) (hi : Γ[i]? = some (.obj me C f1)) (e : σ[i]? = some (some (.ref a))) (hb : B.has me a dx) (w : Gw [a] G H G' H') (g : G a = none) (ha0 : ∃ us, H a = some (.ins C dx us)) (ha : H' a = some (.ins C dx vs)) (q : FldP f2 vs G') : (Ga B (Γ.set i (.obj me C f2))).p σ G' H' := by
  refine ⟨h.1.trans' w fun y hy => by rw [List.mem_singleton.mp hy]; exact Bs.has_ok hb, ?_, ?_⟩
  · have nl : ∀ (y : Addr) (zs : List V), H y = some (.lst zs) → y ≠ a := fun y zs hy z => by
      obtain ⟨us, z2⟩ := ha0
      subst z
      rw [z2] at hy
      cases hy
    refine paired_mod h.2.1 i _ (fun j s o hj e1 e2 ok => ?_) fun o eo => ?_
    · have ne : ∀ y, o = some (.ref y) → s.mine = true → y ∉ [a] := fun y ey m z => by
        rw [List.mem_singleton] at z
        subst z
        exact h.2.2 j i s _ y hj e1 hi m rfl (by rw [e2, ey]) e
      cases s with
      | any => trivial
      | val P => obtain ⟨v, ev, pv⟩ := ok; exact ⟨v, ev, P.up w.g pv⟩
      | own Qs =>
        obtain ⟨l', zs, e3, g3, h3, b3, q3⟩ := ok
        exact ⟨l', zs, e3, w.n l' g3 (by rw [h3]; exact fun z => nomatch z), w.h _ _ (ne l' e3 rfl) h3, b3, allP_up w.g q3⟩
      | obj me C fs =>
        obtain ⟨y, dy, us, e3, g3, h3, b3, q3⟩ := ok
        exact ⟨y, dy, us, e3, w.n y g3 (by rw [h3]; exact fun z => nomatch z), w.h _ _ (ne y e3 rfl) h3, b3, fldP_up w.g q3⟩
      | lent Qs =>
        obtain ⟨l', zs, e3, g3, h3, q3⟩ := ok
        exact ⟨l', zs, e3, w.n l' g3 (by rw [h3]; exact fun z => nomatch z), w.h _ _ (ne l' e3 rfl) h3, allP_up w.g q3⟩
      | pk C' f Qs =>
        obtain ⟨zs, e3, g3, h3, m3, g4, h4, m4, z4, q3⟩ := ok
        exact ⟨zs, e3, w.n _ g3 (by rw [h3]; exact fun z => nomatch z), w.h _ _ (ne _ e3 rfl) h3, m3, w.n _ g4 (by rw [h4]; exact fun z => nomatch z), w.h _ _ (fun z => nl _ _ h4 (List.mem_singleton.mp z)) h4, m4, z4, allP_up w.g q3⟩
    · rw [e] at eo
      cases eo
      exact ⟨a, dx, vs, rfl, w.n a g (by obtain ⟨us, z⟩ := ha0; rw [z]; exact fun z => nomatch z), ha, hb, q⟩
  · intro a' b t t' y hab e1 e2 m1 m2 q1 q2
    have back : ∀ (j : Nat) (t : Sl), (Γ.set i (.obj me C f2))[j]? = some t → ∃ u, Γ[j]? = some u ∧ (t.mine = true → u.mine = true) := fun j t ej => by
      by_cases hj : j = i
      · subst hj; exact ⟨_, hi, fun _ => rfl⟩
      · rw [get_set_ne hj] at ej; exact ⟨t, ej, fun z => z⟩
    obtain ⟨u, eu, mu⟩ := back a' t e1
    obtain ⟨u', eu', mu'⟩ := back b t' e2
    exact h.2.2 a' b u u' y hab eu eu' (mu m1) (mu' m2) q1 q2
/-- its field -/
theorem e_ofld (i : Nat) {f : Str} {me : Bool} {gs : Fs} {pn : Pos} (hΓ : Γ[i]? = some (.obj me C gs)) (T : Cls X.K C) (n : NoAttr X.K C f) (hl : gs.lookup f = some P) (hN : X.N[i]? = some x := by rfl) (hv : Vis X.env.scope x := by first | exact Or.inl rfl | exact Or.inr (Or.inl rfl) | exact Or.inr (Or.inr rfl))
    (hd : (x == ("__debug__" : Str)) = false := by decide) (hcd : (x == ("__classdict__" : Str)) = false := by decide) (hb : attributeBase (.Name x pn) f X.env (eval (.Name x pn) X.env) = eval (.Name x pn) X.env := by rfl) : Je fr X (Ga B Γ) (.Attribute (.Name x pn) f pos) P (Ga B Γ) :=
  pe_imp (pe_fld (pv i hN hv hd hcd) hb) fun σ H Q ⟨G, s, a, q⟩ => by
    obtain ⟨o, e1, y, dx, vs, rfl, g1, h1, b1, q1⟩ := ga_get a hΓ
    obtain ⟨v, l, pv⟩ := fld_look q1 hl
    exact ⟨_, e1, y, C, dx, vs, v, rfl, h1, T, n, l, q v G H (Po.refl s a) pv⟩
/-- self.f = e -/
theorem s_ofld (i : Nat) {f : Str} {me : Bool} {gs : Fs} {pn pos' : Pos} (hΓ : Γ2[i]? = some (.obj me C gs)) (T : Cls X.K C) (n : NoAttr X.K C f) (he : Je False X A e P (Ga B Γ2)) (hN : X.N[i]? = some x := by rfl) (hl : Nat.ble gs.length 899 = true := by rfl) (hv : Vis X.env.scope x := by first | exact Or.inl rfl | exact Or.inr (Or.inl rfl) | exact Or.inr (Or.inr rfl))
    (hd : (x == ("__debug__" : Str)) = false := by decide) (hcd : (x == ("__classdict__" : Str)) = false := by decide) (hs : swapsWith e (some (.Attribute (.Name x pn) f pos')) pos.line X.env = pure false := by rfl) : Js X A (.Assign [.Attribute (.Name x pn) f pos'] e pos) ⟨Ga B (Γ2.set i (.obj me C (putP f P gs))), rt, bk, ct⟩ :=
  ps_imp (ps_fld (pv i hN hv hd hcd) he hs) fun D σ H ⟨G, s, a, nx, r⟩ => ⟨G, s, a, fun v G1 H1 p1 pv => by
    obtain ⟨o, e1, y, dx, vs, rfl, g1, h1, b1, q1⟩ := ga_get p1.a hΓ
    refine ⟨_, e1, y, C, dx, vs, rfl, h1, T, n, by rw [← Paired.length q1]; have := Nat.le_of_ble_eq_true hl; omega, ?_⟩
    have w := Gw.mut (o := .ins C dx (putF f v vs)) p1.i g1
    exact nx σ G1 _ p1.g w.i (ga_obj p1.a hΓ e1 b1 w g1 ⟨_, h1⟩ upd_same (fld_put q1 pv))⟩
/-- x.m(e, ..), x of ours, which changes; E: what is wished of an error -/
theorem e_oMeth (i : Nat) {me : Bool} {gs : Fs} {pn : Pos} {pl : Sem Bool} {CX : CXT} (F : Km X.prog X.w X.K X.mg X.base CX k C m ps (oSp pre C fs args fs' post' fe exc)) (T : Cls X.K C) (hr : Room k X.A) (z : α) (hz : pre z) (hx : Passes CX X E) (hΓ : Γ[i]? = some (.obj me C gs)) (ha : Ja fr X (Ga B Γ) (e :: es) (args z) (Ga B Γ2)) (h2 : Γ2[i]? = some (.obj me C (fs z))) (hl : gs.lookup m = none)
    (hE : ∀ c d σ G H, Same G H → (Ga B (Γ2.set i (.obj me C (fe z)))).p σ G H → (exc z).p c d G → E c d H) (hN : X.N[i]? = some x := by rfl) (hv : Vis X.env.scope x := by first | exact Or.inl rfl | exact Or.inr (Or.inl rfl) | exact Or.inr (Or.inr rfl))
    (hd : (x == ("__debug__" : Str)) = false := by decide) (hcd : (x == ("__classdict__" : Str)) = false := by decide) (hst : starEach (e :: es) X.env = (false, eval e X.env) :: starEach es X.env := by rfl) (hpl : (backTo pos (starEach es X.env)).any (·.1) = false := by rfl)
    (ht : eval (.Call (.Attribute (.Name x pn) m apos) (e :: es) [] pos) X.env = (do let ov ← eval (.Name x pn) X.env; standAt apos.atName; let (f, first) ← holding [ov] (getMethod ov m pl); callWith pos f first (backTo pos (starEach (e :: es) X.env)) (backToKw pos (keywordEach [] X.env))) := by rfl) :
    Je False X (Ga B Γ) (.Call (.Attribute (.Name x pn) m apos) (e :: es) [] pos) (post' z) (Ga B (Γ2.set i (.obj me C (fs' z)))) := by
  obtain ⟨f, fd, F1, g, hb⟩ := F.ex
  refine pe_imp (pe_meth (pv i hN hv hd hcd) T g F1 hr hb .nil hx ha hst hpl ht) fun σ H Q ⟨G, s, a, q⟩ => ?_
  obtain ⟨o, e1, y, dx, vs, rfl, g1, h1, b1, q1⟩ := ga_get a hΓ
  refine ⟨_, e1, y, dx, vs, rfl, h1, fld_none q1 hl, G, s, a, fun us G1 H1 p1 r => ?_⟩
  obtain ⟨o', e2, y', dx', vs', ey, g2, h2', b2, q2⟩ := ga_get p1.a h2
  rw [e1] at e2
  cases e2
  cases ey
  simp only [tNil, List.append_nil]
  have hne : ∃ us, H1 y = some (.ins C dx' us) := ⟨_, h2'⟩
  exact ⟨z, G1, y, dx', vs', us, hz, rfl, p1.i, g2, h2', q2, r, fun v G2 H2 fv' w ea qa pv => q v G2 H2 ⟨Same.trans p1.g w.g, w.i, ga_obj p1.a h2 e1 b2 w g2 hne ea qa, fun z => z.elim⟩ pv,
    fun c d G2 H2 fv' w ea qa xv => hE c d σ G2 H2 w.i (ga_obj p1.a h2 e1 b2 w g2 hne ea qa) xv⟩
theorem e_oMeth0 (i : Nat) {me : Bool} {pn : Pos} {pl : Sem Bool} {CX : CXT} (F : Km X.prog X.w X.K X.mg X.base CX k C m ps (oSp pre C fs args fs' post' fe exc)) (T : Cls X.K C) (hr : Room k X.A) (z : α) (hz : pre z) (hx : Passes CX X E) (hΓ : Γ[i]? = some (.obj me C (fs z))) (hA : args z = []) (hl : (fs z).lookup m = none)
    (hE : ∀ c d σ G H, Same G H → (Ga B (Γ.set i (.obj me C (fe z)))).p σ G H → (exc z).p c d G → E c d H) (hN : X.N[i]? = some x := by rfl) (hv : Vis X.env.scope x := by first | exact Or.inl rfl | exact Or.inr (Or.inl rfl) | exact Or.inr (Or.inr rfl)) (hd : (x == ("__debug__" : Str)) = false := by decide) (hcd : (x == ("__classdict__" : Str)) = false := by decide)
    (ht : eval (.Call (.Attribute (.Name x pn) m apos) [] [] pos) X.env = (do let ov ← eval (.Name x pn) X.env; standAt apos.atName; let (f, first) ← holding [ov] (getMethod ov m pl); callWith pos f first (backTo pos (starEach [] X.env)) (backToKw pos (keywordEach [] X.env))) := by rfl) :
    Je False X (Ga B Γ) (.Call (.Attribute (.Name x pn) m apos) [] [] pos) (post' z) (Ga B (Γ.set i (.obj me C (fs' z)))) := by
  obtain ⟨f, fd, F1, g, hb⟩ := F.ex
  refine pe_imp (pe_meth0 (pv i hN hv hd hcd) T g F1 hr hb .nil hx ht) fun σ H Q ⟨G, s, a, q⟩ => ?_
  obtain ⟨o, e1, y, dx, vs, rfl, g1, h1, b1, q1⟩ := ga_get a hΓ
  refine ⟨_, e1, y, dx, vs, rfl, h1, fld_none q1 hl, ?_⟩
  simp only [tNil, List.append_nil]
  have hne : ∃ us, H y = some (.ins C dx us) := ⟨_, h1⟩
  exact ⟨z, G, y, dx, vs, [], hz, rfl, s, g1, h1, q1, by rw [hA]; exact .nil, fun v G2 H2 fv' w ea qa pv => q v G2 H2 ⟨w.g, w.i, ga_obj a hΓ e1 b1 w g1 hne ea qa, fun z => z.elim⟩ pv,
    fun c d G2 H2 fv' w ea qa xv => hE c d σ G2 H2 w.i (ga_obj a hΓ e1 b1 w g1 hne ea qa) xv⟩
/-- f(x, e, ..), x of ours, which changes -/
theorem e_oFn (i : Nat) {me : Bool} {gs : Fs} {y : Str} {pn : Pos} {CX : CXT} (F : Kn X.prog X.w X.K X.mg X.base CX k x ps (oSp pre C fs args fs' post' fe exc)) (hr : Room k X.A) (z : α) (hz : pre z) (hx : Passes CX X E) (hΓ : Γ[i]? = some (.obj me C gs)) (ha : Ja fr X (Ga B Γ) es (args z) (Ga B Γ2)) (h2 : Γ2[i]? = some (.obj me C (fs z)))
    (hE : ∀ c d σ G H, Same G H → (Ga B (Γ2.set i (.obj me C (fe z)))).p σ G H → (exc z).p c d G → E c d H) (hN : X.N[i]? = some y := by rfl) (hv : Vis X.env.scope y := by first | exact Or.inl rfl | exact Or.inr (Or.inl rfl) | exact Or.inr (Or.inr rfl))
    (hd : (y == ("__debug__" : Str)) = false := by decide) (hcd : (y == ("__classdict__" : Str)) = false := by decide) (hg : Gl X x := by rfl) (hdb : (x == ("__debug__" : Str)) = false := by decide)
    (he : starEach (.Name y pn :: es) X.env = (false, eval (.Name y pn) X.env) :: starEach es X.env := by rfl) (hpl : (backTo pos (starEach es X.env)).any (·.1) = false := by rfl) :
    Je False X (Ga B Γ) (.Call (.Name x p) (.Name y pn :: es) [] pos) (post' z) (Ga B (Γ2.set i (.obj me C (fs' z)))) := by
  obtain ⟨f, fd, F1, g, kp, hb⟩ := F.ex
  refine pe_imp (pe_call F1 hr hg g kp hb .nil hx (pa_cons (pv i hN hv hd hcd) ha he) hdb he hpl) fun σ H Q ⟨G, s, a, q⟩ => ?_
  obtain ⟨o, e1, y, dx, vs, rfl, g1, h1, b1, q1⟩ := ga_get a hΓ
  refine ⟨_, e1, G, s, a, fun us G1 H1 p1 r => ?_⟩
  obtain ⟨o', e2, y', dx', vs', ey, g2, h2', b2, q2⟩ := ga_get p1.a h2
  rw [e1] at e2
  cases e2
  cases ey
  simp only [tNil, List.append_nil]
  have hne : ∃ us, H1 y = some (.ins C dx' us) := ⟨_, h2'⟩
  exact ⟨z, G1, y, dx', vs', us, hz, rfl, p1.i, g2, h2', q2, r, fun v G2 H2 fv' w ea qa pv => q v G2 H2 ⟨Same.trans p1.g w.g, w.i, ga_obj p1.a h2 e1 b2 w g2 hne ea qa, fun z => z.elim⟩ pv,
    fun c d G2 H2 fv' w ea qa xv => hE c d σ G2 H2 w.i (ga_obj p1.a h2 e1 b2 w g2 hne ea qa) xv⟩
end
end Q
/-! From a body to its promise. -/
namespace Q
open L2 PySem PySem.Spec PyProof.Rows
abbrev Bs.pl (G H : Hp) : Bs := ⟨G, H, [], 0, 0, 0⟩
abbrev Bs.me (G H : Hp) (a dx : Addr) : Bs := ⟨G, H, [a], a, dx, 0⟩
abbrev Bs.mk2 (G H : Hp) (a dx l : Addr) : Bs := ⟨G, H, [a, l], a, dx, l⟩
/-- the slots at a def's entry -/
abbrev inSl (Ps : List VP) (n : Nat) : List Sl := Ps.map Sl.val ++ List.replicate n Sl.any
theorem in_ok {B : Bs} {G H : Hp} {Ps : List VP} {vs : List V} (r : AllP Ps vs G) (n : Nat) : Paired (fun s o => Sl.ok B G H s o) (inSl Ps n) (vs.map some ++ List.replicate n none) := by
  refine paired_app ?_ (paired_rep trivial n)
  induction r with
  | nil => exact .nil
  | cons p t ih => exact .cons ⟨_, rfl, p⟩ ih
theorem in_mine {Ps : List VP} {n j : Nat} {s : Sl} (h : (inSl Ps n)[j]? = some s) : s.mine = false := by
  have := List.mem_of_getElem? h
  rcases List.mem_append.mp this with q | q
  · obtain ⟨P, _, rfl⟩ := List.mem_map.mp q; rfl
  · rw [(List.mem_replicate.mp q).2]; rfl
/-- the end of a def whose first argument changes -/
def rtO (B : Bs) (C : Addr) (fs : Fs) (post : VP) : V → Hp → Hp → Prop := fun v G H => Gw B.M B.G0 B.H0 G H ∧ ∃ fv, H B.a0 = some (.ins C B.d0 fv) ∧ FldP fs fv G ∧ post.p v G
def nxO (B : Bs) (C : Addr) (fs : Fs) (post : VP) : As := ⟨fun _ G H => rtO B C fs post .non G H, fun _ ⟨h, fv, e, q, p⟩ w => ⟨h.trans w, fv, w.same _ _ e, fldP_up w.g q, post.up w.g p⟩⟩
section
variable {X : Cx} {fr : Prop} {A A' A1 A2 A3 N M bk ct : As} {B : Bs} {Γ Γ' Γ1 Γ2 : List Sl} {P P1 P2 R post : VP} {e : Expr} {pos : Pos} {C : Addr} {fs fe : Fs} {E : XK} {x0 : XP}
theorem me_out {σ : L2.St} {G H : Hp} (h : (Ga B Γ).p σ G H) (h0 : Γ[0]? = some (.obj true C fs)) : ∃ fv, H B.a0 = some (.ins C B.d0 fv) ∧ FldP fs fv G := by
  obtain ⟨o, e1, a, dx, vs, e, g, ha, ⟨rfl, rfl, _⟩, q⟩ := ga_get h h0
  exact ⟨vs, ha, q⟩
theorem s_retO (he : Je False X A e P (Ga B Γ)) (h0 : Γ[0]? = some (.obj true C fs)) (q : ∀ v H, P.p v H → post.p v H := by exact fun _ _ h => h) : Js X A (.Return (some e) pos) ⟨N, rtO B C fs post, bk, ct⟩ := s_ret he fun σ v G H s a p => let ⟨fv, e1, e2⟩ := me_out a h0; ⟨a.1, fv, e1, e2, q v G p⟩
theorem s_retPO (he : Je False X A e post (Ga B Γ)) (h0 : Γ[0]? = some (.obj true C fs)) : Js X A (.Return (some e) pos) ⟨N, rtO B C fs post, bk, ct⟩ := s_retO he h0
theorem le_nxO (h0 : Γ[0]? = some (.obj true C fs)) (q : ∀ H, post.p .non H := by exact fun _ => rfl) : As.le (Ga B Γ) (nxO B C fs post) := fun σ G H s a => let ⟨fv, e1, e2⟩ := me_out a h0; ⟨a.1, fv, e1, e2, q G⟩
theorem le_nxF (q : ∀ H, post.p .non H := by exact fun _ => rfl) : As.le (Ga B Γ) (nxF B post) := fun σ G H s a => ⟨a.1, q G⟩
/-- an error leaves: the caller's wish of it -/
def XO (B : Bs) (C : Addr) (fe : Fs) (x0 : XP) (E : XK) : Prop := ∀ c d G H fv, Gw B.M B.G0 B.H0 G H → H B.a0 = some (.ins C B.d0 fv) → FldP fe fv G → x0.p c d G → E c d H
theorem XO.to (h : XO B C fe x0 E) {x1 : XP} (h0 : Γ[0]? = some (.obj true C fs)) (hf : ∀ fv G, FldP fs fv G → FldP fe fv G) (hx : ∀ c d G, x1.p c d G → x0.p c d G) : ∀ c d σ G H, Same G H → (Ga B Γ).p σ G H → x1.p c d G → E c d H := fun c d σ G H s a x => let ⟨fv, e1, e2⟩ := me_out a h0; h c d G H fv a.1 e1 (hf fv G e2) (hx c d G x)
def XF (B : Bs) (x0 : XP) (E : XK) : Prop := ∀ c d G H, Gw B.M B.G0 B.H0 G H → x0.p c d G → E c d H
theorem XF.to (h : XF B x0 E) {x1 : XP} (hx : ∀ c d G, x1.p c d G → x0.p c d G) : ∀ c d σ G H, Same G H → (Ga B Γ).p σ G H → x1.p c d G → E c d H := fun c d σ G H s a x => h c d G H a.1 (hx c d G x)
/-- fields of which nothing is known -/
def anyF (fs : Fs) : Fs := fs.map fun f => (f.1, isAny)
theorem fld_any {fs : Fs} {fv : List (Str × V)} {G : Hp} (h : FldP fs fv G) : FldP (anyF fs) fv G := by
  induction h with
  | nil => exact .nil
  | cons r t ih => exact .cons ⟨r.1, trivial⟩ ih
end
section
variable {P : Program} {w : World} {K : PySem.W.Frag} {mg : Str → Option Value} {base : Heap} {d : He.DefD} {f : Addr} {k : Nat} {x m : Str} {N ps : List Str} {α : Type} {pre : α → Prop} {args : α → List VP} {post : α → VP} {exc : α → XP} {fs fs' fe : α → Fs} {C : Addr}
/-- a def of the text: it stands at f, binds its parameters so -/
structure Df (K : PySem.W.Frag) (d : He.DefD) (f : Addr) (ps N : List Str) : Prop where
  fn : ∃ fd, FunD K d.name d.qual d.params d.body d.scope [] [] f fd
  sc : FnScope N ps d.scope
  bd : ∀ (kV doc pm : Value) (an : Option Addr) (cdv ct : Value) (us : List Value), us.length = ps.length → bindArgs (PySem.W.fnOf d.name d.qual d.params d.body d.scope .none kV doc pm an cdv ct) ⟨us, []⟩ = pure (ps.zip us)
theorem fn_plain0F {fd : FuncData} (F : FunD K d.name d.qual d.params d.body d.scope [] [] f fd) (D : Df K d f ps N) (hl : ∀ z, (args z).length = ps.length)
    (hbody : ∀ (cdv : Value) (A : Around) (outer : List Env) (s : Shared) (H : Hp) (E : XK) (z : α) (G : Hp), pre z → Same G H → Room k (A.deeper (envOfC d.qual d.scope s.heap.objs.size f cdv)) →
      Jb (cxOf CX0 P w K mg base N d.qual d.scope f cdv A outer s H E).nox (Ga (Bs.pl G H) (inSl (args z) (N.length - ps.length))) d.body ⟨nxF (Bs.pl G H) (post z), rtF (Bs.pl G H) (post z), As.no, As.no⟩) :
    FnOk P w K mg base CX0 (k + 1) f fd ps (fSp pre args post fun _ => noX) := by
  refine F.ok D.sc (fun vs H Q E ⟨z, G, hz, s, r, _⟩ => (Paired.length r).symm.trans (hl z)) (fun cdv A outer s H vs Q E hr ⟨z, G, hz, sG, r, q, _⟩ => ?_)
  refine ⟨_, PSs.nox (hbody cdv A outer s H E z G hz sG hr), G, sG, ?_, fun σ' G' H' _ s' n => q _ G' H' n.1 n.2, fun v G' H' s' n => q v G' H' n.1 n.2, fun _ _ _ _ _ h => h.elim, fun _ _ _ _ _ h => h.elim⟩
  have hn : vs.length = ps.length := (Paired.length r).symm.trans (hl z)
  refine ⟨Gw.refl sG, ?_, fun i j s s' a _ e1 _ m1 _ _ _ => by rw [in_mine e1] at m1; cases m1⟩
  unfold L2.start
  rw [hn]
  exact in_ok r _
theorem fn_plain0 (D : Df K d f ps N) (hl : ∀ z, (args z).length = ps.length)
    (hbody : ∀ (cdv : Value) (A : Around) (outer : List Env) (s : Shared) (H : Hp) (E : XK) (z : α) (G : Hp), pre z → Same G H → Room k (A.deeper (envOfC d.qual d.scope s.heap.objs.size f cdv)) →
      Jb (cxOf CX0 P w K mg base N d.qual d.scope f cdv A outer s H E).nox (Ga (Bs.pl G H) (inSl (args z) (N.length - ps.length))) d.body ⟨nxF (Bs.pl G H) (post z), rtF (Bs.pl G H) (post z), As.no, As.no⟩) :
    ∃ fd, FnOk P w K mg base CX0 (k + 1) f fd ps (fSp pre args post fun _ => noX) ∧ PySem.W.keepIn K (.ref f) = true ∧ Binds K fd ps [] :=
  let ⟨fd, F⟩ := D.fn
  ⟨fd, fn_plain0F F D hl hbody, F.kp, F.bindsN D.bd⟩
theorem fn_plainX (D : Df K d f ps N) (hl : ∀ z, (args z).length = ps.length)
    (hbody : ∀ (cdv : Value) (A : Around) (outer : List Env) (s : Shared) (H : Hp) (E : XK) (z : α) (G : Hp), pre z → Same G H → Room k (A.deeper (envOfC d.qual d.scope s.heap.objs.size f cdv)) → XF (Bs.pl G H) (exc z) E →
      Jb (cxOf (L2.CX P w) P w K mg base N d.qual d.scope f cdv A outer s H E) (Ga (Bs.pl G H) (inSl (args z) (N.length - ps.length))) d.body ⟨nxF (Bs.pl G H) (post z), rtF (Bs.pl G H) (post z), As.no, As.no⟩) :
    ∃ fd, FnOk P w K mg base (L2.CX P w) (k + 1) f fd ps (fSp pre args post exc) ∧ PySem.W.keepIn K (.ref f) = true ∧ Binds K fd ps [] := by
  obtain ⟨fd, F⟩ := D.fn
  refine ⟨fd, F.ok D.sc (fun vs H Q E ⟨z, G, hz, s, r, _⟩ => (Paired.length r).symm.trans (hl z)) (fun cdv A outer s H vs Q E hr ⟨z, G, hz, sG, r, q, qx⟩ => ?_), F.kp, F.bindsN D.bd⟩
  refine ⟨_, hbody cdv A outer s H E z G hz sG hr (fun c d G' H' w' x => qx c d G' H' w' x), G, sG, ?_, fun σ' G' H' _ s' n => q _ G' H' n.1 n.2, fun v G' H' s' n => q v G' H' n.1 n.2, fun _ _ _ _ _ h => h.elim, fun _ _ _ _ _ h => h.elim⟩
  have hn : vs.length = ps.length := (Paired.length r).symm.trans (hl z)
  refine ⟨Gw.refl sG, ?_, fun i j s s' a _ e1 _ m1 _ _ _ => by rw [in_mine e1] at m1; cases m1⟩
  unfold L2.start
  rw [hn]
  exact in_ok r _
theorem o_in {G H : Hp} {a dx : Addr} {Ps : List VP} {vs : List V} {fv : List (Str × V)} {g : Fs} {n : Nat} (sG : Same G H) (ga : G a = none) (ha : H a = some (.ins C dx fv)) (q : FldP g fv G) (r : AllP Ps vs G) : (Ga (Bs.me G H a dx) (.obj true C g :: inSl Ps n)).p (some (.ref a) :: (vs.map some ++ List.replicate n none)) G H := by
  refine ⟨Gw.refl sG, .cons ⟨a, dx, fv, rfl, ga, ha, ⟨rfl, rfl, List.mem_singleton_self _⟩, q⟩ (in_ok r n), fun i j s s' b hij e1 e2 m1 m2 _ _ => ?_⟩
  cases i with
  | zero =>
    cases j with
    | zero => exact hij rfl
    | succ j => rw [in_mine (show (inSl Ps n)[j]? = some s' from e2)] at m2; cases m2
  | succ i => rw [in_mine (show (inSl Ps n)[i]? = some s from e1)] at m1; cases m1
theorem fn_own0 (D : Df K d f ps N) (hl : ∀ z, (args z).length + 1 = ps.length)
    (hbody : ∀ (cdv : Value) (A : Around) (outer : List Env) (s : Shared) (H : Hp) (E : XK) (z : α) (G : Hp) (a dx : Addr), pre z → Same G H → Room k (A.deeper (envOfC d.qual d.scope s.heap.objs.size f cdv)) →
      Jb (cxOf CX0 P w K mg base N d.qual d.scope f cdv A outer s H E).nox (Ga (Bs.me G H a dx) (.obj true C (fs z) :: inSl (args z) (N.length - ps.length))) d.body ⟨nxO (Bs.me G H a dx) C (fs' z) (post z), rtO (Bs.me G H a dx) C (fs' z) (post z), As.no, As.no⟩) :
    ∃ fd, FnOk P w K mg base CX0 (k + 1) f fd ps (oSp pre C fs args fs' post fe fun _ => noX) ∧ PySem.W.keepIn K (.ref f) = true ∧ Binds K fd ps [] := by
  obtain ⟨fd, F⟩ := D.fn
  have len : ∀ {vs : List V} {z : α} {a : Addr} {rest : List V} {G : Hp}, vs = .ref a :: rest → AllP (args z) rest G → vs.length = ps.length := fun {vs z a rest G} e r => by rw [e, List.length_cons, ← Paired.length r]; exact hl z
  refine ⟨fd, F.ok D.sc (fun vs H Q E ⟨z, G, a, dx, fv, rest, hz, e, s, ga, ha, qf, r, _⟩ => len e r) (fun cdv A outer s H vs Q E hr ⟨z, G, a, dx, fv, rest, hz, e, sG, ga, ha, qf, r, q, _⟩ => ?_), F.kp, F.bindsN D.bd⟩
  refine ⟨_, PSs.nox (hbody cdv A outer s H E z G a dx hz sG hr), G, sG, ?_, fun σ' G' H' _ s' ⟨n, fv', e1, e2, e3⟩ => q _ G' H' fv' n e1 e2 e3, fun v G' H' s' ⟨n, fv', e1, e2, e3⟩ => q v G' H' fv' n e1 e2 e3, fun _ _ _ _ _ h => h.elim, fun _ _ _ _ _ h => h.elim⟩
  have hn := len e r
  unfold L2.start
  rw [hn, e]
  exact o_in sG ga ha qf r
theorem fn_ownX (D : Df K d f ps N) (hl : ∀ z, (args z).length + 1 = ps.length)
    (hbody : ∀ (cdv : Value) (A : Around) (outer : List Env) (s : Shared) (H : Hp) (E : XK) (z : α) (G : Hp) (a dx : Addr), pre z → Same G H → Room k (A.deeper (envOfC d.qual d.scope s.heap.objs.size f cdv)) → XO (Bs.me G H a dx) C (fe z) (exc z) E →
      Jb (cxOf (L2.CX P w) P w K mg base N d.qual d.scope f cdv A outer s H E) (Ga (Bs.me G H a dx) (.obj true C (fs z) :: inSl (args z) (N.length - ps.length))) d.body ⟨nxO (Bs.me G H a dx) C (fs' z) (post z), rtO (Bs.me G H a dx) C (fs' z) (post z), As.no, As.no⟩) :
    ∃ fd, FnOk P w K mg base (L2.CX P w) (k + 1) f fd ps (oSp pre C fs args fs' post fe exc) ∧ PySem.W.keepIn K (.ref f) = true ∧ Binds K fd ps [] := by
  obtain ⟨fd, F⟩ := D.fn
  have len : ∀ {vs : List V} {z : α} {a : Addr} {rest : List V} {G : Hp}, vs = .ref a :: rest → AllP (args z) rest G → vs.length = ps.length := fun {vs z a rest G} e r => by rw [e, List.length_cons, ← Paired.length r]; exact hl z
  refine ⟨fd, F.ok D.sc (fun vs H Q E ⟨z, G, a, dx, fv, rest, hz, e, s, ga, ha, qf, r, _⟩ => len e r) (fun cdv A outer s H vs Q E hr ⟨z, G, a, dx, fv, rest, hz, e, sG, ga, ha, qf, r, q, qx⟩ => ?_), F.kp, F.bindsN D.bd⟩
  refine ⟨_, hbody cdv A outer s H E z G a dx hz sG hr (fun c d G' H' fv' w' e1 e2 x => qx c d G' H' fv' w' e1 e2 x), G, sG, ?_, fun σ' G' H' _ s' ⟨n, fv', e1, e2, e3⟩ => q _ G' H' fv' n e1 e2 e3, fun v G' H' s' ⟨n, fv', e1, e2, e3⟩ => q v G' H' fv' n e1 e2 e3, fun _ _ _ _ _ h => h.elim, fun _ _ _ _ _ h => h.elim⟩
  have hn := len e r
  unfold L2.start
  rw [hn, e]
  exact o_in sG ga ha qf r
/-! ### the names' side -/
variable {CX : CXT} {sp : Sp}
theorem kn_of (g : mg x = some (.ref f)) (h : ∃ fd, FnOk P w K mg base CX k f fd ps sp ∧ PySem.W.keepIn K (.ref f) = true ∧ Binds K fd ps []) : Kn P w K mg base CX k x ps sp := let ⟨fd, a, b, c⟩ := h; ⟨f, fd, a, g, b, c⟩
theorem km_of (g : Meth K C m f) (h : ∃ fd, FnOk P w K mg base CX k f fd ps sp ∧ PySem.W.keepIn K (.ref f) = true ∧ Binds K fd ps []) : Km P w K mg base CX k C m ps sp := let ⟨fd, a, b, c⟩ := h; ⟨f, fd, a, g, c⟩
theorem kc_of (g : Mk K C f) (gx : mg x = some (.ref C)) (h : ∃ fd, FnOk P w K mg base CX0 k f fd ps sp ∧ PySem.W.keepIn K (.ref f) = true ∧ Binds K fd ps []) : Kc P w K mg base k x C ps sp := let ⟨fd, a, b, c⟩ := h; ⟨f, fd, a, g, gx, c⟩
end
end Q
/-! What the head tells, fact by fact (printed by gen_head.py). -/
namespace Q
open PySem PySem.Spec PyProof.Rows L2 Pt
/-- behind the top -/
structure Txt (K : PySem.W.Frag) (mg : Str → Option Value) : Prop where
  at_ : ∃ h : Heap, K.In h ∧ h.Ns mainGlobals mg
  says : He.SaysD faL fnL K
  more : exF K = true
section
variable {K : PySem.W.Frag} {mg : Str → Option Value}
theorem Txt.c_CHUNK (T : Txt K mg) : ∃ u, mg "CHUNK" = some u ∧ RelV (.str "chunk") u := let ⟨_, X, G⟩ := T.at_; let ⟨t, e⟩ := He.str_ok X G (T.says.fact 0 (f := .str "CHUNK" "chunk") rfl); ⟨_, e, t, rfl⟩
theorem Txt.c_STOP (T : Txt K mg) : ∃ u, mg "STOP" = some u ∧ RelV (.str "stop") u := let ⟨_, X, G⟩ := T.at_; let ⟨t, e⟩ := He.str_ok X G (T.says.fact 1 (f := .str "STOP" "stop") rfl); ⟨_, e, t, rfl⟩
theorem Txt.c_END (T : Txt K mg) : ∃ u, mg "END" = some u ∧ RelV (.str "end") u := let ⟨_, X, G⟩ := T.at_; let ⟨t, e⟩ := He.str_ok X G (T.says.fact 2 (f := .str "END" "end") rfl); ⟨_, e, t, rfl⟩
theorem Txt.g_BLANKS (T : Txt K mg) : mg "BLANKS" = some (.ref (He.ga K "BLANKS")) := let ⟨_, X, G⟩ := T.at_; He.glo_ok X G (T.says.fact 3 (f := .glo "BLANKS") rfl)
theorem Txt.c_REMARK (T : Txt K mg) : ∃ u, mg "REMARK" = some u ∧ RelV (.int (35)) u := let ⟨_, X, G⟩ := T.at_; let ⟨t, e⟩ := He.int_ok X G (T.says.fact 4 (f := .int "REMARK" (35)) rfl); ⟨_, e, t, rfl⟩
theorem Txt.c_LINE_END (T : Txt K mg) : ∃ u, mg "LINE_END" = some u ∧ RelV (.int (10)) u := let ⟨_, X, G⟩ := T.at_; let ⟨t, e⟩ := He.int_ok X G (T.says.fact 5 (f := .int "LINE_END" (10)) rfl); ⟨_, e, t, rfl⟩
theorem Txt.c_STOP_BYTE (T : Txt K mg) : ∃ u, mg "STOP_BYTE" = some u ∧ RelV (.int (59)) u := let ⟨_, X, G⟩ := T.at_; let ⟨t, e⟩ := He.int_ok X G (T.says.fact 6 (f := .int "STOP_BYTE" (59)) rfl); ⟨_, e, t, rfl⟩
theorem Txt.c_DASH (T : Txt K mg) : ∃ u, mg "DASH" = some u ∧ RelV (.int (45)) u := let ⟨_, X, G⟩ := T.at_; let ⟨t, e⟩ := He.int_ok X G (T.says.fact 7 (f := .int "DASH" (45)) rfl); ⟨_, e, t, rfl⟩
theorem Txt.c_POINT (T : Txt K mg) : ∃ u, mg "POINT" = some u ∧ RelV (.int (46)) u := let ⟨_, X, G⟩ := T.at_; let ⟨t, e⟩ := He.int_ok X G (T.says.fact 8 (f := .int "POINT" (46)) rfl); ⟨_, e, t, rfl⟩
theorem Txt.c_LONGEST (T : Txt K mg) : ∃ u, mg "LONGEST" = some u ∧ RelV (.int (40)) u := let ⟨_, X, G⟩ := T.at_; let ⟨t, e⟩ := He.int_ok X G (T.says.fact 9 (f := .int "LONGEST" (40)) rfl); ⟨_, e, t, rfl⟩
theorem Txt.c_MOST_BYTES (T : Txt K mg) : ∃ u, mg "MOST_BYTES" = some u ∧ RelV (.int (4096)) u := let ⟨_, X, G⟩ := T.at_; let ⟨t, e⟩ := He.int_ok X G (T.says.fact 10 (f := .int "MOST_BYTES" (4096)) rfl); ⟨_, e, t, rfl⟩
theorem Txt.c_TOO_LONG (T : Txt K mg) : ∃ u, mg "TOO_LONG" = some u ∧ RelV (.int (1)) u := let ⟨_, X, G⟩ := T.at_; let ⟨t, e⟩ := He.int_ok X G (T.says.fact 11 (f := .int "TOO_LONG" (1)) rfl); ⟨_, e, t, rfl⟩
theorem Txt.c_NO_TOKEN (T : Txt K mg) : ∃ u, mg "NO_TOKEN" = some u ∧ RelV (.int (2)) u := let ⟨_, X, G⟩ := T.at_; let ⟨t, e⟩ := He.int_ok X G (T.says.fact 12 (f := .int "NO_TOKEN" (2)) rfl); ⟨_, e, t, rfl⟩
theorem Txt.g_Fault (T : Txt K mg) : mg "Fault" = some (.ref (He.ga K "Fault")) := let ⟨_, X, G⟩ := T.at_; He.glo_ok X G (T.says.fact 13 (f := .glo "Fault") rfl)
theorem Txt.me_Fault_init (T : Txt K mg) : Meth K (He.ga K "Fault") "__init__" (He.ma K (He.ga K "Fault") "__init__") := He.meth_ok (T.says.fact 14 (f := .meth "Fault" "__init__") rfl)
theorem Txt.na_Fault_code (T : Txt K mg) : NoAttr K (He.ga K "Fault") "code" := He.noat_ok (T.says.fact 15 (f := .noat "Fault" "code") rfl)
theorem Txt.na_Fault_place (T : Txt K mg) : NoAttr K (He.ga K "Fault") "place" := He.noat_ok (T.says.fact 16 (f := .noat "Fault" "place") rfl)
theorem Txt.kp_Fault (T : Txt K mg) : PySem.W.keepIn K (.ref (He.ga K "Fault")) = true := He.keep_ok (T.says.fact 17 (f := .keep "Fault") rfl)
theorem Txt.xm_Fault (T : Txt K mg) : PySem.W.exmOne K (.ref (He.ga K "Fault")) (.ref (He.ga K "Fault")) = some true := He.exm_ok (T.says.fact 18 (f := .exm "Fault" "Fault" true) rfl)
theorem Txt.g_is_letter (T : Txt K mg) : mg "is_letter" = some (.ref (He.ga K "is_letter")) := let ⟨_, X, G⟩ := T.at_; He.glo_ok X G (T.says.fact 19 (f := .glo "is_letter") rfl)
theorem Txt.g_is_digit (T : Txt K mg) : mg "is_digit" = some (.ref (He.ga K "is_digit")) := let ⟨_, X, G⟩ := T.at_; He.glo_ok X G (T.says.fact 20 (f := .glo "is_digit") rfl)
theorem Txt.g_is_of_chunk (T : Txt K mg) : mg "is_of_chunk" = some (.ref (He.ga K "is_of_chunk")) := let ⟨_, X, G⟩ := T.at_; He.glo_ok X G (T.says.fact 21 (f := .glo "is_of_chunk") rfl)
theorem Txt.g_chunk_end (T : Txt K mg) : mg "chunk_end" = some (.ref (He.ga K "chunk_end")) := let ⟨_, X, G⟩ := T.at_; He.glo_ok X G (T.says.fact 22 (f := .glo "chunk_end") rfl)
theorem Txt.g_behind_remark (T : Txt K mg) : mg "behind_remark" = some (.ref (He.ga K "behind_remark")) := let ⟨_, X, G⟩ := T.at_; He.glo_ok X G (T.says.fact 23 (f := .glo "behind_remark") rfl)
theorem Txt.g_token_at (T : Txt K mg) : mg "token_at" = some (.ref (He.ga K "token_at")) := let ⟨_, X, G⟩ := T.at_; He.glo_ok X G (T.says.fact 24 (f := .glo "token_at") rfl)
theorem Txt.g_tokens_of (T : Txt K mg) : mg "tokens_of" = some (.ref (He.ga K "tokens_of")) := let ⟨_, X, G⟩ := T.at_; He.glo_ok X G (T.says.fact 25 (f := .glo "tokens_of") rfl)
theorem Txt.c_NOT_ALLOWED (T : Txt K mg) : ∃ u, mg "NOT_ALLOWED" = some u ∧ RelV (.int (3)) u := let ⟨_, X, G⟩ := T.at_; let ⟨t, e⟩ := He.int_ok X G (T.says.fact 26 (f := .int "NOT_ALLOWED" (3)) rfl); ⟨_, e, t, rfl⟩
theorem Txt.c_TOO_MANY (T : Txt K mg) : ∃ u, mg "TOO_MANY" = some u ∧ RelV (.int (4)) u := let ⟨_, X, G⟩ := T.at_; let ⟨t, e⟩ := He.int_ok X G (T.says.fact 27 (f := .int "TOO_MANY" (4)) rfl); ⟨_, e, t, rfl⟩
theorem Txt.c_AGAIN (T : Txt K mg) : ∃ u, mg "AGAIN" = some u ∧ RelV (.int (5)) u := let ⟨_, X, G⟩ := T.at_; let ⟨t, e⟩ := He.int_ok X G (T.says.fact 28 (f := .int "AGAIN" (5)) rfl); ⟨_, e, t, rfl⟩
theorem Txt.c_NOT_SO (T : Txt K mg) : ∃ u, mg "NOT_SO" = some u ∧ RelV (.int (7)) u := let ⟨_, X, G⟩ := T.at_; let ⟨t, e⟩ := He.int_ok X G (T.says.fact 29 (f := .int "NOT_SO" (7)) rfl); ⟨_, e, t, rfl⟩
theorem Txt.c_MARGINS (T : Txt K mg) : ∃ u, mg "MARGINS" = some u ∧ RelV (.str "margins") u := let ⟨_, X, G⟩ := T.at_; let ⟨t, e⟩ := He.str_ok X G (T.says.fact 30 (f := .str "MARGINS" "margins") rfl); ⟨_, e, t, rfl⟩
theorem Txt.c_WORD (T : Txt K mg) : ∃ u, mg "WORD" = some u ∧ RelV (.str "word") u := let ⟨_, X, G⟩ := T.at_; let ⟨t, e⟩ := He.str_ok X G (T.says.fact 31 (f := .str "WORD" "word") rfl); ⟨_, e, t, rfl⟩
theorem Txt.c_PATTERN (T : Txt K mg) : ∃ u, mg "PATTERN" = some u ∧ RelV (.str "pattern") u := let ⟨_, X, G⟩ := T.at_; let ⟨t, e⟩ := He.str_ok X G (T.says.fact 32 (f := .str "PATTERN" "pattern") rfl); ⟨_, e, t, rfl⟩
theorem Txt.c_MOST_MARGIN (T : Txt K mg) : ∃ u, mg "MOST_MARGIN" = some u ∧ RelV (.int (5)) u := let ⟨_, X, G⟩ := T.at_; let ⟨t, e⟩ := He.int_ok X G (T.says.fact 33 (f := .int "MOST_MARGIN" (5)) rfl); ⟨_, e, t, rfl⟩
theorem Txt.c_MOST_WORDS (T : Txt K mg) : ∃ u, mg "MOST_WORDS" = some u ∧ RelV (.int (24)) u := let ⟨_, X, G⟩ := T.at_; let ⟨t, e⟩ := He.int_ok X G (T.says.fact 34 (f := .int "MOST_WORDS" (24)) rfl); ⟨_, e, t, rfl⟩
theorem Txt.c_MOST_PATTERNS (T : Txt K mg) : ∃ u, mg "MOST_PATTERNS" = some u ∧ RelV (.int (40)) u := let ⟨_, X, G⟩ := T.at_; let ⟨t, e⟩ := He.int_ok X G (T.says.fact 35 (f := .int "MOST_PATTERNS" (40)) rfl); ⟨_, e, t, rfl⟩
theorem Txt.c_LEAST_LETTERS (T : Txt K mg) : ∃ u, mg "LEAST_LETTERS" = some u ∧ RelV (.int (2)) u := let ⟨_, X, G⟩ := T.at_; let ⟨t, e⟩ := He.int_ok X G (T.says.fact 36 (f := .int "LEAST_LETTERS" (2)) rfl); ⟨_, e, t, rfl⟩
theorem Txt.c_MOST_LETTERS (T : Txt K mg) : ∃ u, mg "MOST_LETTERS" = some u ∧ RelV (.int (16)) u := let ⟨_, X, G⟩ := T.at_; let ⟨t, e⟩ := He.int_ok X G (T.says.fact 37 (f := .int "MOST_LETTERS" (16)) rfl); ⟨_, e, t, rfl⟩
theorem Txt.c_MOST_OF_PATTERN (T : Txt K mg) : ∃ u, mg "MOST_OF_PATTERN" = some u ∧ RelV (.int (6)) u := let ⟨_, X, G⟩ := T.at_; let ⟨t, e⟩ := He.int_ok X G (T.says.fact 38 (f := .int "MOST_OF_PATTERN" (6)) rfl); ⟨_, e, t, rfl⟩
theorem Txt.c_ZERO (T : Txt K mg) : ∃ u, mg "ZERO" = some u ∧ RelV (.int (48)) u := let ⟨_, X, G⟩ := T.at_; let ⟨t, e⟩ := He.int_ok X G (T.says.fact 39 (f := .int "ZERO" (48)) rfl); ⟨_, e, t, rfl⟩
theorem Txt.g_Pattern (T : Txt K mg) : mg "Pattern" = some (.ref (He.ga K "Pattern")) := let ⟨_, X, G⟩ := T.at_; He.glo_ok X G (T.says.fact 40 (f := .glo "Pattern") rfl)
theorem Txt.me_Pattern_init (T : Txt K mg) : Meth K (He.ga K "Pattern") "__init__" (He.ma K (He.ga K "Pattern") "__init__") := He.meth_ok (T.says.fact 41 (f := .meth "Pattern" "__init__") rfl)
theorem Txt.me_Pattern_signs (T : Txt K mg) : Meth K (He.ga K "Pattern") "signs" (He.ma K (He.ga K "Pattern") "signs") := He.meth_ok (T.says.fact 42 (f := .meth "Pattern" "signs") rfl)
theorem Txt.na_Pattern_front (T : Txt K mg) : NoAttr K (He.ga K "Pattern") "front" := He.noat_ok (T.says.fact 43 (f := .noat "Pattern" "front") rfl)
theorem Txt.na_Pattern_letters (T : Txt K mg) : NoAttr K (He.ga K "Pattern") "letters" := He.noat_ok (T.says.fact 44 (f := .noat "Pattern" "letters") rfl)
theorem Txt.na_Pattern_end (T : Txt K mg) : NoAttr K (He.ga K "Pattern") "end" := He.noat_ok (T.says.fact 45 (f := .noat "Pattern" "end") rfl)
theorem Txt.na_Pattern_digits (T : Txt K mg) : NoAttr K (He.ga K "Pattern") "digits" := He.noat_ok (T.says.fact 46 (f := .noat "Pattern" "digits") rfl)
theorem Txt.cl_Pattern (T : Txt K mg) : Cls K (He.ga K "Pattern") := He.cls_ok (T.says.fact 47 (f := .cls "Pattern") rfl)
theorem Txt.mk_Pattern (T : Txt K mg) : Mk K (He.ga K "Pattern") (He.ma K (He.ga K "Pattern") "__init__") := He.mkr_ok (T.says.fact 48 (f := .mkr "Pattern") rfl)
theorem Txt.g_points_of (T : Txt K mg) : mg "points_of" = some (.ref (He.ga K "points_of")) := let ⟨_, X, G⟩ := T.at_; He.glo_ok X G (T.says.fact 49 (f := .glo "points_of") rfl)
theorem Txt.g_read_body (T : Txt K mg) : mg "read_body" = some (.ref (He.ga K "read_body")) := let ⟨_, X, G⟩ := T.at_; He.glo_ok X G (T.says.fact 50 (f := .glo "read_body") rfl)
theorem Txt.g_read_pattern (T : Txt K mg) : mg "read_pattern" = some (.ref (He.ga K "read_pattern")) := let ⟨_, X, G⟩ := T.at_; He.glo_ok X G (T.says.fact 51 (f := .glo "read_pattern") rfl)
theorem Txt.g_letters_of_word (T : Txt K mg) : mg "letters_of_word" = some (.ref (He.ga K "letters_of_word")) := let ⟨_, X, G⟩ := T.at_; He.glo_ok X G (T.says.fact 52 (f := .glo "letters_of_word") rfl)
theorem Txt.g_Listed (T : Txt K mg) : mg "Listed" = some (.ref (He.ga K "Listed")) := let ⟨_, X, G⟩ := T.at_; He.glo_ok X G (T.says.fact 53 (f := .glo "Listed") rfl)
theorem Txt.me_Listed_init (T : Txt K mg) : Meth K (He.ga K "Listed") "__init__" (He.ma K (He.ga K "Listed") "__init__") := He.meth_ok (T.says.fact 54 (f := .meth "Listed" "__init__") rfl)
theorem Txt.me_Listed_with_patterns (T : Txt K mg) : Meth K (He.ga K "Listed") "with_patterns" (He.ma K (He.ga K "Listed") "with_patterns") := He.meth_ok (T.says.fact 55 (f := .meth "Listed" "with_patterns") rfl)
theorem Txt.na_Listed_left (T : Txt K mg) : NoAttr K (He.ga K "Listed") "left" := He.noat_ok (T.says.fact 56 (f := .noat "Listed" "left") rfl)
theorem Txt.na_Listed_right (T : Txt K mg) : NoAttr K (He.ga K "Listed") "right" := He.noat_ok (T.says.fact 57 (f := .noat "Listed" "right") rfl)
theorem Txt.na_Listed_many_words (T : Txt K mg) : NoAttr K (He.ga K "Listed") "many_words" := He.noat_ok (T.says.fact 58 (f := .noat "Listed" "many_words") rfl)
theorem Txt.na_Listed_patterns (T : Txt K mg) : NoAttr K (He.ga K "Listed") "patterns" := He.noat_ok (T.says.fact 59 (f := .noat "Listed" "patterns") rfl)
theorem Txt.cl_Listed (T : Txt K mg) : Cls K (He.ga K "Listed") := He.cls_ok (T.says.fact 60 (f := .cls "Listed") rfl)
theorem Txt.mk_Listed (T : Txt K mg) : Mk K (He.ga K "Listed") (He.ma K (He.ga K "Listed") "__init__") := He.mkr_ok (T.says.fact 61 (f := .mkr "Listed") rfl)
theorem Txt.g_place_of (T : Txt K mg) : mg "place_of" = some (.ref (He.ga K "place_of")) := let ⟨_, X, G⟩ := T.at_; He.glo_ok X G (T.says.fact 62 (f := .glo "place_of") rfl)
theorem Txt.g_Reader (T : Txt K mg) : mg "Reader" = some (.ref (He.ga K "Reader")) := let ⟨_, X, G⟩ := T.at_; He.glo_ok X G (T.says.fact 63 (f := .glo "Reader") rfl)
theorem Txt.me_Reader_init (T : Txt K mg) : Meth K (He.ga K "Reader") "__init__" (He.ma K (He.ga K "Reader") "__init__") := He.meth_ok (T.says.fact 64 (f := .meth "Reader" "__init__") rfl)
theorem Txt.me_Reader_token (T : Txt K mg) : Meth K (He.ga K "Reader") "token" (He.ma K (He.ga K "Reader") "token") := He.meth_ok (T.says.fact 65 (f := .meth "Reader" "token") rfl)
theorem Txt.me_Reader_fault (T : Txt K mg) : Meth K (He.ga K "Reader") "fault" (He.ma K (He.ga K "Reader") "fault") := He.meth_ok (T.says.fact 66 (f := .meth "Reader" "fault") rfl)
theorem Txt.me_Reader_comes (T : Txt K mg) : Meth K (He.ga K "Reader") "comes" (He.ma K (He.ga K "Reader") "comes") := He.meth_ok (T.says.fact 67 (f := .meth "Reader" "comes") rfl)
theorem Txt.me_Reader_take (T : Txt K mg) : Meth K (He.ga K "Reader") "take" (He.ma K (He.ga K "Reader") "take") := He.meth_ok (T.says.fact 68 (f := .meth "Reader" "take") rfl)
theorem Txt.me_Reader_take_chunk_of (T : Txt K mg) : Meth K (He.ga K "Reader") "take_chunk_of" (He.ma K (He.ga K "Reader") "take_chunk_of") := He.meth_ok (T.says.fact 69 (f := .meth "Reader" "take_chunk_of") rfl)
theorem Txt.me_Reader_chunk (T : Txt K mg) : Meth K (He.ga K "Reader") "chunk" (He.ma K (He.ga K "Reader") "chunk") := He.meth_ok (T.says.fact 70 (f := .meth "Reader" "chunk") rfl)
theorem Txt.me_Reader_margin (T : Txt K mg) : Meth K (He.ga K "Reader") "margin" (He.ma K (He.ga K "Reader") "margin") := He.meth_ok (T.says.fact 71 (f := .meth "Reader" "margin") rfl)
theorem Txt.me_Reader_word (T : Txt K mg) : Meth K (He.ga K "Reader") "word" (He.ma K (He.ga K "Reader") "word") := He.meth_ok (T.says.fact 72 (f := .meth "Reader" "word") rfl)
theorem Txt.me_Reader_pattern (T : Txt K mg) : Meth K (He.ga K "Reader") "pattern" (He.ma K (He.ga K "Reader") "pattern") := He.meth_ok (T.says.fact 73 (f := .meth "Reader" "pattern") rfl)
theorem Txt.me_Reader_all_words (T : Txt K mg) : Meth K (He.ga K "Reader") "all_words" (He.ma K (He.ga K "Reader") "all_words") := He.meth_ok (T.says.fact 74 (f := .meth "Reader" "all_words") rfl)
theorem Txt.me_Reader_all_patterns (T : Txt K mg) : Meth K (He.ga K "Reader") "all_patterns" (He.ma K (He.ga K "Reader") "all_patterns") := He.meth_ok (T.says.fact 75 (f := .meth "Reader" "all_patterns") rfl)
theorem Txt.me_Reader_listed (T : Txt K mg) : Meth K (He.ga K "Reader") "listed" (He.ma K (He.ga K "Reader") "listed") := He.meth_ok (T.says.fact 76 (f := .meth "Reader" "listed") rfl)
theorem Txt.na_Reader_tokens (T : Txt K mg) : NoAttr K (He.ga K "Reader") "tokens" := He.noat_ok (T.says.fact 77 (f := .noat "Reader" "tokens") rfl)
theorem Txt.na_Reader_at (T : Txt K mg) : NoAttr K (He.ga K "Reader") "at" := He.noat_ok (T.says.fact 78 (f := .noat "Reader" "at") rfl)
theorem Txt.cl_Reader (T : Txt K mg) : Cls K (He.ga K "Reader") := He.cls_ok (T.says.fact 79 (f := .cls "Reader") rfl)
theorem Txt.mk_Reader (T : Txt K mg) : Mk K (He.ga K "Reader") (He.ma K (He.ga K "Reader") "__init__") := He.mkr_ok (T.says.fact 80 (f := .mkr "Reader") rfl)
theorem Txt.g_read_list (T : Txt K mg) : mg "read_list" = some (.ref (He.ga K "read_list")) := let ⟨_, X, G⟩ := T.at_; He.glo_ok X G (T.says.fact 81 (f := .glo "read_list") rfl)
theorem Txt.g_signs_of (T : Txt K mg) : mg "signs_of" = some (.ref (He.ga K "signs_of")) := let ⟨_, X, G⟩ := T.at_; He.glo_ok X G (T.says.fact 82 (f := .glo "signs_of") rfl)
theorem Txt.g_steps_from (T : Txt K mg) : mg "steps_from" = some (.ref (He.ga K "steps_from")) := let ⟨_, X, G⟩ := T.at_; He.glo_ok X G (T.says.fact 83 (f := .glo "steps_from") rfl)
theorem Txt.g_ends_from (T : Txt K mg) : mg "ends_from" = some (.ref (He.ga K "ends_from")) := let ⟨_, X, G⟩ := T.at_; He.glo_ok X G (T.says.fact 84 (f := .glo "ends_from") rfl)
theorem Txt.g_put_over (T : Txt K mg) : mg "put_over" = some (.ref (He.ga K "put_over")) := let ⟨_, X, G⟩ := T.at_; He.glo_ok X G (T.says.fact 85 (f := .glo "put_over") rfl)
theorem Txt.g_looked_up (T : Txt K mg) : mg "looked_up" = some (.ref (He.ga K "looked_up")) := let ⟨_, X, G⟩ := T.at_; He.glo_ok X G (T.says.fact 86 (f := .glo "looked_up") rfl)
theorem Txt.g_parted_gaps (T : Txt K mg) : mg "parted_gaps" = some (.ref (He.ga K "parted_gaps")) := let ⟨_, X, G⟩ := T.at_; He.glo_ok X G (T.says.fact 87 (f := .glo "parted_gaps") rfl)
theorem Txt.g_Table (T : Txt K mg) : mg "Table" = some (.ref (He.ga K "Table")) := let ⟨_, X, G⟩ := T.at_; He.glo_ok X G (T.says.fact 88 (f := .glo "Table") rfl)
theorem Txt.me_Table_init (T : Txt K mg) : Meth K (He.ga K "Table") "__init__" (He.ma K (He.ga K "Table") "__init__") := He.meth_ok (T.says.fact 89 (f := .meth "Table" "__init__") rfl)
theorem Txt.me_Table_next_node (T : Txt K mg) : Meth K (He.ga K "Table") "next_node" (He.ma K (He.ga K "Table") "next_node") := He.meth_ok (T.says.fact 90 (f := .meth "Table" "next_node") rfl)
theorem Txt.me_Table_way (T : Txt K mg) : Meth K (He.ga K "Table") "way" (He.ma K (He.ga K "Table") "way") := He.meth_ok (T.says.fact 91 (f := .meth "Table" "way") rfl)
theorem Txt.me_Table_ends (T : Txt K mg) : Meth K (He.ga K "Table") "ends" (He.ma K (He.ga K "Table") "ends") := He.meth_ok (T.says.fact 92 (f := .meth "Table" "ends") rfl)
theorem Txt.me_Table_digits_behind (T : Txt K mg) : Meth K (He.ga K "Table") "digits_behind" (He.ma K (He.ga K "Table") "digits_behind") := He.meth_ok (T.says.fact 93 (f := .meth "Table" "digits_behind") rfl)
theorem Txt.me_Table_does_tell (T : Txt K mg) : Meth K (He.ga K "Table") "does_tell" (He.ma K (He.ga K "Table") "does_tell") := He.meth_ok (T.says.fact 94 (f := .meth "Table" "does_tell") rfl)
theorem Txt.na_Table_nodes (T : Txt K mg) : NoAttr K (He.ga K "Table") "nodes" := He.noat_ok (T.says.fact 95 (f := .noat "Table" "nodes") rfl)
theorem Txt.na_Table_first (T : Txt K mg) : NoAttr K (He.ga K "Table") "first" := He.noat_ok (T.says.fact 96 (f := .noat "Table" "first") rfl)
theorem Txt.cl_Table (T : Txt K mg) : Cls K (He.ga K "Table") := He.cls_ok (T.says.fact 97 (f := .cls "Table") rfl)
theorem Txt.mk_Table (T : Txt K mg) : Mk K (He.ga K "Table") (He.ma K (He.ga K "Table") "__init__") := He.mkr_ok (T.says.fact 98 (f := .mkr "Table") rfl)
theorem Txt.g_Packer (T : Txt K mg) : mg "Packer" = some (.ref (He.ga K "Packer")) := let ⟨_, X, G⟩ := T.at_; He.glo_ok X G (T.says.fact 99 (f := .glo "Packer") rfl)
theorem Txt.me_Packer_init (T : Txt K mg) : Meth K (He.ga K "Packer") "__init__" (He.ma K (He.ga K "Packer") "__init__") := He.meth_ok (T.says.fact 100 (f := .meth "Packer" "__init__") rfl)
theorem Txt.me_Packer_number_of (T : Txt K mg) : Meth K (He.ga K "Packer") "number_of" (He.ma K (He.ga K "Packer") "number_of") := He.meth_ok (T.says.fact 101 (f := .meth "Packer" "number_of") rfl)
theorem Txt.me_Packer_node_of (T : Txt K mg) : Meth K (He.ga K "Packer") "node_of" (He.ma K (He.ga K "Packer") "node_of") := He.meth_ok (T.says.fact 102 (f := .meth "Packer" "node_of") rfl)
theorem Txt.na_Packer_nodes (T : Txt K mg) : NoAttr K (He.ga K "Packer") "nodes" := He.noat_ok (T.says.fact 103 (f := .noat "Packer" "nodes") rfl)
theorem Txt.cl_Packer (T : Txt K mg) : Cls K (He.ga K "Packer") := He.cls_ok (T.says.fact 104 (f := .cls "Packer") rfl)
theorem Txt.mk_Packer (T : Txt K mg) : Mk K (He.ga K "Packer") (He.ma K (He.ga K "Packer") "__init__") := He.mkr_ok (T.says.fact 105 (f := .mkr "Packer") rfl)
theorem Txt.g_packed (T : Txt K mg) : mg "packed" = some (.ref (He.ga K "packed")) := let ⟨_, X, G⟩ := T.at_; He.glo_ok X G (T.says.fact 106 (f := .glo "packed") rfl)
theorem Txt.g_beginnings (T : Txt K mg) : mg "beginnings" = some (.ref (He.ga K "beginnings")) := let ⟨_, X, G⟩ := T.at_; He.glo_ok X G (T.says.fact 107 (f := .glo "beginnings") rfl)
theorem Txt.g_sizes (T : Txt K mg) : mg "sizes" = some (.ref (He.ga K "sizes")) := let ⟨_, X, G⟩ := T.at_; He.glo_ok X G (T.says.fact 108 (f := .glo "sizes") rfl)
theorem Txt.g_node_told (T : Txt K mg) : mg "node_told" = some (.ref (He.ga K "node_told")) := let ⟨_, X, G⟩ := T.at_; He.glo_ok X G (T.says.fact 109 (f := .glo "node_told") rfl)
theorem Txt.g_table_told (T : Txt K mg) : mg "table_told" = some (.ref (He.ga K "table_told")) := let ⟨_, X, G⟩ := T.at_; He.glo_ok X G (T.says.fact 110 (f := .glo "table_told") rfl)
theorem Txt.g_translated (T : Txt K mg) : mg "translated" = some (.ref (He.ga K "translated")) := let ⟨_, X, G⟩ := T.at_; He.glo_ok X G (T.says.fact 111 (f := .glo "translated") rfl)
theorem Txt.g_many_kept (T : Txt K mg) : mg "many_kept" = some (.ref (He.ga K "many_kept")) := let ⟨_, X, G⟩ := T.at_; He.glo_ok X G (T.says.fact 112 (f := .glo "many_kept") rfl)
theorem Txt.c_MOST_NODES (T : Txt K mg) : ∃ u, mg "MOST_NODES" = some u ∧ RelV (.int (300)) u := let ⟨_, X, G⟩ := T.at_; let ⟨t, e⟩ := He.int_ok X G (T.says.fact 113 (f := .int "MOST_NODES" (300)) rfl); ⟨_, e, t, rfl⟩
theorem Txt.g_NotTold (T : Txt K mg) : mg "NotTold" = some (.ref (He.ga K "NotTold")) := let ⟨_, X, G⟩ := T.at_; He.glo_ok X G (T.says.fact 114 (f := .glo "NotTold") rfl)
theorem Txt.kp_NotTold (T : Txt K mg) : PySem.W.keepIn K (.ref (He.ga K "NotTold")) = true := He.keep_ok (T.says.fact 115 (f := .keep "NotTold") rfl)
theorem Txt.xm_NotTold (T : Txt K mg) : PySem.W.exmOne K (.ref (He.ga K "NotTold")) (.ref (He.ga K "NotTold")) = some true := He.exm_ok (T.says.fact 116 (f := .exm "NotTold" "NotTold" true) rfl)
theorem Txt.xc_NotTold (T : Txt K mg) : PySem.W.excIn K (He.ga K "NotTold") He.veBase "ValueError.__new__" = true ∧ PySem.W.keepIn K (.ref (He.ga K "NotTold")) = true ∧ PySem.W.subIn K (.ref (He.ga K "NotTold")) (.type "BaseException") = some true ∧ PySem.W.typeIn K (.ref (He.ga K "NotTold")) = some (.type "type") := He.exc_ok (T.says.fact 117 (f := .exc "NotTold") rfl)
theorem Txt.g_Numbers (T : Txt K mg) : mg "Numbers" = some (.ref (He.ga K "Numbers")) := let ⟨_, X, G⟩ := T.at_; He.glo_ok X G (T.says.fact 118 (f := .glo "Numbers") rfl)
theorem Txt.me_Numbers_init (T : Txt K mg) : Meth K (He.ga K "Numbers") "__init__" (He.ma K (He.ga K "Numbers") "__init__") := He.meth_ok (T.says.fact 119 (f := .meth "Numbers" "__init__") rfl)
theorem Txt.me_Numbers_some (T : Txt K mg) : Meth K (He.ga K "Numbers") "some" (He.ma K (He.ga K "Numbers") "some") := He.meth_ok (T.says.fact 120 (f := .meth "Numbers" "some") rfl)
theorem Txt.me_Numbers_one (T : Txt K mg) : Meth K (He.ga K "Numbers") "one" (He.ma K (He.ga K "Numbers") "one") := He.meth_ok (T.says.fact 121 (f := .meth "Numbers" "one") rfl)
theorem Txt.me_Numbers_node (T : Txt K mg) : Meth K (He.ga K "Numbers") "node" (He.ma K (He.ga K "Numbers") "node") := He.meth_ok (T.says.fact 122 (f := .meth "Numbers" "node") rfl)
theorem Txt.me_Numbers_table (T : Txt K mg) : Meth K (He.ga K "Numbers") "table" (He.ma K (He.ga K "Numbers") "table") := He.meth_ok (T.says.fact 123 (f := .meth "Numbers" "table") rfl)
theorem Txt.na_Numbers_row (T : Txt K mg) : NoAttr K (He.ga K "Numbers") "row" := He.noat_ok (T.says.fact 124 (f := .noat "Numbers" "row") rfl)
theorem Txt.na_Numbers_at (T : Txt K mg) : NoAttr K (He.ga K "Numbers") "at" := He.noat_ok (T.says.fact 125 (f := .noat "Numbers" "at") rfl)
theorem Txt.cl_Numbers (T : Txt K mg) : Cls K (He.ga K "Numbers") := He.cls_ok (T.says.fact 126 (f := .cls "Numbers") rfl)
theorem Txt.mk_Numbers (T : Txt K mg) : Mk K (He.ga K "Numbers") (He.ma K (He.ga K "Numbers") "__init__") := He.mkr_ok (T.says.fact 127 (f := .mkr "Numbers") rfl)
theorem Txt.g_read_table (T : Txt K mg) : mg "read_table" = some (.ref (He.ga K "read_table")) := let ⟨_, X, G⟩ := T.at_; He.glo_ok X G (T.says.fact 128 (f := .glo "read_table") rfl)
theorem Txt.g_are_edges_right (T : Txt K mg) : mg "are_edges_right" = some (.ref (He.ga K "are_edges_right")) := let ⟨_, X, G⟩ := T.at_; He.glo_ok X G (T.says.fact 129 (f := .glo "are_edges_right") rfl)
theorem Txt.g_is_right (T : Txt K mg) : mg "is_right" = some (.ref (He.ga K "is_right")) := let ⟨_, X, G⟩ := T.at_; He.glo_ok X G (T.says.fact 130 (f := .glo "is_right") rfl)
theorem Txt.c_NO_LIST (T : Txt K mg) : ∃ u, mg "NO_LIST" = some u ∧ RelV (.int (-1)) u := let ⟨_, X, G⟩ := T.at_; let ⟨t, e⟩ := He.int_ok X G (T.says.fact 131 (f := .int "NO_LIST" (-1)) rfl); ⟨_, e, t, rfl⟩
theorem Txt.c_NONE (T : Txt K mg) : ∃ u, mg "NONE" = some u ∧ RelV (.int (-2)) u := let ⟨_, X, G⟩ := T.at_; let ⟨t, e⟩ := He.int_ok X G (T.says.fact 132 (f := .int "NONE" (-2)) rfl); ⟨_, e, t, rfl⟩
theorem Txt.c_BAD (T : Txt K mg) : ∃ u, mg "BAD" = some u ∧ RelV (.int (-4)) u := let ⟨_, X, G⟩ := T.at_; let ⟨t, e⟩ := He.int_ok X G (T.says.fact 133 (f := .int "BAD" (-4)) rfl); ⟨_, e, t, rfl⟩
theorem Txt.c_FULL (T : Txt K mg) : ∃ u, mg "FULL" = some u ∧ RelV (.int (-7)) u := let ⟨_, X, G⟩ := T.at_; let ⟨t, e⟩ := He.int_ok X G (T.says.fact 134 (f := .int "FULL" (-7)) rfl); ⟨_, e, t, rfl⟩
theorem Txt.g_Refused (T : Txt K mg) : mg "Refused" = some (.ref (He.ga K "Refused")) := let ⟨_, X, G⟩ := T.at_; He.glo_ok X G (T.says.fact 135 (f := .glo "Refused") rfl)
theorem Txt.me_Refused_init (T : Txt K mg) : Meth K (He.ga K "Refused") "__init__" (He.ma K (He.ga K "Refused") "__init__") := He.meth_ok (T.says.fact 136 (f := .meth "Refused" "__init__") rfl)
theorem Txt.na_Refused_refusal (T : Txt K mg) : NoAttr K (He.ga K "Refused") "refusal" := He.noat_ok (T.says.fact 137 (f := .noat "Refused" "refusal") rfl)
theorem Txt.kp_Refused (T : Txt K mg) : PySem.W.keepIn K (.ref (He.ga K "Refused")) = true := He.keep_ok (T.says.fact 138 (f := .keep "Refused") rfl)
theorem Txt.xm_Refused (T : Txt K mg) : PySem.W.exmOne K (.ref (He.ga K "Refused")) (.ref (He.ga K "Refused")) = some true := He.exm_ok (T.says.fact 139 (f := .exm "Refused" "Refused" true) rfl)
theorem Txt.g_want (T : Txt K mg) : mg "want" = some (.ref (He.ga K "want")) := let ⟨_, X, G⟩ := T.at_; He.glo_ok X G (T.says.fact 140 (f := .glo "want") rfl)
theorem Txt.g_want_letters (T : Txt K mg) : mg "want_letters" = some (.ref (He.ga K "want_letters")) := let ⟨_, X, G⟩ := T.at_; He.glo_ok X G (T.says.fact 141 (f := .glo "want_letters") rfl)
theorem Txt.g_Desk (T : Txt K mg) : mg "Desk" = some (.ref (He.ga K "Desk")) := let ⟨_, X, G⟩ := T.at_; He.glo_ok X G (T.says.fact 142 (f := .glo "Desk") rfl)
theorem Txt.me_Desk_init (T : Txt K mg) : Meth K (He.ga K "Desk") "__init__" (He.ma K (He.ga K "Desk") "__init__") := He.meth_ok (T.says.fact 143 (f := .meth "Desk" "__init__") rfl)
theorem Txt.me_Desk_load (T : Txt K mg) : Meth K (He.ga K "Desk") "load" (He.ma K (He.ga K "Desk") "load") := He.meth_ok (T.says.fact 144 (f := .meth "Desk" "load") rfl)
theorem Txt.me_Desk_counts (T : Txt K mg) : Meth K (He.ga K "Desk") "counts" (He.ma K (He.ga K "Desk") "counts") := He.meth_ok (T.says.fact 145 (f := .meth "Desk" "counts") rfl)
theorem Txt.me_Desk_store (T : Txt K mg) : Meth K (He.ga K "Desk") "store" (He.ma K (He.ga K "Desk") "store") := He.meth_ok (T.says.fact 146 (f := .meth "Desk" "store") rfl)
theorem Txt.me_Desk_levels (T : Txt K mg) : Meth K (He.ga K "Desk") "levels" (He.ma K (He.ga K "Desk") "levels") := He.meth_ok (T.says.fact 147 (f := .meth "Desk" "levels") rfl)
theorem Txt.me_Desk_part (T : Txt K mg) : Meth K (He.ga K "Desk") "part" (He.ma K (He.ga K "Desk") "part") := He.meth_ok (T.says.fact 148 (f := .meth "Desk" "part") rfl)
theorem Txt.me_Desk_change (T : Txt K mg) : Meth K (He.ga K "Desk") "change" (He.ma K (He.ga K "Desk") "change") := He.meth_ok (T.says.fact 149 (f := .meth "Desk" "change") rfl)
theorem Txt.me_Desk_add (T : Txt K mg) : Meth K (He.ga K "Desk") "add" (He.ma K (He.ga K "Desk") "add") := He.meth_ok (T.says.fact 150 (f := .meth "Desk" "add") rfl)
theorem Txt.me_Desk_drop (T : Txt K mg) : Meth K (He.ga K "Desk") "drop" (He.ma K (He.ga K "Desk") "drop") := He.meth_ok (T.says.fact 151 (f := .meth "Desk" "drop") rfl)
theorem Txt.me_Desk_check (T : Txt K mg) : Meth K (He.ga K "Desk") "check" (He.ma K (He.ga K "Desk") "check") := He.meth_ok (T.says.fact 152 (f := .meth "Desk" "check") rfl)
theorem Txt.me_Desk_find (T : Txt K mg) : Meth K (He.ga K "Desk") "find" (He.ma K (He.ga K "Desk") "find") := He.meth_ok (T.says.fact 153 (f := .meth "Desk" "find") rfl)
theorem Txt.me_Desk_node (T : Txt K mg) : Meth K (He.ga K "Desk") "node" (He.ma K (He.ga K "Desk") "node") := He.meth_ok (T.says.fact 154 (f := .meth "Desk" "node") rfl)
theorem Txt.na_Desk_held (T : Txt K mg) : NoAttr K (He.ga K "Desk") "held" := He.noat_ok (T.says.fact 155 (f := .noat "Desk" "held") rfl)
theorem Txt.na_Desk_packed (T : Txt K mg) : NoAttr K (He.ga K "Desk") "packed" := He.noat_ok (T.says.fact 156 (f := .noat "Desk" "packed") rfl)
theorem Txt.cl_Desk (T : Txt K mg) : Cls K (He.ga K "Desk") := He.cls_ok (T.says.fact 157 (f := .cls "Desk") rfl)
theorem Txt.mk_Desk (T : Txt K mg) : Mk K (He.ga K "Desk") (He.ma K (He.ga K "Desk") "__init__") := He.mkr_ok (T.says.fact 158 (f := .mkr "Desk") rfl)
theorem Txt.g_WITH_NUMBER (T : Txt K mg) : mg "WITH_NUMBER" = some (.ref (He.ga K "WITH_NUMBER")) := let ⟨_, X, G⟩ := T.at_; He.glo_ok X G (T.says.fact 159 (f := .glo "WITH_NUMBER") rfl)
theorem Txt.g_WITH_LIST (T : Txt K mg) : mg "WITH_LIST" = some (.ref (He.ga K "WITH_LIST")) := let ⟨_, X, G⟩ := T.at_; He.glo_ok X G (T.says.fact 160 (f := .glo "WITH_LIST") rfl)
theorem Txt.c_LOAD (T : Txt K mg) : ∃ u, mg "LOAD" = some u ∧ RelV (.int (0)) u := let ⟨_, X, G⟩ := T.at_; let ⟨t, e⟩ := He.int_ok X G (T.says.fact 161 (f := .int "LOAD" (0)) rfl); ⟨_, e, t, rfl⟩
theorem Txt.g_called (T : Txt K mg) : mg "called" = some (.ref (He.ga K "called")) := let ⟨_, X, G⟩ := T.at_; He.glo_ok X G (T.says.fact 162 (f := .glo "called") rfl)
theorem Txt.g_answer (T : Txt K mg) : mg "answer" = some (.ref (He.ga K "answer")) := let ⟨_, X, G⟩ := T.at_; He.glo_ok X G (T.says.fact 163 (f := .glo "answer") rfl)
theorem Txt.g_call_at (T : Txt K mg) : mg "call_at" = some (.ref (He.ga K "call_at")) := let ⟨_, X, G⟩ := T.at_; He.glo_ok X G (T.says.fact 164 (f := .glo "call_at") rfl)
theorem Txt.g_answers (T : Txt K mg) : mg "answers" = some (.ref (He.ga K "answers")) := let ⟨_, X, G⟩ := T.at_; He.glo_ok X G (T.says.fact 165 (f := .glo "answers") rfl)
theorem Txt.n_len (T : Txt K mg) : mg "len" = none := let ⟨_, X, G⟩ := T.at_; He.free_ok X G (T.says.fact 166 (f := .free "len") rfl)
theorem Txt.n_range (T : Txt K mg) : mg "range" = none := let ⟨_, X, G⟩ := T.at_; He.free_ok X G (T.says.fact 167 (f := .free "range") rfl)
theorem Txt.n_sorted (T : Txt K mg) : mg "sorted" = none := let ⟨_, X, G⟩ := T.at_; He.free_ok X G (T.says.fact 168 (f := .free "sorted") rfl)
theorem Txt.n_set (T : Txt K mg) : mg "set" = none := let ⟨_, X, G⟩ := T.at_; He.free_ok X G (T.says.fact 169 (f := .free "set") rfl)
theorem Txt.n_sum (T : Txt K mg) : mg "sum" = none := let ⟨_, X, G⟩ := T.at_; He.free_ok X G (T.says.fact 170 (f := .free "sum") rfl)
theorem Txt.n_max (T : Txt K mg) : mg "max" = none := let ⟨_, X, G⟩ := T.at_; He.free_ok X G (T.says.fact 171 (f := .free "max") rfl)
theorem Txt.n_min (T : Txt K mg) : mg "min" = none := let ⟨_, X, G⟩ := T.at_; He.free_ok X G (T.says.fact 172 (f := .free "min") rfl)
theorem Txt.n_all (T : Txt K mg) : mg "all" = none := let ⟨_, X, G⟩ := T.at_; He.free_ok X G (T.says.fact 173 (f := .free "all") rfl)
theorem Txt.n_any (T : Txt K mg) : mg "any" = none := let ⟨_, X, G⟩ := T.at_; He.free_ok X G (T.says.fact 174 (f := .free "any") rfl)
theorem Txt.n_int (T : Txt K mg) : mg "int" = none := let ⟨_, X, G⟩ := T.at_; He.free_ok X G (T.says.fact 175 (f := .free "int") rfl)
theorem Txt.n_tuple (T : Txt K mg) : mg "tuple" = none := let ⟨_, X, G⟩ := T.at_; He.free_ok X G (T.says.fact 176 (f := .free "tuple") rfl)
theorem Txt.n_list (T : Txt K mg) : mg "list" = none := let ⟨_, X, G⟩ := T.at_; He.free_ok X G (T.says.fact 177 (f := .free "list") rfl)
theorem Txt.n_enumerate (T : Txt K mg) : mg "enumerate" = none := let ⟨_, X, G⟩ := T.at_; He.free_ok X G (T.says.fact 178 (f := .free "enumerate") rfl)
theorem Txt.n_zip (T : Txt K mg) : mg "zip" = none := let ⟨_, X, G⟩ := T.at_; He.free_ok X G (T.says.fact 179 (f := .free "zip") rfl)
theorem Txt.n_ord (T : Txt K mg) : mg "ord" = none := let ⟨_, X, G⟩ := T.at_; He.free_ok X G (T.says.fact 180 (f := .free "ord") rfl)
theorem Txt.n_ValueError (T : Txt K mg) : mg "ValueError" = none := let ⟨_, X, G⟩ := T.at_; He.free_ok X G (T.says.fact 181 (f := .free "ValueError") rfl)
abbrev N_Fault_init : List Str := ["self", "code", "place"]
theorem sc_Fault_init : FnScope N_Fault_init ["self", "code", "place"] d_Fault_init.scope := ⟨rfl, rfl, rfl, by decide +kernel, rfl, by decide +kernel, by decide +kernel⟩
theorem Txt.df_Fault_init (T : Txt K mg) : Df K d_Fault_init (He.fAd K ("Fault", some "__init__")) ["self", "code", "place"] N_Fault_init := ⟨T.says.def_ 0 (d := d_Fault_init) rfl, sc_Fault_init, fun _ _ _ _ _ _ us hl => match us, hl with | [_, _, _], _ => rfl⟩
abbrev N_is_letter : List Str := ["byte"]
theorem sc_is_letter : FnScope N_is_letter ["byte"] d_is_letter.scope := ⟨rfl, rfl, rfl, by decide +kernel, rfl, by decide +kernel, by decide +kernel⟩
theorem Txt.df_is_letter (T : Txt K mg) : Df K d_is_letter (He.fAd K ("is_letter", none)) ["byte"] N_is_letter := ⟨T.says.def_ 1 (d := d_is_letter) rfl, sc_is_letter, fun _ _ _ _ _ _ us hl => match us, hl with | [_], _ => rfl⟩
abbrev N_is_digit : List Str := ["byte"]
theorem sc_is_digit : FnScope N_is_digit ["byte"] d_is_digit.scope := ⟨rfl, rfl, rfl, by decide +kernel, rfl, by decide +kernel, by decide +kernel⟩
theorem Txt.df_is_digit (T : Txt K mg) : Df K d_is_digit (He.fAd K ("is_digit", none)) ["byte"] N_is_digit := ⟨T.says.def_ 2 (d := d_is_digit) rfl, sc_is_digit, fun _ _ _ _ _ _ us hl => match us, hl with | [_], _ => rfl⟩
abbrev N_is_of_chunk : List Str := ["byte"]
theorem sc_is_of_chunk : FnScope N_is_of_chunk ["byte"] d_is_of_chunk.scope := ⟨rfl, rfl, rfl, by decide +kernel, rfl, by decide +kernel, by decide +kernel⟩
theorem Txt.df_is_of_chunk (T : Txt K mg) : Df K d_is_of_chunk (He.fAd K ("is_of_chunk", none)) ["byte"] N_is_of_chunk := ⟨T.says.def_ 3 (d := d_is_of_chunk) rfl, sc_is_of_chunk, fun _ _ _ _ _ _ us hl => match us, hl with | [_], _ => rfl⟩
abbrev N_chunk_end : List Str := ["text", "at"]
theorem sc_chunk_end : FnScope N_chunk_end ["text", "at"] d_chunk_end.scope := ⟨rfl, rfl, rfl, by decide +kernel, rfl, by decide +kernel, by decide +kernel⟩
theorem Txt.df_chunk_end (T : Txt K mg) : Df K d_chunk_end (He.fAd K ("chunk_end", none)) ["text", "at"] N_chunk_end := ⟨T.says.def_ 4 (d := d_chunk_end) rfl, sc_chunk_end, fun _ _ _ _ _ _ us hl => match us, hl with | [_, _], _ => rfl⟩
abbrev N_behind_remark : List Str := ["text", "at"]
theorem sc_behind_remark : FnScope N_behind_remark ["text", "at"] d_behind_remark.scope := ⟨rfl, rfl, rfl, by decide +kernel, rfl, by decide +kernel, by decide +kernel⟩
theorem Txt.df_behind_remark (T : Txt K mg) : Df K d_behind_remark (He.fAd K ("behind_remark", none)) ["text", "at"] N_behind_remark := ⟨T.says.def_ 5 (d := d_behind_remark) rfl, sc_behind_remark, fun _ _ _ _ _ _ us hl => match us, hl with | [_, _], _ => rfl⟩
abbrev N_token_at : List Str := ["text", "at", "end"]
theorem sc_token_at : FnScope N_token_at ["text", "at"] d_token_at.scope := ⟨rfl, rfl, rfl, by decide +kernel, rfl, by decide +kernel, by decide +kernel⟩
theorem Txt.df_token_at (T : Txt K mg) : Df K d_token_at (He.fAd K ("token_at", none)) ["text", "at"] N_token_at := ⟨T.says.def_ 6 (d := d_token_at) rfl, sc_token_at, fun _ _ _ _ _ _ us hl => match us, hl with | [_, _], _ => rfl⟩
abbrev N_tokens_of : List Str := ["text", "found", "at", "token"]
theorem sc_tokens_of : FnScope N_tokens_of ["text"] d_tokens_of.scope := ⟨rfl, rfl, rfl, by decide +kernel, rfl, by decide +kernel, by decide +kernel⟩
theorem Txt.df_tokens_of (T : Txt K mg) : Df K d_tokens_of (He.fAd K ("tokens_of", none)) ["text"] N_tokens_of := ⟨T.says.def_ 7 (d := d_tokens_of) rfl, sc_tokens_of, fun _ _ _ _ _ _ us hl => match us, hl with | [_], _ => rfl⟩
abbrev N_Pattern_init : List Str := ["self", "front", "letters", "end", "digits"]
theorem sc_Pattern_init : FnScope N_Pattern_init ["self", "front", "letters", "end", "digits"] d_Pattern_init.scope := ⟨rfl, rfl, rfl, by decide +kernel, rfl, by decide +kernel, by decide +kernel⟩
theorem Txt.df_Pattern_init (T : Txt K mg) : Df K d_Pattern_init (He.fAd K ("Pattern", some "__init__")) ["self", "front", "letters", "end", "digits"] N_Pattern_init := ⟨T.says.def_ 8 (d := d_Pattern_init) rfl, sc_Pattern_init, fun _ _ _ _ _ _ us hl => match us, hl with | [_, _, _, _, _], _ => rfl⟩
abbrev N_Pattern_signs : List Str := ["self"]
theorem sc_Pattern_signs : FnScope N_Pattern_signs ["self"] d_Pattern_signs.scope := ⟨rfl, rfl, rfl, by decide +kernel, rfl, by decide +kernel, by decide +kernel⟩
theorem Txt.df_Pattern_signs (T : Txt K mg) : Df K d_Pattern_signs (He.fAd K ("Pattern", some "signs")) ["self"] N_Pattern_signs := ⟨T.says.def_ 9 (d := d_Pattern_signs) rfl, sc_Pattern_signs, fun _ _ _ _ _ _ us hl => match us, hl with | [_], _ => rfl⟩
abbrev N_points_of : List Str := ["chunk", "front"]
theorem sc_points_of : FnScope N_points_of ["chunk"] d_points_of.scope := ⟨rfl, rfl, rfl, by decide +kernel, rfl, by decide +kernel, by decide +kernel⟩
theorem Txt.df_points_of (T : Txt K mg) : Df K d_points_of (He.fAd K ("points_of", none)) ["chunk"] N_points_of := ⟨T.says.def_ 10 (d := d_points_of) rfl, sc_points_of, fun _ _ _ _ _ _ us hl => match us, hl with | [_], _ => rfl⟩
abbrev N_read_body : List Str := ["body", "letters", "digits", "byte"]
theorem sc_read_body : FnScope N_read_body ["body"] d_read_body.scope := ⟨rfl, rfl, rfl, by decide +kernel, rfl, by decide +kernel, by decide +kernel⟩
theorem Txt.df_read_body (T : Txt K mg) : Df K d_read_body (He.fAd K ("read_body", none)) ["body"] N_read_body := ⟨T.says.def_ 11 (d := d_read_body) rfl, sc_read_body, fun _ _ _ _ _ _ us hl => match us, hl with | [_], _ => rfl⟩
abbrev N_read_pattern : List Str := ["chunk", "front", "end", "found"]
theorem sc_read_pattern : FnScope N_read_pattern ["chunk"] d_read_pattern.scope := ⟨rfl, rfl, rfl, by decide +kernel, rfl, by decide +kernel, by decide +kernel⟩
theorem Txt.df_read_pattern (T : Txt K mg) : Df K d_read_pattern (He.fAd K ("read_pattern", none)) ["chunk"] N_read_pattern := ⟨T.says.def_ 12 (d := d_read_pattern) rfl, sc_read_pattern, fun _ _ _ _ _ _ us hl => match us, hl with | [_], _ => rfl⟩
abbrev N_letters_of_word : List Str := ["chunk", "letters", "byte", "b", "one", "other"]
theorem sc_letters_of_word : FnScope N_letters_of_word ["chunk"] d_letters_of_word.scope := ⟨rfl, rfl, rfl, by decide +kernel, rfl, by decide +kernel, by decide +kernel⟩
theorem Txt.df_letters_of_word (T : Txt K mg) : Df K d_letters_of_word (He.fAd K ("letters_of_word", none)) ["chunk"] N_letters_of_word := ⟨T.says.def_ 13 (d := d_letters_of_word) rfl, sc_letters_of_word, fun _ _ _ _ _ _ us hl => match us, hl with | [_], _ => rfl⟩
abbrev N_Listed_init : List Str := ["self", "left", "right", "many_words", "patterns"]
theorem sc_Listed_init : FnScope N_Listed_init ["self", "left", "right", "many_words", "patterns"] d_Listed_init.scope := ⟨rfl, rfl, rfl, by decide +kernel, rfl, by decide +kernel, by decide +kernel⟩
theorem Txt.df_Listed_init (T : Txt K mg) : Df K d_Listed_init (He.fAd K ("Listed", some "__init__")) ["self", "left", "right", "many_words", "patterns"] N_Listed_init := ⟨T.says.def_ 14 (d := d_Listed_init) rfl, sc_Listed_init, fun _ _ _ _ _ _ us hl => match us, hl with | [_, _, _, _, _], _ => rfl⟩
abbrev N_Listed_with_patterns : List Str := ["self", "patterns"]
theorem sc_Listed_with_patterns : FnScope N_Listed_with_patterns ["self", "patterns"] d_Listed_with_patterns.scope := ⟨rfl, rfl, rfl, by decide +kernel, rfl, by decide +kernel, by decide +kernel⟩
theorem Txt.df_Listed_with_patterns (T : Txt K mg) : Df K d_Listed_with_patterns (He.fAd K ("Listed", some "with_patterns")) ["self", "patterns"] N_Listed_with_patterns := ⟨T.says.def_ 15 (d := d_Listed_with_patterns) rfl, sc_Listed_with_patterns, fun _ _ _ _ _ _ us hl => match us, hl with | [_, _], _ => rfl⟩
abbrev N_place_of : List Str := ["patterns", "signs", "found", "k", "one"]
theorem sc_place_of : FnScope N_place_of ["patterns", "signs"] d_place_of.scope := ⟨rfl, rfl, rfl, by decide +kernel, rfl, by decide +kernel, by decide +kernel⟩
theorem Txt.df_place_of (T : Txt K mg) : Df K d_place_of (He.fAd K ("place_of", none)) ["patterns", "signs"] N_place_of := ⟨T.says.def_ 16 (d := d_place_of) rfl, sc_place_of, fun _ _ _ _ _ _ us hl => match us, hl with | [_, _], _ => rfl⟩
abbrev N_Reader_init : List Str := ["self", "tokens"]
theorem sc_Reader_init : FnScope N_Reader_init ["self", "tokens"] d_Reader_init.scope := ⟨rfl, rfl, rfl, by decide +kernel, rfl, by decide +kernel, by decide +kernel⟩
theorem Txt.df_Reader_init (T : Txt K mg) : Df K d_Reader_init (He.fAd K ("Reader", some "__init__")) ["self", "tokens"] N_Reader_init := ⟨T.says.def_ 17 (d := d_Reader_init) rfl, sc_Reader_init, fun _ _ _ _ _ _ us hl => match us, hl with | [_, _], _ => rfl⟩
abbrev N_Reader_token : List Str := ["self"]
theorem sc_Reader_token : FnScope N_Reader_token ["self"] d_Reader_token.scope := ⟨rfl, rfl, rfl, by decide +kernel, rfl, by decide +kernel, by decide +kernel⟩
theorem Txt.df_Reader_token (T : Txt K mg) : Df K d_Reader_token (He.fAd K ("Reader", some "token")) ["self"] N_Reader_token := ⟨T.says.def_ 18 (d := d_Reader_token) rfl, sc_Reader_token, fun _ _ _ _ _ _ us hl => match us, hl with | [_], _ => rfl⟩
abbrev N_Reader_fault : List Str := ["self", "code"]
theorem sc_Reader_fault : FnScope N_Reader_fault ["self", "code"] d_Reader_fault.scope := ⟨rfl, rfl, rfl, by decide +kernel, rfl, by decide +kernel, by decide +kernel⟩
theorem Txt.df_Reader_fault (T : Txt K mg) : Df K d_Reader_fault (He.fAd K ("Reader", some "fault")) ["self", "code"] N_Reader_fault := ⟨T.says.def_ 19 (d := d_Reader_fault) rfl, sc_Reader_fault, fun _ _ _ _ _ _ us hl => match us, hl with | [_, _], _ => rfl⟩
abbrev N_Reader_comes : List Str := ["self", "text", "sign"]
theorem sc_Reader_comes : FnScope N_Reader_comes ["self", "text"] d_Reader_comes.scope := ⟨rfl, rfl, rfl, by decide +kernel, rfl, by decide +kernel, by decide +kernel⟩
theorem Txt.df_Reader_comes (T : Txt K mg) : Df K d_Reader_comes (He.fAd K ("Reader", some "comes")) ["self", "text"] N_Reader_comes := ⟨T.says.def_ 20 (d := d_Reader_comes) rfl, sc_Reader_comes, fun _ _ _ _ _ _ us hl => match us, hl with | [_, _], _ => rfl⟩
abbrev N_Reader_take : List Str := ["self", "sort"]
theorem sc_Reader_take : FnScope N_Reader_take ["self", "sort"] d_Reader_take.scope := ⟨rfl, rfl, rfl, by decide +kernel, rfl, by decide +kernel, by decide +kernel⟩
theorem Txt.df_Reader_take (T : Txt K mg) : Df K d_Reader_take (He.fAd K ("Reader", some "take")) ["self", "sort"] N_Reader_take := ⟨T.says.def_ 21 (d := d_Reader_take) rfl, sc_Reader_take, fun _ _ _ _ _ _ us hl => match us, hl with | [_, _], _ => rfl⟩
abbrev N_Reader_take_chunk_of : List Str := ["self", "text"]
theorem sc_Reader_take_chunk_of : FnScope N_Reader_take_chunk_of ["self", "text"] d_Reader_take_chunk_of.scope := ⟨rfl, rfl, rfl, by decide +kernel, rfl, by decide +kernel, by decide +kernel⟩
theorem Txt.df_Reader_take_chunk_of (T : Txt K mg) : Df K d_Reader_take_chunk_of (He.fAd K ("Reader", some "take_chunk_of")) ["self", "text"] N_Reader_take_chunk_of := ⟨T.says.def_ 22 (d := d_Reader_take_chunk_of) rfl, sc_Reader_take_chunk_of, fun _ _ _ _ _ _ us hl => match us, hl with | [_, _], _ => rfl⟩
abbrev N_Reader_chunk : List Str := ["self"]
theorem sc_Reader_chunk : FnScope N_Reader_chunk ["self"] d_Reader_chunk.scope := ⟨rfl, rfl, rfl, by decide +kernel, rfl, by decide +kernel, by decide +kernel⟩
theorem Txt.df_Reader_chunk (T : Txt K mg) : Df K d_Reader_chunk (He.fAd K ("Reader", some "chunk")) ["self"] N_Reader_chunk := ⟨T.says.def_ 23 (d := d_Reader_chunk) rfl, sc_Reader_chunk, fun _ _ _ _ _ _ us hl => match us, hl with | [_], _ => rfl⟩
abbrev N_Reader_margin : List Str := ["self", "chunk"]
theorem sc_Reader_margin : FnScope N_Reader_margin ["self"] d_Reader_margin.scope := ⟨rfl, rfl, rfl, by decide +kernel, rfl, by decide +kernel, by decide +kernel⟩
theorem Txt.df_Reader_margin (T : Txt K mg) : Df K d_Reader_margin (He.fAd K ("Reader", some "margin")) ["self"] N_Reader_margin := ⟨T.says.def_ 24 (d := d_Reader_margin) rfl, sc_Reader_margin, fun _ _ _ _ _ _ us hl => match us, hl with | [_], _ => rfl⟩
abbrev N_Reader_word : List Str := ["self", "others", "letters"]
theorem sc_Reader_word : FnScope N_Reader_word ["self", "others"] d_Reader_word.scope := ⟨rfl, rfl, rfl, by decide +kernel, rfl, by decide +kernel, by decide +kernel⟩
theorem Txt.df_Reader_word (T : Txt K mg) : Df K d_Reader_word (He.fAd K ("Reader", some "word")) ["self", "others"] N_Reader_word := ⟨T.says.def_ 25 (d := d_Reader_word) rfl, sc_Reader_word, fun _ _ _ _ _ _ us hl => match us, hl with | [_, _], _ => rfl⟩
abbrev N_Reader_pattern : List Str := ["self", "others", "found"]
theorem sc_Reader_pattern : FnScope N_Reader_pattern ["self", "others"] d_Reader_pattern.scope := ⟨rfl, rfl, rfl, by decide +kernel, rfl, by decide +kernel, by decide +kernel⟩
theorem Txt.df_Reader_pattern (T : Txt K mg) : Df K d_Reader_pattern (He.fAd K ("Reader", some "pattern")) ["self", "others"] N_Reader_pattern := ⟨T.says.def_ 26 (d := d_Reader_pattern) rfl, sc_Reader_pattern, fun _ _ _ _ _ _ us hl => match us, hl with | [_, _], _ => rfl⟩
abbrev N_Reader_all_words : List Str := ["self", "found"]
theorem sc_Reader_all_words : FnScope N_Reader_all_words ["self"] d_Reader_all_words.scope := ⟨rfl, rfl, rfl, by decide +kernel, rfl, by decide +kernel, by decide +kernel⟩
theorem Txt.df_Reader_all_words (T : Txt K mg) : Df K d_Reader_all_words (He.fAd K ("Reader", some "all_words")) ["self"] N_Reader_all_words := ⟨T.says.def_ 27 (d := d_Reader_all_words) rfl, sc_Reader_all_words, fun _ _ _ _ _ _ us hl => match us, hl with | [_], _ => rfl⟩
abbrev N_Reader_all_patterns : List Str := ["self", "found"]
theorem sc_Reader_all_patterns : FnScope N_Reader_all_patterns ["self"] d_Reader_all_patterns.scope := ⟨rfl, rfl, rfl, by decide +kernel, rfl, by decide +kernel, by decide +kernel⟩
theorem Txt.df_Reader_all_patterns (T : Txt K mg) : Df K d_Reader_all_patterns (He.fAd K ("Reader", some "all_patterns")) ["self"] N_Reader_all_patterns := ⟨T.says.def_ 28 (d := d_Reader_all_patterns) rfl, sc_Reader_all_patterns, fun _ _ _ _ _ _ us hl => match us, hl with | [_], _ => rfl⟩
abbrev N_Reader_listed : List Str := ["self", "left", "right", "words", "patterns"]
theorem sc_Reader_listed : FnScope N_Reader_listed ["self"] d_Reader_listed.scope := ⟨rfl, rfl, rfl, by decide +kernel, rfl, by decide +kernel, by decide +kernel⟩
theorem Txt.df_Reader_listed (T : Txt K mg) : Df K d_Reader_listed (He.fAd K ("Reader", some "listed")) ["self"] N_Reader_listed := ⟨T.says.def_ 29 (d := d_Reader_listed) rfl, sc_Reader_listed, fun _ _ _ _ _ _ us hl => match us, hl with | [_], _ => rfl⟩
abbrev N_read_list : List Str := ["text"]
theorem sc_read_list : FnScope N_read_list ["text"] d_read_list.scope := ⟨rfl, rfl, rfl, by decide +kernel, rfl, by decide +kernel, by decide +kernel⟩
theorem Txt.df_read_list (T : Txt K mg) : Df K d_read_list (He.fAd K ("read_list", none)) ["text"] N_read_list := ⟨T.says.def_ 30 (d := d_read_list) rfl, sc_read_list, fun _ _ _ _ _ _ us hl => match us, hl with | [_], _ => rfl⟩
abbrev N_signs_of : List Str := ["letters"]
theorem sc_signs_of : FnScope N_signs_of ["letters"] d_signs_of.scope := ⟨rfl, rfl, rfl, by decide +kernel, rfl, by decide +kernel, by decide +kernel⟩
theorem Txt.df_signs_of (T : Txt K mg) : Df K d_signs_of (He.fAd K ("signs_of", none)) ["letters"] N_signs_of := ⟨T.says.def_ 31 (d := d_signs_of) rfl, sc_signs_of, fun _ _ _ _ _ _ us hl => match us, hl with | [_], _ => rfl⟩
abbrev N_steps_from : List Str := ["table", "signs", "start", "row"]
theorem sc_steps_from : FnScope N_steps_from ["table", "signs", "start"] d_steps_from.scope := ⟨rfl, rfl, rfl, by decide +kernel, rfl, by decide +kernel, by decide +kernel⟩
theorem Txt.df_steps_from (T : Txt K mg) : Df K d_steps_from (He.fAd K ("steps_from", none)) ["table", "signs", "start"] N_steps_from := ⟨T.says.def_ 32 (d := d_steps_from) rfl, sc_steps_from, fun _ _ _ _ _ _ us hl => match us, hl with | [_, _, _], _ => rfl⟩
abbrev N_ends_from : List Str := ["table", "signs", "start", "found", "k", "digits"]
theorem sc_ends_from : FnScope N_ends_from ["table", "signs", "start"] d_ends_from.scope := ⟨rfl, rfl, rfl, by decide +kernel, rfl, by decide +kernel, by decide +kernel⟩
theorem Txt.df_ends_from (T : Txt K mg) : Df K d_ends_from (He.fAd K ("ends_from", none)) ["table", "signs", "start"] N_ends_from := ⟨T.says.def_ 33 (d := d_ends_from) rfl, sc_ends_from, fun _ _ _ _ _ _ us hl => match us, hl with | [_, _, _], _ => rfl⟩
abbrev N_put_over : List Str := ["levels", "digits", "gap", "found", "k", "digit"]
theorem sc_put_over : FnScope N_put_over ["levels", "digits", "gap"] d_put_over.scope := ⟨rfl, rfl, rfl, by decide +kernel, rfl, by decide +kernel, by decide +kernel⟩
theorem Txt.df_put_over (T : Txt K mg) : Df K d_put_over (He.fAd K ("put_over", none)) ["levels", "digits", "gap"] N_put_over := ⟨T.says.def_ 34 (d := d_put_over) rfl, sc_put_over, fun _ _ _ _ _ _ us hl => match us, hl with | [_, _, _], _ => rfl⟩
abbrev N_looked_up : List Str := ["table", "letters", "signs", "levels", "steps", "start", "digits"]
theorem sc_looked_up : FnScope N_looked_up ["table", "letters"] d_looked_up.scope := ⟨rfl, rfl, rfl, by decide +kernel, rfl, by decide +kernel, by decide +kernel⟩
theorem Txt.df_looked_up (T : Txt K mg) : Df K d_looked_up (He.fAd K ("looked_up", none)) ["table", "letters"] N_looked_up := ⟨T.says.def_ 35 (d := d_looked_up) rfl, sc_looked_up, fun _ _ _ _ _ _ us hl => match us, hl with | [_, _], _ => rfl⟩
abbrev N_parted_gaps : List Str := ["levels", "left", "right", "last", "gap"]
theorem sc_parted_gaps : FnScope N_parted_gaps ["levels", "left", "right"] d_parted_gaps.scope := ⟨rfl, rfl, rfl, by decide +kernel, rfl, by decide +kernel, by decide +kernel⟩
theorem Txt.df_parted_gaps (T : Txt K mg) : Df K d_parted_gaps (He.fAd K ("parted_gaps", none)) ["levels", "left", "right"] N_parted_gaps := ⟨T.says.def_ 36 (d := d_parted_gaps) rfl, sc_parted_gaps, fun _ _ _ _ _ _ us hl => match us, hl with | [_, _, _], _ => rfl⟩
abbrev N_Table_init : List Str := ["self", "nodes", "first"]
theorem sc_Table_init : FnScope N_Table_init ["self", "nodes", "first"] d_Table_init.scope := ⟨rfl, rfl, rfl, by decide +kernel, rfl, by decide +kernel, by decide +kernel⟩
theorem Txt.df_Table_init (T : Txt K mg) : Df K d_Table_init (He.fAd K ("Table", some "__init__")) ["self", "nodes", "first"] N_Table_init := ⟨T.says.def_ 37 (d := d_Table_init) rfl, sc_Table_init, fun _ _ _ _ _ _ us hl => match us, hl with | [_, _, _], _ => rfl⟩
abbrev N_Table_next_node : List Str := ["self", "k", "sign", "own", "goal"]
theorem sc_Table_next_node : FnScope N_Table_next_node ["self", "k", "sign"] d_Table_next_node.scope := ⟨rfl, rfl, rfl, by decide +kernel, rfl, by decide +kernel, by decide +kernel⟩
theorem Txt.df_Table_next_node (T : Txt K mg) : Df K d_Table_next_node (He.fAd K ("Table", some "next_node")) ["self", "k", "sign"] N_Table_next_node := ⟨T.says.def_ 38 (d := d_Table_next_node) rfl, sc_Table_next_node, fun _ _ _ _ _ _ us hl => match us, hl with | [_, _, _], _ => rfl⟩
abbrev N_Table_way : List Str := ["self", "signs", "found", "sign", "goal"]
theorem sc_Table_way : FnScope N_Table_way ["self", "signs"] d_Table_way.scope := ⟨rfl, rfl, rfl, by decide +kernel, rfl, by decide +kernel, by decide +kernel⟩
theorem Txt.df_Table_way (T : Txt K mg) : Df K d_Table_way (He.fAd K ("Table", some "way")) ["self", "signs"] N_Table_way := ⟨T.says.def_ 39 (d := d_Table_way) rfl, sc_Table_way, fun _ _ _ _ _ _ us hl => match us, hl with | [_, _], _ => rfl⟩
abbrev N_Table_ends : List Str := ["self", "found", "digits", "edges", "sign", "goal"]
theorem sc_Table_ends : FnScope N_Table_ends ["self"] d_Table_ends.scope := ⟨rfl, rfl, rfl, by decide +kernel, rfl, by decide +kernel, by decide +kernel⟩
theorem Txt.df_Table_ends (T : Txt K mg) : Df K d_Table_ends (He.fAd K ("Table", some "ends")) ["self"] N_Table_ends := ⟨T.says.def_ 40 (d := d_Table_ends) rfl, sc_Table_ends, fun _ _ _ _ _ _ us hl => match us, hl with | [_], _ => rfl⟩
abbrev N_Table_digits_behind : List Str := ["self", "signs", "row"]
theorem sc_Table_digits_behind : FnScope N_Table_digits_behind ["self", "signs"] d_Table_digits_behind.scope := ⟨rfl, rfl, rfl, by decide +kernel, rfl, by decide +kernel, by decide +kernel⟩
theorem Txt.df_Table_digits_behind (T : Txt K mg) : Df K d_Table_digits_behind (He.fAd K ("Table", some "digits_behind")) ["self", "signs"] N_Table_digits_behind := ⟨T.says.def_ 41 (d := d_Table_digits_behind) rfl, sc_Table_digits_behind, fun _ _ _ _ _ _ us hl => match us, hl with | [_, _], _ => rfl⟩
abbrev N_Table_does_tell : List Str := ["self", "patterns", "one"]
theorem sc_Table_does_tell : FnScope N_Table_does_tell ["self", "patterns"] d_Table_does_tell.scope := ⟨rfl, rfl, rfl, by decide +kernel, rfl, by decide +kernel, by decide +kernel⟩
theorem Txt.df_Table_does_tell (T : Txt K mg) : Df K d_Table_does_tell (He.fAd K ("Table", some "does_tell")) ["self", "patterns"] N_Table_does_tell := ⟨T.says.def_ 42 (d := d_Table_does_tell) rfl, sc_Table_does_tell, fun _ _ _ _ _ _ us hl => match us, hl with | [_, _], _ => rfl⟩
abbrev N_Packer_init : List Str := ["self"]
theorem sc_Packer_init : FnScope N_Packer_init ["self"] d_Packer_init.scope := ⟨rfl, rfl, rfl, by decide +kernel, rfl, by decide +kernel, by decide +kernel⟩
theorem Txt.df_Packer_init (T : Txt K mg) : Df K d_Packer_init (He.fAd K ("Packer", some "__init__")) ["self"] N_Packer_init := ⟨T.says.def_ 43 (d := d_Packer_init) rfl, sc_Packer_init, fun _ _ _ _ _ _ us hl => match us, hl with | [_], _ => rfl⟩
abbrev N_Packer_number_of : List Str := ["self", "node"]
theorem sc_Packer_number_of : FnScope N_Packer_number_of ["self", "node"] d_Packer_number_of.scope := ⟨rfl, rfl, rfl, by decide +kernel, rfl, by decide +kernel, by decide +kernel⟩
theorem Txt.df_Packer_number_of (T : Txt K mg) : Df K d_Packer_number_of (He.fAd K ("Packer", some "number_of")) ["self", "node"] N_Packer_number_of := ⟨T.says.def_ 44 (d := d_Packer_number_of) rfl, sc_Packer_number_of, fun _ _ _ _ _ _ us hl => match us, hl with | [_, _], _ => rfl⟩
abbrev N_Packer_node_of : List Str := ["self", "entries", "edges", "sign", "signs", "digits", "some", "own"]
theorem sc_Packer_node_of : FnScope N_Packer_node_of ["self", "entries"] d_Packer_node_of.scope := ⟨rfl, rfl, rfl, by decide +kernel, rfl, by decide +kernel, by decide +kernel⟩
theorem Txt.df_Packer_node_of (T : Txt K mg) : Df K d_Packer_node_of (He.fAd K ("Packer", some "node_of")) ["self", "entries"] N_Packer_node_of := ⟨T.says.def_ 45 (d := d_Packer_node_of) rfl, sc_Packer_node_of, fun _ _ _ _ _ _ us hl => match us, hl with | [_, _], _ => rfl⟩
abbrev N_packed : List Str := ["patterns", "packer", "first", "one"]
theorem sc_packed : FnScope N_packed ["patterns"] d_packed.scope := ⟨rfl, rfl, rfl, by decide +kernel, rfl, by decide +kernel, by decide +kernel⟩
theorem Txt.df_packed (T : Txt K mg) : Df K d_packed (He.fAd K ("packed", none)) ["patterns"] N_packed := ⟨T.says.def_ 46 (d := d_packed) rfl, sc_packed, fun _ _ _ _ _ _ us hl => match us, hl with | [_], _ => rfl⟩
abbrev N_beginnings : List Str := ["patterns", "found", "one", "signs", "k"]
theorem sc_beginnings : FnScope N_beginnings ["patterns"] d_beginnings.scope := ⟨rfl, rfl, rfl, by decide +kernel, rfl, by decide +kernel, by decide +kernel⟩
theorem Txt.df_beginnings (T : Txt K mg) : Df K d_beginnings (He.fAd K ("beginnings", none)) ["patterns"] N_beginnings := ⟨T.says.def_ 47 (d := d_beginnings) rfl, sc_beginnings, fun _ _ _ _ _ _ us hl => match us, hl with | [_], _ => rfl⟩
abbrev N_sizes : List Str := ["table", "patterns", "edges", "node", "ends"]
theorem sc_sizes : FnScope N_sizes ["table", "patterns"] d_sizes.scope := ⟨rfl, rfl, rfl, by decide +kernel, rfl, by decide +kernel, by decide +kernel⟩
theorem Txt.df_sizes (T : Txt K mg) : Df K d_sizes (He.fAd K ("sizes", none)) ["table", "patterns"] N_sizes := ⟨T.says.def_ 48 (d := d_sizes) rfl, sc_sizes, fun _ _ _ _ _ _ us hl => match us, hl with | [_, _], _ => rfl⟩
abbrev N_node_told : List Str := ["node", "digits", "edges", "found", "sign", "goal"]
theorem sc_node_told : FnScope N_node_told ["node"] d_node_told.scope := ⟨rfl, rfl, rfl, by decide +kernel, rfl, by decide +kernel, by decide +kernel⟩
theorem Txt.df_node_told (T : Txt K mg) : Df K d_node_told (He.fAd K ("node_told", none)) ["node"] N_node_told := ⟨T.says.def_ 49 (d := d_node_told) rfl, sc_node_told, fun _ _ _ _ _ _ us hl => match us, hl with | [_], _ => rfl⟩
abbrev N_table_told : List Str := ["table", "found", "node"]
theorem sc_table_told : FnScope N_table_told ["table"] d_table_told.scope := ⟨rfl, rfl, rfl, by decide +kernel, rfl, by decide +kernel, by decide +kernel⟩
theorem Txt.df_table_told (T : Txt K mg) : Df K d_table_told (He.fAd K ("table_told", none)) ["table"] N_table_told := ⟨T.says.def_ 50 (d := d_table_told) rfl, sc_table_told, fun _ _ _ _ _ _ us hl => match us, hl with | [_], _ => rfl⟩
abbrev N_translated : List Str := ["edges", "numbers", "sign", "goal"]
theorem sc_translated : FnScope N_translated ["edges", "numbers"] d_translated.scope := ⟨rfl, rfl, rfl, by decide +kernel, rfl, by decide +kernel, by decide +kernel⟩
theorem Txt.df_translated (T : Txt K mg) : Df K d_translated (He.fAd K ("translated", none)) ["edges", "numbers"] N_translated := ⟨T.says.def_ 51 (d := d_translated) rfl, sc_translated, fun _ _ _ _ _ _ us hl => match us, hl with | [_, _], _ => rfl⟩
abbrev N_many_kept : List Str := ["old", "new", "numbers", "digits", "edges", "node", "number"]
theorem sc_many_kept : FnScope N_many_kept ["old", "new"] d_many_kept.scope := ⟨rfl, rfl, rfl, by decide +kernel, rfl, by decide +kernel, by decide +kernel⟩
theorem Txt.df_many_kept (T : Txt K mg) : Df K d_many_kept (He.fAd K ("many_kept", none)) ["old", "new"] N_many_kept := ⟨T.says.def_ 52 (d := d_many_kept) rfl, sc_many_kept, fun _ _ _ _ _ _ us hl => match us, hl with | [_, _], _ => rfl⟩
abbrev N_Numbers_init : List Str := ["self", "row"]
theorem sc_Numbers_init : FnScope N_Numbers_init ["self", "row"] d_Numbers_init.scope := ⟨rfl, rfl, rfl, by decide +kernel, rfl, by decide +kernel, by decide +kernel⟩
theorem Txt.df_Numbers_init (T : Txt K mg) : Df K d_Numbers_init (He.fAd K ("Numbers", some "__init__")) ["self", "row"] N_Numbers_init := ⟨T.says.def_ 53 (d := d_Numbers_init) rfl, sc_Numbers_init, fun _ _ _ _ _ _ us hl => match us, hl with | [_, _], _ => rfl⟩
abbrev N_Numbers_some : List Str := ["self", "many", "found"]
theorem sc_Numbers_some : FnScope N_Numbers_some ["self", "many"] d_Numbers_some.scope := ⟨rfl, rfl, rfl, by decide +kernel, rfl, by decide +kernel, by decide +kernel⟩
theorem Txt.df_Numbers_some (T : Txt K mg) : Df K d_Numbers_some (He.fAd K ("Numbers", some "some")) ["self", "many"] N_Numbers_some := ⟨T.says.def_ 54 (d := d_Numbers_some) rfl, sc_Numbers_some, fun _ _ _ _ _ _ us hl => match us, hl with | [_, _], _ => rfl⟩
abbrev N_Numbers_one : List Str := ["self", "most", "found"]
theorem sc_Numbers_one : FnScope N_Numbers_one ["self", "most"] d_Numbers_one.scope := ⟨rfl, rfl, rfl, by decide +kernel, rfl, by decide +kernel, by decide +kernel⟩
theorem Txt.df_Numbers_one (T : Txt K mg) : Df K d_Numbers_one (He.fAd K ("Numbers", some "one")) ["self", "most"] N_Numbers_one := ⟨T.says.def_ 55 (d := d_Numbers_one) rfl, sc_Numbers_one, fun _ _ _ _ _ _ us hl => match us, hl with | [_, _], _ => rfl⟩
abbrev N_Numbers_node : List Str := ["self", "digits", "many", "row", "k"]
theorem sc_Numbers_node : FnScope N_Numbers_node ["self"] d_Numbers_node.scope := ⟨rfl, rfl, rfl, by decide +kernel, rfl, by decide +kernel, by decide +kernel⟩
theorem Txt.df_Numbers_node (T : Txt K mg) : Df K d_Numbers_node (He.fAd K ("Numbers", some "node")) ["self"] N_Numbers_node := ⟨T.says.def_ 56 (d := d_Numbers_node) rfl, sc_Numbers_node, fun _ _ _ _ _ _ us hl => match us, hl with | [_], _ => rfl⟩
abbrev N_Numbers_table : List Str := ["self", "nodes", "k", "first"]
theorem sc_Numbers_table : FnScope N_Numbers_table ["self"] d_Numbers_table.scope := ⟨rfl, rfl, rfl, by decide +kernel, rfl, by decide +kernel, by decide +kernel⟩
theorem Txt.df_Numbers_table (T : Txt K mg) : Df K d_Numbers_table (He.fAd K ("Numbers", some "table")) ["self"] N_Numbers_table := ⟨T.says.def_ 57 (d := d_Numbers_table) rfl, sc_Numbers_table, fun _ _ _ _ _ _ us hl => match us, hl with | [_], _ => rfl⟩
abbrev N_read_table : List Str := ["row", "number"]
theorem sc_read_table : FnScope N_read_table ["row"] d_read_table.scope := ⟨rfl, rfl, rfl, by decide +kernel, rfl, by decide +kernel, by decide +kernel⟩
theorem Txt.df_read_table (T : Txt K mg) : Df K d_read_table (He.fAd K ("read_table", none)) ["row"] N_read_table := ⟨T.says.def_ 58 (d := d_read_table) rfl, sc_read_table, fun _ _ _ _ _ _ us hl => match us, hl with | [_], _ => rfl⟩
abbrev N_are_edges_right : List Str := ["edges", "k", "sign", "goal", "one", "other"]
theorem sc_are_edges_right : FnScope N_are_edges_right ["edges", "k"] d_are_edges_right.scope := ⟨rfl, rfl, rfl, by decide +kernel, rfl, by decide +kernel, by decide +kernel⟩
theorem Txt.df_are_edges_right (T : Txt K mg) : Df K d_are_edges_right (He.fAd K ("are_edges_right", none)) ["edges", "k"] N_are_edges_right := ⟨T.says.def_ 59 (d := d_are_edges_right) rfl, sc_are_edges_right, fun _ _ _ _ _ _ us hl => match us, hl with | [_, _], _ => rfl⟩
abbrev N_is_right : List Str := ["table", "k", "node"]
theorem sc_is_right : FnScope N_is_right ["table"] d_is_right.scope := ⟨rfl, rfl, rfl, by decide +kernel, rfl, by decide +kernel, by decide +kernel⟩
theorem Txt.df_is_right (T : Txt K mg) : Df K d_is_right (He.fAd K ("is_right", none)) ["table"] N_is_right := ⟨T.says.def_ 60 (d := d_is_right) rfl, sc_is_right, fun _ _ _ _ _ _ us hl => match us, hl with | [_], _ => rfl⟩
abbrev N_Refused_init : List Str := ["self", "number"]
theorem sc_Refused_init : FnScope N_Refused_init ["self", "number"] d_Refused_init.scope := ⟨rfl, rfl, rfl, by decide +kernel, rfl, by decide +kernel, by decide +kernel⟩
theorem Txt.df_Refused_init (T : Txt K mg) : Df K d_Refused_init (He.fAd K ("Refused", some "__init__")) ["self", "number"] N_Refused_init := ⟨T.says.def_ 61 (d := d_Refused_init) rfl, sc_Refused_init, fun _ _ _ _ _ _ us hl => match us, hl with | [_, _], _ => rfl⟩
abbrev N_want : List Str := ["is_so", "number"]
theorem sc_want : FnScope N_want ["is_so", "number"] d_want.scope := ⟨rfl, rfl, rfl, by decide +kernel, rfl, by decide +kernel, by decide +kernel⟩
theorem Txt.df_want (T : Txt K mg) : Df K d_want (He.fAd K ("want", none)) ["is_so", "number"] N_want := ⟨T.says.def_ 62 (d := d_want) rfl, sc_want, fun _ _ _ _ _ _ us hl => match us, hl with | [_, _], _ => rfl⟩
abbrev N_want_letters : List Str := ["letters", "byte"]
theorem sc_want_letters : FnScope N_want_letters ["letters"] d_want_letters.scope := ⟨rfl, rfl, rfl, by decide +kernel, rfl, by decide +kernel, by decide +kernel⟩
theorem Txt.df_want_letters (T : Txt K mg) : Df K d_want_letters (He.fAd K ("want_letters", none)) ["letters"] N_want_letters := ⟨T.says.def_ 63 (d := d_want_letters) rfl, sc_want_letters, fun _ _ _ _ _ _ us hl => match us, hl with | [_], _ => rfl⟩
abbrev N_Desk_init : List Str := ["self"]
theorem sc_Desk_init : FnScope N_Desk_init ["self"] d_Desk_init.scope := ⟨rfl, rfl, rfl, by decide +kernel, rfl, by decide +kernel, by decide +kernel⟩
theorem Txt.df_Desk_init (T : Txt K mg) : Df K d_Desk_init (He.fAd K ("Desk", some "__init__")) ["self"] N_Desk_init := ⟨T.says.def_ 64 (d := d_Desk_init) rfl, sc_Desk_init, fun _ _ _ _ _ _ us hl => match us, hl with | [_], _ => rfl⟩
abbrev N_Desk_load : List Str := ["self", "text", "found", "held", "e"]
theorem sc_Desk_load : FnScope N_Desk_load ["self", "text"] d_Desk_load.scope := ⟨rfl, rfl, rfl, by decide +kernel, rfl, by decide +kernel, by decide +kernel⟩
theorem Txt.df_Desk_load (T : Txt K mg) : Df K d_Desk_load (He.fAd K ("Desk", some "load")) ["self", "text"] N_Desk_load := ⟨T.says.def_ 65 (d := d_Desk_load) rfl, sc_Desk_load, fun _ _ _ _ _ _ us hl => match us, hl with | [_, _], _ => rfl⟩
abbrev N_Desk_counts : List Str := ["self"]
theorem sc_Desk_counts : FnScope N_Desk_counts ["self"] d_Desk_counts.scope := ⟨rfl, rfl, rfl, by decide +kernel, rfl, by decide +kernel, by decide +kernel⟩
theorem Txt.df_Desk_counts (T : Txt K mg) : Df K d_Desk_counts (He.fAd K ("Desk", some "counts")) ["self"] N_Desk_counts := ⟨T.says.def_ 66 (d := d_Desk_counts) rfl, sc_Desk_counts, fun _ _ _ _ _ _ us hl => match us, hl with | [_], _ => rfl⟩
abbrev N_Desk_store : List Str := ["self", "found"]
theorem sc_Desk_store : FnScope N_Desk_store ["self"] d_Desk_store.scope := ⟨rfl, rfl, rfl, by decide +kernel, rfl, by decide +kernel, by decide +kernel⟩
theorem Txt.df_Desk_store (T : Txt K mg) : Df K d_Desk_store (He.fAd K ("Desk", some "store")) ["self"] N_Desk_store := ⟨T.says.def_ 67 (d := d_Desk_store) rfl, sc_Desk_store, fun _ _ _ _ _ _ us hl => match us, hl with | [_], _ => rfl⟩
abbrev N_Desk_levels : List Str := ["self", "letters", "levels", "steps"]
theorem sc_Desk_levels : FnScope N_Desk_levels ["self", "letters"] d_Desk_levels.scope := ⟨rfl, rfl, rfl, by decide +kernel, rfl, by decide +kernel, by decide +kernel⟩
theorem Txt.df_Desk_levels (T : Txt K mg) : Df K d_Desk_levels (He.fAd K ("Desk", some "levels")) ["self", "letters"] N_Desk_levels := ⟨T.says.def_ 68 (d := d_Desk_levels) rfl, sc_Desk_levels, fun _ _ _ _ _ _ us hl => match us, hl with | [_, _], _ => rfl⟩
abbrev N_Desk_part : List Str := ["self", "letters", "gaps"]
theorem sc_Desk_part : FnScope N_Desk_part ["self", "letters"] d_Desk_part.scope := ⟨rfl, rfl, rfl, by decide +kernel, rfl, by decide +kernel, by decide +kernel⟩
theorem Txt.df_Desk_part (T : Txt K mg) : Df K d_Desk_part (He.fAd K ("Desk", some "part")) ["self", "letters"] N_Desk_part := ⟨T.says.def_ 69 (d := d_Desk_part) rfl, sc_Desk_part, fun _ _ _ _ _ _ us hl => match us, hl with | [_, _], _ => rfl⟩
abbrev N_Desk_change : List Str := ["self", "patterns", "old"]
theorem sc_Desk_change : FnScope N_Desk_change ["self", "patterns"] d_Desk_change.scope := ⟨rfl, rfl, rfl, by decide +kernel, rfl, by decide +kernel, by decide +kernel⟩
theorem Txt.df_Desk_change (T : Txt K mg) : Df K d_Desk_change (He.fAd K ("Desk", some "change")) ["self", "patterns"] N_Desk_change := ⟨T.says.def_ 70 (d := d_Desk_change) rfl, sc_Desk_change, fun _ _ _ _ _ _ us hl => match us, hl with | [_, _], _ => rfl⟩
abbrev N_Desk_add : List Str := ["self", "chunk", "one", "patterns", "place"]
theorem sc_Desk_add : FnScope N_Desk_add ["self", "chunk"] d_Desk_add.scope := ⟨rfl, rfl, rfl, by decide +kernel, rfl, by decide +kernel, by decide +kernel⟩
theorem Txt.df_Desk_add (T : Txt K mg) : Df K d_Desk_add (He.fAd K ("Desk", some "add")) ["self", "chunk"] N_Desk_add := ⟨T.says.def_ 71 (d := d_Desk_add) rfl, sc_Desk_add, fun _ _ _ _ _ _ us hl => match us, hl with | [_, _], _ => rfl⟩
abbrev N_Desk_drop : List Str := ["self", "p", "patterns"]
theorem sc_Desk_drop : FnScope N_Desk_drop ["self", "p"] d_Desk_drop.scope := ⟨rfl, rfl, rfl, by decide +kernel, rfl, by decide +kernel, by decide +kernel⟩
theorem Txt.df_Desk_drop (T : Txt K mg) : Df K d_Desk_drop (He.fAd K ("Desk", some "drop")) ["self", "p"] N_Desk_drop := ⟨T.says.def_ 72 (d := d_Desk_drop) rfl, sc_Desk_drop, fun _ _ _ _ _ _ us hl => match us, hl with | [_, _], _ => rfl⟩
abbrev N_Desk_check : List Str := ["self", "row", "table", "is_good"]
theorem sc_Desk_check : FnScope N_Desk_check ["self", "row"] d_Desk_check.scope := ⟨rfl, rfl, rfl, by decide +kernel, rfl, by decide +kernel, by decide +kernel⟩
theorem Txt.df_Desk_check (T : Txt K mg) : Df K d_Desk_check (He.fAd K ("Desk", some "check")) ["self", "row"] N_Desk_check := ⟨T.says.def_ 73 (d := d_Desk_check) rfl, sc_Desk_check, fun _ _ _ _ _ _ us hl => match us, hl with | [_, _], _ => rfl⟩
abbrev N_Desk_find : List Str := ["self", "chunk", "one", "is_there"]
theorem sc_Desk_find : FnScope N_Desk_find ["self", "chunk"] d_Desk_find.scope := ⟨rfl, rfl, rfl, by decide +kernel, rfl, by decide +kernel, by decide +kernel⟩
theorem Txt.df_Desk_find (T : Txt K mg) : Df K d_Desk_find (He.fAd K ("Desk", some "find")) ["self", "chunk"] N_Desk_find := ⟨T.says.def_ 74 (d := d_Desk_find) rfl, sc_Desk_find, fun _ _ _ _ _ _ us hl => match us, hl with | [_, _], _ => rfl⟩
abbrev N_Desk_node : List Str := ["self", "k"]
theorem sc_Desk_node : FnScope N_Desk_node ["self", "k"] d_Desk_node.scope := ⟨rfl, rfl, rfl, by decide +kernel, rfl, by decide +kernel, by decide +kernel⟩
theorem Txt.df_Desk_node (T : Txt K mg) : Df K d_Desk_node (He.fAd K ("Desk", some "node")) ["self", "k"] N_Desk_node := ⟨T.says.def_ 75 (d := d_Desk_node) rfl, sc_Desk_node, fun _ _ _ _ _ _ us hl => match us, hl with | [_, _], _ => rfl⟩
abbrev N_called : List Str := ["desk", "call", "n", "row"]
theorem sc_called : FnScope N_called ["desk", "call", "n", "row"] d_called.scope := ⟨rfl, rfl, rfl, by decide +kernel, rfl, by decide +kernel, by decide +kernel⟩
theorem Txt.df_called (T : Txt K mg) : Df K d_called (He.fAd K ("called", none)) ["desk", "call", "n", "row"] N_called := ⟨T.says.def_ 76 (d := d_called) rfl, sc_called, fun _ _ _ _ _ _ us hl => match us, hl with | [_, _, _, _], _ => rfl⟩
abbrev N_answer : List Str := ["desk", "call", "n", "row", "found", "e"]
theorem sc_answer : FnScope N_answer ["desk", "call", "n", "row"] d_answer.scope := ⟨rfl, rfl, rfl, by decide +kernel, rfl, by decide +kernel, by decide +kernel⟩
theorem Txt.df_answer (T : Txt K mg) : Df K d_answer (He.fAd K ("answer", none)) ["desk", "call", "n", "row"] N_answer := ⟨T.says.def_ 77 (d := d_answer) rfl, sc_answer, fun _ _ _ _ _ _ us hl => match us, hl with | [_, _, _, _], _ => rfl⟩
abbrev N_call_at : List Str := ["calls", "at", "call", "behind"]
theorem sc_call_at : FnScope N_call_at ["calls", "at"] d_call_at.scope := ⟨rfl, rfl, rfl, by decide +kernel, rfl, by decide +kernel, by decide +kernel⟩
theorem Txt.df_call_at (T : Txt K mg) : Df K d_call_at (He.fAd K ("call_at", none)) ["calls", "at"] N_call_at := ⟨T.says.def_ 78 (d := d_call_at) rfl, sc_call_at, fun _ _ _ _ _ _ us hl => match us, hl with | [_, _], _ => rfl⟩
abbrev N_answers : List Str := ["calls", "desk", "found", "at", "call", "n", "row", "one"]
theorem sc_answers : FnScope N_answers ["calls"] d_answers.scope := ⟨rfl, rfl, rfl, by decide +kernel, rfl, by decide +kernel, by decide +kernel⟩
theorem Txt.df_answers (T : Txt K mg) : Df K d_answers (He.fAd K ("answers", none)) ["calls"] N_answers := ⟨T.says.def_ 79 (d := d_answers) rfl, sc_answers, fun _ _ _ _ _ _ us hl => match us, hl with | [_], _ => rfl⟩
theorem Txt.oex_Fault (T : Txt K mg) : oexAll K "Fault" = true := (He.ba T.more).1
theorem Txt.oex_Refused (T : Txt K mg) : oexAll K "Refused" = true := (He.ba (He.ba T.more).2).1
theorem Txt.tup_BLANKS (T : Txt K mg) : He.tupB K "BLANKS" [.int 32, .int 9, .int 10] = true := (He.ba (He.ba (He.ba T.more).2).2).1
theorem Txt.tup_WITH_NUMBER (T : Txt K mg) : He.tupB K "WITH_NUMBER" [.int 6, .int 9] = true := (He.ba (He.ba (He.ba (He.ba T.more).2).2).2).1
theorem Txt.tup_WITH_LIST (T : Txt K mg) : He.tupB K "WITH_LIST" [.int 0, .int 3, .int 4, .int 5, .int 7, .int 8] = true := (He.ba (He.ba (He.ba (He.ba (He.ba T.more).2).2).2).2).1
theorem Txt.init (T : Txt K mg) : initB K = true := (He.ba (He.ba (He.ba (He.ba (He.ba T.more).2).2).2).2).2
end
end Q
/-! The own errors: made, raised. -/
namespace Q
open PySem PySem.Spec PyProof.Rows L2 Pt
theorem oexB_ok {K : PySem.W.Frag} {C : Addr} (h : oexB K C = true) : ∃ nm q N bs bm sn sub ab col dd k0 k1 k2 k3 k5, K.lookup C = some (excClassObj nm q C N bs bm true sn sub ab col dd k0 k1 k2 k3 k5 "ValueError.__new__") ∧ PySem.HandSPX.refsVE bm = true := by
  unfold oexB at h
  cases e : K.lookup C with
  | none => (rw [e] at h; cases h)
  | some o =>
    obtain ⟨oc, od, dt, sl⟩ := o
    rw [e] at h
    cases oc with
    | type t =>
      cases dt with
      | cls cd =>
        obtain ⟨h1, h⟩ := He.ba h
        obtain ⟨h2, h⟩ := He.ba h
        obtain ⟨h3, h⟩ := He.ba h
        obtain ⟨h4, h5⟩ := He.ba h
        obtain ⟨nm, bs, mro, ns, qn, hdc, sn, sub, ab, col, hdel⟩ := cd
        have e1 : t = "type" := of_decide_eq_true h1
        have e2 : hdc = true := h2
        have e3 : hdel = false := by cases hdel with | false => rfl | true => cases h3
        subst e1 e2 e3
        cases mro with
        | nil => cases h4
        | cons m bm =>
          cases m with
          | ref c =>
            obtain ⟨q1, q2⟩ := He.ba h4
            have ec : c = C := of_decide_eq_true q1
            subst ec
            obtain ⟨sl⟩ := sl
            match sl, h5 with
            | [k0, k1, k2, k3, some (.builtin n), k5], h5 =>
              have en : n = "ValueError.__new__" := of_decide_eq_true h5
              subst en
              exact ⟨nm, qn, ns, bs, bm, sn, sub, ab, col, od, k0, k1, k2, k3, k5, rfl, q2⟩
          | _ => cases h4
      | _ => cases h
    | _ => cases dt <;> cases h
/-- all that is asked of such a class -/
structure Oe (K : PySem.W.Frag) (x : Str) : Prop where
  oc : OexC K (He.ga K x)
  xf : XfC K (He.ga K x)
  ti : PySem.W.typeIn K (.ref (He.ma K (He.ga K x) "__init__")) = some (.type "function")
theorem oe_of {K : PySem.W.Frag} {x : Str} (h : oexAll K x = true) (k : PySem.W.keepIn K (.ref (He.ga K x)) = true) : Oe K x := by
  obtain ⟨h1, h⟩ := He.ba h
  obtain ⟨h2, h⟩ := He.ba h
  obtain ⟨h3, h⟩ := He.ba h
  obtain ⟨h4, h⟩ := He.ba h
  obtain ⟨h5, h6⟩ := He.ba h
  exact ⟨⟨oexB_ok h1, He.eqO_ok h2, of_decide_eq_true h3, of_decide_eq_true h4, k⟩, xfB_ok h5, of_decide_eq_true h6⟩
theorem ve_init {K : PySem.W.Frag} (h : initB K = true) : PySem.W.findCls K (.type "ValueError") (.type "type") "__init__" = some (.val (.builtin "ValueError.__init__")) := by
  unfold initB at h
  split at h
  · rename_i n e
    rw [e, of_decide_eq_true h]
  · cases h
/-- an own error's __init__: two fields, one field -/
def spE2 (C : Addr) (f g : Str) : Sp := fun vs H Q _ => ∃ (a : Addr) (v u : V), vs = [.ref a, v, u] ∧ H a = some (exo a C none) ∧ ∀ d, H d = none → d ≠ a → Q .non (upd (upd (upd H d (exd d [(f, v)])) a (exo a C (some d))) d (exd d [(g, u), (f, v)]))
def spE1 (C : Addr) (f : Str) : Sp := fun vs H Q _ => ∃ (a : Addr) (v : V), vs = [.ref a, v] ∧ H a = some (exo a C none) ∧ ∀ d, H d = none → d ≠ a → Q .non (upd (upd H d (exd d [(f, v)])) a (exo a C (some d)))
section
variable {base : Heap} {P : Program} {w : World} {K : PySem.W.Frag} {mg : Str → Option Value}
theorem Txt.oe_Fault (T : Txt K mg) : Oe K "Fault" := oe_of T.oex_Fault T.kp_Fault
theorem Txt.oe_Refused (T : Txt K mg) : Oe K "Refused" := oe_of T.oex_Refused T.kp_Refused
theorem ok_Fault (T : Txt K mg) : ∃ fd, FnOk P w K mg base CX0 1 (He.ma K (He.ga K "Fault") "__init__") fd ["self", "code", "place"] (spE2 (He.ga K "Fault") "code" "place") ∧ Binds K fd ["self", "code", "place"] [] := by
  obtain ⟨fd, F⟩ := T.df_Fault_init.fn
  refine ⟨fd, F.ok sc_Fault_init (fun vs H Q E ⟨a, v, u, e, _⟩ => by rw [e]; rfl) (fun cdv A outer s H vs Q E hr ⟨a, v, u, e, ha, q⟩ => ?_), F.bindsN T.df_Fault_init.bd⟩
  refine ⟨_, PSs.nox (pss_cons (ps_expr (pe_veinit (by rfl) T.n_ValueError (ve_init T.init) (pa_cons (pv 0) (pa_cons pe_str pa_nil)))) (pss_cons (ps_ost (pv 0) (pv 1)) (pss_one (ps_ost (pv 0) (pv 2))))), ?_⟩
  subst e
  refine ⟨_, rfl, a, He.ga K "Fault", _, rfl, by show 1 ≤ 1000; decide, T.oe_Fault.oc, ha, ?_⟩
  refine ⟨_, rfl, _, rfl, a, He.ga K "Fault", rfl, T.oe_Fault.oc, T.na_Fault_code, .inl ⟨ha, fun d hd ne => ?_⟩⟩
  refine ⟨_, rfl, _, rfl, a, He.ga K "Fault", rfl, T.oe_Fault.oc, T.na_Fault_place, .inr ⟨d, [("code", v)], upd_same, by rw [upd_ne ne]; exact upd_same, by show 1 ≤ 900; decide, ?_⟩⟩
  exact q d hd ne
theorem ok_Refused (T : Txt K mg) : ∃ fd, FnOk P w K mg base CX0 1 (He.ma K (He.ga K "Refused") "__init__") fd ["self", "number"] (spE1 (He.ga K "Refused") "refusal") ∧ Binds K fd ["self", "number"] [] := by
  obtain ⟨fd, F⟩ := T.df_Refused_init.fn
  refine ⟨fd, F.ok sc_Refused_init (fun vs H Q E ⟨a, v, e, _⟩ => by rw [e]; rfl) (fun cdv A outer s H vs Q E hr ⟨a, v, e, ha, q⟩ => ?_), F.bindsN T.df_Refused_init.bd⟩
  refine ⟨_, PSs.nox (pss_cons (ps_expr (pe_veinit (by rfl) T.n_ValueError (ve_init T.init) (pa_cons (pv 0) (pa_cons pe_str pa_nil)))) (pss_one (ps_ost (pv 0) (pv 1)))), ?_⟩
  subst e
  refine ⟨_, rfl, a, He.ga K "Refused", _, rfl, by show 1 ≤ 1000; decide, T.oe_Refused.oc, ha, ?_⟩
  refine ⟨_, rfl, _, rfl, a, He.ga K "Refused", rfl, T.oe_Refused.oc, T.na_Refused_refusal, .inl ⟨ha, fun d hd ne => ?_⟩⟩
  exact q d hd ne
end
section
variable {X : Cx} {A A' N bk ct : As} {E : XK} {e a : Expr} {p pos pos2 : Pos} {rt : V → Hp → Hp → Prop} {i j : Int} {mg : Str → Option Value}
/-- raise Fault(code, place) -/
theorem s_raiseF (T : Txt X.K X.mg) (hr : Room 2 X.A) (tk : Takes X (fun c d _ H => E c d H)) (ha : Ja False X A [e, a] [isI i, isI j] A') (hE : ∀ c d σ G H, Same G H → A'.p σ G H → (errX (He.ga X.K "Fault") [("code", .int i), ("place", .int j)]).p c d G → E c d H)
    (hc : X.calm = true := by rfl) (hg : Gl X "Fault" := by rfl) (he : starEach (e :: [a]) X.env = (false, eval e X.env) :: starEach [a] X.env := by rfl) (hpl : (backTo pos (starEach [a] X.env)).any (·.1) = false := by rfl) : Js X A (.Raise (some (.Call (.Name "Fault" p) [e, a] [] pos)) none pos2) ⟨N, rt, bk, ct⟩ := by
  obtain ⟨fd, F1, hb⟩ := ok_Fault (P := X.prog) (w := X.w) (base := X.base) T
  refine ps_imp (ps_raise hc tk (pmk_oex T.oe_Fault.oc T.me_Fault_init.at_ T.oe_Fault.ti F1 hr hb .nil (fun _ _ _ _ _ _ _ z => z.elim) hg T.g_Fault ha (by decide) he hpl)) fun D σ H ⟨G, s, a, _⟩ => ⟨G, s, a, fun vs G1 H1 p1 r => ?_⟩
  obtain ⟨v, u, rfl, ev, eu⟩ := paired_two r
  refine ⟨by show 2 ≤ 1000; decide, fun b hb => ⟨b, v, u, rfl, upd_same, fun d hd ne => ?_⟩⟩
  have hd1 : H1 d = none := by rw [upd_ne ne] at hd; exact hd
  refine ⟨rfl, d, [("place", u), ("code", v)], by rw [upd_ne (Ne.symm ne)]; exact upd_same, upd_same, hd1, ?_⟩
  have eh : upd (del (upd (upd (upd (upd H1 b (exo b (He.ga X.K "Fault") none)) d (exd d [("code", v)])) b (exo b (He.ga X.K "Fault") (some d))) d (exd d [("place", u), ("code", v)])) b) d (.xd [("place", u), ("code", v)]) = upd H1 d (.xd [("place", u), ("code", v)]) := by
    funext y
    by_cases h1 : y = d
    · subst h1; rw [upd_same, upd_same]
    · rw [upd_ne h1, upd_ne h1]
      by_cases h2 : y = b
      · subst h2; rw [del_same]; exact hb.symm
      · rw [del_ne h2, upd_ne h1, upd_ne h2, upd_ne h1, upd_ne h2]
  rw [eh]
  have w1 : Gw [] G1 H1 (upd G1 d (.xd [("place", u), ("code", v)])) (upd H1 d (.xd [("place", u), ("code", v)])) := Gw.new p1.i hd1
  have ev' : v = .int i := ev
  have eu' : u = .int j := eu
  subst ev' eu'
  refine hE _ _ σ _ _ w1.i (A'.st p1.i p1.a w1) ⟨rfl, d, _, rfl, upd_same, fun f x hx => ?_⟩
  by_cases h1 : f = "code"
  · subst h1
    have h2 : some (V.int i) = some x := hx
    rw [← h2]; rfl
  · by_cases h2 : f = "place"
    · subst h2
      have h3 : some (V.int j) = some x := hx
      rw [← h3]; rfl
    · exfalso
      have k1 : (f == ("code" : Str)) = false := by simpa using h1
      have k2 : (f == ("place" : Str)) = false := by simpa using h2
      simp only [List.lookup, k1, k2] at hx
      cases hx
/-- raise Refused(number) -/
theorem s_raiseR (T : Txt X.K X.mg) (hr : Room 2 X.A) (tk : Takes X (fun c d _ H => E c d H)) (ha : Ja False X A [e] [isI i] A') (hE : ∀ c d σ G H, Same G H → A'.p σ G H → (errX (He.ga X.K "Refused") [("refusal", .int i)]).p c d G → E c d H)
    (hc : X.calm = true := by rfl) (hg : Gl X "Refused" := by rfl) (he : starEach (e :: []) X.env = (false, eval e X.env) :: starEach [] X.env := by rfl) (hpl : (backTo pos (starEach [] X.env)).any (·.1) = false := by rfl) : Js X A (.Raise (some (.Call (.Name "Refused" p) [e] [] pos)) none pos2) ⟨N, rt, bk, ct⟩ := by
  obtain ⟨fd, F1, hb⟩ := ok_Refused (P := X.prog) (w := X.w) (base := X.base) T
  refine ps_imp (ps_raise hc tk (pmk_oex T.oe_Refused.oc T.me_Refused_init.at_ T.oe_Refused.ti F1 hr hb .nil (fun _ _ _ _ _ _ _ z => z.elim) hg T.g_Refused ha (by decide) he hpl)) fun D σ H ⟨G, s, a, _⟩ => ⟨G, s, a, fun vs G1 H1 p1 r => ?_⟩
  obtain ⟨v, rfl, ev⟩ := paired_one r
  refine ⟨by show 1 ≤ 1000; decide, fun b hb => ⟨b, v, rfl, upd_same, fun d hd ne => ?_⟩⟩
  have hd1 : H1 d = none := by rw [upd_ne ne] at hd; exact hd
  refine ⟨rfl, d, [("refusal", v)], upd_same, by rw [upd_ne ne]; exact upd_same, hd1, ?_⟩
  have eh : upd (del (upd (upd (upd H1 b (exo b (He.ga X.K "Refused") none)) d (exd d [("refusal", v)])) b (exo b (He.ga X.K "Refused") (some d))) b) d (.xd [("refusal", v)]) = upd H1 d (.xd [("refusal", v)]) := by
    funext y
    by_cases h1 : y = d
    · subst h1; rw [upd_same, upd_same]
    · rw [upd_ne h1, upd_ne h1]
      by_cases h2 : y = b
      · subst h2; rw [del_same]; exact hb.symm
      · rw [del_ne h2, upd_ne h2, upd_ne h1, upd_ne h2]
  rw [eh]
  have w1 : Gw [] G1 H1 (upd G1 d (.xd [("refusal", v)])) (upd H1 d (.xd [("refusal", v)])) := Gw.new p1.i hd1
  have ev' : v = .int i := ev
  subst ev'
  refine hE _ _ σ _ _ w1.i (A'.st p1.i p1.a w1) ⟨rfl, d, _, rfl, upd_same, fun f x hx => hx⟩
/-- raise NotTold('..') -/
theorem s_raiseN {m : Str} {z : Nat} {p2 : Pos} (T : Txt X.K X.mg) (tk : Takes X (fun c d _ H => E c d H)) (hE : ∀ c d σ G H, Same G H → A.p σ G H → (bareX (He.ga X.K "NotTold")).p c d G → E c d H) (hc : X.calm = true := by rfl) (hg : Gl X "NotTold" := by rfl) :
    Js X A (.Raise (some (.Call (.Name "NotTold" p) [.Constant (.str m) z p2] [] pos)) none pos2) ⟨N, rt, bk, ct⟩ :=
  let ⟨h1, h2, h3, h4⟩ := T.xc_NotTold
  ps_imp (ps_raise hc tk (pmk_own PySem.F.excBase_ValueError h1 T.g_NotTold h2 (raises_own h3 h4) hg)) fun D σ H ⟨G, s, a, _⟩ => hE _ _ σ G H s a rfl
end
end Q
/-! The tokens: mathematics, promises, bodies. -/
namespace Q
open PySem PySem.Spec PyProof.Rows L2 Pt
open VahypBase (Bytes PTok Tok isLetter isDigit inChunk isBlank)
abbrev natP (n : Nat) : VP := isI (n : Int)
abbrev byP (b : UInt8) : VP := natP b.toNat
abbrev bysP (l : Bytes) : VP := isL (l.map byP)
def tokP (t : PTok) : VP := match t.tok with
  | .chunk b => isT [isS "chunk", bysP b, natP t.place]
  | .sign _ => isT [isS "stop", isL [], natP t.place]
  | .last => isT [isS "end", isL [], natP t.place]
theorem at_map {α : Type} {l : List α} {f : α → VP} {n : Nat} {a : α} (h : l[n]? = some a) : atI (l.map f) (n : Int) = some (f a) := atI_nat (by rw [List.getElem?_map, h] <;> rfl)
theorem cs_lenL {K : PySem.W.Frag} {Ps : List VP} : CS (fun xs H Q => ∃ p ys, xs = [.ref p] ∧ (SqL K H p ys ∨ SqT K H p ys) ∧ Q (.int ys.length) H) [isL Ps] (isI (Ps.length : Int)) := .at fun vs G H Q s r z => by
  obtain ⟨v, rfl, l, xs, rfl, e2, e3⟩ := paired_one r
  exact ⟨l, xs, rfl, .inl (SqL.of (s _ _ e2)), z _ (by rw [Paired.length e3]; rfl)⟩
theorem cs_lenT {K : PySem.W.Frag} {Ps : List VP} : CS (fun xs H Q => ∃ p ys, xs = [.ref p] ∧ (SqL K H p ys ∨ SqT K H p ys) ∧ Q (.int ys.length) H) [isT Ps] (isI (Ps.length : Int)) := .at fun vs G H Q s r z => by
  obtain ⟨v, rfl, l, xs, rfl, e2, e3⟩ := paired_one r
  exact ⟨l, xs, rfl, .inr (SqT.of (s _ _ e2)), z _ (by rw [Paired.length e3]; rfl)⟩
theorem cs_lenQ {K : PySem.W.Frag} {Ps : List VP} : CS (fun xs H Q => ∃ p ys, xs = [.ref p] ∧ (SqL K H p ys ∨ SqT K H p ys) ∧ Q (.int ys.length) H) [isQ K Ps] (isI (Ps.length : Int)) := .at fun vs G H Q s r z => by
  obtain ⟨v, rfl, l, xs, rfl, e2, e3⟩ := paired_one r
  exact ⟨l, xs, rfl, .inl (same_sqL s e2), z _ (by rw [Paired.length e3]; rfl)⟩
section
variable {X : Cx} {fr : Prop} {A A' A1 : As} {Ps : List VP} {e : Expr} {pos p : Pos}
theorem e_lenL (hm : X.mg "len" = none) (h : Je fr X A e (isL Ps) A1) (hg : Gl X "len" := by rfl) (he : starEach [e] X.env = (false, eval e X.env) :: starEach [] X.env := by rfl) (hpl : (backTo pos (starEach [] X.env)).any (·.1) = false := by rfl) : Je fr X A (.Call (.Name "len" p) [e] [] pos) (isI (Ps.length : Int)) A1 := e_callB call_len_seq hm (a_one h he) cs_lenL PySem.boot_len hg (by decide) (by decide) he hpl
theorem e_lenT (hm : X.mg "len" = none) (h : Je fr X A e (isT Ps) A1) (hg : Gl X "len" := by rfl) (he : starEach [e] X.env = (false, eval e X.env) :: starEach [] X.env := by rfl) (hpl : (backTo pos (starEach [] X.env)).any (·.1) = false := by rfl) : Je fr X A (.Call (.Name "len" p) [e] [] pos) (isI (Ps.length : Int)) A1 := e_callB call_len_seq hm (a_one h he) cs_lenT PySem.boot_len hg (by decide) (by decide) he hpl
theorem e_lenQ (hm : X.mg "len" = none) (h : Je fr X A e (isQ X.K Ps) A1) (hg : Gl X "len" := by rfl) (he : starEach [e] X.env = (false, eval e X.env) :: starEach [] X.env := by rfl) (hpl : (backTo pos (starEach [] X.env)).any (·.1) = false := by rfl) : Je fr X A (.Call (.Name "len" p) [e] [] pos) (isI (Ps.length : Int)) A1 := e_callB call_len_seq hm (a_one h he) cs_lenQ PySem.boot_len hg (by decide) (by decide) he hpl
end
/-! ### mathematics -/
theorem letter_eq (b : UInt8) : (decide ((97 : Int) ≤ (b.toNat : Int)) && decide ((b.toNat : Int) ≤ 122)) = isLetter b := by
  unfold isLetter
  rw [Bool.eq_iff_iff]
  (simp only [Bool.and_eq_true, decide_eq_true_eq])
  omega
theorem digit_eq (b : UInt8) : (decide ((48 : Int) ≤ (b.toNat : Int)) && decide ((b.toNat : Int) ≤ 57)) = isDigit b := by
  unfold isDigit
  rw [Bool.eq_iff_iff]
  (simp only [Bool.and_eq_true, decide_eq_true_eq])
  omega
theorem byte_eq (b c : UInt8) : decide ((b.toNat : Int) = (c.toNat : Int)) = (b == c) := by
  rw [Bool.eq_iff_iff]
  simp only [decide_eq_true_eq, beq_iff_eq]
  exact ⟨fun h => UInt8.toNat_inj.mp (Int.ofNat.inj h), fun h => by rw [h]⟩
/-- how far a run of bytes goes -/
def runTo (f : UInt8 → Bool) (bs : Bytes) (n : Nat) : Nat := n + ((bs.drop n).takeWhile f).length
theorem runTo_stop {f : UInt8 → Bool} {bs : Bytes} {n : Nat} (h : bs.length ≤ n) : runTo f bs n = n := by
  unfold runTo
  rw [List.drop_eq_nil_of_le h]; rfl
theorem runTo_no {f : UInt8 → Bool} {bs : Bytes} {n : Nat} {b : UInt8} (h : bs[n]? = some b) (hf : f b = false) : runTo f bs n = n := by
  unfold runTo
  obtain ⟨hn, e⟩ := List.getElem?_eq_some_iff.mp h
  rw [List.drop_eq_getElem_cons hn, e, List.takeWhile_cons, hf]; rfl
theorem runTo_yes {f : UInt8 → Bool} {bs : Bytes} {n : Nat} {b : UInt8} (h : bs[n]? = some b) (hf : f b = true) : runTo f bs n = runTo f bs (n + 1) := by
  unfold runTo
  obtain ⟨hn, e⟩ := List.getElem?_eq_some_iff.mp h
  rw [List.drop_eq_getElem_cons hn, e, List.takeWhile_cons, hf]
  simp only [if_true, List.length_cons]
  omega
theorem runTo_le {f : UInt8 → Bool} {bs : Bytes} {n : Nat} (h : n ≤ bs.length) : n ≤ runTo f bs n ∧ runTo f bs n ≤ bs.length := by
  unfold runTo
  have h1 : ((bs.drop n).takeWhile f).length ≤ (bs.drop n).length := (List.takeWhile_sublist f).length_le
  rw [List.length_drop] at h1
  omega
/-! ### promises -/
abbrev sp_byte (f : UInt8 → Bool) : Sp := fSp (fun _ : UInt8 => True) (fun b => [byP b]) (fun b => isB (f b)) fun _ => noX
abbrev sp_run (f : UInt8 → Bool) : Sp := fSp (fun z : Bytes × Nat => z.2 ≤ z.1.length) (fun z => [bysP z.1, natP z.2]) (fun z => natP (runTo f z.1 z.2)) fun _ => noX
section
variable {base : Heap} {P : Program} {w : World} {K : PySem.W.Frag} {mg : Str → Option Value}
theorem kn_is_letter (T : Txt K mg) : Kn P w K mg base CX0 1 "is_letter" ["byte"] (sp_byte isLetter) :=
  kn_of T.g_is_letter (fn_plain0 T.df_is_letter (fun _ => rfl) fun cdv A outer s H E z G hz sG hr => b_one (s_retP (e_cast (e_lele e_int (e_v 0 rfl) e_int) (congrArg isB (letter_eq z)))))
theorem kn_is_digit (T : Txt K mg) : Kn P w K mg base CX0 1 "is_digit" ["byte"] (sp_byte isDigit) :=
  kn_of T.g_is_digit (fn_plain0 T.df_is_digit (fun _ => rfl) fun cdv A outer s H E z G hz sG hr => b_one (s_retP (e_cast (e_lele e_int (e_v 0 rfl) e_int) (congrArg isB (digit_eq z)))))
theorem chunk_eq (z : UInt8) : (isLetter z || (isDigit z || (decide ((z.toNat : Int) = 45) || decide ((z.toNat : Int) = 46)))) = inChunk z := by
  unfold inChunk; rw [← byte_eq z 45, ← byte_eq z 46]; rfl
theorem kn_is_of_chunk (T : Txt K mg) : Kn P w K mg base CX0 2 "is_of_chunk" ["byte"] (sp_byte inChunk) :=
  kn_of T.g_is_of_chunk (fn_plain0 T.df_is_of_chunk (fun _ => rfl) fun cdv A outer s H E z G hz sG hr => b_one (s_retP (e_cast
    (e_or (e_fn (kn_is_letter T) hr z trivial (a_one (e_v 0 rfl))) fun _ => e_or (e_fn (kn_is_digit T) hr z trivial (a_one (e_v 0 rfl))) fun _ => e_or (e_eqI (e_v 0 rfl) (e_glob T.c_DASH)) fun _ => e_one (e_eqI (e_v 0 rfl) (e_glob T.c_POINT)))
    (congrArg isB (chunk_eq z)))))
theorem kn_chunk_end (T : Txt K mg) : Kn P w K mg base CX0 3 "chunk_end" ["text", "at"] (sp_run inChunk) :=
  kn_of T.g_chunk_end (fn_plain0 T.df_chunk_end (fun _ => rfl) fun cdv A outer s H E z G hz sG hr => by
    obtain ⟨bs, n⟩ := z
    refine b_cons (M := Ga (Bs.pl G H) [.val (bysP bs), .val (natP (runTo inChunk bs n))]) (s_while (fun i : {i : Nat // i ≤ bs.length ∧ runTo inChunk bs i = runTo inChunk bs n} => Ga (Bs.pl G H) [.val (bysP bs), .val (natP i.1)]) (fun i => bs.length - i.1) (fun i => decide ((i.1 : Int) < (bs.length : Int)) && (bs[i.1]?.map inChunk).getD false) ⟨n, hz, rfl⟩ .refl
      (fun i => t_w (w_and (t_lt (e_v 1 rfl) (e_cast (e_lenL T.n_len (e_v 0 rfl)) (by rw [List.length_map]))) fun hl => w_and1 ?_)) (fun i hk => ?_) (fun i hk => ?_)) (b_one (s_retP (e_v 1 rfl)))
    · have hl' : i.1 < bs.length := by simpa using hl
      have e : bs[i.1]? = some bs[i.1] := List.getElem?_eq_getElem hl'
      exact t_cast (t_val (e_fn (kn_is_of_chunk T) hr bs[i.1] trivial (a_one (e_ixL (e_v 0 rfl) (e_v 1 rfl) (at_map e))))) (by rw [e]; rfl)
    · rw [Bool.and_eq_true, decide_eq_true_eq] at hk
      have hl' : i.1 < bs.length := by omega
      have e : bs[i.1]? = some bs[i.1] := List.getElem?_eq_getElem hl'
      have hc : inChunk bs[i.1] = true := by have := hk.2; rw [e] at this; exact this
      exact b_one (s_post (s_set 1 sc_chunk_end.nd (e_add (e_v 1 rfl) e_int)) (le_less ⟨i.1 + 1, hl', (runTo_yes e hc).symm.trans i.2.2⟩ (by show bs.length - (i.1 + 1) < bs.length - i.1; omega) .refl))
    · have e2 : runTo inChunk bs n = i.1 := by
        refine i.2.2.symm.trans ?_
        by_cases hl : i.1 < bs.length
        · have e : bs[i.1]? = some bs[i.1] := List.getElem?_eq_getElem hl
          refine runTo_no e ?_
          rw [e] at hk
          have : decide ((i.1 : Int) < (bs.length : Int)) = true := by rw [decide_eq_true_eq]; omega
          rw [this] at hk
          exact hk
        · exact runTo_stop (by omega)
      exact .of_eq (congrArg (fun r : Nat => Ga (Bs.pl G H) [.val (bysP bs), .val (natP r)]) e2.symm))
theorem kn_behind_remark (T : Txt K mg) : Kn P w K mg base CX0 1 "behind_remark" ["text", "at"] (sp_run (· != 10)) :=
  kn_of T.g_behind_remark (fn_plain0 T.df_behind_remark (fun _ => rfl) fun cdv A outer s H E z G hz sG hr => by
    obtain ⟨bs, n⟩ := z
    refine b_cons (M := Ga (Bs.pl G H) [.val (bysP bs), .val (natP (runTo (· != 10) bs n))]) (s_while (fun i : {i : Nat // i ≤ bs.length ∧ runTo (· != 10) bs i = runTo (· != 10) bs n} => Ga (Bs.pl G H) [.val (bysP bs), .val (natP i.1)]) (fun i => bs.length - i.1) (fun i => decide ((i.1 : Int) < (bs.length : Int)) && (bs[i.1]?.map (· != 10)).getD false) ⟨n, hz, rfl⟩ .refl
      (fun i => t_w (w_and (t_lt (e_v 1 rfl) (e_cast (e_lenL T.n_len (e_v 0 rfl)) (by rw [List.length_map]))) fun hl => w_and1 ?_)) (fun i hk => ?_) (fun i hk => ?_)) (b_one (s_retP (e_v 1 rfl)))
    · have hl' : i.1 < bs.length := by simpa using hl
      have e : bs[i.1]? = some bs[i.1] := List.getElem?_eq_getElem hl'
      exact t_cast (t_neI (e_ixL (e_v 0 rfl) (e_v 1 rfl) (at_map (f := byP) e)) (e_glob T.c_LINE_END)) (by rw [e]; exact congrArg (! ·) (byte_eq _ 10))
    · rw [Bool.and_eq_true, decide_eq_true_eq] at hk
      have hl' : i.1 < bs.length := by omega
      have e : bs[i.1]? = some bs[i.1] := List.getElem?_eq_getElem hl'
      have hc : (bs[i.1] != 10) = true := by have := hk.2; rw [e] at this; exact this
      exact b_one (s_post (s_set 1 sc_behind_remark.nd (e_add (e_v 1 rfl) e_int)) (le_less ⟨i.1 + 1, hl', (runTo_yes (f := (· != 10)) e hc).symm.trans i.2.2⟩ (by show bs.length - (i.1 + 1) < bs.length - i.1; omega) .refl))
    · have e2 : runTo (· != 10) bs n = i.1 := by
        refine i.2.2.symm.trans ?_
        by_cases hl : i.1 < bs.length
        · have e : bs[i.1]? = some bs[i.1] := List.getElem?_eq_getElem hl
          refine runTo_no (f := (· != 10)) e ?_
          rw [e] at hk
          have : decide ((i.1 : Int) < (bs.length : Int)) = true := by rw [decide_eq_true_eq]; omega
          rw [this] at hk
          exact hk
        · exact runTo_stop (by omega)
      exact .of_eq (congrArg (fun r : Nat => Ga (Bs.pl G H) [.val (bysP bs), .val (natP r)]) e2.symm))
end
end Q
/-! Tokens. -/
namespace Q
open PySem PySem.Spec PyProof.Rows L2 Pt
open VahypBase (Bytes PTok Tok isLetter isDigit inChunk isBlank)
def noP : VP := ⟨fun _ _ => False, fun _ h => h⟩
def okP {α : Type} (r : Except VahypBase.Fault α) (f : α → VP) : VP := match r with
  | .ok a => f a
  | .error _ => noP
abbrev faultX (K : PySem.W.Frag) (c p : Nat) : XP := errX (He.ga K "Fault") [("code", .int (c : Int)), ("place", .int (p : Int))]
def erX {α : Type} (K : PySem.W.Frag) (r : Except VahypBase.Fault α) : XP := match r with
  | .ok _ => noX
  | .error f => faultX K f.code f.place
section
variable {X : Cx} {fr : Prop} {A A' A1 : As} {B : Bs} {Γ : List Sl} {Ps : List VP} {e : Expr} {pos : Pos} {x : Str}
/-- a list of ours given away: it changes no more -/
theorem e_thaw (i : Nat) (h1 : Γ[i]? = some (.own Ps)) (hN : X.N[i]? = some x := by rfl) (hv : Vis X.env.scope x := by first | exact Or.inl rfl | exact Or.inr (Or.inl rfl) | exact Or.inr (Or.inr rfl)) (hd : (x == ("__debug__" : Str)) = false := by decide) (hcd : (x == ("__classdict__" : Str)) = false := by decide) :
    Je False X (Ga B Γ) (.Name x pos) (isL Ps) (Ga B (Γ.set i (.val (isL Ps)))) :=
  pe_imp (pv i hN hv hd hcd) fun σ H Q ⟨G, s, a, q⟩ => by
    obtain ⟨o, e1, l, xs, rfl, g1, l1, b1, q1⟩ := ga_get a h1
    have up : Same G (upd G l (.lst xs)) := fun b o eb => by
      have hb : b ≠ l := fun z => by rw [z, g1] at eb; cases eb
      rw [upd_ne hb]; exact eb
    have sH : Same (upd G l (.lst xs)) H := fun b o eb => by
      by_cases hb : b = l
      · subst hb; rw [upd_same] at eb; rw [← eb]; exact l1
      · rw [upd_ne hb] at eb; exact s _ _ eb
    refine ⟨_, e1, q _ (upd G l (.lst xs)) H ⟨up, sH, ⟨⟨Same.trans a.1.g up, a.1.h, sH, fun b h1 h2 => ?_, a.1.t⟩, ?_, ?_⟩, fun z => z.elim⟩ ⟨l, xs, rfl, upd_same, allP_up up q1⟩⟩
    · have hb : b ≠ l := fun z => h2 (by rw [z]; exact b1)
      rw [upd_ne hb]; exact a.1.n b h1 h2
    · refine paired_mod a.2.1 i _ (fun j s o hj e2 e3 ok => ?_) fun o eo => ?_
      · have ne : ∀ y, o = some (.ref y) → s.mine = true → y ≠ l := fun y ey m z => by
          subst z
          exact a.2.2 j i s _ y hj e2 h1 m rfl (by rw [e3, ey]) e1
        cases s with
        | any => trivial
        | val P => obtain ⟨v, ev, pv⟩ := ok; exact ⟨v, ev, P.up up pv⟩
        | own Qs =>
          obtain ⟨l', zs, e4, g4, h4, b4, q4⟩ := ok
          exact ⟨l', zs, e4, by rw [upd_ne (ne l' e4 rfl)]; exact g4, h4, b4, allP_up up q4⟩
        | obj me C fs =>
          obtain ⟨y, dx, vs, e4, g4, h4, b4, q4⟩ := ok
          exact ⟨y, dx, vs, e4, by rw [upd_ne (ne y e4 rfl)]; exact g4, h4, b4, fldP_up up q4⟩
        | lent Qs =>
          obtain ⟨l', zs, e4, g4, h4, q4⟩ := ok
          exact ⟨l', zs, e4, by rw [upd_ne (ne l' e4 rfl)]; exact g4, h4, allP_up up q4⟩
        | pk C f Qs =>
          obtain ⟨zs, e4, g4, h4, m4, g5, h5, m5, z5, q4⟩ := ok
          exact ⟨zs, e4, by rw [upd_ne (ne _ e4 rfl)]; exact g4, h4, m4, by rw [upd_ne fun z => z5 (by rw [z]; exact b1)]; exact g5, h5, m5, z5, allP_up up q4⟩
      · rw [e1] at eo
        cases eo
        exact ⟨_, rfl, l, xs, rfl, upd_same, allP_up up q1⟩
    · intro a' b t t' y hab e2 e3 m1 m2 q2 q3
      have back : ∀ (j : Nat) (t : Sl), (Γ.set i (.val (isL Ps)))[j]? = some t → t.mine = true → Γ[j]? = some t := fun j t ej m => by
        by_cases hj : j = i
        · subst hj
          rw [List.getElem?_set] at ej
          split at ej
          · split at ej
            · cases ej; cases m
            · cases ej
          · rename_i z; exact absurd rfl z
        · rw [get_set_ne hj] at ej; exact ej
      exact a.2.2 a' b t t' y hab (back a' t e2 m1) (back b t' e3 m2) m1 m2 q2 q3
end
/-! ### mathematics -/
theorem sIx_at {n d k : Nat} (h : k ≤ n) : HT.sIx n d (some (k : Int)) = k := by rw [HT.sIx_nat]; omega
theorem cut_at {α β : Type} {l : List α} {f : α → β} {a b : Nat} (h1 : a ≤ b) (h2 : b ≤ l.length) : cutP (l.map f) (some (a : Int)) (some (b : Int)) = ((l.drop a).take (b - a)).map f := by
  unfold cutP
  rw [List.length_map, sIx_at (d := 0) (show a ≤ l.length by omega), sIx_at (d := l.length) h2, ← List.map_drop, ← List.map_take]
theorem takeWhile_take {α : Type} (f : α → Bool) : ∀ l : List α, l.takeWhile f = l.take (l.takeWhile f).length
  | [] => rfl
  | a :: r => by
    rw [List.takeWhile_cons]
    cases f a with
    | false => rfl
    | true =>
      show a :: r.takeWhile f = a :: r.take (r.takeWhile f).length
      rw [← takeWhile_take f r]
theorem dropWhile_drop {α : Type} (f : α → Bool) : ∀ l : List α, l.dropWhile f = l.drop (l.takeWhile f).length
  | [] => rfl
  | a :: r => by
    rw [List.takeWhile_cons, List.dropWhile_cons]
    cases f a with
    | false => rfl
    | true =>
      show r.dropWhile f = r.drop (r.takeWhile f).length
      exact dropWhile_drop f r
/-- the token at a place and the place behind it -/
def tokR (bs : Bytes) (n : Nat) : Except VahypBase.Fault (VahypBase.Tok × Nat) := match VahypBase.token (bs.drop n) with
  | none => .error ⟨2, n⟩
  | some x => .ok (x.1, n + x.2)
theorem drop_at {α : Type} {l : List α} {n : Nat} {b : α} (h : l[n]? = some b) : l.drop n = b :: l.drop (n + 1) := by
  obtain ⟨hn, e⟩ := List.getElem?_eq_some_iff.mp h
  rw [List.drop_eq_getElem_cons hn, e]
theorem tokR_stop {bs : Bytes} {n : Nat} (h : bs[n]? = some 59) : tokR bs n = .ok (.sign 59, n + 1) := by
  unfold tokR
  rw [drop_at h]
  rfl
theorem tokR_bad {bs : Bytes} {n : Nat} {b : UInt8} (h : bs[n]? = some b) (h59 : b ≠ 59) (he : runTo inChunk bs n = n ∨ 40 < runTo inChunk bs n - n) : tokR bs n = .error ⟨2, n⟩ := by
  unfold tokR VahypBase.token
  unfold runTo at he
  rw [drop_at h] at he ⊢
  dsimp only
  cases hb : inChunk b with
  | true =>
    rw [List.takeWhile_cons, hb] at he
    simp only [if_true, List.length_cons] at he
    have : VahypBase.CHUNK < ((b :: bs.drop (n + 1)).takeWhile inChunk).length := by
      rw [List.takeWhile_cons, hb]
      simp only [if_true, List.length_cons]
      show 40 < _
      omega
    simp only [if_true, this]
  | false =>
    have : (b == 59) = false := by simpa using h59
    simp [this]
theorem tokR_chunk {bs : Bytes} {n : Nat} {b : UInt8} (h : bs[n]? = some b) (he : runTo inChunk bs n ≠ n) (hl : runTo inChunk bs n - n ≤ 40) : tokR bs n = .ok (.chunk ((bs.drop n).take (runTo inChunk bs n - n)), runTo inChunk bs n) := by
  unfold tokR VahypBase.token
  unfold runTo at he hl ⊢
  rw [drop_at h] at he hl ⊢
  dsimp only
  cases hb : inChunk b with
  | true =>
    have : ¬ VahypBase.CHUNK < ((b :: bs.drop (n + 1)).takeWhile inChunk).length := by
      show ¬ 40 < _
      omega
    simp only [if_true, this, if_false]
    rw [Nat.add_sub_cancel_left, ← takeWhile_take]
  | false =>
    exfalso
    rw [List.takeWhile_cons, hb] at he
    exact he rfl
theorem tokR_next {bs : Bytes} {n : Nat} {x : VahypBase.Tok × Nat} (h : tokR bs n = .ok x) (hn : n < bs.length) : n < x.2 ∧ x.2 ≤ bs.length := by
  have e := List.getElem?_eq_getElem hn
  by_cases h59 : bs[n] = 59
  · rw [h59] at e
    rw [tokR_stop e] at h
    cases h
    exact ⟨Nat.lt_succ_self n, hn⟩
  · have z := runTo_le (f := inChunk) (Nat.le_of_lt hn)
    by_cases hb : runTo inChunk bs n = n ∨ 40 < runTo inChunk bs n - n
    · rw [tokR_bad e h59 hb] at h; cases h
    · rw [tokR_chunk e (fun q => hb (.inl q)) (by omega)] at h
      cases h
      show n < runTo inChunk bs n ∧ runTo inChunk bs n ≤ bs.length
      omega
/-! ### promises, bodies -/
abbrev sp_token_at (K : PySem.W.Frag) : Sp := fSp (fun z : Bytes × Nat => z.2 < z.1.length) (fun z => [bysP z.1, natP z.2]) (fun z => okP (tokR z.1 z.2) fun x => isT [tokP ⟨z.2, x.1⟩, natP x.2]) (fun z => erX K (tokR z.1 z.2))
section
variable {base : Heap} {P : Program} {w : World} {K : PySem.W.Frag} {mg : Str → Option Value}
theorem kn_token_at (T : Txt K mg) : Kn P w K mg base (L2.CX P w) 4 "token_at" ["text", "at"] (sp_token_at K) :=
  kn_of T.g_token_at (fn_plainX T.df_token_at (fun _ => rfl) fun cdv A outer s H E z G hz sG hr hE => by
    obtain ⟨bs, n⟩ := z
    have hn : n < bs.length := hz
    have e : bs[n]? = some bs[n] := List.getElem?_eq_getElem hn
    have rl := runTo_le (f := inChunk) (Nat.le_of_lt hn)
    have tk : Takes (cxOf (L2.CX P w) P w K mg base N_token_at d_token_at.qual d_token_at.scope (He.ga K "token_at") cdv A outer s H E) (fun c d _ H => E c d H) := takes_of rfl rfl rfl rfl
    refine b_when (k := bs[n] == 59) (t_cast (t_eqI (e_ixL (e_v 0 rfl) (e_v 1 rfl) (at_map (f := byP) e)) (e_glob T.c_STOP_BYTE)) (byte_eq _ 59)) (fun h => ?_) fun h59 => ?_
    · have h59 : bs[n] = 59 := by simpa using h
      rw [h59] at e
      have r := tokR_stop e
      refine b_one (s_retP (e_cast (e_tup (a_cons (e_tup (a_cons (e_glob T.c_STOP) (a_cons (e_lst a_nil) (a_one (e_v 1 rfl))))) (a_one (e_add (e_v 1 rfl) e_int)))) ?_))
      show _ = okP (tokR bs n) _
      rw [r]; rfl
    · refine b_cons (s_set 2 sc_token_at.nd (e_fn (kn_chunk_end T) hr (bs, n) (Nat.le_of_lt hn) (a_cons (e_v 0 rfl) (a_one (e_v 1 rfl))))) ?_
      have n59 : bs[n] ≠ 59 := by simpa using h59
      refine b_when (k := decide (runTo inChunk bs n = n) || decide (40 < runTo inChunk bs n - n)) (t_cast (t_w (w_or (t_eqI (e_v 2 rfl) (e_v 1 rfl)) fun _ => w_or1 (t_gt (e_sub (e_v 2 rfl) (e_v 1 rfl)) (e_glob T.c_LONGEST)))) ?_) (fun h => ?_) (fun h => ?_)
      · rw [Bool.eq_iff_iff]
        simp only [Bool.or_eq_true, decide_eq_true_eq]
        omega
      · have r := tokR_bad e n59 (by simpa using h)
        have hE' : XF (Bs.pl G H) (faultX K 2 n) E := by
          have z := hE
          show XF (Bs.pl G H) _ E
          have er : erX K (tokR bs n) = faultX K 2 n := by rw [r]; rfl
          rw [← er]; exact z
        exact b_one (s_raiseF T (hr.mono (by decide)) tk (a_cons (e_glob T.c_NO_TOKEN) (a_one (e_v 1 rfl))) (hE'.to fun _ _ _ z => z))
      · have h' : runTo inChunk bs n ≠ n ∧ runTo inChunk bs n - n ≤ 40 := by simpa using h
        have r := tokR_chunk e h'.1 h'.2
        refine b_one (s_retP (e_cast (e_tup (a_cons (e_tup (a_cons (e_glob T.c_CHUNK) (a_cons (e_slL (e_v 0 rfl) (o_at (e_v 1 rfl)) (o_at (e_v 2 rfl))) (a_one (e_v 1 rfl))))) (a_one (e_v 2 rfl)))) ?_))
        show _ = okP (tokR bs n) _
        rw [r, cut_at rl.1 rl.2]; rfl)
end
end Q
/-! All tokens of a text. -/
namespace Q
open PySem PySem.Spec PyProof.Rows L2 Pt
open VahypBase (Bytes PTok isLetter isDigit inChunk isBlank)
/-- the loop's state: what is found so far, the place -/
structure LexSt (bs : Bytes) (fd : List PTok) (n : Nat) : Prop where
  le : n ≤ bs.length
  few : fd.length ≤ n
  eq : ∃ k, bs.length - n < k ∧ VahypBase.tokens bs = (VahypBase.lex k n (bs.drop n)).map (fd ++ ·)
theorem except_map_id {α : Type} (r : Except VahypBase.Fault α) : r.map (fun x => x) = r := by cases r <;> rfl
theorem lexSt_start {bs : Bytes} (h : bs.length ≤ 4096) : LexSt bs [] 0 := by
  refine ⟨Nat.zero_le _, Nat.le_refl _, bs.length + 1, by omega, ?_⟩
  unfold VahypBase.tokens
  rw [if_neg (show ¬ VahypBase.TEXT < bs.length from by show ¬ 4096 < _; omega)]
  show _ = (VahypBase.lex (bs.length + 1) 0 bs).map (fun l => [] ++ l)
  simp only [List.nil_append]
  exact (except_map_id _).symm
theorem lex_cons (k n : Nat) (b : UInt8) (r : Bytes) : VahypBase.lex (k + 1) n (b :: r) = if isBlank b = true then VahypBase.lex k (n + 1) r else if (b == 35) = true then VahypBase.lex k (n + 1 + (r.takeWhile (· != 10)).length) (r.dropWhile (· != 10)) else match VahypBase.token (b :: r) with
    | none => .error ⟨2, n⟩
    | some x => (VahypBase.lex k (n + x.2) ((b :: r).drop x.2)).map fun l => ⟨n, x.1⟩ :: l := rfl
theorem lexSt_blank {bs : Bytes} {fd : List PTok} {n : Nat} {b : UInt8} (h : LexSt bs fd n) (e : bs[n]? = some b) (hb : isBlank b = true) : LexSt bs fd (n + 1) := by
  obtain ⟨le, few, k, hk, eq⟩ := h
  have hn := (List.getElem?_eq_some_iff.mp e).1
  cases k with
  | zero => omega
  | succ k =>
    refine ⟨hn, by omega, k, by omega, ?_⟩
    rw [eq, drop_at e, lex_cons, if_pos hb]
theorem lexSt_remark {bs : Bytes} {fd : List PTok} {n : Nat} {b : UInt8} (h : LexSt bs fd n) (e : bs[n]? = some b) (hb : isBlank b = false) (h35 : (b == 35) = true) : LexSt bs fd (runTo (· != 10) bs n) := by
  obtain ⟨le, few, k, hk, eq⟩ := h
  have hn := (List.getElem?_eq_some_iff.mp e).1
  have rl := runTo_le (f := (· != 10)) le
  have e35 : b = 35 := by simpa using h35
  have r1 : runTo (· != 10) bs n = n + 1 + ((bs.drop (n + 1)).takeWhile (· != 10)).length := by
    unfold runTo
    rw [drop_at e, List.takeWhile_cons, e35]
    simp only [show ((35 : UInt8) != 10) = true from rfl, if_true, List.length_cons]
    omega
  cases k with
  | zero => omega
  | succ k =>
    refine ⟨rl.2, by omega, k, by omega, ?_⟩
    rw [eq, drop_at e, lex_cons, if_neg (by rw [hb]; exact Bool.false_ne_true), if_pos h35, r1, dropWhile_drop, List.drop_drop]
theorem lexSt_tok {bs : Bytes} {fd : List PTok} {n : Nat} {b : UInt8} (h : LexSt bs fd n) (e : bs[n]? = some b) (hb : isBlank b = false) (h35 : (b == 35) = false) :
    (∀ x, tokR bs n = .ok x → LexSt bs (fd ++ [⟨n, x.1⟩]) x.2) ∧ (∀ f, tokR bs n = .error f → VahypBase.tokens bs = .error f) := by
  obtain ⟨le, few, k, hk, eq⟩ := h
  have hn := (List.getElem?_eq_some_iff.mp e).1
  cases k with
  | zero => omega
  | succ k =>
    have lx : VahypBase.lex (k + 1) n (bs.drop n) = match tokR bs n with
        | .error f => .error f
        | .ok x => (VahypBase.lex k x.2 (bs.drop x.2)).map fun l => ⟨n, x.1⟩ :: l := by
      unfold tokR
      rw [drop_at e, lex_cons, if_neg (by rw [hb]; exact Bool.false_ne_true), if_neg (by rw [h35]; exact Bool.false_ne_true)]
      cases VahypBase.token (b :: bs.drop (n + 1)) with
      | none => rfl
      | some y =>
        show (VahypBase.lex k (n + y.2) ((b :: bs.drop (n + 1)).drop y.2)).map _ = (VahypBase.lex k (n + y.2) (bs.drop (n + y.2))).map _
        rw [← drop_at e, List.drop_drop]
    refine ⟨fun x hx => ?_, fun f hf => ?_⟩
    · have nx := tokR_next hx hn
      rw [hx] at lx
      refine ⟨nx.2, by rw [List.length_append]; show fd.length + 1 ≤ x.2; omega, k, by omega, ?_⟩
      rw [eq, lx]
      show ((VahypBase.lex k x.2 (bs.drop x.2)).map fun l => (⟨n, x.1⟩ : PTok) :: l).map (fd ++ ·) = (VahypBase.lex k x.2 (bs.drop x.2)).map (fd ++ [⟨n, x.1⟩] ++ ·)
      cases VahypBase.lex k x.2 (bs.drop x.2) with
      | error f => rfl
      | ok l =>
        show Except.ok (fd ++ ((⟨n, x.1⟩ : PTok) :: l)) = Except.ok (fd ++ [⟨n, x.1⟩] ++ l)
        rw [List.append_assoc]; rfl
    · rw [eq, lx, hf]; rfl
theorem lexSt_end {bs : Bytes} {fd : List PTok} {n : Nat} (h : LexSt bs fd n) (hn : ¬ n < bs.length) : VahypBase.tokens bs = .ok (fd ++ [⟨bs.length, .last⟩]) := by
  obtain ⟨le, few, k, hk, eq⟩ := h
  have en : n = bs.length := by omega
  subst en
  rw [eq, List.drop_length]
  cases k with
  | zero => rfl
  | succ k => rfl
theorem blank_eq (b : UInt8) : inV (.int (b.toNat : Int)) ([32, 9, 10].map V.int) = isBlank b := by
  unfold isBlank inV
  simp only [List.map_cons, List.map_nil, List.any_cons, List.any_nil, Bool.or_false]
  have k : ∀ (i : Nat) (c : UInt8), c.toNat = i → eqV (.int ((i : Nat) : Int)) (.int (b.toNat : Int)) = (b == c) := fun i c hc => by
    show ((i : Int) == (b.toNat : Int)) = (b == c)
    rw [Bool.eq_iff_iff]
    simp only [beq_iff_eq]
    rw [← hc]
    exact ⟨fun h => (UInt8.toNat_inj.mp (Int.ofNat.inj h)).symm, fun h => by rw [h]⟩
  exact congr (congrArg or (k 32 32 rfl)) (congr (congrArg or (k 9 9 rfl)) (k 10 10 rfl))
section
variable {X : Cx} {fr : Prop} {A A1 A2 : As} {a b : Expr} {pos : Pos} {i : Int}
theorem allFlat (ns : List Int) : (ns.map V.int).all flatV = true := by
  rw [List.all_eq_true]
  intro x hx
  obtain ⟨n, _, rfl⟩ := List.mem_map.mp hx
  rfl
theorem allP_eq {G : Hp} : ∀ {vs xs : List V}, AllP (vs.map isV) xs G → xs = vs
  | [], _, .nil => rfl
  | v :: r, _, .cons q t => by
    have e : _ = v := q
    rw [allP_eq t, e]
theorem b_ex {X : Cx} {ι : Type} {I : ι → As} {rest : List Stmt} {o : Out} (h : ∀ i, Jb X (I i) rest o) : Jb X (As.ex I) rest o := pss_imp (pss_any h) fun D σ H ⟨G, s, ⟨i, a⟩, r⟩ => ⟨i, G, s, a, r⟩
/-- i in a tuple of the module -/
theorem t_inK {ns : List Int} (ha : Je fr X A a (isI i) A1) (hb : Je fr X A1 b (isK X.K ((ns.map V.int).map isV)) A2) (hm : behindInMarks .In b = false := by rfl) : Jt fr X A (.Compare a [.In] [b] pos) (inV (.int i) (ns.map V.int)) A2 :=
  t_cmp op_in_seq ha hb (.at fun x y G H Q s p ⟨l, xs, e1, e2, e3⟩ z => by
    have e : xs = ns.map V.int := allP_eq e3
    subst e
    have p' : x = .int i := p
    subst p'
    exact ⟨l, _, e1, .inr (same_sqT s e2), rfl, allFlat ns, z _ rfl⟩) hm
end
theorem Txt.t_BLANKS {K : PySem.W.Frag} {mg : Str → Option Value} (T : Txt K mg) (H : Hp) : SqT K H (He.ga K "BLANKS") (([32, 9, 10] : List Int).map V.int) := He.tupB_ok T.tup_BLANKS H
abbrev sp_tokens_of (K : PySem.W.Frag) : Sp := fSp (fun bs : Bytes => bs.length ≤ 8192) (fun bs => [bysP bs]) (fun bs => okP (VahypBase.tokens bs) fun l => isL (l.map tokP)) (fun bs => erX K (VahypBase.tokens bs))
section
variable {base : Heap} {P : Program} {w : World} {K : PySem.W.Frag} {mg : Str → Option Value}
theorem kn_tokens_of (T : Txt K mg) : Kn P w K mg base (L2.CX P w) 5 "tokens_of" ["text"] (sp_tokens_of K) :=
  kn_of T.g_tokens_of (fn_plainX T.df_tokens_of (fun _ => rfl) fun cdv A outer s H E bs G hz sG hr hE => by
    have tk : Takes (cxOf (L2.CX P w) P w K mg base N_tokens_of d_tokens_of.qual d_tokens_of.scope (He.ga K "tokens_of") cdv A outer s H E) (fun c d _ H => E c d H) := takes_of rfl rfl rfl rfl
    refine b_when (k := decide (4096 < bs.length)) (t_cast (t_gt (e_lenL T.n_len (e_v 0 rfl)) (e_glob T.c_MOST_BYTES)) ?_) (fun h => ?_) fun h => ?_
    · rw [List.length_map, Bool.eq_iff_iff]
      simp only [decide_eq_true_eq]
      omega
    · have r : VahypBase.tokens bs = .error ⟨1, 4096⟩ := by
        unfold VahypBase.tokens
        rw [if_pos (show VahypBase.TEXT < bs.length from of_decide_eq_true h)]; rfl
      have hE' : XF (Bs.pl G H) (faultX K 1 4096) E := by
        have er : erX K (VahypBase.tokens bs) = faultX K 1 4096 := by rw [r]; rfl
        rw [← er]; exact hE
      exact b_one (s_raiseF T (hr.mono (by decide)) tk (a_cons (e_glob T.c_TOO_LONG) (a_one (e_glob T.c_MOST_BYTES))) (hE'.to fun _ _ _ z => z))
    · have hl : bs.length ≤ 4096 := by simpa using h
      refine b_cons (s_own 1 sc_tokens_of.nd (l_lst a_nil)) (b_cons (s_set 2 sc_tokens_of.nd e_int) ?_)
      refine b_cons (M := As.ex fun fd : {fd : List PTok // fd.length ≤ bs.length ∧ VahypBase.tokens bs = .ok (fd ++ [⟨bs.length, .last⟩])} => Ga (Bs.pl G H) [.val (bysP bs), .own (fd.1.map tokP), .any, .any]) (s_while (fun i : {i : List PTok × Nat // LexSt bs i.1 i.2} => Ga (Bs.pl G H) [.val (bysP bs), .own (i.1.1.map tokP), .val (natP i.1.2), .any]) (fun i => bs.length - i.1.2) (fun i => decide (i.1.2 < bs.length)) ⟨([], 0), lexSt_start hl⟩ (ga_le' ?_) (fun i => ?_) (fun i hk => ?_) (fun i hk => ?_) (by exact passes_of rfl)) ?_
      · exact .cons .rfl' (.cons .rfl' (.cons .rfl' (.cons .rfl' .nil)))
      · exact t_cast (t_lt (e_v 2 rfl) (e_lenL T.n_len (e_v 0 rfl))) (by rw [List.length_map, Bool.eq_iff_iff]; simp only [decide_eq_true_eq]; omega)
      · obtain ⟨⟨fd, n⟩, L⟩ := i
        have hn : n < bs.length := of_decide_eq_true hk
        have e : bs[n]? = some bs[n] := List.getElem?_eq_getElem hn
        refine b_one (s_if (k := isBlank bs[n]) (t_cast (t_inK (e_ixL (e_v 0 rfl) (e_v 2 rfl) (at_map (f := byP) e)) (e_globT T.g_BLANKS T.t_BLANKS)) (blank_eq bs[n])) (fun hb => ?_) (fun hb => ?_))
        · exact b_one (s_post (s_set 2 sc_tokens_of.nd (e_add (e_v 2 rfl) e_int)) (le_less ⟨(fd, n + 1), lexSt_blank L e hb⟩ (by show bs.length - (n + 1) < bs.length - n; omega) .refl))
        · refine b_one (s_if (k := bs[n] == 35) (t_cast (t_eqI (e_ixL (e_v 0 rfl) (e_v 2 rfl) (at_map (f := byP) e)) (e_glob T.c_REMARK)) (byte_eq _ 35)) (fun h35 => ?_) (fun h35 => ?_))
          · have nx : n < runTo (· != 10) bs n := by
              have e35 : bs[n] = 35 := by simpa using h35
              rw [runTo_yes (f := (· != 10)) e (by rw [e35]; rfl)]
              exact (runTo_le (f := (· != 10)) (show n + 1 ≤ bs.length from hn)).1
            exact b_one (s_post (s_set 2 sc_tokens_of.nd (e_fn (kn_behind_remark T) (hr.mono (by decide)) (bs, n) (Nat.le_of_lt hn) (a_cons (e_v 0 rfl) (a_one (e_v 2 rfl))))) (le_less ⟨(fd, runTo (· != 10) bs n), lexSt_remark L e hb h35⟩ (by show bs.length - runTo (· != 10) bs n < bs.length - n; omega) .refl))
          · have st := lexSt_tok L e hb h35
            cases hT : tokR bs n with
            | error f =>
              have r := st.2 f hT
              have hE' : XF (Bs.pl G H) (erX K (tokR bs n)) E := by
                have er : erX K (VahypBase.tokens bs) = erX K (tokR bs n) := by rw [r, hT]; rfl
                rw [← er]; exact hE
              refine b_cons (s_asg (P := isT [noP, noP]) (e_imp (e_fnX (kn_token_at T) hr (bs, n) hn tk (a_cons (e_v 0 rfl) (a_one (e_v 2 rfl))) (hE'.to fun _ _ _ z => z)) fun v H z => ?_) (g_pair 3 2 (ws := [3, 2]) sc_tokens_of.nd)) (b_never fun σ G' H' a => ?_)
              · rw [hT] at z; exact z.elim
              · obtain ⟨v, _, z⟩ := ga_val (P := noP) (i := 3) a rfl
                exact z
            | ok x =>
              have nx := tokR_next hT hn
              refine b_cons (s_asg (P := isT [tokP ⟨n, x.1⟩, natP x.2]) (e_cast (e_fnX (kn_token_at T) hr (bs, n) hn tk (a_cons (e_v 0 rfl) (a_one (e_v 2 rfl))) fun c d σ G' H' _ _ z => ?_) ?_) (g_pair 3 2 (ws := [3, 2]) sc_tokens_of.nd)) ?_
              · rw [hT] at z; exact z.elim
              · show okP (tokR bs n) _ = _
                rw [hT]; rfl
              · refine b_one (s_post (s_append 1 (Ps := fd.map tokP) rfl rfl (e_v 3 rfl) ?_) (le_less ⟨(fd ++ [⟨n, x.1⟩], x.2), st.1 x hT⟩ (by show bs.length - x.2 < bs.length - n; omega) (ga_le' ?_)))
                · have := L.few
                  rw [List.length_map, line_eq]
                  show fd.length < _
                  have : fd.length ≤ n := L.few
                  omega
                · exact .cons .rfl' (.cons (.inl (by rw [List.map_append]; rfl)) (.cons .rfl' (.cons .any' .nil)))
      · obtain ⟨⟨fd, n⟩, L⟩ := i
        have r := lexSt_end L (of_decide_eq_false hk)
        exact fun σ G' H' s' a => ⟨⟨fd, Nat.le_trans L.few L.le, r⟩, ga_le' (.cons .rfl' (.cons .rfl' (.cons .any' (.cons .any' .nil)))) σ G' H' s' a⟩
      · refine b_ex fun ⟨fd, few, r⟩ => ?_
        refine b_one (s_retP (e_cast (e_cat (e_thaw 1 rfl) (e_lst (a_one (e_tup (a_cons (e_glob T.c_END) (a_cons (e_lst a_nil) (a_one (e_lenL T.n_len (e_v 0 rfl)))))))) ?_) ?_))
        · rw [List.length_map, line_eq]
          show fd.length + 1 ≤ _
          omega
        · show isL (fd.map tokP ++ [isT [isS "end", isL [], isI ((bs.map byP).length : Int)]]) = okP (VahypBase.tokens bs) _
          rw [r]
          show _ = isL ((fd ++ [(⟨bs.length, .last⟩ : PTok)]).map tokP)
          rw [List.map_append, List.length_map]; rfl)
end
end Q
set_option maxHeartbeats 4100000
/-! A tuple times nought, times one. -/
namespace Q
open L2 PySem PySem.Spec PyProof.Rows
theorem tup_mul1 (l : Addr) (items : Array Value) (n : Nat) (dd : Option Addr) (sl : Array (Option Value)) (u : Tok) :
    Meets (Builtin.«tuple.__mul__» ⟨[.ref l, .int 1 u], []⟩) (fun _ R s => s.heap.get? l = some { cls := .type "tuple", dict := dd, data := .seq items n, slots := sl } ∧ R (.ok (.ret (Value.ref l))) s) :=
  .of_wp fun p1 w1 A1 R1 s h => by
    (obtain ⟨hp, g, d, tk, os⟩ := s)
    obtain ⟨hl, h⟩ := h
    have f1 := AutoSeq1.idx_int
    have c1 : (items.isEmpty || ((1 : Int) == 1)) = true := by simp
    (wp_walk using wpAny_loadPart' hl )
    repeat (first
      | (refine wpAny_ite_false (by decide) ?_; wp_walk using wpAny_loadPart' hl )
      | (refine wpAny_ite_true (by rw [c1]; rfl) ?_; wp_walk using wpAny_loadPart' hl )
      | (refine wpAny_ite_true (by simp) ?_; wp_walk using wpAny_loadPart' hl))
    exact ⟨_, rfl, h⟩
theorem tup_mul0 (l : Addr) (items : Array Value) (n : Nat) (dd : Option Addr) (sl : Array (Option Value)) (u : Tok) (hne : items.isEmpty = false) :
    Meets (Builtin.«tuple.__mul__» ⟨[.ref l, .int 0 u], []⟩) (fun _ R s => s.heap.get? l = some { cls := .type "tuple", dict := dd, data := .seq items n, slots := sl } ∧
      R (.ok (.ret (Value.ref s.heap.objs.size))) { s with heap := s.heap.push { cls := Value.type "tuple", data := Data.seq #[] }, toks := s.toks }) :=
  .of_wp fun p1 w1 A1 R1 s h => by
    (obtain ⟨hp, g, d, tk, os⟩ := s)
    obtain ⟨hl, h⟩ := h
    have f1 := AutoSeq1.idx_int
    have c1 : (items.isEmpty || ((0 : Int) == 1)) = false := by rw [hne]; rfl
    have c2 : (decide ((0 : Int) ≤ 0) || items.isEmpty) = true := by simp
    (wp_walk using wpAny_loadPart' hl )
    repeat (first
      | (refine wpAny_ite_false (by decide) ?_; wp_walk using wpAny_loadPart' hl )
      | (refine wpAny_ite_false (decide_eq_false (by rw [c1]; exact Bool.false_ne_true)) ?_; wp_walk using wpAny_loadPart' hl )
      | (refine wpAny_ite_true (decide_eq_true c2) ?_; wp_walk using wpAny_loadPart' hl))
    exact ⟨_, rfl, h⟩
def rRep01 (K : PySem.W.Frag) : R2 := fun x y H Q => ∃ l k xs, x = .ref l ∧ y = .int (if k = true then 1 else 0) ∧ SqT K H l xs ∧ xs ≠ [] ∧ (k = true → Q (.ref l) H) ∧ (k = false → ∀ p, H p = none → Q (.ref p) (upd H p (.tup [])))
section
variable {X : Cx}
theorem op_rep01 : OpR X (binaryOp .Mult) (rRep01 X.K) := by
  intro pins s σ H x y v u Q I rx ry ⟨l, k, xs, ex, ey, hT, hne, q1, q0⟩
  subst ex ey
  cases rx
  obtain ⟨t, rfl⟩ := ry
  (obtain ⟨its, r, ⟨⟨cls, dd, data, sl⟩, ho, hc, n, hd⟩, hs⟩ := I.tuple hT)
  simp only at hc hd
  subst hc hd
  have hi : (its.toArray).isEmpty = false := by
    cases its with
    | nil => exact absurd (List.eq_nil_of_length_eq_zero r.length) hne
    | cons a b => rfl
  cases k with
  | true =>
    refine wpAny_binaryOp_repeat_ref (T := "tuple") (U := "int") (by decide) ⟨_, ho, rfl⟩ (fun s' => typeIs_int s' _ t) noFill_tuple_mul F.fills_int_mul F.slot_int_rmul repeat_tuple F.slot_int_index.lookup
      (call_meets F.slot_int_rmul (typeIs_int s _ t) F.entry_int_rmul (F.args_int_rmul_2 _ _) (int_rmul_tuple _ t l its.toArray n dd sl) ⟨ho, rfl, ⟨_, ho, rfl⟩, call_meets F.slot_tuple_mul ⟨_, ho, rfl⟩ F.entry_tuple_mul (F.args_tuple_mul_2 _ _) (tup_mul1 l its.toArray n dd sl t) ⟨ho, ?_⟩⟩)
    exact ⟨.ref l, H, I, rfl, q1 rfl⟩
  | false =>
    refine wpAny_binaryOp_repeat_ref (T := "tuple") (U := "int") (by decide) ⟨_, ho, rfl⟩ (fun s' => typeIs_int s' _ t) noFill_tuple_mul F.fills_int_mul F.slot_int_rmul repeat_tuple F.slot_int_index.lookup
      (call_meets F.slot_int_rmul (typeIs_int s _ t) F.entry_int_rmul (F.args_int_rmul_2 _ _) (int_rmul_tuple _ t l its.toArray n dd sl) ⟨ho, rfl, ⟨_, ho, rfl⟩, call_meets F.slot_tuple_mul ⟨_, ho, rfl⟩ F.entry_tuple_mul (F.args_tuple_mul_2 _ _) (tup_mul0 l its.toArray n dd sl t hi) ⟨ho, ?_⟩⟩)
    exact ⟨.ref s.heap.objs.size, _, I.laid (t' := s.toks) (o := .tup []) (fun b ob z => Heap.get?_push_of_some _ z) (Nat.le_refl _) ⟨by show 0 ≤ sizeLine; decide, [], .nil, IsTup.new _ _⟩, rfl, q0 rfl _ (I.hok.fresh (Nat.le_refl _))⟩
variable {fr : Prop} {A A1 A2 : As} {Ps : List VP} {a b : Expr} {pos : Pos} {k : Bool}
theorem e_rep01 (ha : Je fr X A a (isT Ps) A1) (hb : Je fr X A1 b (isI (if k = true then 1 else 0)) A2) (hne : Ps ≠ []) : Je fr X A (.BinOp a .Mult b pos) (isT (if k = true then Ps else [])) A2 := e_op op_rep01 ha hb fun x y G H Q s ⟨l, xs, e1, e2, e3⟩ py z => by
  refine ⟨l, k, xs, e1, py, SqT.of (s _ _ e2), fun h => hne (by rw [h] at e3; cases e3; rfl), fun hk => ?_, fun hk p hp => ?_⟩
  · subst hk
    exact z _ G H (Gw.refl s) ⟨l, xs, rfl, e2, e3⟩
  · subst hk
    exact z _ _ _ (Gw.new s hp) ⟨p, [], rfl, upd_same, .nil⟩
end
end Q
/-! max of a tuple of ints; == of data. -/
namespace Q
open L2 PySem PySem.Spec PyProof.Rows
/-- max(t), t a tuple of ints, not empty -/
def rMaxT (K : PySem.W.Frag) : List V → Hp → VK → Prop := fun vs H Q => ∃ (a : Addr) (n : Int) (ns : List Int), vs = [V.ref a] ∧ SqT K H a ((n :: ns).map V.int) ∧ Q (.int (ns.foldl max n)) H
theorem reads_ints {h : Heap} : ∀ {ns : List Int} {us : List Value}, Vals (ns.map V.int) us → ∃ as, ReadsAll h us (ns.map PyData.int) as
  | [], _, .nil => ⟨_, .nil⟩
  | n :: ns, _, .cons r t => by
    obtain ⟨tk, rfl⟩ := r
    obtain ⟨as, q⟩ := reads_ints (h := h) t
    exact ⟨_, .cons (.int n tk) q⟩
theorem depth_ints : ∀ ns : List Int, PyData.depthAll (ns.map PyData.int) = 0
  | [] => rfl
  | n :: ns => by
    show max (PyData.depth (.int n)) (PyData.depthAll (ns.map PyData.int)) = 0
    rw [depth_ints ns]; rfl
theorem alike_ints (ns : List Int) : PySem.W.AlikeAll (ns.map PyData.int) := by
  refine ⟨fun x hx y hy => ?_, fun x hx => ?_⟩
  · obtain ⟨n, _, rfl⟩ := List.mem_map.mp hx
    obtain ⟨m, _, rfl⟩ := List.mem_map.mp hy
    rfl
  · obtain ⟨n, _, rfl⟩ := List.mem_map.mp hx
    exact fun z => nomatch z
section
variable {X : Cx}
theorem cr_maxT (hc : X.calm = true) (hu : X.A.units + 2 < cLine) : CallR X (.builtin "max") (rMaxT X.K) := by
  intro pins s σ H vs us Q I r ⟨a, n, ns, e, hs, q⟩
  subst e
  obtain ⟨its, rv, ht, _⟩ := I.tuple hs
  obtain ⟨as, ra⟩ := reads_ints (h := s.heap) rv
  rw [Vals.ref1 r]
  refine PySem.W.max_tuple_data (x := .int n) (xs := ns.map PyData.int) (I.ok.hd hc) ht ra (alike_ints (n :: ns)) (by
    have e : PyData.depthAll (PyData.int n :: ns.map PyData.int) = 0 := depth_ints (n :: ns)
    rw [e]; omega) fun i v h' tk bs _ hr hk => ?_
  rw [PySem.W.maxD_ints] at hr
  cases hr
  exact ⟨.int _, H, I.kept hk, ⟨_, rfl⟩, q⟩
/-- a predicate tells a datum -/
def DPc (K : PySem.W.Frag) (P : VP) (d : PyData) : Prop := ∀ v H, P.p v H → Dp K H v d
def DPs (K : PySem.W.Frag) (Ps : List VP) (ds : List PyData) : Prop := Paired (DPc K) Ps ds
variable {K : PySem.W.Frag}
theorem dp_I {i : Int} : DPc K (isI i) (.int i) := fun v H h => by
  have e : v = .int i := h
  subst e; exact .int i
theorem dp_N : DPc K isN .none := fun v H h => by
  have e : v = .non := h
  subst e; exact .non
theorem dp_all {Ps : List VP} {ds : List PyData} (h : DPs K Ps ds) : ∀ {xs : List V} {H : Hp}, AllP Ps xs H → DpAll K H xs ds := by
  induction h with
  | nil => intro xs H r; cases r; exact .nil
  | cons p t ih => intro xs H r; cases r with | cons q u => exact .cons (p _ _ q) (ih u)
theorem dp_T {Ps : List VP} {ds : List PyData} (h : DPs K Ps ds) : DPc K (isT Ps) (.tuple ds) := fun v H ⟨a, xs, e, q, r⟩ => by
  subst e; exact .tup (SqT.of q) (dp_all h r)
theorem dp_L {Ps : List VP} {ds : List PyData} (h : DPs K Ps ds) : DPc K (isL Ps) (.list ds) := fun v H ⟨a, xs, e, q, r⟩ => by
  subst e; exact .lst (SqL.of q) (dp_all h r)
theorem dps_map {α : Type} {f : α → VP} {g : α → PyData} (h : ∀ a, DPc K (f a) (g a)) : ∀ l : List α, DPs K (l.map f) (l.map g)
  | [] => .nil
  | a :: r => .cons (h a) (dps_map h r)
/-! ### small data: numbers, None, tuples and lists of such -/
def numD (n : Nat) : PyData := .int (n : Int)
def numsD (ns : List Nat) : PyData := .tuple (ns.map numD)
theorem lay_all {l : List PyData} (h : ∀ d ∈ l, d.canLay0 = true) : PyData.canLayAll0 l = true := by
  induction l with
  | nil => rfl
  | cons a r ih =>
    show (a.canLay0 && PyData.canLayAll0 r) = true
    rw [h a (List.mem_cons_self ..), ih fun d hd => h d (List.mem_cons_of_mem _ hd)]; rfl
theorem depth_all {n : Nat} {l : List PyData} (h : ∀ d ∈ l, d.depth ≤ n) : PyData.depthAll l ≤ n := by
  induction l with
  | nil => exact Nat.zero_le _
  | cons a r ih =>
    show max a.depth (PyData.depthAll r) ≤ n
    exact Nat.max_le.mpr ⟨h a (List.mem_cons_self ..), ih fun d hd => h d (List.mem_cons_of_mem _ hd)⟩
/-- of no more than so many tuples one in another -/
def Sh (n : Nat) (d : PyData) : Prop := d.canLay0 = true ∧ d.depth ≤ n
theorem Sh.ok {n : Nat} {d : PyData} (h : Sh n d) (hn : n ≤ 64) : SeqAt.shaped d = true := by
  unfold SeqAt.shaped
  rw [h.1, decide_eq_true (Nat.le_trans h.2 hn)]; rfl
theorem sh_num (n : Nat) : Sh 0 (numD n) := ⟨rfl, Nat.le_refl 0⟩
theorem sh_int (i : Int) : Sh 0 (.int i) := ⟨rfl, Nat.le_refl 0⟩
theorem sh_none : Sh 0 .none := ⟨rfl, Nat.le_refl 0⟩
theorem Sh.up {n m : Nat} {d : PyData} (h : Sh n d) (hm : n ≤ m) : Sh m d := ⟨h.1, Nat.le_trans h.2 hm⟩
theorem sh_tup {n : Nat} {l : List PyData} (h : ∀ d ∈ l, Sh n d) : Sh (n + 1) (.tuple l) := by
  refine ⟨lay_all fun d hd => (h d hd).1, ?_⟩
  have := depth_all fun d hd => (h d hd).2
  show PyData.depthAll l + 1 ≤ n + 1
  omega
theorem sh_lst {n : Nat} {l : List PyData} (h : ∀ d ∈ l, Sh n d) : Sh (n + 1) (.list l) := by
  refine ⟨lay_all fun d hd => (h d hd).1, ?_⟩
  have := depth_all fun d hd => (h d hd).2
  show PyData.depthAll l + 1 ≤ n + 1
  omega
theorem sh_map {α : Type} {n : Nat} {f : α → PyData} (h : ∀ a, Sh n (f a)) (l : List α) : ∀ d ∈ l.map f, Sh n d := fun d hd => by
  obtain ⟨a, _, rfl⟩ := List.mem_map.mp hd
  exact h a
theorem eqv_cons (x y : PyData) (xs ys : List PyData) : PyData.eqvAll (x :: xs) (y :: ys) = (PyData.eqv x y && PyData.eqvAll xs ys) := by rw [PyData.eqvAll]
/-- an encoding that == tells apart -/
theorem eqv_map {α : Type} [DecidableEq α] {f : α → PyData} (h : ∀ a b, PyData.eqv (f a) (f b) = decide (a = b)) : ∀ l m : List α, PyData.eqvAll (l.map f) (m.map f) = decide (l = m)
  | [], [] => by rw [decide_eq_true rfl]; rfl
  | [], b :: m => by rw [decide_eq_false fun z => nomatch z]; rfl
  | a :: l, [] => by rw [decide_eq_false fun z => nomatch z]; rfl
  | a :: l, b :: m => by
    show PyData.eqvAll (f a :: l.map f) (f b :: m.map f) = _
    rw [eqv_cons, h a b, eqv_map h l m, Bool.eq_iff_iff]
    simp only [Bool.and_eq_true, decide_eq_true_eq, List.cons.injEq]
theorem eqv_num (a b : Nat) : PyData.eqv (numD a) (numD b) = decide (a = b) := by
  show (((a : Int)) == (b : Int)) = _
  rw [Bool.eq_iff_iff]
  simp only [beq_iff_eq, decide_eq_true_eq]
  omega
theorem eqv_nums (ns ms : List Nat) : PyData.eqv (numsD ns) (numsD ms) = decide (ns = ms) := eqv_map eqv_num ns ms
variable {fr : Prop} {A A1 A2 : As} {a b : Expr} {pos : Pos} {P1 P2 : VP} {d e : PyData} {k : Bool}
theorem rs_eqD (h1 : DPc K P1 d) (h2 : DPc K P2 e) (s1 : SeqAt.shaped d = true) (s2 : SeqAt.shaped e = true) (he : PyData.eqv d e = k) : RS (rEqD K) P1 P2 (isB k) := .at fun x y G H Q s p q z => ⟨d, e, h1 x H (P1.up s p), h2 y H (P2.up s q), s1, s2, z _ (congrArg V.bl he)⟩
theorem rs_neD (h1 : DPc K P1 d) (h2 : DPc K P2 e) (s1 : SeqAt.shaped d = true) (s2 : SeqAt.shaped e = true) (he : PyData.eqv d e = k) : RS (rNeD K) P1 P2 (isB (!k)) := .at fun x y G H Q s p q z => ⟨d, e, h1 x H (P1.up s p), h2 y H (P2.up s q), s1, s2, z _ (congrArg (fun k => V.bl (!k)) he)⟩
theorem room64 {n : Nat} {A : Around} (r : Room n A) : A.units + 64 < cLine := r.units
theorem room65 {n : Nat} {A : Around} (r : Room n A) : A.units + 65 < cLine := by have := r.un; omega
theorem e_eqD {n : Nat} (hr : Room n X.A) (ha : Je fr X A a P1 A1) (hb : Je fr X A1 b P2 A2) (h1 : DPc X.K P1 d) (h2 : DPc X.K P2 e) (s1 : SeqAt.shaped d = true) (s2 : SeqAt.shaped e = true) (he : PyData.eqv d e = k) : Je fr X A (.Compare a [.Eq] [b] pos) (isB k) A2 := e_cmp (op_eqD (room64 hr)) ha hb (rs_eqD h1 h2 s1 s2 he)
theorem t_eqD {n : Nat} (hr : Room n X.A) (ha : Je fr X A a P1 A1) (hb : Je fr X A1 b P2 A2) (h1 : DPc X.K P1 d) (h2 : DPc X.K P2 e) (s1 : SeqAt.shaped d = true) (s2 : SeqAt.shaped e = true) (he : PyData.eqv d e = k) : Jt fr X A (.Compare a [.Eq] [b] pos) k A2 := t_cmp (op_eqD (room64 hr)) ha hb (rs_eqD h1 h2 s1 s2 he)
theorem t_neD {n : Nat} (hr : Room n X.A) (ha : Je fr X A a P1 A1) (hb : Je fr X A1 b P2 A2) (h1 : DPc X.K P1 d) (h2 : DPc X.K P2 e) (s1 : SeqAt.shaped d = true) (s2 : SeqAt.shaped e = true) (he : PyData.eqv d e = k) : Jt fr X A (.Compare a [.NotEq] [b] pos) (!k) A2 := t_cmp (op_neD (room64 hr)) ha hb (rs_neD h1 h2 s1 s2 he)
end
end Q
/-! Patterns' and words' chunks, in the program's way and in the specification's. -/
namespace Q
open VahypBase (Bytes isLetter isDigit)
/-- what stands between the points, byte by byte: letters and digits so far -/
def rb : Bytes → Bytes → List Nat → Option (Bytes × List Nat)
  | [], x, vs => some (x, vs)
  | b :: r, x, vs => if isLetter b = true then rb r (x ++ [b]) (vs ++ [0])
    else if (isDigit b && (decide (48 < b.toNat) && (vs.getLastD 0 == 0))) = true then rb r x (vs.dropLast ++ [b.toNat - 48]) else none
theorem letter_digit {b : UInt8} (h : isLetter b = true) : isDigit b = false := by
  unfold isLetter at h
  unfold isDigit
  (simp only [decide_eq_true_eq] at h)
  (simp only [decide_eq_false_iff_not])
  omega
theorem letter_48 {b : UInt8} (h : isLetter b = true) : (b == 48) = false := by
  cases e : b == 48 with
  | false => rfl
  | true =>
    have : b = 48 := by simpa using e
    subst this
    exact absurd h (by decide)
theorem pat_nil (n : Nat) (x : Bytes) (vs : List Nat) : Vahypa.patBy (n + 1) [] x vs = some (x, vs ++ [0], []) := rfl
theorem pat_cons (n : Nat) (b : UInt8) (r x : Bytes) (vs : List Nat) : Vahypa.patBy (n + 1) (b :: r) x vs = if (b == 48) = true then none else match (if isDigit b = true then r else b :: r) with
    | c :: s => if isLetter c = true then Vahypa.patBy n s (x ++ [c]) (vs ++ [if isDigit b = true then b.toNat - 48 else 0]) else some (x, vs ++ [if isDigit b = true then b.toNat - 48 else 0], if isDigit b = true then r else b :: r)
    | [] => some (x, vs ++ [if isDigit b = true then b.toNat - 48 else 0], []) := rfl
theorem digit_pos {b : UInt8} (h : isDigit b = true) : decide (48 < b.toNat) = !(b == 48) := by
  unfold isDigit at h
  (simp only [decide_eq_true_eq] at h)
  rw [Bool.eq_iff_iff]
  simp only [decide_eq_true_eq, Bool.not_eq_true', beq_eq_false_iff_ne, ne_eq]
  constructor
  · intro hb e
    subst e
    exact absurd hb (by decide)
  · intro hb
    have : b.toNat ≠ 48 := fun e => hb (UInt8.toNat_inj.mp e)
    omega
/-- the two ways read alike, forth -/
theorem pat_of_rb : ∀ (k n : Nat) (body t x : Bytes) (vs : List Nat) (r : Bytes × List Nat), body.length ≤ k → (body ++ t).length < n → (t = [] ∨ t = [46]) → rb body x (vs ++ [0]) = some r → Vahypa.patBy n (body ++ t) x vs = some (r.1, r.2, t)
  | k, 0, body, t, x, vs, r, _, hn, _, _ => by omega
  | k, n + 1, [], t, x, vs, r, _, hn, ht, h => by
    cases h
    rcases ht with rfl | rfl <;> rfl
  | 0, n + 1, b :: body, t, x, vs, r, hk, hn, ht, h => by simp at hk
  | k + 1, n + 1, b :: body, t, x, vs, r, hk, hn, ht, h => by
    have hk' : body.length ≤ k := by simp at hk; omega
    have hn' : (body ++ t).length < n := by simp at hn ⊢; omega
    show Vahypa.patBy (n + 1) (b :: (body ++ t)) x vs = _
    rw [pat_cons]
    unfold rb at h
    cases hl : isLetter b with
    | true =>
      rw [if_pos hl] at h
      rw [letter_48 hl, letter_digit hl]
      simp only [Bool.false_eq_true, if_false, hl, if_true]
      exact pat_of_rb k n body t (x ++ [b]) (vs ++ [0]) r hk' hn' ht h
    | false =>
      rw [if_neg (by rw [hl]; exact Bool.false_ne_true)] at h
      cases hd : isDigit b with
      | false => rw [hd] at h; simp at h
      | true =>
        rw [hd, digit_pos hd] at h
        cases h48 : b == 48 with
        | true => rw [h48] at h; simp at h
        | false =>
          rw [h48] at h
          simp only [Bool.not_false, Bool.true_and, List.getLastD_concat, beq_self_eq_true, if_true, List.dropLast_concat] at h
          simp only [Bool.false_eq_true, if_false, if_true]
          cases body with
          | nil =>
            cases h
            rcases ht with rfl | rfl
            · rfl
            · show (if isLetter 46 = true then _ else _) = _
              rw [if_neg (by decide)]; rfl
          | cons c body =>
            show (if isLetter c = true then Vahypa.patBy n (body ++ t) (x ++ [c]) (vs ++ [b.toNat - 48]) else _) = _
            unfold rb at h
            cases hc : isLetter c with
            | true =>
              rw [if_pos hc] at h
              rw [if_pos rfl]
              cases k with
              | zero => simp at hk'
              | succ k => exact pat_of_rb k n body t (x ++ [c]) (vs ++ [b.toNat - 48]) r (by simp at hk'; omega) (by simp at hn'; simp; omega) ht h
            | false =>
              rw [if_neg (by rw [hc]; exact Bool.false_ne_true)] at h
              have z : ((vs ++ [b.toNat - 48]).getLastD 0 == 0) = false := by
                rw [List.getLastD_concat]
                have := digit_pos hd
                rw [h48] at this
                have : 48 < b.toNat := by simpa using this
                simp; omega
              rw [z] at h
              simp at h
/-- .. and back -/
theorem rb_of_pat : ∀ (n : Nat) (l x : Bytes) (vs : List Nat) (x' : Bytes) (vs' : List Nat) (t : Bytes), Vahypa.patBy n l x vs = some (x', vs', t) → ∃ body, l = body ++ t ∧ rb body x (vs ++ [0]) = some (x', vs')
  | 0, l, x, vs, x', vs', t, h => by cases h
  | n + 1, [], x, vs, x', vs', t, h => by
    rw [pat_nil] at h
    cases h
    exact ⟨[], rfl, rfl⟩
  | n + 1, b :: r, x, vs, x', vs', t, h => by
    rw [pat_cons] at h
    cases h48 : b == 48 with
    | true => rw [h48] at h; simp at h
    | false =>
      rw [h48] at h
      (simp only [Bool.false_eq_true, if_false] at h)
      cases hd : isDigit b with
      | true =>
        rw [hd] at h
        simp only [if_true] at h
        have hl : isLetter b = false := by
          cases q : isLetter b with
          | false => rfl
          | true => rw [letter_digit q] at hd; cases hd
        have step : ∀ body, rb (b :: body) x (vs ++ [0]) = rb body x (vs ++ [b.toNat - 48]) := fun body => by
          show (if isLetter b = true then _ else _) = _
          rw [if_neg (by rw [hl]; exact Bool.false_ne_true), hd, digit_pos hd, h48]
          simp only [Bool.not_false, Bool.true_and, List.getLastD_concat, beq_self_eq_true, if_true, List.dropLast_concat]
        cases r with
        | nil =>
          cases h
          exact ⟨[b], rfl, (step []).trans rfl⟩
        | cons c s =>
          change (if isLetter c = true then Vahypa.patBy n s (x ++ [c]) (vs ++ [b.toNat - 48]) else some (x, vs ++ [b.toNat - 48], c :: s)) = _ at h
          cases hc : isLetter c with
          | true =>
            rw [if_pos hc] at h
            obtain ⟨body, e, q⟩ := rb_of_pat n s _ _ _ _ _ h
            refine ⟨b :: c :: body, by rw [e]; rfl, (step _).trans ?_⟩
            show (if isLetter c = true then _ else _) = _
            rw [if_pos hc]
            exact q
          | false =>
            rw [if_neg (by rw [hc]; exact Bool.false_ne_true)] at h
            cases h
            exact ⟨[b], rfl, (step []).trans rfl⟩
      | false =>
        rw [hd] at h
        (simp only [Bool.false_eq_true, if_false] at h)
        cases hl : isLetter b with
        | true =>
          rw [if_pos hl] at h
          obtain ⟨body, e, q⟩ := rb_of_pat n r _ _ _ _ _ h
          refine ⟨b :: body, by rw [e]; rfl, ?_⟩
          show (if isLetter b = true then _ else _) = _
          rw [if_pos hl]
          exact q
        | false =>
          rw [if_neg (by rw [hl]; exact Bool.false_ne_true)] at h
          cases h
          exact ⟨[], rfl, rfl⟩
/-- letters and digits alone -/
theorem rb_bytes : ∀ (l x : Bytes) (vs : List Nat) (r : Bytes × List Nat), rb l x vs = some r → ∀ b ∈ l, b ≠ 46
  | [], _, _, _, _, _, hb => by cases hb
  | c :: l, x, vs, r, h, b, hb => by
    unfold rb at h
    (rcases List.mem_cons.mp hb with rfl | hb)
    · intro e
      subst e
      rw [if_neg (by decide)] at h
      have : isDigit 46 = false := by decide
      rw [this] at h
      simp at h
    · split at h
      · exact rb_bytes l _ _ _ h b hb
      · split at h
        · exact rb_bytes l _ _ _ h b hb
        · cases h
/-- the points of a chunk -/
def frontOf (c : Bytes) : Bool := c.head? == some 46
def endOf (c : Bytes) : Bool := decide (1 < c.length) && (c.getLastD 0 == 46)
def bodyOf (c : Bytes) : Bytes := (c.drop (if frontOf c = true then 1 else 0)).take (c.length - (if endOf c = true then 1 else 0) - (if frontOf c = true then 1 else 0))
/-- a pattern in the program's way -/
def patP' (c : Bytes) : Option Vahypa.Pat := match rb (bodyOf c) [] [0] with
  | none => none
  | some (x, vs) => if x.length < 1 ∨ 6 < x.length ∨ vs.all (fun v => v == 0) = true then none else some ⟨frontOf c, x, endOf c, vs⟩
theorem split_end {c : Bytes} (f : Bool) (hf : f = frontOf c) : c.drop (if f = true then 1 else 0) = bodyOf c ++ (if endOf c = true then [46] else []) := by
  subst hf
  unfold bodyOf
  cases he : endOf c with
  | false =>
    simp only [Bool.false_eq_true, if_false, List.append_nil, Nat.sub_zero]
    rw [List.take_of_length_le]
    rw [List.length_drop]; omega
  | true =>
    simp only [if_true]
    unfold endOf at he
    rw [Bool.and_eq_true, decide_eq_true_eq] at he
    obtain ⟨h1, h2⟩ := he
    have hne : c ≠ [] := fun z => by rw [z] at h1; simp at h1
    have e : c = c.dropLast ++ [46] := by
      have h3 : c.getLast hne = 46 := by
        have : c.getLastD 0 = c.getLast hne := by
          cases c with
          | nil => exact absurd rfl hne
          | cons a l => rfl
        rw [← this]; simpa using h2
      rw [← h3]; exact (List.dropLast_concat_getLast hne).symm
    have hl : c.dropLast.length + 1 = c.length := by rw [List.length_dropLast]; omega
    generalize hk : (if frontOf c = true then 1 else 0) = k
    have hk1 : k ≤ 1 := by rw [← hk]; split <;> omega
    have e2 : c.drop k = c.dropLast.drop k ++ [46] := by
      conv => lhs; rw [e]
      rw [List.drop_append_of_le_length (by omega)]
    rw [e2, List.take_append_of_le_length (by rw [List.length_drop]; omega), List.take_of_length_le (by rw [List.length_drop]; omega)]
theorem getLastD_mem {c : Bytes} (h : c ≠ []) : c.getLastD 0 ∈ c := by
  cases c with
  | nil => exact absurd rfl h
  | cons a l =>
    show (a :: l).getLast (by simp) ∈ a :: l
    exact List.getLast_mem _
theorem patP_eq (c : Bytes) : patP' c = Vahypa.patOf c := by
  have sp := split_end (c := c) (frontOf c) rfl
  have drp : (if frontOf c = true then c.drop 1 else c) = c.drop (if frontOf c = true then 1 else 0) := by split <;> simp
  have key : Vahypa.patOf c = (Vahypa.patBy (c.length + 1) (if frontOf c = true then c.drop 1 else c) [] []).bind fun p =>
      if p.1.length < 1 ∨ 6 < p.1.length ∨ (p.2.2 ≠ [] ∧ (p.2.2 == [46]) = false) ∨ p.2.1.all (fun v => v == 0) = true then none else some ⟨frontOf c, p.1, p.2.2 == [46], p.2.1⟩ := rfl
  rw [key, drp, sp]
  unfold patP'
  have htl : (if endOf c = true then ([46] : Bytes) else []) = [] ∨ (if endOf c = true then ([46] : Bytes) else []) = [46] := by split <;> simp
  have hlen : (bodyOf c ++ (if endOf c = true then ([46] : Bytes) else [])).length < c.length + 1 := by
    rw [← sp, List.length_drop]; omega
  cases hr : rb (bodyOf c) [] [0] with
  | some r =>
    have := pat_of_rb (bodyOf c).length (c.length + 1) (bodyOf c) _ [] [] r (Nat.le_refl _) hlen htl hr
    rw [this]
    obtain ⟨x, vs⟩ := r
    dsimp only [Option.bind_some]
    have e1 : ¬ ((if endOf c = true then ([46] : Bytes) else []) ≠ [] ∧ ((if endOf c = true then ([46] : Bytes) else []) == [46]) = false) := by
      cases endOf c <;> simp
    have e2 : ((if endOf c = true then ([46] : Bytes) else []) == [46]) = endOf c := by cases endOf c <;> rfl
    cases hz : endOf c <;> simp
  | none =>
    dsimp only
    cases hp : Vahypa.patBy (c.length + 1) (bodyOf c ++ (if endOf c = true then ([46] : Bytes) else [])) [] [] with
    | none => rfl
    | some p =>
      obtain ⟨x, vs, t⟩ := p
      obtain ⟨body, e, q⟩ := rb_of_pat _ _ _ _ _ _ _ hp
      dsimp only [Option.bind_some]
      by_cases ht : t ≠ [] ∧ (t == [46]) = false
      · rw [if_pos (.inr (.inr (.inl ht)))]
      · by_cases hx : x.length < 1
        · rw [if_pos (.inl hx)]
        · exfalso
          have ht' : t = [] ∨ t = [46] := by
            by_cases h0 : t = []
            · exact .inl h0
            · right
              cases z : t == [46] with
              | true => simpa using z
              | false => exact absurd ⟨h0, z⟩ ht
          have eb : bodyOf c = body := by
            cases he : endOf c with
            | true =>
              rw [he] at e
              rcases ht' with rfl | rfl
              · exfalso
                have m : (46 : UInt8) ∈ body := by rw [List.append_nil] at e; rw [← e]; simp
                exact rb_bytes _ _ _ _ q _ m rfl
              · simpa using e
            | false =>
              rw [he] at e
              simp only [Bool.false_eq_true, if_false, List.append_nil] at e
              rcases ht' with rfl | rfl
              · simpa using e
              · exfalso
                -- the chunk ends by a point, and has more than one byte
                have hd : c.drop (if frontOf c = true then 1 else 0) = body ++ [46] := by
                  rw [sp, he]; simpa using e
                have hb : body ≠ [] := fun z => by
                  rw [z] at q
                  cases q
                  exact hx (by show 0 < 1; omega)
                have hl : 1 < c.length := by
                  have := congrArg List.length hd
                  rw [List.length_drop, List.length_append] at this
                  have : body.length ≠ 0 := fun z => hb (List.eq_nil_of_length_eq_zero z)
                  simp only [List.length_cons, List.length_nil] at *
                  omega
                have hlast : c.getLastD 0 = 46 := by
                  have hc : c = c.take (if frontOf c = true then 1 else 0) ++ (body ++ [46]) := by rw [← hd, List.take_append_drop]
                  rw [hc, ← List.append_assoc, List.getLastD_concat]
                have : endOf c = true := by
                  unfold endOf
                  rw [hlast, decide_eq_true hl]; rfl
                rw [this] at he
                cases he
          rw [eb] at hr
          rw [List.nil_append, hr] at q
          cases q
/-! ### words -/
def okW : Bool → Bytes → Bool
  | _, [] => true
  | p, b :: r => if isLetter b = true then okW true r else (b == 45) && (p && ((r.head?.map isLetter).getD false && okW false r))
theorem word_by : ∀ (n : Nat) (l x : Bytes) (cs : List Nat) (p : Bool), l.length < n → (p = true ↔ x ≠ [] ∧ cs.contains x.length = false) → (∀ c ∈ cs, c ≤ x.length) →
    (Vahypa.wordBy n l x cs).map (·.x) = if okW p l = true then some (x ++ l.filter isLetter) else none
  | 0, l, x, cs, p, h, _, _ => by omega
  | n + 1, [], x, cs, p, _, _, _ => by simp [Vahypa.wordBy, okW]
  | n + 1, b :: r, x, cs, p, h, hp, hc => by
    have h' : r.length < n := by simp at h; omega
    by_cases hl : isLetter b = true
    · have e1 : Vahypa.wordBy (n + 1) (b :: r) x cs = Vahypa.wordBy n r (x ++ [b]) cs := by
        show (if isLetter b = true then _ else _) = _
        rw [if_pos hl]
      have e2 : okW p (b :: r) = okW true r := by
        show (if isLetter b = true then _ else _) = _
        rw [if_pos hl]
      have ih := word_by n r (x ++ [b]) cs true h' ⟨fun _ => ⟨by simp, by
        rw [List.length_append]
        cases q : cs.contains (x.length + [b].length) with
        | false => rfl
        | true =>
          have m : x.length + 1 ∈ cs := by simpa using q
          have := hc _ m
          omega⟩, fun _ => rfl⟩ (fun c m => by rw [List.length_append]; have := hc c m; omega)
      rw [e1, e2, ih, List.filter_cons, if_pos hl, List.append_assoc]
      rfl
    · have e2 : okW p (b :: r) = ((b == 45) && (p && ((r.head?.map isLetter).getD false && okW false r))) := by
        show (if isLetter b = true then _ else _) = _
        rw [if_neg hl]
      have e3 : (b :: r).filter isLetter = r.filter isLetter := by rw [List.filter_cons, if_neg hl]
      rw [e2, e3]
      by_cases hd : (b == 45) = true ∧ p = true
      · have hd' : (b == 45) = true ∧ x ≠ [] ∧ cs.contains x.length = false := ⟨hd.1, hp.mp hd.2⟩
        rw [hd.1, hd.2, Bool.true_and, Bool.true_and]
        cases r with
        | nil =>
          have e1 : Vahypa.wordBy (n + 1) [b] x cs = none := by
            show (if isLetter b = true then _ else if (b == 45) = true ∧ x ≠ [] ∧ cs.contains x.length = false then none else none) = _
            rw [if_neg hl, if_pos hd']
          rw [e1]; rfl
        | cons c r =>
          have e1 : Vahypa.wordBy (n + 1) (b :: c :: r) x cs = if isLetter c = true then Vahypa.wordBy n (c :: r) x (cs ++ [x.length]) else none := by
            show (if isLetter b = true then _ else if (b == 45) = true ∧ x ≠ [] ∧ cs.contains x.length = false then _ else none) = _
            rw [if_neg hl, if_pos hd']
          rw [e1]
          show _ = if (isLetter c && okW false (c :: r)) = true then _ else _
          by_cases hcl : isLetter c = true
          · have ih := word_by n (c :: r) x (cs ++ [x.length]) false h' ⟨fun z => (by cases z), fun ⟨_, z⟩ => by simp at z⟩ (fun d m => by
              rcases List.mem_append.mp m with m | m
              · exact hc d m
              · rw [List.mem_singleton.mp m]; exact Nat.le_refl _)
            rw [if_pos hcl, ih, hcl, Bool.true_and]
          · rw [if_neg hcl]
            have : isLetter c = false := by simpa using hcl
            rw [this]; rfl
      · have e1 : Vahypa.wordBy (n + 1) (b :: r) x cs = none := by
          show (if isLetter b = true then _ else if (b == 45) = true ∧ x ≠ [] ∧ cs.contains x.length = false then _ else none) = _
          rw [if_neg hl, if_neg (fun z => hd ⟨z.1, hp.mpr z.2⟩)]
        have e4 : ((b == 45) && (p && ((r.head?.map isLetter).getD false && okW false r))) = false := by
          cases q1 : b == 45 with
          | false => rfl
          | true =>
            cases q2 : p with
            | false => rfl
            | true => exact absurd ⟨q1, q2⟩ hd
        rw [e1, e4]; rfl
def adj (l : Bytes) : Bool := (l.zip (l.drop 1)).any fun z => z.1 == 45 && z.2 == 45
def okB (b : UInt8) : Bool := isLetter b || b == 45
theorem letter_45 {b : UInt8} (h : isLetter b = true) : (b == 45) = false := by
  cases e : b == 45 with
  | false => rfl
  | true =>
    have : b = 45 := by simpa using e
    subst this
    exact absurd h (by decide)
theorem okW_eq : ∀ (l : Bytes) (p : Bool), okW p l = (l.all okB && ((p || !(l.head? == some 45)) && (!(l.getLastD 0 == 45) && !adj l)))
  | [], p => by cases p <;> rfl
  | [b], p => by
    show (if isLetter b = true then true else (b == 45) && (p && (false && true))) = _
    cases hl : isLetter b with
    | true => simp [okB, hl, letter_45 hl, adj]
    | false =>
      cases hb : b == 45 with
      | false => simp [okB, hl, hb]
      | true => simp [okB, hl, hb]
  | b :: c :: r, p => by
    have ih1 := okW_eq (c :: r) true
    have ih0 := okW_eq (c :: r) false
    have ea : adj (b :: c :: r) = ((b == 45 && c == 45) || adj (c :: r)) := rfl
    have eL : (b :: c :: r).getLastD 0 = (c :: r).getLastD 0 := rfl
    have eA : (b :: c :: r).all okB = (okB b && (c :: r).all okB) := rfl
    show (if isLetter b = true then okW true (c :: r) else (b == 45) && (p && (isLetter c && okW false (c :: r)))) = _
    rw [ea, eL, eA, ih1, ih0]
    cases hl : isLetter b with
    | true =>
      simp [okB, hl, letter_45 hl]
    | false =>
      cases hb : b == 45 with
      | false => simp [okB, hl, hb]
      | true =>
        have e2 : (c :: r).all okB = (okB c && r.all okB) := rfl
        rw [e2]
        cases hc : isLetter c with
        | true =>
          simp [okB, hl, hb, hc, letter_45 hc]
          try (cases p <;> simp)
          try (cases r.all okB <;> simp)
        | false =>
          cases hc5 : c == 45 with
          | true => simp [okB, hl, hb, hc, hc5]
          | false => simp [okB, hl, hb, hc, hc5]
/-- a word in the program's way -/
def wrdP (c : Bytes) : Option Bytes := if (!(decide (2 ≤ (c.filter isLetter).length) && decide ((c.filter isLetter).length ≤ 16)) || !c.all okB) = true then none
  else if ((c.head? == some 45) || (c.getLastD 0 == 45)) = true then none else if adj c = true then none else some (c.filter isLetter)
theorem wrdP_eq (c : Bytes) : wrdP c = (Vahypa.wordOf c).map (·.x) := by
  have h := word_by (c.length + 1) c [] [] false (Nat.lt_succ_self _) ⟨fun z => (by cases z), fun ⟨z, _⟩ => absurd rfl z⟩ (fun _ m => by cases m)
  rw [List.nil_append, okW_eq] at h
  unfold Vahypa.wordOf wrdP
  cases hw : Vahypa.wordBy (c.length + 1) c [] [] with
  | none =>
    rw [hw] at h
    dsimp only [Option.bind_none, Option.map_none] at h ⊢
    have k : (c.all okB && ((false || !(c.head? == some 45)) && (!(c.getLastD 0 == 45) && !adj c))) = false := by
      cases q : (c.all okB && ((false || !(c.head? == some 45)) && (!(c.getLastD 0 == 45) && !adj c))) with
      | false => rfl
      | true => rw [q, if_pos rfl] at h; cases h
    cases h1 : c.all okB <;> cases h2 : (c.head? == some 45) <;> cases h3 : (c.getLastD 0 == 45) <;> cases h4 : adj c <;> simp_all
  | some w =>
    rw [hw] at h
    dsimp only [Option.bind_some, Option.map_some] at h ⊢
    have k : (c.all okB && ((false || !(c.head? == some 45)) && (!(c.getLastD 0 == 45) && !adj c))) = true := by
      cases q : (c.all okB && ((false || !(c.head? == some 45)) && (!(c.getLastD 0 == 45) && !adj c))) with
      | true => rfl
      | false => rw [q, if_neg Bool.false_ne_true] at h; cases h
    rw [k, if_pos rfl] at h
    have e : w.x = c.filter isLetter := Option.some.inj h
    simp only [Bool.and_eq_true, Bool.false_or, Bool.not_eq_true'] at k
    obtain ⟨k1, k2, k3, k4⟩ := k
    rw [k1, k2, k3, k4, e]
    by_cases hlen : (c.filter isLetter).length < 2 ∨ Vahypa.LETTERS < (c.filter isLetter).length
    · rw [if_pos hlen]
      have : (!(decide (2 ≤ (c.filter isLetter).length) && decide ((c.filter isLetter).length ≤ 16))) = true := by
        rcases hlen with z | z
        · simp; omega
        · have z' : 16 < (c.filter isLetter).length := z
          simp; omega
      rw [this]
      simp
    · rw [if_neg hlen]
      have : (!(decide (2 ≤ (c.filter isLetter).length) && decide ((c.filter isLetter).length ≤ 16))) = false := by
        have z' : ¬ 16 < (c.filter isLetter).length := fun z => hlen (.inr z)
        have z2 : ¬ (c.filter isLetter).length < 2 := fun z => hlen (.inl z)
        simp; omega
      rw [this]
      simp [e]
end Q
/-! Reading a list, in the program's way: tokens by their number. -/
namespace Q
open VahypBase (Bytes PTok Tok Toks Fault isLetter isDigit inChunk isBlank)
open Vahypa (Pat Lst Word)
def tk (ts : List PTok) (n : Nat) : PTok := ts.getD n ⟨0, .last⟩
theorem tk_at {ts : List PTok} {n : Nat} (h : n < ts.length) : ts[n]? = some (tk ts n) := by
  unfold tk
  (rw [List.getD_eq_getElem?_getD, List.getElem?_eq_getElem h]; rfl)
theorem tk_drop {ts : List PTok} {n : Nat} (h : n < ts.length) : ts.drop n = tk ts n :: ts.drop (n + 1) := by
  obtain ⟨_, e⟩ := List.getElem?_eq_some_iff.mp (tk_at h)
  rw [List.drop_eq_getElem_cons h, e]
def TokOk (t : PTok) : Prop := match t.tok with
  | .chunk b => b.length ≤ 40
  | .sign c => c = 59
  | .last => False
/-- a text's tokens -/
structure RdOk (ts : List PTok) : Prop where
  ex : ∃ init p, ts = init ++ [⟨p, .last⟩] ∧ ∀ t ∈ init, TokOk t
  few : ts.length ≤ 9000
theorem RdOk.next {ts : List PTok} {n : Nat} (h : RdOk ts) (hn : n < ts.length) (ht : (tk ts n).tok ≠ .last) : n + 1 < ts.length := by
  obtain ⟨⟨init, p, rfl, hi⟩, _⟩ := h
  rw [List.length_append] at hn ⊢
  simp only [List.length_cons, List.length_nil] at hn ⊢
  rcases Nat.lt_or_ge n init.length with z | z
  · omega
  · exfalso
    have e : n = init.length := by omega
    subst e
    apply ht
    unfold tk
    rw [List.getD_eq_getElem?_getD, List.getElem?_append_right (Nat.le_refl _), Nat.sub_self]; rfl
theorem RdOk.tok {ts : List PTok} {n : Nat} (h : RdOk ts) (hn : n < ts.length) (ht : (tk ts n).tok ≠ .last) : TokOk (tk ts n) := by
  obtain ⟨⟨init, p, rfl, hi⟩, _⟩ := h
  have h1 := tk_at hn
  rcases Nat.lt_or_ge n init.length with z | z
  · rw [List.getElem?_append_left z] at h1
    exact hi _ (List.mem_of_getElem? h1)
  · exfalso
    rw [List.getElem?_append_right z] at h1
    have h2 := List.mem_of_getElem? h1
    rw [List.mem_singleton.mp h2] at ht
    exact ht rfl
theorem token_ok {l : Bytes} {x : Tok × Nat} (h : VahypBase.token l = some x) (n : Nat) : TokOk ⟨n, x.1⟩ := by
  cases l with
  | nil => cases h
  | cons b r =>
    unfold VahypBase.token at h
    dsimp only at h
    split at h
    · split at h
      · cases h
      · rename_i h2
        cases h
        have h3 : ¬ 40 < ((b :: r).takeWhile inChunk).length := h2
        show ((b :: r).takeWhile inChunk).length ≤ 40
        omega
    · split at h
      · cases h; rfl
      · cases h
theorem lex_ok : ∀ (k n : Nat) (l : Bytes) (ts : List PTok), VahypBase.lex k n l = .ok ts → ∃ init p, ts = init ++ [⟨p, .last⟩] ∧ (∀ t ∈ init, TokOk t) ∧ init.length ≤ k
  | 0, n, l, ts, h => by
    cases h
    exact ⟨[], n, rfl, fun _ z => (by cases z), Nat.le_refl _⟩
  | k + 1, n, [], ts, h => by
    cases h
    exact ⟨[], n, rfl, fun _ z => (by cases z), Nat.zero_le _⟩
  | k + 1, n, b :: r, ts, h => by
    unfold VahypBase.lex at h
    split at h
    · obtain ⟨i, p, a, c, d⟩ := lex_ok k _ _ ts h
      exact ⟨i, p, a, c, by omega⟩
    · split at h
      · obtain ⟨i, p, a, c, d⟩ := lex_ok k _ _ ts h
        exact ⟨i, p, a, c, by omega⟩
      · cases ht : VahypBase.token (b :: r) with
        | none => (rw [ht] at h; cases h)
        | some x =>
          rw [ht] at h
          dsimp only at h
          cases hl : VahypBase.lex k (n + x.2) ((b :: r).drop x.2) with
          | error f => rw [hl] at h; cases h
          | ok us =>
            rw [hl] at h
            cases h
            obtain ⟨i, p, a, c, d⟩ := lex_ok k _ _ us hl
            refine ⟨⟨n, x.1⟩ :: i, p, by rw [a]; rfl, fun t z => ?_, by simp; omega⟩
            rcases List.mem_cons.mp z with rfl | z
            · exact token_ok ht n
            · exact c t z
theorem tokens_ok {bs : Bytes} {ts : List PTok} (h : VahypBase.tokens bs = .ok ts) : RdOk ts := by
  unfold VahypBase.tokens at h
  split at h
  · cases h
  · rename_i h2
    have h3 : ¬ 4096 < bs.length := h2
    obtain ⟨i, p, a, c, d⟩ := lex_ok _ _ _ _ h
    refine ⟨⟨i, p, a, c⟩, ?_⟩
    rw [a, List.length_append]
    (simp only [List.length_cons, List.length_nil])
    omega
/-! ### steps -/
abbrev faultAt (ts : List PTok) (n c : Nat) : Fault := ⟨c, (tk ts n).place⟩
def takeR (ts : List PTok) (n : Nat) (b : Bool) : Except Fault Nat := if b = true then .ok (n + 1) else .error (faultAt ts n 3)
def isStop (t : PTok) : Bool := match t.tok with
  | .sign _ => true
  | _ => false
def isLast (t : PTok) : Bool := match t.tok with
  | .last => true
  | _ => false
def isChunk (t : PTok) : Bool := match t.tok with
  | .chunk _ => true
  | _ => false
def tby (t : PTok) : Bytes := match t.tok with
  | .chunk b => b
  | _ => []
def nextW (ts : List PTok) (n : Nat) (wd : Bytes) : Bool := isChunk (tk ts n) && decide (tby (tk ts n) = wd)
theorem here_at {ts : List PTok} {n : Nat} (h : n < ts.length) : VahypBase.here (ts.drop n) = (tk ts n).place := by rw [tk_drop h]; rfl
theorem nextW_eq {ts : List PTok} {n : Nat} (h : n < ts.length) (wd : Bytes) : VahypBase.next (.chunk wd) (ts.drop n) = nextW ts n wd := by
  rw [tk_drop h]
  unfold VahypBase.next nextW isChunk tby
  dsimp only
  cases (tk ts n).tok with
  | chunk b =>
    show (b == wd) = (true && decide (b = wd))
    rw [Bool.true_and, Bool.eq_iff_iff]
    simp
  | sign c => rfl
  | last => rfl
theorem stop_eq {ts : List PTok} {n : Nat} (R : RdOk ts) (h : n < ts.length) : VahypBase.takeSign 59 (ts.drop n) = (takeR ts n (isStop (tk ts n))).map (ts.drop ·) := by
  unfold VahypBase.takeSign VahypBase.taken takeR VahypBase.wrong
  rw [here_at h]
  have e : VahypBase.next (.sign 59) (ts.drop n) = isStop (tk ts n) := by
    rw [tk_drop h]
    have ok := R.tok h
    unfold VahypBase.next isStop
    unfold TokOk at ok
    dsimp only
    cases q : (tk ts n).tok with
    | chunk b => rfl
    | sign c =>
      rw [q] at ok
      have : c = 59 := ok fun z => nomatch z
      subst this; rfl
    | last => rfl
  rw [e, List.drop_drop]
  cases isStop (tk ts n) <;> rfl
theorem word_eq {ts : List PTok} {n : Nat} (h : n < ts.length) (s : String) : VahypBase.takeWord s (ts.drop n) = (takeR ts n (nextW ts n (VahypBase.word s))).map (ts.drop ·) := by
  unfold VahypBase.takeWord VahypBase.taken takeR VahypBase.wrong
  rw [here_at h, nextW_eq h, List.drop_drop]
  cases nextW ts n (VahypBase.word s) <;> rfl
def chunkR (ts : List PTok) (n : Nat) : Except Fault Bytes := if isChunk (tk ts n) = true then .ok (tby (tk ts n)) else .error (faultAt ts n 3)
theorem chunk_eq' {ts : List PTok} {n : Nat} (h : n < ts.length) : VahypBase.takeChunk (ts.drop n) = (chunkR ts n).map fun b => ((tk ts n).place, b, ts.drop (n + 1)) := by
  unfold chunkR
  rw [tk_drop h]
  unfold isChunk tby VahypBase.takeChunk VahypBase.wrong VahypBase.here faultAt
  generalize tk ts n = t
  obtain ⟨p, t⟩ := t
  cases t <;> rfl
theorem chunk_not_last {ts : List PTok} {n : Nat} (h : isChunk (tk ts n) = true) : (tk ts n).tok ≠ .last := fun z => by
  unfold isChunk at h
  rw [z] at h
  cases h
theorem stop_not_last {ts : List PTok} {n : Nat} (h : isStop (tk ts n) = true) : (tk ts n).tok ≠ .last := fun z => by
  unfold isStop at h
  rw [z] at h
  cases h
def marginOf (b : Bytes) : Option Nat := match b with
  | [d] => if isDigit d = true ∧ d.toNat - 48 ≤ 5 then some (d.toNat - 48) else none
  | _ => none
def marginR (ts : List PTok) (n : Nat) : Except Fault (Nat × Nat) := (chunkR ts n).bind fun b => match marginOf b with
  | some v => .ok (v, n + 1)
  | none => .error (faultAt ts n 7)
theorem margin_eq {ts : List PTok} {n : Nat} (h : n < ts.length) : Vahypa.takeMargin (ts.drop n) = (marginR ts n).map fun x => (x.1, ts.drop x.2) := by
  unfold Vahypa.takeMargin marginR
  rw [chunk_eq' h]
  cases chunkR ts n with
  | error f => rfl
  | ok b =>
    show (match b with
      | [b] => if isDigit b = true ∧ b.toNat - 48 ≤ Vahypa.MARGIN then Except.ok (b.toNat - 48, ts.drop (n + 1)) else Except.error ⟨7, (tk ts n).place⟩
      | _ => Except.error ⟨7, (tk ts n).place⟩) = Except.map _ (match marginOf b with
        | some v => .ok (v, n + 1)
        | none => .error (faultAt ts n 7))
    unfold marginOf
    match b with
    | [] => rfl
    | [d] =>
      dsimp only
      by_cases hd : isDigit d = true ∧ d.toNat - 48 ≤ 5
      · rw [if_pos hd, if_pos (show isDigit d = true ∧ d.toNat - 48 ≤ Vahypa.MARGIN from hd)]; rfl
      · rw [if_neg hd, if_neg (show ¬ (isDigit d = true ∧ d.toNat - 48 ≤ Vahypa.MARGIN) from hd)]; rfl
    | a :: b :: r => rfl
def wordR (ts : List PTok) (n : Nat) (others : List Bytes) : Except Fault (Bytes × Nat) := (chunkR ts n).bind fun b => match wrdP b with
  | none => .error (faultAt ts n 7)
  | some x => if decide (x ∈ others) = true then .error (faultAt ts n 5) else (takeR ts (n + 1) (isStop (tk ts (n + 1)))).map fun m => (x, m)
def placeOf (ps : List Pat) (sg : List Nat) : Option Nat := ps.findIdx? fun p => decide (Vahypd.signsOf p = sg)
def patR (ts : List PTok) (n : Nat) (others : List Pat) : Except Fault (Pat × Nat) := (chunkR ts n).bind fun b => match Vahypa.patOf b with
  | none => .error (faultAt ts n 7)
  | some p => if (placeOf others (Vahypd.signsOf p)).isSome = true then .error (faultAt ts n 5) else (takeR ts (n + 1) (isStop (tk ts (n + 1)))).map fun m => (p, m)
/-! ### words, patterns -/
theorem words_step {ts : List PTok} {n k : Nat} {ws : List Word} (R : RdOk ts) (h : n < ts.length) (hw : nextW ts n (VahypBase.word "word") = true) :
    (24 ≤ ws.length → Vahypa.takeWords (k + 1) ws (ts.drop n) = .error (faultAt ts n 4)) ∧
    (ws.length < 24 → (∀ f, wordR ts (n + 1) (ws.map (·.x)) = .error f → Vahypa.takeWords (k + 1) ws (ts.drop n) = .error f) ∧
      (∀ x m, wordR ts (n + 1) (ws.map (·.x)) = .ok (x, m) → ∃ w : Word, w.x = x ∧ m = n + 3 ∧ m < ts.length ∧ Vahypa.takeWords (k + 1) ws (ts.drop n) = Vahypa.takeWords k (ws ++ [w]) (ts.drop m))) := by
  have hc : isChunk (tk ts n) = true := by
    unfold nextW at hw
    rw [Bool.and_eq_true] at hw
    exact hw.1
  have h1 := R.next h (chunk_not_last hc)
  have e0 : Vahypa.takeWords (k + 1) ws (ts.drop n) = if 24 ≤ ws.length then .error (faultAt ts n 4) else (VahypBase.takeChunk (ts.drop (n + 1))).bind fun x => match Vahypa.wordOf x.2.1 with
      | none => .error (⟨7, x.1⟩ : Fault)
      | some w => if ws.any (fun v => v.x == w.x) = true then .error (⟨5, x.1⟩ : Fault) else (VahypBase.takeSign 59 x.2.2).bind fun m => Vahypa.takeWords k (ws ++ [w]) m := by
    show (if VahypBase.nextWord "word" (ts.drop n) = true then _ else _) = _
    rw [show VahypBase.nextWord "word" (ts.drop n) = true from (nextW_eq h _).trans hw, if_pos rfl]
    show (if 24 ≤ ws.length then Except.error (⟨4, VahypBase.here (ts.drop n)⟩ : Fault) else _) = _
    rw [here_at h, List.drop_drop]
    rfl
  refine ⟨fun z => by rw [e0, if_pos z], fun z => ?_⟩
  rw [e0, if_neg (by omega), chunk_eq' h1]
  unfold wordR
  have anyE : ∀ w : Word, (ws.any fun v => v.x == w.x) = decide (w.x ∈ ws.map (·.x)) := fun w => by
    rw [Bool.eq_iff_iff, List.any_eq_true, decide_eq_true_eq, List.mem_map]
    constructor
    · rintro ⟨v, hv, e⟩; exact ⟨v, hv, by simpa using e⟩
    · rintro ⟨v, hv, e⟩; exact ⟨v, hv, by simpa using e⟩
  cases hch : chunkR ts (n + 1) with
  | error f => exact ⟨fun g hg => (by cases hg; rfl), fun x m hx => (by cases hx)⟩
  | ok b =>
    have hc1 : isChunk (tk ts (n + 1)) = true := by
      unfold chunkR at hch
      split at hch
      · assumption
      · cases hch
    have h2 := R.next h1 (chunk_not_last hc1)
    dsimp only [Except.map, Except.bind]
    rw [wrdP_eq]
    cases hwo : Vahypa.wordOf b with
    | none => exact ⟨fun g hg => (by cases hg; rfl), fun x m hx => (by cases hx)⟩
    | some w =>
      dsimp only [Option.map_some]
      rw [anyE w]
      by_cases hin : w.x ∈ ws.map (·.x)
      · rw [decide_eq_true hin]
        exact ⟨fun g hg => (by cases hg; rfl), fun x m hx => (by cases hx)⟩
      · rw [decide_eq_false hin, stop_eq R h2]
        (simp only [Bool.false_eq_true, if_false])
        unfold takeR
        cases hs : isStop (tk ts (n + 1 + 1)) with
        | false => exact ⟨fun g hg => (by cases hg; rfl), fun x m hx => (by cases hx)⟩
        | true =>
          refine ⟨fun g hg => (by cases hg), fun x m hx => ?_⟩
          cases hx
          exact ⟨w, rfl, rfl, R.next h2 (stop_not_last hs), rfl⟩
theorem words_end {ts : List PTok} {n k : Nat} {ws : List Word} (h : n < ts.length) (hw : nextW ts n (VahypBase.word "word") = false) : Vahypa.takeWords (k + 1) ws (ts.drop n) = .ok (ws, ts.drop n) := by
  show (if VahypBase.nextWord "word" (ts.drop n) = true then _ else _) = _
  rw [show VahypBase.nextWord "word" (ts.drop n) = false from (nextW_eq h _).trans hw]
  rfl
theorem byte_zero {b : UInt8} (h : isLetter b = true) : b.toNat ≠ 0 := by
  unfold isLetter at h
  (simp only [decide_eq_true_eq] at h)
  omega
theorem toNat_inj {l m : Bytes} (h : l.map (fun b => b.toNat) = m.map fun b => b.toNat) : l = m := by
  induction l generalizing m with
  | nil =>
    cases m with
    | nil => rfl
    | cons a r => cases h
  | cons a r ih =>
    cases m with
    | nil => cases h
    | cons b s =>
      (rw [List.map_cons, List.map_cons] at h)
      have h1 := List.cons.inj h
      rw [UInt8.toNat_inj.mp h1.1, ih h1.2]
/-- of letters alone -/
def LettersOk (x : Bytes) : Prop := ∀ b ∈ x, isLetter b = true
theorem tail_inj {l m : Bytes} (hl : LettersOk l) (hm : LettersOk m) {e f : Bool} (h : l.map (fun b => b.toNat) ++ (if e = true then [0] else []) = m.map (fun b => b.toNat) ++ (if f = true then [0] else [])) : l = m ∧ e = f := by
  induction l generalizing m with
  | nil =>
    cases m with
    | nil => cases e <;> cases f <;> simp_all
    | cons b s =>
      exfalso
      have hb := byte_zero (hm b (List.mem_cons_self ..))
      cases e with
      | false => cases h
      | true =>
        have h1 := (List.cons.inj h).1
        exact hb h1.symm
  | cons a r ih =>
    have ha := byte_zero (hl a (List.mem_cons_self ..))
    cases m with
    | nil =>
      exfalso
      cases f with
      | false => cases h
      | true =>
        have h1 := (List.cons.inj h).1
        exact ha h1
    | cons b s =>
      have h1 := List.cons.inj h
      obtain ⟨h2, h3⟩ := ih (fun b z => hl b (List.mem_cons_of_mem _ z)) (fun b z => hm b (List.mem_cons_of_mem _ z)) h1.2
      exact ⟨by rw [UInt8.toNat_inj.mp h1.1, h2], h3⟩
def PatL (p : Pat) : Prop := LettersOk p.x ∧ p.x ≠ []
theorem signs_inj {p q : Pat} (hp : PatL p) (hq : PatL q) (h : Vahypd.signsOf p = Vahypd.signsOf q) : p.x = q.x ∧ p.front = q.front ∧ p.halt_ = q.halt_ := by
  unfold Vahypd.signsOf at h
  obtain ⟨a, l, ea⟩ := List.exists_cons_of_ne_nil hp.2
  obtain ⟨b, m, eb⟩ := List.exists_cons_of_ne_nil hq.2
  have ha : a.toNat ≠ 0 := byte_zero (hp.1 a (by rw [ea]; exact List.mem_cons_self ..))
  have hb : b.toNat ≠ 0 := byte_zero (hq.1 b (by rw [eb]; exact List.mem_cons_self ..))
  have hf : p.front = q.front := by
    cases h1 : p.front <;> cases h2 : q.front
    · rfl
    · exfalso; rw [h1, h2, ea] at h
      exact ha (List.cons.inj h).1
    · exfalso; rw [h1, h2, eb] at h
      exact hb (List.cons.inj h).1.symm
    · rfl
  rw [hf] at h
  have h3 := List.append_cancel_left h
  obtain ⟨h4, h5⟩ := tail_inj hp.1 hq.1 h3
  exact ⟨h4, hf, h5⟩
theorem signs_eq_iff {p q : Pat} (hp : PatL p) (hq : PatL q) : decide (Vahypd.signsOf q = Vahypd.signsOf p) = (q.x == p.x && (q.front == p.front && q.halt_ == p.halt_)) := by
  rw [Bool.eq_iff_iff]
  simp only [decide_eq_true_eq, Bool.and_eq_true, beq_iff_eq]
  constructor
  · intro h
    obtain ⟨a, b, c⟩ := signs_inj hq hp h
    exact ⟨a, b, c⟩
  · rintro ⟨a, b, c⟩
    unfold Vahypd.signsOf
    rw [a, b, c]
theorem rb_letters : ∀ (l x : Bytes) (vs : List Nat) (r : Bytes × List Nat), LettersOk x → rb l x vs = some r → LettersOk r.1
  | [], x, vs, r, h, e => by cases e; exact h
  | b :: l, x, vs, r, h, e => by
    unfold rb at e
    split at e
    · rename_i hb
      exact rb_letters l _ _ r (fun c z => by
        rcases List.mem_append.mp z with z | z
        · exact h c z
        · rw [List.mem_singleton.mp z]; exact hb) e
    · split at e
      · exact rb_letters l _ _ r h e
      · cases e
theorem patL_of {c : Bytes} {p : Pat} (h : Vahypa.patOf c = some p) : PatL p := by
  rw [← patP_eq] at h
  unfold patP' at h
  cases hr : rb (bodyOf c) [] [0] with
  | none => rw [hr] at h; cases h
  | some r =>
    obtain ⟨x, vs⟩ := r
    rw [hr] at h
    dsimp only at h
    split at h
    · cases h
    · rename_i hn
      cases h
      refine ⟨rb_letters _ _ _ _ (fun _ z => by cases z) hr, fun z => hn (.inl ?_)⟩
      have z' : x = [] := z
      rw [z']; decide
theorem pats_same (ps : List Pat) {c : Bytes} {p : Pat} (hps : ∀ q ∈ ps, PatL q) (h : Vahypa.patOf c = some p) : (ps.any fun q => q.x == p.x && (q.front == p.front && q.halt_ == p.halt_)) = (placeOf ps (Vahypd.signsOf p)).isSome := by
  unfold placeOf
  have hp := patL_of h
  induction ps with
  | nil => rfl
  | cons q r ih =>
    rw [List.any_cons, List.findIdx?_cons, ← signs_eq_iff hp (hps q (List.mem_cons_self ..)), ih fun q' z => hps q' (List.mem_cons_of_mem _ z)]
    cases decide (Vahypd.signsOf q = Vahypd.signsOf p) with
    | true => rfl
    | false =>
      simp only [Bool.false_or, Bool.false_eq_true, if_false]
      rw [Option.isSome_map]
theorem pats_step {ts : List PTok} {n k : Nat} {ps : List Pat} (hps : ∀ q ∈ ps, PatL q) (R : RdOk ts) (h : n < ts.length) (hw : nextW ts n (VahypBase.word "pattern") = true) :
    (40 ≤ ps.length → Vahypa.takePats (k + 1) ps (ts.drop n) = .error (faultAt ts n 4)) ∧
    (ps.length < 40 → (∀ f, patR ts (n + 1) ps = .error f → Vahypa.takePats (k + 1) ps (ts.drop n) = .error f) ∧
      (∀ p m, patR ts (n + 1) ps = .ok (p, m) → (placeOf ps (Vahypd.signsOf p)).isSome = false ∧ (∃ c, Vahypa.patOf c = some p) ∧ m = n + 3 ∧ m < ts.length ∧ Vahypa.takePats (k + 1) ps (ts.drop n) = Vahypa.takePats k (ps ++ [p]) (ts.drop m))) := by
  have hc : isChunk (tk ts n) = true := by
    unfold nextW at hw
    rw [Bool.and_eq_true] at hw
    exact hw.1
  have h1 := R.next h (chunk_not_last hc)
  have hnl : VahypBase.next .last (ts.drop n) = false := by
    rw [tk_drop h]
    have := chunk_not_last hc
    unfold VahypBase.next
    dsimp only
    cases q : (tk ts n).tok with
    | chunk b => rfl
    | sign c => rfl
    | last => exact absurd q this
  have e0 : Vahypa.takePats (k + 1) ps (ts.drop n) = if 40 ≤ ps.length then .error (faultAt ts n 4) else (VahypBase.takeChunk (ts.drop (n + 1))).bind fun x => match Vahypa.patOf x.2.1 with
      | none => .error (⟨7, x.1⟩ : Fault)
      | some p => if ps.any (fun q => q.x == p.x && (q.front == p.front && q.halt_ == p.halt_)) = true then .error (⟨5, x.1⟩ : Fault) else (VahypBase.takeSign 59 x.2.2).bind fun m => Vahypa.takePats k (ps ++ [p]) m := by
    show (if VahypBase.next .last (ts.drop n) = true then _ else (VahypBase.takeWord "pattern" (ts.drop n)).bind fun m => if 40 ≤ ps.length then Except.error (⟨4, VahypBase.here (ts.drop n)⟩ : Fault) else _) = _
    rw [hnl, word_eq h, hw]
    show (if 40 ≤ ps.length then Except.error (⟨4, VahypBase.here (ts.drop n)⟩ : Fault) else _) = _
    rw [here_at h]; rfl
  refine ⟨fun z => by rw [e0, if_pos z], fun z => ?_⟩
  rw [e0, if_neg (by omega), chunk_eq' h1]
  unfold patR
  cases hch : chunkR ts (n + 1) with
  | error f => exact ⟨fun g hg => (by cases hg; rfl), fun x m hx => (by cases hx)⟩
  | ok b =>
    have hc1 : isChunk (tk ts (n + 1)) = true := by
      unfold chunkR at hch
      split at hch
      · assumption
      · cases hch
    have h2 := R.next h1 (chunk_not_last hc1)
    dsimp only [Except.map, Except.bind]
    cases hwo : Vahypa.patOf b with
    | none => exact ⟨fun g hg => (by cases hg; rfl), fun x m hx => (by cases hx)⟩
    | some p =>
      dsimp only
      have anyE : (ps.any fun q => q.x == p.x && (q.front == p.front && q.halt_ == p.halt_)) = (placeOf ps (Vahypd.signsOf p)).isSome := pats_same ps hps hwo
      rw [anyE]
      cases hin : (placeOf ps (Vahypd.signsOf p)).isSome with
      | true => exact ⟨fun g hg => (by cases hg; rfl), fun x m hx => (by cases hx)⟩
      | false =>
        rw [stop_eq R h2]
        (simp only [Bool.false_eq_true, if_false])
        unfold takeR
        cases hs : isStop (tk ts (n + 1 + 1)) with
        | false => exact ⟨fun g hg => (by cases hg; rfl), fun x m hx => (by cases hx)⟩
        | true =>
          refine ⟨fun g hg => (by cases hg), fun x m hx => ?_⟩
          cases hx
          exact ⟨hin, ⟨b, hwo⟩, rfl, R.next h2 (stop_not_last hs), rfl⟩
theorem pats_end {ts : List PTok} {n k : Nat} {ps : List Pat} (R : RdOk ts) (h : n < ts.length) (hw : nextW ts n (VahypBase.word "pattern") = false) : Vahypa.takePats (k + 1) ps (ts.drop n) = if isLast (tk ts n) = true then .ok ps else .error (faultAt ts n 3) := by
  show (if VahypBase.next .last (ts.drop n) = true then _ else (VahypBase.takeWord "pattern" (ts.drop n)).bind _) = _
  rw [word_eq h, hw]
  have e : VahypBase.next .last (ts.drop n) = isLast (tk ts n) := by
    rw [tk_drop h]
    unfold VahypBase.next isLast
    dsimp only
    cases (tk ts n).tok <;> rfl
  rw [e]
  rfl
end Q
/-! Calls of what is built in, by data. -/
namespace Q
open L2 PySem PySem.Spec PyProof.Rows
def cs_new {Ps : List VP} {G H : Hp} {Q : VK} {xs : List V} {p : Addr} (s : Same G H) (h : AllP Ps xs G) (hp : H p = none) (z : ∀ v G' H', Gw [] G H G' H' → (isT Ps).p v G' → Q v H') : Q (.ref p) (upd H p (.tup xs)) := z _ _ _ (Gw.new s hp) ⟨p, xs, rfl, upd_same, allP_up (Gw.new (M := []) s hp).g h⟩
def cs_newL {Ps : List VP} {G H : Hp} {Q : VK} {xs : List V} {p : Addr} (s : Same G H) (h : AllP Ps xs G) (hp : H p = none) (z : ∀ v G' H', Gw [] G H G' H' → (isL Ps).p v G' → Q v H') : Q (.ref p) (upd H p (.lst xs)) := z _ _ _ (Gw.new s hp) ⟨p, xs, rfl, upd_same, allP_up (Gw.new (M := []) s hp).g h⟩
theorem allP_map {α : Type} {f : α → V} : ∀ {l : List α} {xs : List V} {G : Hp}, AllP (l.map fun a => isV (f a)) xs G → xs = l.map f
  | [], _, _, .nil => rfl
  | a :: r, _, _, .cons q t => by
    have e : _ = f a := q
    rw [allP_map t, e]; rfl
section
variable {X : Cx} {fr : Prop} {A A' A1 : As} {B : Bs} {Γ Γ2 : List Sl} {Ps Rs : List VP} {e a b : Expr} {pos p : Pos} {k : Bool} {i j : Int}
/-- tuple(xs), xs a list -/
theorem e_tupleL (hm : X.mg "tuple" = none) (h : Je fr X A e (isL Ps) A1) (hg : Gl X "tuple" := by rfl) (he : starEach [e] X.env = (false, eval e X.env) :: starEach [] X.env := by rfl) (hpl : (backTo pos (starEach [] X.env)).any (·.1) = false := by rfl) : Je fr X A (.Call (.Name "tuple" p) [e] [] pos) (isT Ps) A1 :=
  e_callTy call_tuple_of hm (a_one h he) (fun vs G H Q s r z => by
    obtain ⟨v, rfl, l, xs, rfl, e2, e3⟩ := paired_one r
    exact ⟨l, xs, rfl, .inl ⟨SqL.of (s _ _ e2), fun q hq => cs_new s e3 hq z⟩⟩) (by decide +kernel) hg (by decide) (by decide) he hpl
/-- list(xs), xs a list, a tuple -/
theorem e_listL (hm : X.mg "list" = none) (h : Je fr X A e (isL Ps) A1) (hg : Gl X "list" := by rfl) (he : starEach [e] X.env = (false, eval e X.env) :: starEach [] X.env := by rfl) (hpl : (backTo pos (starEach [] X.env)).any (·.1) = false := by rfl) : Je fr X A (.Call (.Name "list" p) [e] [] pos) (isL Ps) A1 :=
  e_callTy call_list_of hm (a_one h he) (fun vs G H Q s r z => by
    obtain ⟨v, rfl, l, xs, rfl, e2, e3⟩ := paired_one r
    exact ⟨l, xs, rfl, .inl (SqL.of (s _ _ e2)), fun q hq => cs_newL s e3 hq z⟩) (by decide +kernel) hg (by decide) (by decide) he hpl
theorem e_listT (hm : X.mg "list" = none) (h : Je fr X A e (isT Ps) A1) (hg : Gl X "list" := by rfl) (he : starEach [e] X.env = (false, eval e X.env) :: starEach [] X.env := by rfl) (hpl : (backTo pos (starEach [] X.env)).any (·.1) = false := by rfl) : Je fr X A (.Call (.Name "list" p) [e] [] pos) (isL Ps) A1 :=
  e_callTy call_list_of hm (a_one h he) (fun vs G H Q s r z => by
    obtain ⟨v, rfl, l, xs, rfl, e2, e3⟩ := paired_one r
    exact ⟨l, xs, rfl, .inr (SqT.of (s _ _ e2)), fun q hq => cs_newL s e3 hq z⟩) (by decide +kernel) hg (by decide) (by decide) he hpl
/-- a list of ours: list(xs) -/
theorem l_listL (hm : X.mg "list" = none) (h : Je fr X A e (isL Ps) A1) (hg : Gl X "list" := by rfl) (he : starEach [e] X.env = (false, eval e X.env) :: starEach [] X.env := by rfl) (hpl : (backTo pos (starEach [] X.env)).any (·.1) = false := by rfl) : Jl fr X A (.Call (.Name "list" p) [e] [] pos) Ps A1 :=
  pe_imp (pe_callTy call_list_of hg hm (by decide +kernel) (a_one h he) (by decide) (by decide) he hpl) fun σ H Q ⟨G, s, a, q⟩ => ⟨G, s, a, fun vs G1 H1 p1 r => by
    obtain ⟨v, rfl, l, xs, rfl, e2, e3⟩ := paired_one r
    exact ⟨l, xs, rfl, .inl (SqL.of (p1.i _ _ e2)), fun l' hl => q l' xs G1 H1 p1 hl e3⟩⟩
/-- int(b) -/
theorem e_intB (hm : X.mg "int" = none) (h : Je fr X A e (isB k) A1) (hg : Gl X "int" := by rfl) (he : starEach [e] X.env = (false, eval e X.env) :: starEach [] X.env := by rfl) (hpl : (backTo pos (starEach [] X.env)).any (·.1) = false := by rfl) : Je fr X A (.Call (.Name "int" p) [e] [] pos) (isI (if k = true then 1 else 0)) A1 :=
  e_callTy call_int1 hm (a_one h he) (.at fun vs G H Q s r z => by
    obtain ⟨v, rfl, e1⟩ := paired_one r
    have e1' : v = .bl k := e1
    subst e1'
    exact .inr ⟨k, rfl, z _ rfl⟩) (by decide +kernel) hg (by decide) (by decide) he hpl
theorem e_max2 (hc : X.calm = true) (hm : X.mg "max" = none) (h : Ja fr X A [a, b] [isI i, isI j] A1) (hg : Gl X "max" := by rfl) (he : starEach [a, b] X.env = (false, eval a X.env) :: starEach [b] X.env := by rfl) (hpl : (backTo pos (starEach [b] X.env)).any (·.1) = false := by rfl) : Je fr X A (.Call (.Name "max" p) [a, b] [] pos) (isI (if j > i then j else i)) A1 :=
  e_callB (call_max2 hc) hm h (.at fun vs G H Q s r z => by
    obtain ⟨v, w, rfl, e1, e2⟩ := paired_two r
    have e1' : v = .int i := e1
    have e2' : w = .int j := e2
    subst e1' e2'
    exact ⟨i, j, rfl, z _ rfl⟩) (by decide +kernel) hg (by decide) (by decide) he hpl
theorem e_min2 (hc : X.calm = true) (hm : X.mg "min" = none) (h : Ja fr X A [a, b] [isI i, isI j] A1) (hg : Gl X "min" := by rfl) (he : starEach [a, b] X.env = (false, eval a X.env) :: starEach [b] X.env := by rfl) (hpl : (backTo pos (starEach [b] X.env)).any (·.1) = false := by rfl) : Je fr X A (.Call (.Name "min" p) [a, b] [] pos) (isI (if j < i then j else i)) A1 :=
  e_callB (call_min2 hc) hm h (.at fun vs G H Q s r z => by
    obtain ⟨v, w, rfl, e1, e2⟩ := paired_two r
    have e1' : v = .int i := e1
    have e2' : w = .int j := e2
    subst e1' e2'
    exact ⟨i, j, rfl, z _ rfl⟩) (by decide +kernel) hg (by decide) (by decide) he hpl
theorem e_maxT {n : Int} {ns : List Int} (hc : X.calm = true) {m : Nat} (hr : Room m X.A) (hm : X.mg "max" = none) (h : Je fr X A e (isT ((n :: ns).map fun i => isI i)) A1) (hg : Gl X "max" := by rfl) (he : starEach [e] X.env = (false, eval e X.env) :: starEach [] X.env := by rfl) (hpl : (backTo pos (starEach [] X.env)).any (·.1) = false := by rfl) : Je fr X A (.Call (.Name "max" p) [e] [] pos) (isI (ns.foldl max n)) A1 :=
  e_callB (cr_maxT hc (by have := hr.units; omega)) hm (a_one h he) (.at fun vs G H Q s r z => by
    obtain ⟨v, rfl, l, xs, rfl, e2, e3⟩ := paired_one r
    have ex : xs = (n :: ns).map V.int := allP_map e3
    subst ex
    exact ⟨l, n, ns, rfl, SqT.of (s _ _ e2), z _ rfl⟩) (by decide +kernel) hg (by decide) (by decide) he hpl
theorem e_sum {ns : List Int} (hc : X.calm = true) (hm : X.mg "sum" = none) (h : Je fr X A e (isL (ns.map fun i => isI i)) A1) (hg : Gl X "sum" := by rfl) (he : starEach [e] X.env = (false, eval e X.env) :: starEach [] X.env := by rfl) (hpl : (backTo pos (starEach [] X.env)).any (·.1) = false := by rfl) : Je fr X A (.Call (.Name "sum" p) [e] [] pos) (isI ns.sum) A1 :=
  e_callB (cr_sum hc) hm (a_one h he) (.at fun vs G H Q s r z => by
    obtain ⟨v, rfl, l, xs, rfl, e2, e3⟩ := paired_one r
    have ex : xs = ns.map V.int := allP_map e3
    subst ex
    exact ⟨l, ns, rfl, SqL.of (s _ _ e2), z _ rfl⟩) (by decide +kernel) hg (by decide) (by decide) he hpl
theorem e_any {bs : List Bool} (hc : X.calm = true) (hm : X.mg "any" = none) (h : Je fr X A e (isL (bs.map fun b => isB b)) A1) (hg : Gl X "any" := by rfl) (he : starEach [e] X.env = (false, eval e X.env) :: starEach [] X.env := by rfl) (hpl : (backTo pos (starEach [] X.env)).any (·.1) = false := by rfl) : Je fr X A (.Call (.Name "any" p) [e] [] pos) (isB (bs.any id)) A1 :=
  e_callB (cr_any hc) hm (a_one h he) (.at fun vs G H Q s r z => by
    obtain ⟨v, rfl, l, xs, rfl, e2, e3⟩ := paired_one r
    have ex : xs = bs.map V.bl := allP_map e3
    subst ex
    exact ⟨l, bs, rfl, SqL.of (s _ _ e2), z _ rfl⟩) (by decide +kernel) hg (by decide) (by decide) he hpl
theorem e_all {bs : List Bool} (hc : X.calm = true) (hm : X.mg "all" = none) (h : Je fr X A e (isL (bs.map fun b => isB b)) A1) (hg : Gl X "all" := by rfl) (he : starEach [e] X.env = (false, eval e X.env) :: starEach [] X.env := by rfl) (hpl : (backTo pos (starEach [] X.env)).any (·.1) = false := by rfl) : Je fr X A (.Call (.Name "all" p) [e] [] pos) (isB (bs.all id)) A1 :=
  e_callB (cr_all hc) hm (a_one h he) (.at fun vs G H Q s r z => by
    obtain ⟨v, rfl, l, xs, rfl, e2, e3⟩ := paired_one r
    have ex : xs = bs.map V.bl := allP_map e3
    subst ex
    exact ⟨l, bs, rfl, SqL.of (s _ _ e2), z _ rfl⟩) (by decide +kernel) hg (by decide) (by decide) he hpl
/-- ord(c) -/
theorem e_ord {c : Nat} (hm : X.mg "ord" = none) (h : Je fr X A e (isS ⟨#[c]⟩) A1) (hg : Gl X "ord" := by rfl) (he : starEach [e] X.env = (false, eval e X.env) :: starEach [] X.env := by rfl) (hpl : (backTo pos (starEach [] X.env)).any (·.1) = false := by rfl) : Je fr X A (.Call (.Name "ord" p) [e] [] pos) (isI (c : Int)) A1 :=
  e_callB call_ord hm (a_one h he) (.at fun vs G H Q s r z => by
    obtain ⟨v, rfl, e1⟩ := paired_one r
    have e1' : v = .str ⟨#[c]⟩ := e1
    subst e1'
    exact ⟨⟨#[c]⟩, rfl, rfl, z _ rfl⟩) (by decide +kernel) hg (by decide) (by decide) he hpl
/-! ### in, not in, of data -/
variable {d : PyData} {ds : List PyData} {P1 : VP}
theorem rs_inD {K : PySem.W.Frag} (h1 : DPc K P1 d) (h2 : DPs K Ps ds) (s1 : SeqAt.shaped d = true) (s2 : SeqAt.shaped (.list ds) = true) (he : (ds.any fun z => PyData.eqv z d) = k) : RS (rInD K) P1 (isL Ps) (isB k) := .at fun x y G H Q s p q z => ⟨d, ds, h1 x H (P1.up s p), dp_L h2 y H ((isL Ps).up s q), s1, s2, z _ (congrArg V.bl he)⟩
theorem rs_notInD {K : PySem.W.Frag} (h1 : DPc K P1 d) (h2 : DPs K Ps ds) (s1 : SeqAt.shaped d = true) (s2 : SeqAt.shaped (.list ds) = true) (he : (ds.any fun z => PyData.eqv z d) = k) : RS (rNotInD K) P1 (isL Ps) (isB (!k)) := .at fun x y G H Q s p q z => ⟨d, ds, h1 x H (P1.up s p), dp_L h2 y H ((isL Ps).up s q), s1, s2, z _ (congrArg (fun k => V.bl (!k)) he)⟩
theorem t_inD {n : Nat} {A2 : As} (hr : Room n X.A) (ha : Je fr X A a P1 A1) (hb : Je fr X A1 b (isL Ps) A2) (h1 : DPc X.K P1 d) (h2 : DPs X.K Ps ds) (s1 : SeqAt.shaped d = true) (s2 : SeqAt.shaped (.list ds) = true) (he : (ds.any fun z => PyData.eqv z d) = k) (hm : behindInMarks .In b = false := by rfl) : Jt fr X A (.Compare a [.In] [b] pos) k A2 := t_cmp (op_inD (room65 hr)) ha hb (rs_inD h1 h2 s1 s2 he) hm
theorem t_notInD {n : Nat} {A2 : As} (hr : Room n X.A) (ha : Je fr X A a P1 A1) (hb : Je fr X A1 b (isL Ps) A2) (h1 : DPc X.K P1 d) (h2 : DPs X.K Ps ds) (s1 : SeqAt.shaped d = true) (s2 : SeqAt.shaped (.list ds) = true) (he : (ds.any fun z => PyData.eqv z d) = k) (hm : behindInMarks .NotIn b = false := by rfl) : Jt fr X A (.Compare a [.NotIn] [b] pos) (!k) A2 := t_cmp (op_notInD (room65 hr)) ha hb (rs_notInD h1 h2 s1 s2 he) hm
/-- -i -/
theorem e_neg (h : Je fr X A e (isI i) A1) : Je fr X A (.UnaryOp .USub e pos) (isI (-i)) A1 := pe_imp (pe_un un_neg h) fun σ H Q ⟨G, s, a, q⟩ => ⟨G, s, a, fun v G1 H1 p1 r => ⟨i, r, q _ G1 H1 p1 rfl⟩⟩
/-! ### families of states -/
variable {ι : Type} {I : ι → As} {ws : List Nat} {tg : Expr} {P : VP}
theorem g_ex (h : ∀ i, Jg X ws (I i) tg P A') : Jg X ws (As.ex I) tg P A' := pg_imp (pg_any h) fun v σ H Q ⟨G, s, ⟨i, a⟩, r⟩ => ⟨i, G, s, a, r⟩
theorem g_post (h : Jg X ws A tg P A1) (q : As.le A1 A') : Jg X ws A tg P A' := pg_imp h fun v σ H Q ⟨G, s, a, pv, k⟩ => ⟨G, s, a, pv, fun σ' so a' => k σ' so (q σ' G H s a')⟩
theorem g_pre (h : Jg X ws A1 tg P A') (q : As.le A A1) : Jg X ws A tg P A' := pg_imp h fun v σ H Q ⟨G, s, a, r⟩ => ⟨G, s, q σ G H s a, r⟩
theorem le_ex (i : ι) (h : As.le A (I i)) : As.le A (As.ex I) := fun σ G H s a => ⟨i, h σ G H s a⟩
theorem ex_le (h : ∀ i, As.le (I i) A) : As.le (As.ex I) A := fun σ G H s ⟨i, a⟩ => h i σ G H s a
theorem As.le.trans (h : As.le A A1) (h' : As.le A1 A') : As.le A A' := fun σ G H s a => h' σ G H s (h σ G H s a)
theorem map_at {α β : Type} {l : List α} {f : α → β} {k : Nat} {P : β} (h : (l.map f)[k]? = some P) : ∃ a, l[k]? = some a ∧ P = f a := by
  rw [List.getElem?_map] at h
  cases e : l[k]? with
  | none => (rw [e] at h; cases h)
  | some a => rw [e] at h; exact ⟨a, rfl, (Option.some.inj h).symm⟩
end
end Q
/-! Patterns: made, told apart, read. -/
namespace Q
open PySem PySem.Spec PyProof.Rows L2 Pt
open VahypBase (Bytes PTok isLetter isDigit inChunk isBlank)
open Vahypa (Pat)
abbrev natsP (l : List Nat) : VP := isT (l.map natP)
abbrev patF (p : Pat) : Fs := [("front", isB p.front), ("letters", isT (p.x.map byP)), ("end", isB p.halt_), ("digits", natsP p.levels)]
abbrev patO (K : PySem.W.Frag) (p : Pat) : VP := isO (He.ga K "Pattern") (patF p)
abbrev patsP (K : PySem.W.Frag) (ps : List Pat) : VP := isL (ps.map (patO K))
def optP {α : Type} (r : Option α) (f : α → VP) : VP := match r with
  | some a => f a
  | none => isN
abbrev sp_signs (K : PySem.W.Frag) : Sp := fSp (fun p : Pat => p.x.length ≤ 6) (fun p => [patO K p]) (fun p => natsP (Vahypd.signsOf p)) fun _ => noX
theorem small_line {n : Nat} (h : n ≤ 1000000) : n ≤ sizeLine := by rw [line_eq]; omega
section
variable {base : Heap} {P : Program} {w : World} {K : PySem.W.Frag} {mg : Str → Option Value}
theorem kc_Pattern (T : Txt K mg) : Kc P w K mg base 1 "Pattern" (He.ga K "Pattern") ["self", "front", "letters", "end", "digits"] (oSp (fun _ : Pat => True) (He.ga K "Pattern") (fun _ => []) (fun p => [isB p.front, isT (p.x.map byP), isB p.halt_, natsP p.levels]) patF (fun _ => isN) patF fun _ => noX) :=
  kc_of T.mk_Pattern T.g_Pattern (fn_own0 T.df_Pattern_init (fun _ => rfl) fun cdv A outer s H E z G a dx hz sG hr =>
    b_cons (s_ofld 0 rfl T.cl_Pattern T.na_Pattern_front (e_v 1 rfl)) (b_cons (s_ofld 0 rfl T.cl_Pattern T.na_Pattern_letters (e_v 2 rfl)) (b_cons (s_ofld 0 rfl T.cl_Pattern T.na_Pattern_end (e_v 3 rfl)) (b_one (s_post (s_ofld 0 rfl T.cl_Pattern T.na_Pattern_digits (e_v 4 rfl)) (le_nxO rfl))))))
theorem signs_eq (p : Pat) : ((if p.front = true then [isI 0] else []) ++ p.x.map byP) ++ (if p.halt_ = true then [isI 0] else []) = (Vahypd.signsOf p).map natP := by
  unfold Vahypd.signsOf
  rw [List.map_append, List.map_append, List.map_map, List.append_assoc]
  cases p.front <;> cases p.halt_ <;> rfl
theorem km_signs (T : Txt K mg) : Km P w K mg base CX0 1 (He.ga K "Pattern") "signs" ["self"] (sp_signs K) :=
  km_of T.me_Pattern_signs (fn_plain0 T.df_Pattern_signs (fun _ => rfl) fun cdv A outer s H E p G hz sG hr => by
    have hl : p.x.length ≤ 6 := hz
    refine b_one (s_retP (e_cast (e_catT (e_catT (e_rep01 (e_tup (a_one e_int)) (e_intB T.n_int (e_fld (e_v 0 rfl) T.cl_Pattern T.na_Pattern_front rfl)) (by simp)) (e_fld (e_v 0 rfl) T.cl_Pattern T.na_Pattern_letters rfl) ?_) (e_rep01 (e_tup (a_one e_int)) (e_intB T.n_int (e_fld (e_v 0 rfl) T.cl_Pattern T.na_Pattern_end rfl)) (by simp)) ?_) (congrArg isT (signs_eq p))))
    · refine small_line ?_
      rw [List.length_map]
      split <;> simp <;> omega
    · refine small_line ?_
      rw [List.length_append, List.length_map]
      split <;> split <;> simp <;> omega)
/-! ### points -/
theorem dpc_by {b : UInt8} : DPc K (byP b) (numD b.toNat) := dp_I
theorem eqv_by (a b : UInt8) : PyData.eqv (numD a.toNat) (numD b.toNat) = decide (a = b) := by
  rw [eqv_num, Bool.eq_iff_iff]
  simp only [decide_eq_true_eq]
  exact UInt8.toNat_inj
theorem eqv_bys (l m : Bytes) : PyData.eqv (.list (l.map fun b => numD b.toNat)) (.list (m.map fun b => numD b.toNat)) = decide (l = m) := eqv_map eqv_by l m
theorem sh_bys (l : Bytes) : SeqAt.shaped (.list (l.map fun b => numD b.toNat)) = true := (sh_lst (n := 0) (sh_map (fun b => sh_num _) l)).ok (by decide)
theorem front_eq (c : Bytes) : decide (c.take 1 = [46]) = frontOf c := by
  unfold frontOf
  cases c with
  | nil => rfl
  | cons b r =>
    rw [Bool.eq_iff_iff]
    simp
theorem cut_take {α β : Type} {l : List α} {f : α → β} {b : Nat} : cutP (l.map f) none (some (b : Int)) = (l.take b).map f := by
  unfold cutP
  have e0 : HT.sIx (l.map f).length 0 none = 0 := rfl
  rw [e0, List.drop_zero, Nat.sub_zero, ← List.map_take]
  rw [HT.sIx_nat, List.length_map]
  congr 1
  rw [← List.take_take, List.take_length]
theorem at_last {α : Type} {l : List α} {f : α → VP} {a : α} (h : l ≠ []) (e : l.getLastD a = l.getLast h) : atI (l.map f) (-1) = some (f (l.getLastD a)) := by
  have h0 : 0 < l.length := List.length_pos_iff.mpr h
  unfold atI
  have : ixN (l.map f).length (-1) = some (l.length - 1) := by
    unfold ixN
    rw [List.length_map]
    simp
    omega
  rw [this]
  show (l.map f)[l.length - 1]? = _
  rw [List.getElem?_map, ← List.getLast?_eq_getElem?, List.getLast?_eq_some_getLast h, e]; rfl

theorem getLastD_eq {c : Bytes} (h : c ≠ []) : c.getLastD 0 = c.getLast h := by
  cases c with
  | nil => exact absurd rfl h
  | cons a l => rfl
theorem kn_points_of (T : Txt K mg) : Kn P w K mg base CX0 1 "points_of" ["chunk"] (fSp (fun _ : Bytes => True) (fun c => [bysP c]) (fun c => isT [isB (frontOf c), isB (endOf c)]) fun _ => noX) :=
  kn_of T.g_points_of (fn_plain0 T.df_points_of (fun _ => rfl) fun cdv A outer s H E c G hz sG hr => by
    refine b_cons (s_set 1 sc_points_of.nd (e_cast (R := isB (frontOf c)) (e_eqD hr (e_imp (R := bysP (c.take 1)) (e_slL (e_v 0 rfl) o_no (o_at e_int)) fun v H h => by rw [show (cutP (List.map byP c) none (some 1)) = (c.take 1).map byP from cut_take (b := 1)] at h; exact h) (e_lst (a_one (e_glob T.c_POINT))) (dp_L (dps_map (fun _ => dpc_by) _)) (dp_L (.cons dp_I .nil)) (sh_bys _) (sh_bys [46]) (eqv_bys _ [46])) (congrArg isB (front_eq c)))) ?_
    refine b_one (s_retP (e_tup (a_cons (e_v 1 rfl) (a_one (e_cast (R := isB (endOf c)) (e_and (k := decide (1 < c.length)) (k' := c.getLastD 0 == 46) (e_cast (e_gt (e_lenL T.n_len (e_v 0 rfl)) e_int) ?_) fun h => e_one (e_cast (e_eqI (e_ixL (R := byP (c.getLastD 0)) (e_v 0 rfl) (e_neg e_int) ?_) (e_glob T.c_POINT)) ?_)) rfl)))))
    · rw [List.length_map]
      refine congrArg isB ?_
      rw [Bool.eq_iff_iff]; simp only [decide_eq_true_eq]; omega
    · have h1 : 1 < c.length := of_decide_eq_true h
      have hne : c ≠ [] := fun z => by rw [z] at h1; simp at h1
      exact at_last hne (getLastD_eq hne)
    · exact congrArg isB (byte_eq _ 46))
/-! ### the body -/
theorem optP_map {α : Type} {r : Option α} {f : α → VP} : nonP (optP r f) (r.isNone) ↔ nonP (optP r f) r.isNone := Iff.rfl
theorem rb_len : ∀ (l x : Bytes) (vs : List Nat) (r : Bytes × List Nat), vs.length = x.length + 1 → rb l x vs = some r → r.2.length = r.1.length + 1
  | [], x, vs, r, h, e => by cases e; exact h
  | b :: l, x, vs, r, h, e => by
    unfold rb at e
    split at e
    · exact rb_len l _ _ r (by simp; omega) e
    · split at e
      · exact rb_len l _ _ r (by simp; omega) e
      · cases e
theorem own_last {α : Type} {l : List α} {f : α → VP} {a : α} (h : l ≠ []) (e : l.getLastD a = l.getLast h) : ixN (l.map f).length (-1) = some (l.length - 1) := by
  have h0 : 0 < l.length := List.length_pos_iff.mpr h
  unfold ixN
  rw [List.length_map]
  simp
  omega
theorem set_last {α β : Type} (l : List α) (f : α → β) (a : α) (h : l ≠ []) : (l.map f).set (l.length - 1) (f a) = (l.dropLast ++ [a]).map f := by
  obtain ⟨m, b, rfl⟩ : ∃ m b, l = m ++ [b] := ⟨l.dropLast, l.getLast h, (List.dropLast_concat_getLast h).symm⟩
  rw [List.dropLast_concat, ← List.map_set]
  congr 1
  rw [List.length_append]
  simp
theorem nat_last {l : List Nat} (h : l ≠ []) : l.getLastD 0 = l.getLast h := by
  cases l with
  | nil => exact absurd rfl h
  | cons a l => rfl
theorem kn_read_body (T : Txt K mg) : Kn P w K mg base CX0 2 "read_body" ["body"] (fSp (fun c : Bytes => c.length ≤ 10000) (fun c => [bysP c]) (fun c => optP (rb c [] [0]) fun r => isT [isT (r.1.map byP), natsP r.2]) fun _ => noX) :=
  kn_of T.g_read_body (fn_plain0 T.df_read_body (fun _ => rfl) fun cdv A outer s H E c G hz sG hr => by
    have hc : c.length ≤ 10000 := hz
    refine b_cons (s_own 1 sc_read_body.nd (l_lst a_nil)) (b_cons (s_own 2 sc_read_body.nd (l_lst (a_one e_int))) ?_)
    refine b_cons (M := As.ex fun r : {r : Bytes × List Nat // rb c [] [0] = some r ∧ r.1.length ≤ c.length} => Ga (Bs.pl G H) [.val (bysP c), .own (r.1.1.map byP), .own (r.1.2.map natP), .any])
      (s_for (ws := [3]) (fun i => As.ex fun r : {r : Bytes × List Nat // rb c [] [0] = rb (c.drop i) r.1 r.2 ∧ r.1.length ≤ i ∧ r.2.length = r.1.length + 1} => Ga (Bs.pl G H) [.val (bysP c), .own (r.1.1.map byP), .own (r.1.2.map natP), .any])
        (fun i => As.ex fun r : {r : Bytes × List Nat // rb c [] [0] = rb (c.drop i) r.1 r.2 ∧ r.1.length ≤ i ∧ r.2.length = r.1.length + 1} => As.ex fun b : {b : UInt8 // c[i]? = some b} => Ga (Bs.pl G H) [.val (bysP c), .own (r.1.1.map byP), .own (r.1.2.map natP), .val (byP b.1)])
        (i_list (e_v 0 rfl)) ?_ ?_ ?_ ?_) ?_
    · exact le_ex ⟨([], [0]), rfl, Nat.le_refl _, rfl⟩ .refl
    · intro k P hP
      obtain ⟨b, eb, rfl⟩ := map_at hP
      exact g_ex fun r => g_post (g_name 3 sc_read_body.nd) (le_ex r (le_ex ⟨b, eb⟩ .refl))
    · intro k P hP
      refine b_ex fun ⟨⟨x, vs⟩, e, hx, hv⟩ => b_ex fun ⟨b, eb⟩ => ?_
      have hk : k < c.length := (List.getElem?_eq_some_iff.mp eb).1
      rw [drop_at eb] at e
      have hne : vs ≠ [] := fun z => by
        have : vs.length = x.length + 1 := hv
        rw [z] at this; simp at this
      refine b_one (s_if (k := isLetter b) (t_val (e_fn (kn_is_letter T) hr b trivial (a_one (e_v 3 rfl)))) (fun h1 => ?_) (fun h1 => ?_))
      · refine b_cons (s_append 1 rfl rfl (e_v 3 rfl) ?_) (b_one (s_post (s_append 2 rfl rfl e_int ?_) (le_ex ⟨(x ++ [b], vs ++ [0]), ?_, ?_, ?_⟩ (ga_le' ?_))))
        · rw [List.length_map, line_eq]
          show x.length < _
          have : x.length ≤ k := hx
          omega
        · rw [List.length_map, line_eq]
          show vs.length < _
          have : vs.length = x.length + 1 := hv
          have : x.length ≤ k := hx
          omega
        · rw [e, rb, if_pos h1]
        · have : x.length ≤ k := hx
          simp; omega
        · have : vs.length = x.length + 1 := hv
          simp; omega
        · exact .cons .rfl' (.cons (.inl (by rw [List.map_append]; rfl)) (.cons (.inl (by rw [List.map_append]; rfl)) (.cons .any' .nil)))
      · have n1 : ¬ isLetter b = true := by rw [h1]; exact Bool.false_ne_true
        refine b_one (s_if (k := isDigit b && (decide (48 < b.toNat) && (vs.getLastD 0 == 0))) (t_w (w_and (t_val (e_fn (kn_is_digit T) hr b trivial (a_one (e_v 3 rfl)))) fun _ => w_and (t_cast (t_gt (e_v 3 rfl) (e_glob T.c_ZERO)) ?_) fun _ => w_and1 (t_cast (t_eqI (e_ownIx 2 (R := natP (vs.getLastD 0)) rfl (e_neg e_int) rfl (at_last hne (nat_last hne))) e_int) ?_))) (fun h2 => ?_) (fun h2 => ?_))
        · rw [Bool.eq_iff_iff]; simp only [decide_eq_true_eq]; omega
        · rw [Bool.eq_iff_iff]; simp only [decide_eq_true_eq, beq_iff_eq]; omega
        · refine b_one (s_post (s_setIx 2 (n := vs.length - 1) (P := natP (b.toNat - 48)) rfl (e_cast (e_sub (e_v 3 rfl) (e_glob T.c_ZERO)) ?_) (e_neg e_int) rfl (own_last hne (nat_last hne))) (le_ex ⟨(x, vs.dropLast ++ [b.toNat - 48]), ?_, ?_, ?_⟩ (ga_le' ?_)))
          · have : 48 < b.toNat := by
              (simp only [Bool.and_eq_true, decide_eq_true_eq] at h2)
              exact h2.2.1
            refine congrArg isI ?_
            show ((b.toNat : Int) - 48) = ((b.toNat - 48 : Nat) : Int)
            omega
          · rw [e, rb, if_neg n1, if_pos h2]
          · have : x.length ≤ k := hx
            show x.length ≤ k + 1
            omega
          · have : vs.length = x.length + 1 := hv
            simp; omega
          · exact .cons .rfl' (.cons .rfl' (.cons (.inl (by rw [set_last vs natP _ hne])) (.cons .any' .nil)))
        · have z : rb c [] [0] = none := by
            rw [e, rb, if_neg n1, if_neg (by rw [h2]; exact Bool.false_ne_true)]
          refine b_one (s_retP (e_cast e_non ?_))
          show isN = optP (rb c [] [0]) _
          rw [z]; rfl
    · rw [List.length_map]
      refine ex_le fun ⟨r, e, hx, hv⟩ => le_ex ⟨r, ?_, hx⟩ .refl
      rw [e, List.drop_length]; rfl
    · refine b_ex fun ⟨⟨x, vs⟩, e, hx⟩ => ?_
      refine b_one (s_retP (e_cast (e_tup (a_cons (e_tupleL T.n_tuple (e_thaw 1 rfl)) (a_one (e_tupleL T.n_tuple (e_thaw 2 rfl))))) ?_))
      show isT [isT (x.map byP), natsP vs] = optP (rb c [] [0]) _
      rw [e]; rfl)

/-! ### a pattern's chunk -/
theorem foldl_max_zero : ∀ (ns : List Nat) (n : Nat), ((ns.map fun (v : Nat) => (v : Int)).foldl max (n : Int) = 0) ↔ (n = 0 ∧ ns.all (fun v => v == 0) = true)
  | [], n => by simp
  | m :: ns, n => by
    rw [List.map_cons, List.foldl_cons]
    have e : max (n : Int) (m : Int) = ((max n m : Nat) : Int) := by omega
    rw [e, foldl_max_zero ns (max n m)]
    simp only [List.all_cons, Bool.and_eq_true, beq_iff_eq]
    constructor
    · rintro ⟨h1, h2⟩
      exact ⟨by omega, by omega, h2⟩
    · rintro ⟨h1, h2, h3⟩
      exact ⟨by omega, h3⟩
theorem pat_facts {c : Bytes} {p : Pat} (h : Vahypa.patOf c = some p) : 1 ≤ p.x.length ∧ p.x.length ≤ 6 ∧ p.levels.length = p.x.length + 1 := by
  rw [← patP_eq] at h
  unfold patP' at h
  cases hr : rb (bodyOf c) [] [0] with
  | none => rw [hr] at h; cases h
  | some r =>
    obtain ⟨x, vs⟩ := r
    rw [hr] at h
    dsimp only at h
    split at h
    · cases h
    · rename_i hn
      cases h
      have := rb_len _ _ _ _ rfl hr
      exact ⟨by dsimp only; omega, by dsimp only; omega, this⟩
theorem bool_nat (b : Bool) : (if b = true then (1 : Int) else 0) = ((if b = true then 1 else 0 : Nat) : Int) := by cases b <;> rfl
theorem body_cut (c : Bytes) : cutP (c.map byP) (some (if frontOf c = true then 1 else 0)) (some ((c.length : Int) - (if endOf c = true then 1 else 0))) = (bodyOf c).map byP := by
  have h1 : (if endOf c = true then 1 else 0) + (if frontOf c = true then 1 else 0) ≤ c.length := by
    by_cases he : endOf c = true
    · have : 1 < c.length := by
        unfold endOf at he
        rw [Bool.and_eq_true, decide_eq_true_eq] at he
        exact he.1
      rw [if_pos he]
      split <;> omega
    · rw [if_neg he]
      by_cases hf : frontOf c = true
      · rw [if_pos hf]
        cases c with
        | nil => cases hf
        | cons a l => simp
      · rw [if_neg hf]; omega
  rw [bool_nat, bool_nat]
  rw [show ((c.length : Int) - ((if endOf c = true then 1 else 0 : Nat) : Int)) = ((c.length - (if endOf c = true then 1 else 0) : Nat) : Int) from by omega]
  rw [cut_at (by omega) (by omega)]
  rfl
abbrev sp_read_pattern (K : PySem.W.Frag) : Sp := fSp (fun c : Bytes => c.length ≤ 10000) (fun c => [bysP c]) (fun c => optP (Vahypa.patOf c) (patO K)) fun _ => noX
theorem kn_read_pattern (T : Txt K mg) : Kn P w K mg base CX0 3 "read_pattern" ["chunk"] (sp_read_pattern K) :=
  kn_of T.g_read_pattern (fn_plain0 T.df_read_pattern (fun _ => rfl) fun cdv A outer s H E c G hz sG hr => by
    have hc : c.length ≤ 10000 := hz
    have hb : (bodyOf c).length ≤ 10000 := by
      unfold bodyOf
      rw [List.length_take, List.length_drop]; omega
    refine b_cons (s_asg (e_fn (kn_points_of T) (hr.mono (by decide)) c trivial (a_one (e_v 0 rfl))) (g_pair 1 2 (ws := [1, 2]) sc_read_pattern.nd)) ?_
    refine b_cons (s_set 3 sc_read_pattern.nd (e_fn (kn_read_body T) hr (bodyOf c) hb (a_one (e_cast (e_slL (e_v 0 rfl) (o_at (e_intB T.n_int (e_v 1 rfl))) (o_at (e_sub (e_cast (e_lenL T.n_len (e_v 0 rfl)) (by rw [List.length_map])) (e_intB T.n_int (e_v 2 rfl))))) (congrArg isL (body_cut c)))))) ?_
    cases hrb : rb (bodyOf c) [] [0] with
    | none =>
      have hp : Vahypa.patOf c = none := by rw [← patP_eq]; unfold patP'; rw [hrb]
      refine b_when (k := true) (t_w (w_or (k' := true) (t_isN (P := isN) (e_v 3 ?_) nonP_N e_non) fun h => by cases h)) (fun _ => b_one (s_retP (e_cast e_non ?_))) fun h => by cases h
      · rw [show (optP (none : Option (Bytes × List Nat)) fun r => isT [isT (r.1.map byP), natsP r.2]) = isN from rfl]; rfl
      · show isN = optP (Vahypa.patOf c) _
        rw [hp]; rfl
    | some r =>
      obtain ⟨x, vs⟩ := r
      have hl := rb_len _ _ _ _ rfl hrb
      have hl' : vs.length = x.length + 1 := hl
      have hp : Vahypa.patOf c = if x.length < 1 ∨ 6 < x.length ∨ vs.all (fun v => v == 0) = true then none else some ⟨frontOf c, x, endOf c, vs⟩ := by rw [← patP_eq]; unfold patP'; rw [hrb]
      obtain ⟨v0, vr, hv⟩ : ∃ v0 vr, vs = v0 :: vr := by
        cases vs with
        | nil => simp at hl'
        | cons a b => exact ⟨a, b, rfl⟩
      have vc : natsP vs = isT ((((v0 : Int) :: vr.map fun (v : Nat) => (v : Int)).map fun i => isI i)) := by
        rw [hv]
        unfold natsP
        rw [List.map_cons, List.map_cons, List.map_map]; rfl
      refine b_when (k := (false || ((!(decide (1 ≤ x.length) && decide (x.length ≤ 6))) || vs.all (fun v => v == 0)))) (t_w (w_or (t_isN (P := isT [isT (x.map byP), natsP vs]) (e_v 3 rfl) nonP_T e_non) fun _ => w_or (t_not (t_cast (t_lele e_int (e_lenT T.n_len (e_ixT (e_v 3 rfl) e_int rfl)) (e_glob T.c_MOST_OF_PATTERN)) ?_)) fun _ => w_or1 (t_cast (t_eqI (e_maxT (ns := vr.map fun (v : Nat) => (v : Int)) (n := (v0 : Int)) rfl hr T.n_max (e_cast (e_ixT (e_v 3 rfl) e_int rfl) vc)) e_int) ?_))) (fun h => b_one (s_retP (e_cast e_non ?_))) fun h => ?_
      · rw [List.length_map, Bool.eq_iff_iff]; simp only [Bool.and_eq_true, decide_eq_true_eq]; omega
      · rw [Bool.eq_iff_iff, decide_eq_true_eq, foldl_max_zero vr v0, hv]
        simp only [List.all_cons, Bool.and_eq_true, beq_iff_eq]
      · show isN = optP (Vahypa.patOf c) _
        rw [hp, if_pos]
        · rfl
        · simp only [Bool.false_or, Bool.or_eq_true, Bool.not_eq_true', Bool.and_eq_false_iff, decide_eq_false_iff_not] at h
          rcases h with (h | h) | h
          · left; omega
          · right; left; omega
          · right; right; exact h
      · have hn : ¬ (x.length < 1 ∨ 6 < x.length ∨ vs.all (fun v => v == 0) = true) := fun z => by
          simp only [Bool.false_or, Bool.or_eq_false_iff, Bool.not_eq_false', Bool.and_eq_true, decide_eq_true_eq] at h
          rcases z with z | z | z
          · omega
          · omega
          · rw [h.2] at z; cases z
        rw [if_neg hn] at hp
        refine b_one (s_retP (e_cast (e_make (kc_Pattern T) hr (⟨frontOf c, x, endOf c, vs⟩ : Pat) trivial (a_cons (e_v 1 rfl) (a_cons (e_ixT (e_v 3 rfl) e_int rfl) (a_cons (e_v 2 rfl) (a_one (e_ixT (e_v 3 rfl) e_int rfl)))))) ?_))
        show patO K _ = optP (Vahypa.patOf c) _
        rw [hp]; rfl)
end
end Q
/-! Words; lists; a pattern's place. -/
namespace Q
open PySem PySem.Spec PyProof.Rows L2 Pt
open VahypBase (Bytes PTok isLetter isDigit inChunk isBlank)
open Vahypa (Pat Lst)
theorem at_zero {α : Type} {a : α} {l : List α} : atI (a :: l) 0 = some a := atI_nat (j := 0) rfl
theorem filter_yes {α : Type} (l : List α) : l.filter (fun _ => true) = l := by rw [List.filter_eq_self]; exact fun _ _ => rfl
theorem cut_drop {α β : Type} {l : List α} {f : α → β} {a : Nat} (h : a ≤ l.length) : cutP (l.map f) (some (a : Int)) none = (l.drop a).map f := by
  unfold cutP
  have e1 : HT.sIx (l.map f).length (l.map f).length none = (l.map f).length := rfl
  rw [e1, sIx_at (d := 0) (show a ≤ (l.map f).length by rw [List.length_map]; exact h), ← List.map_drop, ← List.map_take]
  rw [List.take_of_length_le]
  rw [List.length_map, List.length_drop]
  exact Nat.le_refl _
theorem cut_drop1 {α β : Type} {l : List α} {f : α → β} : cutP (l.map f) (some 1) none = (l.drop 1).map f := by
  cases l with
  | nil => rfl
  | cons a r => exact cut_drop (a := 1) (by simp)
theorem zipd_map {α β : Type} (l : List α) (m : List β) (f : α → VP) (g : β → VP) : zipd (l.map f) (m.map g) = (l.zip m).map fun z => isT [f z.1, g z.2] := by
  unfold zipd
  rw [List.zip_map, List.map_map]; rfl
abbrev sp_word (K : PySem.W.Frag) : Sp := fSp (fun c : Bytes => c.length ≤ 10000) (fun c => [bysP c]) (fun c => optP (wrdP c) fun l => isT (l.map byP)) fun _ => noX
section
variable {base : Heap} {P : Program} {w : World} {K : PySem.W.Frag} {mg : Str → Option Value}
theorem kn_letters_of_word (T : Txt K mg) : Kn P w K mg base CX0 2 "letters_of_word" ["chunk"] (sp_word K) :=
  kn_of T.g_letters_of_word (fn_plain0 T.df_letters_of_word (fun _ => rfl) fun cdv A outer s H E c G hz sG hr => by
    have hc : c.length ≤ 10000 := hz
    have hcl : c.length < sizeLine := by rw [line_eq]; omega
    refine b_cons (s_set 1 sc_letters_of_word.nd (e_tupleL T.n_tuple (e_lc (own := [("byte", 2)]) c byP isLetter byP sc_letters_of_word.nd (i_list (e_v 0 rfl)) (blkOk_by (by rfl)) hcl (fun _ _ _ _ _ x _ => g_name 2 sc_letters_of_word.nd) (fun _ _ _ _ _ x _ => ts_one (t_val (e_fn (kn_is_letter T) hr x trivial (a_one (e_v 2 rfl))))) (fun _ _ _ _ _ x _ _ => e_v 2 rfl)))) ?_
    refine b_when (k := (!(decide (2 ≤ (c.filter isLetter).length) && decide ((c.filter isLetter).length ≤ 16)) || !c.all okB)) (t_w (w_or (t_not (t_cast (t_lele (e_glob T.c_LEAST_LETTERS) (e_lenT T.n_len (e_v 1 rfl)) (e_glob T.c_MOST_LETTERS)) ?_)) fun _ => w_or1 (t_not (t_cast (t_val (e_all rfl T.n_all (bs := c.map okB) (e_cast (e_lc (own := [("b", 3)]) c byP (fun _ => true) (fun b => isB (okB b)) sc_letters_of_word.nd (i_list (e_v 0 rfl)) (blkOk_by (by rfl)) hcl (fun _ _ _ _ _ x _ => g_name 3 sc_letters_of_word.nd) (fun _ _ _ _ _ x _ => ts_nil) (fun _ _ _ _ _ x _ _ => e_cast (e_or (e_fn (kn_is_letter T) hr x trivial (a_one (e_v 3 rfl))) fun _ => e_one (e_eqI (e_v 3 rfl) (e_glob T.c_DASH))) ?_)) ?_))) ?_)))) (fun h => b_one (s_retP (e_cast e_non ?_))) fun h => ?_
    · rw [List.length_map, Bool.eq_iff_iff]; simp only [Bool.and_eq_true, decide_eq_true_eq]; omega
    · exact congrArg (fun z => isB (isLetter x || z)) (byte_eq x 45)
    · rw [filter_yes, List.map_map]; rfl
    · rw [List.all_map]; rfl
    · show isN = optP (wrdP c) _
      unfold wrdP
      rw [if_pos h]; rfl
    · have hne : c ≠ [] := fun z => by rw [z] at h; simp at h
      have e0 : c[0]? = some (c.headD 0) := by
        cases c with
        | nil => exact absurd rfl hne
        | cons a l => rfl
      have eh : (c.head? == some 45) = (c.headD 0 == 45) := by
        cases c with
        | nil => exact absurd rfl hne
        | cons a l => rfl
      refine b_when (k := ((c.head? == some 45) || (c.getLastD 0 == 45))) (t_w (w_or (t_cast (t_eqI (e_ixL (e_v 0 rfl) e_int (at_map (f := byP) (n := 0) e0)) (e_glob T.c_DASH)) ?_) fun _ => w_or1 (t_cast (t_eqI (e_ixL (R := byP (c.getLastD 0)) (e_v 0 rfl) (e_neg e_int) (at_last hne (getLastD_eq hne))) (e_glob T.c_DASH)) (byte_eq _ 45)))) (fun h1 => b_one (s_retP (e_cast e_non ?_))) fun h1 => ?_
      · rw [eh]; exact byte_eq _ 45
      · show isN = optP (wrdP c) _
        unfold wrdP
        rw [if_neg (by rw [h]; exact Bool.false_ne_true), if_pos h1]; rfl
      · refine b_when (k := adj c) (t_cast (t_val (e_any rfl T.n_any (bs := (c.zip (c.drop 1)).map fun z => z.1 == 45 && z.2 == 45) (e_cast (e_lc (own := [("one", 4), ("other", 5)]) (c.zip (c.drop 1)) (fun z => isT [byP z.1, byP z.2]) (fun _ => true) (fun z => isB (z.1 == 45 && z.2 == 45)) sc_letters_of_word.nd (by
            rw [← zipd_map]
            exact i_zip T.n_zip (a_cons (e_v 0 rfl) (a_one (e_cast (e_slL (e_v 0 rfl) (o_at e_int) o_no) (congrArg isL cut_drop1))))) (blkOk_by (by rfl)) ?_ (fun _ _ _ _ _ x _ => g_pair 4 5 sc_letters_of_word.nd) (fun _ _ _ _ _ x _ => ts_nil) (fun _ _ _ _ _ x _ _ => e_cast (e_and (e_eqI (e_v 4 rfl) (e_glob T.c_DASH)) fun _ => e_one (e_eqI (e_v 5 rfl) (e_glob T.c_DASH))) ?_)) ?_))) ?_) (fun h2 => b_one (s_retP (e_cast e_non ?_))) fun h2 => b_one (s_retP (e_cast (e_v 1 rfl) ?_))
        · rw [List.length_zip, line_eq]; omega
        · exact congrArg isB (congr (congrArg and (byte_eq x.1 45)) (byte_eq x.2 45))
        · rw [filter_yes, List.map_map]; rfl
        · unfold adj
          rw [List.any_map]; rfl
        · show isN = optP (wrdP c) _
          unfold wrdP
          rw [if_neg (by rw [h]; exact Bool.false_ne_true), if_neg (by rw [h1]; exact Bool.false_ne_true), if_pos h2]; rfl
        · show _ = optP (wrdP c) _
          unfold wrdP
          rw [if_neg (by rw [h]; exact Bool.false_ne_true), if_neg (by rw [h1]; exact Bool.false_ne_true), if_neg (by rw [h2]; exact Bool.false_ne_true)]; rfl)

/-! ### a pattern's place -/
theorem numd_map {α : Type} (l : List α) (f : α → VP) : numd (l.map f) = l.zipIdx.map fun z => isT [natP z.2, f z.1] := by
  unfold numd
  rw [List.zipIdx_map, List.map_map]; rfl
theorem dp_nat {n : Nat} : DPc K (natP n) (numD n) := dp_I
theorem dp_nats {l : List Nat} : DPc K (natsP l) (numsD l) := dp_T (dps_map (fun _ => dp_nat) l)
theorem sh_nums (l : List Nat) : Sh 1 (numsD l) := sh_tup (sh_map sh_num l)
theorem findIdx_zip {α : Type} (f : α → Bool) : ∀ (l : List α) (n : Nat), (((l.zipIdx n).filter fun z => f z.1).map fun z => z.2).head? = (l.findIdx? f).map (· + n)
  | [], n => rfl
  | a :: r, n => by
    rw [List.zipIdx_cons, List.filter_cons, List.findIdx?_cons]
    cases h : f a with
    | true => simp
    | false =>
      (simp only [Bool.false_eq_true, if_false])
      rw [findIdx_zip f r (n + 1)]
      cases r.findIdx? f with
      | none => rfl
      | some k => simp; omega
abbrev patsOk (ps : List Pat) : Prop := ps.length ≤ 1000 ∧ ∀ p ∈ ps, p.x.length ≤ 6
theorem mem_zip {α : Type} {l : List α} {z : α × Nat} {n : Nat} (h : z ∈ l.zipIdx n) : z.1 ∈ l := by
  (obtain ⟨i, hi, e⟩ := List.mem_iff_getElem.mp h)
  rw [List.getElem_zipIdx] at e
  rw [← e]
  exact List.getElem_mem _
abbrev sp_place (K : PySem.W.Frag) : Sp := fSp (fun z : List Pat × List Nat => patsOk z.1) (fun z => [patsP K z.1, natsP z.2]) (fun z => optP (placeOf z.1 z.2) natP) fun _ => noX
theorem kn_place_of (T : Txt K mg) : Kn P w K mg base CX0 2 "place_of" ["patterns", "signs"] (sp_place K) :=
  kn_of T.g_place_of (fn_plain0 T.df_place_of (fun _ => rfl) fun cdv A outer s H E z G hz sG hr => by
    obtain ⟨ps, sg⟩ := z
    have hp : patsOk ps := hz
    refine b_cons (s_setLc (own := [("k", 3), ("one", 4)]) 2 ps.zipIdx (fun z => isT [natP z.2, patO K z.1]) (fun z => decide (Vahypd.signsOf z.1 = sg)) (fun z => natP z.2) sc_place_of.nd (by
        rw [← numd_map]
        exact i_enum T.n_enumerate (a_one (e_v 0 rfl))) (blkOk_by (by rfl)) ?_ (fun _ _ _ _ _ x _ => g_pair 3 4 sc_place_of.nd) (fun _ _ _ _ _ x hx => ts_one (t_eqD hr (e_meth0 (km_signs T) T.cl_Pattern hr x.1 (hp.2 _ (mem_zip hx)) (e_v 4 rfl) rfl rfl) (e_v 1 rfl) dp_nats dp_nats ((sh_nums _).ok (by decide)) ((sh_nums _).ok (by decide)) (eqv_nums _ _))) (fun _ _ _ _ _ x _ _ => e_v 3 rfl)) ?_
    · rw [List.length_zipIdx, line_eq]
      have := hp.1
      omega
    · have key := findIdx_zip (fun p => decide (Vahypd.signsOf p = sg)) ps 0
      cases hl : (ps.zipIdx.filter fun z => decide (Vahypd.signsOf z.1 = sg)) with
      | nil =>
        rw [hl] at key
        have hn : placeOf ps sg = none := by
          unfold placeOf
          cases q : ps.findIdx? fun p => decide (Vahypd.signsOf p = sg) with
          | none => rfl
          | some k => rw [q] at key; cases key
        refine b_one (s_retP (e_if (k := false) (t_cast (t_neD (k := true) hr (e_v 2 rfl) (e_lst a_nil) (dp_L (dps_map (g := fun z : Pat × Nat => numD z.2) (fun _ => dp_nat) _)) (dp_L .nil) ((sh_lst (n := 0) (sh_map (fun z => sh_num _) _)).ok (by decide)) ((sh_lst (n := 0) (l := []) (fun d h => by cases h)).ok (by decide)) ?_) rfl) (fun h => by cases h) fun _ => e_cast e_non ?_))
        · rfl
        · show isN = optP (placeOf ps sg) _
          rw [hn]; rfl
      | cons y r =>
        rw [hl] at key
        have hn : placeOf ps sg = some y.2 := by
          unfold placeOf
          cases q : ps.findIdx? fun p => decide (Vahypd.signsOf p = sg) with
          | none => rw [q] at key; cases key
          | some k =>
            rw [q] at key
            have : y.2 = k := Option.some.inj key
            rw [this]
        refine b_one (s_retP (e_if (k := true) (t_cast (t_neD (k := false) hr (e_v 2 rfl) (e_lst a_nil) (dp_L (dps_map (g := fun z : Pat × Nat => numD z.2) (fun _ => dp_nat) _)) (dp_L .nil) ((sh_lst (n := 0) (sh_map (fun z => sh_num _) _)).ok (by decide)) ((sh_lst (n := 0) (l := []) (fun d h => by cases h)).ok (by decide)) ?_) rfl) (fun _ => e_cast (e_ixL (e_v 2 rfl) e_int at_zero) ?_) fun h => by cases h))
        · rfl
        · show natP y.2 = optP (placeOf ps sg) _
          rw [hn]; rfl)
/-! ### a list -/
abbrev lstF (K : PySem.W.Frag) (s : Lst) : Fs := [("left", natP s.l), ("right", natP s.r), ("many_words", natP s.words.length), ("patterns", patsP K s.pats)]
abbrev lstO (K : PySem.W.Frag) (s : Lst) : VP := isO (He.ga K "Listed") (lstF K s)
theorem kc_Listed (T : Txt K mg) : Kc P w K mg base 1 "Listed" (He.ga K "Listed") ["self", "left", "right", "many_words", "patterns"] (oSp (fun _ : Lst => True) (He.ga K "Listed") (fun _ => []) (fun s => [natP s.l, natP s.r, natP s.words.length, patsP K s.pats]) (lstF K) (fun _ => isN) (lstF K) fun _ => noX) :=
  kc_of T.mk_Listed T.g_Listed (fn_own0 T.df_Listed_init (fun _ => rfl) fun cdv A outer s H E z G a dx hz sG hr =>
    b_cons (s_ofld 0 rfl T.cl_Listed T.na_Listed_left (e_v 1 rfl)) (b_cons (s_ofld 0 rfl T.cl_Listed T.na_Listed_right (e_v 2 rfl)) (b_cons (s_ofld 0 rfl T.cl_Listed T.na_Listed_many_words (e_v 3 rfl)) (b_one (s_post (s_ofld 0 rfl T.cl_Listed T.na_Listed_patterns (e_v 4 rfl)) (le_nxO rfl))))))
theorem km_with (T : Txt K mg) : Km P w K mg base CX0 3 (He.ga K "Listed") "with_patterns" ["self", "patterns"] (fSp (fun _ : Lst × List Pat => True) (fun z => [lstO K z.1, patsP K z.2]) (fun z => lstO K { z.1 with pats := z.2 }) fun _ => noX) :=
  km_of T.me_Listed_with_patterns (fn_plain0 T.df_Listed_with_patterns (fun _ => rfl) fun cdv A outer s H E z G hz sG hr =>
    b_one (s_retP (e_make (kc_Listed T) hr ({ z.1 with pats := z.2 } : Lst) trivial (a_cons (e_fld (e_v 0 rfl) T.cl_Listed T.na_Listed_left rfl) (a_cons (e_fld (e_v 0 rfl) T.cl_Listed T.na_Listed_right rfl) (a_cons (e_fld (e_v 0 rfl) T.cl_Listed T.na_Listed_many_words rfl) (a_one (e_v 1 rfl))))))))
end
end Q
/-! A list lent to a call; new instances; receivers that are calls. -/
namespace Q
open PySem PySem.Spec PyProof.Rows L2 Pt
/-- plain arguments, the last one a list of the caller's that is read alone -/
def fLSp {α : Type} (pre : α → Prop) (args : α → List VP) (Lp : α → List VP) (post : α → VP) (exc : α → XP) : Sp := fun vs H Q E => ∃ z G us l xs, pre z ∧ vs = us ++ [.ref l] ∧ Same G H ∧ AllP (args z) us G ∧ G l = none ∧ H l = some (.lst xs) ∧ AllP (Lp z) xs G ∧
  (∀ v G' H', Gw [] G H G' H' → (post z).p v G' → Q v H') ∧ (∀ c d G' H', Gw [] G H G' H' → (exc z).p c d G' → E c d H')
/-- an instance of the caller's, which changes, and a list that is read alone -/
def oLSp {α : Type} (pre : α → Prop) (C : Addr) (fs : α → Fs) (Lp : α → List VP) (fs' : α → Fs) (post : α → VP) (fe : α → Fs) (exc : α → XP) : Sp := fun vs H Q E => ∃ z G a dx fv l xs, pre z ∧ vs = [.ref a, .ref l] ∧ Same G H ∧ G a = none ∧ H a = some (.ins C dx fv) ∧ FldP (fs z) fv G ∧ G l = none ∧ H l = some (.lst xs) ∧ AllP (Lp z) xs G ∧
  (∀ v G' H' fv', Gw [a] G H G' H' → H' a = some (.ins C dx fv') → FldP (fs' z) fv' G' → (post z).p v G' → Q v H') ∧ (∀ c d G' H' fv', Gw [a] G H G' H' → H' a = some (.ins C dx fv') → FldP (fe z) fv' G' → (exc z).p c d G' → E c d H')
section
variable {P : Program} {w : World} {K : PySem.W.Frag} {mg : Str → Option Value} {base : Heap} {d : He.DefD} {f : Addr} {k : Nat} {x m : Str} {N ps : List Str} {α : Type} {pre : α → Prop} {args Lp : α → List VP} {post : α → VP} {exc : α → XP} {fs fs' fe : α → Fs} {C : Addr}
theorem l_in {G H : Hp} {l : Addr} {Ps Ls : List VP} {us xs : List V} {n : Nat} (sG : Same G H) (r : AllP Ps us G) (gl : G l = none) (hl : H l = some (.lst xs)) (q : AllP Ls xs G) : (Ga (Bs.pl G H) (Ps.map Sl.val ++ .lent Ls :: List.replicate n Sl.any)).p ((us ++ [V.ref l]).map some ++ List.replicate n none) G H := by
  have hp : Paired (fun s o => Sl.ok (Bs.pl G H) G H s o) (Ps.map Sl.val ++ .lent Ls :: List.replicate n Sl.any) ((us ++ [V.ref l]).map some ++ List.replicate n none) := by
    rw [List.map_append, List.append_assoc]
    refine paired_app ?_ (.cons ⟨l, xs, rfl, gl, hl, q⟩ (paired_rep trivial n))
    induction r with
    | nil => exact .nil
    | cons p t ih => exact .cons ⟨_, rfl, p⟩ ih
  refine ⟨Gw.refl sG, hp, fun i j s s' b hij e1 e2 m1 m2 _ _ => ?_⟩
  have key : ∀ (i : Nat) (s : Sl), (Ps.map Sl.val ++ .lent Ls :: List.replicate n Sl.any)[i]? = some s → s.mine = true → i = Ps.length := fun i s e m => by
    rcases Nat.lt_trichotomy i Ps.length with h | h | h
    · rw [List.getElem?_append_left (by rw [List.length_map]; exact h), List.getElem?_map] at e
      cases q : Ps[i]? with
      | none => (rw [q] at e; cases e)
      | some P => rw [q] at e; cases e; cases m
    · exact h
    · rw [List.getElem?_append_right (by rw [List.length_map]; omega), List.length_map] at e
      obtain ⟨j, hj⟩ : ∃ j, i - Ps.length = j + 1 := ⟨i - Ps.length - 1, by omega⟩
      rw [hj] at e
      have : s ∈ List.replicate n Sl.any := List.mem_of_getElem? (show (List.replicate n Sl.any)[j]? = some s from e)
      rw [(List.mem_replicate.mp this).2] at m; cases m
  exact hij ((key i s e1 m1).trans (key j s' e2 m2).symm)
theorem fn_lent0 (D : Df K d f ps N) (hl : ∀ z, (args z).length + 1 = ps.length)
    (hbody : ∀ (cdv : Value) (A : Around) (outer : List Env) (s : Shared) (H : Hp) (E : XK) (z : α) (G : Hp), pre z → Same G H → Room k (A.deeper (envOfC d.qual d.scope s.heap.objs.size f cdv)) →
      Jb (cxOf CX0 P w K mg base N d.qual d.scope f cdv A outer s H E).nox (Ga (Bs.pl G H) ((args z).map Sl.val ++ .lent (Lp z) :: List.replicate (N.length - ps.length) Sl.any)) d.body ⟨nxF (Bs.pl G H) (post z), rtF (Bs.pl G H) (post z), As.no, As.no⟩) :
    ∃ fd, FnOk P w K mg base CX0 (k + 1) f fd ps (fLSp pre args Lp post fun _ => noX) ∧ PySem.W.keepIn K (.ref f) = true ∧ Binds K fd ps [] := by
  obtain ⟨fd, F⟩ := D.fn
  have len : ∀ {vs us : List V} {z : α} {l : Addr} {G : Hp}, vs = us ++ [.ref l] → AllP (args z) us G → vs.length = ps.length := fun {vs us z l G} e r => by rw [e, List.length_append, ← Paired.length r]; exact hl z
  refine ⟨fd, F.ok D.sc (fun vs H Q E ⟨z, G, us, l, xs, hz, e, s, r, _⟩ => len e r) (fun cdv A outer s H vs Q E hr ⟨z, G, us, l, xs, hz, e, sG, r, gl, hl', ql, q, _⟩ => ?_), F.kp, F.bindsN D.bd⟩
  refine ⟨_, PSs.nox (hbody cdv A outer s H E z G hz sG hr), G, sG, ?_, fun σ' G' H' _ s' n => q _ G' H' n.1 n.2, fun v G' H' s' n => q v G' H' n.1 n.2, fun _ _ _ _ _ h => h.elim, fun _ _ _ _ _ h => h.elim⟩
  have hn := len e r
  unfold L2.start
  rw [hn, e]
  exact l_in sG r gl hl' ql
theorem fn_ownLX (D : Df K d f ps N) (hl : ps.length = 2)
    (hbody : ∀ (cdv : Value) (A : Around) (outer : List Env) (s : Shared) (H : Hp) (E : XK) (z : α) (G : Hp) (a dx : Addr), pre z → Same G H → Room k (A.deeper (envOfC d.qual d.scope s.heap.objs.size f cdv)) → XO (Bs.me G H a dx) C (fe z) (exc z) E →
      Jb (cxOf (L2.CX P w) P w K mg base N d.qual d.scope f cdv A outer s H E) (Ga (Bs.me G H a dx) (.obj true C (fs z) :: .lent (Lp z) :: List.replicate (N.length - ps.length) Sl.any)) d.body ⟨nxO (Bs.me G H a dx) C (fs' z) (post z), rtO (Bs.me G H a dx) C (fs' z) (post z), As.no, As.no⟩) :
    ∃ fd, FnOk P w K mg base (L2.CX P w) (k + 1) f fd ps (oLSp pre C fs Lp fs' post fe exc) ∧ PySem.W.keepIn K (.ref f) = true ∧ Binds K fd ps [] := by
  obtain ⟨fd, F⟩ := D.fn
  refine ⟨fd, F.ok D.sc (fun vs H Q E ⟨z, G, a, dx, fv, l, xs, hz, e, _⟩ => by rw [e, hl]; rfl) (fun cdv A outer s H vs Q E hr ⟨z, G, a, dx, fv, l, xs, hz, e, sG, ga, ha, qf, gl, hl', ql, q, qx⟩ => ?_), F.kp, F.bindsN D.bd⟩
  refine ⟨_, hbody cdv A outer s H E z G a dx hz sG hr (fun c d G' H' fv' w' e1 e2 x => qx c d G' H' fv' w' e1 e2 x), G, sG, ?_, fun σ' G' H' _ s' ⟨n, fv', e1, e2, e3⟩ => q _ G' H' fv' n e1 e2 e3, fun v G' H' s' ⟨n, fv', e1, e2, e3⟩ => q v G' H' fv' n e1 e2 e3, fun _ _ _ _ _ h => h.elim, fun _ _ _ _ _ h => h.elim⟩
  subst e
  have hne : a ≠ l := fun z => by rw [z, hl'] at ha; cases ha
  unfold L2.start
  rw [hl]
  refine ⟨Gw.refl sG, .cons ⟨a, dx, fv, rfl, ga, ha, ⟨rfl, rfl, List.mem_singleton_self _⟩, qf⟩ (.cons ⟨l, xs, rfl, gl, hl', ql⟩ (paired_rep trivial _)), fun i j s s' b hij e1 e2 m1 m2 f1 f2 => ?_⟩
  have key : ∀ (i : Nat) (s : Sl), (Sl.obj true C (fs z) :: .lent (Lp z) :: List.replicate (N.length - 2) Sl.any)[i]? = some s → s.mine = true → i = 0 ∨ i = 1 := fun i s e m => by
    match i, e with
    | 0, _ => exact .inl rfl
    | 1, _ => exact .inr rfl
    | i + 2, e =>
      have : s ∈ List.replicate (N.length - 2) Sl.any := List.mem_of_getElem? (show (List.replicate (N.length - 2) Sl.any)[i]? = some s from e)
      rw [(List.mem_replicate.mp this).2] at m; cases m
  have k1 := key i s e1 m1
  have k2 := key j s' e2 m2
  rcases k1 with rfl | rfl
  · rcases k2 with rfl | rfl
    · exact hij rfl
    · cases f1; cases f2; exact hne rfl
  · rcases k2 with rfl | rfl
    · cases f1; cases f2; exact hne rfl
    · exact hij rfl
end
/-- of which the heap says nothing -/
def Rigid (P : VP) : Prop := ∀ v G G', P.p v G → P.p v G'
theorem rigid_V {v : V} : Rigid (isV v) := fun _ _ _ h => h
theorem rigid_opt {α : Type} {r : Option α} {f : α → VP} (h : ∀ a, Rigid (f a)) : Rigid (optP r f) := by
  cases r with
  | none => exact rigid_V
  | some a => exact h a
section
variable {X : Cx} {fr : Prop} {A A' A1 A2 N : As} {bk ct : As} {B : Bs} {Γ Γ2 : List Sl} {Ps Rs Ls : List VP} {e a b : Expr} {es : List Expr} {pos pos2 p apos : Pos} {k : Nat} {i j : Int} {P R : VP} {rt : V → Hp → Hp → Prop} {x y m : Str} {ps : List Str} {α : Type} {pre : α → Prop} {args Lp : α → List VP} {post' : α → VP} {exc : α → XP} {fs fs' fe : α → Fs} {C : Addr} {E : XK}
/-- a call that never comes back -/
theorem s_exprN (he : Je False X A e noP A') (hs : swapsWith e none pos.line X.env = pure false := by rfl) : Js X A (.Expr e pos) ⟨N, rt, bk, ct⟩ := ps_imp (ps_expr he hs) fun D σ H ⟨G, s, a, _⟩ => ⟨G, s, a, fun v G1 H1 p1 pv => pv.elim⟩
theorem g_know {φ : Prop} {ws : List Nat} {tg : Expr} (h : φ → Jg X ws A tg P A') : Jg X ws (As.andP φ A) tg P A' := pg_imp (pg_any h) fun v σ H Q ⟨G, s, a, r⟩ => ⟨a.1, G, s, a.2, r⟩
/-- the list in a slot, ours or lent -/
def Sl.lst? : Sl → Option (List VP)
  | .own Ps => some Ps
  | .lent Ps => some Ps
  | _ => none
theorem lst_ok {s : Sl} {o : Option V} {G H : Hp} (ok : s.ok B G H o) (hs : s.lst? = some Ps) : ∃ l xs, o = some (.ref l) ∧ G l = none ∧ H l = some (.lst xs) ∧ AllP Ps xs G := by
  cases s with
  | own Qs =>
    have e : Qs = Ps := Option.some.inj hs
    subst e
    obtain ⟨l, xs, h1, h2, h3, _, h4⟩ := ok
    exact ⟨l, xs, h1, h2, h3, h4⟩
  | lent Qs =>
    have e : Qs = Ps := Option.some.inj hs
    subst e
    exact ok
  | _ => cases hs
/-- reading it -/
theorem e_lentIx (n : Nat) {s s2 : Sl} {pn : Pos} {z : Int} (h2 : Γ2[n]? = some s2) (hs2 : s2.lst? = some Ps) (hb : Je fr X (Ga B Γ) b (isI z) (Ga B Γ2)) (h1 : Γ[n]? = some s) (hs1 : s.lst? = some Rs) (h : atI Ps z = some R) (hs : PlainIx b := by exact fun _ _ => rfl) (hN : X.N[n]? = some x := by rfl) (hv : Vis X.env.scope x := by first | exact Or.inl rfl | exact Or.inr (Or.inl rfl) | exact Or.inr (Or.inr rfl))
    (hd : (x == ("__debug__" : Str)) = false := by decide) (hcd : (x == ("__classdict__" : Str)) = false := by decide) : Je fr X (Ga B Γ) (.Subscript (.Name x pn) b pos) R (Ga B Γ2) :=
  pe_imp (pe_ix ix_list (pv n hN hv hd hcd) hb hs) fun σ H Q ⟨G, s, a, q⟩ => by
    obtain ⟨o, e1, ok⟩ := ga_get a h1
    obtain ⟨l, xs, rfl, g1, l1, q1⟩ := lst_ok ok hs1
    refine ⟨_, e1, G, s, a, fun w G2 H2 p2 pw => ?_⟩
    obtain ⟨o', e2, ok2⟩ := ga_get p2.a h2
    obtain ⟨l2, ys, rfl, g2, l2', q2⟩ := lst_ok ok2 hs2
    rw [e1] at e2
    cases e2
    have pw' : w = .int z := pw
    obtain ⟨u, eu, pu⟩ := atI_pair q2 h
    exact ⟨l, ys, z, u, rfl, pw', SqL.of l2', eu, q u G2 H2 p2 pu⟩
variable {d : PyData} {ds : List PyData} {kk : Bool}
/-- a in xs -/
theorem t_inLent (n : Nat) {s : Sl} {pn : Pos} {m : Nat} (hr : Room m X.A) (ha : Je fr X A a P (Ga B Γ)) (h1 : Γ[n]? = some s) (hs1 : s.lst? = some Ps) (d1 : DPc X.K P d) (d2 : DPs X.K Ps ds) (s1 : SeqAt.shaped d = true) (s2 : SeqAt.shaped (.list ds) = true) (he : (ds.any fun z => PyData.eqv z d) = kk) (hN : X.N[n]? = some x := by rfl) (hv : Vis X.env.scope x := by first | exact Or.inl rfl | exact Or.inr (Or.inl rfl) | exact Or.inr (Or.inr rfl))
    (hd : (x == ("__debug__" : Str)) = false := by decide) (hcd : (x == ("__classdict__" : Str)) = false := by decide) (hm : behindInMarks .In (.Name x pn) = false := by rfl) : Jt fr X A (.Compare a [.In] [.Name x pn] pos) kk (Ga B Γ) :=
  pt_imp (pt_cmpR (op_inD (room65 hr)) ha (pv n hN hv hd hcd) hm) fun σ H Q ⟨G, s, a, q⟩ => by
    refine ⟨G, s, a, fun v G1 H1 p1 pv => ?_⟩
    obtain ⟨o, e1, ok⟩ := ga_get p1.a h1
    obtain ⟨l, xs, rfl, g1, l1, q1⟩ := lst_ok ok hs1
    exact ⟨_, e1, d, ds, d1 _ _ (P.up p1.i pv), .lst (SqL.of l1) (dp_all d2 (allP_up p1.i q1)), s1, s2, _, congrArg V.bl he, q G1 H1 p1⟩
/-- a call that gets the list, of whose answer the heap says nothing -/
theorem e_fnLend (n : Nat) {s : Sl} {pn : Pos} (F : Kn X.prog X.w X.K X.mg X.base CX0 k x ps (fSp pre args post' fun _ => noX)) (hr : Room k X.A) (z : α) (hz : pre z) (h1 : Γ[n]? = some s) (hs1 : s.lst? = some Ps) (ha : Ja fr X (Ga B Γ) es Rs (Ga B Γ2)) (h2 : Γ2[n]? = some s) (hA : args z = isL Ps :: Rs) (hrig : Rigid (post' z)) (hN : X.N[n]? = some y := by rfl) (hv : Vis X.env.scope y := by first | exact Or.inl rfl | exact Or.inr (Or.inl rfl) | exact Or.inr (Or.inr rfl))
    (hd : (y == ("__debug__" : Str)) = false := by decide) (hcd : (y == ("__classdict__" : Str)) = false := by decide) (hg : Gl X x := by rfl) (hdb : (x == ("__debug__" : Str)) = false := by decide)
    (he : starEach (.Name y pn :: es) X.env = (false, eval (.Name y pn) X.env) :: starEach es X.env := by rfl) (hpl : (backTo pos (starEach es X.env)).any (·.1) = false := by rfl) : Je fr X (Ga B Γ) (.Call (.Name x p) (.Name y pn :: es) [] pos) (post' z) (Ga B Γ2) := by
  obtain ⟨f, fd, F1, g, kp, hb⟩ := F.ex
  refine pe_imp (pe_call F1 hr hg g kp hb .nil pass0 (pa_cons (pv n hN hv hd hcd) ha he) hdb he hpl) fun σ H Q ⟨G, s, a, q⟩ => ?_
  obtain ⟨o, e1, ok⟩ := ga_get a h1
  obtain ⟨l, xs, rfl, g1, l1, q1⟩ := lst_ok ok hs1
  refine ⟨_, e1, G, s, a, fun us G1 H1 p1 r => ?_⟩
  obtain ⟨o', e2, ok2⟩ := ga_get p1.a h2
  obtain ⟨l2, ys, rfl, g2, l2', q2⟩ := lst_ok ok2 hs1
  rw [e1] at e2
  cases e2
  have up : Same G1 (upd G1 l (.lst ys)) := fun b o eb => by
    have hb : b ≠ l := fun z => by rw [z, g2] at eb; cases eb
    rw [upd_ne hb]; exact eb
  have sH : Same (upd G1 l (.lst ys)) H1 := fun b o eb => by
    by_cases hb : b = l
    · subst hb; rw [upd_same] at eb; rw [← eb]; exact l2'
    · rw [upd_ne hb] at eb; exact p1.i _ _ eb
  simp only [tNil, List.append_nil]
  refine ⟨z, upd G1 l (.lst ys), hz, sH, ?_, fun v G2 H2 w pv => q v G1 H2 (p1.then ⟨Same.refl _, w.h, fun b o eb => w.h b o List.not_mem_nil (p1.i _ _ eb), fun b h1 _ => h1, w.t⟩) (hrig _ _ _ pv), fun _ _ _ _ _ h => h⟩
  rw [hA]
  exact .cons ⟨l, ys, rfl, upd_same, allP_up up q2⟩ (allP_up up r)
/-- x.m(xs): x of ours, which changes; xs a list that is read alone -/
theorem e_oMethL (i n : Nat) {s : Sl} {me : Bool} {z1 : Str} {pn pm : Pos} {pl : Sem Bool} {CX : CXT} (F : Km X.prog X.w X.K X.mg X.base CX k C m ps (oLSp pre C fs Lp fs' post' fe exc)) (T : Cls X.K C) (hr : Room k X.A) (z : α) (hz : pre z) (hx : Passes CX X E) (hΓ : Γ[i]? = some (.obj me C (fs z))) (h1 : Γ[n]? = some s) (hs1 : s.lst? = some (Lp z)) (hl : (fs z).lookup m = none)
    (hE : ∀ c d σ G H, Same G H → (Ga B (Γ.set i (.obj me C (fe z)))).p σ G H → (exc z).p c d G → E c d H) (hN : X.N[i]? = some x := by rfl) (hv : Vis X.env.scope x := by first | exact Or.inl rfl | exact Or.inr (Or.inl rfl) | exact Or.inr (Or.inr rfl))
    (hN2 : X.N[n]? = some z1 := by rfl) (hv2 : Vis X.env.scope z1 := by first | exact Or.inl rfl | exact Or.inr (Or.inl rfl) | exact Or.inr (Or.inr rfl)) (hd : (x == ("__debug__" : Str)) = false := by decide) (hcd : (x == ("__classdict__" : Str)) = false := by decide) (hd2 : (z1 == ("__debug__" : Str)) = false := by decide) (hcd2 : (z1 == ("__classdict__" : Str)) = false := by decide)
    (hst : starEach [.Name z1 pm] X.env = (false, eval (.Name z1 pm) X.env) :: starEach [] X.env := by rfl) (hpl : (backTo pos (starEach [] X.env)).any (·.1) = false := by rfl)
    (ht : eval (.Call (.Attribute (.Name x pn) m apos) [.Name z1 pm] [] pos) X.env = (do let ov ← eval (.Name x pn) X.env; standAt apos.atName; let (f, first) ← holding [ov] (getMethod ov m pl); callWith pos f first (backTo pos (starEach [.Name z1 pm] X.env)) (backToKw pos (keywordEach [] X.env))) := by rfl) :
    Je False X (Ga B Γ) (.Call (.Attribute (.Name x pn) m apos) [.Name z1 pm] [] pos) (post' z) (Ga B (Γ.set i (.obj me C (fs' z)))) := by
  obtain ⟨f, fd, F1, g, hb⟩ := F.ex
  refine pe_imp (pe_meth (pv i hN hv hd hcd) T g F1 hr hb .nil hx (pa_cons (pv n hN2 hv2 hd2 hcd2) pa_nil hst) hst hpl ht) fun σ H Q ⟨G, s, a, q⟩ => ?_
  obtain ⟨o, e1, y, dx, vs, rfl, g1, h1', b1, q1⟩ := ga_get a hΓ
  obtain ⟨o2, e2, ok⟩ := ga_get a h1
  obtain ⟨l, xs, rfl, g2, l2, q2⟩ := lst_ok ok hs1
  refine ⟨_, e1, y, dx, vs, rfl, h1', fld_none q1 hl, _, e2, ?_⟩
  simp only [tNil, List.append_nil]
  have hne : ∃ us, H y = some (.ins C dx us) := ⟨_, h1'⟩
  exact ⟨z, G, y, dx, vs, l, xs, hz, rfl, s, g1, h1', q1, g2, l2, q2, fun v G2 H2 fv' w ea qa pv => q v G2 H2 ⟨w.g, w.i, ga_obj a hΓ e1 b1 w g1 hne ea qa, fun z => z.elim⟩ pv,
    fun c d G2 H2 fv' w ea qa xv => hE c d σ G2 H2 w.i (ga_obj a hΓ e1 b1 w g1 hne ea qa) xv⟩
/-- x(e, xs), xs a list that is read alone -/
theorem e_fnL (n : Nat) {s : Sl} {pn : Pos} (F : Kn X.prog X.w X.K X.mg X.base CX0 k x ps (fLSp pre args Lp post' fun _ => noX)) (hr : Room k X.A) (z : α) (hz : pre z) (ha : Je fr X (Ga B Γ) e P (Ga B Γ2)) (hA : args z = [P]) (h1 : Γ2[n]? = some s) (hs1 : s.lst? = some (Lp z)) (hN : X.N[n]? = some y := by rfl) (hv : Vis X.env.scope y := by first | exact Or.inl rfl | exact Or.inr (Or.inl rfl) | exact Or.inr (Or.inr rfl))
    (hd : (y == ("__debug__" : Str)) = false := by decide) (hcd : (y == ("__classdict__" : Str)) = false := by decide) (hg : Gl X x := by rfl) (hdb : (x == ("__debug__" : Str)) = false := by decide)
    (he : starEach [e, .Name y pn] X.env = (false, eval e X.env) :: starEach [.Name y pn] X.env := by rfl) (he2 : starEach [.Name y pn] X.env = (false, eval (.Name y pn) X.env) :: starEach [] X.env := by rfl) (hpl : (backTo pos (starEach [.Name y pn] X.env)).any (·.1) = false := by rfl) : Je fr X (Ga B Γ) (.Call (.Name x p) [e, .Name y pn] [] pos) (post' z) (Ga B Γ2) := by
  obtain ⟨f, fd, F1, g, kp, hb⟩ := F.ex
  refine pe_imp (pe_call F1 hr hg g kp hb .nil pass0 (pa_cons ha (pa_cons (pv n hN hv hd hcd) pa_nil he2) he) hdb he hpl) fun σ H Q ⟨G, s, a, q⟩ => ⟨G, s, a, fun v G1 H1 p1 r => ?_⟩
  obtain ⟨o, e1, ok⟩ := ga_get p1.a h1
  obtain ⟨l, xs, rfl, g1, l1, q1⟩ := lst_ok ok hs1
  refine ⟨_, e1, ?_⟩
  simp only [tNil, List.append_nil]
  exact ⟨z, G1, [v], l, xs, hz, rfl, p1.i, by rw [hA]; exact .cons r .nil, g1, l1, q1, fun v G2 H2 w pv => q v G2 H2 (p1.then w) pv, fun _ _ _ _ _ h => h⟩
/-- C(e, ..).m(): the instance changes, then it is nobody's -/
theorem e_makeMeth {j k1 : Nat} {β : Type} {preI : β → Prop} {argsI : β → List VP} {gs : β → Fs} {ps0 : List Str} {pc : Pos} {pl : Sem Bool} {CX : CXT} (F0 : Kc X.prog X.w X.K X.mg X.base j x C ps0 (oSp preI C (fun _ => []) argsI gs (fun _ => isN) gs fun _ => noX)) (hr0 : Room (j + 1) X.A) (u : β) (hu : preI u) (F : Km X.prog X.w X.K X.mg X.base CX k1 C m ps (oSp pre C fs args fs' post' fe exc)) (T : Cls X.K C) (hr : Room k1 X.A) (z : α) (hz : pre z) (hgs : gs u = fs z) (hA : args z = []) (hl : (fs z).lookup m = none) (hx : Passes CX X E)
    (ha : Ja False X A (e :: es) (argsI u) A') (hE : ∀ c d σ G H, Same G H → A'.p σ G H → (exc z).p c d G → E c d H) (hg : Gl X x := by rfl) (hdb : (x == ("__debug__" : Str)) = false := by decide)
    (he : starEach (e :: es) X.env = (false, eval e X.env) :: starEach es X.env := by rfl) (hpl : (backTo pc (starEach es X.env)).any (·.1) = false := by rfl)
    (ht : eval (.Call (.Attribute (.Call (.Name x p) (e :: es) [] pc) m apos) [] [] pos) X.env = (do let ov ← eval (.Call (.Name x p) (e :: es) [] pc) X.env; standAt apos.atName; let (f, first) ← holding [ov] (getMethod ov m pl); callWith pos f first (backTo pos (starEach [] X.env)) (backToKw pos (keywordEach [] X.env))) := by rfl) :
    Je False X A (.Call (.Attribute (.Call (.Name x p) (e :: es) [] pc) m apos) [] [] pos) (post' z) A' := by
  obtain ⟨f0, fd0, F01, MK, g0, hb0⟩ := F0.ex
  obtain ⟨f, fd, F1, g, hb⟩ := F.ex
  refine pe_imp (pe_meth0 (pe_make MK F01 hr0 hg g0 hb0 .nil pass0 ha hdb he hpl) T g F1 hr hb .nil hx ht) fun σ H Q ⟨G, s, a, q⟩ => ⟨G, s, a, fun vs G1 H1 p1 r y dx hy hdx ne => ?_⟩
  simp only [tNil, List.append_nil]
  have w1 : Gw [] G1 H1 G1 (upd H1 dx (.own y)) := Gw.own p1.i hdx
  have hy1 : (upd H1 dx (.own y)) y = none := by rw [upd_ne (Ne.symm ne)]; exact hy
  have w2 : Gw [] G1 (upd H1 dx (.own y)) G1 (upd (upd H1 dx (.own y)) y (.ins C dx [])) := Gw.own w1.i hy1
  have gy : G1 y = none := by
    cases e : G1 y with
    | none => rfl
    | some u => rw [p1.i _ _ e] at hy; cases hy
  refine ⟨u, G1, y, dx, [], vs, hu, rfl, w2.i, gy, upd_same, .nil, r, fun v G2 H2 fv w3 e2 e3 ev => ⟨ev, ?_⟩, fun _ _ _ _ _ _ _ _ h => h⟩
  have w13 : Gw [] G1 H1 G2 H2 := (w1.trans w2).trans' w3 fun u hu => by rw [List.mem_singleton.mp hu]; exact .inr hy
  have g2 : G2 y = none := w3.n y gy (by rw [upd_same]; exact fun z => nomatch z)
  rw [hgs] at e3
  refine ⟨y, dx, fv, rfl, e2, fld_none e3 hl, ?_⟩
  have w5 : ∀ {G3 H3 : Hp}, Gw [y] G2 H2 G3 H3 → Gw [] G1 H1 G3 H3 := fun w => w13.trans' w fun u hu => by rw [List.mem_singleton.mp hu]; exact .inr hy
  refine ⟨z, G2, y, dx, fv, [], hz, rfl, w13.i, g2, e2, e3, by rw [hA]; exact .nil, fun v G3 H3 fv' w ea qa pv => q v G3 H3 (p1.then (w5 w)) pv, fun c d G3 H3 fv' w ea qa xv => hE c d σ G3 H3 w.i (A'.st p1.i p1.a (w5 w)) xv⟩
end
end Q
/-! The reader. -/
namespace Q
open PySem PySem.Spec PyProof.Rows L2 Pt
open VahypBase (Bytes PTok Tok Toks isLetter isDigit inChunk isBlank)
open Vahypa (Pat Lst Word)
def srt (t : PTok) : Str := match t.tok with
  | .chunk _ => "chunk"
  | .sign _ => "stop"
  | .last => "end"
theorem tokP_eq (t : PTok) : tokP t = isT [isS (srt t), bysP (tby t), natP t.place] := by
  unfold tokP srt tby
  cases t.tok <;> rfl
theorem srt_stop (t : PTok) : decide (V.str (srt t) = V.str "stop") = isStop t := by
  unfold srt isStop
  cases t.tok with
  | chunk b => exact (by decide +kernel : decide (V.str ("chunk" : Str) = V.str ("stop" : Str)) = false)
  | sign c => exact (by decide +kernel : decide (V.str ("stop" : Str) = V.str ("stop" : Str)) = true)
  | last => exact (by decide +kernel : decide (V.str ("end" : Str) = V.str ("stop" : Str)) = false)
theorem srt_last (t : PTok) : decide (V.str (srt t) = V.str "end") = isLast t := by
  unfold srt isLast
  cases t.tok with
  | chunk b => exact (by decide +kernel : decide (V.str ("chunk" : Str) = V.str ("end" : Str)) = false)
  | sign c => exact (by decide +kernel : decide (V.str ("stop" : Str) = V.str ("end" : Str)) = false)
  | last => exact (by decide +kernel : decide (V.str ("end" : Str) = V.str ("end" : Str)) = true)
theorem srt_chunk (t : PTok) : decide (V.str (srt t) = V.str "chunk") = isChunk t := by
  unfold srt isChunk
  cases t.tok with
  | chunk b => exact (by decide +kernel : decide (V.str ("chunk" : Str) = V.str ("chunk" : Str)) = true)
  | sign c => exact (by decide +kernel : decide (V.str ("stop" : Str) = V.str ("chunk" : Str)) = false)
  | last => exact (by decide +kernel : decide (V.str ("end" : Str) = V.str ("chunk" : Str)) = false)
abbrev rdF (ts : List PTok) (n : Nat) : Fs := [("tokens", isL (ts.map tokP)), ("at", natP n)]
abbrev rdA : Fs := [("tokens", isAny), ("at", isAny)]
theorem rd_any {ts : List PTok} {n : Nat} : ∀ fv G, FldP (rdF ts n) fv G → FldP rdA fv G := fun fv G h => fld_any h
theorem set_eq {α : Type} {l : List α} {i : Nat} {a : α} (h : l[i]? = some a) : l.set i a = l := by
  (obtain ⟨hi, e⟩ := List.getElem?_eq_some_iff.mp h)
  rw [← e, List.set_getElem_self]
section
variable {base : Heap} {P : Program} {w : World} {K : PySem.W.Frag} {mg : Str → Option Value}
theorem kc_Reader (T : Txt K mg) : Kc P w K mg base 1 "Reader" (He.ga K "Reader") ["self", "tokens"] (oSp (fun _ : List PTok => True) (He.ga K "Reader") (fun _ => []) (fun ts => [isL (ts.map tokP)]) (fun ts => rdF ts 0) (fun _ => isN) (fun ts => rdF ts 0) fun _ => noX) :=
  kc_of T.mk_Reader T.g_Reader (fn_own0 T.df_Reader_init (fun _ => rfl) fun cdv A outer s H E z G a dx hz sG hr =>
    b_cons (s_ofld 0 rfl T.cl_Reader T.na_Reader_tokens (e_v 1 rfl)) (b_one (s_post (s_ofld 0 rfl T.cl_Reader T.na_Reader_at e_int) (le_nxO rfl))))
abbrev sp_token (K : PySem.W.Frag) : Sp := oSp (fun z : List PTok × Nat => z.2 < z.1.length) (He.ga K "Reader") (fun z => rdF z.1 z.2) (fun _ => []) (fun z => rdF z.1 z.2) (fun z => tokP (tk z.1 z.2)) (fun z => rdF z.1 z.2) fun _ => noX
theorem km_token (T : Txt K mg) : Km P w K mg base CX0 1 (He.ga K "Reader") "token" ["self"] (sp_token K) :=
  km_of T.me_Reader_token (fn_own0 T.df_Reader_token (fun _ => rfl) fun cdv A outer s H E z G a dx hz sG hr =>
    b_one (s_retPO (e_ixL (e_ofld 0 rfl T.cl_Reader T.na_Reader_tokens rfl) (e_ofld 0 rfl T.cl_Reader T.na_Reader_at rfl) (at_map (tk_at hz))) rfl))
end
section
variable {X : Cx} {A A' N bk ct : As} {B : Bs} {Γ : List Sl} {e : Expr} {pos cpos apos pn : Pos} {rt : V → Hp → Hp → Prop} {ts : List PTok} {n c : Nat} {me : Bool} {E : XK} {pl : Sem Bool}
/-- self.token() -/
theorem e_token (T : Txt X.K X.mg) (hr : Room 1 X.A) (hn : n < ts.length) (hΓ : Γ[0]? = some (.obj me (He.ga X.K "Reader") (rdF ts n))) (hN : X.N[0]? = some ("self" : Str) := by rfl) (hv : Vis X.env.scope "self" := by first | exact Or.inl rfl | exact Or.inr (Or.inl rfl) | exact Or.inr (Or.inr rfl))
    (ht : eval (.Call (.Attribute (.Name "self" pn) "token" apos) [] [] pos) X.env = (do let ov ← eval (.Name "self" pn) X.env; standAt apos.atName; let (f, first) ← holding [ov] (getMethod ov "token" pl); callWith pos f first (backTo pos (starEach [] X.env)) (backToKw pos (keywordEach [] X.env))) := by rfl) :
    Je False X (Ga B Γ) (.Call (.Attribute (.Name "self" pn) "token" apos) [] [] pos) (isT [isS (srt (tk ts n)), bysP (tby (tk ts n)), natP (tk ts n).place]) (Ga B Γ) := by
  have h := e_oMeth0 (E := fun _ _ _ => False) (pos := pos) (apos := apos) (pn := pn) (B := B) 0 (km_token (P := X.prog) (w := X.w) (base := X.base) T) T.cl_Reader hr (ts, n) hn pass0 hΓ rfl rfl (fun _ _ _ _ _ _ _ z => z.elim) hN hv (by decide) (by decide) ht
  rw [set_eq hΓ] at h
  rw [← tokP_eq]
  exact h
end
section
variable {base : Heap} {P : Program} {w : World} {K : PySem.W.Frag} {mg : Str → Option Value}
abbrev sp_fault (K : PySem.W.Frag) : Sp := oSp (fun z : List PTok × Nat × Nat => z.2.1 < z.1.length) (He.ga K "Reader") (fun z => rdF z.1 z.2.1) (fun z => [natP z.2.2]) (fun _ => rdA) (fun _ => noP) (fun _ => rdA) fun z => faultX K z.2.2 (tk z.1 z.2.1).place
theorem km_fault (T : Txt K mg) : Km P w K mg base (L2.CX P w) 3 (He.ga K "Reader") "fault" ["self", "code"] (sp_fault K) :=
  km_of T.me_Reader_fault (fn_ownX T.df_Reader_fault (fun _ => rfl) fun cdv A outer s H E z G a dx hz sG hr hE => by
    have tk : Takes (cxOf (L2.CX P w) P w K mg base N_Reader_fault d_Reader_fault.qual d_Reader_fault.scope (He.ma K (He.ga K "Reader") "fault") cdv A outer s H E) (fun c d _ H => E c d H) := takes_of rfl rfl rfl rfl
    exact b_one (s_raiseF T hr tk (a_cons (e_v 1 rfl) (a_one (e_ixT (e_token T (hr.mono (by decide)) hz rfl) e_int rfl))) (hE.to rfl rd_any fun _ _ _ z => z)))
end
section
variable {X : Cx} {A A' N bk ct : As} {B : Bs} {Γ : List Sl} {e : Expr} {pos cpos apos pn : Pos} {rt : V → Hp → Hp → Prop} {ts : List PTok} {n c : Nat} {me : Bool} {E : XK} {pl : Sem Bool}
/-- self.fault(e) -/
theorem s_fault (T : Txt X.K X.mg) (hr : Room 3 X.A) (hn : n < ts.length) (tk' : Takes X (fun c d _ H => E c d H)) (hΓ : Γ[0]? = some (.obj me (He.ga X.K "Reader") (rdF ts n))) (ha : Ja False X (Ga B Γ) [e] [natP c] (Ga B Γ)) (hE : ∀ c' d σ G H, Same G H → (Ga B (Γ.set 0 (.obj me (He.ga X.K "Reader") rdA))).p σ G H → (faultX X.K c (tk ts n).place).p c' d G → E c' d H) (hN : X.N[0]? = some ("self" : Str) := by rfl) (hv : Vis X.env.scope "self" := by first | exact Or.inl rfl | exact Or.inr (Or.inl rfl) | exact Or.inr (Or.inr rfl))
    (hst : starEach [e] X.env = (false, eval e X.env) :: starEach [] X.env := by rfl) (hpl : (backTo cpos (starEach [] X.env)).any (·.1) = false := by rfl) (hs : swapsWith (.Call (.Attribute (.Name "self" pn) "fault" apos) [e] [] cpos) none pos.line X.env = pure false := by rfl)
    (ht : eval (.Call (.Attribute (.Name "self" pn) "fault" apos) [e] [] cpos) X.env = (do let ov ← eval (.Name "self" pn) X.env; standAt apos.atName; let (f, first) ← holding [ov] (getMethod ov "fault" pl); callWith cpos f first (backTo cpos (starEach [e] X.env)) (backToKw cpos (keywordEach [] X.env))) := by rfl) :
    Js X (Ga B Γ) (.Expr (.Call (.Attribute (.Name "self" pn) "fault" apos) [e] [] cpos) pos) ⟨N, rt, bk, ct⟩ :=
  s_exprN (e_oMeth (E := E) 0 (km_fault (P := X.prog) (w := X.w) (base := X.base) T) T.cl_Reader hr (ts, n, c) hn (passes_call tk' fun _ _ _ _ h => h) hΓ ha hΓ rfl hE hN hv (by decide) (by decide) hst hpl ht) hs
end
end Q
/-! The reader's steps. -/
namespace Q
open PySem PySem.Spec PyProof.Rows L2 Pt
open VahypBase (Bytes PTok Tok Toks isLetter isDigit inChunk isBlank)
open Vahypa (Pat Lst Word)
section
variable {X : Cx} {fr : Prop} {A A' A'' N bk ct : As} {B : Bs} {Γ : List Sl} {e : Expr} {pos : Pos} {P R : VP} {rt : V → Hp → Hp → Prop}
/-- an expression that never answers -/
theorem e_dead (h : Je fr X A e noP A') : Je fr X A e R A'' := pe_imp h fun σ H Q ⟨G, s, a, q⟩ => ⟨G, s, a, fun v G1 H1 p1 pv => pv.elim⟩
theorem s_setD (i : Nat) {x : Str} {pos' : Pos} (hN : X.N.Nodup) (he : Je False X A e P As.no) (hi : X.N[i]? = some x := by rfl) (hx : Loc X.env.scope x := by first | exact Or.inl rfl | exact Or.inr rfl) (hs : swapsWith e (some (.Name x pos')) pos.line X.env = pure false := by rfl) (hf : X.fn x = true ∨ X.env.scope.names.lookup x = some .local := by first | exact .inl rfl | exact .inr rfl) : Js X A (.Assign [.Name x pos'] e pos) ⟨N, rt, bk, ct⟩ :=
  ps_imp (ps_set hN hi hx he hs hf) fun D σ H ⟨G, s, a, n, r⟩ => ⟨G, s, a, fun v G1 H1 p1 pv => p1.a.elim⟩
theorem b_dead {rest : List Stmt} {o : Out} : Jb X As.no rest o := b_never fun _ _ _ h => h
end
def exI (r : Except VahypBase.Fault Nat) (n : Nat) : Nat := match r with
  | .ok m => m
  | .error _ => n
def exI2 {α : Type} (r : Except VahypBase.Fault (α × Nat)) (n : Nat) : Nat := match r with
  | .ok x => x.2
  | .error _ => n
section
variable {base : Heap} {P : Program} {w : World} {K : PySem.W.Frag} {mg : Str → Option Value}
abbrev sp_comes (K : PySem.W.Frag) : Sp := oSp (fun z : List PTok × Nat × Bytes × Str => z.2.1 < z.1.length ∧ z.2.2.2.cps.toList = z.2.2.1.map (fun b => b.toNat) ∧ z.2.2.1.length ≤ 100) (He.ga K "Reader") (fun z => rdF z.1 z.2.1) (fun z => [isS z.2.2.2]) (fun z => rdF z.1 z.2.1) (fun z => isB (nextW z.1 z.2.1 z.2.2.1)) (fun z => rdF z.1 z.2.1) fun _ => noX
theorem km_comes (T : Txt K mg) : Km P w K mg base CX0 2 (He.ga K "Reader") "comes" ["self", "text"] (sp_comes K) :=
  km_of T.me_Reader_comes (fn_own0 T.df_Reader_comes (fun _ => rfl) fun cdv A outer s H E z G a dx hz sG hr => by
    obtain ⟨ts, n, wd, tx⟩ := z
    obtain ⟨hn, ht, hw⟩ := hz
    refine b_one (s_retPO (e_and (e_cast (e_eqS (e_ixT (e_token T hr hn rfl) e_int rfl) (e_glob T.c_CHUNK)) (congrArg isB (srt_chunk _))) fun _ => e_one (e_cast (e_eqD hr (e_ixT (e_token T hr hn rfl) e_int rfl) (e_lc (own := [("sign", 2)]) tx.cps.toList (fun c => isS ⟨#[c]⟩) (fun _ => true) (fun c => natP c) sc_Reader_comes.nd (i_str (e_v 1 rfl)) (blkOk_by (by rfl)) ?_ (fun _ _ _ _ _ x _ => g_name 2 sc_Reader_comes.nd) (fun _ _ _ _ _ x _ => ts_nil) (fun _ _ _ _ _ x _ _ => e_ord T.n_ord (e_v 2 rfl))) (dp_L (dps_map (fun _ => dpc_by) _)) (dp_L (dps_map (fun _ => dp_nat) _)) (sh_bys _) ((sh_lst (n := 0) (sh_map (fun c => sh_num _) _)).ok (by decide)) ?_) rfl)) rfl)
    · have e : tx.cps.toList = wd.map fun b => b.toNat := ht
      rw [e, List.length_map, line_eq]
      have : wd.length ≤ 100 := hw
      omega
    · have e : tx.cps.toList = wd.map fun b => b.toNat := ht
      rw [filter_yes, e, List.map_map]
      exact eqv_bys _ _)
end
section
variable {X : Cx} {A A' N bk ct : As} {B : Bs} {Γ : List Sl} {e : Expr} {pos cpos apos pn : Pos} {rt : V → Hp → Hp → Prop} {ts : List PTok} {n c : Nat} {me : Bool} {E : XK} {pl : Sem Bool}
/-- self.comes(e) -/
theorem e_comes (T : Txt X.K X.mg) (hr : Room 2 X.A) (hn : n < ts.length) {wd : Bytes} {tx : Str} (h1 : tx.cps.toList = wd.map (fun b => b.toNat)) (h2 : wd.length ≤ 100) (hΓ : Γ[0]? = some (.obj me (He.ga X.K "Reader") (rdF ts n))) (ha : Ja False X (Ga B Γ) [e] [isS tx] (Ga B Γ)) (hN : X.N[0]? = some ("self" : Str) := by rfl) (hv : Vis X.env.scope "self" := by first | exact Or.inl rfl | exact Or.inr (Or.inl rfl) | exact Or.inr (Or.inr rfl))
    (hst : starEach [e] X.env = (false, eval e X.env) :: starEach [] X.env := by rfl) (hpl : (backTo pos (starEach [] X.env)).any (·.1) = false := by rfl)
    (ht : eval (.Call (.Attribute (.Name "self" pn) "comes" apos) [e] [] pos) X.env = (do let ov ← eval (.Name "self" pn) X.env; standAt apos.atName; let (f, first) ← holding [ov] (getMethod ov "comes" pl); callWith pos f first (backTo pos (starEach [e] X.env)) (backToKw pos (keywordEach [] X.env))) := by rfl) :
    Je False X (Ga B Γ) (.Call (.Attribute (.Name "self" pn) "comes" apos) [e] [] pos) (isB (nextW ts n wd)) (Ga B Γ) := by
  have h := e_oMeth (E := fun _ _ _ => False) (pos := pos) (apos := apos) (pn := pn) (B := B) 0 (km_comes (P := X.prog) (w := X.w) (base := X.base) T) T.cl_Reader hr (ts, n, wd, tx) ⟨hn, h1, h2⟩ pass0 hΓ ha hΓ rfl (fun _ _ _ _ _ _ _ z => z.elim) hN hv (by decide) (by decide) hst hpl ht
  rw [set_eq hΓ] at h
  exact h
end
section
variable {base : Heap} {P : Program} {w : World} {K : PySem.W.Frag} {mg : Str → Option Value}
abbrev tkOf (P : Program) (w : World) (K : PySem.W.Frag) (mg : Str → Option Value) (base : Heap) (N : List Str) (d : He.DefD) (f : Addr) (cdv : Value) (A : Around) (outer : List Env) (s : Shared) (H : Hp) (E : XK) : Prop := Takes (cxOf (L2.CX P w) P w K mg base N d.qual d.scope f cdv A outer s H E) (fun c d _ H => E c d H)
abbrev sp_take (K : PySem.W.Frag) : Sp := oSp (fun z : List PTok × Nat × Str × Except VahypBase.Fault Nat => z.2.1 < z.1.length ∧ z.2.2.2 = takeR z.1 z.2.1 (decide (V.str (srt (tk z.1 z.2.1)) = V.str z.2.2.1))) (He.ga K "Reader") (fun z => rdF z.1 z.2.1) (fun z => [isS z.2.2.1]) (fun z => rdF z.1 (exI z.2.2.2 z.2.1)) (fun z => okP z.2.2.2 fun _ => isN) (fun _ => rdA) fun z => erX K z.2.2.2
theorem km_take (T : Txt K mg) : Km P w K mg base (L2.CX P w) 4 (He.ga K "Reader") "take" ["self", "sort"] (sp_take K) :=
  km_of T.me_Reader_take (fn_ownX T.df_Reader_take (fun _ => rfl) fun cdv A outer s H E z G a dx hz sG hr hE => by
    obtain ⟨ts, n, want, r⟩ := z
    obtain ⟨hn, hw⟩ := hz
    have tk' : tkOf P w K mg base N_Reader_take d_Reader_take (He.ma K (He.ga K "Reader") "take") cdv A outer s H E := takes_of rfl rfl rfl rfl
    have hw' : r = takeR ts n (decide (V.str (srt (tk ts n)) = V.str want)) := hw
    refine b_when (t_neS (e_ixT (e_token T (hr.mono (by decide)) hn rfl) e_int rfl) (e_v 1 rfl)) (fun h => ?_) fun h => ?_
    · have e : r = .error (faultAt ts n 3) := by
        rw [hw', show decide (V.str (srt (tk ts n)) = V.str want) = false by simpa using h]; rfl
      subst e
      exact b_one (s_fault T hr hn tk' rfl (a_one (e_glob T.c_NOT_ALLOWED)) (hE.to rfl (fun _ _ h => h) fun _ _ _ z => z))
    · have e : r = .ok (n + 1) := by
        rw [hw', show decide (V.str (srt (tk ts n)) = V.str want) = true by simpa using h]; rfl
      subst e
      exact b_one (s_post (s_ofld 0 rfl T.cl_Reader T.na_Reader_at (e_add (e_ofld 0 rfl T.cl_Reader T.na_Reader_at rfl) e_int)) (le_nxO rfl)))
abbrev sp_takeW (K : PySem.W.Frag) : Sp := oSp (fun z : List PTok × Nat × Bytes × Str × Except VahypBase.Fault Nat => (z.2.1 < z.1.length ∧ z.2.2.2.1.cps.toList = z.2.2.1.map (fun b => b.toNat) ∧ z.2.2.1.length ≤ 100) ∧ z.2.2.2.2 = takeR z.1 z.2.1 (nextW z.1 z.2.1 z.2.2.1)) (He.ga K "Reader") (fun z => rdF z.1 z.2.1) (fun z => [isS z.2.2.2.1]) (fun z => rdF z.1 (exI z.2.2.2.2 z.2.1)) (fun z => okP z.2.2.2.2 fun _ => isN) (fun _ => rdA) fun z => erX K z.2.2.2.2
theorem km_takeW (T : Txt K mg) : Km P w K mg base (L2.CX P w) 4 (He.ga K "Reader") "take_chunk_of" ["self", "text"] (sp_takeW K) :=
  km_of T.me_Reader_take_chunk_of (fn_ownX T.df_Reader_take_chunk_of (fun _ => rfl) fun cdv A outer s H E z G a dx hz sG hr hE => by
    obtain ⟨ts, n, wd, tx, r⟩ := z
    obtain ⟨⟨hn, h1, h2⟩, hw⟩ := hz
    have tk' : tkOf P w K mg base N_Reader_take_chunk_of d_Reader_take_chunk_of (He.ma K (He.ga K "Reader") "take_chunk_of") cdv A outer s H E := takes_of rfl rfl rfl rfl
    have hw' : r = takeR ts n (nextW ts n wd) := hw
    refine b_when (k := !(nextW ts n wd)) (t_not (t_val (e_comes T (hr.mono (by decide)) hn h1 h2 rfl (a_one (e_v 1 rfl))))) (fun h => ?_) fun h => ?_
    · have e : r = .error (faultAt ts n 3) := by
        rw [hw', show nextW ts n wd = false by simpa using h]; rfl
      subst e
      exact b_one (s_fault T hr hn tk' rfl (a_one (e_glob T.c_NOT_ALLOWED)) (hE.to rfl (fun _ _ h => h) fun _ _ _ z => z))
    · have e : r = .ok (n + 1) := by
        rw [hw', show nextW ts n wd = true by simpa using h]; rfl
      subst e
      exact b_one (s_post (s_ofld 0 rfl T.cl_Reader T.na_Reader_at (e_add (e_ofld 0 rfl T.cl_Reader T.na_Reader_at rfl) e_int)) (le_nxO rfl)))
abbrev sp_chunk (K : PySem.W.Frag) : Sp := oSp (fun z : List PTok × Nat × Except VahypBase.Fault Bytes => z.2.1 < z.1.length ∧ z.2.2 = chunkR z.1 z.2.1) (He.ga K "Reader") (fun z => rdF z.1 z.2.1) (fun z => []) (fun z => rdF z.1 z.2.1) (fun z => okP z.2.2 fun b => bysP b) (fun _ => rdA) fun z => erX K z.2.2
theorem km_chunk (T : Txt K mg) : Km P w K mg base (L2.CX P w) 4 (He.ga K "Reader") "chunk" ["self"] (sp_chunk K) :=
  km_of T.me_Reader_chunk (fn_ownX T.df_Reader_chunk (fun _ => rfl) fun cdv A outer s H E z G a dx hz sG hr hE => by
    obtain ⟨ts, n, r⟩ := z
    obtain ⟨hn, hw⟩ := hz
    have tk' : tkOf P w K mg base N_Reader_chunk d_Reader_chunk (He.ma K (He.ga K "Reader") "chunk") cdv A outer s H E := takes_of rfl rfl rfl rfl
    have hw' : r = chunkR ts n := hw
    refine b_when (k := !isChunk (tk ts n)) (t_cast (t_neS (e_ixT (e_token T (hr.mono (by decide)) hn rfl) e_int rfl) (e_glob T.c_CHUNK)) (congrArg (! ·) (srt_chunk _))) (fun h => ?_) fun h => ?_
    · have e : r = .error (faultAt ts n 3) := by
        rw [hw']; unfold chunkR
        rw [if_neg (by simpa using h)]
      subst e
      exact b_one (s_fault T hr hn tk' rfl (a_one (e_glob T.c_NOT_ALLOWED)) (hE.to rfl (fun _ _ h => h) fun _ _ _ z => z))
    · have e : r = .ok (tby (tk ts n)) := by
        rw [hw']; unfold chunkR
        rw [if_pos (by simpa using h)]
      subst e
      exact b_one (s_retPO (e_ixT (e_token T (hr.mono (by decide)) hn rfl) e_int rfl) rfl))
end
section
variable {X : Cx} {A A' N bk ct : As} {B : Bs} {Γ : List Sl} {e : Expr} {pos cpos apos pn : Pos} {rt : V → Hp → Hp → Prop} {ts : List PTok} {n c : Nat} {me : Bool} {E : XK} {pl : Sem Bool}
/-- self.chunk() -/
theorem e_chunk (T : Txt X.K X.mg) (hr : Room 4 X.A) (hn : n < ts.length) (tk' : Takes X (fun c d _ H => E c d H)) (r : Except VahypBase.Fault Bytes) (e1 : r = chunkR ts n) (hΓ : Γ[0]? = some (.obj me (He.ga X.K "Reader") (rdF ts n))) (hE : ∀ c' d σ G H, Same G H → (Ga B (Γ.set 0 (.obj me (He.ga X.K "Reader") rdA))).p σ G H → (erX X.K r).p c' d G → E c' d H) (hN : X.N[0]? = some ("self" : Str) := by rfl) (hv : Vis X.env.scope "self" := by first | exact Or.inl rfl | exact Or.inr (Or.inl rfl) | exact Or.inr (Or.inr rfl))
    (ht : eval (.Call (.Attribute (.Name "self" pn) "chunk" apos) [] [] pos) X.env = (do let ov ← eval (.Name "self" pn) X.env; standAt apos.atName; let (f, first) ← holding [ov] (getMethod ov "chunk" pl); callWith pos f first (backTo pos (starEach [] X.env)) (backToKw pos (keywordEach [] X.env))) := by rfl) :
    Je False X (Ga B Γ) (.Call (.Attribute (.Name "self" pn) "chunk" apos) [] [] pos) (okP r fun b => bysP b) (Ga B Γ) := by
  have h := e_oMeth0 (E := E) (pos := pos) (apos := apos) (pn := pn) (B := B) 0 (km_chunk (P := X.prog) (w := X.w) (base := X.base) T) T.cl_Reader hr (ts, n, r) ⟨hn, e1⟩ (passes_call tk' fun _ _ _ _ h => h) hΓ rfl rfl hE hN hv (by decide) (by decide) ht
  rw [set_eq hΓ] at h
  exact h
end
end Q
/-! The reader's steps: margins, words, patterns. -/
namespace Q
open PySem PySem.Spec PyProof.Rows L2 Pt
open VahypBase (Bytes PTok Tok Toks isLetter isDigit inChunk isBlank)
open Vahypa (Pat Lst Word)
theorem chunkR_not_last {ts : List PTok} {n : Nat} {b : Bytes} (h : chunkR ts n = .ok b) : (tk ts n).tok ≠ .last ∧ b = tby (tk ts n) := by
  unfold chunkR at h
  split at h
  · rename_i z
    cases h
    exact ⟨chunk_not_last z, rfl⟩
  · cases h
theorem tby_len {ts : List PTok} {n : Nat} (R : RdOk ts) (hn : n < ts.length) (h : (tk ts n).tok ≠ .last) : (tby (tk ts n)).length ≤ 40 := by
  have ok := R.tok hn h
  unfold TokOk at ok
  unfold tby
  cases q : (tk ts n).tok with
  | chunk b => rw [q] at ok; exact ok
  | sign c => exact Nat.zero_le _
  | last => exact Nat.zero_le _
section
variable {base : Heap} {P : Program} {w : World} {K : PySem.W.Frag} {mg : Str → Option Value}
abbrev sp_margin (K : PySem.W.Frag) : Sp := oSp (fun z : List PTok × Nat × Except VahypBase.Fault (Nat × Nat) => z.2.1 < z.1.length ∧ z.2.2 = marginR z.1 z.2.1) (He.ga K "Reader") (fun z => rdF z.1 z.2.1) (fun z => []) (fun z => rdF z.1 (exI2 z.2.2 z.2.1)) (fun z => okP z.2.2 fun x => natP x.1) (fun _ => rdA) fun z => erX K z.2.2
theorem km_margin (T : Txt K mg) : Km P w K mg base (L2.CX P w) 5 (He.ga K "Reader") "margin" ["self"] (sp_margin K) :=
  km_of T.me_Reader_margin (fn_ownX T.df_Reader_margin (fun _ => rfl) fun cdv A outer s H E z G a dx hz sG hr hE => by
    obtain ⟨ts, n, r⟩ := z
    obtain ⟨hn, hw⟩ := hz
    have hn' : n < ts.length := hn
    have tk' : tkOf P w K mg base N_Reader_margin d_Reader_margin (He.ma K (He.ga K "Reader") "margin") cdv A outer s H E := takes_of rfl rfl rfl rfl
    have hw' : r = marginR ts n := hw
    unfold marginR at hw'
    cases hc : chunkR ts n with
    | error f =>
      rw [hc] at hw'
      have e : r = .error f := hw'
      subst e
      exact b_cons (s_setD (P := isN) 1 sc_Reader_margin.nd (e_dead (e_chunk T hr hn tk' (.error f) hc.symm rfl (hE.to rfl (fun _ _ h => h) fun _ _ _ z => z)))) b_dead
    | ok b =>
      rw [hc] at hw'
      have e0 : r = match marginOf b with
        | some v => .ok (v, n + 1)
        | none => .error (faultAt ts n 7) := hw'
      refine b_cons (s_set 1 sc_Reader_margin.nd (P := bysP b) (e_chunk T hr hn tk' (.ok b) hc.symm rfl fun c d σ G' H' _ _ z => z.elim)) ?_
      refine b_when (k := (marginOf b).isNone) (t_cast (k := !decide (b.length = 1) || !(decide (48 ≤ (b.headD 0).toNat) && decide ((b.headD 0).toNat ≤ 53))) (t_w (w_or (t_cast (t_neI (e_lenL T.n_len (e_v 1 rfl)) e_int) ?_) fun h => w_or1 (t_not (t_cast (t_lele (e_glob T.c_ZERO) (e_ixL (R := byP (b.headD 0)) (e_v 1 rfl) e_int ?_) (e_add (e_glob T.c_ZERO) (e_glob T.c_MOST_MARGIN))) ?_)))) ?_) (fun h => ?_) fun h => ?_
      · rw [List.length_map]
        refine congrArg (! ·) ?_
        rw [Bool.eq_iff_iff]; simp only [decide_eq_true_eq]; omega
      · have h1 : b.length = 1 := by simpa using h
        match b, h1 with
        | [d], _ => exact at_zero
      · rw [Bool.eq_iff_iff]; simp only [Bool.and_eq_true, decide_eq_true_eq]; omega
      · match b with
        | [] => rfl
        | [d] =>
          show (!(decide (48 ≤ d.toNat) && decide (d.toNat ≤ 53))) = (if isDigit d = true ∧ d.toNat - 48 ≤ 5 then some (d.toNat - 48) else none).isNone
          unfold isDigit
          by_cases hd : 48 ≤ d.toNat ∧ d.toNat ≤ 53
          · have h2 : decide (48 ≤ d.toNat ∧ d.toNat ≤ 57) = true ∧ d.toNat - 48 ≤ 5 := by simp only [decide_eq_true_eq]; omega
            rw [if_pos h2, decide_eq_true hd.1, decide_eq_true hd.2]; rfl
          · have h2 : ¬ (decide (48 ≤ d.toNat ∧ d.toNat ≤ 57) = true ∧ d.toNat - 48 ≤ 5) := by simp only [decide_eq_true_eq]; omega
            rw [if_neg h2]
            have : (decide (48 ≤ d.toNat) && decide (d.toNat ≤ 53)) = false := by
              rw [Bool.and_eq_false_iff]
              simp only [decide_eq_false_iff_not]; omega
            rw [this]; rfl
        | x :: y :: l => simp [marginOf]
      · cases hm : marginOf b with
        | some v => rw [hm] at h; cases h
        | none =>
          rw [hm] at e0
          have e : r = .error (faultAt ts n 7) := e0
          subst e
          exact b_one (s_fault T (hr.mono (by decide)) hn tk' rfl (a_one (e_glob T.c_NOT_SO)) (hE.to rfl (fun _ _ h => h) fun _ _ _ z => z))
      · cases hm : marginOf b with
        | none => (rw [hm] at h; cases h)
        | some v =>
          rw [hm] at e0
          have e : r = .ok (v, n + 1) := e0
          subst e
          have ev : ∃ d, b = [d] ∧ (d.toNat : Int) - 48 = (v : Int) := by
            unfold marginOf at hm
            match b, hm with
            | [d], hm =>
              dsimp only at hm
              split at hm
              · rename_i hd
                cases hm
                have := hd.1
                unfold isDigit at this
                simp only [decide_eq_true_eq] at this
                exact ⟨d, rfl, by omega⟩
              · cases hm
          obtain ⟨d, rfl, ev⟩ := ev
          refine b_cons (s_ofld 0 rfl T.cl_Reader T.na_Reader_at (e_add (e_ofld 0 rfl T.cl_Reader T.na_Reader_at rfl) e_int)) ?_
          exact b_one (s_retPO (e_cast (e_sub (e_ixL (R := byP d) (e_v 1 rfl) e_int rfl) (e_glob T.c_ZERO)) (congrArg isI ev)) rfl))
abbrev ltP (x : Bytes) : VP := isT (x.map byP)
abbrev byD (x : Bytes) : PyData := .tuple (x.map fun b => numD b.toNat)
theorem dp_lt {x : Bytes} : DPc K (ltP x) (byD x) := dp_T (dps_map (fun _ => dpc_by) x)
theorem sh_byD (x : Bytes) : Sh 1 (byD x) := sh_tup (sh_map (fun b => sh_num _) x)
theorem eqv_byD (x y : Bytes) : PyData.eqv (byD x) (byD y) = decide (x = y) := eqv_map eqv_by x y
theorem any_mem {α : Type} [DecidableEq α] (f : α → PyData) (h : ∀ a b, PyData.eqv (f a) (f b) = decide (a = b)) (x : α) (l : List α) [Decidable (x ∈ l)] : ((l.map f).any fun z => PyData.eqv z (f x)) = decide (x ∈ l) := by
  (rw [List.any_map, Bool.eq_iff_iff, List.any_eq_true, decide_eq_true_eq])
  constructor
  · rintro ⟨y, hy, e⟩
    have e1 : PyData.eqv (f y) (f x) = true := e
    rw [h] at e1
    rw [← of_decide_eq_true e1]; exact hy
  · intro hx
    exact ⟨x, hx, by show PyData.eqv (f x) (f x) = true; rw [h]; exact decide_eq_true rfl⟩
abbrev sp_rword (K : PySem.W.Frag) : Sp := oLSp (fun z : List PTok × Nat × List Bytes × Except VahypBase.Fault (Bytes × Nat) => (RdOk z.1 ∧ z.2.1 < z.1.length) ∧ z.2.2.2 = wordR z.1 z.2.1 z.2.2.1) (He.ga K "Reader") (fun z => rdF z.1 z.2.1) (fun z => z.2.2.1.map ltP) (fun z => rdF z.1 (exI2 z.2.2.2 z.2.1)) (fun z => okP z.2.2.2 fun x => ltP x.1) (fun _ => rdA) fun z => erX K z.2.2.2
theorem km_rword (T : Txt K mg) : Km P w K mg base (L2.CX P w) 5 (He.ga K "Reader") "word" ["self", "others"] (sp_rword K) :=
  km_of T.me_Reader_word (fn_ownLX T.df_Reader_word rfl fun cdv A outer s H E z G a dx hz sG hr hE => by
    obtain ⟨ts, n, os, r⟩ := z
    obtain ⟨⟨R, hn⟩, hw⟩ := hz
    have hn' : n < ts.length := hn
    have R' : RdOk ts := R
    have tk' : tkOf P w K mg base N_Reader_word d_Reader_word (He.ma K (He.ga K "Reader") "word") cdv A outer s H E := takes_of rfl rfl rfl rfl
    have hw' : r = wordR ts n os := hw
    unfold wordR at hw'
    cases hc : chunkR ts n with
    | error f =>
      rw [hc] at hw'
      have e : r = .error f := hw'
      subst e
      exact b_cons (s_setD 2 sc_Reader_word.nd (e_fn (kn_letters_of_word T) (hr.mono (by decide)) [] (by decide) (a_one (e_dead (e_chunk T hr hn tk' (.error f) hc.symm rfl (hE.to rfl (fun _ _ h => h) fun _ _ _ z => z)))))) b_dead
    | ok b =>
      obtain ⟨hl, eb⟩ := chunkR_not_last hc
      have hb : b.length ≤ 10000 := by
        rw [eb]
        have := tby_len R' hn' hl
        omega
      have hn1 := R'.next hn' hl
      rw [hc] at hw'
      refine b_cons (s_set 2 sc_Reader_word.nd (e_fn (kn_letters_of_word T) (hr.mono (by decide)) b hb (a_one (P := bysP b) (e_chunk T hr hn tk' (.ok b) hc.symm rfl fun c d σ G' H' _ _ z => z.elim)))) ?_
      cases hwd : wrdP b with
      | none =>
        have e0 : r = .error (faultAt ts n 7) := by
          rw [hw']
          show (match wrdP b with
            | none => Except.error (faultAt ts n 7)
            | some x => _) = _
          rw [hwd]
        subst e0
        exact b_when (k := true) (t_isN (P := isN) (e_v 2 rfl) nonP_N e_non) (fun _ => b_one (s_fault T (hr.mono (by decide)) hn tk' rfl (a_one (e_glob T.c_NOT_SO)) (hE.to rfl (fun _ _ h => h) fun _ _ _ z => z))) fun h => by cases h
      | some x =>
        have e0 : r = if decide (x ∈ os) = true then .error (faultAt ts n 5) else (takeR ts (n + 1) (isStop (tk ts (n + 1)))).map fun m => (x, m) := by
          rw [hw']
          show (match wrdP b with
            | none => Except.error (faultAt ts n 7)
            | some x => _) = _
          rw [hwd]
        refine b_when (k := false) (t_isN (P := ltP x) (e_v 2 rfl) nonP_T e_non) (fun h => by cases h) fun _ => ?_
        refine b_when (k := decide (x ∈ os)) (t_inLent 1 hr (P := ltP x) (e_v 2 rfl) rfl rfl dp_lt (dps_map (fun _ => dp_lt) os) ((sh_byD x).ok (by decide)) ((sh_lst (n := 1) (sh_map sh_byD os)).ok (by decide)) (any_mem byD eqv_byD x os)) (fun h => ?_) fun h => ?_
        · rw [if_pos h] at e0
          subst e0
          exact b_one (s_fault T (hr.mono (by decide)) hn tk' rfl (a_one (e_glob T.c_AGAIN)) (hE.to rfl (fun _ _ h => h) fun _ _ _ z => z))
        · rw [if_neg (by rw [h]; exact Bool.false_ne_true)] at e0
          refine b_cons (s_ofld 0 rfl T.cl_Reader T.na_Reader_at (e_add (e_ofld 0 rfl T.cl_Reader T.na_Reader_at rfl) e_int)) ?_
          cases ht : takeR ts (n + 1) (isStop (tk ts (n + 1))) with
          | error f =>
            rw [ht] at e0
            have e1 : r = .error f := e0
            subst e1
            exact b_cons (s_exprN (N := As.no) (e_oMeth (fr := False) 0 (km_take T) T.cl_Reader hr (ts, n + 1, "stop", .error f) ⟨hn1, by rw [srt_stop]; exact ht.symm⟩ (passes_call tk' fun _ _ _ _ h => h) rfl (a_one (e_glob T.c_STOP)) rfl rfl (hE.to rfl (fun _ _ h => h) fun _ _ _ z => z))) b_dead
          | ok m =>
            rw [ht] at e0
            have e1 : r = .ok (x, m) := e0
            subst e1
            exact b_cons (s_expr (P := isN) (e_oMeth (fr := False) 0 (km_take T) T.cl_Reader hr (ts, n + 1, "stop", .ok m) ⟨hn1, by rw [srt_stop]; exact ht.symm⟩ (passes_call tk' fun _ _ _ _ h => h) rfl (a_one (e_glob T.c_STOP)) rfl rfl fun c d σ G' H' _ _ z => z.elim)) (b_one (s_retPO (e_v 2 rfl) rfl)))

theorem nonP_opt {α : Type} {r : Option α} {f : α → VP} (h : ∀ a, nonP (f a) false) : nonP (optP r f) r.isNone := by
  cases r with
  | none => exact nonP_N
  | some a => exact h a
theorem nonP_nat {n : Nat} : nonP (natP n) false := nonP_V (decide_eq_false fun z => nomatch z)
abbrev sp_rpat (K : PySem.W.Frag) : Sp := oLSp (fun z : List PTok × Nat × List Pat × Except VahypBase.Fault (Pat × Nat) => (RdOk z.1 ∧ z.2.1 < z.1.length ∧ patsOk z.2.2.1) ∧ z.2.2.2 = patR z.1 z.2.1 z.2.2.1) (He.ga K "Reader") (fun z => rdF z.1 z.2.1) (fun z => z.2.2.1.map (patO K)) (fun z => rdF z.1 (exI2 z.2.2.2 z.2.1)) (fun z => okP z.2.2.2 fun x => patO K x.1) (fun _ => rdA) fun z => erX K z.2.2.2
theorem km_rpat (T : Txt K mg) : Km P w K mg base (L2.CX P w) 5 (He.ga K "Reader") "pattern" ["self", "others"] (sp_rpat K) :=
  km_of T.me_Reader_pattern (fn_ownLX T.df_Reader_pattern rfl fun cdv A outer s H E z G a dx hz sG hr hE => by
    obtain ⟨ts, n, os, r⟩ := z
    obtain ⟨⟨R, hn, hos⟩, hw⟩ := hz
    have hn' : n < ts.length := hn
    have R' : RdOk ts := R
    have hos' : patsOk os := hos
    have tk' : tkOf P w K mg base N_Reader_pattern d_Reader_pattern (He.ma K (He.ga K "Reader") "pattern") cdv A outer s H E := takes_of rfl rfl rfl rfl
    have hw' : r = patR ts n os := hw
    unfold patR at hw'
    cases hc : chunkR ts n with
    | error f =>
      rw [hc] at hw'
      have e : r = .error f := hw'
      subst e
      exact b_cons (s_setD 2 sc_Reader_pattern.nd (e_fn (kn_read_pattern T) (hr.mono (by decide)) [] (by decide) (a_one (e_dead (e_chunk T hr hn tk' (.error f) hc.symm rfl (hE.to rfl (fun _ _ h => h) fun _ _ _ z => z)))))) b_dead
    | ok b =>
      obtain ⟨hl, eb⟩ := chunkR_not_last hc
      have hb : b.length ≤ 10000 := by
        rw [eb]
        have := tby_len R' hn' hl
        omega
      have hn1 := R'.next hn' hl
      rw [hc] at hw'
      refine b_cons (s_set 2 sc_Reader_pattern.nd (e_fn (kn_read_pattern T) (hr.mono (by decide)) b hb (a_one (P := bysP b) (e_chunk T hr hn tk' (.ok b) hc.symm rfl fun c d σ G' H' _ _ z => z.elim)))) ?_
      cases hwd : Vahypa.patOf b with
      | none =>
        have e0 : r = .error (faultAt ts n 7) := by
          rw [hw']
          show (match Vahypa.patOf b with
            | none => Except.error (faultAt ts n 7)
            | some x => _) = _
          rw [hwd]
        subst e0
        exact b_when (k := true) (t_isN (P := isN) (e_v 2 rfl) nonP_N e_non) (fun _ => b_one (s_fault T (hr.mono (by decide)) hn tk' rfl (a_one (e_glob T.c_NOT_SO)) (hE.to rfl (fun _ _ h => h) fun _ _ _ z => z))) fun h => by cases h
      | some x =>
        have hx := pat_facts hwd
        have e0 : r = if (placeOf os (Vahypd.signsOf x)).isSome = true then .error (faultAt ts n 5) else (takeR ts (n + 1) (isStop (tk ts (n + 1)))).map fun m => (x, m) := by
          rw [hw']
          show (match Vahypa.patOf b with
            | none => Except.error (faultAt ts n 7)
            | some x => _) = _
          rw [hwd]
        refine b_when (k := false) (t_isN (P := patO K x) (e_v 2 rfl) nonP_O e_non) (fun h => by cases h) fun _ => ?_
        refine b_when (k := (placeOf os (Vahypd.signsOf x)).isSome) (t_cast (t_notN (P := optP (placeOf os (Vahypd.signsOf x)) natP) (e_fnLend 1 (kn_place_of T) (hr.mono (by decide)) (os, Vahypd.signsOf x) hos' rfl rfl (a_one (e_meth0 (km_signs T) T.cl_Pattern (hr.mono (by decide)) x hx.2.1 (e_v 2 rfl) rfl rfl)) rfl rfl (rigid_opt fun _ => rigid_V)) (nonP_opt fun _ => nonP_nat) e_non) (by cases placeOf os (Vahypd.signsOf x) <;> rfl)) (fun h => ?_) fun h => ?_
        · rw [if_pos h] at e0
          subst e0
          exact b_one (s_fault T (hr.mono (by decide)) hn tk' rfl (a_one (e_glob T.c_AGAIN)) (hE.to rfl (fun _ _ h => h) fun _ _ _ z => z))
        · rw [if_neg (by rw [h]; exact Bool.false_ne_true)] at e0
          refine b_cons (s_ofld 0 rfl T.cl_Reader T.na_Reader_at (e_add (e_ofld 0 rfl T.cl_Reader T.na_Reader_at rfl) e_int)) ?_
          cases ht : takeR ts (n + 1) (isStop (tk ts (n + 1))) with
          | error f =>
            rw [ht] at e0
            have e1 : r = .error f := e0
            subst e1
            exact b_cons (s_exprN (N := As.no) (e_oMeth (fr := False) 0 (km_take T) T.cl_Reader hr (ts, n + 1, "stop", .error f) ⟨hn1, by rw [srt_stop]; exact ht.symm⟩ (passes_call tk' fun _ _ _ _ h => h) rfl (a_one (e_glob T.c_STOP)) rfl rfl (hE.to rfl (fun _ _ h => h) fun _ _ _ z => z))) b_dead
          | ok m =>
            rw [ht] at e0
            have e1 : r = .ok (x, m) := e0
            subst e1
            exact b_cons (s_expr (P := isN) (e_oMeth (fr := False) 0 (km_take T) T.cl_Reader hr (ts, n + 1, "stop", .ok m) ⟨hn1, by rw [srt_stop]; exact ht.symm⟩ (passes_call tk' fun _ _ _ _ h => h) rfl (a_one (e_glob T.c_STOP)) rfl rfl fun c d σ G' H' _ _ z => z.elim)) (b_one (s_retPO (e_v 2 rfl) rfl)))
end
end Q
/-! A whole list, in the program's way. -/
namespace Q
open VahypBase (Bytes PTok Tok Toks Fault isLetter isDigit inChunk isBlank)
open Vahypa (Pat Lst Word)
theorem takeR_lt {ts : List PTok} {n m : Nat} {b : Bool} (h : takeR ts n b = .ok m) : b = true ∧ m = n + 1 := by
  unfold takeR at h
  split at h
  · rename_i z; cases h; exact ⟨z, rfl⟩
  · cases h
theorem nextW_not_last {ts : List PTok} {n : Nat} {wd : Bytes} (h : nextW ts n wd = true) : (tk ts n).tok ≠ .last := by
  unfold nextW at h
  rw [Bool.and_eq_true] at h
  exact chunk_not_last h.1
theorem marginR_lt {ts : List PTok} {n : Nat} {x : Nat × Nat} (R : RdOk ts) (hn : n < ts.length) (h : marginR ts n = .ok x) : x.2 < ts.length := by
  unfold marginR at h
  cases hc : chunkR ts n with
  | error f => rw [hc] at h; cases h
  | ok b =>
    rw [hc] at h
    have h' : (match marginOf b with
      | some v => Except.ok (v, n + 1)
      | none => Except.error (faultAt ts n 7)) = Except.ok x := h
    cases hm : marginOf b with
    | none => rw [hm] at h'; cases h'
    | some v =>
      rw [hm] at h'
      cases h'
      unfold chunkR at hc
      split at hc
      · rename_i z
        exact R.next hn (chunk_not_last z)
      · cases hc
theorem words_rest {ts : List PTok} (R : RdOk ts) : ∀ (k n : Nat) (ws : List Word) (y : List Word × Toks), n < ts.length → Vahypa.takeWords k ws (ts.drop n) = .ok y → ∃ m, m < ts.length ∧ y.2 = ts.drop m
  | 0, n, ws, y, hn, h => by cases h
  | k + 1, n, ws, y, hn, h => by
    cases hw : nextW ts n (VahypBase.word "word") with
    | false =>
      rw [words_end hn hw] at h
      cases h
      exact ⟨n, hn, rfl⟩
    | true =>
      obtain ⟨s1, s2⟩ := words_step (k := k) (ws := ws) R hn hw
      rcases Nat.lt_or_ge ws.length 24 with z | z
      · obtain ⟨s3, s4⟩ := s2 z
        cases hr : wordR ts (n + 1) (ws.map (·.x)) with
        | error f => rw [s3 f hr] at h; cases h
        | ok x =>
          obtain ⟨w, _, _, hm, e⟩ := s4 x.1 x.2 hr
          rw [e] at h
          exact words_rest R k x.2 _ y hm h
      · rw [s1 z] at h; cases h
theorem words_mono {ts : List PTok} (R : RdOk ts) : ∀ (k n : Nat) (ws ws' : List Word) (m : Nat), n < ts.length → Vahypa.takeWords k ws (ts.drop n) = .ok (ws', ts.drop m) → m < ts.length → n ≤ m
  | 0, n, ws, ws', m, hn, h, _ => by cases h
  | k + 1, n, ws, ws', m, hn, h, hm => by
    cases hw : nextW ts n (VahypBase.word "word") with
    | false =>
      rw [words_end hn hw] at h
      have e : ts.drop n = ts.drop m := (Prod.mk.inj (Except.ok.inj h)).2
      have := congrArg List.length e
      rw [List.length_drop, List.length_drop] at this
      omega
    | true =>
      obtain ⟨s1, s2⟩ := words_step (k := k) (ws := ws) R hn hw
      rcases Nat.lt_or_ge ws.length 24 with z | z
      · obtain ⟨s3, s4⟩ := s2 z
        cases hr : wordR ts (n + 1) (ws.map (·.x)) with
        | error f => rw [s3 f hr] at h; cases h
        | ok x =>
          obtain ⟨w, _, e3, hm', e⟩ := s4 x.1 x.2 hr
          rw [e] at h
          have := words_mono R k x.2 _ ws' m hm' h hm
          omega
      · rw [s1 z] at h; cases h
def wordsR (ts : List PTok) (n : Nat) : Except Fault (List Word × Nat) := (Vahypa.takeWords ((ts.drop n).length + 1) [] (ts.drop n)).map fun x => (x.1, ts.length - x.2.length)
theorem wordsR_lt {ts : List PTok} {n : Nat} {x : List Word × Nat} (R : RdOk ts) (hn : n < ts.length) (h : wordsR ts n = .ok x) : x.2 < ts.length ∧ Vahypa.takeWords ((ts.drop n).length + 1) [] (ts.drop n) = .ok (x.1, ts.drop x.2) := by
  unfold wordsR at h
  cases ht : Vahypa.takeWords ((ts.drop n).length + 1) [] (ts.drop n) with
  | error f => rw [ht] at h; cases h
  | ok y =>
    rw [ht] at h
    cases h
    obtain ⟨m, hm, e⟩ := words_rest R _ _ _ _ hn ht
    obtain ⟨ws, l⟩ := y
    have e' : l = ts.drop m := e
    subst e'
    dsimp only
    have : ts.length - (ts.drop m).length = m := by rw [List.length_drop]; omega
    rw [this]
    exact ⟨hm, rfl⟩
def patsL (ts : List PTok) : Nat → List Pat → Nat → Except Fault (List Pat × Nat)
  | 0, _, n => .error (faultAt ts n 3)
  | k + 1, ps, n => if nextW ts n (VahypBase.word "pattern") = true then (if 40 ≤ ps.length then .error (faultAt ts n 4) else (patR ts (n + 1) ps).bind fun x => patsL ts k (ps ++ [x.1]) x.2) else .ok (ps, n)
theorem patsL_eq {ts : List PTok} (R : RdOk ts) : ∀ (k n : Nat) (ps : List Pat), n < ts.length → ts.length - n < k → (∀ q ∈ ps, PatL q) →
    Vahypa.takePats k ps (ts.drop n) = (patsL ts k ps n).bind fun x => (takeR ts x.2 (isLast (tk ts x.2))).map fun _ => x.1
  | 0, n, ps, hn, hk, hp => by omega
  | k + 1, n, ps, hn, hk, hp => by
    unfold patsL
    cases hw : nextW ts n (VahypBase.word "pattern") with
    | false =>
      rw [pats_end R hn hw]
      show _ = (takeR ts n (isLast (tk ts n))).map fun _ => ps
      unfold takeR
      cases isLast (tk ts n) <;> rfl
    | true =>
      obtain ⟨s1, s2⟩ := pats_step (k := k) hp R hn hw
      rw [if_pos rfl]
      rcases Nat.lt_or_ge ps.length 40 with z | z
      · rw [if_neg (by omega)]
        obtain ⟨s3, s4⟩ := s2 z
        cases hr : patR ts (n + 1) ps with
        | error f => rw [s3 f hr]; rfl
        | ok x =>
          obtain ⟨_, ⟨c, hc⟩, hm, hml, e⟩ := s4 x.1 x.2 hr
          rw [e]
          exact patsL_eq R k x.2 (ps ++ [x.1]) hml (by omega) fun q hq => by
            (rcases List.mem_append.mp hq with hq | hq)
            · exact hp q hq
            · rw [List.mem_singleton.mp hq]; exact patL_of hc
      · rw [if_pos z, s1 z]; rfl
/-- what a table's patterns are like -/
structure PatsGood (ps : List Pat) : Prop where
  few : ps.length ≤ 40
  each : ∀ p ∈ ps, ∃ c, Vahypa.patOf c = some p
  apart : ps.Pairwise fun p q => Vahypd.signsOf p ≠ Vahypd.signsOf q
theorem PatsGood.nil : PatsGood [] := ⟨Nat.zero_le _, fun _ h => (by cases h), .nil⟩
theorem PatsGood.snoc {ps : List Pat} {p : Pat} {c : Bytes} (h : PatsGood ps) (hl : ps.length < 40) (hc : Vahypa.patOf c = some p) (hn : (placeOf ps (Vahypd.signsOf p)).isSome = false) : PatsGood (ps ++ [p]) := by
  refine ⟨by rw [List.length_append]; simp; omega, fun q hq => ?_, ?_⟩
  · (rcases List.mem_append.mp hq with hq | hq)
    · exact h.each q hq
    · rw [List.mem_singleton.mp hq]; exact ⟨c, hc⟩
  · rw [List.pairwise_append]
    refine ⟨h.apart, List.pairwise_singleton _ _, fun a ha b hb => ?_⟩
    rw [List.mem_singleton.mp hb]
    intro e
    unfold placeOf at hn
    have : ps.findIdx? (fun q => decide (Vahypd.signsOf q = Vahypd.signsOf p)) = none := by
      cases q : ps.findIdx? (fun q => decide (Vahypd.signsOf q = Vahypd.signsOf p)) with
      | none => rfl
      | some k => rw [q] at hn; cases hn
    rw [List.findIdx?_eq_none_iff] at this
    have := this a ha
    rw [decide_eq_false_iff_not] at this
    exact this e
theorem PatsGood.patL {ps : List Pat} (h : PatsGood ps) : ∀ p ∈ ps, PatL p := fun p hp => let ⟨c, e⟩ := h.each p hp; patL_of e
theorem patsL_good {ts : List PTok} (R : RdOk ts) : ∀ (k n : Nat) (ps : List Pat) (x : List Pat × Nat), n < ts.length → PatsGood ps → patsL ts k ps n = .ok x → PatsGood x.1 ∧ x.2 < ts.length
  | 0, n, ps, x, hn, hp, h => by cases h
  | k + 1, n, ps, x, hn, hp, h => by
    unfold patsL at h
    split at h
    · rename_i hw
      split at h
      · cases h
      · rename_i z
        obtain ⟨s3, s4⟩ := (pats_step (k := k) hp.patL R hn hw).2 (by omega)
        cases hr : patR ts (n + 1) ps with
        | error f => rw [hr] at h; cases h
        | ok y =>
          rw [hr] at h
          obtain ⟨hn1, ⟨c, hc⟩, hm, hml, e⟩ := s4 y.1 y.2 hr
          exact patsL_good R k y.2 _ x hml (hp.snoc (by omega) hc hn1) h
    · cases h; exact ⟨hp, hn⟩
def patsR (ts : List PTok) (n : Nat) : Except Fault (List Pat × Nat) := patsL ts (ts.length + 1) [] n
/-- more fuel, the same -/
theorem takePats_fuel {ts : List PTok} (R : RdOk ts) (n k j : Nat) (hn : n < ts.length) (hk : ts.length - n < k) (hj : ts.length - n < j) : Vahypa.takePats k [] (ts.drop n) = Vahypa.takePats j [] (ts.drop n) := by
  have key : ∀ (k j n : Nat) (ps : List Pat), n < ts.length → ts.length - n < k → ts.length - n < j → (∀ q ∈ ps, PatL q) → Vahypa.takePats k ps (ts.drop n) = Vahypa.takePats j ps (ts.drop n) := by
    intro k
    induction k with
    | zero => intro j n ps hn hk; omega
    | succ k ih =>
      intro j n ps hn hk hj hp
      obtain ⟨j, rfl⟩ : ∃ i, j = i + 1 := ⟨j - 1, by omega⟩
      cases hw : nextW ts n (VahypBase.word "pattern") with
      | false => rw [pats_end R hn hw, pats_end R hn hw]
      | true =>
        obtain ⟨s1, s2⟩ := pats_step (k := k) hp R hn hw
        obtain ⟨t1, t2⟩ := pats_step (k := j) hp R hn hw
        rcases Nat.lt_or_ge ps.length 40 with z | z
        · obtain ⟨s3, s4⟩ := s2 z
          obtain ⟨t3, t4⟩ := t2 z
          cases hr : patR ts (n + 1) ps with
          | error f => rw [s3 f hr, t3 f hr]
          | ok x =>
            obtain ⟨_, ⟨c, hc⟩, hm, hml, e⟩ := s4 x.1 x.2 hr
            obtain ⟨_, _, _, _, e'⟩ := t4 x.1 x.2 hr
            rw [e, e']
            exact ih j x.2 (ps ++ [x.1]) hml (by omega) (by omega) fun q hq => by
              (rcases List.mem_append.mp hq with hq | hq)
              · exact hp q hq
              · rw [List.mem_singleton.mp hq]; exact patL_of hc
        · rw [s1 z, t1 z]
  exact key k j n [] hn hk hj fun _ h => by cases h
def readR (ts : List PTok) : Except Fault Lst := (takeR ts 0 (nextW ts 0 (VahypBase.word "margins"))).bind fun n1 => (marginR ts n1).bind fun a => (marginR ts a.2).bind fun z => (takeR ts z.2 (isStop (tk ts z.2))).bind fun n4 => (wordsR ts n4).bind fun ws => (patsR ts ws.2).bind fun ps => (takeR ts ps.2 (isLast (tk ts ps.2))).map fun _ => ⟨a.1, z.1, ws.1, ps.1⟩
theorem RdOk.pos {ts : List PTok} (R : RdOk ts) : 0 < ts.length := by
  obtain ⟨⟨i, p, rfl, _⟩, _⟩ := R
  simp
theorem read_eq {b : Bytes} {ts : List PTok} (h : VahypBase.tokens b = .ok ts) : Vahypa.read b = readR ts := by
  have R := tokens_ok h
  unfold Vahypa.read readR
  rw [h]
  show ((VahypBase.takeWord "margins" ts).bind _) = _
  have e1 := word_eq R.pos "margins"
  rw [List.drop_zero] at e1
  rw [e1]
  cases h1 : takeR ts 0 (nextW ts 0 (VahypBase.word "margins")) with
  | error f => rfl
  | ok n1 =>
    obtain ⟨hb, hn⟩ := takeR_lt h1
    have l1 : n1 < ts.length := by rw [hn]; exact R.next R.pos (nextW_not_last hb)
    show ((Vahypa.takeMargin (ts.drop n1)).bind _) = ((marginR ts n1).bind _)
    rw [margin_eq l1]
    cases h2 : marginR ts n1 with
    | error f => rfl
    | ok a =>
      have l2 := marginR_lt R l1 h2
      show ((Vahypa.takeMargin (ts.drop a.2)).bind _) = ((marginR ts a.2).bind _)
      rw [margin_eq l2]
      cases h3 : marginR ts a.2 with
      | error f => rfl
      | ok z =>
        have l3 := marginR_lt R l2 h3
        show ((VahypBase.takeSign 59 (ts.drop z.2)).bind _) = ((takeR ts z.2 _).bind _)
        rw [stop_eq R l3]
        cases h4 : takeR ts z.2 (isStop (tk ts z.2)) with
        | error f => rfl
        | ok n4 =>
          obtain ⟨hb4, hn4⟩ := takeR_lt h4
          have l4 : n4 < ts.length := by rw [hn4]; exact R.next l3 (stop_not_last hb4)
          show ((Vahypa.takeWords ((ts.drop n4).length + 1) [] (ts.drop n4)).bind _) = ((wordsR ts n4).bind _)
          cases h5 : wordsR ts n4 with
          | error f =>
            have : Vahypa.takeWords ((ts.drop n4).length + 1) [] (ts.drop n4) = .error f := by
              unfold wordsR at h5
              cases q : Vahypa.takeWords ((ts.drop n4).length + 1) [] (ts.drop n4) with
              | error g => rw [q] at h5; cases h5; rfl
              | ok y => rw [q] at h5; cases h5
            rw [this]; rfl
          | ok ws =>
            obtain ⟨l5, e5⟩ := wordsR_lt R l4 h5
            rw [e5]
            show ((Vahypa.takePats ((ts.drop n4).length + 1) [] (ts.drop ws.2)).map _) = ((patsR ts ws.2).bind _)
            have mono : n4 ≤ ws.2 := words_mono R _ _ _ _ _ l4 e5 l5
            rw [takePats_fuel R ws.2 _ (ts.length + 1) l5 (by rw [List.length_drop]; omega) (by omega), patsL_eq R _ _ _ l5 (by omega) (fun _ h => by cases h)]
            unfold patsR
            cases h6 : patsL ts (ts.length + 1) [] ws.2 with
            | error f => rfl
            | ok ps =>
              show (((takeR ts ps.2 (isLast (tk ts ps.2))).map _).map _) = ((takeR ts ps.2 (isLast (tk ts ps.2))).map _)
              cases takeR ts ps.2 (isLast (tk ts ps.2)) <;> rfl
end Q
/-! A whole list read. -/
namespace Q
open PySem PySem.Spec PyProof.Rows L2 Pt
open VahypBase (Bytes PTok Tok Toks isLetter isDigit inChunk isBlank)
open Vahypa (Pat Lst Word)
theorem cps_word : (("word" : Str)).cps.toList = (VahypBase.word "word").map fun b => b.toNat := by decide +kernel
theorem cps_pattern : (("pattern" : Str)).cps.toList = (VahypBase.word "pattern").map fun b => b.toNat := by decide +kernel
theorem cps_margins : (("margins" : Str)).cps.toList = (VahypBase.word "margins").map fun b => b.toNat := by decide +kernel
theorem len_word : (VahypBase.word "word").length ≤ 100 := by decide +kernel
theorem len_pattern : (VahypBase.word "pattern").length ≤ 100 := by decide +kernel
theorem len_margins : (VahypBase.word "margins").length ≤ 100 := by decide +kernel
section
variable {X : Cx} {A N bk ct : As} {B : Bs} {Γ : List Sl} {Rs : List VP} {e : Expr} {pos : Pos} {P : VP} {rt : V → Hp → Hp → Prop}
theorem s_retOw {post : VP} {C : Addr} {fs gs : Fs} (he : Je False X A e P (Ga B Γ)) (h0 : Γ[0]? = some (.obj true C gs)) (hf : ∀ fv G, FldP gs fv G → FldP fs fv G) (q : ∀ v H, P.p v H → post.p v H := by exact fun _ _ h => h) : Js X A (.Return (some e) pos) ⟨N, rtO B C fs post, bk, ct⟩ := s_ret he fun σ v G H s a p => let ⟨fv, e1, e2⟩ := me_out a h0; ⟨a.1, fv, e1, hf _ _ e2, q v G p⟩
/-- found.append(e), e never answers -/
theorem s_never_append (i : Nat) {x : Str} {pn apos cpos : Pos} (he : Je False X (Ga B Γ) e P As.no) (h1 : Γ[i]? = some (.own Rs)) (hN : X.N[i]? = some x := by rfl) (hv : Vis X.env.scope x := by first | exact Or.inl rfl | exact Or.inr (Or.inl rfl) | exact Or.inr (Or.inr rfl))
    (hd : (x == ("__debug__" : Str)) = false := by decide) (hcd : (x == ("__classdict__" : Str)) = false := by decide) (hbase : attributeBase (.Name x pn) "append" X.env (eval (.Name x pn) X.env) = eval (.Name x pn) X.env := by rfl) (hline : (apos.endLine == cpos.line) = true := by rfl)
    (hfew : ((backTo cpos (starEach [e] X.env)).all (fun x => !x.1) && (backToKw cpos (keywordEach [] X.env)).all (fun x => x.1.isSome) && decide ([e].length + ([] : List Keyword).length + (if ([] : List Keyword).isEmpty then 0 else 1) < 30)) = true := by rfl)
    (hs : starEach [e] X.env = (false, eval e X.env) :: starEach [] X.env := by rfl) (hplain : (backTo cpos (starEach [] X.env)).any (·.1) = false := by rfl) (hsw : swapsWith (.Call (.Attribute (.Name x pn) "append" apos) [e] [] cpos) none pos.line X.env = pure false := by rfl) :
    Js X (Ga B Γ) (.Expr (.Call (.Attribute (.Name x pn) "append" apos) [e] [] cpos) pos) ⟨N, rt, bk, ct⟩ :=
  ps_imp (ps_expr (pe_bm PySem.F.plainAttrs_list PySem.F.slot_list_append PySem.F.type_list_append mt_append (pv i hN hv hd hcd) (pa_cons he pa_nil hs) hbase hfew hline hs hplain) hsw) fun D σ H ⟨G, s, a, n, r⟩ => by
    obtain ⟨o, e1, l, xs, rfl, g1, l1, b1, q1⟩ := ga_get a h1
    exact ⟨_, e1, .inl ⟨rfl, xs, SqL.of l1⟩, G, s, a, fun v G1 H1 p1 pv => p1.a.elim⟩
end
abbrev wdP (w : Word) : VP := ltP w.x
theorem PatsGood.ok {ps : List Pat} (h : PatsGood ps) : patsOk ps := ⟨Nat.le_trans h.few (by decide), fun p hp => let ⟨c, e⟩ := h.each p hp; (pat_facts e).2.1⟩
section
variable {base : Heap} {P : Program} {w : World} {K : PySem.W.Frag} {mg : Str → Option Value}
abbrev sp_words (K : PySem.W.Frag) : Sp := oSp (fun z : List PTok × Nat × Except VahypBase.Fault (List Word × Nat) => (RdOk z.1 ∧ z.2.1 < z.1.length) ∧ z.2.2 = wordsR z.1 z.2.1) (He.ga K "Reader") (fun z => rdF z.1 z.2.1) (fun z => []) (fun z => rdF z.1 (exI2 z.2.2 z.2.1)) (fun z => okP z.2.2 fun x => isL (x.1.map wdP)) (fun _ => rdA) fun z => erX K z.2.2
/-- the loop's state -/
structure WdSt (ts : List PTok) (n : Nat) (i : List Word × Nat × Nat) : Prop where
  le : i.2.1 < ts.length
  few : i.1.length ≤ 24
  fuel : ts.length - i.2.1 < i.2.2
  eq : Vahypa.takeWords ((ts.drop n).length + 1) [] (ts.drop n) = Vahypa.takeWords i.2.2 i.1 (ts.drop i.2.1)
theorem km_words (T : Txt K mg) : Km P w K mg base (L2.CX P w) 6 (He.ga K "Reader") "all_words" ["self"] (sp_words K) :=
  km_of T.me_Reader_all_words (fn_ownX T.df_Reader_all_words (fun _ => rfl) fun cdv A outer s H E z G a dx hz sG hr hE => by
    obtain ⟨ts, n, r⟩ := z
    obtain ⟨⟨R0, hn0⟩, hw⟩ := hz
    have R : RdOk ts := R0
    have hn : n < ts.length := hn0
    have hw' : r = wordsR ts n := hw
    have tk' : tkOf P w K mg base N_Reader_all_words d_Reader_all_words (He.ma K (He.ga K "Reader") "all_words") cdv A outer s H E := takes_of rfl rfl rfl rfl
    have err : ∀ f, Vahypa.takeWords ((ts.drop n).length + 1) [] (ts.drop n) = .error f → r = .error f := fun f e => by
      rw [hw']; unfold wordsR; rw [e]; rfl
    refine b_cons (s_own 1 sc_Reader_all_words.nd (l_lst a_nil)) ?_
    refine b_cons (M := As.ex fun i : {i : List Word × Nat // i.2 < ts.length ∧ Vahypa.takeWords ((ts.drop n).length + 1) [] (ts.drop n) = .ok (i.1, ts.drop i.2)} => Ga (Bs.me G H a dx) [.obj true (He.ga K "Reader") (rdF ts i.1.2), .own (i.1.1.map wdP)]) (s_while (fun i : {i : List Word × Nat × Nat // WdSt ts n i} => Ga (Bs.me G H a dx) [.obj true (He.ga K "Reader") (rdF ts i.1.2.1), .own (i.1.1.map wdP)]) (fun i => ts.length - i.1.2.1) (fun i => nextW ts i.1.2.1 (VahypBase.word "word"))
      ⟨([], n, (ts.drop n).length + 1), ⟨hn, Nat.zero_le _, by rw [List.length_drop]; show ts.length - n < ts.length - n + 1; omega, rfl⟩⟩ .refl (fun i => t_val (e_comes T (hr.mono (by decide)) i.2.le cps_word len_word rfl (a_one (e_glob T.c_WORD)))) (fun i hk => ?_) (fun i hk => ?_) (by exact passes_of rfl)) ?_
    · obtain ⟨⟨ws, m, k⟩, L⟩ := i
      have hm : m < ts.length := L.le
      have hk' : nextW ts m (VahypBase.word "word") = true := hk
      obtain ⟨k, rfl⟩ : ∃ j, k = j + 1 := ⟨k - 1, by have : ts.length - m < k := L.fuel; omega⟩
      obtain ⟨s1, s2⟩ := words_step (k := k) (ws := ws) R hm hk'
      have hm1 := R.next hm (nextW_not_last hk')
      refine b_when (k := decide (ws.length = 24)) (t_cast (t_eqI (e_ownLen 1 T.n_len rfl) (e_glob T.c_MOST_WORDS)) ?_) (fun h => ?_) fun h => ?_
      · rw [List.length_map, Bool.eq_iff_iff]; simp only [decide_eq_true_eq]; show (ws.length : Int) = 24 ↔ ws.length = 24; omega
      · have e : r = .error (faultAt ts m 4) := err _ (L.eq.trans (s1 (by have := of_decide_eq_true h; omega)))
        subst e
        exact b_one (s_fault T (hr.mono (by decide)) hm tk' rfl (a_one (e_glob T.c_TOO_MANY)) (hE.to rfl (fun _ _ h => h) fun _ _ _ z => z))
      · have hl : ws.length < 24 := by
          have h1 : ¬ ws.length = 24 := of_decide_eq_false h
          have h2 : ws.length ≤ 24 := L.few
          omega
        obtain ⟨s3, s4⟩ := s2 hl
        have hmap : (ws.map wdP) = (ws.map (·.x)).map ltP := by rw [List.map_map]; rfl
        refine b_cons (s_ofld 0 rfl T.cl_Reader T.na_Reader_at (e_add (e_ofld 0 rfl T.cl_Reader T.na_Reader_at rfl) e_int)) ?_
        cases hr2 : wordR ts (m + 1) (ws.map (·.x)) with
        | error f =>
          have e : r = .error f := err _ (L.eq.trans (s3 f hr2))
          subst e
          refine b_one (s_never_append (P := isN) 1 (e_dead (e_oMethL 0 1 (km_rword T) T.cl_Reader hr (ts, m + 1, ws.map (·.x), .error f) ⟨⟨R, hm1⟩, hr2.symm⟩ (passes_call tk' fun _ _ _ _ h => h) rfl rfl (congrArg some hmap) rfl (hE.to rfl (fun _ _ h => h) fun _ _ _ z => z))) rfl)
        | ok x =>
          obtain ⟨wd, e1, e2, e3, e4⟩ := s4 x.1 x.2 hr2
          refine b_one (s_post (s_append 1 (Ps := ws.map wdP) rfl rfl (P := ltP x.1) (e_oMethL 0 1 (km_rword T) T.cl_Reader hr (ts, m + 1, ws.map (·.x), .ok x) ⟨⟨R, hm1⟩, hr2.symm⟩ (passes_call tk' fun _ _ _ _ h => h) rfl rfl (congrArg some hmap) rfl fun c d σ G' H' _ _ z => z.elim) ?_) (le_less ⟨(ws ++ [wd], x.2, k), ⟨e3, by simp; omega, by show ts.length - x.2 < k; have : ts.length - m < k + 1 := L.fuel; omega, L.eq.trans e4⟩⟩ (by show ts.length - x.2 < ts.length - m; omega) (ga_le' ?_)))
          · rw [List.length_map, line_eq]; omega
          · refine .cons .rfl' (.cons (.inl ?_) .nil)
            rw [List.map_append, ← e1]; rfl
    · obtain ⟨⟨ws, m, k⟩, L⟩ := i
      have hm : m < ts.length := L.le
      obtain ⟨k, rfl⟩ : ∃ j, k = j + 1 := ⟨k - 1, by have : ts.length - m < k := L.fuel; omega⟩
      exact le_ex ⟨(ws, m), hm, L.eq.trans (words_end hm hk)⟩ .refl
    · refine b_ex fun ⟨⟨ws, m⟩, hm, e⟩ => ?_
      have hm' : m < ts.length := hm
      have e1 : r = .ok (ws, m) := by
        rw [hw']; unfold wordsR; rw [e]
        show Except.ok (ws, ts.length - (ts.drop m).length) = _
        rw [List.length_drop, show ts.length - (ts.length - m) = m by omega]
      subst e1
      exact b_one (s_retPO (e_thaw 1 rfl) rfl))

abbrev sp_pats (K : PySem.W.Frag) : Sp := oSp (fun z : List PTok × Nat × Except VahypBase.Fault (List Pat × Nat) => (RdOk z.1 ∧ z.2.1 < z.1.length) ∧ z.2.2 = patsR z.1 z.2.1) (He.ga K "Reader") (fun z => rdF z.1 z.2.1) (fun z => []) (fun z => rdF z.1 (exI2 z.2.2 z.2.1)) (fun z => okP z.2.2 fun x => patsP K x.1) (fun _ => rdA) fun z => erX K z.2.2
structure PtSt (ts : List PTok) (n : Nat) (i : List Pat × Nat × Nat) : Prop where
  le : i.2.1 < ts.length
  good : PatsGood i.1
  fuel : ts.length - i.2.1 < i.2.2
  eq : patsR ts n = patsL ts i.2.2 i.1 i.2.1
theorem km_pats (T : Txt K mg) : Km P w K mg base (L2.CX P w) 6 (He.ga K "Reader") "all_patterns" ["self"] (sp_pats K) :=
  km_of T.me_Reader_all_patterns (fn_ownX T.df_Reader_all_patterns (fun _ => rfl) fun cdv A outer s H E z G a dx hz sG hr hE => by
    obtain ⟨ts, n, r⟩ := z
    obtain ⟨⟨R0, hn0⟩, hw⟩ := hz
    have R : RdOk ts := R0
    have hn : n < ts.length := hn0
    have hw' : r = patsR ts n := hw
    have tk' : tkOf P w K mg base N_Reader_all_patterns d_Reader_all_patterns (He.ma K (He.ga K "Reader") "all_patterns") cdv A outer s H E := takes_of rfl rfl rfl rfl
    refine b_cons (s_own 1 sc_Reader_all_patterns.nd (l_lst a_nil)) ?_
    refine b_cons (M := As.ex fun i : {i : List Pat × Nat // r = .ok i} => Ga (Bs.me G H a dx) [.obj true (He.ga K "Reader") (rdF ts i.1.2), .own (i.1.1.map (patO K))]) (s_while (fun i : {i : List Pat × Nat × Nat // PtSt ts n i} => Ga (Bs.me G H a dx) [.obj true (He.ga K "Reader") (rdF ts i.1.2.1), .own (i.1.1.map (patO K))]) (fun i => ts.length - i.1.2.1) (fun i => nextW ts i.1.2.1 (VahypBase.word "pattern"))
      ⟨([], n, ts.length + 1), ⟨hn, PatsGood.nil, by show ts.length - n < ts.length + 1; omega, rfl⟩⟩ .refl (fun i => t_val (e_comes T (hr.mono (by decide)) i.2.le cps_pattern len_pattern rfl (a_one (e_glob T.c_PATTERN)))) (fun i hk => ?_) (fun i hk => ?_) (by exact passes_of rfl)) ?_
    · obtain ⟨⟨ps, m, k⟩, L⟩ := i
      have hm : m < ts.length := L.le
      have good : PatsGood ps := L.good
      have hk' : nextW ts m (VahypBase.word "pattern") = true := hk
      obtain ⟨k, rfl⟩ : ∃ j, k = j + 1 := ⟨k - 1, by have : ts.length - m < k := L.fuel; omega⟩
      have eq : patsR ts n = if 40 ≤ ps.length then .error (faultAt ts m 4) else (patR ts (m + 1) ps).bind fun x => patsL ts k (ps ++ [x.1]) x.2 := by
        rw [show patsR ts n = patsL ts (k + 1) ps m from L.eq]
        show (if nextW ts m (VahypBase.word "pattern") = true then _ else _) = _
        rw [if_pos hk']
      have hm1 := R.next hm (nextW_not_last hk')
      refine b_when (k := decide (ps.length = 40)) (t_cast (t_eqI (e_ownLen 1 T.n_len rfl) (e_glob T.c_MOST_PATTERNS)) ?_) (fun h => ?_) fun h => ?_
      · rw [List.length_map, Bool.eq_iff_iff]; simp only [decide_eq_true_eq]; show (ps.length : Int) = 40 ↔ ps.length = 40; omega
      · have e : r = .error (faultAt ts m 4) := by
          rw [hw', eq, if_pos (by have := of_decide_eq_true h; omega)]
        subst e
        exact b_one (s_fault T (hr.mono (by decide)) hm tk' rfl (a_one (e_glob T.c_TOO_MANY)) (hE.to rfl (fun _ _ h => h) fun _ _ _ z => z))
      · have hl : ps.length < 40 := by
          have h1 : ¬ ps.length = 40 := of_decide_eq_false h
          have h2 := good.few
          omega
        rw [if_neg (by omega)] at eq
        refine b_cons (s_ofld 0 rfl T.cl_Reader T.na_Reader_at (e_add (e_ofld 0 rfl T.cl_Reader T.na_Reader_at rfl) e_int)) ?_
        cases hr2 : patR ts (m + 1) ps with
        | error f =>
          have e : r = .error f := by rw [hw', eq, hr2]; rfl
          subst e
          exact b_one (s_never_append (P := isN) 1 (e_dead (e_oMethL 0 1 (km_rpat T) T.cl_Reader hr (ts, m + 1, ps, .error f) ⟨⟨R, hm1, good.ok⟩, hr2.symm⟩ (passes_call tk' fun _ _ _ _ h => h) rfl rfl rfl rfl (hE.to rfl (fun _ _ h => h) fun _ _ _ z => z))) rfl)
        | ok x =>
          obtain ⟨s3, s4⟩ := (pats_step (k := k) good.patL R hm hk').2 hl
          obtain ⟨hp1, ⟨c, hc⟩, e2, e3, _⟩ := s4 x.1 x.2 hr2
          have eq2 : patsR ts n = patsL ts k (ps ++ [x.1]) x.2 := by rw [eq, hr2]; rfl
          refine b_one (s_post (s_append 1 (Ps := ps.map (patO K)) rfl rfl (P := patO K x.1) (e_oMethL 0 1 (km_rpat T) T.cl_Reader hr (ts, m + 1, ps, .ok x) ⟨⟨R, hm1, good.ok⟩, hr2.symm⟩ (passes_call tk' fun _ _ _ _ h => h) rfl rfl rfl rfl fun c d σ G' H' _ _ z => z.elim) ?_) (le_less ⟨(ps ++ [x.1], x.2, k), ⟨e3, good.snoc hl hc hp1, by show ts.length - x.2 < k; have : ts.length - m < k + 1 := L.fuel; omega, eq2⟩⟩ (by show ts.length - x.2 < ts.length - m; omega) (ga_le' ?_)))
          · rw [List.length_map, line_eq]; omega
          · refine .cons .rfl' (.cons (.inl ?_) .nil)
            rw [List.map_append]; rfl
    · obtain ⟨⟨ps, m, k⟩, L⟩ := i
      have hm : m < ts.length := L.le
      have hk' : nextW ts m (VahypBase.word "pattern") = false := hk
      obtain ⟨k, rfl⟩ : ∃ j, k = j + 1 := ⟨k - 1, by have : ts.length - m < k := L.fuel; omega⟩
      refine le_ex ⟨(ps, m), ?_⟩ .refl
      rw [hw', show patsR ts n = patsL ts (k + 1) ps m from L.eq]
      show (if nextW ts m (VahypBase.word "pattern") = true then _ else _) = _
      rw [if_neg (by rw [hk']; exact Bool.false_ne_true)]
    · refine b_ex fun ⟨⟨ps, m⟩, e⟩ => ?_
      subst e
      exact b_one (s_retPO (e_thaw 1 rfl) rfl))
abbrev sp_listed (K : PySem.W.Frag) : Sp := oSp (fun z : List PTok × Except VahypBase.Fault Lst => RdOk z.1 ∧ z.2 = readR z.1) (He.ga K "Reader") (fun z => rdF z.1 0) (fun z => []) (fun _ => rdA) (fun z => okP z.2 fun x => lstO K x) (fun _ => rdA) fun z => erX K z.2
theorem km_listed (T : Txt K mg) : Km P w K mg base (L2.CX P w) 7 (He.ga K "Reader") "listed" ["self"] (sp_listed K) :=
  km_of T.me_Reader_listed (fn_ownX T.df_Reader_listed (fun _ => rfl) fun cdv A outer s H E z G a dx hz sG hr hE => by
    obtain ⟨ts, r⟩ := z
    obtain ⟨R0, hw⟩ := hz
    have R : RdOk ts := R0
    have hw' : r = readR ts := hw
    have hp := R.pos
    have tk' : tkOf P w K mg base N_Reader_listed d_Reader_listed (He.ma K (He.ga K "Reader") "listed") cdv A outer s H E := takes_of rfl rfl rfl rfl
    unfold readR at hw'
    cases h1 : takeR ts 0 (nextW ts 0 (VahypBase.word "margins")) with
    | error f =>
      rw [h1] at hw'
      have e : r = .error f := hw'
      subst e
      exact b_cons (s_exprN (N := As.no) (e_oMeth (fr := False) 0 (km_takeW T) T.cl_Reader (hr.mono (by decide)) (ts, 0, VahypBase.word "margins", "margins", .error f) ⟨⟨hp, cps_margins, len_margins⟩, h1.symm⟩ (passes_call tk' fun _ _ _ _ h => h) rfl (a_one (e_glob T.c_MARGINS)) rfl rfl (hE.to rfl (fun _ _ h => h) fun _ _ _ z => z))) b_dead
    | ok n1 =>
      rw [h1] at hw'
      change r = (marginR ts n1).bind _ at hw'
      obtain ⟨hb1, hn1⟩ := takeR_lt h1
      have l1 : n1 < ts.length := by rw [hn1]; exact R.next hp (nextW_not_last hb1)
      refine b_cons (s_expr (P := isN) (e_oMeth (fr := False) 0 (km_takeW T) T.cl_Reader (hr.mono (by decide)) (ts, 0, VahypBase.word "margins", "margins", .ok n1) ⟨⟨hp, cps_margins, len_margins⟩, h1.symm⟩ (passes_call tk' fun _ _ _ _ h => h) rfl (a_one (e_glob T.c_MARGINS)) rfl rfl fun c d σ G' H' _ _ z => z.elim)) ?_
      cases h2 : marginR ts n1 with
      | error f =>
        rw [h2] at hw'
        have e : r = .error f := hw'
        subst e
        exact b_cons (s_setD (P := isN) 1 sc_Reader_listed.nd (e_dead (e_oMeth0 0 (km_margin T) T.cl_Reader (hr.mono (by decide)) (ts, n1, .error f) ⟨l1, h2.symm⟩ (passes_call tk' fun _ _ _ _ h => h) rfl rfl rfl (hE.to rfl (fun _ _ h => h) fun _ _ _ z => z)))) b_dead
      | ok x =>
        rw [h2] at hw'
        change r = (marginR ts x.2).bind _ at hw'
        have l2 := marginR_lt R l1 h2
        refine b_cons (s_set (P := natP x.1) 1 sc_Reader_listed.nd (e_oMeth0 0 (km_margin T) T.cl_Reader (hr.mono (by decide)) (ts, n1, .ok x) ⟨l1, h2.symm⟩ (passes_call tk' fun _ _ _ _ h => h) rfl rfl rfl fun c d σ G' H' _ _ z => z.elim)) ?_
        cases h3 : marginR ts x.2 with
        | error f =>
          rw [h3] at hw'
          have e : r = .error f := hw'
          subst e
          exact b_cons (s_setD (P := isN) 2 sc_Reader_listed.nd (e_dead (e_oMeth0 0 (km_margin T) T.cl_Reader (hr.mono (by decide)) (ts, x.2, .error f) ⟨l2, h3.symm⟩ (passes_call tk' fun _ _ _ _ h => h) rfl rfl rfl (hE.to rfl (fun _ _ h => h) fun _ _ _ z => z)))) b_dead
        | ok z =>
          rw [h3] at hw'
          change r = (takeR ts z.2 _).bind _ at hw'
          have l3 := marginR_lt R l2 h3
          refine b_cons (s_set (P := natP z.1) 2 sc_Reader_listed.nd (e_oMeth0 0 (km_margin T) T.cl_Reader (hr.mono (by decide)) (ts, x.2, .ok z) ⟨l2, h3.symm⟩ (passes_call tk' fun _ _ _ _ h => h) rfl rfl rfl fun c d σ G' H' _ _ z => z.elim)) ?_
          cases h4 : takeR ts z.2 (isStop (tk ts z.2)) with
          | error f =>
            rw [h4] at hw'
            have e : r = .error f := hw'
            subst e
            exact b_cons (s_exprN (N := As.no) (e_oMeth (fr := False) 0 (km_take T) T.cl_Reader (hr.mono (by decide)) (ts, z.2, "stop", .error f) ⟨l3, by rw [srt_stop]; exact h4.symm⟩ (passes_call tk' fun _ _ _ _ h => h) rfl (a_one (e_glob T.c_STOP)) rfl rfl (hE.to rfl (fun _ _ h => h) fun _ _ _ z => z))) b_dead
          | ok n4 =>
            rw [h4] at hw'
            change r = (wordsR ts n4).bind _ at hw'
            obtain ⟨hb4, hn4⟩ := takeR_lt h4
            have l4 : n4 < ts.length := by rw [hn4]; exact R.next l3 (stop_not_last hb4)
            refine b_cons (s_expr (P := isN) (e_oMeth (fr := False) 0 (km_take T) T.cl_Reader (hr.mono (by decide)) (ts, z.2, "stop", .ok n4) ⟨l3, by rw [srt_stop]; exact h4.symm⟩ (passes_call tk' fun _ _ _ _ h => h) rfl (a_one (e_glob T.c_STOP)) rfl rfl fun c d σ G' H' _ _ z => z.elim)) ?_
            cases h5 : wordsR ts n4 with
            | error f =>
              rw [h5] at hw'
              have e : r = .error f := hw'
              subst e
              exact b_cons (s_setD (P := isN) 3 sc_Reader_listed.nd (e_dead (e_oMeth0 0 (km_words T) T.cl_Reader hr (ts, n4, .error f) ⟨⟨R, l4⟩, h5.symm⟩ (passes_call tk' fun _ _ _ _ h => h) rfl rfl rfl (hE.to rfl (fun _ _ h => h) fun _ _ _ z => z)))) b_dead
            | ok ws =>
              rw [h5] at hw'
              change r = (patsR ts ws.2).bind _ at hw'
              have l5 := (wordsR_lt R l4 h5).1
              refine b_cons (s_set (P := isL (ws.1.map wdP)) 3 sc_Reader_listed.nd (e_oMeth0 0 (km_words T) T.cl_Reader hr (ts, n4, .ok ws) ⟨⟨R, l4⟩, h5.symm⟩ (passes_call tk' fun _ _ _ _ h => h) rfl rfl rfl fun c d σ G' H' _ _ z => z.elim)) ?_
              cases h6 : patsR ts ws.2 with
              | error f =>
                rw [h6] at hw'
                have e : r = .error f := hw'
                subst e
                exact b_cons (s_setD (P := isN) 4 sc_Reader_listed.nd (e_dead (e_oMeth0 0 (km_pats T) T.cl_Reader hr (ts, ws.2, .error f) ⟨⟨R, l5⟩, h6.symm⟩ (passes_call tk' fun _ _ _ _ h => h) rfl rfl rfl (hE.to rfl (fun _ _ h => h) fun _ _ _ z => z)))) b_dead
              | ok ps =>
                rw [h6] at hw'
                change r = (takeR ts ps.2 _).map _ at hw'
                obtain ⟨good, l6⟩ := patsL_good R _ _ _ _ l5 PatsGood.nil h6
                refine b_cons (s_set (P := patsP K ps.1) 4 sc_Reader_listed.nd (e_oMeth0 0 (km_pats T) T.cl_Reader hr (ts, ws.2, .ok ps) ⟨⟨R, l5⟩, h6.symm⟩ (passes_call tk' fun _ _ _ _ h => h) rfl rfl rfl fun c d σ G' H' _ _ z => z.elim)) ?_
                cases h7 : takeR ts ps.2 (isLast (tk ts ps.2)) with
                | error f =>
                  rw [h7] at hw'
                  have e : r = .error f := hw'
                  subst e
                  exact b_cons (s_exprN (N := As.no) (e_oMeth (fr := False) 0 (km_take T) T.cl_Reader (hr.mono (by decide)) (ts, ps.2, "end", .error f) ⟨l6, by rw [srt_last]; exact h7.symm⟩ (passes_call tk' fun _ _ _ _ h => h) rfl (a_one (e_glob T.c_END)) rfl rfl (hE.to rfl (fun _ _ h => h) fun _ _ _ z => z))) b_dead
                | ok n7 =>
                  rw [h7] at hw'
                  have e : r = .ok ⟨x.1, z.1, ws.1, ps.1⟩ := hw'
                  subst e
                  refine b_cons (s_expr (P := isN) (e_oMeth (fr := False) 0 (km_take T) T.cl_Reader (hr.mono (by decide)) (ts, ps.2, "end", .ok n7) ⟨l6, by rw [srt_last]; exact h7.symm⟩ (passes_call tk' fun _ _ _ _ h => h) rfl (a_one (e_glob T.c_END)) rfl rfl fun c d σ G' H' _ _ z => z.elim)) ?_
                  exact b_one (s_retOw (e_make (kc_Listed T) (hr.mono (by decide)) (⟨x.1, z.1, ws.1, ps.1⟩ : Lst) trivial (a_cons (e_v 1 rfl) (a_cons (e_v 2 rfl) (a_cons (e_cast (e_lenL T.n_len (e_v 3 rfl)) (by rw [List.length_map])) (a_one (e_v 4 rfl)))))) rfl rd_any))
theorem rdOk_one : RdOk [⟨0, .last⟩] := ⟨⟨[], 0, rfl, fun _ h => (by cases h)⟩, by decide⟩
abbrev sp_read_list (K : PySem.W.Frag) : Sp := fSp (fun bs : Bytes => bs.length ≤ 8192) (fun bs => [bysP bs]) (fun bs => okP (Vahypa.read bs) fun x => lstO K x) fun bs => erX K (Vahypa.read bs)
theorem kn_read_list (T : Txt K mg) : Kn P w K mg base (L2.CX P w) 8 "read_list" ["text"] (sp_read_list K) :=
  kn_of T.g_read_list (fn_plainX T.df_read_list (fun _ => rfl) fun cdv A outer s H E bs G hz sG hr hE => by
    have tk' : tkOf P w K mg base N_read_list d_read_list (He.ga K "read_list") cdv A outer s H E := takes_of rfl rfl rfl rfl
    cases ht : VahypBase.tokens bs with
    | error f =>
      have e : Vahypa.read bs = .error f := by unfold Vahypa.read; rw [ht]; rfl
      have e' : erX K (VahypBase.tokens bs) = erX K (Vahypa.read bs) := by rw [e, ht]; rfl
      have hE' : XF (Bs.pl G H) (erX K (VahypBase.tokens bs)) E := by rw [e']; exact hE
      refine b_one (s_ret (e_makeMeth (A' := As.no) (kc_Reader T) (hr.mono (by decide)) [⟨0, .last⟩] trivial (km_listed T) T.cl_Reader hr ([⟨0, .last⟩], readR [⟨0, .last⟩]) ⟨rdOk_one, rfl⟩ rfl rfl rfl (passes_call tk' fun _ _ _ _ h => h) (a_one (e_dead (e_imp (e_fnX (kn_tokens_of T) (hr.mono (by decide)) bs hz tk' (a_one (e_v 0 rfl)) (hE'.to fun _ _ _ z => z)) fun v H z => ?_))) fun _ _ _ _ _ _ a _ => a.elim) fun _ _ _ _ _ a _ => a.elim)
      rw [ht] at z; exact z
    | ok ts =>
      have e := read_eq ht
      have hE' : XF (Bs.pl G H) (erX K (readR ts)) E := by rw [← e]; exact hE
      refine b_one (s_retP (e_cast (e_makeMeth (kc_Reader T) (hr.mono (by decide)) ts trivial (km_listed T) T.cl_Reader hr (ts, readR ts) ⟨tokens_ok ht, rfl⟩ rfl rfl rfl (passes_call tk' fun _ _ _ _ h => h) (a_one (e_cast (e_fnX (kn_tokens_of T) (hr.mono (by decide)) bs hz tk' (a_one (e_v 0 rfl)) fun c d σ G' H' _ _ z => ?_) ?_)) (hE'.to fun _ _ _ z => z)) ?_))
      · rw [ht] at z; exact z.elim
      · rw [ht]; rfl
      · show okP (readR ts) (fun x => lstO K x) = okP (Vahypa.read bs) (fun x => lstO K x)
        rw [e])
end
end Q
/-! Tables. -/
namespace Q
open PySem PySem.Spec PyProof.Rows L2 Pt
open VahypBase (Bytes)
open Vahypa (Pat)
open Vahypd (Node Table nodeAt kidAt nodesBy findOut)
abbrev kidP (x : Nat × Nat) : VP := isT [natP x.1, natP x.2]
abbrev kidsP (l : List (Nat × Nat)) : VP := isT (l.map kidP)
abbrev nodP (n : Node) : VP := isT [optP n.out natsP, kidsP n.kids]
abbrev tabF (t : Table × Nat) : Fs := [("nodes", isL (t.1.map nodP)), ("first", natP t.2)]
abbrev tabO (K : PySem.W.Frag) (t : Table × Nat) : VP := isO (He.ga K "Table") (tabF t)
/-- a table that one can go through -/
structure TabIn (t : Table × Nat) : Prop where
  first : t.2 < t.1.length
  kids : ∀ (k : Nat) (n : Node), t.1[k]? = some n → ∀ x ∈ n.kids, x.2 < k
  few : t.1.length ≤ 1000
  thin : ∀ n ∈ t.1, n.kids.length ≤ 2000
theorem node_at {t : Table} {k : Nat} (h : k < t.length) : t[k]? = some (nodeAt t k) := by
  unfold nodeAt
  rw [List.getElem?_eq_getElem h]; rfl
theorem kid_lt {t : Table × Nat} (T : TabIn t) {k s j : Nat} (hk : k < t.1.length) (h : kidAt t.1 k s = some j) : j < k := by
  unfold kidAt at h
  cases q : (nodeAt t.1 k).kids.find? fun x => x.1 == s with
  | none => rw [q] at h; cases h
  | some x =>
    rw [q] at h
    cases h
    exact T.kids k _ (node_at hk) x (List.mem_of_find?_eq_some q)
/-- for each node how many ends are told from it on -/
def endsOf (t : Table) : List Nat := t.foldl (fun l n => l ++ [(if n.out.isSome = true then 1 else 0) + (n.kids.map fun x => l.getD x.2 0).sum]) []
theorem endsOf_snoc (t : Table) (n : Node) : endsOf (t ++ [n]) = endsOf t ++ [(if n.out.isSome = true then 1 else 0) + (n.kids.map fun x => (endsOf t).getD x.2 0).sum] := by
  unfold endsOf
  rw [List.foldl_append]; rfl
theorem endsOf_len : ∀ t : Table, (endsOf t).length = t.length := by
  have key : ∀ (t : Table) (l : List Nat), (t.foldl (fun l (n : Node) => l ++ [(if n.out.isSome = true then 1 else 0) + (n.kids.map fun x => l.getD x.2 0).sum]) l).length = l.length + t.length := by
    intro t
    induction t with
    | nil => intro l; rfl
    | cons n r ih =>
      intro l
      rw [List.foldl_cons, ih, List.length_append]
      (simp only [List.length_cons, List.length_nil])
      omega
  intro t
  have := key t []
  rw [List.length_nil, Nat.zero_add] at this
  exact this
theorem take_snoc {α : Type} {l : List α} {k : Nat} {a : α} (h : l[k]? = some a) : l.take (k + 1) = l.take k ++ [a] := by
  rw [List.take_succ, h]; rfl
theorem nonP_isT {Ps : List VP} : nonP (isT Ps) false := nonP_T
section
variable {base : Heap} {P : Program} {w : World} {K : PySem.W.Frag} {mg : Str → Option Value}
theorem kc_Table (T : Txt K mg) : Kc P w K mg base 1 "Table" (He.ga K "Table") ["self", "nodes", "first"] (oSp (fun _ : Table × Nat => True) (He.ga K "Table") (fun _ => []) (fun t => [isL (t.1.map nodP), natP t.2]) tabF (fun _ => isN) tabF fun _ => noX) :=
  kc_of T.mk_Table T.g_Table (fn_own0 T.df_Table_init (fun _ => rfl) fun cdv A outer s H E z G a dx hz sG hr =>
    b_cons (s_ofld 0 rfl T.cl_Table T.na_Table_nodes (e_v 1 rfl)) (b_one (s_post (s_ofld 0 rfl T.cl_Table T.na_Table_first (e_v 2 rfl)) (le_nxO rfl))))
abbrev sp_next (K : PySem.W.Frag) : Sp := fSp (fun z : (Table × Nat) × Nat × Nat => z.2.1 < z.1.1.length) (fun z => [tabO K z.1, natP z.2.1, natP z.2.2]) (fun z => optP (kidAt z.1.1 z.2.1 z.2.2) natP) fun _ => noX
theorem km_next (T : Txt K mg) : Km P w K mg base CX0 1 (He.ga K "Table") "next_node" ["self", "k", "sign"] (sp_next K) :=
  km_of T.me_Table_next_node (fn_plain0 T.df_Table_next_node (fun _ => rfl) fun cdv A outer s H E z G hz sG hr => by
    obtain ⟨t, k, sg⟩ := z
    have hk : k < t.1.length := hz
    have hn := node_at hk
    have un : kidAt t.1 k sg = ((nodeAt t.1 k).kids.find? fun x => x.1 == sg).map fun x => x.2 := rfl
    refine b_cons (M := As.andP (kidAt t.1 k sg = none) (Ga (Bs.pl G H) [.val (tabO K t), .val (natP k), .val (natP sg), .any, .any])) (s_for (ws := [3, 4]) (fun i => As.andP (∀ x ∈ (nodeAt t.1 k).kids.take i, (x.1 == sg) = false) (Ga (Bs.pl G H) [.val (tabO K t), .val (natP k), .val (natP sg), .any, .any]))
        (fun i => As.ex fun x : {x : Nat × Nat // (nodeAt t.1 k).kids[i]? = some x ∧ ∀ x ∈ (nodeAt t.1 k).kids.take i, (x.1 == sg) = false} => Ga (Bs.pl G H) [.val (tabO K t), .val (natP k), .val (natP sg), .val (natP x.1.1), .val (natP x.1.2)])
        (i_tup (e_ixT (Ps := [optP (nodeAt t.1 k).out natsP, kidsP (nodeAt t.1 k).kids]) (e_ixL (e_fld (e_v 0 rfl) T.cl_Table T.na_Table_nodes rfl) (e_v 1 rfl) (at_map (f := nodP) hn)) e_int rfl)) ?_ ?_ ?_ ?_) ?_
    · exact fun σ G' H' s' a => ⟨fun x h => (by cases h), a⟩
    · intro i P hP
      obtain ⟨x, ex, rfl⟩ := map_at hP
      exact g_know fun hx => g_post (g_pair 3 4 sc_Table_next_node.nd) (le_ex ⟨x, ex, hx⟩ .refl)
    · intro i P hP
      refine b_ex fun ⟨x, ex, hx⟩ => ?_
      refine b_one (s_if (k := x.1 == sg) (t_cast (t_eqI (e_v 3 rfl) (e_v 2 rfl)) ?_) (fun h => ?_) (fun h => b_nil fun σ G' H' s' a => ⟨?_, ga_le' (.cons .rfl' (.cons .rfl' (.cons .rfl' (.cons .any' (.cons .any' .nil))))) σ G' H' s' a⟩))
      · rw [Bool.eq_iff_iff]; simp only [decide_eq_true_eq, beq_iff_eq]; show ((x.1 : Int) = (sg : Int)) ↔ _; omega
      · have e : kidAt t.1 k sg = some x.2 := by
          rw [un]
          have : (nodeAt t.1 k).kids.find? (fun x => x.1 == sg) = some x := by
            (rw [List.find?_eq_some_iff_getElem])
            obtain ⟨hi, he⟩ := List.getElem?_eq_some_iff.mp ex
            refine ⟨h, i, hi, he, fun j hj => ?_⟩
            have hm := hx ((nodeAt t.1 k).kids[j]'(by omega)) (by
              rw [List.mem_take_iff_getElem]
              exact ⟨j, by omega, rfl⟩)
            rw [hm]; rfl
          rw [this]; rfl
        refine b_one (s_retP (e_cast (e_v 4 rfl) ?_))
        show natP x.2 = optP (kidAt t.1 k sg) natP
        rw [e]; rfl
      · intro y hy
        rw [take_snoc ex] at hy
        (rcases List.mem_append.mp hy with hy | hy)
        · exact hx y hy
        · rw [List.mem_singleton.mp hy]; exact h
    · rw [List.length_map, List.take_length]
      refine fun σ G' H' s' a => ⟨?_, a.2⟩
      rw [un]
      have : (nodeAt t.1 k).kids.find? (fun x => x.1 == sg) = none := by
        rw [List.find?_eq_none]
        intro x hx z
        rw [a.1 x hx] at z; cases z
      rw [this]; rfl
    · refine b_know fun e => b_one (s_retP (e_cast e_non ?_))
      show isN = optP (kidAt t.1 k sg) natP
      rw [e]; rfl)

/-- the signs that come, a list or a tuple -/
abbrev sgsP (b : Bool) (l : List Nat) : VP := if b = true then isL (l.map natP) else isT (l.map natP)
theorem nodesBy_ne (t : Table) : ∀ (k : Nat) (l : List Nat), nodesBy t k l ≠ []
  | k, [] => by simp [nodesBy]
  | k, s :: r => by simp [nodesBy]
/-- on the way: done, the node where one is -/
structure WySt (t : Table × Nat) (l : List Nat) (i : Nat) (z : List Nat × Nat) : Prop where
  le : z.2 < t.1.length
  few : z.1.length ≤ i
  eq : nodesBy t.1 t.2 l = z.1 ++ nodesBy t.1 z.2 (l.drop i)
abbrev sp_way (K : PySem.W.Frag) : Sp := fSp (fun z : (Table × Nat) × Bool × List Nat => TabIn z.1 ∧ z.2.2.length ≤ 10000) (fun z => [tabO K z.1, sgsP z.2.1 z.2.2]) (fun z => isL ((nodesBy z.1.1 z.1.2 z.2.2).map natP)) fun _ => noX
theorem i_sgs {X : Cx} {fr : Prop} {A A1 : As} {tg iter : Expr} {b : Bool} {l : List Nat} (h : Je fr X A iter (sgsP b l) A1) : Ji fr X A tg iter (l.map natP) A1 := by
  cases b with
  | true => exact i_list h
  | false => exact i_tup h
theorem km_way (T : Txt K mg) : Km P w K mg base CX0 2 (He.ga K "Table") "way" ["self", "signs"] (sp_way K) :=
  km_of T.me_Table_way (fn_plain0 T.df_Table_way (fun _ => rfl) fun cdv A outer s H E z G hz sG hr => by
    obtain ⟨t, b, l⟩ := z
    obtain ⟨I0, hl0⟩ := hz
    have I : TabIn t := I0
    have hl : l.length ≤ 10000 := hl0
    refine b_cons (s_own 2 sc_Table_way.nd (l_lst (a_one (e_fld (e_v 0 rfl) T.cl_Table T.na_Table_first rfl)))) ?_
    refine b_cons (M := Ga (Bs.pl G H) [.val (tabO K t), .val (sgsP b l), .own ((nodesBy t.1 t.2 l).map natP), .any, .any]) (s_for (ws := [3]) (fun i => As.ex fun z : {z : List Nat × Nat // WySt t l i z} => Ga (Bs.pl G H) [.val (tabO K t), .val (sgsP b l), .own ((z.1.1 ++ [z.1.2]).map natP), .any, .any])
        (fun i => As.ex fun z : {z : List Nat × Nat // WySt t l i z} => As.ex fun sg : {sg : Nat // l[i]? = some sg} => Ga (Bs.pl G H) [.val (tabO K t), .val (sgsP b l), .own ((z.1.1 ++ [z.1.2]).map natP), .val (natP sg.1), .any])
        (i_sgs (e_v 1 rfl)) ?_ ?_ ?_ ?_) (b_one (s_retP (e_thaw 2 rfl)))
    · exact le_ex ⟨([], t.2), I.first, Nat.le_refl _, rfl⟩ .refl
    · intro i P hP
      obtain ⟨x, ex, rfl⟩ := map_at hP
      exact g_ex fun z => g_post (g_name 3 sc_Table_way.nd) (le_ex z (le_ex ⟨x, ex⟩ .refl))
    · intro i P hP
      refine b_ex fun ⟨⟨done, cur⟩, W⟩ => b_ex fun ⟨sg, es⟩ => ?_
      have hc : cur < t.1.length := W.le
      have eq : nodesBy t.1 t.2 l = done ++ (cur :: (match kidAt t.1 cur sg with
        | none => []
        | some j => nodesBy t.1 j (l.drop (i + 1)))) := by
        have := W.eq
        rw [drop_at es] at this
        exact this
      have few : done.length ≤ i := W.few
      have hi : i < l.length := (List.getElem?_eq_some_iff.mp es).1
      have hne : done ++ [cur] ≠ [] := by simp
      have hlast : (done ++ [cur]).getLastD 0 = cur := by rw [List.getLastD_concat]
      refine b_cons (s_set 4 sc_Table_way.nd (e_meth (km_next T) T.cl_Table (hr.mono (by decide)) (t, cur, sg) hc (e_v 0 rfl) (a_cons (e_ownIx 2 (R := natP cur) rfl (e_neg e_int) rfl ?_) (a_one (e_v 3 rfl))) rfl rfl)) ?_
      · have := at_last (f := natP) hne (nat_last hne)
        rw [hlast] at this; exact this
      · cases hk : kidAt t.1 cur sg with
        | none =>
          rw [hk] at eq
          refine b_when (k := true) (t_isN (P := isN) (e_v 4 rfl) nonP_N e_non) (fun _ => b_one (s_retP (e_cast (e_thaw 2 rfl) ?_))) fun h => by cases h
          rw [eq]
        | some j =>
          rw [hk] at eq
          refine b_when (k := false) (t_isN (P := natP j) (e_v 4 rfl) nonP_nat e_non) (fun h => by cases h) fun _ => ?_
          refine b_one (s_post (s_append 2 rfl rfl (P := natP j) (e_v 4 rfl) ?_) (le_ex ⟨(done ++ [cur], j), ?_, ?_, ?_⟩ (ga_le' ?_)))
          · rw [List.length_map, line_eq]
            show (done ++ [cur]).length < _
            rw [List.length_append]; simp; omega
          · exact Nat.lt_trans (kid_lt I hc hk) hc
          · rw [List.length_append]; simp; exact few
          · show nodesBy t.1 t.2 l = (done ++ [cur]) ++ _
            rw [eq, List.append_assoc]; rfl
          · exact .cons .rfl' (.cons .rfl' (.cons (.inl (by rw [List.map_append (l₁ := done ++ [cur])]; rfl)) (.cons .any' (.cons .any' .nil))))
    · rw [List.length_map]
      refine ex_le fun ⟨⟨done, cur⟩, W⟩ => ga_le' (.cons .rfl' (.cons .rfl' (.cons (.inl ?_) (.cons .rfl' (.cons .rfl' .nil)))))
      have := W.eq
      rw [List.drop_length] at this
      rw [this]; rfl)
abbrev sp_ends (K : PySem.W.Frag) : Sp := fSp (fun z : Table × Nat => TabIn z) (fun z => [tabO K z]) (fun z => isL ((endsOf z.1).map natP)) fun _ => noX
theorem sum_nats (l : List Nat) : (l.map fun (n : Nat) => (n : Int)).sum = ((l.sum : Nat) : Int) := by
  induction l with
  | nil => rfl
  | cons a r ih => rw [List.map_cons, List.sum_cons, List.sum_cons, ih]; omega
theorem km_ends (T : Txt K mg) : Km P w K mg base CX0 1 (He.ga K "Table") "ends" ["self"] (sp_ends K) :=
  km_of T.me_Table_ends (fn_plain0 T.df_Table_ends (fun _ => rfl) fun cdv A outer s H E t G hz sG hr => by
    have I : TabIn t := hz
    refine b_cons (s_own 1 sc_Table_ends.nd (l_lst a_nil)) ?_
    refine b_cons (M := Ga (Bs.pl G H) [.val (tabO K t), .own ((endsOf t.1).map natP), .any, .any, .any, .any]) (s_for (ws := [2, 3]) (fun i => Ga (Bs.pl G H) [.val (tabO K t), .own ((endsOf (t.1.take i)).map natP), .any, .any, .any, .any])
        (fun i => As.ex fun n : {n : Node // t.1[i]? = some n} => Ga (Bs.pl G H) [.val (tabO K t), .own ((endsOf (t.1.take i)).map natP), .val (optP n.1.out natsP), .val (kidsP n.1.kids), .any, .any])
        (i_list (e_fld (e_v 0 rfl) T.cl_Table T.na_Table_nodes rfl)) .refl ?_ ?_ ?_) (b_one (s_retP (e_thaw 1 rfl)))
    · intro i P hP
      obtain ⟨n, en, rfl⟩ := map_at hP
      exact g_post (g_pair 2 3 sc_Table_ends.nd) (le_ex ⟨n, en⟩ .refl)
    · intro i P hP
      refine b_ex fun ⟨n, en⟩ => ?_
      have hi : i < t.1.length := (List.getElem?_eq_some_iff.mp en).1
      have hlen : (endsOf (t.1.take i)).length = i := by rw [endsOf_len, List.length_take]; omega
      have thin := I.thin n (List.mem_of_getElem? en)
      refine b_one (s_post (s_append 1 rfl rfl (e_add (e_intB T.n_int (e_notN (k := n.out.isNone) (e_v 2 rfl) (nonP_opt fun _ => nonP_isT) e_non)) (e_sum rfl T.n_sum (ns := (n.kids.map fun x => (endsOf (t.1.take i)).getD x.2 0).map fun (v : Nat) => (v : Int)) (e_cast (e_lc (own := [("sign", 4), ("goal", 5)]) n.kids kidP (fun _ => true) (fun x => natP ((endsOf (t.1.take i)).getD x.2 0)) sc_Table_ends.nd (i_tup (e_v 3 rfl)) (blkOk_by (by rfl)) ?_ (fun _ _ _ _ _ x _ => g_pair 4 5 sc_Table_ends.nd) (fun _ _ _ _ _ x _ => ts_nil) (fun _ _ _ _ _ x hx _ => e_ownIx 1 rfl (e_v 5 rfl) rfl (at_map (f := natP) ?_))) ?_))) ?_) (ga_le' ?_))
      · rw [line_eq]; omega
      · have := I.kids i n en x hx
        rw [List.getD_eq_getElem?_getD, List.getElem?_eq_getElem (by omega)]; rfl
      · rw [filter_yes, List.map_map, List.map_map]; rfl
      · rw [List.length_map, hlen, line_eq]; have := I.few; omega
      · refine .cons .rfl' (.cons (.inl ?_) (.cons .any' (.cons .any' (.cons .rfl' (.cons .rfl' .nil)))))
        rw [take_snoc en, endsOf_snoc, List.map_append, sum_nats]
        congr 2
        show [natP _] = [isI _]
        cases n.out <;> rfl
    · rw [List.length_map, List.take_length]; exact .refl)
end
end Q
/-! enumerate over a tuple. -/
namespace PySem
open Sem (wp)
open _root_.PySem.AutoSeq1 (wpAny_loadPart')
theorem qe_new (t : Addr) (its : Array Value) (n : Nat) (dct : Option Addr) (sl : Array (Option Value)) :
    Meets (Builtin.«enumerate.__new__» ⟨[.type "enumerate", .ref t], []⟩) (fun _ R s => s.heap.get? t = some { cls := .type "tuple", dict := dct, data := .seq its n, slots := sl } ∧
      R (.ok (.ret (.ref (s.heap.push { cls := .type "tuple_iterator", data := .fields #[.ref t, .int 0 0] }).objs.size)))
        { s with heap := (s.heap.push { cls := .type "tuple_iterator", data := .fields #[.ref t, .int 0 0] }).push { cls := .type "enumerate", data := .fields #[.none, .bool false, .ref s.heap.objs.size, rawInt 0, .none, .none] } }) :=
  .of_wp fun p1 w1 A1 R1 s h => by
    obtain ⟨m0, gz, dz, kz, oz⟩ := s; obtain ⟨ht, q⟩ := h
    have qsub := sub_enumerate
    have kT : Heap.IsTuple (Shared.heap ⟨m0, gz, dz, kz, oz⟩) t its := ⟨_, ht, rfl, n, rfl⟩
    wp_walk using wpAny_loadPart' ht
    refine wpAny_stack_any fun sk => wpAny_pure ?_
    split
    · rename_i c _ _ _ _ _
      cases (c == Value.type "enumerate") <;> (wp_walk using wpAny_loadPart' ht, wpAny_pyIter_tuple kT; exact ⟨_, rfl, q⟩)
    · wp_walk using wpAny_loadPart' ht, wpAny_pyIter_tuple kT; exact ⟨_, rfl, q⟩
section
variable {A : Around} {prog : Program} {w : World} {s : Shared} {E : Value → Shared → Prop}
theorem qe_call {t : Addr} {its : Array Value} {Q : Value → Shared → Prop} (kT : s.heap.IsTuple t its)
    (h : ∀ h', IsEnum h' (s.heap.objs.size + 1) s.heap.objs.size 0 .none → h'.IsTupleIter s.heap.objs.size t 0 → (∀ b o, s.heap.get? b = some o → h'.get? b = some o) → Q (.ref (s.heap.objs.size + 1)) { s with heap := h' }) :
    wpAny (model prog w) A (call (.type "enumerate") [.ref t]) Q E s := by
  obtain ⟨⟨c, dct, dt, sl⟩, ht, kc, n, kd⟩ := kT
  simp only at kc kd
  subst kc kd
  refine callType_new F.called_enumerate (by decide) (F.typeCall_enumerate_1 _) (F.newCall_enumerate_1 _) (fun obj => F.args_object_init_2 obj _) F.entry_enumerate_new (qe_new t its n dct sl) ⟨ht, ?_⟩
  have km : (s.heap.push { cls := .type "tuple_iterator", data := .fields #[.ref t, .int 0 0] }).objs.size = s.heap.objs.size + 1 := Heap.size_push ..
  show _ ∧ _
  rw [km]
  have ke : IsEnum ((s.heap.push { cls := .type "tuple_iterator", data := .fields #[.ref t, .int 0 0] }).push { cls := .type "enumerate", data := .fields #[.none, .bool false, .ref s.heap.objs.size, rawInt 0, .none, .none] }) (s.heap.objs.size + 1) s.heap.objs.size 0 .none := by
    have z := Heap.get?_push_size (s.heap.push { cls := .type "tuple_iterator", data := .fields #[.ref t, .int 0 0] }) (o := { cls := .type "enumerate", data := .fields #[.none, .bool false, .ref s.heap.objs.size, rawInt 0, .none, .none] }) rfl
    rw [km] at z; exact z
  exact ⟨⟨_, ke, rfl⟩, h _ ke ⟨_, Heap.get?_push_of_some _ (Heap.get?_push_size _ rfl), rfl, rfl⟩ fun b o y => Heap.get?_push_of_some _ (Heap.get?_push_of_some _ y)⟩
theorem qe_item {it t : Addr} {i : Nat} {its : Array Value} {x : Value} {Q : Value → Shared → Prop} (ki : s.heap.IsTupleIter it t i) (kT : s.heap.IsTuple t its) (kx : its[i]? = some x)
    (kQ : ∀ h', h'.IsTupleIter it t (i + 1) → Heap.SameBut it s.heap h' → Q x { s with heap := h' }) : wpAny (model prog w) A (Builtin.SmallTypes.nextOf (.ref it)) Q E s := by
  obtain ⟨o, ko, kc, kd⟩ := id ki
  obtain ⟨ot, kot, _, nt, kdt⟩ := kT
  (unfold Builtin.SmallTypes.nextOf)
  refine wpAny_bind (wpAny_callSpecial?_slot (name := Str.ofString "__next__") ki.typeIs F.slot_tuple_iterator_next (wpAny_call_entry F.slot_tuple_iterator_next ki.typeIs F.entry_tuple_iterator_next ?_ (F.args_tuple_iterator_next_1 _)))
  (show wpAny _ _ (field (.ref it) 0 >>= _) _ _ s)
  refine wpAny_bind (wpAny_field ko kd (x := .ref t) rfl ?_)
  (show wpAny _ _ (if (Value.ref t == Value.none) = true then _ else _) _ _ s)
  (rw [if_neg (show ¬ ((Value.ref t == Value.none) = true) from Bool.false_ne_true)])
  (show wpAny _ _ (field (.ref it) 1 >>= _) _ _ s)
  refine wpAny_bind (wpAny_field ko kd (x := .int i 0) rfl ?_)
  (show wpAny _ _ (seqItems? (.ref t) >>= _) _ _ s)
  refine wpAny_bind (wpAny_seqItems kot kdt ?_)
  simp only [Int.toNat_natCast, kx]
  refine wpAny_bind (wpAny_setField ko kd (by simp) (wpAny_pure ⟨x, rfl, wpAny_pure (kQ _ ?_ (Heap.SameBut.update ..))⟩))
  exact ⟨_, Heap.get?_update_self _ ko (Obj.isFreed_of_fields (Obj.data_mapFields kd _)), (Obj.cls_mapFields ..).trans kc, by rw [Obj.data_mapFields kd]; simp [rawInt]⟩
theorem qe_end {it t : Addr} {i : Nat} {its : Array Value} {Q : Value → Shared → Prop} (kh : A.handled = none) (ki : s.heap.IsTupleIter it t i) (kT : s.heap.IsTuple t its) (kx : its[i]? = none)
    (kE : ∀ h' e, Heap.ExtBut it s.heap h' → (∃ o, h'.get? e = some o ∧ o.cls = .type "StopIteration") → E (.ref e) { s with heap := h' }) : wpAny (model prog w) A (Builtin.SmallTypes.nextOf (.ref it)) Q E s := by
  obtain ⟨o, ko, kc, kd⟩ := id ki
  obtain ⟨ot, kot, _, nt, kdt⟩ := kT
  (unfold Builtin.SmallTypes.nextOf)
  refine wpAny_bind (wpAny_callSpecial?_slot (name := Str.ofString "__next__") ki.typeIs F.slot_tuple_iterator_next (wpAny_call_entry F.slot_tuple_iterator_next ki.typeIs F.entry_tuple_iterator_next ?_ (F.args_tuple_iterator_next_1 _)))
  (show wpAny _ _ (field (.ref it) 0 >>= _) _ _ s)
  refine wpAny_bind (wpAny_field ko kd (x := .ref t) rfl ?_)
  (show wpAny _ _ (if (Value.ref t == Value.none) = true then _ else _) _ _ s)
  (rw [if_neg (show ¬ ((Value.ref t == Value.none) = true) from Bool.false_ne_true)])
  (show wpAny _ _ (field (.ref it) 1 >>= _) _ _ s)
  refine wpAny_bind (wpAny_field ko kd (x := .int i 0) rfl ?_)
  (show wpAny _ _ (seqItems? (.ref t) >>= _) _ _ s)
  refine wpAny_bind (wpAny_seqItems kot kdt ?_)
  simp only [Int.toNat_natCast, kx]
  refine wpAny_bind (wpAny_rule (wpAny_bind (wpAny_setField ko kd (by simp) ?_)))
  (show wpAny _ _ (newExc (.type "StopIteration") [] >>= _) _ _ _)
  refine wpAny_bind ?_
  simp only [newExc, newTuple]
  (refine wpAny_bind (wpAny_newObj_type ?_ (by size_fits)))
  (refine wpAny_bind (m := firstArgMember _ _) (wpAny_of_eq (a := Value.none) (by first | rfl | (simp only [firstArgMember]; rfl)) ?_))
  (refine wpAny_newObj_type ?_ (by size_fits))
  simp only [raiseNew]
  (refine wpAny_bind (wpAny_handled ?_))
  first | rw [show A.in1.handled = none from kh] | rw [kh]
  (refine wpAny_bind (wpAny_pure (wpAny_throw ?_)))
  exact kE _ _ (((Heap.SameBut.update ..).extBut.push _).push _) ⟨_, Heap.get?_push_size _ rfl, rfl⟩
/-- what a turn needs of the inner way -/
theorem qe_turn {e it t : Addr} {i : Nat} {its : Array Value} {x was : Value} {Q : Option Value → Shared → Prop}
    (ke : IsEnum s.heap e it i was) (ki : s.heap.IsTupleIter it t i) (kT : s.heap.IsTuple t its) (kx : its[i]? = some x) (kn : e ≠ it)
    (kQ : ∀ h', IsEnumOut h' e it ((i : Int) + 1) x s.heap.objs.size → h'.IsTupleIter it t (i + 1) →
      h'.get? s.heap.objs.size = some { cls := .type "tuple", data := .seq #[.int i s.toks, x] } → h'.objs.size = s.heap.objs.size + 1 → (∀ c u, c ≠ e → c ≠ it →
      s.heap.get? c = some u → h'.get? c = some u) → Q (some (.ref s.heap.objs.size)) { s with heap := h', toks := s.toks + 1 }) : wpAny (model prog w) A (pyNext (.ref e)) Q E s := by
  have kTy : s.TypeIs (.ref e) "enumerate" := ⟨_, ke, rfl⟩
  unfold pyNext
  refine wpAny_bind (wpAny_attempt (wpAny_callSpecial?_slot (name := Str.ofString "__next__") kTy F.slot_enumerate_next (wpAny_call_entry F.slot_enumerate_next kTy F.entry_enumerate_next ?_ (F.args_enumerate_next_1 _))))
  obtain ⟨m0, gz, dz, kz, oz⟩ := s
  (show wpAny _ _ (field (.ref e) 2 >>= _) _ _ _)
  refine wpAny_bind (wpAny_field ke rfl (x := .ref it) rfl ?_)
  refine wpAny_bind (qe_item ki kT kx fun m1 ki1 ks1 => ?_)
  replace ks1 : Heap.SameBut it m0 m1 := ks1
  have ke1 : IsEnum m1 e it i was := (ks1.2 e kn).trans ke
  show wpAny _ _ (field (.ref e) 3 >>= _) _ _ ⟨m1, gz, dz, kz, oz⟩
  refine wpAny_bind (wpAny_field ke1 rfl (x := rawInt i) rfl ?_)
  show wpAny _ _ (field (.ref e) 4 >>= _) _ _ ⟨m1, gz, dz, kz, oz⟩
  refine wpAny_bind (wpAny_field ke1 rfl (x := .none) rfl ?_)
  show wpAny _ _ (mkInt i >>= _) _ _ ⟨m1, gz, dz, kz, oz⟩
  (refine wpAny_bind (wpAny_mkInt ?_))
  show wpAny _ _ (setField (.ref e) 3 (rawInt ((i : Int) + 1)) >>= _) _ _ ⟨m1, gz, dz, kz + 1, oz⟩
  refine wpAny_bind (wpAny_setField_rec ke1 (by simp) fun m2 ke2 ks2 => ?_)
  replace ks2 : Heap.SameBut e m1 m2 := ks2
  replace ke2 : IsEnum m2 e it ((i : Int) + 1) was := ke2
  show wpAny _ _ (setField (.ref e) 4 .none >>= _) _ _ ⟨m2, gz, dz, kz + 1, oz⟩
  refine wpAny_bind (wpAny_setField_rec ke2 (by simp) fun m3 ke3 ks3 => ?_)
  replace ks3 : Heap.SameBut e m2 m3 := ks3
  replace ke3 : IsEnum m3 e it ((i : Int) + 1) was := ke3
  show wpAny _ _ (newTuple [.int i kz, x] >>= _) _ _ ⟨m3, gz, dz, kz + 1, oz⟩
  (refine wpAny_bind (wpAny_newTuple ?_))
  have ke4 : IsEnum (m3.push { cls := .type "tuple", data := .seq #[.int i kz, x] }) e it ((i : Int) + 1) was := Heap.get?_push_of_some _ ke3
  generalize kh4 : m3.push { cls := .type "tuple", data := .seq #[.int i kz, x] } = m4 at ke4
  have ksz : m3.objs.size = m0.objs.size := by rw [ks3.1, ks2.1, ks1.1]
  have kel : e < m0.objs.size := Heap.lt_size ke
  have kt4 : m4.get? m0.objs.size = some { cls := .type "tuple", data := .seq #[.int i kz, x] } := by rw [← kh4, ← ksz]; exact Heap.get?_push_size _ rfl
  have km4 : m4.objs.size = m0.objs.size + 1 := by rw [← kh4, Heap.size_push, ksz]
  have kk4 : ∀ b o, b ≠ e → b ≠ it → m0.get? b = some o → m4.get? b = some o := fun b o hbe hbi hb => by rw [← kh4]; exact Heap.get?_push_of_some _ (ks3.extBut b o hbe (ks2.extBut b o hbe (ks1.extBut b o hbi hb)))
  have ki4 : m4.IsTupleIter it t (i + 1) := by
    rw [← kh4]
    have z : m3.IsTupleIter it t (i + 1) := (ki1.extBut ks2.extBut (Ne.symm kn)).extBut ks3.extBut (Ne.symm kn)
    exact z.at fun o q => Heap.get?_push_of_some _ q
  show wpAny _ _ (Builtin.SmallTypes.ownedTupleIsFree (.ref e) >>= _) _ _ ⟨m4, gz, dz, kz + 1, oz⟩
  rw [ksz]
  clear kh4 ke3 ks3 ke2 ks2 ke1 ks1 ki1 ksz m3 m2 m1
  refine wpAny_bind ?_
  (unfold Builtin.SmallTypes.ownedTupleIsFree)
  refine wpAny_bind (wpAny_field ke4 rfl (x := .none) rfl (wpAny_pure ?_))
  simp only [if_true]
  (refine wpAny_bind (wpAny_rule ?_))
  refine wpAny_bind (wpAny_field ke4 rfl (x := was) rfl ?_)
  refine wpAny_bind (wpAny_setField_rec ke4 (by simp) fun m5 ke5 ks5 => ?_)
  replace ks5 : Heap.SameBut e m4 m5 := ks5
  replace ke5 : IsEnum m5 e it ((i : Int) + 1) x := ke5
  show wpAny _ _ (Builtin.SmallTypes.ownedTupleHandOut (.ref e) (.ref m0.objs.size) >>= _) _ _ ⟨m5, gz, dz, kz + 1, oz⟩
  refine wpAny_bind ?_
  (unfold Builtin.SmallTypes.ownedTupleHandOut)
  refine wpAny_bind (wpAny_setField_rec ke5 (by simp) fun m6 ke6 ks6 => ?_)
  replace ks6 : Heap.SameBut e m5 m6 := ks6
  replace ke6 : IsEnumOut m6 e it ((i : Int) + 1) x m0.objs.size := ke6
  refine wpAny_setField_rec ke6 (by simp) fun m7 ke7 ks7 => ?_
  replace ks7 : Heap.SameBut e m6 m7 := ks7
  replace ke7 : IsEnumOut m7 e it ((i : Int) + 1) x m0.objs.size := ke7
  refine wpAny_bind (wpAny_letGo (wpAny_pure ⟨_, rfl, wpAny_pure (kQ m7 ke7 ?_ ?_ ?_ ?_)⟩))
  · exact ((ki4.extBut ks5.extBut (Ne.symm kn)).extBut ks6.extBut (Ne.symm kn)).extBut ks7.extBut (Ne.symm kn)
  · exact ks7.extBut _ _ (Nat.ne_of_gt kel) (ks6.extBut _ _ (Nat.ne_of_gt kel) (ks5.extBut _ _ (Nat.ne_of_gt kel) kt4))
  · rw [ks7.1, ks6.1, ks5.1, km4]
  · exact fun b o hbe hbi hb => ks7.extBut b o hbe (ks6.extBut b o hbe (ks5.extBut b o hbe (kk4 b o hbe hbi hb)))
theorem qe_stop {e it t : Addr} {i : Nat} {its : Array Value} {was : Value} {Q : Option Value → Shared → Prop} (kh : A.handled = none) (ke : IsEnum s.heap e it i was) (ki : s.heap.IsTupleIter it t i) (kT : s.heap.IsTuple t its) (kx : its[i]? = none)
    (kQ : ∀ h', Heap.ExtBut it s.heap h' → Q none { s with heap := h' }) : wpAny (model prog w) A (pyNext (.ref e)) Q E s := by
  have kTy : s.TypeIs (.ref e) "enumerate" := ⟨_, ke, rfl⟩
  unfold pyNext
  refine wpAny_bind (wpAny_attempt (wpAny_callSpecial?_slot (name := Str.ofString "__next__") kTy F.slot_enumerate_next (wpAny_call_entry F.slot_enumerate_next kTy F.entry_enumerate_next ?_ (F.args_enumerate_next_1 _))))
  (show wpAny _ _ (field (.ref e) 2 >>= _) _ _ _)
  refine wpAny_bind (wpAny_field ke rfl (x := .ref it) rfl ?_)
  refine wpAny_bind (qe_end kh ki kT kx fun h' x keb ⟨o, ko, kc⟩ => ?_)
  refine wpAny_bind (wpAny_isInstance (T := "StopIteration") (b := true) ⟨o, ko, kc⟩ isSubtype_stop ?_)
  exact wpAny_pure (kQ _ keb)
end
end PySem
namespace Q
open PySem PySem.Spec PyProof.Rows L2 Pt
/-- the tuple at a, each item in a fresh1 pair -/
def Itf (K : PySem.W.Frag) (a : Addr) : It :=
  ⟨fun i H => ∃ (xs : List V) (x : V), SqT K H a xs ∧ xs[i]? = some x, fun i H v H' => ∃ T x, v = .ref T ∧ H T = none ∧ H' = upd H T (.tup [.int (i : Nat), x]) ∧ ∀ xs, SqT K H a xs → xs[i]? = some x, fun i H => ∃ xs : List V, SqT K H a xs ∧ xs.length ≤ i⟩
theorem turn_enumT {P : Program} {w : World} {K : PySem.W.Frag} {elts : List Expr} {kk : Nat} {tpos : Pos} (a e it : Addr) :
    Turn P w K (.Tuple elts kk tpos) (Itf K a) [e, it] e (fun i h => (∃ was, IsEnum h e it ((i : Nat) : Int) was) ∧ h.IsTupleIter it a i ∧ e ≠ it) where
  mem := by simp
  obj := fun i h st b hb => by
    obtain ⟨⟨was, ke⟩, ⟨o, ko, kc, kd⟩, _⟩ := st
    have eb2 : b = e ∨ b = it := by simpa using hb
    rcases eb2 with z | z
    · rw [z]; exact ⟨_, ke, fun v q => nomatch q⟩
    · rw [z]; exact ⟨o, ko, fun v q => by rw [kd] at q; cases q⟩
  keep := fun i h h' st k => let ⟨⟨was, ke⟩, hi, kn⟩ := st; ⟨⟨was, k e (by simp) _ ke⟩, hi.at fun o q => k it (by simp) o q, kn⟩
  item := by
    intro X hP hw hK kc i pins s σ H E I hf st hg
    subst hP hw hK
    obtain ⟨⟨was, ke⟩, ki, kn⟩ := st
    obtain ⟨xs, x, hq, kx⟩ := hg
    obtain ⟨its, krv, p, km⟩ := I.tuple hq
    obtain ⟨u, ku, kru⟩ := krv.get kx
    have kel : e < s.heap.objs.size := Heap.lt_size ke
    have kil : it < s.heap.objs.size := by obtain ⟨_, q, _⟩ := ki; exact Heap.lt_size q
    refine qe_turn ke ki (show s.heap.IsTuple a its.toArray from p) (x := u) (by simpa using ku) kn fun h' ko ki2 kT ksz hk => ?_
    refine ⟨_, rfl, wpAny_letOwnedTupleGo_enum (s := { s with heap := h', toks := s.toks + 1 }) ko fun h'' ke2 sb => ?_⟩
    have kT2 : h''.get? s.heap.objs.size = some { cls := .type "tuple", data := .seq #[.int i s.toks, u] } := (sb.2 _ (Nat.ne_of_gt kel)).trans kT
    have fresh1 : ObjOk X.prog X.w (upd H s.heap.objs.size (.tup [.int (i : Nat), x])) h'' s.heap.objs.size (.tup [.int (i : Nat), x]) :=
      ⟨by show 2 ≤ sizeLine; decide, [.int i s.toks, u], .cons ⟨_, rfl⟩ (.cons kru .nil), ⟨_, kT2, rfl, _, rfl⟩⟩
    have J1 : Inv X pins σ (upd H s.heap.objs.size (.tup [.int (i : Nat), x])) { s with heap := h'', toks := s.toks + 1 } :=
      I.turnedNew (ch := [e, it]) (fun b ob hb q => (sb.2 b (fun z => hb (by simp [z]))).trans (hk b ob (fun z => hb (by simp [z])) (fun z => hb (by simp [z])) q)) hf (Nat.le_refl _) fresh1
    refine ⟨.ref s.heap.objs.size, _, J1, rfl, ⟨_, x, rfl, I.hok.fresh (Nat.le_refl _), rfl, fun ys hy => by rw [I.tuple_inj hy hq]; exact kx⟩, ⟨⟨u, ?_⟩, ki2.at fun o q => (sb.2 it (Ne.symm kn)).trans q, kn⟩, fun b hb => ?_⟩
    · (have e1 : ((i + 1 : Nat) : Int) = (i : Int) + 1 := by omega)
      rw [e1]; exact ke2
    · have kb2 : b < s.heap.objs.size := by
        have eb2 : b = e ∨ b = it := by simpa using hb
        rcases eb2 with z | z
        · rw [z]; exact kel
        · rw [z]; exact kil
      rw [upd_ne (Nat.ne_of_lt kb2)]
      exact (hf b hb).1
  done := by
    intro X hP hw hK kc i pins s σ H E I hf st hg
    subst hP hw hK
    obtain ⟨⟨was, ke⟩, ki, kn⟩ := st
    obtain ⟨xs, hq, kx⟩ := hg
    obtain ⟨its, krv, p, km⟩ := I.tuple hq
    (obtain ⟨f0, f1, f2, f3, f4, f5⟩ := hf it (by simp))
    have hl := krv.length
    exact qe_stop (I.ok.hd kc) ke ki (show s.heap.IsTuple a its.toArray from p) (by simp; omega) fun h' keb => ⟨rfl, I.turned (t' := s.toks) (fun b o hb q => keb b o hb q) f0 f1 f3 f4 f5⟩
  self := fun A i s Q E st h => let ⟨⟨_, ke⟩, _⟩ := st; wpAny_pyIter_enum ke h
def iEnumT (K : PySem.W.Frag) (ta : TA) : TI := fun σ H R => ta σ H fun vs H1 => ∃ a xs, vs = [.ref a] ∧ SqT K H1 a xs ∧ R (Itf K a) H1
theorem pi_enumT {X : Cx} {e : Expr} {ta : TA} {p pos tpos : Pos} {elts : List Expr} {kk : Nat} (hg : Gl X "enumerate") (hm : X.mg "enumerate" = none) (ha : PA X [e] ta) (hs : starEach [e] X.env = [(false, eval e X.env)] := by rfl) :
    PI X (.Tuple elts kk tpos) (.Call (.Name "enumerate" p) [e] [] pos) (iEnumT X.K ta) := by
  (refine ⟨fun pins s σ H R I h => ?_⟩)
  refine Call_ (ld_blt I hg hm boot_enumerate (PyProof.Rows.callWith_type1 (thn (ha.run pos pins s σ H _ I h) fun us s1 ⟨vs, H1, J1, r1, q1⟩ => ?_) hs rfl))
  (obtain ⟨a, xs, ex, hq, q⟩ := q1)
  subst ex
  cases r1 with
  | cons r rr =>
    cases rr
    cases r
    obtain ⟨its, krv, p', km⟩ := J1.tuple hq
    refine qe_call (show s1.heap.IsTuple a its.toArray from p') fun h' ke ki hk => wpAny_pyIter_enum ke ?_
    have J2 : Inv X pins σ H1 { s1 with heap := h' } := J1.kept (t' := s1.toks) hk
    refine ⟨s1.heap.objs.size + 1, [s1.heap.objs.size + 1, s1.heap.objs.size], _, _, H1, rfl, J2, turn_enumT a (s1.heap.objs.size + 1) s1.heap.objs.size, ⟨⟨.none, ke⟩, ki, Nat.succ_ne_self _⟩, fun b hb => ?_, q⟩
    have eb2 : b = s1.heap.objs.size + 1 ∨ b = s1.heap.objs.size := by simpa using hb
    have kle : s1.heap.objs.size ≤ b := by
      rcases eb2 with z | z
      · exact Nat.le_trans (Nat.le_succ _) (Nat.le_of_eq z.symm)
      · exact Nat.le_of_eq z.symm
    exact J1.fpOk kle (J1.hok.fresh kle)
end Q
namespace Q
open PySem PySem.Spec PyProof.Rows L2 Pt
theorem i_enumT {X : Cx} {fr : Prop} {A A1 : As} {Ps : List VP} {e : Expr} {pos : Pos} {elts : List Expr} {kk : Nat} {tpos p : Pos} (hm : X.mg "enumerate" = none) (ha : Ja fr X A [e] [isT Ps] A1) (hg : Gl X "enumerate" := by rfl) (hs : starEach [e] X.env = [(false, eval e X.env)] := by rfl) : Ji fr X A (.Tuple elts kk tpos) (.Call (.Name "enumerate" p) [e] [] pos) (numd Ps) A1 :=
  pi_imp (pi_enumT hg hm ha hs) fun σ H R ⟨G, s, a, q⟩ => ⟨G, s, a, fun vs G1 H1 p1 r => by
    obtain ⟨v, rfl, l, xs, rfl, e2, e3⟩ := paired_one r
    refine ⟨l, xs, rfl, SqT.of (p1.i _ _ e2), q _ G1 H1 p1 ⟨fun i G2 H2 hi g s => ?_, fun G2 H2 g s => ⟨xs, SqT.of (s _ _ (g _ _ e2)), Nat.le_of_eq ((Paired.length e3).symm.trans numd_len.symm)⟩, fun i R G2 H2 x H3 hP g s ⟨T, y, ex, hT, eH, k⟩ => ?_⟩⟩
    · rw [numd_len] at hi
      obtain ⟨y, ey, _⟩ := paired_at e3 (List.getElem?_eq_getElem hi)
      exact ⟨xs, y, SqT.of (s _ _ (g _ _ e2)), ey⟩
    · subst eH ex
      obtain ⟨P, hP', rfl⟩ := numd_at hP
      obtain ⟨y', ey, py⟩ := paired_at e3 hP'
      have z := k xs (SqT.of (s _ _ (g _ _ e2)))
      rw [ey] at z
      cases z
      exact pair_new s hT rfl (P.up g py)⟩
end Q
/-! What a table tells; words looked up. -/
namespace Q
open PySem PySem.Spec PyProof.Rows L2 Pt
open VahypBase (Bytes)
open Vahypa (Pat)
open Vahypd (Node Table nodeAt kidAt nodesBy findOut)
theorem nodesBy_lt {t : Table × Nat} (T : TabIn t) : ∀ (k : Nat) (l : List Nat), k < t.1.length → ∀ j ∈ nodesBy t.1 k l, j < t.1.length
  | k, [], hk, j, hj => by
    have : j ∈ [k] := hj
    rw [List.mem_singleton.mp this]; exact hk
  | k, s :: r, hk, j, hj => by
    have hj' : j ∈ k :: (match kidAt t.1 k s with
      | none => []
      | some j => nodesBy t.1 j r) := hj
    rcases List.mem_cons.mp hj' with rfl | h
    · exact hk
    · cases q : kidAt t.1 k s with
      | none => rw [q] at h; cases h
      | some i =>
        rw [q] at h
        exact nodesBy_lt T i r (Nat.lt_trans (kid_lt T hk q) hk) j h
def digB (t : Table × Nat) (l : List Nat) : Option (List Nat) := if (nodesBy t.1 t.2 l).length = l.length + 1 then (nodeAt t.1 ((nodesBy t.1 t.2 l).getLastD 0)).out else none
def optD (o : Option (List Nat)) : PyData := match o with
  | some v => numsD v
  | none => .none
theorem dp_opt {K : PySem.W.Frag} {o : Option (List Nat)} : DPc K (optP o natsP) (optD o) := by
  cases o with
  | none => exact dp_N
  | some v => exact dp_nats
theorem sh_opt (o : Option (List Nat)) : Sh 1 (optD o) := by
  cases o with
  | none => exact sh_none.up (by decide)
  | some v => exact sh_nums v
theorem eqv_opt (a b : Option (List Nat)) : PyData.eqv (optD a) (optD b) = decide (a = b) := by
  cases a with
  | none =>
    cases b with
    | none => rw [decide_eq_true rfl]; rfl
    | some w => rw [decide_eq_false fun z => nomatch z]; rfl
  | some v =>
    cases b with
    | none => rw [decide_eq_false fun z => nomatch z]; rfl
    | some w =>
      show PyData.eqv (numsD v) (numsD w) = _
      rw [eqv_nums, Bool.eq_iff_iff]
      simp only [decide_eq_true_eq, Option.some.injEq]
section
variable {base : Heap} {P : Program} {w : World} {K : PySem.W.Frag} {mg : Str → Option Value}
abbrev sp_digb (K : PySem.W.Frag) : Sp := fSp (fun z : (Table × Nat) × List Nat => TabIn z.1 ∧ z.2.length ≤ 10000) (fun z => [tabO K z.1, natsP z.2]) (fun z => optP (digB z.1 z.2) natsP) fun _ => noX
theorem km_digb (T : Txt K mg) : Km P w K mg base CX0 3 (He.ga K "Table") "digits_behind" ["self", "signs"] (sp_digb K) :=
  km_of T.me_Table_digits_behind (fn_plain0 T.df_Table_digits_behind (fun _ => rfl) fun cdv A outer s H E z G hz sG hr => by
    obtain ⟨t, l⟩ := z
    obtain ⟨I0, hl0⟩ := hz
    have I : TabIn t := I0
    have hl : l.length ≤ 10000 := hl0
    have hne := nodesBy_ne t.1 t.2 l
    have hlast : (nodesBy t.1 t.2 l).getLastD 0 < t.1.length := by
      rw [nat_last hne]
      exact nodesBy_lt I _ _ I.first _ (List.getLast_mem hne)
    refine b_cons (s_set 2 sc_Table_digits_behind.nd (e_meth (km_way T) T.cl_Table hr (t, false, l) ⟨I, hl⟩ (e_v 0 rfl) (a_one (e_v 1 rfl)) rfl rfl)) ?_
    refine b_one (s_retP (e_if (k := decide ((nodesBy t.1 t.2 l).length = l.length + 1)) (t_cast (t_eqI (e_lenL T.n_len (e_v 2 rfl)) (e_add (e_lenT T.n_len (e_v 1 rfl)) e_int)) ?_) (fun h => e_cast (e_ixT (Ps := [optP (nodeAt t.1 ((nodesBy t.1 t.2 l).getLastD 0)).out natsP, kidsP (nodeAt t.1 ((nodesBy t.1 t.2 l).getLastD 0)).kids]) (e_ixL (e_fld (e_v 0 rfl) T.cl_Table T.na_Table_nodes rfl) (e_ixL (e_v 2 rfl) (e_neg e_int) (at_last (f := natP) hne (nat_last hne))) (at_map (f := nodP) (node_at hlast))) e_int rfl) ?_) fun h => e_cast e_non ?_))
    · rw [List.length_map, List.length_map, Bool.eq_iff_iff]; simp only [decide_eq_true_eq]; omega
    · show _ = optP (digB t l) natsP
      unfold digB
      rw [if_pos (of_decide_eq_true h)]
    · show isN = optP (digB t l) natsP
      unfold digB
      rw [if_neg (of_decide_eq_false h)]; rfl)
def tellsB (t : Table × Nat) (ps : List Pat) : Bool := decide ((endsOf t.1).getD t.2 0 = ps.length) && ps.all fun p => decide (digB t (Vahypd.signsOf p) = some p.levels)
theorem signs_len {p : Pat} (h : p.x.length ≤ 6) : (Vahypd.signsOf p).length ≤ 8 := by
  unfold Vahypd.signsOf
  rw [List.length_append, List.length_append, List.length_map]
  split <;> split <;> simp <;> omega
abbrev sp_tell (K : PySem.W.Frag) : Sp := fSp (fun z : (Table × Nat) × List Pat => TabIn z.1 ∧ patsOk z.2) (fun z => [tabO K z.1, patsP K z.2]) (fun z => isB (tellsB z.1 z.2)) fun _ => noX
theorem km_tell (T : Txt K mg) : Km P w K mg base CX0 4 (He.ga K "Table") "does_tell" ["self", "patterns"] (sp_tell K) :=
  km_of T.me_Table_does_tell (fn_plain0 T.df_Table_does_tell (fun _ => rfl) fun cdv A outer s H E z G hz sG hr => by
    obtain ⟨t, ps⟩ := z
    obtain ⟨I0, hp0⟩ := hz
    have I : TabIn t := I0
    have hp : patsOk ps := hp0
    have hf : (endsOf t.1)[t.2]? = some ((endsOf t.1).getD t.2 0) := by
      rw [List.getD_eq_getElem?_getD, List.getElem?_eq_getElem (by rw [endsOf_len]; exact I.first)]; rfl
    refine b_when (k := !decide ((endsOf t.1).getD t.2 0 = ps.length)) (t_cast (t_neI (e_ixL (e_meth0 (km_ends T) T.cl_Table (hr.mono (by decide)) t I (e_v 0 rfl) rfl rfl) (e_fld (e_v 0 rfl) T.cl_Table T.na_Table_first rfl) (at_map (f := natP) hf)) (e_lenL T.n_len (e_v 1 rfl))) ?_) (fun h => b_one (s_retP (e_cast e_bl ?_))) fun h => b_one (s_retP (e_cast (e_all rfl T.n_all (bs := ps.map fun p => decide (digB t (Vahypd.signsOf p) = some p.levels)) (e_cast (e_lc (own := [("one", 2)]) ps (patO K) (fun _ => true) (fun p => isB (decide (digB t (Vahypd.signsOf p) = some p.levels))) sc_Table_does_tell.nd (i_list (e_v 1 rfl)) (blkOk_by (by rfl)) ?_ (fun _ _ _ _ _ x _ => g_name 2 sc_Table_does_tell.nd) (fun _ _ _ _ _ x _ => ts_nil) (fun _ _ _ _ _ x hx _ => e_eqD hr (e_meth (km_digb T) T.cl_Table hr (t, Vahypd.signsOf x) ⟨I, Nat.le_trans (signs_len (hp.2 x hx)) (by decide)⟩ (e_v 0 rfl) (a_one (e_meth0 (km_signs T) T.cl_Pattern (hr.mono (by decide)) x (hp.2 x hx) (e_v 2 rfl) rfl rfl)) rfl rfl) (e_fld (e_v 2 rfl) T.cl_Pattern T.na_Pattern_digits rfl) dp_opt (dp_opt (o := some x.levels)) ((sh_opt _).ok (by decide)) ((sh_opt _).ok (by decide)) (eqv_opt _ _))) ?_)) ?_))
    · rw [List.length_map]
      refine congrArg (! ·) ?_
      rw [Bool.eq_iff_iff]; simp only [decide_eq_true_eq]; omega
    · have h' : decide ((endsOf t.1).getD t.2 0 = ps.length) = false := by simpa using h
      show isB false = isB (tellsB t ps)
      unfold tellsB
      rw [h']; rfl
    · have := hp.1
      rw [line_eq]; omega
    · rw [filter_yes, List.map_map]; rfl
    · have h' : decide ((endsOf t.1).getD t.2 0 = ps.length) = true := by simpa using h
      show _ = isB (tellsB t ps)
      unfold tellsB
      rw [h', List.all_map]; rfl)
/-! ### looked up -/
open Vahypd (signed)
theorem kn_signs_of (T : Txt K mg) : Kn P w K mg base CX0 1 "signs_of" ["letters"] (fSp (fun x : Bytes => x.length ≤ 10000) (fun x => [bysP x]) (fun x => isL ((signed x).map natP)) fun _ => noX) :=
  kn_of T.g_signs_of (fn_plain0 T.df_signs_of (fun _ => rfl) fun cdv A outer s H E x G hz sG hr => by
    have hx : x.length ≤ 10000 := hz
    refine b_one (s_retP (e_cast (e_cat (e_cat (e_lst (a_one e_int)) (e_listL T.n_list (e_v 0 rfl)) ?_) (e_lst (a_one e_int)) ?_) ?_))
    · refine small_line ?_
      rw [List.length_map]; simp; omega
    · refine small_line ?_
      rw [List.length_append, List.length_map]; simp; omega
    · show isL _ = isL _
      refine congrArg isL ?_
      unfold signed
      rw [List.map_cons, List.map_append, List.map_map]; rfl)
def stepsOf (t : Table × Nat) (l : List Nat) (i : Nat) : Nat := min (nodesBy t.1 t.2 (l.drop i)).length (l.length - i)
theorem kn_steps (T : Txt K mg) : Kn P w K mg base CX0 3 "steps_from" ["table", "signs", "start"] (fSp (fun z : (Table × Nat) × List Nat × Nat => TabIn z.1 ∧ z.2.1.length ≤ 10000 ∧ z.2.2 ≤ z.2.1.length) (fun z => [tabO K z.1, isL (z.2.1.map natP), natP z.2.2]) (fun z => natP (stepsOf z.1 z.2.1 z.2.2)) fun _ => noX) :=
  kn_of T.g_steps_from (fn_plain0 T.df_steps_from (fun _ => rfl) fun cdv A outer s H E z G hz sG hr => by
    obtain ⟨t, l, i⟩ := z
    obtain ⟨I0, hl0, hi0⟩ := hz
    have I : TabIn t := I0
    have hl : l.length ≤ 10000 := hl0
    have hi : i ≤ l.length := hi0
    refine b_cons (s_set 3 sc_steps_from.nd (e_meth (km_way T) T.cl_Table hr (t, true, l.drop i) ⟨I, by show (l.drop i).length ≤ 10000; rw [List.length_drop]; omega⟩ (e_v 0 rfl) (a_one (P := isL ((l.drop i).map natP)) (e_cast (e_slL (e_v 1 rfl) (o_at (e_v 2 rfl)) o_no) (congrArg isL (cut_drop hi)))) rfl rfl)) ?_
    refine b_one (s_retP (e_cast (e_min2 rfl T.n_min (a_cons (e_lenL T.n_len (e_v 3 rfl)) (a_one (e_sub (e_lenL T.n_len (e_v 1 rfl)) (e_v 2 rfl))))) ?_))
    refine congrArg isI ?_
    rw [List.length_map, List.length_map]
    show (if ((l.length : Int) - (i : Int)) < ((nodesBy t.1 t.2 (l.drop i)).length : Int) then ((l.length : Int) - (i : Int)) else ((nodesBy t.1 t.2 (l.drop i)).length : Int)) = ((stepsOf t l i : Nat) : Int)
    unfold stepsOf
    split <;> omega)
def outsOf (t : Table × Nat) (l : List Nat) (i : Nat) : List (List Nat) := (nodesBy t.1 t.2 (l.drop i)).filterMap fun k => (nodeAt t.1 k).out
theorem filter_some {α β : Type} (f : α → Option β) (g : β → VP) : ∀ l : List α, ((l.map f).filter fun o => o.isSome).map (fun o => optP o g) = (l.filterMap f).map g
  | [] => rfl
  | a :: r => by
    rw [List.map_cons, List.filter_cons, List.filterMap_cons]
    cases f a with
    | none => exact filter_some f g r
    | some b =>
      simp only [Option.isSome_some, if_true, List.map_cons]
      rw [filter_some f g r]; rfl
theorem kn_ends_from (T : Txt K mg) : Kn P w K mg base CX0 3 "ends_from" ["table", "signs", "start"] (fSp (fun z : (Table × Nat) × List Nat × Nat => TabIn z.1 ∧ z.2.1.length ≤ 10000 ∧ z.2.2 ≤ z.2.1.length) (fun z => [tabO K z.1, isL (z.2.1.map natP), natP z.2.2]) (fun z => isL ((outsOf z.1 z.2.1 z.2.2).map natsP)) fun _ => noX) :=
  kn_of T.g_ends_from (fn_plain0 T.df_ends_from (fun _ => rfl) fun cdv A outer s H E z G hz sG hr => by
    obtain ⟨t, l, i⟩ := z
    obtain ⟨I0, hl0, hi0⟩ := hz
    have I : TabIn t := I0
    have hl : l.length ≤ 10000 := hl0
    have hi : i ≤ l.length := hi0
    have nb : ∀ (k : Nat) (m : List Nat), (nodesBy t.1 k m).length ≤ m.length + 1 := by
      intro k m
      induction m generalizing k with
      | nil => exact Nat.le_refl _
      | cons a r ih =>
        show (k :: (match kidAt t.1 k a with
          | none => []
          | some j => nodesBy t.1 j r)).length ≤ _
        cases kidAt t.1 k a with
        | none => simp
        | some j => have := ih j; simp; omega
    have hlen : (nodesBy t.1 t.2 (l.drop i)).length ≤ 10001 := by
      have := nb t.2 (l.drop i)
      rw [List.length_drop] at this
      omega
    refine b_cons (s_setLc (own := [("k", 4)]) 3 (nodesBy t.1 t.2 (l.drop i)) natP (fun _ => true) (fun k => optP (nodeAt t.1 k).out natsP) sc_ends_from.nd (i_list (e_meth (km_way T) T.cl_Table hr (t, true, l.drop i) ⟨I, by show (l.drop i).length ≤ 10000; rw [List.length_drop]; omega⟩ (e_v 0 rfl) (a_one (P := isL ((l.drop i).map natP)) (e_cast (e_slL (e_v 1 rfl) (o_at (e_v 2 rfl)) o_no) (congrArg isL (cut_drop hi)))) rfl rfl)) (blkOk_by (by rfl)) (by rw [line_eq]; omega) (fun _ _ _ _ _ x _ => g_name 4 sc_ends_from.nd) (fun _ _ _ _ _ x _ => ts_nil) (fun _ _ _ _ _ x hx _ => e_ixT (Ps := [optP (nodeAt t.1 x).out natsP, kidsP (nodeAt t.1 x).kids]) (e_ixL (e_fld (e_v 0 rfl) T.cl_Table T.na_Table_nodes rfl) (e_v 4 rfl) (at_map (f := nodP) (node_at (nodesBy_lt I _ _ I.first x hx)))) e_int rfl)) ?_
    refine b_one (s_retP (e_cast (e_lc (own := [("digits", 5)]) ((nodesBy t.1 t.2 (l.drop i)).map fun k => (nodeAt t.1 k).out) (fun o => optP o natsP) (fun o => o.isSome) (fun o => optP o natsP) sc_ends_from.nd (i_list (e_cast (e_v 3 rfl) ?_)) (blkOk_by (by rfl)) (by rw [List.length_map, line_eq]; omega) (fun _ _ _ _ _ x _ => g_name 5 sc_ends_from.nd) (fun _ _ _ _ _ x _ => ts_one (t_cast (t_notN (e_v 5 rfl) (nonP_opt fun _ => nonP_isT) e_non) (by cases x <;> rfl))) (fun _ _ _ _ _ x _ _ => e_v 5 rfl)) (congrArg isL (filter_some _ natsP _))))
    rw [filter_yes, List.map_map]; rfl)
end
end Q
/-! Levels. -/
namespace Q
open PySem PySem.Spec PyProof.Rows L2 Pt
open VahypBase (Bytes)
open Vahypa (Pat)
open Vahypd (Node Table nodeAt kidAt nodesBy findOut over signed)
theorem over_len (ls : List Nat) (g : Nat) (v : List Nat) : (over ls g v).length = ls.length := by
  unfold over
  rw [List.length_map, List.length_zipIdx]
theorem over_at (ls : List Nat) (g : Nat) (v : List Nat) (k : Nat) : (over ls g v)[k]? = ls[k]?.map fun a => if g ≤ k then Nat.max a (v.getD (k - g) 0) else a := by
  unfold over
  rw [List.getElem?_map, List.getElem?_zipIdx]
  cases ls[k]? with
  | none => rfl
  | some a => simp
theorem over_nil (ls : List Nat) (g : Nat) : over ls g [] = ls := by
  apply List.ext_getElem?
  intro k
  rw [over_at]
  cases ls[k]? with
  | none => rfl
  | some a =>
    simp only [Option.map_some, List.getD_nil]
    split
    · exact congrArg some (Nat.max_zero a)
    · rfl
theorem over_step {ls : List Nat} {g i d : Nat} {v : List Nat} (h : v[i]? = some d) (hl : g + i < ls.length) : over ls g (v.take (i + 1)) = (over ls g (v.take i)).set (g + i) (Nat.max (ls.getD (g + i) 0) d) ∧ (over ls g (v.take i))[g + i]? = some (ls.getD (g + i) 0) := by
  have hi : i < v.length := (List.getElem?_eq_some_iff.mp h).1
  have e0 : (over ls g (v.take i))[g + i]? = some (ls.getD (g + i) 0) := by
    have hd : ls.getD (g + i) 0 = ls[g + i] := by rw [List.getD_eq_getElem?_getD, List.getElem?_eq_getElem hl]; rfl
    rw [over_at, List.getElem?_eq_getElem hl, hd]
    simp only [Option.map_some]
    rw [if_pos (by omega), show g + i - g = i by omega]
    have : (v.take i).getD i 0 = 0 := by
      rw [List.getD_eq_getElem?_getD, List.getElem?_eq_none (by rw [List.length_take]; omega)]; rfl
    rw [this]
    exact congrArg some (Nat.max_zero _)
  refine ⟨?_, e0⟩
  apply List.ext_getElem?
  intro k
  rw [over_at, List.getElem?_set, over_at, over_len]
  by_cases hk : g + i = k
  · subst hk
    rw [if_pos rfl, if_pos hl, List.getElem?_eq_getElem hl]
    simp only [Option.map_some]
    rw [if_pos (by omega), show g + i - g = i by omega]
    have : (v.take (i + 1)).getD i 0 = d := by
      rw [List.getD_eq_getElem?_getD, List.getElem?_take_of_lt (by omega), h]; rfl
    rw [this, List.getD_eq_getElem?_getD, List.getElem?_eq_getElem hl]; rfl
  · rw [if_neg hk]
    cases ls[k]? with
    | none => rfl
    | some a =>
      simp only [Option.map_some]
      by_cases hg : g ≤ k
      · rw [if_pos hg, if_pos hg]
        have : (v.take (i + 1)).getD (k - g) 0 = (v.take i).getD (k - g) 0 := by
          rw [List.getD_eq_getElem?_getD, List.getD_eq_getElem?_getD]
          rcases Nat.lt_or_ge (k - g) i with z | z
          · rw [List.getElem?_take_of_lt (by omega), List.getElem?_take_of_lt z]
          · rw [List.getElem?_eq_none (by rw [List.length_take]; omega), List.getElem?_eq_none (by rw [List.length_take]; omega)]
        rw [this]
      · rw [if_neg hg, if_neg hg]
theorem ixN_nat {n k : Nat} (h : k < n) : ixN n (k : Int) = some k := by
  unfold ixN
  rw [if_pos (by omega), if_pos (by omega)]; rfl
theorem max_nat (a d : Nat) : (if (d : Int) > (a : Int) then (d : Int) else (a : Int)) = ((Nat.max a d : Nat) : Int) := by
  have : Nat.max a d = max a d := rfl
  rw [this]
  split <;> omega
section
variable {base : Heap} {P : Program} {w : World} {K : PySem.W.Frag} {mg : Str → Option Value}
theorem kn_put_over (T : Txt K mg) : Kn P w K mg base CX0 1 "put_over" ["levels", "digits", "gap"] (fSp (fun z : List Nat × List Nat × Nat => z.2.2 + z.2.1.length ≤ z.1.length ∧ z.1.length ≤ 10000) (fun z => [isL (z.1.map natP), natsP z.2.1, natP z.2.2]) (fun z => isL ((over z.1 z.2.2 z.2.1).map natP)) fun _ => noX) :=
  kn_of T.g_put_over (fn_plain0 T.df_put_over (fun _ => rfl) fun cdv A outer s H E z G hz sG hr => by
    obtain ⟨ls, v, g⟩ := z
    obtain ⟨hg0, hl0⟩ := hz
    have hg : g + v.length ≤ ls.length := hg0
    refine b_cons (s_own 3 sc_put_over.nd (l_listL T.n_list (e_v 0 rfl))) ?_
    refine b_cons (M := Ga (Bs.pl G H) [.val (isL (ls.map natP)), .val (natsP v), .val (natP g), .own ((over ls g v).map natP), .any, .any]) (s_for (ws := [4, 5]) (fun i => Ga (Bs.pl G H) [.val (isL (ls.map natP)), .val (natsP v), .val (natP g), .own ((over ls g (v.take i)).map natP), .any, .any])
        (fun i => As.ex fun d : {d : Nat // v[i]? = some d} => Ga (Bs.pl G H) [.val (isL (ls.map natP)), .val (natsP v), .val (natP g), .own ((over ls g (v.take i)).map natP), .val (natP i), .val (natP d.1)])
        (i_enumT T.n_enumerate (a_one (e_v 1 rfl))) ?_ ?_ ?_ ?_) (b_one (s_retP (e_thaw 3 rfl)))
    · rw [show v.take 0 = [] from rfl, over_nil]; exact .refl
    · intro i P hP
      obtain ⟨Q, hQ, rfl⟩ := numd_at hP
      obtain ⟨d, ed, rfl⟩ := map_at hQ
      exact g_post (g_pair 4 5 sc_put_over.nd) (le_ex ⟨d, ed⟩ .refl)
    · intro i P hP
      refine b_ex fun ⟨d, ed⟩ => ?_
      have hi : i < v.length := (List.getElem?_eq_some_iff.mp ed).1
      obtain ⟨e1, e2⟩ := over_step (g := g) ed (show g + i < ls.length by omega)
      refine b_one (s_post (s_setIx 3 (n := g + i) rfl (e_cast (e_max2 rfl T.n_max (a_cons (e_ownIx 3 rfl (e_add (e_v 2 rfl) (e_v 4 rfl)) rfl (at_map (f := natP) (n := g + i) e2)) (a_one (e_v 5 rfl)))) (congrArg isI (max_nat _ _))) (e_add (e_v 2 rfl) (e_v 4 rfl)) rfl ?_) (ga_le' ?_))
      · exact ixN_nat (k := g + i) (by rw [List.length_map, over_len]; omega)
      · refine .cons .rfl' (.cons .rfl' (.cons .rfl' (.cons (.inl ?_) (.cons .any' (.cons .any' .nil)))))
        rw [e1, List.map_set]
    · rw [numd_len, List.length_map, List.take_length]; exact .refl)
/-- the levels and the steps -/
def lookP (t : Table × Nat) (x : Bytes) (n : Nat) : List Nat × Nat := (List.range n).foldl (fun r s => ((outsOf t (signed x) s).foldl (fun l v => over l (s - 1) v) r.1, r.2 + stepsOf t (signed x) s)) (List.replicate (x.length + 1) 0, 0)
/-- what ends on the way fits in -/
def LookOk (t : Table × Nat) (x : Bytes) : Prop := ∀ s, s < (signed x).length → ∀ v ∈ outsOf t (signed x) s, (s - 1) + v.length ≤ x.length + 1
theorem fold_over_len (g : Nat) : ∀ (vs : List (List Nat)) (ls : List Nat), (vs.foldl (fun l v => over l g v) ls).length = ls.length
  | [], ls => rfl
  | v :: vs, ls => by rw [List.foldl_cons, fold_over_len g vs, over_len]
theorem lookP_succ (t : Table × Nat) (x : Bytes) (n : Nat) : lookP t x (n + 1) = ((outsOf t (signed x) n).foldl (fun l v => over l (n - 1) v) (lookP t x n).1, (lookP t x n).2 + stepsOf t (signed x) n) := by
  unfold lookP
  rw [List.range_succ, List.foldl_append]; rfl
theorem lookP_len (t : Table × Nat) (x : Bytes) : ∀ n, (lookP t x n).1.length = x.length + 1
  | 0 => by unfold lookP; simp
  | n + 1 => by rw [lookP_succ, fold_over_len, lookP_len t x n]
abbrev sp_look (K : PySem.W.Frag) : Sp := fSp (fun z : (Table × Nat) × Bytes => TabIn z.1 ∧ z.2.length ≤ 1000 ∧ LookOk z.1 z.2) (fun z => [tabO K z.1, bysP z.2]) (fun z => isT [isL ((lookP z.1 z.2 (signed z.2).length).1.map natP), natP (lookP z.1 z.2 (signed z.2).length).2]) fun _ => noX
theorem signed_len (x : Bytes) : (signed x).length = x.length + 2 := by unfold signed; simp
theorem kn_looked_up (T : Txt K mg) : Kn P w K mg base CX0 4 "looked_up" ["table", "letters"] (sp_look K) :=
  kn_of T.g_looked_up (fn_plain0 T.df_looked_up (fun _ => rfl) fun cdv A outer s H E z G hz sG hr => by
    obtain ⟨t, x⟩ := z
    obtain ⟨I0, hx0, ok0⟩ := hz
    have I : TabIn t := I0
    have hx : x.length ≤ 1000 := hx0
    have ok : LookOk t x := ok0
    have hs := signed_len x
    refine b_cons (s_set 2 sc_looked_up.nd (e_fn (kn_signs_of T) (hr.mono (by decide)) x (by show x.length ≤ 10000; omega) (a_one (e_v 1 rfl)))) ?_
    refine b_cons (s_set (P := isL ((lookP t x 0).1.map natP)) 3 sc_looked_up.nd (e_cast (e_repL (n := x.length + 1) (e_lst (a_one e_int)) (e_cast (R := natP (x.length + 1)) (e_add (e_cast (R := natP x.length) (e_lenL T.n_len (e_v 1 rfl)) (by rw [List.length_map])) e_int) rfl) (by rw [line_eq]; simp; omega) (by omega)) ?_)) ?_
    · refine congrArg isL ?_
      show (List.replicate (x.length + 1) [isI 0]).flatten = (List.replicate (x.length + 1) 0).map natP
      rw [List.map_replicate]
      generalize x.length + 1 = n
      induction n with
      | zero => rfl
      | succ n ih =>
        rw [List.replicate_succ, List.flatten_cons, ih, List.replicate_succ]; rfl
    refine b_cons (s_set 4 sc_looked_up.nd e_int) ?_
    refine b_cons (M := Ga (Bs.pl G H) [.val (tabO K t), .val (bysP x), .val (isL ((signed x).map natP)), .val (isL ((lookP t x (signed x).length).1.map natP)), .val (natP (lookP t x (signed x).length).2), .any, .any]) (s_for (ws := [5]) (Ps := numP 0 (signed x).length) (fun i => Ga (Bs.pl G H) [.val (tabO K t), .val (bysP x), .val (isL ((signed x).map natP)), .val (isL ((lookP t x i).1.map natP)), .val (natP (lookP t x i).2), .any, .any])
        (fun i => As.andP (i < (signed x).length) (Ga (Bs.pl G H) [.val (tabO K t), .val (bysP x), .val (isL ((signed x).map natP)), .val (isL ((lookP t x i).1.map natP)), .val (natP (lookP t x i).2), .val (natP i), .any]))
        ?_ .refl ?_ ?_ ?_) (b_one (s_retP (e_tup (a_cons (e_v 3 rfl) (a_one (e_v 4 rfl))))))
    · exact i_range1 T.n_range (a_one (e_cast (e_lenL T.n_len (e_v 2 rfl)) (by rw [List.length_map]))) (by omega)
    · intro i P hP
      obtain ⟨hi, rfl⟩ := numP_at hP
      refine g_post (g_name 5 sc_looked_up.nd) fun σ G' H' s' a => ⟨hi, ?_⟩
      rw [Int.zero_add] at a
      exact a
    · intro i P hP
      refine b_know fun hi => ?_
      refine b_cons (s_set 4 sc_looked_up.nd (e_add (e_v 4 rfl) (e_fn (kn_steps T) hr (t, signed x, i) ⟨I, by show (signed x).length ≤ 10000; omega, Nat.le_of_lt hi⟩ (a_cons (e_v 0 rfl) (a_cons (e_v 2 rfl) (a_one (e_v 5 rfl))))))) ?_
      refine b_one (s_for (ws := [6]) (fun k => Ga (Bs.pl G H) [.val (tabO K t), .val (bysP x), .val (isL ((signed x).map natP)), .val (isL ((((outsOf t (signed x) i).take k).foldl (fun l v => over l (i - 1) v) (lookP t x i).1).map natP)), .val (natP ((lookP t x i).2 + stepsOf t (signed x) i)), .val (natP i), .any])
          (fun k => As.ex fun v : {v : List Nat // (outsOf t (signed x) i)[k]? = some v} => Ga (Bs.pl G H) [.val (tabO K t), .val (bysP x), .val (isL ((signed x).map natP)), .val (isL ((((outsOf t (signed x) i).take k).foldl (fun l v => over l (i - 1) v) (lookP t x i).1).map natP)), .val (natP ((lookP t x i).2 + stepsOf t (signed x) i)), .val (natP i), .val (natsP v.1)])
          (i_list (e_fn (kn_ends_from T) hr (t, signed x, i) ⟨I, by show (signed x).length ≤ 10000; omega, Nat.le_of_lt hi⟩ (a_cons (e_v 0 rfl) (a_cons (e_v 2 rfl) (a_one (e_v 5 rfl)))))) .refl ?_ ?_ ?_)
      · intro k P hP
        obtain ⟨v, ev, rfl⟩ := map_at hP
        exact g_post (g_name 6 sc_looked_up.nd) (le_ex ⟨v, ev⟩ .refl)
      · intro k P hP
        refine b_ex fun ⟨v, ev⟩ => ?_
        have hv := ok i hi v (List.mem_of_getElem? ev)
        have hlen : (((outsOf t (signed x) i).take k).foldl (fun l v => over l (i - 1) v) (lookP t x i).1).length = x.length + 1 := by rw [fold_over_len, lookP_len]
        refine b_one (s_post (s_set 3 sc_looked_up.nd (e_fn (kn_put_over T) (hr.mono (by decide)) ((((outsOf t (signed x) i).take k).foldl (fun l v => over l (i - 1) v) (lookP t x i).1), v, i - 1) ⟨by show i - 1 + v.length ≤ _; rw [hlen]; exact hv, by show _ ≤ 10000; rw [hlen]; omega⟩ (a_cons (e_v 3 rfl) (a_cons (e_v 6 rfl) (a_one (e_cast (e_max2 rfl T.n_max (a_cons e_int (a_one (e_sub (e_v 5 rfl) e_int)))) ?_)))))) (ga_le' ?_))
        · refine congrArg isI ?_
          show (if ((i : Int) - 1) > 0 then ((i : Int) - 1) else 0) = ((i - 1 : Nat) : Int)
          split <;> omega
        · refine .cons .rfl' (.cons .rfl' (.cons .rfl' (.cons (.inl ?_) (.cons .rfl' (.cons .rfl' (.cons .any' .nil))))))
          rw [take_snoc ev, List.foldl_append]; rfl
      · rw [List.length_map, List.take_length]
        refine ga_le' ?_
        rw [lookP_succ]
        exact .cons .rfl' (.cons .rfl' (.cons .rfl' (.cons .rfl' (.cons .rfl' (.cons .any' (.cons .rfl' .nil))))))
    · rw [numP_len]; exact .refl)
theorem i_rangeF {X : Cx} {fr : Prop} {A A1 : As} {tg a b : Expr} {pos p : Pos} {i j : Int} {n : Nat} (hm : X.mg "range" = none) (ha : Ja fr X A [a, b] [isI i, isI j] A1) (hn : (j - i).toNat = n) (hi : -(2 ^ 62) ≤ i ∧ i < 2 ^ 62 ∧ -(2 ^ 62) ≤ j ∧ j < 2 ^ 62) (hg : Gl X "range" := by rfl) (hs : starEach [a, b] X.env = [(false, eval a X.env), (false, eval b X.env)] := by rfl) (hs2 : starEach [b] X.env = [(false, eval b X.env)] := by rfl) : Ji fr X A tg (.Call (.Name "range" p) [a, b] [] pos) ((List.range n).map fun (k : Nat) => isI (i + (k : Int))) A1 := by
  subst hn
  exact i_range2 hm ha hi hg hs hs2
def gapsP (ls : List Nat) (l r : Nat) : List Nat := ((List.range (ls.length - 2)).filter fun i => decide (ls.getD (i + 1) 0 % 2 = 1) && (decide (l ≤ i + 1) && decide (r ≤ ls.length - 1 - (i + 1)))).map fun i => i + 1
theorem kn_parted (T : Txt K mg) : Kn P w K mg base CX0 1 "parted_gaps" ["levels", "left", "right"] (fSp (fun z : List Nat × Nat × Nat => 2 ≤ z.1.length ∧ z.1.length ≤ 10000) (fun z => [isL (z.1.map natP), natP z.2.1, natP z.2.2]) (fun z => isL ((gapsP z.1 z.2.1 z.2.2).map natP)) fun _ => noX) :=
  kn_of T.g_parted_gaps (fn_plain0 T.df_parted_gaps (fun _ => rfl) fun cdv A outer s H E z G hz sG hr => by
    obtain ⟨ls, l, r⟩ := z
    obtain ⟨h20, hl0⟩ := hz
    have h2 : 2 ≤ ls.length := h20
    have hl : ls.length ≤ 10000 := hl0
    refine b_cons (s_set 3 sc_parted_gaps.nd (e_cast (R := natP (ls.length - 1)) (e_sub (e_lenL T.n_len (e_v 0 rfl)) e_int) ?_)) ?_
    · refine congrArg isI ?_
      rw [List.length_map]
      show (ls.length : Int) - 1 = ((ls.length - 1 : Nat) : Int)
      omega
    · refine b_one (s_retP (e_cast (e_lc (own := [("gap", 4)]) (List.range (ls.length - 2)) (fun i => isI (1 + (i : Int))) (fun i => decide (ls.getD (i + 1) 0 % 2 = 1) && (decide (l ≤ i + 1) && decide (r ≤ ls.length - 1 - (i + 1)))) (fun i => natP (i + 1)) sc_parted_gaps.nd (i_rangeF T.n_range (a_cons e_int (a_one (e_v 3 rfl))) (by omega) (by omega)) (blkOk_by (by rfl)) ?_ (fun _ _ _ _ _ i _ => g_name 4 sc_parted_gaps.nd) (fun _ _ _ _ _ i hi => ts_one (t_w (w_and (t_cast (t_eqI (e_mod (e_ixL (e_v 0 rfl) (e_v 4 rfl) (R := natP (ls.getD (i + 1) 0)) ?_) e_int (by decide)) e_int) ?_) fun _ => w_and (t_cast (t_ge (e_v 4 rfl) (e_v 1 rfl)) ?_) fun _ => w_and1 (t_cast (t_ge (e_sub (e_v 3 rfl) (e_v 4 rfl)) (e_v 2 rfl)) ?_)))) (fun _ _ _ _ _ i _ _ => e_cast (e_v 4 rfl) ?_)) ?_))
      · rw [List.length_range, line_eq]; omega
      · have hi' : i < ls.length - 2 := List.mem_range.mp hi
        have e : ls[i + 1]? = some (ls.getD (i + 1) 0) := by
          rw [List.getD_eq_getElem?_getD, List.getElem?_eq_getElem (by omega)]; rfl
        have := at_map (f := natP) e
        rw [show ((i + 1 : Nat) : Int) = 1 + (i : Int) by omega] at this
        exact this
      · rw [Bool.eq_iff_iff]; simp only [decide_eq_true_eq]; omega
      · rw [Bool.eq_iff_iff]; simp only [decide_eq_true_eq]; omega
      · have hi' : i < ls.length - 2 := List.mem_range.mp hi
        rw [Bool.eq_iff_iff]; simp only [decide_eq_true_eq]; omega
      · refine congrArg isI ?_
        omega
      · show isL _ = isL ((gapsP ls l r).map natP)
        unfold gapsP
        rw [List.map_map]; rfl)
end
end Q
/-! Tables told as numbers, in the program's way: numbers by their place. -/
namespace Q
open Vahypd (Node Table takeMany takeOut takeNode takeNodes readTable pairsIn)
def someR (l : List Nat) (n m : Nat) : Option (List Nat × Nat) := if l.length < n + m then none else some ((l.drop n).take m, n + m)
def oneR (l : List Nat) (n most : Nat) : Option (Nat × Nat) := match l[n]? with
  | none => none
  | some v => if most < v then none else some (v, n + 1)
/-- behind the first sign of a node -/
def outR (l : List Nat) (n : Nat) : Option (Option (List Nat) × Nat) := (oneR l n 1).bind fun x => if x.1 = 1 then (oneR l x.2 l.length).bind fun y => (someR l y.2 y.1).map fun z => (some z.1, z.2) else some (none, x.2)
def nodeR (l : List Nat) (n : Nat) : Option (Node × Nat) := (outR l n).bind fun o => (oneR l o.2 l.length).bind fun y => (someR l y.2 (2 * y.1)).map fun z => (⟨o.1, pairsIn z.1⟩, z.2)
def nodesR (l : List Nat) : Nat → Nat → Option (Table × Nat)
  | 0, n => some ([], n)
  | k + 1, n => (nodeR l n).bind fun x => (nodesR l k x.2).map fun y => (x.1 :: y.1, y.2)
def tabR (l : List Nat) : Option (Table × Nat) := (oneR l 0 300).bind fun x => (nodesR l x.1 x.2).bind fun y => (someR l y.2 1).bind fun z => if z.2 < l.length then none else some (y.1, z.1.getD 0 0)
theorem someR_le {l : List Nat} {n m : Nat} {x : List Nat × Nat} (h : someR l n m = some x) : x.2 = n + m ∧ x.2 ≤ l.length ∧ x.1 = (l.drop n).take m := by
  unfold someR at h
  split at h
  · cases h
  · cases h; exact ⟨rfl, by show n + m ≤ l.length; omega, rfl⟩
theorem oneR_le {l : List Nat} {n m : Nat} {x : Nat × Nat} (h : oneR l n m = some x) : x.2 = n + 1 ∧ n < l.length ∧ l[n]? = some x.1 ∧ x.1 ≤ m := by
  unfold oneR at h
  cases e : l[n]? with
  | none => (rw [e] at h; cases h)
  | some v =>
    rw [e] at h
    dsimp only at h
    split at h
    · cases h
    · cases h
      exact ⟨rfl, (List.getElem?_eq_some_iff.mp e).1, rfl, by show v ≤ m; omega⟩
theorem take_some {l : List Nat} {n m : Nat} (h : n ≤ l.length) : takeMany m (l.drop n) = (someR l n m).map fun x => (x.1, l.drop x.2) := by
  unfold takeMany someR
  rw [List.length_drop, List.drop_drop]
  by_cases hz : l.length < n + m
  · rw [if_pos hz, if_pos (by omega)]; rfl
  · rw [if_neg hz, if_neg (by omega)]; rfl
theorem drop_nil {l : List Nat} {n : Nat} (h : l[n]? = none) : l.drop n = [] := by
  rw [List.getElem?_eq_none_iff] at h
  exact List.drop_eq_nil_of_le h
theorem drop_cons {l : List Nat} {n v : Nat} (h : l[n]? = some v) : l.drop n = v :: l.drop (n + 1) := by
  obtain ⟨hn, e⟩ := List.getElem?_eq_some_iff.mp h
  rw [List.drop_eq_getElem_cons hn, e]
theorem out_eq {l : List Nat} {n : Nat} (h : n ≤ l.length) : takeOut (l.drop n) = (outR l n).map fun x => (x.1, l.drop x.2) := by
  unfold outR oneR
  cases e : l[n]? with
  | none => rw [drop_nil e]; rfl
  | some v =>
    rw [drop_cons e]
    have hn := (List.getElem?_eq_some_iff.mp e).1
    dsimp only
    match v with
    | 0 => rfl
    | 1 =>
      rw [if_neg (by omega)]
      dsimp only [Option.bind_some]
      rw [if_pos rfl]
      cases e2 : l[n + 1]? with
      | none => rw [drop_nil e2]; rfl
      | some m =>
        rw [drop_cons e2]
        have hn2 := (List.getElem?_eq_some_iff.mp e2).1
        dsimp only
        show (takeMany m (l.drop (n + 1 + 1))).map _ = _
        by_cases hm : l.length < m
        · rw [if_pos hm]
          unfold takeMany
          rw [if_pos (by rw [List.length_drop]; omega)]; rfl
        · rw [if_neg hm, take_some (by omega)]
          dsimp only [Option.bind_some]
          cases someR l (n + 1 + 1) m <;> rfl
    | v + 2 =>
      rw [if_pos (by omega)]; rfl
theorem outR_le {l : List Nat} {n : Nat} {x : Option (List Nat) × Nat} (h : outR l n = some x) : n < x.2 ∧ x.2 ≤ l.length := by
  unfold outR at h
  cases h1 : oneR l n 1 with
  | none => (rw [h1] at h; cases h)
  | some a =>
    rw [h1] at h
    dsimp only [Option.bind_some] at h
    have k1 := oneR_le h1
    split at h
    · cases h2 : oneR l a.2 l.length with
      | none => rw [h2] at h; cases h
      | some b =>
        rw [h2] at h
        dsimp only [Option.bind_some] at h
        have k2 := oneR_le h2
        cases h3 : someR l b.2 b.1 with
        | none => rw [h3] at h; cases h
        | some c =>
          rw [h3] at h
          cases h
          have k3 := someR_le h3
          exact ⟨by show n < c.2; omega, k3.2.1⟩
    · cases h
      exact ⟨by show n < a.2; omega, by show a.2 ≤ _; omega⟩
theorem node_eq {l : List Nat} {n : Nat} (h : n ≤ l.length) : takeNode (l.drop n) = (nodeR l n).map fun x => (x.1, l.drop x.2) := by
  unfold takeNode nodeR
  rw [out_eq h]
  cases ho : outR l n with
  | none => rfl
  | some o =>
    have ko := outR_le ho
    dsimp only [Option.map_some, Option.bind_some]
    unfold oneR
    cases e : l[o.2]? with
    | none => rw [drop_nil e]; rfl
    | some m =>
      rw [drop_cons e]
      have hn := (List.getElem?_eq_some_iff.mp e).1
      dsimp only
      by_cases hm : l.length < m
      · rw [if_pos hm]
        unfold takeMany
        rw [if_pos (by rw [List.length_drop]; omega)]; rfl
      · rw [if_neg hm, take_some (by omega)]
        dsimp only [Option.bind_some]
        cases someR l (o.2 + 1) (2 * m) <;> rfl
theorem nodeR_le {l : List Nat} {n : Nat} {x : Node × Nat} (h : nodeR l n = some x) : n < x.2 ∧ x.2 ≤ l.length := by
  unfold nodeR at h
  cases h1 : outR l n with
  | none => (rw [h1] at h; cases h)
  | some a =>
    rw [h1] at h
    dsimp only [Option.bind_some] at h
    have k1 := outR_le h1
    cases h2 : oneR l a.2 l.length with
    | none => rw [h2] at h; cases h
    | some b =>
      rw [h2] at h
      dsimp only [Option.bind_some] at h
      have k2 := oneR_le h2
      cases h3 : someR l b.2 (2 * b.1) with
      | none => rw [h3] at h; cases h
      | some c =>
        rw [h3] at h
        cases h
        have k3 := someR_le h3
        exact ⟨by show n < c.2; omega, k3.2.1⟩
theorem nodes_eq {l : List Nat} : ∀ (k n : Nat), n ≤ l.length → takeNodes k (l.drop n) = (nodesR l k n).map fun x => (x.1, l.drop x.2)
  | 0, n, h => rfl
  | k + 1, n, h => by
    unfold takeNodes nodesR
    rw [node_eq h]
    cases h1 : nodeR l n with
    | none => rfl
    | some x =>
      dsimp only [Option.map_some, Option.bind_some]
      rw [nodes_eq k x.2 (nodeR_le h1).2]
      cases nodesR l k x.2 <;> rfl
theorem nodesR_le {l : List Nat} : ∀ (k n : Nat) (x : Table × Nat), n ≤ l.length → nodesR l k n = some x → n + k ≤ x.2 ∧ x.2 ≤ l.length ∧ x.1.length = k
  | 0, n, x, hn, h => by cases h; exact ⟨Nat.le_refl _, hn, rfl⟩
  | k + 1, n, x, hn, h => by
    unfold nodesR at h
    cases h1 : nodeR l n with
    | none => (rw [h1] at h; cases h)
    | some a =>
      rw [h1] at h
      dsimp only [Option.bind_some] at h
      have k1 := nodeR_le h1
      cases h2 : nodesR l k a.2 with
      | none => rw [h2] at h; cases h
      | some b =>
        rw [h2] at h
        cases h
        obtain ⟨k2, k3, k4⟩ := nodesR_le k a.2 b k1.2 h2
        exact ⟨by show n + (k + 1) ≤ b.2; omega, k3, by show (a.1 :: b.1).length = k + 1; rw [List.length_cons, k4]⟩
theorem tab_eq (l : List Nat) : readTable l = tabR l := by
  unfold readTable tabR
  cases l with
  | nil => rfl
  | cons n r =>
    dsimp only
    have e0 : oneR (n :: r) 0 300 = if 300 < n then none else some (n, 1) := rfl
    rw [e0]
    by_cases hn : 300 < n
    · rw [if_pos hn, if_pos (show Vahypd.NODES < n from hn)]; rfl
    · rw [if_neg hn, if_neg (show ¬ Vahypd.NODES < n from hn)]
      dsimp only [Option.bind_some]
      have e1 := nodes_eq (l := n :: r) n 1 (by simp)
      rw [show (n :: r).drop 1 = r from rfl] at e1
      rw [e1]
      cases h2 : nodesR (n :: r) n 1 with
      | none => rfl
      | some y =>
        obtain ⟨_, k2, _⟩ := nodesR_le n 1 y (by simp) h2
        dsimp only [Option.map_some, Option.bind_some]
        unfold someR
        cases h3 : (n :: r)[y.2]? with
        | none =>
          have : (n :: r).length ≤ y.2 := by rw [List.getElem?_eq_none_iff] at h3; exact h3
          rw [drop_nil h3, if_pos (by omega)]; rfl
        | some k =>
          have h4 := (List.getElem?_eq_some_iff.mp h3).1
          rw [drop_cons h3, if_neg (by omega)]
          dsimp only [Option.bind_some]
          by_cases h5 : y.2 + 1 < (n :: r).length
          · rw [if_pos h5]
            obtain ⟨a, ha⟩ : ∃ a, (n :: r)[y.2 + 1]? = some a := ⟨_, List.getElem?_eq_getElem h5⟩
            rw [drop_cons ha]
          · rw [if_neg h5, List.drop_eq_nil_of_le (by omega)]; rfl
end Q
/-! Tables told as numbers. -/
namespace Q
open PySem PySem.Spec PyProof.Rows L2 Pt
open VahypBase (Bytes)
open Vahypa (Pat)
open Vahypd (Node Table nodeAt kidAt nodesBy findOut pairsIn)
def okO {α : Type} (r : Option α) (f : α → VP) : VP := match r with
  | some a => f a
  | none => noP
def ntX {α : Type} (K : PySem.W.Frag) (r : Option α) : XP := match r with
  | some _ => noX
  | none => bareX (He.ga K "NotTold")
def optI {α : Type} (r : Option (α × Nat)) (n : Nat) : Nat := match r with
  | some x => x.2
  | none => n
abbrev nuF (l : List Nat) (n : Nat) : Fs := [("row", isL (l.map natP)), ("at", natP n)]
abbrev nuA : Fs := [("row", isAny), ("at", isAny)]
theorem nu_any {l : List Nat} {n : Nat} : ∀ fv G, FldP (nuF l n) fv G → FldP nuA fv G := fun fv G h => fld_any h
section
variable {base : Heap} {P : Program} {w : World} {K : PySem.W.Frag} {mg : Str → Option Value}
theorem kc_Numbers (T : Txt K mg) : Kc P w K mg base 1 "Numbers" (He.ga K "Numbers") ["self", "row"] (oSp (fun _ : List Nat => True) (He.ga K "Numbers") (fun _ => []) (fun l => [isL (l.map natP)]) (fun l => nuF l 0) (fun _ => isN) (fun l => nuF l 0) fun _ => noX) :=
  kc_of T.mk_Numbers T.g_Numbers (fn_own0 T.df_Numbers_init (fun _ => rfl) fun cdv A outer s H E z G a dx hz sG hr =>
    b_cons (s_ofld 0 rfl T.cl_Numbers T.na_Numbers_row (e_v 1 rfl)) (b_one (s_post (s_ofld 0 rfl T.cl_Numbers T.na_Numbers_at e_int) (le_nxO rfl))))
abbrev sp_some (K : PySem.W.Frag) : Sp := oSp (fun z : List Nat × Nat × Nat × Option (List Nat × Nat) => z.2.1 ≤ z.1.length ∧ z.2.2.2 = someR z.1 z.2.1 z.2.2.1) (He.ga K "Numbers") (fun z => nuF z.1 z.2.1) (fun z => [natP z.2.2.1]) (fun z => nuF z.1 (optI z.2.2.2 z.2.1)) (fun z => okO z.2.2.2 fun x => isL (x.1.map natP)) (fun _ => nuA) fun z => ntX K z.2.2.2
theorem km_some (T : Txt K mg) : Km P w K mg base (L2.CX P w) 1 (He.ga K "Numbers") "some" ["self", "many"] (sp_some K) :=
  km_of T.me_Numbers_some (fn_ownX T.df_Numbers_some (fun _ => rfl) fun cdv A outer s H E z G a dx hz sG hr hE => by
    obtain ⟨l, n, m, r⟩ := z
    obtain ⟨hn0, hw⟩ := hz
    have hn : n ≤ l.length := hn0
    have hw' : r = someR l n m := hw
    have tk' : tkOf P w K mg base N_Numbers_some d_Numbers_some (He.ma K (He.ga K "Numbers") "some") cdv A outer s H E := takes_of rfl rfl rfl rfl
    refine b_when (k := decide (l.length < n + m)) (t_cast (t_gt (e_add (e_ofld 0 rfl T.cl_Numbers T.na_Numbers_at rfl) (e_v 1 rfl)) (e_lenL T.n_len (e_ofld 0 rfl T.cl_Numbers T.na_Numbers_row rfl))) ?_) (fun h => ?_) fun h => ?_
    · rw [List.length_map, Bool.eq_iff_iff]; simp only [decide_eq_true_eq]; show ((l.length : Int) < (n : Int) + (m : Int)) ↔ _; omega
    · have e : r = none := by rw [hw']; unfold someR; rw [if_pos (of_decide_eq_true h)]
      subst e
      exact b_one (s_raiseN T tk' (hE.to rfl nu_any fun _ _ _ z => z))
    · have h' : ¬ l.length < n + m := of_decide_eq_false h
      have e : r = some ((l.drop n).take m, n + m) := by rw [hw']; unfold someR; rw [if_neg h']
      subst e
      refine b_cons (s_set (P := isL (((l.drop n).take m).map natP)) 2 sc_Numbers_some.nd (e_cast (e_slL (e_ofld 0 rfl T.cl_Numbers T.na_Numbers_row rfl) (o_at (e_ofld 0 rfl T.cl_Numbers T.na_Numbers_at rfl)) (o_at (e_add (e_ofld 0 rfl T.cl_Numbers T.na_Numbers_at rfl) (e_v 1 rfl)))) ?_)) ?_
      · refine congrArg isL ?_
        have c := cut_at (f := natP) (l := l) (a := n) (b := n + m) (by omega) (by omega)
        rw [show n + m - n = m by omega] at c
        exact c
      · refine b_cons (s_ofld 0 rfl T.cl_Numbers T.na_Numbers_at (e_add (e_ofld 0 rfl T.cl_Numbers T.na_Numbers_at rfl) (e_v 1 rfl))) ?_
        exact b_one (s_retPO (e_v 2 rfl) rfl))
abbrev sp_one (K : PySem.W.Frag) : Sp := oSp (fun z : List Nat × Nat × Nat × Option (Nat × Nat) => z.2.1 ≤ z.1.length ∧ z.2.2.2 = oneR z.1 z.2.1 z.2.2.1) (He.ga K "Numbers") (fun z => nuF z.1 z.2.1) (fun z => [natP z.2.2.1]) (fun z => nuF z.1 (optI z.2.2.2 z.2.1)) (fun z => okO z.2.2.2 fun x => natP x.1) (fun _ => nuA) fun z => ntX K z.2.2.2
theorem km_one (T : Txt K mg) : Km P w K mg base (L2.CX P w) 2 (He.ga K "Numbers") "one" ["self", "most"] (sp_one K) :=
  km_of T.me_Numbers_one (fn_ownX T.df_Numbers_one (fun _ => rfl) fun cdv A outer s H E z G a dx hz sG hr hE => by
    obtain ⟨l, n, m, r⟩ := z
    obtain ⟨hn0, hw⟩ := hz
    have hn : n ≤ l.length := hn0
    have hw' : r = oneR l n m := hw
    have tk' : tkOf P w K mg base N_Numbers_one d_Numbers_one (He.ma K (He.ga K "Numbers") "one") cdv A outer s H E := takes_of rfl rfl rfl rfl
    cases e : l[n]? with
    | none =>
      have e1 : r = none := by rw [hw']; unfold oneR; rw [e]
      subst e1
      have h2 : someR l n 1 = none := by
        unfold someR
        rw [if_pos (by rw [List.getElem?_eq_none_iff] at e; omega)]
      exact b_cons (s_setD (P := isN) 2 sc_Numbers_one.nd (e_ixL (Ps := [isN]) (e_dead (e_oMeth (fr := False) 0 (km_some T) T.cl_Numbers hr (l, n, 1, none) ⟨hn, h2.symm⟩ (passes_call tk' fun _ _ _ _ h => h) rfl (a_one e_int) rfl rfl (hE.to rfl (fun _ _ h => h) fun _ _ _ z => z))) e_int at_zero)) b_dead
    | some v =>
      have hn' := (List.getElem?_eq_some_iff.mp e).1
      have h2 : someR l n 1 = some ([v], n + 1) := by
        unfold someR
        rw [if_neg (by omega), drop_cons e]; rfl
      refine b_cons (s_set (P := natP v) 2 sc_Numbers_one.nd (e_ixL (Ps := [natP v]) (e_oMeth (fr := False) 0 (km_some T) T.cl_Numbers hr (l, n, 1, some ([v], n + 1)) ⟨hn, h2.symm⟩ (passes_call tk' fun _ _ _ _ h => h) rfl (a_one e_int) rfl rfl fun c d σ G' H' _ _ z => z.elim) e_int at_zero)) ?_
      refine b_when (k := decide (m < v)) (t_cast (t_gt (e_v 2 rfl) (e_v 1 rfl)) ?_) (fun h => ?_) fun h => ?_
      · rw [Bool.eq_iff_iff]; simp only [decide_eq_true_eq]; show ((m : Int) < (v : Int)) ↔ _; omega
      · have e1 : r = none := by rw [hw']; unfold oneR; rw [e]; dsimp only; rw [if_pos (of_decide_eq_true h)]
        subst e1
        exact b_one (s_raiseN T tk' (hE.to rfl nu_any fun _ _ _ z => z))
      · have e1 : r = some (v, n + 1) := by rw [hw']; unfold oneR; rw [e]; dsimp only; rw [if_neg (of_decide_eq_false h)]
        subst e1
        exact b_one (s_retPO (e_v 2 rfl) rfl))
/-! ### a node -/
theorem pairs_at : ∀ (m : Nat) (l : List Nat), l.length = 2 * m → pairsIn l = (List.range m).map fun k => (l.getD (2 * k) 0, l.getD (2 * k + 1) 0)
  | 0, [], _ => rfl
  | 0, a :: l, h => by simp at h
  | m + 1, [], h => by simp at h
  | m + 1, [a], h => by simp at h; omega
  | m + 1, a :: b :: l, h => by
    have h' : l.length = 2 * m := by simp at h; omega
    show (a, b) :: pairsIn l = _
    rw [pairs_at m l h', List.range_succ_eq_map, List.map_cons, List.map_map]
    refine congrArg (List.cons _) (List.map_congr_left fun k _ => ?_)
    show _ = ((a :: b :: l).getD (2 * (k + 1)) 0, (a :: b :: l).getD (2 * (k + 1) + 1) 0)
    rw [show 2 * (k + 1) = 2 * k + 1 + 1 by omega, show 2 * k + 1 + 1 + 1 = 2 * k + 1 + 1 + 1 from rfl]
    rfl
abbrev sp_node (K : PySem.W.Frag) : Sp := oSp (fun z : List Nat × Nat × Option (Node × Nat) => z.2.1 ≤ z.1.length ∧ z.1.length ≤ 5000 ∧ z.2.2 = nodeR z.1 z.2.1) (He.ga K "Numbers") (fun z => nuF z.1 z.2.1) (fun z => []) (fun z => nuF z.1 (optI z.2.2 z.2.1)) (fun z => okO z.2.2 fun x => nodP x.1) (fun _ => nuA) fun z => ntX K z.2.2
end
section
variable {X : Cx} {fr : Prop} {A A' N bk ct : As} {B : Bs} {Γ : List Sl} {e : Expr} {pos apos pn : Pos} {rt : V → Hp → Hp → Prop} {l : List Nat} {n m : Nat} {me : Bool} {E : XK} {pl : Sem Bool}
/-- self.one(e) -/
theorem e_one' (T : Txt X.K X.mg) (hr : Room 2 X.A) (hn : n ≤ l.length) (r : Option (Nat × Nat)) (e1 : r = oneR l n m) (tk' : Takes X (fun c d _ H => E c d H)) (hΓ : Γ[0]? = some (.obj me (He.ga X.K "Numbers") (nuF l n))) (ha : Ja False X (Ga B Γ) [e] [natP m] (Ga B Γ)) (hE : ∀ c' d σ G H, Same G H → (Ga B (Γ.set 0 (.obj me (He.ga X.K "Numbers") nuA))).p σ G H → (ntX X.K r).p c' d G → E c' d H) (hN : X.N[0]? = some ("self" : Str) := by rfl) (hv : Vis X.env.scope "self" := by first | exact Or.inl rfl | exact Or.inr (Or.inl rfl) | exact Or.inr (Or.inr rfl))
    (hst : starEach [e] X.env = (false, eval e X.env) :: starEach [] X.env := by rfl) (hpl : (backTo pos (starEach [] X.env)).any (·.1) = false := by rfl)
    (ht : eval (.Call (.Attribute (.Name "self" pn) "one" apos) [e] [] pos) X.env = (do let ov ← eval (.Name "self" pn) X.env; standAt apos.atName; let (f, first) ← holding [ov] (getMethod ov "one" pl); callWith pos f first (backTo pos (starEach [e] X.env)) (backToKw pos (keywordEach [] X.env))) := by rfl) :
    Je False X (Ga B Γ) (.Call (.Attribute (.Name "self" pn) "one" apos) [e] [] pos) (okO r fun x => natP x.1) (Ga B (Γ.set 0 (.obj me (He.ga X.K "Numbers") (nuF l (optI r n))))) :=
  e_oMeth (fr := False) (E := E) 0 (km_one (P := X.prog) (w := X.w) (base := X.base) T) T.cl_Numbers hr (l, n, m, r) ⟨hn, e1⟩ (passes_call tk' fun _ _ _ _ h => h) hΓ ha hΓ rfl hE hN hv (by decide) (by decide) hst hpl ht
/-- self.some(e); e may move on -/
theorem e_some' {Γ2 : List Sl} {gs : Fs} (T : Txt X.K X.mg) (hr : Room 1 X.A) (hn : n ≤ l.length) (r : Option (List Nat × Nat)) (e1 : r = someR l n m) (tk' : Takes X (fun c d _ H => E c d H)) (hΓ : Γ[0]? = some (.obj me (He.ga X.K "Numbers") gs)) (hl : gs.lookup ("some" : Str) = none) (ha : Ja False X (Ga B Γ) [e] [natP m] (Ga B Γ2)) (h2 : Γ2[0]? = some (.obj me (He.ga X.K "Numbers") (nuF l n))) (hE : ∀ c' d σ G H, Same G H → (Ga B (Γ2.set 0 (.obj me (He.ga X.K "Numbers") nuA))).p σ G H → (ntX X.K r).p c' d G → E c' d H) (hN : X.N[0]? = some ("self" : Str) := by rfl) (hv : Vis X.env.scope "self" := by first | exact Or.inl rfl | exact Or.inr (Or.inl rfl) | exact Or.inr (Or.inr rfl))
    (hst : starEach [e] X.env = (false, eval e X.env) :: starEach [] X.env := by rfl) (hpl : (backTo pos (starEach [] X.env)).any (·.1) = false := by rfl)
    (ht : eval (.Call (.Attribute (.Name "self" pn) "some" apos) [e] [] pos) X.env = (do let ov ← eval (.Name "self" pn) X.env; standAt apos.atName; let (f, first) ← holding [ov] (getMethod ov "some" pl); callWith pos f first (backTo pos (starEach [e] X.env)) (backToKw pos (keywordEach [] X.env))) := by rfl) :
    Je False X (Ga B Γ) (.Call (.Attribute (.Name "self" pn) "some" apos) [e] [] pos) (okO r fun x => isL (x.1.map natP)) (Ga B (Γ2.set 0 (.obj me (He.ga X.K "Numbers") (nuF l (optI r n))))) :=
  e_oMeth (fr := False) (E := E) 0 (km_some (P := X.prog) (w := X.w) (base := X.base) T) T.cl_Numbers hr (l, n, m, r) ⟨hn, e1⟩ (passes_call tk' fun _ _ _ _ h => h) hΓ ha h2 hl hE hN hv (by decide) (by decide) hst hpl ht

/-- x.m(e, ..), the arguments never come -/
theorem e_oMethD {k : Nat} {C : Addr} {m x : Str} {ps : List Str} {α : Type} {pre : α → Prop} {fs fs' fe : α → Fs} {args : α → List VP} {post' : α → VP} {exc : α → XP} {R : VP} {Ps : List VP} {es : List Expr} (i : Nat) {gs : Fs} {CX : CXT} (F : Km X.prog X.w X.K X.mg X.base CX k C m ps (oSp pre C fs args fs' post' fe exc)) (T : Cls X.K C) (hr : Room k X.A) (hx : Passes CX X E) (hΓ : Γ[i]? = some (.obj me C gs)) (ha : Ja fr X (Ga B Γ) (e :: es) Ps As.no) (hl : gs.lookup m = none) (hN : X.N[i]? = some x := by rfl) (hv : Vis X.env.scope x := by first | exact Or.inl rfl | exact Or.inr (Or.inl rfl) | exact Or.inr (Or.inr rfl))
    (hd : (x == ("__debug__" : Str)) = false := by decide) (hcd : (x == ("__classdict__" : Str)) = false := by decide) (hst : starEach (e :: es) X.env = (false, eval e X.env) :: starEach es X.env := by rfl) (hpl : (backTo pos (starEach es X.env)).any (·.1) = false := by rfl)
    (ht : eval (.Call (.Attribute (.Name x pn) m apos) (e :: es) [] pos) X.env = (do let ov ← eval (.Name x pn) X.env; standAt apos.atName; let (f, first) ← holding [ov] (getMethod ov m pl); callWith pos f first (backTo pos (starEach (e :: es) X.env)) (backToKw pos (keywordEach [] X.env))) := by rfl) :
    Je False X (Ga B Γ) (.Call (.Attribute (.Name x pn) m apos) (e :: es) [] pos) R As.no := by
  obtain ⟨f, fd, F1, g, hb⟩ := F.ex
  refine pe_imp (pe_meth (pv i hN hv hd hcd) T g F1 hr hb .nil hx ha hst hpl ht) fun σ H Q ⟨G, s, a, q⟩ => ?_
  obtain ⟨o, e1, y, dx, vs, rfl, g1, h1, b1, q1⟩ := ga_get a hΓ
  exact ⟨_, e1, y, dx, vs, rfl, h1, fld_none q1 hl, G, s, a, fun us G1 H1 p1 r => p1.a.elim⟩
end
section
variable {base : Heap} {P : Program} {w : World} {K : PySem.W.Frag} {mg : Str → Option Value}
theorem km_node (T : Txt K mg) : Km P w K mg base (L2.CX P w) 3 (He.ga K "Numbers") "node" ["self"] (sp_node K) :=
  km_of T.me_Numbers_node (fn_ownX T.df_Numbers_node (fun _ => rfl) fun cdv A outer s H E z G a dx hz sG hr hE => by
    obtain ⟨l, n, r⟩ := z
    obtain ⟨hn0, hl0, hw⟩ := hz
    have hn : n ≤ l.length := hn0
    have hl : l.length ≤ 5000 := hl0
    have hw' : r = nodeR l n := hw
    have tk' : tkOf P w K mg base N_Numbers_node d_Numbers_node (He.ma K (He.ga K "Numbers") "node") cdv A outer s H E := takes_of rfl rfl rfl rfl
    have dead : r = none → ∀ {B' : Bs} {Γ : List Sl}, B' = Bs.me G H a dx → Γ[0]? = some (.obj true (He.ga K "Numbers") nuA) → ∀ c' d σ G H, Same G H → (Ga B' Γ).p σ G H → (bareX (He.ga K "NotTold")).p c' d G → E c' d H := fun e B' Γ eb hΓ => by
      subst e eb
      exact hE.to hΓ (fun _ _ h => h) fun _ _ _ z => z
    have rnone : outR l n = none → r = none := fun e => by rw [hw']; unfold nodeR; rw [e]; rfl
    refine b_cons (s_set 1 sc_Numbers_node.nd e_non) ?_
    refine b_cons (M := As.ex fun o : {o : Option (List Nat) × Nat // outR l n = some o} => Ga (Bs.me G H a dx) [.obj true (He.ga K "Numbers") (nuF l o.1.2), .val (optP o.1.1 natsP), .any, .any, .any]) ?_ ?_
    · cases h1 : oneR l n 1 with
      | none =>
        have ho : outR l n = none := by unfold outR; rw [h1]; rfl
        exact s_if (k := decide ((0 : Int) = 1)) (t_eqI (A1 := As.no) (A2 := As.no) (e_dead (e_one' T (hr.mono (by decide)) hn none h1.symm tk' rfl (a_one e_int) (dead (rnone ho) rfl rfl))) e_int) (fun _ => b_dead) (fun _ => b_dead)
      | some x =>
        obtain ⟨k1, k2, k3, k4⟩ := oneR_le h1
        refine s_if (k := decide (x.1 = 1)) (t_cast (t_eqI (i := (x.1 : Int)) (e_one' T (hr.mono (by decide)) hn (some x) h1.symm tk' rfl (a_one e_int) fun c d σ G' H' _ _ z => z.elim) e_int) ?_) (fun h => ?_) (fun h => ?_)
        · rw [Bool.eq_iff_iff]; simp only [decide_eq_true_eq]; omega
        · have hx1 : x.1 = 1 := of_decide_eq_true h
          have hn1 : x.2 ≤ l.length := by omega
          cases h2 : oneR l x.2 l.length with
          | none =>
            have ho : outR l n = none := by unfold outR; rw [h1]; dsimp only [Option.bind_some]; rw [if_pos hx1, h2]; rfl
            refine b_one (s_setD (P := isT []) 1 sc_Numbers_node.nd (e_tupleL T.n_tuple (e_oMethD 0 (km_some T) T.cl_Numbers (hr.mono (by decide)) (passes_call tk' fun _ _ _ _ h => h) rfl (a_one (P := isN) (e_dead (e_one' T (hr.mono (by decide)) hn1 none h2.symm tk' rfl (a_one (e_cast (e_lenL T.n_len (e_ofld 0 rfl T.cl_Numbers T.na_Numbers_row rfl)) (by rw [List.length_map]))) (dead (rnone ho) rfl rfl)))) rfl)))
          | some y =>
            obtain ⟨j1, j2, j3, j4⟩ := oneR_le h2
            have hn2 : y.2 ≤ l.length := by omega
            cases h3 : someR l y.2 y.1 with
            | none =>
              have ho : outR l n = none := by unfold outR; rw [h1]; dsimp only [Option.bind_some]; rw [if_pos hx1, h2]; dsimp only [Option.bind_some]; rw [h3]; rfl
              refine b_one (s_setD (P := isT []) 1 sc_Numbers_node.nd (e_tupleL T.n_tuple (e_dead (e_some' T (hr.mono (by decide)) hn2 none h3.symm tk' rfl rfl (a_one (e_one' T (hr.mono (by decide)) hn1 (some y) h2.symm tk' rfl (a_one (e_cast (e_lenL T.n_len (e_ofld 0 rfl T.cl_Numbers T.na_Numbers_row rfl)) (by rw [List.length_map]))) fun c d σ G' H' _ _ z => z.elim)) rfl (dead (rnone ho) rfl rfl)))))
            | some z =>
              have ho : outR l n = some (some z.1, z.2) := by unfold outR; rw [h1]; dsimp only [Option.bind_some]; rw [if_pos hx1, h2]; dsimp only [Option.bind_some]; rw [h3]; rfl
              refine b_one (s_post (s_set 1 sc_Numbers_node.nd (e_tupleL T.n_tuple (e_some' T (hr.mono (by decide)) hn2 (some z) h3.symm tk' rfl rfl (a_one (e_one' T (hr.mono (by decide)) hn1 (some y) h2.symm tk' rfl (a_one (e_cast (e_lenL T.n_len (e_ofld 0 rfl T.cl_Numbers T.na_Numbers_row rfl)) (by rw [List.length_map]))) fun c d σ G' H' _ _ z => z.elim)) rfl fun c d σ G' H' _ _ z => z.elim))) (le_ex ⟨(some z.1, z.2), ho⟩ .refl))
        · have hx1 : ¬ x.1 = 1 := of_decide_eq_false h
          have ho : outR l n = some (none, x.2) := by unfold outR; rw [h1]; dsimp only [Option.bind_some]; rw [if_neg hx1]
          exact b_nil (le_ex ⟨(none, x.2), ho⟩ .refl)
    · refine b_ex fun ⟨⟨o, n1⟩, ho⟩ => ?_
      have ko := outR_le ho
      have hn1 : n1 ≤ l.length := ko.2
      have hr1 : r = (oneR l n1 l.length).bind fun y => (someR l y.2 (2 * y.1)).map fun z => (⟨o, pairsIn z.1⟩, z.2) := by rw [hw']; unfold nodeR; rw [ho]; rfl
      cases h2 : oneR l n1 l.length with
      | none =>
        have e : r = none := by rw [hr1, h2]; rfl
        exact b_cons (s_setD (P := isN) 2 sc_Numbers_node.nd (e_dead (e_one' T (hr.mono (by decide)) hn1 none h2.symm tk' rfl (a_one (e_cast (e_lenL T.n_len (e_ofld 0 rfl T.cl_Numbers T.na_Numbers_row rfl)) (by rw [List.length_map]))) (dead e rfl rfl)))) b_dead
      | some y =>
        obtain ⟨j1, j2, j3, j4⟩ := oneR_le h2
        have hn2 : y.2 ≤ l.length := by omega
        refine b_cons (s_set (P := natP y.1) 2 sc_Numbers_node.nd (e_one' T (hr.mono (by decide)) hn1 (some y) h2.symm tk' rfl (a_one (e_cast (e_lenL T.n_len (e_ofld 0 rfl T.cl_Numbers T.na_Numbers_row rfl)) (by rw [List.length_map]))) fun c d σ G' H' _ _ z => z.elim)) ?_
        cases h3 : someR l y.2 (2 * y.1) with
        | none =>
          have e : r = none := by rw [hr1, h2]; dsimp only [Option.bind_some]; rw [h3]; rfl
          exact b_cons (s_setD (P := isN) 3 sc_Numbers_node.nd (e_dead (e_some' T (hr.mono (by decide)) hn2 none h3.symm tk' rfl rfl (a_one (e_cast (R := natP (2 * y.1)) (e_mul e_int (e_v 2 rfl) (.inl (by decide))) (congrArg isI (by omega)))) rfl (dead e rfl rfl)))) b_dead
        | some z =>
          obtain ⟨i1, i2, i3⟩ := someR_le h3
          have e : r = some (⟨o, pairsIn z.1⟩, z.2) := by rw [hr1, h2]; dsimp only [Option.bind_some]; rw [h3]; rfl
          subst e
          have hzl : z.1.length = 2 * y.1 := by
            rw [i3, List.length_take, List.length_drop]; omega
          refine b_cons (s_set (P := isL (z.1.map natP)) 3 sc_Numbers_node.nd (e_some' T (hr.mono (by decide)) hn2 (some z) h3.symm tk' rfl rfl (a_one (e_cast (R := natP (2 * y.1)) (e_mul e_int (e_v 2 rfl) (.inl (by decide))) (congrArg isI (by omega)))) rfl fun c d σ G' H' _ _ z => z.elim)) ?_
          have gz : ∀ i, i < 2 * y.1 → z.1[i]? = some (z.1.getD i 0) := fun i hi => by
            rw [List.getD_eq_getElem?_getD, List.getElem?_eq_getElem (by omega)]; rfl
          refine b_one (s_retO (e_tup (a_cons (e_v 1 rfl) (a_one (e_cast (e_tupleL T.n_tuple (e_lc (own := [("k", 4)]) (List.range y.1) (fun k => isI (0 + (k : Int))) (fun _ => true) (fun k => kidP (z.1.getD (2 * k) 0, z.1.getD (2 * k + 1) 0)) sc_Numbers_node.nd (i_range1 T.n_range (a_one (e_v 2 rfl)) (by omega)) (blkOk_by (by rfl)) (by rw [List.length_range, line_eq]; omega) (fun _ _ _ _ _ k _ => g_name 4 sc_Numbers_node.nd) (fun _ _ _ _ _ k _ => ts_nil) (fun _ _ _ _ _ k hk _ => e_tup (a_cons (e_ixL (e_v 3 rfl) (e_mul e_int (e_v 4 rfl) (.inl (by decide))) ?_) (a_one (e_ixL (e_v 3 rfl) (e_add (e_mul e_int (e_v 4 rfl) (.inl (by decide))) e_int) ?_)))))) ?_)))) rfl)
          · have := List.mem_range.mp hk
            have h := at_map (f := natP) (gz (2 * k) (by omega))
            rw [show ((2 * k : Nat) : Int) = 2 * (0 + (k : Int)) by omega] at h
            exact h
          · have := List.mem_range.mp hk
            have h := at_map (f := natP) (gz (2 * k + 1) (by omega))
            rw [show ((2 * k + 1 : Nat) : Int) = 2 * (0 + (k : Int)) + 1 by omega] at h
            exact h
          · rw [filter_yes]
            show isT _ = kidsP (pairsIn z.1)
            rw [pairs_at y.1 z.1 hzl]
            unfold kidsP
            rw [List.map_map]; rfl)
end
end Q
/-! Tables told as numbers: whole ones; whether they are right. -/
namespace Q
open PySem PySem.Spec PyProof.Rows L2 Pt
open VahypBase (Bytes)
open Vahypa (Pat)
open Vahypd (Node Table nodeAt kidAt nodesBy findOut pairsIn)
theorem nodesR_snoc {l : List Nat} {k m : Nat} {done : Table} {r : Option (Table × Nat)} (h : r = (nodesR l (k + 1) m).map fun y => (done ++ y.1, y.2)) :
    (nodeR l m = none → r = none) ∧ (∀ x, nodeR l m = some x → r = (nodesR l k x.2).map fun y => ((done ++ [x.1]) ++ y.1, y.2)) := by
  have e0 : nodesR l (k + 1) m = (nodeR l m).bind fun x => (nodesR l k x.2).map fun y => (x.1 :: y.1, y.2) := rfl
  rw [h, e0]
  refine ⟨fun e => by rw [e]; rfl, fun x e => ?_⟩
  rw [e]
  dsimp only [Option.bind_some]
  cases nodesR l k x.2 with
  | none => rfl
  | some y =>
    show some (done ++ (x.1 :: y.1), y.2) = some (done ++ [x.1] ++ y.1, y.2)
    rw [List.append_assoc]; rfl
section
variable {base : Heap} {P : Program} {w : World} {K : PySem.W.Frag} {mg : Str → Option Value}
abbrev sp_table (K : PySem.W.Frag) : Sp := oSp (fun z : List Nat × Option (Table × Nat) => z.1.length ≤ 5000 ∧ z.2 = tabR z.1) (He.ga K "Numbers") (fun z => nuF z.1 0) (fun z => []) (fun _ => nuA) (fun z => okO z.2 fun x => tabO K x) (fun _ => nuA) fun z => ntX K z.2
theorem km_table (T : Txt K mg) : Km P w K mg base (L2.CX P w) 4 (He.ga K "Numbers") "table" ["self"] (sp_table K) :=
  km_of T.me_Numbers_table (fn_ownX T.df_Numbers_table (fun _ => rfl) fun cdv A outer s H E z G a dx hz sG hr hE => by
    obtain ⟨l, r⟩ := z
    obtain ⟨hl0, hw⟩ := hz
    have hl : l.length ≤ 5000 := hl0
    have hw' : r = tabR l := hw
    have tk' : tkOf P w K mg base N_Numbers_table d_Numbers_table (He.ma K (He.ga K "Numbers") "table") cdv A outer s H E := takes_of rfl rfl rfl rfl
    have dead : r = none → ∀ {B' : Bs} {Γ : List Sl}, B' = Bs.me G H a dx → Γ[0]? = some (.obj true (He.ga K "Numbers") nuA) → ∀ c' d σ G H, Same G H → (Ga B' Γ).p σ G H → (bareX (He.ga K "NotTold")).p c' d G → E c' d H := fun e B' Γ eb hΓ => by
      subst e eb
      exact hE.to hΓ (fun _ _ h => h) fun _ _ _ z => z
    refine b_cons (s_own 1 sc_Numbers_table.nd (l_lst a_nil)) ?_
    unfold tabR at hw'
    cases h1 : oneR l 0 300 with
    | none =>
      rw [h1] at hw'
      have e : r = none := hw'
      refine b_cons (M := As.no) (s_for (ws := [2]) (Ps := numP 0 0) (fun _ => As.no) (fun _ => As.no) (i_range1 (n := 0) (A1 := As.no) T.n_range (a_one (e_dead (e_one' T (hr.mono (by decide)) (Nat.zero_le _) none h1.symm tk' rfl (a_one (e_glob T.c_MOST_NODES)) (dead e rfl rfl)))) (by decide)) .refl (fun i P hP => by cases hP) (fun i P hP => by cases hP) .refl (by exact passes_of rfl)) b_dead
    | some x =>
      obtain ⟨k1, k2, k3, k4⟩ := oneR_le h1
      rw [h1] at hw'
      dsimp only [Option.bind_some] at hw'
      have hx2 : x.2 ≤ l.length := by omega
      refine b_cons (M := As.ex fun y : {y : Table × Nat // nodesR l x.1 x.2 = some y} => Ga (Bs.me G H a dx) [.obj true (He.ga K "Numbers") (nuF l y.1.2), .own (y.1.1.map nodP), .any, .any]) (s_for (ws := [2]) (Ps := numP 0 x.1)
          (fun i => As.ex fun y : {y : Table × Nat // y.1.length = i ∧ y.2 ≤ l.length ∧ nodesR l x.1 x.2 = (nodesR l (x.1 - i) y.2).map fun z => (y.1 ++ z.1, z.2)} => Ga (Bs.me G H a dx) [.obj true (He.ga K "Numbers") (nuF l y.1.2), .own (y.1.1.map nodP), .any, .any])
          (fun i => As.ex fun y : {y : Table × Nat // i < x.1 ∧ y.1.length = i ∧ y.2 ≤ l.length ∧ nodesR l x.1 x.2 = (nodesR l (x.1 - i) y.2).map fun z => (y.1 ++ z.1, z.2)} => Ga (Bs.me G H a dx) [.obj true (He.ga K "Numbers") (nuF l y.1.2), .own (y.1.1.map nodP), .any, .any])
          (i_range1 T.n_range (a_one (P := natP x.1) (e_one' T (hr.mono (by decide)) (Nat.zero_le _) (some x) h1.symm tk' rfl (a_one (e_glob T.c_MOST_NODES)) fun c d σ G' H' _ _ z => z.elim)) (by omega)) ?_ ?_ ?_ ?_ (by exact passes_of rfl)) ?_
      · refine le_ex ⟨([], x.2), rfl, hx2, ?_⟩ .refl
        show nodesR l x.1 x.2 = (nodesR l x.1 x.2).map fun z => ([] ++ z.1, z.2)
        cases nodesR l x.1 x.2 <;> rfl
      · intro i P hP
        obtain ⟨hi, rfl⟩ := numP_at hP
        exact g_ex fun y => g_post (g_name 2 sc_Numbers_table.nd) (le_ex ⟨y.1, hi, y.2⟩ (ga_le' (.cons .rfl' (.cons .rfl' (.cons .any' (.cons .rfl' .nil))))))
      · intro i P hP
        refine b_ex fun ⟨⟨done, m⟩, hi, hd, hm, e⟩ => ?_
        have hm' : m ≤ l.length := hm
        have e' : nodesR l x.1 x.2 = (nodesR l (x.1 - (i + 1) + 1) m).map fun z => (done ++ z.1, z.2) := by
          rw [show x.1 - (i + 1) + 1 = x.1 - i by omega]; exact e
        obtain ⟨s1, s2⟩ := nodesR_snoc e'
        cases hn : nodeR l m with
        | none =>
          have er : r = none := by rw [hw', s1 hn]; rfl
          exact b_one (s_never_append (P := isN) 1 (e_dead (e_oMeth0 0 (km_node T) T.cl_Numbers hr (l, m, none) ⟨hm', hl, hn.symm⟩ (passes_call tk' fun _ _ _ _ h => h) rfl rfl rfl (dead er rfl rfl))) rfl)
        | some y =>
          have ky := nodeR_le hn
          refine b_one (s_post (s_append 1 (Ps := done.map nodP) rfl rfl (P := nodP y.1) (e_oMeth0 0 (km_node T) T.cl_Numbers hr (l, m, some y) ⟨hm', hl, hn.symm⟩ (passes_call tk' fun _ _ _ _ h => h) rfl rfl rfl fun c d σ G' H' _ _ z => z.elim) ?_) (le_ex ⟨(done ++ [y.1], y.2), ?_, ky.2, s2 y hn⟩ (ga_le' ?_)))
          · have hd' : done.length = i := hd
            rw [List.length_map, hd', line_eq]; omega
          · have hd' : done.length = i := hd
            show (done ++ [y.1]).length = i + 1
            rw [List.length_append, hd']; rfl
          · refine .cons .rfl' (.cons (.inl ?_) (.cons .rfl' (.cons .rfl' .nil)))
            show Sl.own ((done ++ [y.1]).map nodP) = _
            rw [List.map_append]; rfl
      · rw [numP_len]
        refine ex_le fun ⟨⟨done, m⟩, hd, hm, e⟩ => le_ex ⟨(done, m), ?_⟩ .refl
        rw [e, Nat.sub_self]
        show some (done ++ [], m) = _
        rw [List.append_nil]
      · refine b_ex fun ⟨⟨nodes, m⟩, e⟩ => ?_
        obtain ⟨_, hm, hlen⟩ := nodesR_le x.1 x.2 _ hx2 e
        have hm' : m ≤ l.length := hm
        rw [e] at hw'
        dsimp only [Option.bind_some] at hw'
        cases h3 : someR l m 1 with
        | none =>
          rw [h3] at hw'
          have er : r = none := hw'
          exact b_cons (s_setD (P := isN) 3 sc_Numbers_table.nd (e_ixL (Ps := [isN]) (e_dead (e_oMeth (fr := False) 0 (km_some T) T.cl_Numbers (hr.mono (by decide)) (l, m, 1, none) ⟨hm', h3.symm⟩ (passes_call tk' fun _ _ _ _ h => h) rfl (a_one e_int) rfl rfl (dead er rfl rfl))) e_int at_zero)) b_dead
        | some z =>
          obtain ⟨i1, i2, i3⟩ := someR_le h3
          rw [h3] at hw'
          dsimp only [Option.bind_some] at hw'
          have hz1 : z.1 = [z.1.getD 0 0] := by
            have : z.1.length = 1 := by rw [i3, List.length_take, List.length_drop]; omega
            match z.1, this with
            | [v], _ => rfl
          refine b_cons (s_set (P := natP (z.1.getD 0 0)) 3 sc_Numbers_table.nd (e_ixL (Ps := [natP (z.1.getD 0 0)]) (e_cast (e_oMeth (fr := False) 0 (km_some T) T.cl_Numbers (hr.mono (by decide)) (l, m, 1, some z) ⟨hm', h3.symm⟩ (passes_call tk' fun _ _ _ _ h => h) rfl (a_one e_int) rfl rfl fun c d σ G' H' _ _ z => z.elim) ?_) e_int at_zero)) ?_
          · show isL (z.1.map natP) = _
            rw [hz1]; rfl
          · refine b_when (k := decide (z.2 < l.length)) (t_cast (t_lt (e_ofld 0 rfl T.cl_Numbers T.na_Numbers_at rfl) (e_lenL T.n_len (e_ofld 0 rfl T.cl_Numbers T.na_Numbers_row rfl))) ?_) (fun h => ?_) fun h => ?_
            · rw [List.length_map, Bool.eq_iff_iff]; simp only [decide_eq_true_eq]; show ((z.2 : Int) < (l.length : Int)) ↔ _; omega
            · rw [if_pos (of_decide_eq_true h)] at hw'
              subst hw'
              exact b_one (s_raiseN T tk' (hE.to rfl nu_any fun _ _ _ z => z))
            · rw [if_neg (of_decide_eq_false h)] at hw'
              subst hw'
              exact b_one (s_retOw (e_make (kc_Table T) (hr.mono (by decide)) (nodes, z.1.getD 0 0) trivial (a_cons (e_thaw 1 rfl) (a_one (e_v 3 rfl)))) rfl nu_any))
end
/-! ### try -/
theorem passes_len {X : Cx} {W : WX} {E : XK} (tk : Takes X W) (hW : ∀ c d σ H, σ.length = X.N.length → E c d H → W c d σ H) : Passes (L2.CX X.prog X.w) X E := fun pins σ H s e s' I c => tk e s' (XE.of_call I (fun cls d H' h => hW cls d σ H' I.len h) c)
/-- the wish of an exception of a try's body -/
def eW (n : Nat) (W : WX) : XK := fun c d H => ∀ σ : L2.St, σ.length = n → W c d σ H
section
variable {base : Heap} {P : Program} {w : World} {K : PySem.W.Frag} {mg : Str → Option Value}
/-- the table that numbers tell -/
def tableIn (l : List Int) : Option (Table × Nat) := if l.any (fun z => decide (z < 0)) = true then none else tabR (l.map fun z => z.toNat)
abbrev isIs (l : List Int) : VP := isL (l.map fun i => isI i)
abbrev sp_read_table (K : PySem.W.Frag) : Sp := fSp (fun l : List Int => l.length ≤ 5000) (fun l => [isIs l]) (fun l => optP (tableIn l) (tabO K)) fun _ => noX
theorem kn_read_table (T : Txt K mg) : Kn P w K mg base CX0 5 "read_table" ["row"] (sp_read_table K) :=
  kn_of T.g_read_table (fn_plain0 T.df_read_table (fun _ => rfl) fun cdv A outer s H E l G hz sG hr => by
    have hl : l.length ≤ 5000 := hz
    refine b_when (k := l.any (fun z => decide (z < 0))) (t_cast (t_val (e_any rfl T.n_any (bs := l.map fun z => decide (z < 0)) (e_cast (e_lc (own := [("number", 1)]) l (fun i => isI i) (fun _ => true) (fun z => isB (decide (z < 0))) sc_read_table.nd (i_list (e_v 0 rfl)) (blkOk_by (by rfl)) (by rw [line_eq]; omega) (fun _ _ _ _ _ k _ => g_name 1 sc_read_table.nd) (fun _ _ _ _ _ k _ => ts_nil) (fun _ _ _ _ _ k hk _ => e_lt (e_v 1 rfl) e_int)) ?_))) ?_) (fun h => b_one (s_retP (e_cast e_non ?_))) fun h => ?_
    · rw [filter_yes, List.map_map]; rfl
    · rw [List.any_map]; rfl
    · show isN = optP (tableIn l) (tabO K)
      unfold tableIn
      rw [if_pos h]; rfl
    · have ht : tableIn l = tabR (l.map fun z => z.toNat) := by
        unfold tableIn
        (rw [if_neg (by rw [h]; exact Bool.false_ne_true)])
      have hrow : isIs l = isL ((l.map fun z => z.toNat).map natP) := by
        refine congrArg isL ?_
        rw [List.map_map]
        refine List.map_congr_left fun z hz => ?_
        have hz' : ¬ z < 0 := fun q => by
          have : l.any (fun z => decide (z < 0)) = true := List.any_eq_true.mpr ⟨z, hz, decide_eq_true q⟩
          rw [this] at h; cases h
        show isI z = isI ((z.toNat : Nat) : Int)
        rw [Int.toNat_of_nonneg (by omega)]
      refine b_one (ps_imp (ps_try_only (x := "NotTold") (c := .ref (He.ga K "NotTold")) (Wout := fun _ _ _ _ => False) (ts := fun a cls d => tRet (tC .non)) (tb := fun W D σ H1 => ∃ _ : XF (Bs.pl G H) (ntX K (tableIn l)) (eW N_read_table.length W), jS (Ga (Bs.pl G H) (inSl [isIs l] (N_read_table.length - ["row"].length))) ⟨As.no, rtF (Bs.pl G H) (optP (tableIn l) (tabO K)), As.no, As.no⟩ D σ H1) rfl rfl ⟨rfl, rfl, .inl T.g_NotTold⟩ takes_none5 (fun W pn xe tk hp => pss_any fun hE => ?_) (fun a oe cls d pn hz' hf => pss_one (ps_ret pe_non))) fun D σ H1 ⟨G1, s1, a1, n1, r1, b1, c1⟩ => ?_)
      · refine b_one (s_retP (e_imp (e_makeMeth (E := eW N_read_table.length W) (kc_Numbers T) (hr.mono (by decide)) (l.map fun z => z.toNat) trivial (km_table T) T.cl_Numbers hr (l.map (fun z => z.toNat), tabR (l.map fun z => z.toNat)) ⟨by show (l.map fun z => z.toNat).length ≤ 5000; rw [List.length_map]; exact hl, rfl⟩ rfl rfl rfl (passes_len tk fun c d σ H hσ h => h σ hσ) (a_one (e_cast (e_v 0 rfl) hrow)) (hE.to fun c d G' z => ?_)) fun v H' z => ?_))
        · show (ntX K (tableIn l)).p c d G'
          rw [ht]; exact z
        · rw [ht]
          cases hq : tabR (l.map fun z => z.toNat) with
          | none => rw [hq] at z; exact z.elim
          | some t => rw [hq] at z; exact z
      · refine ⟨fun c d G' H' w' hx σ' hσ => ?_, G1, s1, a1, fun _ _ _ _ _ z => z.elim, r1, fun _ _ _ _ _ z => z.elim, fun _ _ _ _ _ z => z.elim⟩
        cases hq : tableIn l with
        | some t => rw [hq] at hx; exact hx.elim
        | none =>
          rw [hq] at hx
          have ec : c = .ref (He.ga K "NotTold") := hx
          subst ec
          exact ⟨true, T.xm_NotTold, fun _ aa ha => r1 _ G' H' w'.i ⟨w', by rw [hq]; rfl⟩, fun z => by cases z⟩)
end
end Q
/-! Whether a table is right; what a node, a table tells; sizes. -/
namespace Q
open PySem PySem.Spec PyProof.Rows L2 Pt
open VahypBase (Bytes)
open Vahypa (Pat)
open Vahypd (Node Table nodeAt kidAt nodesBy findOut pairsIn)
def edgesB (l : List (Nat × Nat)) (k : Nat) : Bool := (l.all fun x => decide (x.2 < k)) && (l.zip (l.drop 1)).all fun x => decide (x.1.1 < x.2.1)
section
variable {base : Heap} {P : Program} {w : World} {K : PySem.W.Frag} {mg : Str → Option Value}
theorem kn_edges (T : Txt K mg) : Kn P w K mg base CX0 1 "are_edges_right" ["edges", "k"] (fSp (fun z : List (Nat × Nat) × Nat => z.1.length ≤ 100000) (fun z => [kidsP z.1, natP z.2]) (fun z => isB (edgesB z.1 z.2)) fun _ => noX) :=
  kn_of T.g_are_edges_right (fn_plain0 T.df_are_edges_right (fun _ => rfl) fun cdv A outer s H E z G hz sG hr => by
    obtain ⟨l, k⟩ := z
    have hl : l.length ≤ 100000 := hz
    refine b_when (k := !(l.all fun x => decide (x.2 < k))) (t_not (t_cast (t_val (e_all rfl T.n_all (bs := l.map fun x => decide (x.2 < k)) (e_cast (e_lc (own := [("sign", 2), ("goal", 3)]) l kidP (fun _ => true) (fun x => isB (decide (x.2 < k))) sc_are_edges_right.nd (i_tup (e_v 0 rfl)) (blkOk_by (by rfl)) (by rw [line_eq]; omega) (fun _ _ _ _ _ x _ => g_pair 2 3 sc_are_edges_right.nd) (fun _ _ _ _ _ x _ => ts_nil) (fun _ _ _ _ _ x hx _ => e_cast (e_lt (e_v 3 rfl) (e_v 1 rfl)) ?_)) ?_))) ?_)) (fun h => b_one (s_retP (e_cast e_bl ?_))) fun h => b_one (s_retP (e_cast (e_all rfl T.n_all (bs := (l.zip (l.drop 1)).map fun x => decide (x.1.1 < x.2.1)) (e_cast (e_lc (own := [("one", 4), ("other", 5)]) (l.zip (l.drop 1)) (fun z => isT [kidP z.1, kidP z.2]) (fun _ => true) (fun z => isB (decide (z.1.1 < z.2.1))) sc_are_edges_right.nd (by
          rw [← zipd_map]
          exact i_zipT T.n_zip (a_cons (e_v 0 rfl) (a_one (e_cast (e_slT (e_v 0 rfl) (o_at e_int) o_no) (congrArg isT cut_drop1))))) (blkOk_by (by rfl)) (by rw [List.length_zip, line_eq]; omega) (fun _ _ _ _ _ x _ => g_pair 4 5 sc_are_edges_right.nd) (fun _ _ _ _ _ x _ => ts_nil) (fun _ _ _ _ _ x hx _ => e_cast (e_lt (e_ixT (Ps := [natP x.1.1, natP x.1.2]) (e_v 4 rfl) e_int rfl) (e_ixT (Ps := [natP x.2.1, natP x.2.2]) (e_v 5 rfl) e_int rfl)) ?_)) ?_)) ?_))
    · refine congrArg isB ?_
      rw [Bool.eq_iff_iff]; simp only [decide_eq_true_eq]; show ((x.2 : Int) < (k : Int)) ↔ _; omega
    · rw [filter_yes, List.map_map]; rfl
    · rw [List.all_map]; rfl
    · have h' : (l.all fun x => decide (x.2 < k)) = false := by simpa using h
      show isB false = isB (edgesB l k)
      unfold edgesB
      rw [h']; rfl
    · refine congrArg isB ?_
      rw [Bool.eq_iff_iff]; simp only [decide_eq_true_eq]; omega
    · rw [filter_yes, List.map_map]; rfl
    · have h' : (l.all fun x => decide (x.2 < k)) = true := by simpa using h
      show _ = isB (edgesB l k)
      unfold edgesB
      rw [h', List.all_map]; rfl)
theorem kn_right (T : Txt K mg) : Kn P w K mg base CX0 2 "is_right" ["table"] (fSp (fun t : Table × Nat => t.1.length ≤ 100000 ∧ ∀ n ∈ t.1, n.kids.length ≤ 100000) (fun t => [tabO K t]) (fun t => isB (Vahypd.proper t)) fun _ => noX) :=
  kn_of T.g_is_right (fn_plain0 T.df_is_right (fun _ => rfl) fun cdv A outer s H E t G hz sG hr => by
    have hl : t.1.length ≤ 100000 := hz.1
    refine b_when (k := decide (t.1.length ≤ t.2)) (t_cast (t_ge (e_fld (e_v 0 rfl) T.cl_Table T.na_Table_first rfl) (e_lenL T.n_len (e_fld (e_v 0 rfl) T.cl_Table T.na_Table_nodes rfl))) ?_) (fun h => b_one (s_retP (e_cast e_bl ?_))) fun h => b_one (s_retP (e_cast (e_all rfl T.n_all (bs := t.1.zipIdx.map fun z => edgesB z.1.kids z.2) (e_cast (e_lc (own := [("k", 1), ("node", 2)]) t.1.zipIdx (fun z => isT [natP z.2, nodP z.1]) (fun _ => true) (fun z => isB (edgesB z.1.kids z.2)) sc_is_right.nd (by
        rw [← numd_map]
        exact i_enum T.n_enumerate (a_one (e_fld (e_v 0 rfl) T.cl_Table T.na_Table_nodes rfl))) (blkOk_by (by rfl)) (by rw [List.length_zipIdx, line_eq]; omega) (fun _ _ _ _ _ x _ => g_pair 1 2 sc_is_right.nd) (fun _ _ _ _ _ x _ => ts_nil) (fun _ _ _ _ _ x hx _ => e_fn (kn_edges T) hr (x.1.kids, x.2) (hz.2 _ (mem_zip hx)) (a_cons (e_ixT (Ps := [optP x.1.out natsP, kidsP x.1.kids]) (e_v 2 rfl) e_int rfl) (a_one (e_v 1 rfl))))) ?_)) ?_))
    · rw [List.length_map, Bool.eq_iff_iff]; simp only [decide_eq_true_eq]; omega
    · have h' := of_decide_eq_true h
      show isB false = isB (Vahypd.proper t)
      unfold Vahypd.proper
      rw [decide_eq_false (by omega)]; rfl
    · rw [filter_yes, List.map_map]; rfl
    · have h' := of_decide_eq_false h
      show _ = isB (Vahypd.proper t)
      unfold Vahypd.proper
      rw [decide_eq_true (by omega), List.all_map, Bool.true_and]; rfl)
end
section
variable {X : Cx} {fr : Prop} {A A1 A2 A' bk ct : As} {B : Bs} {Γ : List Sl} {Ps Rs : List VP} {c a b : Expr} {pos : Pos} {k : Bool} {rt : V → Hp → Hp → Prop}
/-- a new list put together -/
theorem l_cat (ha : Je fr X A a (isL Ps) A1) (hb : Je fr X A1 b (isL Rs) A2) (hz : Ps.length + Rs.length ≤ sizeLine) : Jl fr X A (.BinOp a .Add b pos) (Ps ++ Rs) A2 :=
  pe_imp (pe_op op_cat ha hb) fun σ H Q ⟨G, s, p, q⟩ => ⟨G, s, p, fun x G1 H1 p1 ⟨l, xs, e1, e2, e3⟩ => ⟨G1, p1.i, p1.a, fun y G2 H2 p2 ⟨m, ys, e4, e5, e6⟩ =>
    ⟨l, m, xs, ys, e1, e4, p2.i _ _ (p2.g _ _ e2), p2.i _ _ e5, by rw [← Paired.length e3, ← Paired.length e6]; exact hz, fun n hn => q n _ G2 H2 (p1.trans p2) hn (paired_app (allP_up p2.g e3) e6)⟩⟩⟩
/-- a new list by a test -/
theorem l_if (hc : Jt fr X A c k A1) (ha : k = true → Jl fr X A1 a Ps A2) (hb : k = false → Jl fr X A1 b Ps A2) : Jl fr X A (.IfExp c a b pos) Ps A2 :=
  pe_imp (pe_ifExp hc (pe_any ha) (pe_any hb)) fun σ H Q ⟨G, s, p, q⟩ => ⟨G, s, p, fun G1 H1 p1 => by
    cases hk : k with
    | true => subst hk; exact iteT ⟨rfl, G1, p1.i, p1.a, fun l xs G2 H2 p2 hl r => q l xs G2 H2 (p1.trans p2) hl r⟩
    | false => subst hk; exact iteF ⟨rfl, G1, p1.i, p1.a, fun l xs G2 H2 p2 hl r => q l xs G2 H2 (p1.trans p2) hl r⟩⟩
theorem s_ownIf (i : Nat) {x : Str} {pos' p2 : Pos} (hN : X.N.Nodup) (hc : Jt False X A c k A1) (ha : k = true → Jl False X A1 a Ps (Ga B Γ)) (hb : k = false → Jl False X A1 b Ps (Ga B Γ)) (hi : X.N[i]? = some x := by rfl) (hx : Loc X.env.scope x := by first | exact Or.inl rfl | exact Or.inr rfl) (hs : swapsWith (.IfExp c a b p2) (some (.Name x pos')) pos.line X.env = pure false := by rfl) (hf : X.fn x = true ∨ X.env.scope.names.lookup x = some .local := by first | exact .inl rfl | exact .inr rfl) : Js X A (.Assign [.Name x pos'] (.IfExp c a b p2) pos) ⟨Ga B (Γ.set i (.own Ps)), rt, bk, ct⟩ :=
  s_own i hN (l_if hc ha hb) hi hx hs hf
end
section
variable {base : Heap} {P : Program} {w : World} {K : PySem.W.Frag} {mg : Str → Option Value}
/-! ### what is told -/
theorem flat_kids (l : List (Nat × Nat)) : (l.flatMap fun x => [x.1, x.2]).map natP = (l.map fun x => [natP x.1, natP x.2]).flatten := by
  induction l with
  | nil => rfl
  | cons a r ih => rw [List.flatMap_cons, List.map_append, ih]; rfl
def preN (o : Option (List Nat)) : List Nat := match o with
  | some v => 1 :: v.length :: v
  | none => [0]
theorem preN_len {o : Option (List Nat)} (h : (o.getD []).length ≤ 10000) : (preN o).length ≤ 10002 := by
  cases o with
  | none => exact (by decide : 1 ≤ 10002)
  | some v =>
    have : v.length ≤ 10000 := h
    show (1 :: v.length :: v).length ≤ 10002
    simp; omega
theorem nodeRow_eq (o : Option (List Nat)) (l : List (Nat × Nat)) : Vahypd.nodeRow ⟨o, l⟩ = preN o ++ (l.length :: l.flatMap fun x => [x.1, x.2]) := by
  cases o <;> rfl
abbrev nodeOk (n : Node) : Prop := n.kids.length ≤ 10000 ∧ (n.out.getD []).length ≤ 10000
theorem flatMap_len (l : List (Nat × Nat)) : (l.flatMap fun x => [x.1, x.2]).length = 2 * l.length := by
  induction l with
  | nil => rfl
  | cons a r ih => rw [List.flatMap_cons, List.length_append, ih]; simp; omega
theorem kn_node_told (T : Txt K mg) : Kn P w K mg base CX0 1 "node_told" ["node"] (fSp nodeOk (fun n : Node => [nodP n]) (fun n => isL ((Vahypd.nodeRow n).map natP)) fun _ => noX) :=
  kn_of T.g_node_told (fn_plain0 T.df_node_told (fun _ => rfl) fun cdv A outer s H E n G hz sG hr => by
    obtain ⟨out, kids⟩ := n
    have hk : kids.length ≤ 10000 := hz.1
    have ho : (out.getD []).length ≤ 10000 := hz.2
    have hpre := preN_len ho
    generalize hpr : preN out = pre at hpre
    refine b_cons (s_asg (P := nodP ⟨out, kids⟩) (e_v 0 rfl) (g_pair 1 2 (ws := [1, 2]) sc_node_told.nd)) ?_
    refine b_cons (M := Ga (Bs.pl G H) [.val (nodP ⟨out, kids⟩), .val (optP out natsP), .val (kidsP kids), .own (pre.map natP), .any, .any]) ?_ ?_
    · cases out with
      | none =>
        subst hpr
        exact s_post (s_ownIf (k := true) 3 sc_node_told.nd (t_isN (P := isN) (e_v 1 rfl) nonP_N e_non) (fun _ => l_lst (a_one e_int)) (fun h => by cases h)) .refl
      | some v =>
        have hv : v.length ≤ 10000 := ho
        subst hpr
        refine s_post (s_ownIf (k := false) 3 sc_node_told.nd (t_isN (P := natsP v) (e_v 1 rfl) nonP_T e_non) (fun h => by cases h) (fun _ => l_cat (e_lst (a_cons e_int (a_one (e_cast (e_lenT T.n_len (e_v 1 rfl)) (by rw [List.length_map]))))) (e_listT T.n_list (e_v 1 rfl)) ?_)) .refl
        refine small_line ?_
        rw [List.length_map]; simp; omega
    · refine b_cons (s_append 3 rfl rfl (e_lenT T.n_len (e_v 2 rfl)) ?_) ?_
      · rw [List.length_map, line_eq]; omega
      · refine b_cons (M := Ga (Bs.pl G H) [.val (nodP ⟨out, kids⟩), .val (optP out natsP), .val (kidsP kids), .own ((Vahypd.nodeRow ⟨out, kids⟩).map natP), .any, .any]) (s_for (ws := [4, 5]) (fun i => Ga (Bs.pl G H) [.val (nodP ⟨out, kids⟩), .val (optP out natsP), .val (kidsP kids), .own ((pre ++ (kids.length :: (kids.take i).flatMap fun x => [x.1, x.2])).map natP), .any, .any])
          (fun i => As.ex fun x : {x : Nat × Nat // kids[i]? = some x} => Ga (Bs.pl G H) [.val (nodP ⟨out, kids⟩), .val (optP out natsP), .val (kidsP kids), .own ((pre ++ (kids.length :: (kids.take i).flatMap fun x => [x.1, x.2])).map natP), .val (natP x.1.1), .val (natP x.1.2)])
          (i_tup (e_v 2 rfl)) ?_ ?_ ?_ ?_) (b_one (s_retP (e_thaw 3 rfl)))
        · refine ga_le' (.cons .rfl' (.cons .rfl' (.cons .rfl' (.cons (.inl ?_) (.cons .rfl' (.cons .rfl' .nil))))))
          rw [List.map_append, List.length_map]; rfl
        · intro i P hP
          obtain ⟨x, ex, rfl⟩ := map_at hP
          exact g_post (g_pair 4 5 sc_node_told.nd) (le_ex ⟨x, ex⟩ .refl)
        · intro i P hP
          refine b_ex fun ⟨x, ex⟩ => ?_
          have hi := (List.getElem?_eq_some_iff.mp ex).1
          refine b_one (s_post (s_extend 3 rfl rfl (e_lst (a_cons (e_v 4 rfl) (a_one (e_v 5 rfl)))) ?_) (ga_le' (.cons .rfl' (.cons .rfl' (.cons .rfl' (.cons (.inl ?_) (.cons .any' (.cons .any' .nil))))))))
          · rw [List.length_map, List.length_append, List.length_cons, flatMap_len, List.length_take, line_eq]
            (simp only [List.length_cons, List.length_nil])
            omega
          · rw [take_snoc ex, List.flatMap_append]
            simp only [List.map_append, List.map_cons, List.flatMap_cons, List.flatMap_nil, List.append_nil, List.map_nil]
            rw [List.append_assoc]; rfl
        · rw [List.length_map, List.take_length, nodeRow_eq, hpr]
          exact .refl)
end
end Q
/-! An instance with a list of its own. -/
namespace Q
open PySem PySem.Spec PyProof.Rows L2 Pt
def pSp {α : Type} (pre : α → Prop) (C : Addr) (f : Str) (ns : α → List VP) (args : α → List VP) (ns' : α → List VP) (post : α → VP) : Sp := fun vs H Q _ => ∃ z G a dx l xs rest, pre z ∧ vs = .ref a :: rest ∧ Same G H ∧ G a = none ∧ H a = some (.ins C dx [(f, .ref l)]) ∧ G l = none ∧ H l = some (.lst xs) ∧ AllP (ns z) xs G ∧ AllP (args z) rest G ∧
  ∀ v G' H' ys, Gw [a, l] G H G' H' → H' a = some (.ins C dx [(f, .ref l)]) → H' l = some (.lst ys) → AllP (ns' z) ys G' → (post z).p v G' → Q v H'
def rtPk (B : Bs) (C : Addr) (f : Str) (Ps : List VP) (post : VP) : V → Hp → Hp → Prop := fun v G H => Gw B.M B.G0 B.H0 G H ∧ H B.a0 = some (.ins C B.d0 [(f, .ref B.l0)]) ∧ ∃ ys, H B.l0 = some (.lst ys) ∧ AllP Ps ys G ∧ post.p v G
def Sl.isLent : Sl → Bool
  | .lent _ => true
  | _ => false
section
variable {B : Bs} {Γ : List Sl} {Ps Rs : List VP} {C : Addr} {f : Str} {i : Nat}
theorem ga_pk {σ : L2.St} {G H G' H' : Hp} {ys : List V} (h : (Ga B Γ).p σ G H) (hi : Γ[i]? = some (.pk C f Ps)) (w : Gw [B.a0, B.l0] G H G' H') (ha : H' B.a0 = some (.ins C B.d0 [(f, .ref B.l0)])) (hl : H' B.l0 = some (.lst ys)) (q : AllP Rs ys G') (nl : Γ.all (fun s => !s.isLent) = true) : (Ga B (Γ.set i (.pk C f Rs))).p σ G' H' := by
  obtain ⟨o0, e0, xs0, eo0, g0, h0, m0, g1, h1, m1, z1, q1⟩ := ga_get h hi
  subst eo0
  refine ⟨h.1.trans' w fun y hy => ?_, ?_, ?_⟩
  · (rcases List.mem_cons.mp hy with rfl | hy)
    · exact .inl m0
    · rw [List.mem_singleton.mp hy]; exact .inl m1
  · refine paired_mod h.2.1 i _ (fun j s o hj e1 e2 ok => ?_) fun o eo => ?_
    · have na : ∀ y, o = some (.ref y) → s.mine = true → y ≠ B.a0 := fun y ey m z => by
        subst z
        exact h.2.2 j i s _ B.a0 hj e1 hi m rfl (by rw [e2, ey]) e0
      have two : ∀ {y : Addr}, y ≠ B.a0 → y ≠ B.l0 → y ∉ [B.a0, B.l0] := fun a b z => by
        (rcases List.mem_cons.mp z with z | z)
        · exact a z
        · exact b (List.mem_singleton.mp z)
      cases s with
      | any => trivial
      | val P => obtain ⟨v, ev, pv⟩ := ok; exact ⟨v, ev, P.up w.g pv⟩
      | own Qs =>
        obtain ⟨l', zs, e3, g3, h3, b3, q3⟩ := ok
        exact ⟨l', zs, e3, w.n l' g3 (by rw [h3]; exact fun z => nomatch z), w.h _ _ (two (na l' e3 rfl) fun z => z1 (by rw [← z]; exact b3)) h3, b3, allP_up w.g q3⟩
      | obj me C fs =>
        obtain ⟨y, dy, us, e3, g3, h3, b3, q3⟩ := ok
        exact ⟨y, dy, us, e3, w.n y g3 (by rw [h3]; exact fun z => nomatch z), w.h _ _ (two (na y e3 rfl) fun z => by rw [z, h1] at h3; cases h3) h3, b3, fldP_up w.g q3⟩
      | lent Qs =>
        exfalso
        have := List.all_eq_true.mp nl _ (List.mem_of_getElem? e1)
        cases this
      | pk C' f' Qs =>
        obtain ⟨zs, e3, _⟩ := ok
        exact absurd rfl (na B.a0 e3 rfl)
    · rw [e0] at eo
      cases eo
      exact ⟨ys, rfl, w.n _ g0 (by rw [h0]; exact fun z => nomatch z), ha, m0, w.n _ g1 (by rw [h1]; exact fun z => nomatch z), hl, m1, z1, q⟩
  · intro a' b t t' y hab e1 e2 m1' m2' q1' q2'
    have back : ∀ (j : Nat) (t : Sl), (Γ.set i (.pk C f Rs))[j]? = some t → ∃ u, Γ[j]? = some u ∧ (t.mine = true → u.mine = true) := fun j t ej => by
      by_cases hj : j = i
      · subst hj; exact ⟨_, hi, fun _ => rfl⟩
      · rw [get_set_ne hj] at ej; exact ⟨t, ej, fun z => z⟩
    obtain ⟨u, eu, mu⟩ := back a' t e1
    obtain ⟨u', eu', mu'⟩ := back b t' e2
    exact h.2.2 a' b u u' y hab eu eu' (mu m1') (mu' m2') q1' q2'
end
section
variable {P : Program} {w : World} {K : PySem.W.Frag} {mg : Str → Option Value} {base : Heap} {d : He.DefD} {f : Addr} {k : Nat} {x m : Str} {N ps : List Str} {α : Type} {pre : α → Prop} {args ns ns' : α → List VP} {post : α → VP} {C : Addr} {fn : Str}
theorem fn_pk0 (D : Df K d f ps N) (hl : ∀ z, (args z).length + 1 = ps.length)
    (hbody : ∀ (cdv : Value) (A : Around) (outer : List Env) (s : Shared) (H : Hp) (E : XK) (z : α) (G : Hp) (a dx l : Addr), pre z → Same G H → Room k (A.deeper (envOfC d.qual d.scope s.heap.objs.size f cdv)) →
      Jb (cxOf CX0 P w K mg base N d.qual d.scope f cdv A outer s H E).nox (Ga (Bs.mk2 G H a dx l) (.pk C fn (ns z) :: inSl (args z) (N.length - ps.length))) d.body ⟨As.no, rtPk (Bs.mk2 G H a dx l) C fn (ns' z) (post z), As.no, As.no⟩) :
    ∃ fd, FnOk P w K mg base CX0 (k + 1) f fd ps (pSp pre C fn ns args ns' post) ∧ PySem.W.keepIn K (.ref f) = true ∧ Binds K fd ps [] := by
  obtain ⟨fd, F⟩ := D.fn
  have len : ∀ {vs : List V} {z : α} {a : Addr} {rest : List V} {G : Hp}, vs = .ref a :: rest → AllP (args z) rest G → vs.length = ps.length := fun {vs z a rest G} e r => by rw [e, List.length_cons, ← Paired.length r]; exact hl z
  refine ⟨fd, F.ok D.sc (fun vs H Q E ⟨z, G, a, dx, l, xs, rest, hz, e, s, ga, ha, gl, hl', ql, r, _⟩ => len e r) (fun cdv A outer s H vs Q E hr ⟨z, G, a, dx, l, xs, rest, hz, e, sG, ga, ha, gl, hl', ql, r, q⟩ => ?_), F.kp, F.bindsN D.bd⟩
  refine ⟨_, PSs.nox (hbody cdv A outer s H E z G a dx l hz sG hr), G, sG, ?_, fun _ _ _ _ _ h => h.elim, fun v G' H' s' ⟨n, e1, ys, e2, e3, e4⟩ => q v G' H' ys n e1 e2 e3 e4, fun _ _ _ _ _ h => h.elim, fun _ _ _ _ _ h => h.elim⟩
  have hn := len e r
  unfold L2.start
  rw [hn, e]
  refine ⟨Gw.refl sG, .cons ⟨xs, rfl, ga, ha, List.mem_cons_self .., gl, hl', List.mem_cons_of_mem _ (List.mem_cons_self ..), (fun z => by have z' : H l = none := z; rw [hl'] at z'; cases z'), ql⟩ (in_ok r _), fun i j s s' b hij e1 e2 m1 m2 _ _ => ?_⟩
  cases i with
  | zero =>
    cases j with
    | zero => exact hij rfl
    | succ j => rw [in_mine (show (inSl (args z) _)[j]? = some s' from e2)] at m2; cases m2
  | succ i => rw [in_mine (show (inSl (args z) _)[i]? = some s from e1)] at m1; cases m1
end
section
variable {X : Cx} {fr : Prop} {A A' A1 N bk ct : As} {B : Bs} {Γ Γ2 : List Sl} {Ps Rs : List VP} {e a : Expr} {es : List Expr} {pos apos cpos fpos pn : Pos} {P R post : VP} {rt : V → Hp → Hp → Prop} {x f m : Str} {C : Addr} {k : Nat} {ps : List Str} {α : Type} {pre : α → Prop} {args ns ns' : α → List VP} {post' : α → VP} {d : PyData} {ds : List PyData} {kk : Bool}
theorem s_retPk (he : Je False X A e P (Ga B Γ)) (h0 : Γ[0]? = some (.pk C f Ps)) (q : ∀ v H, P.p v H → post.p v H := by exact fun _ _ h => h) : Js X A (.Return (some e) pos) ⟨N, rtPk B C f Ps post, bk, ct⟩ := s_ret he fun σ v G H s a p => by
  obtain ⟨o0, e0, xs0, eo0, g0, h0, m0, g1, h1, m1, z1, q1⟩ := ga_get a h0
  exact ⟨a.1, h0, xs0, h1, q1, q v G p⟩
theorem pk_fld {σ : L2.St} {G H : Hp} (h : (Ga B Γ).p σ G H) {i : Nat} (h0 : Γ[i]? = some (.pk C f Ps)) : ∃ xs, σ[i]? = some (some (.ref B.a0)) ∧ H B.a0 = some (.ins C B.d0 [(f, .ref B.l0)]) ∧ G B.l0 = none ∧ H B.l0 = some (.lst xs) ∧ AllP Ps xs G ∧ G B.a0 = none := by
  obtain ⟨o0, e0, xs0, eo0, g0, h0, m0, g1, h1, m1, z1, q1⟩ := ga_get h h0
  subst eo0
  exact ⟨xs0, e0, h0, g1, h1, q1, g0⟩
theorem lk_one {f : Str} {v : V} : List.lookup f [(f, v)] = some v := by
  show (match f == f with | true => some v | false => none) = some v
  rw [beq_self_eq_true]
theorem t_pkNotIn (n : Nat) {mm : Nat} (hr : Room mm X.A) (ha : Je fr X A a P (Ga B Γ)) (h1 : Γ[n]? = some (.pk C f Ps)) (T : Cls X.K C) (na : NoAttr X.K C f) (d1 : DPc X.K P d) (d2 : DPs X.K Ps ds) (s1 : SeqAt.shaped d = true) (s2 : SeqAt.shaped (.list ds) = true) (he : (ds.any fun z => PyData.eqv z d) = kk) (hN : X.N[n]? = some x := by rfl) (hv : Vis X.env.scope x := by first | exact Or.inl rfl | exact Or.inr (Or.inl rfl) | exact Or.inr (Or.inr rfl))
    (hd : (x == ("__debug__" : Str)) = false := by decide) (hcd : (x == ("__classdict__" : Str)) = false := by decide) (hb : attributeBase (.Name x pn) f X.env (eval (.Name x pn) X.env) = eval (.Name x pn) X.env := by rfl) (hm : behindInMarks .NotIn (.Attribute (.Name x pn) f fpos) = false := by rfl) : Jt fr X A (.Compare a [.NotIn] [.Attribute (.Name x pn) f fpos] pos) (!kk) (Ga B Γ) :=
  pt_imp (pt_cmpR (op_notInD (room65 hr)) ha (pe_fld (pv n hN hv hd hcd) hb) hm) fun σ H Q ⟨G, s, a, q⟩ => by
    refine ⟨G, s, a, fun v G1 H1 p1 pv => ?_⟩
    obtain ⟨xs, e1, e2, g1, l1, q1, _⟩ := pk_fld p1.a h1
    exact ⟨_, e1, B.a0, C, B.d0, _, _, rfl, e2, T, na, lk_one, d, ds, d1 _ _ (P.up p1.i pv), .lst (SqL.of l1) (dp_all d2 (allP_up p1.i q1)), s1, s2, _, congrArg (fun k => V.bl (!k)) he, q G1 H1 p1⟩
/-- self.f.append(e) -/
theorem s_pkAppend (n : Nat) (h1 : Γ[n]? = some (.pk C f Rs)) (h2 : Γ2[n]? = some (.pk C f Ps)) (T : Cls X.K C) (na : NoAttr X.K C f) (he : Je False X (Ga B Γ) e P (Ga B Γ2)) (hz : Ps.length < sizeLine) (nl : Γ2.all (fun s => !s.isLent) = true := by rfl) (hN : X.N[n]? = some x := by rfl) (hv : Vis X.env.scope x := by first | exact Or.inl rfl | exact Or.inr (Or.inl rfl) | exact Or.inr (Or.inr rfl))
    (hd : (x == ("__debug__" : Str)) = false := by decide) (hcd : (x == ("__classdict__" : Str)) = false := by decide) (hb : attributeBase (.Name x pn) f X.env (eval (.Name x pn) X.env) = eval (.Name x pn) X.env := by rfl)
    (hbase : attributeBase (.Attribute (.Name x pn) f fpos) "append" X.env (eval (.Attribute (.Name x pn) f fpos) X.env) = eval (.Attribute (.Name x pn) f fpos) X.env := by rfl) (hline : (apos.endLine == cpos.line) = true := by rfl)
    (hfew : ((backTo cpos (starEach [e] X.env)).all (fun x => !x.1) && (backToKw cpos (keywordEach [] X.env)).all (fun x => x.1.isSome) && decide ([e].length + ([] : List Keyword).length + (if ([] : List Keyword).isEmpty then 0 else 1) < 30)) = true := by rfl)
    (hs : starEach [e] X.env = (false, eval e X.env) :: starEach [] X.env := by rfl) (hplain : (backTo cpos (starEach [] X.env)).any (·.1) = false := by rfl) (hsw : swapsWith (.Call (.Attribute (.Attribute (.Name x pn) f fpos) "append" apos) [e] [] cpos) none pos.line X.env = pure false := by rfl) :
    Js X (Ga B Γ) (.Expr (.Call (.Attribute (.Attribute (.Name x pn) f fpos) "append" apos) [e] [] cpos) pos) ⟨Ga B (Γ2.set n (.pk C f (Ps ++ [P]))), rt, bk, ct⟩ :=
  ps_imp (ps_expr (pe_bm PySem.F.plainAttrs_list PySem.F.slot_list_append PySem.F.type_list_append mt_append (pe_fld (pv n hN hv hd hcd) hb) (pa_cons he pa_nil hs) hbase hfew hline hs hplain) hsw) fun D σ H ⟨G, s, a, nx, r⟩ => by
    obtain ⟨xs, e1, e2, g1, l1, q1, _⟩ := pk_fld a h1
    refine ⟨_, e1, B.a0, C, B.d0, _, _, rfl, e2, T, na, lk_one, .inl ⟨rfl, xs, SqL.of l1⟩, G, s, a, fun v G1 H1 p1 pv => ?_⟩
    obtain ⟨ys, f1, f2, g2, l2, q2, ga0⟩ := pk_fld p1.a h2
    refine ⟨B.l0, ys, v, rfl, rfl, l2, by rw [← Paired.length q2]; exact hz, ?_⟩
    have w := Gw.mut (o := .lst (ys ++ [v])) p1.i g2
    have hne : B.a0 ≠ B.l0 := fun z => by rw [z, l2] at f2; cases f2
    have w2 : Gw [B.a0, B.l0] G1 H1 G1 (upd H1 B.l0 (.lst (ys ++ [v]))) := ⟨w.g, fun b o hb => w.h b o fun z => hb (List.mem_cons_of_mem _ z), w.i, w.n, w.t⟩
    exact nx σ G1 _ p1.g w.i (ga_pk p1.a h2 w2 (by rw [upd_ne hne]; exact f2) upd_same (paired_app q2 (.cons pv .nil)) nl)
/-- self.f.index(e) -/
theorem e_pkIndex (n : Nat) {mm j : Nat} {z : PyData} (hr : Room mm X.A) (h1 : Γ[n]? = some (.pk C f Rs)) (h2 : Γ2[n]? = some (.pk C f Ps)) (T : Cls X.K C) (na : NoAttr X.K C f) (he : Je fr X (Ga B Γ) e P (Ga B Γ2)) (d1 : DPc X.K P d) (d2 : DPs X.K Ps ds) (s1 : SeqAt.shaped d = true) (s2 : SeqAt.shaped (.list ds) = true) (hj : ds[j]? = some z) (hz : PyData.eqv z d = true) (hlt : ∀ (m : Nat) (z' : PyData), m < j → ds[m]? = some z' → PyData.eqv z' d = false) (hN : X.N[n]? = some x := by rfl) (hv : Vis X.env.scope x := by first | exact Or.inl rfl | exact Or.inr (Or.inl rfl) | exact Or.inr (Or.inr rfl))
    (hd : (x == ("__debug__" : Str)) = false := by decide) (hcd : (x == ("__classdict__" : Str)) = false := by decide) (hb : attributeBase (.Name x pn) f X.env (eval (.Name x pn) X.env) = eval (.Name x pn) X.env := by rfl)
    (hbase : attributeBase (.Attribute (.Name x pn) f fpos) "index" X.env (eval (.Attribute (.Name x pn) f fpos) X.env) = eval (.Attribute (.Name x pn) f fpos) X.env := by rfl) (hline : (apos.endLine == cpos.line) = true := by rfl)
    (hfew : ((backTo cpos (starEach [e] X.env)).all (fun x => !x.1) && (backToKw cpos (keywordEach [] X.env)).all (fun x => x.1.isSome) && decide ([e].length + ([] : List Keyword).length + (if ([] : List Keyword).isEmpty then 0 else 1) < 30)) = true := by rfl)
    (hs : starEach [e] X.env = (false, eval e X.env) :: starEach [] X.env := by rfl) (hplain : (backTo cpos (starEach [] X.env)).any (·.1) = false := by rfl) :
    Je fr X (Ga B Γ) (.Call (.Attribute (.Attribute (.Name x pn) f fpos) "index" apos) [e] [] cpos) (natP j) (Ga B Γ2) :=
  pe_imp (pe_bm PySem.F.plainAttrs_list PySem.F.slot_list_index PySem.F.type_list_index (mt_indexD (room65 hr)) (pe_fld (pv n hN hv hd hcd) hb) (pa_cons he pa_nil hs) hbase hfew hline hs hplain) fun σ H Q ⟨G, s, a, q⟩ => by
    obtain ⟨xs, e1, e2, g1, l1, q1, _⟩ := pk_fld a h1
    refine ⟨_, e1, B.a0, C, B.d0, _, _, rfl, e2, T, na, lk_one, .inl ⟨rfl, xs, SqL.of l1⟩, G, s, a, fun v G1 H1 p1 pv => ?_⟩
    obtain ⟨ys, f1, f2, g2, l2, q2, ga0⟩ := pk_fld p1.a h2
    exact ⟨B.l0, v, d, ds, j, z, rfl, rfl, .lst (SqL.of l2) (dp_all d2 (allP_up p1.i q2)), d1 _ _ (P.up p1.i pv), s2, s1, hj, hz, hlt, q _ G1 H1 p1 rfl⟩
/-- self.m(e, ..), which changes its list -/
theorem e_pkMeth (n : Nat) {pl : Sem Bool} (F : Km X.prog X.w X.K X.mg X.base CX0 k C m ps (pSp pre C f ns args ns' post')) (T : Cls X.K C) (hr : Room k X.A) (z : α) (hz : pre z) (hΓ : Γ[n]? = some (.pk C f Rs)) (ha : Ja fr X (Ga B Γ) (e :: es) (args z) (Ga B Γ2)) (h2 : Γ2[n]? = some (.pk C f (ns z))) (hl : (f == m) = false) (nl : Γ2.all (fun s => !s.isLent) = true := by rfl) (hN : X.N[n]? = some x := by rfl) (hv : Vis X.env.scope x := by first | exact Or.inl rfl | exact Or.inr (Or.inl rfl) | exact Or.inr (Or.inr rfl))
    (hd : (x == ("__debug__" : Str)) = false := by decide) (hcd : (x == ("__classdict__" : Str)) = false := by decide) (hst : starEach (e :: es) X.env = (false, eval e X.env) :: starEach es X.env := by rfl) (hpl : (backTo pos (starEach es X.env)).any (·.1) = false := by rfl)
    (ht : eval (.Call (.Attribute (.Name x pn) m apos) (e :: es) [] pos) X.env = (do let ov ← eval (.Name x pn) X.env; standAt apos.atName; let (f, first) ← holding [ov] (getMethod ov m pl); callWith pos f first (backTo pos (starEach (e :: es) X.env)) (backToKw pos (keywordEach [] X.env))) := by rfl) :
    Je False X (Ga B Γ) (.Call (.Attribute (.Name x pn) m apos) (e :: es) [] pos) (post' z) (Ga B (Γ2.set n (.pk C f (ns' z)))) := by
  obtain ⟨g, fd, F1, mt, hb⟩ := F.ex
  refine pe_imp (pe_meth (pv n hN hv hd hcd) T mt F1 hr hb .nil pass0 ha hst hpl ht) fun σ H Q ⟨G, s, a, q⟩ => ?_
  obtain ⟨xs, e1, e2, g1, l1, q1, _⟩ := pk_fld a hΓ
  have hl2 : List.lookup m [(f, V.ref B.l0)] = none := by
    have hl' : (m == f) = false := by
      cases h : m == f with
      | false => rfl
      | true =>
        have : m = f := by simpa using h
        rw [this] at hl
        simp at hl
    show (match m == f with | true => some (V.ref B.l0) | false => none) = none
    rw [hl']
  refine ⟨_, e1, B.a0, B.d0, _, rfl, e2, hl2, G, s, a, fun us G1 H1 p1 r => ?_⟩
  obtain ⟨ys, f1, f2, g2, l2, q2, ga0⟩ := pk_fld p1.a h2
  simp only [tNil, List.append_nil]
  exact ⟨z, G1, B.a0, B.d0, B.l0, ys, us, hz, rfl, p1.i, ga0, f2, g2, l2, q2, r, fun v G2 H2 zs w ea el qa pv => q v G2 H2 ⟨Same.trans p1.g w.g, w.i, ga_pk p1.a h2 w ea el qa nl, fun z => z.elim⟩ pv⟩
end
end Q
/-! The round of i -> 5 i + 1 below a power of two, by number theory. -/
namespace Q
open L2 PySem PySem.Spec PyProof.Rows
def wB : Nat → Nat
  | 0 => 0
  | k + 1 => 5 * wB k + 1
def wF (i k : Nat) : Nat := 5 ^ k * i + wB k
theorem wB4 : ∀ k, 4 * wB k + 1 = 5 ^ k
  | 0 => rfl
  | k + 1 => by
    have := wB4 k
    rw [Nat.pow_succ, ← this]
    show 4 * (5 * wB k + 1) + 1 = _
    omega
theorem wF_succ (i k : Nat) : wF i (k + 1) = 5 * wF i k + 1 := by
  unfold wF
  show 5 ^ (k + 1) * i + (5 * wB k + 1) = _
  rw [Nat.pow_succ, Nat.mul_comm (5 ^ k) 5, Nat.mul_assoc, Nat.mul_add]; omega
theorem wF_zero (i : Nat) : wF i 0 = i := by
  unfold wF
  rw [Nat.pow_zero, Nat.one_mul]; rfl
theorem wF_add (i a : Nat) : ∀ k, wF i (a + k) = wF (wF i a) k
  | 0 => (wF_zero _).symm
  | k + 1 => by rw [← Nat.add_assoc, wF_succ, wF_succ, wF_add i a k]
theorem pow5 : ∀ n, ∃ u, 5 ^ 2 ^ n = 1 + 4 * 2 ^ n * (2 * u + 1)
  | 0 => ⟨0, rfl⟩
  | n + 1 => by
    obtain ⟨u, e⟩ := pow5 n
    refine ⟨u + 2 ^ n * ((2 * u + 1) * (2 * u + 1)), ?_⟩
    rw [Nat.pow_succ 2 n, Nat.pow_mul, e]
    generalize 2 ^ n = N
    have hv : ∃ v, v = 2 * u + 1 := ⟨_, rfl⟩
    obtain ⟨v, hv⟩ := hv
    rw [← hv]
    have e1 : (1 + 4 * N * v) ^ 2 = 1 + 8 * (N * v) + 16 * ((N * v) * (N * v)) := by
      rw [Nat.pow_two, Nat.mul_assoc 4 N v]
      generalize N * v = p
      have : (4 * p) * (4 * p) = 16 * (p * p) := Nat.mul_mul_mul_comm 4 p 4 p
      rw [Nat.add_mul, Nat.mul_add, Nat.mul_add (4 * p), this]; omega
    have e2 : 4 * (N * 2) * (2 * (u + N * (v * v)) + 1) = 8 * (N * v) + 16 * ((N * v) * (N * v)) := by
      have a1 : 2 * (u + N * (v * v)) + 1 = v + 2 * (N * (v * v)) := by omega
      have a2 : 4 * (N * 2) = 8 * N := by omega
      have a3 : 8 * N * (2 * (N * (v * v))) = 16 * ((N * v) * (N * v)) := by
        rw [Nat.mul_mul_mul_comm 8 N 2, Nat.mul_mul_mul_comm N v N v, Nat.mul_assoc N N]
      rw [a1, a2, Nat.mul_add, a3, Nat.mul_assoc]
    rw [e1, e2]; omega
/-- after 2^n steps one stands 2^n further, below twice that -/
theorem wF_jump (n y : Nat) : wF y (2 ^ n) % (2 * 2 ^ n) = (y + 2 ^ n) % (2 * 2 ^ n) := by
  obtain ⟨u, e⟩ := pow5 n
  have b := wB4 (2 ^ n)
  rw [e] at b
  unfold wF
  rw [e]
  generalize 2 ^ n = N at *
  have hb : wB N = N + 2 * N * u := by
    have : 4 * N * (2 * u + 1) = 4 * N + 4 * (2 * N * u) := by
      rw [Nat.mul_add, Nat.mul_one, ← Nat.mul_assoc, Nat.mul_assoc 4 N 2, Nat.mul_comm N 2, Nat.mul_assoc 4 (2 * N) u]; omega
    omega
  have h2 : (1 + 4 * N * (2 * u + 1)) * y + wB N = (y + N) + 2 * N * (2 * (2 * u + 1) * y + u) := by
    have a : 2 * N * (2 * (2 * u + 1) * y) = 4 * N * (2 * u + 1) * y := by
      rw [← Nat.mul_assoc, ← Nat.mul_assoc, Nat.mul_comm (2 * N) 2, ← Nat.mul_assoc]
    rw [Nat.mul_add (2 * N) _ u, a, hb, Nat.add_mul, Nat.one_mul]; omega
  rw [h2, Nat.add_mul_mod_self_left]
/-- each rest is met -/
theorem wF_all : ∀ (n i j : Nat), ∃ k, k < 2 ^ n ∧ wF i k % 2 ^ n = j % 2 ^ n
  | 0, i, j => ⟨0, Nat.one_pos, by rw [Nat.pow_zero, Nat.mod_one, Nat.mod_one]⟩
  | n + 1, i, j => by
    obtain ⟨k, hk, e⟩ := wF_all n i j
    have jp := wF_jump n (wF i k)
    rw [← wF_add] at jp
    rw [Nat.pow_succ, Nat.mul_comm (2 ^ n) 2]
    have hN : 0 < 2 ^ n := Nat.pow_pos (by decide)
    generalize 2 ^ n = N at *
    generalize hz : wF i k = z at *
    by_cases c : z % (2 * N) = j % (2 * N)
    · exact ⟨k, by omega, by rw [hz]; exact c⟩
    · refine ⟨k + N, by omega, ?_⟩
      rw [jp]
      have m1 : ∀ x, x % (2 * N) = x % N + N * (x / N % 2) := fun x => by rw [Nat.mul_comm 2 N, Nat.mod_mul]
      have m2 : (z + N) / N = z / N + 1 := Nat.add_div_right z hN
      have m3 : (z + N) % N = z % N := Nat.add_mod_right z N
      rw [m1, m1] at c
      rw [m1, m1, m2, m3, e]
      rw [e] at c
      have c2 : z / N % 2 ≠ j / N % 2 := fun q => c (by rw [q])
      have c3 : (z / N + 1) % 2 = j / N % 2 := by omega
      rw [c3]
end Q
/-! The table of a set, with masks up to 2047. -/
namespace Q
open L2 PySem PySem.Spec PyProof.Rows
/-- a mask that comes -/
structure Mok (m : Nat) : Prop where
  pw : ∃ n, m + 1 = 2 ^ (n + 1)
  le : m ≤ 2047
  one : m = 7 ∨ m = 31 ∨ m = 127 ∨ m = 511 ∨ m = 2047
theorem Mok.odd {m : Nat} (h : Mok m) : m % 2 = 1 := by
  obtain ⟨n, e⟩ := h.pw
  rw [Nat.pow_succ] at e
  omega
theorem lcg_wF {m i : Nat} (ki : i ≤ m) : ∀ k, lcgI m i k = wF i k % (m + 1)
  | 0 => by
    rw [wF_zero, Nat.mod_eq_of_lt (Nat.lt_succ_of_le ki)]; rfl
  | k + 1 => by
    show (lcgI m i k * 5 + 1) % (m + 1) = _
    rw [lcg_wF ki k, wF_succ, Nat.add_mod, Nat.mul_mod, Nat.mod_mod, ← Nat.mul_mod, ← Nat.add_mod, Nat.mul_comm]
theorem w_meets {m : Nat} (hm : Mok m) (h : Int) {j : Nat} (hj : j ≤ m) : ∃ n, n ≤ m + 12 ∧ runI m (SetTable.bits h) n = j := by
  obtain ⟨n, e⟩ := hm.pw
  obtain ⟨k, hk, q⟩ := wF_all (n + 1) (runI m (SetTable.bits h) 12) j
  rw [← e] at hk q
  rw [← lcg_wF (runI_le ..), Nat.mod_eq_of_lt (Nat.lt_succ_of_le hj)] at q
  exact ⟨12 + k, by omega, (runI_tail (bits_lt h) k).trans q⟩
theorem w_near {m : Nat} (hm : Mok m) (h : Int) {j : Nat} (hj : j ≤ m) : ∃ k, k < 10 * SetTable.turns m ∧ way m h k = j := by
  obtain ⟨n, hn, e⟩ := w_meets hm h hj
  obtain ⟨k, hk, q2⟩ := run_nth m (SetTable.bits h) n
  exact ⟨k, by unfold SetTable.turns; omega, (congrArg SetTable.Probe.j q2).trans e⟩
theorem w_le (m : Nat) (h : Int) (k : Nat) : way m h k ≤ m := by
  have ki : SetTable.bits h % (m + 1) ≤ m := Nat.le_of_lt_succ (Nat.mod_lt _ (Nat.succ_pos _))
  have b := runEnd_bd ki
  have q := nth_in (m := m) k (runAt m (SetTable.bits h % (m + 1)) (SetTable.bits h)) (by show SetTable.bits h % (m + 1) + (SetTable.runEnd m (SetTable.bits h % (m + 1)) - SetTable.bits h % (m + 1)) ≤ m; omega)
  exact Nat.le_trans (Nat.le_add_right _ _) q
/-- each entry is found again on the way of its hash -/
structure TabW (t : SetTable) (hzs : List Int) : Prop where
  ris : Ris t.place.toList
  dm : t.dummies = #[]
  sz : t.place.toList.length = hzs.length
  mok : Mok t.mask
  way : ∀ (i : Nat) (h : Int) (j : Nat), hzs[i]? = some h → t.place.toList[i]? = some j → ∃ k, way t.mask h k = j ∧ ∀ k', k' < k → L2.way t.mask h k' ∈ t.place.toList
section
variable {t : SetTable} {hzs : List Int}
theorem TabW.free (T : TabW t hzs) (hl : hzs.length ≤ t.mask) (h : Int) : ∃ K, K < 10 * SetTable.turns t.mask ∧ L2.way t.mask h K ∉ t.place.toList ∧ ∀ k, k < K → L2.way t.mask h k ∈ t.place.toList := by
  obtain ⟨j, hj, hn⟩ := st_missing t.place.toList (t.mask + 1) (by rw [T.sz]; omega)
  obtain ⟨k, hk, e⟩ := w_near T.mok h (Nat.le_of_lt_succ hj)
  obtain ⟨K, h1, h2, h3⟩ := st_least (p := fun k => L2.way t.mask h k ∉ t.place.toList) k (by rw [e]; exact hn)
  exact ⟨K, by omega, h2, fun k' hk' => Classical.byContradiction (h3 k' hk')⟩
theorem TabW.near (T : TabW t hzs) {h : Int} {K i j : Nat} (hK : L2.way t.mask h K ∉ t.place.toList) (ki : hzs[i]? = some h) (hj : t.place.toList[i]? = some j) : ∃ k, k < K ∧ L2.way t.mask h k = j := by
  obtain ⟨k, e, hb⟩ := T.way i h j ki hj
  refine ⟨k, Classical.byContradiction fun c => ?_, e⟩
  rcases Nat.lt_or_eq_of_le (Nat.le_of_not_lt c) with d | d
  · exact hK (hb K d)
  · rw [d, e] at hK
    exact hK (List.mem_of_getElem? hj)
theorem TabW.put (T : TabW t hzs) {h : Int} {K : Nat} (hK : L2.way t.mask h K ∉ t.place.toList) (hb : ∀ k, k < K → L2.way t.mask h k ∈ t.place.toList) {p : Nat} (hp : p = SetTable.below t.place (L2.way t.mask h K)) :
    p ≤ hzs.length ∧ TabW (t.put (L2.way t.mask h K)).1 (hzs.take p ++ h :: hzs.drop p) ∧ (t.put (L2.way t.mask h K)).1.fill = hzs.length + 1 := by
  obtain ⟨j, hj⟩ : ∃ j, j = L2.way t.mask h K := ⟨_, rfl⟩
  rw [← hj] at hK hp ⊢
  obtain ⟨b1, _, _⟩ := below_cut T.ris j
  rw [← hp, ← Array.length_toList] at b1
  have hph : p ≤ hzs.length := by rw [← T.sz]; exact b1
  have hpp : (t.put j).1.place.toList = t.place.toList.take p ++ j :: t.place.toList.drop p := by rw [hp]; exact put_place t j
  have up : ∀ {x : Nat}, x ∈ t.place.toList → x ∈ (t.put j).1.place.toList := fun {x} hx => by rw [hpp]; exact mem_ins.2 (.inr hx)
  have hz : (t.put j).1.place.toList.length = hzs.length + 1 := by rw [hpp, len_ins _ b1, T.sz]
  have nw : t.place[SetTable.below t.place j]? ≠ some j := fun e => hK (List.mem_of_getElem? (by rw [Array.getElem?_toList]; exact e))
  refine ⟨hph, ⟨ris_insert T.ris nw, put_dm T.dm j, by rw [hz, len_ins _ hph], T.mok, fun i h' j' h1 h2 => ?_⟩, ?_⟩
  · rw [tins_get hzs hph] at h1
    rw [hpp, tins_get _ b1] at h2
    show ∃ k, L2.way t.mask h' k = j' ∧ ∀ k', k' < k → L2.way t.mask h' k' ∈ (t.put j).1.place.toList
    rcases Nat.lt_trichotomy i p with c | c | c
    · rw [if_pos c] at h1 h2
      obtain ⟨k, e, z⟩ := T.way i h' j' h1 h2
      exact ⟨k, e, fun k' q => up (z k' q)⟩
    · rw [if_neg (by omega), if_pos c] at h1 h2
      cases h1; cases h2
      exact ⟨K, hj.symm, fun k' q => up (hb k' q)⟩
    · rw [if_neg (by omega), if_neg (by omega)] at h1 h2
      obtain ⟨k, e, z⟩ := T.way (i - 1) h' j' h1 h2
      exact ⟨k, e, fun k' q => up (z k' q)⟩
  · show (t.put j).1.place.size + (t.put j).1.dummies.size = hzs.length + 1
    rw [← Array.length_toList, hz, put_dm T.dm j]; rfl
end
end Q
/-! A table laid anew, with masks up to 2047. -/
namespace Q
open L2 PySem PySem.Spec PyProof.Rows
/-- the clean laying takes one more -/
theorem own_more {m : Nat} (hm : Mok m) {done : List Int} {ow : Array (Option Nat)} (W : Own m done ow) (hl : done.length ≤ m) (h : Int) :
    ∃ j, SetTable.layClean.free m ow (SetTable.turns m) (SetTable.bits h % (m + 1)) (SetTable.bits h) = some j ∧ Own m (done ++ [h]) (ow.setIfInBounds j (some done.length)) := by
  obtain ⟨ps, hps, hin⟩ := W.ps
  obtain ⟨j0, h0, n0⟩ := st_missing ps (m + 1) (by omega)
  have z0 : oAt ow j0 = none := Classical.byContradiction fun c => n0 (hin j0 (Nat.le_of_lt_succ h0) c)
  -- the first free place of the way
  obtain ⟨n, hn, e⟩ := w_meets hm h (Nat.le_of_lt_succ h0)
  have hw : way m h (off m (SetTable.bits h % (m + 1)) (SetTable.bits h) n) = j0 := (congrArg SetTable.Probe.j ((nth_off m n _ _).trans (by rw [itL_run]))).trans e
  obtain ⟨K, k1, k2, k3⟩ := st_least (p := fun k => oAt ow (way m h k) = none) _ (by rw [hw]; exact z0)
  have fr : SetTable.layClean.free m ow (SetTable.turns m) (SetTable.bits h % (m + 1)) (SetTable.bits h) = some (way m h K) :=
    free_spec m ow (SetTable.turns m) n _ _ K (by unfold SetTable.turns; omega) k1 (fun k hk => by
      have q := k3 k hk
      cases z : oAt ow (way m h k) with
      | none => exact absurd z q
      | some _ => rfl) (by
      have q : oAt ow (way m h K) = none := k2
      rw [q]; rfl)
  have hjm := w_le m h K
  generalize hj : way m h K = j at *
  have hs := oAt_set_self (some done.length) (show j < ow.size by rw [W.sz]; omega)
  have ne : ∀ {i : Nat}, i ≠ j → oAt (ow.setIfInBounds j (some done.length)) i = oAt ow i := fun {i} c => oAt_set_ne _ c
  have mono : ∀ {i : Nat}, oAt ow i ≠ none → oAt (ow.setIfInBounds j (some done.length)) i ≠ none := fun {i} hi => by
    rcases Classical.em (i = j) with c | c
    · rw [c, hs]; exact fun z => nomatch z
    · rw [ne c]; exact hi
  refine ⟨j, fr, by rw [Array.size_setIfInBounds]; exact W.sz, fun x k hx ex => ?_, fun k hk => ?_, j :: ps, by rw [List.length_cons, List.length_append, hps]; rfl, fun x hx ex => ?_⟩
  · rcases Classical.em (x = j) with c | c
    · rw [c, hs] at ex
      cases ex
      exact ⟨h, K, by rw [List.getElem?_append_right (Nat.le_refl _), Nat.sub_self]; rfl, hj.trans c.symm, fun kb kkb => mono (k3 kb kkb)⟩
    · rw [ne c] at ex
      obtain ⟨h', K', f1, f2, f3⟩ := W.at_ x k hx ex
      exact ⟨h', K', by rw [List.getElem?_append_left (List.getElem?_eq_some_iff.mp f1).1]; exact f1, f2, fun kb kkb => mono (f3 kb kkb)⟩
  · rcases Classical.em (k = done.length) with c | c
    · exact ⟨j, hjm, by rw [c]; exact hs⟩
    · (rw [List.length_append, List.length_singleton] at hk)
      obtain ⟨x, hx, ex⟩ := W.all k (by omega)
      refine ⟨x, hx, ?_⟩
      rw [ne fun z => by rw [z] at ex; rw [show oAt ow j = none from k2] at ex; cases ex]
      exact ex
  · rcases Classical.em (x = j) with c | c
    · rw [c]; exact List.mem_cons_self
    · rw [ne c] at ex
      exact List.mem_cons_of_mem _ (hin x hx ex)
theorem own_fold {m : Nat} (hm : Mok m) : ∀ (rest done : List Int) (ow : Array (Option Nat)), Own m done ow → done.length + rest.length ≤ m → ∃ ow', rest.foldl (stepF m) (some (ow, done.length)) = some (ow', (done ++ rest).length) ∧ Own m (done ++ rest) ow'
  | [], done, ow, W, _ => ⟨ow, by rw [List.append_nil]; rfl, by rw [List.append_nil]; exact W⟩
  | h :: rest, done, ow, W, hl => by
    rw [List.length_cons] at hl
    obtain ⟨j, e, W'⟩ := own_more hm W (by omega) h
    have z : (done ++ [h]).length = done.length + 1 := by rw [List.length_append]; rfl
    obtain ⟨ow', f, W2⟩ := own_fold hm rest (done ++ [h]) _ W' (by omega)
    rw [List.append_assoc, z] at f
    rw [List.append_assoc] at W2
    exact ⟨ow', by rw [List.foldl_cons, stepF_some e]; exact f, W2⟩
theorem lay_ok {m : Nat} (hm : Mok m) {hs : Array Int} (hn : hs.size ≤ m) : ∃ ow, SetTable.layClean m hs = some ow ∧ Own m hs.toList ow := by
  obtain ⟨ow, f, W⟩ := own_fold hm hs.toList [] _ (Own.init m) (by rw [List.length_nil, Array.length_toList]; omega)
  refine ⟨ow, ?_, W⟩
  rw [layClean_eq]
  exact congrArg (Option.map (·.1)) f
theorem anew_ok (t : SetTable) {hs : Array Int} {wanted M : Nat} (hw : SetTable.sizeAbove wanted - 1 = M) (hM : Mok M) (hn : hs.size ≤ M) :
    ∃ t' order, t.relaid hs wanted = some (t', order) ∧ order.toList.Perm (List.range hs.size) ∧ TabW t' (order.toList.map fun i => hs.getD i 0) ∧ t'.mask = M ∧ t'.led = t.led ∧ t'.plain = t.plain := by
  obtain ⟨ow, e, W⟩ := lay_ok hM hn
  have hr : t.relaid hs wanted = some (tabOf t M ow, ((liveOf M ow).map (·.2)).toArray) := by rw [relaid_eq, hw, e]; rfl
  have ris := ris_live (fun j => ow.getD j none) (List.range (M + 1)) (by unfold Ris; first | exact List.pairwise_lt_range | exact List.pairwise_lt_range _)
  have r1 : Ris ((liveOf M ow).map (·.1)) := ris.1
  have nd : ((liveOf M ow).map (·.1)).Nodup := List.Pairwise.imp (fun h => Nat.ne_of_lt h) r1
  have h2 : ∀ k, k < hs.size → k ∈ (liveOf M ow).map (·.2) := fun k hk => by
    obtain ⟨j, d1, d2⟩ := W.all k (by rw [Array.length_toList]; exact hk)
    exact List.mem_map.mpr ⟨(j, k), (mem_live W.sz).2 ⟨d1, d2⟩, rfl⟩
  have hlen : (liveOf M ow).length = hs.size := by
    obtain ⟨ps, p1, p2⟩ := W.ps
    have a := nat_nodup_len ((liveOf M ow).map (·.1)) ps nd fun x hx => by
      obtain ⟨⟨y, k⟩, hq, rfl⟩ := List.mem_map.mp hx
      obtain ⟨d1, d2⟩ := (mem_live W.sz).1 hq
      exact p2 y d1 (by rw [d2]; exact fun z => nomatch z)
    have b := nat_nodup_len (List.range hs.size) ((liveOf M ow).map (·.2)) List.nodup_range fun k hk => h2 k (List.mem_range.mp hk)
    rw [List.length_map, p1] at a
    (rw [List.length_map, List.length_range] at b)
    have kz : hs.toList.length = hs.size := rfl
    exact Nat.le_antisymm (by rw [← kz]; exact a) b
  refine ⟨tabOf t M ow, ((liveOf M ow).map (·.2)).toArray, hr, perm_range hs.size _ (by rw [List.length_map]; exact hlen) h2, ⟨r1, rfl, ?_, hM, fun i h j h1 h2 => ?_⟩, rfl, rfl, rfl⟩
  · show ((liveOf M ow).map (·.1)).length = (((liveOf M ow).map (·.2)).map fun i => hs.getD i 0).length
    rw [List.length_map, List.length_map, List.length_map]
  · have k1 : (((liveOf M ow).map (·.2)).map fun i => hs.getD i 0)[i]? = some h := h1
    have h2' : ((liveOf M ow).map (·.1))[i]? = some j := h2
    rw [List.getElem?_map, List.getElem?_map] at k1
    rw [List.getElem?_map] at h2'
    cases hq : (liveOf M ow)[i]? with
    | none => rw [hq] at h2'; cases h2'
    | some q =>
      obtain ⟨y, k⟩ := q
      rw [hq] at k1 h2'
      cases h2'
      cases k1
      obtain ⟨d1, d2⟩ := (mem_live W.sz).1 (List.mem_of_getElem? hq)
      obtain ⟨h0, K, f1, f2, f3⟩ := W.at_ y k d1 d2
      have e0 : hs.getD k 0 = h0 := by rw [Array.getD_eq_getD_getElem?, ← Array.getElem?_toList, f1]; rfl
      show ∃ k1, way M (hs.getD k 0) k1 = y ∧ ∀ kb, kb < k1 → way M (hs.getD k 0) kb ∈ (liveOf M ow).map (·.1)
      rw [e0]
      refine ⟨K, f2, fun kb kkb => ?_⟩
      show way M h0 kb ∈ (liveOf M ow).map (·.1)
      cases z : oAt ow (way M h0 kb) with
      | none => exact absurd z (f3 kb kkb)
      | some k2 => exact List.mem_map.mpr ⟨(way M h0 kb, k2), (mem_live W.sz).2 ⟨w_le M h0 kb, z⟩, rfl⟩
theorem grow4 : SetTable.sizeAbove (SetTable.grown 5) = 32 := by decide +kernel
theorem grow18 : SetTable.sizeAbove (SetTable.grown 19) = 128 := by decide +kernel
theorem grow76 : SetTable.sizeAbove (SetTable.grown 77) = 512 := by decide +kernel
theorem grow306 : SetTable.sizeAbove (SetTable.grown 307) = 2048 := by decide +kernel
end Q
/-! A set of tuples of ints: the search. -/
namespace Q
open L2 PySem PySem.Spec PyProof.Rows
/-- the set at a: its tuples, and the table that tells where they stand -/
structure SetW (P : Program) (w : World) (h : Heap) (a : Addr) (L : List (Addr × List Int)) (es : Array (Int × Value)) (ep : Nat) (t : SetTable) : Prop where
  ob : ∃ u, h.get? a = some u ∧ u.ExactSet ∧ u.data = .set es ep t
  rows : es.toList = (rowsOf P w L)
  tab : TabW t (L.map fun p => thash P w p.2)
  nd : (L.map (·.2)).Nodup
  tup : ∀ q ∈ L, IsT P w h q.2 q.1
  plain : t.plain = true
  led : (w.params.followText "set-order") = true ∨ t.led = true
  room : L.length * 5 < (t.mask * 3)
/-- where a search for a hash stands after c steps -/
abbrev stand (m : Nat) (h : Int) (c : Nat) : SetTable.Probe := nth m (runAt m (SetTable.bits h % (m + 1)) (SetTable.bits h)) c
theorem stand_bare (m : Nat) (h : Int) : ∀ c, (stand m h c).dummy = none
  | 0 => rfl
  | c + 1 => by
    show (nth m (runAt m (SetTable.bits h % (m + 1)) (SetTable.bits h)) (c + 1)).dummy = none
    rw [nth_succ]
    have := stand_bare m h c
    unfold adv
    split <;> exact this
section
variable {P : Program} {w : World} {A : Around} {E : Value → Shared → Prop} {s : Shared} {a : Addr} {L : List (Addr × List Int)} {es : Array (Int × Value)} {ep : Nat} {t : SetTable}
theorem SetW.count (R : SetW P w s.heap a L es ep t) : es.size = L.length := by
  (have h := congrArg List.length R.rows)
  unfold rowsOf at h
  rw [List.length_map] at h
  exact h
theorem SetW.holds (R : SetW P w s.heap a L es ep t) : t.place.toList.length = L.length := by rw [R.tab.sz, List.length_map]
theorem SetW.fits (R : SetW P w s.heap a L es ep t) : t.fits es.size = true := by
  have h1 : t.place.size = L.length := R.holds
  have h2 := R.count
  have h3 := R.room
  (unfold SetTable.fits SetTable.fill)
  (rw [R.tab.dm, Bool.and_eq_true, beq_iff_eq, decide_eq_true_eq])
  exact ⟨by omega, by show t.place.size + 0 ≤ t.mask; omega⟩
theorem SetW.at_ (R : SetW P w s.heap a L es ep t) {i : Nat} {p : Addr × List Int} (h : L[i]? = some p) : es[i]? = some (thash P w p.2, Value.ref p.1) := by
  (rw [← Array.getElem?_toList, R.rows])
  unfold rowsOf
  rw [List.getElem?_map, h]; rfl
theorem SetW.sound (R : SetW P w s.heap a L es ep t) : ¬ t.gaveWay = true := by
  unfold SetTable.gaveWay
  rw [R.tab.mok.odd]
  decide
/-- the search for a tuple, from the c-th step of its way on -/
theorem w_search (R : SetW P w s.heap a L es ep t) {x : Addr} {k : List Int} (hx : IsT P w s.heap k x) (hu : A.units < cLine) {K : Nat} (hKf : K < 10 * SetTable.turns t.mask)
    (hK : way t.mask (thash P w k) K ∉ t.place.toList) (hKb : ∀ c, c < K → way t.mask (thash P w k) c ∈ t.place.toList) {Q : SetFound → (Shared → Prop)}
    (yes : k ∈ L.map (·.2) → Q (.there none) s) (no : k ∉ L.map (·.2) → Q (.free (way t.mask (thash P w k) K) false) s) :
    ∀ (f c : Nat) (from_ : Option SetTable.Probe), from_.getD (t.probeStart (thash P w k)) = stand t.mask (thash P w k) c → c ≤ K → K - c < f →
      (∀ (i : Nat) p, L[i]? = some p → p.2 = k → ∃ d, c ≤ d ∧ d < K ∧ t.place.toList[i]? = some (way t.mask (thash P w k) d)) →
      wpAny (model P w) A (setSearchFrom a (.ref x) (thash P w k) true f from_) Q E s
  | 0, c, from_, _, _, hf, _ => absurd hf (Nat.not_lt_zero _)
  | f + 1, c, from_, hst, hc, hf, hre => by
    obtain ⟨o, go, gx, gd⟩ := R.ob
    rw [setSearchFrom_succ]
    refine wpAny_bind (wpAny_setState_of go gd R.fits ?_)
    dsimp only
    refine wp_if_neg R.sound ?_
    (try refine wpAny_bind (wpAny_pure ?_))
    generalize hh : thash P w k = h at *
    have sh : ∀ q, nth t.mask (stand t.mask h c) q = stand t.mask h (c + q) := fun q => (nth_add t.mask c _ q).symm
    have at_ : ∀ q, (nth t.mask (stand t.mask h c) q).j = way t.mask h (c + q) := fun q => congrArg SetTable.Probe.j (sh q)
    have hs : ∀ (i : Nat) p, L[i]? = some p → p.2 = k → (fun i => (es[i]?.map (·.1)).getD 0) i = h := fun i p hp e => by
      show (es[i]?.map (·.1)).getD 0 = h
      rw [R.at_ hp, e, hh]; rfl
    rcases go_spec t R.tab.ris R.tab.dm (fun i => (es[i]?.map (·.1)).getD 0) h (10 * SetTable.turns t.mask) (K - c) _ (stand_bare t.mask h c) (by omega) (fun q hq => by rw [at_]; exact hKb (c + q) (by omega)) (by rw [at_, show c + (K - c) = K by omega]; exact hK) with ⟨q, i, hq, hi, _, hno, hpr⟩ | ⟨hno, hpr⟩
    · rw [← hst] at hpr
      have hpr' : t.probe (fun i => (es[i]?.map (·.1)).getD 0) h (from_.getD (t.probeStart h)) = _ := hpr
      rw [hst, at_, sh] at hpr'
      rw [hst, hpr']
      dsimp only
      rw [at_] at hi
      have gl : i < L.length := by
        rw [← R.holds]
        exact (List.getElem?_eq_some_iff.mp hi).1
      obtain ⟨p, hp⟩ : ∃ p, L[i]? = some p := ⟨_, List.getElem?_eq_getElem gl⟩
      have hm : p ∈ L := List.mem_of_getElem? hp
      have rest : wpAny (model P w) A (searchRest a (.ref x) h true f es t (way t.mask h (c + q)) i (stand t.mask h (c + (q + 1)))) Q E s := by
        unfold searchRest
        rw [R.at_ hp]
        dsimp only
        refine wpAny_bind (wpAny_holding (wpAny_eqBool_tuple hu (R.tup p hm) hx ?_))
        refine wpAny_bind (wpAny_setState_of go gd R.fits ?_)
        dsimp only
        by_cases hk : p.2 = k
        · exact wp_if_pos (by simp [hk]) (wpAny_pure (yes (List.mem_map.mpr ⟨p, hm, hk⟩)))
        · refine wp_if_neg (by simp [hk]) ?_
          (try refine wpAny_bind (wpAny_pure ?_))
          rw [sameMem]
          dsimp only
          have sl := slot_live R.tab.ris hi
          simp only [if_true, sl, R.at_ hp]
          (refine wpAny_bind (wpAny_isSame_ref_self (wpAny_bind (wpAny_pure ?_))))
          simp only [if_true]
          refine wp_if_neg (by simp [hk]) ?_
          subst hh
          refine w_search R hx hu hKf hK hKb yes no f (c + (q + 1)) _ rfl (by omega) (by omega) fun i0 p0 h0 k0 => ?_
          obtain ⟨c', a1, a2, a3⟩ := hre i0 p0 h0 k0
          refine ⟨c', ?_, a2, a3⟩
          rcases Nat.lt_trichotomy c' (c + q) with z | z | z
          · exact absurd (hs i0 p0 h0 k0) (hno (c' - c) i0 (by omega) (by rw [at_, show c + (c' - c) = c' by omega]; exact a3))
          · rw [z] at a3
            have z0 := slot_live R.tab.ris a3
            rw [sl] at z0
            injection z0 with z0
            rw [← z0, hp] at h0
            cases h0
            exact absurd k0 hk
          · omega
      by_cases gld : t.led = true
      · refine wp_if_neg (by simp [gld]) ?_
        (try refine wpAny_bind (wpAny_pure ?_))
        exact rest
      · refine wp_if_pos (by simp [gld]) (wpAny_bind (seen_tup hx (fun y hy => ?_) ?_))
        · obtain ⟨e, ge, ee⟩ := List.mem_map.mp hy
          have ge1 : e ∈ es ∧ e.1 = h := by simpa using ge
          have ge2 : e ∈ es.toList := by simpa using ge1.1
          rw [R.rows] at ge2
          obtain ⟨p2, gp2, e2⟩ := List.mem_map.mp ge2
          exact ⟨p2.2, p2.1, by rw [← ee, ← e2], R.tup p2 gp2⟩
        · (refine wp_if_neg (by decide) ?_)
          (try refine wpAny_bind (wpAny_pure ?_))
          exact rest
    · have hpr' : t.probe (fun i => (es[i]?.map (·.1)).getD 0) h (from_.getD (t.probeStart h)) = some (.empty (way t.mask h K) none) := by
        rw [hst]
        refine Eq.trans hpr ?_
        rw [at_, show c + (K - c) = K by omega]
      rw [hpr']
      dsimp only
      refine wpAny_pure (no fun hm => ?_)
      obtain ⟨p0, h0, k0⟩ := List.mem_map.mp hm
      obtain ⟨i0, e0⟩ := List.getElem?_of_mem h0
      obtain ⟨c', a1, a2, a3⟩ := hre i0 p0 e0 k0
      exact hno (c' - c) i0 (by omega) (by rw [at_, show c + (c' - c) = c' by omega]; exact a3) (hs i0 p0 e0 k0)
/-- the search, with what it may find -/
theorem w_find (R : SetW P w s.heap a L es ep t) {x : Addr} {k : List Int} (hx : IsT P w s.heap k x) (hu : A.units < cLine) {Q : SetFound → Shared → Prop} (yes : k ∈ L.map (·.2) → Q (.there none) s)
    (no : ∀ K, k ∉ L.map (·.2) → way t.mask (thash P w k) K ∉ t.place.toList → (∀ c, c < K → way t.mask (thash P w k) c ∈ t.place.toList) → Q (.free (way t.mask (thash P w k) K) false) s) : wpAny (model P w) A (setSearch a (.ref x) (thash P w k) true) Q E s := by
  have hroom := R.room
  obtain ⟨K, hKf, hK, hKb⟩ := R.tab.free (by rw [List.length_map]; omega) (thash P w k)
  have hbig : K < 100000 := by
    have := R.tab.mok.le
    unfold SetTable.turns at hKf
    omega
  unfold setSearch
  refine w_search R hx hu hKf hK hKb yes (fun hn => no K hn hK hKb) 100000 0 none rfl (Nat.zero_le _) (by omega) fun i p hp hk => ?_
  have gl : i < t.place.toList.length := by
    rw [R.holds]
    exact (List.getElem?_eq_some_iff.mp hp).1
  have gj := List.getElem?_eq_getElem gl
  obtain ⟨c, hc, e⟩ := R.tab.near hK (show (L.map fun p => thash P w p.2)[i]? = some (thash P w k) by rw [List.getElem?_map, hp, ← hk]; rfl) gj
  exact ⟨c, Nat.zero_le _, hc, by rw [gj, e]⟩
end
end Q
/-! A set of tuples of ints: adding. -/
namespace Q
open L2 PySem PySem.Spec PyProof.Rows
section
variable {P : Program} {w : World} {A : Around} {E : Value → Shared → Prop} {s : Shared} {a : Addr} {L : List (Addr × List Int)} {es : Array (Int × Value)} {ep : Nat} {t : SetTable}
/-- the table grows -/
theorem w_relay {o : Obj} (go : s.heap.get? a = some o) (hex : o.ExactSet) (gd : o.data = .set es ep t) (gro : es.toList = rowsOf P w L) (T : TabW t (L.map fun p => thash P w p.2)) (hfl : L.length ≤ t.mask)
    (nd : (L.map (·.2)).Nodup) (tup : ∀ p ∈ L, IsT P w s.heap p.2 p.1) (pl : t.plain = true) (ld : w.params.followText "set-order" = true ∨ t.led = true) {wanted M : Nat}
    (hw : SetTable.sizeAbove wanted = M + 1) (hM : Mok M) (hn : L.length * 5 < M * 3) {Q : Unit → Shared → Prop}
    (hQ : ∀ h' L' es' ep' t', Heap.SameBut a s.heap h' → SetW P w h' a L' es' ep' t' → L'.Perm L → Q () { s with heap := h' }) : wpAny (model P w) A (setRelay a wanted) Q E s := by
  have gsl : es.size = L.length := by
    have h := congrArg List.length gro
    unfold rowsOf at h
    rw [List.length_map] at h
    exact h
  have hz : t.place.size = L.length := by
    have := T.sz
    rw [List.length_map] at this
    exact this
  have gfi : t.fits es.size = true := by
    (unfold SetTable.fits SetTable.fill)
    rw [T.dm, Bool.and_eq_true, beq_iff_eq, decide_eq_true_eq]
    exact ⟨by omega, by show t.place.size + 0 ≤ t.mask; omega⟩
  obtain ⟨t', order, e, gp, T', em, el, ep'⟩ := anew_ok t (hs := es.map (·.1)) (wanted := wanted) (M := M) (by omega) hM (by rw [Array.size_map, gsl]; omega)
  rw [Array.size_map, gsl] at gp
  obtain ⟨L2, q1, q2, q3⟩ := order_rows L es order gro gp
  rw [← q3] at T'
  have gs2 : (order.filterMap (es[·]?)).size = es.size := by
    have h := congrArg List.length q1
    unfold rowsOf at h
    rw [List.length_map, q2.length_eq] at h
    rw [gsl]; exact h
  have hb := hM.le
  have ln := q2.length_eq
  rw [setRelay_eq]
  refine wpAny_bind (wpAny_setState_of go gd gfi ?_)
  dsimp only
  refine wp_if_neg (by rw [sizeLine_eq, hw]; omega) ?_
  (try refine wpAny_bind (wpAny_pure ?_))
  rw [e]
  dsimp only
  refine wpAny_bind ?_
  refine wp_if_neg (by rw [gs2]; simp) ?_
  (try refine wpAny_bind (wpAny_pure ?_))
  refine wpAny_pure ?_
  dsimp only
  refine wpAny_storeSet_of go gd ?_ (by rw [gs2, gsl, sizeLine_eq]; omega)
  have gb : Heap.SameBut a s.heap (s.heap.update a (Obj.putSet (order.filterMap (es[·]?)) t')) := Heap.SameBut.update ..
  exact hQ _ L2 (order.filterMap (es[·]?)) (ep + 1) t' gb ⟨⟨_, store_at go gd, ⟨hex.1, hex.2.1, hex.2.2⟩, rfl⟩, q1, T', (q2.map (·.2)).nodup_iff.mpr nd, fun p hpm => isT_same (tup p (q2.mem_iff.mp hpm)) go gd gb, by rw [ep']; exact pl, by rw [el]; exact ld, by rw [ln, em]; exact hn⟩ q2
end
end Q
/-! A set of tuples of ints: one more. -/
namespace Q
open L2 PySem PySem.Spec PyProof.Rows
theorem mok7 : Mok 7 := ⟨⟨2, rfl⟩, by decide, .inl rfl⟩
/-- the next mask, when the table is full -/
theorem mok_next {m n : Nat} (hm : Mok m) (h1 : n * 5 < m * 3) (h2 : (n + 1) * 5 ≥ m * 3) (hn : n < 1000) : ∃ M, SetTable.sizeAbove (SetTable.grown (n + 1)) = M + 1 ∧ Mok M ∧ (n + 1) * 5 < M * 3 := by
  rcases hm.one with e | e | e | e | e <;> subst e
  · have : n = 4 := by omega
    subst this
    exact ⟨31, grow4, ⟨⟨4, rfl⟩, by decide, .inr (.inl rfl)⟩, by decide⟩
  · have : n = 18 := by omega
    subst this
    exact ⟨127, grow18, ⟨⟨6, rfl⟩, by decide, .inr (.inr (.inl rfl))⟩, by decide⟩
  · have : n = 76 := by omega
    subst this
    exact ⟨511, grow76, ⟨⟨8, rfl⟩, by decide, .inr (.inr (.inr (.inl rfl)))⟩, by decide⟩
  · have : n = 306 := by omega
    subst this
    exact ⟨2047, grow306, ⟨⟨10, rfl⟩, by decide, .inr (.inr (.inr (.inr rfl)))⟩, by decide⟩
  · omega
section
variable {P : Program} {w : World} {A : Around} {E : Value → Shared → Prop} {s : Shared} {a : Addr} {L : List (Addr × List Int)} {es : Array (Int × Value)} {ep : Nat} {t : SetTable}
theorem w_add (R : SetW P w s.heap a L es ep t) {x : Addr} {k : List Int} (gx1 : IsT P w s.heap k x) (hu : A.units < cLine) (few : L.length < 1000) {Q : Bool → Shared → Prop}
    (hQ : ∀ b h' L' es' ep' t', Heap.SameBut a s.heap h' → SetW P w h' a L' es' ep' t' → (k ∈ L.map (·.2) → L' = L) → (k ∉ L.map (·.2) → L'.Perm ((x, k) :: L)) → Q b { s with heap := h' }) : wpAny (model P w) A (setAddHashed a (.ref x) (thash P w k)) Q E s := by
  obtain ⟨o, go, gx, gd⟩ := R.ob
  have hsl := R.count
  have hroom := R.room
  unfold setAddHashed
  refine wpAny_holding ?_
  (rw [show (100000 : Nat) = 99999 + 1 from rfl, setAddHashedIn_succ])
  refine wpAny_bind (wpAny_setState_of go gd R.fits ?_)
  dsimp only
  (refine wp_if_neg (by simp [byScan, Value.scannable]) ?_)
  (try refine wpAny_bind (wpAny_pure ?_))
  refine wpAny_bind (w_find R gx1 hu (fun hm => wpAny_pure (hQ false s.heap L es ep t (Heap.SameBut.refl a s.heap) R (fun _ => rfl) fun z => absurd hm z)) fun K hm hK hb => ?_)
  dsimp only
  refine wpAny_bind (wpAny_setState_of go gd R.fits ?_)
  dsimp only
  obtain ⟨p, gp⟩ : ∃ p, p = SetTable.below t.place (way t.mask (thash P w k) K) := ⟨_, rfl⟩
  obtain ⟨q1, q2, q3⟩ := R.tab.put hK hb gp
  obtain ⟨t1, ht⟩ : ∃ t1, t1 = (t.put (way t.mask (thash P w k) K)).1 := ⟨_, rfl⟩
  have m1 : t1.mask = t.mask := by rw [ht]; rfl
  have l1 : t1.led = t.led := by rw [ht]; rfl
  have p1 : t1.plain = true := by rw [ht]; exact R.plain
  have pe : t.put (way t.mask (thash P w k) K) = (t1, p) := by rw [ht, gp]; rfl
  rw [← ht] at q2 q3
  rw [pe]
  dsimp only
  first
    | (refine wpAny_bind ?_; refine wp_if_pos p1 ?_; refine hashBy_tup gx1 ?_)
    | refine wp_if_pos p1 (wpAny_bind (hashBy_tup gx1 ?_))
  simp only [if_true]
  have r1 : (SetTable.insertAt es p (thash P w k, Value.ref x)).toList = rowsOf P w (L.take p ++ (x, k) :: L.drop p) := by rw [SetTable.toList_insertAt, rows_put, R.rows]
  have gpm := put_perm L p (x, k)
  have gle := gpm.length_eq
  rw [List.length_cons] at gle
  rw [← show (L.take p ++ (x, k) :: L.drop p).map (fun p => thash P w p.2) = (L.map fun p => thash P w p.2).take p ++ thash P w k :: (L.map fun p => thash P w p.2).drop p by rw [List.map_append, List.map_cons, List.map_take, List.map_drop]] at q2
  rw [List.length_map] at q3
  have nd1 : ((L.take p ++ (x, k) :: L.drop p).map (·.2)).Nodup := (gpm.map (·.2)).nodup_iff.mpr (List.nodup_cons.mpr ⟨hm, R.nd⟩)
  have ges : (SetTable.insertAt es p (thash P w k, Value.ref x)).size = L.length + 1 := by
    (have h := congrArg List.length r1)
    unfold rowsOf at h
    rw [List.length_map, gle] at h
    exact h
  generalize SetTable.insertAt es p (thash P w k, Value.ref x) = es1 at r1 ges ⊢
  generalize L.take p ++ (x, k) :: L.drop p = L1 at gpm gle q2 nd1 r1
  refine wpAny_bind (wpAny_storeSet_of go gd ?_ (by rw [ges, sizeLine_eq]; omega))
  have gb : Heap.SameBut a s.heap (s.heap.update a (Obj.putSet es1 t1)) := Heap.SameBut.update ..
  have go1 := store_at (es' := es1) (t' := t1) go gd
  generalize s.heap.update a (Obj.putSet es1 t1) = h1 at gb go1 ⊢
  have gtu : ∀ p ∈ L1, IsT P w h1 p.2 p.1 := fun p gp => by
    rcases List.mem_cons.mp (gpm.mem_iff.mp gp) with e | gp
    · rw [e]; exact isT_same gx1 go gd gb
    · exact isT_same (R.tup p gp) go gd gb
  have ld1 : w.params.followText "set-order" = true ∨ t1.led = true := by rw [l1]; exact R.led
  by_cases gf : t1.tooFull = true
  · first
      | (refine wpAny_bind ?_; refine wp_if_pos (by simp [gf]) ?_)
      | (refine wp_if_pos (by simp [gf]) ?_; refine wpAny_bind ?_)
    have full : (L.length + 1) * 5 ≥ t.mask * 3 := by
      have h := gf
      unfold SetTable.tooFull at h
      rw [decide_eq_true_eq, q3, m1] at h
      exact h
    obtain ⟨M, g1, g2, g3⟩ := mok_next R.tab.mok hroom full few
    rw [hsl]
    refine w_relay (s := { s with heap := h1 }) go1 ⟨gx.1, gx.2.1, gx.2.2⟩ rfl r1 q2 (by omega) nd1 gtu p1 ld1 g1 g2 (by rw [gle]; exact g3) fun h2 L2 es2 ep2 t2 sb2 R2 pm2 => ?_
    exact wpAny_pure (hQ true h2 L2 es2 ep2 t2 (gb.trans sb2) R2 (fun z => absurd z hm) fun _ => pm2.trans gpm)
  · first
      | refine wp_if_neg (by simp [gf]) ?_
      | (refine wpAny_bind ?_; refine wp_if_neg (by simp [gf]) ?_; refine wpAny_pure ?_)
    refine wpAny_pure (hQ true h1 L1 es1 (ep + 1) t1 gb ⟨⟨_, go1, ⟨gx.1, gx.2.1, gx.2.2⟩, rfl⟩, r1, q2, nd1, gtu, p1, ld1, ?_⟩ (fun z => absurd z hm) fun _ => gpm)
    have h := gf
    unfold SetTable.tooFull at h
    rw [decide_eq_true_eq, q3] at h
    rw [gle]
    omega
end
end Q
/-! set(list of ints), told with its order; sorted of that. -/
namespace L2
open PyProof.Rows PySem PySem.Spec
/-- a set as it is born -/
abbrev qEmp (w : World) : Obj := { cls := .type "set", dict := none, data := .set #[] 0 (.fresh 0 0 (!w.params.followText "set-order")) }
section
variable {A : Around} {P : Program} {w : World} {s : Shared} {E : Value → Shared → Prop}
theorem qs_gen {l : Addr} {its : Array Value} {Fin : Heap → Prop} {Q : Value → Shared → Prop} (hl : s.heap.IsList l its)
    (up : ∀ R : Result → Shared → Prop, (∀ h' tk, Fin h' → R (.ok (.ret .none)) { s with heap := h', toks := tk }) → codeAny (model P w) A.in1.in1 (.builtin "set.update.loop" ⟨[.ref s.heap.objs.size, .ref (s.heap.push (qEmp w)).objs.size], []⟩) R { s with heap := (s.heap.push (qEmp w)).push { cls := .type "list_iterator", data := .fields #[.ref l, .int 0 0] } })
    (h : ∀ h' tk, Fin h' → Q (.ref s.heap.objs.size) { s with heap := h', toks := tk }) : wpAny (model P w) A (call (.type "set") [.ref l]) Q E s := by
  obtain ⟨c, tl, mr⟩ := F.called_set.mro
  have mk2 := F.called_set.made
  have hsub := F.called_set.sub
  (refine wpAny_call (codeAny_of_tree ?_))
  (show wpAny _ _ (callAny (.type "set") _) _ _ _)
  (refine wpAny_pure ⟨Code.quiet_builtin _ (by decide +kernel), codeAny_builtin F.entry_type_call ?_⟩)
  (rw [Around.under_plain (weight_type_call_type "set" [.ref l] []) rfl])
  have k1 := F.called_set.notType
  have k2 := F.called_set.canCreate
  have kct := F.typeCall_set_1 (.ref l)
  (repeat (any_goals (first | assumption | wp_step)))
  refine codeAny_mono (code_set_led1 (.ref l) (E := E) (Q₁ := fun obj s₁ => obj = .ref s.heap.objs.size ∧ s₁ = { s with heap := s.heap.push (qEmp w) }) ⟨rfl, rfl⟩) fun r s₁ hr => ?_
  cases r with
  | error e => exact hr
  | ok fl =>
    cases fl with
    | ret obj =>
      obtain ⟨rfl, rfl⟩ := hr
      have hS : (s.heap.push (qEmp w)).get? s.heap.objs.size = some (qEmp w) := Heap.get?_push_size _ rfl
      have hT : Shared.TypeIs { s with heap := s.heap.push (qEmp w) } (.ref s.heap.objs.size) "set" := ⟨_, hS, rfl⟩
      have kli := F.called_set.init.lookup
      have kbi := F.called_set.init.bind (.ref s.heap.objs.size)
      (repeat (any_goals (first | assumption | wp_step)))
      refine codeAny_mono (codeAny_call_builtin (R := wants (fun r s₂ => r = .none ∧ ∃ h' tk, s₂ = { s with heap := h', toks := tk } ∧ Fin h') E) F.called_set.init.plain F.entry_set_init (check_set_init_1 hT ?_)) fun r₂ s₂ hr₂ => ?_
      · obtain ⟨lo, klo, kcl, ln, kdl⟩ := hl
        obtain ⟨oc, od, ot, osl⟩ := lo
        simp only at kcl kdl
        subst kcl; subst kdl
        have hol' : (s.heap.push (qEmp w)).get? l = some { cls := .type "list", dict := od, data := .seq its ln, slots := osl } := Heap.get?_push_of_some _ klo
        have hsls := F.sub_list_set
        have ksl := F.sub_list_frozenset
        have kne : (Value.type "list" == Value.type "dict") = false := by decide
        have kl1 : (s.heap.push (qEmp w)).IsList l its := ⟨_, hol', rfl, ln, rfl⟩
        (unfold Builtin.«set.__init__» noKeywords Builtin.Frozenset.updateFrom)
        generalize hPI : pyIter = PI
        wp_walk
        subst hPI
        refine wpAny_pyIter_list kl1 ?_
        (refine wpAny_bind (wpAny_runValue ?_))
        refine up _ fun h' tk hf => ?_
        show wpAny _ _ _ _ _ _
        refine wpAny_pure ?_
        (show wpAny _ _ (ret Value.none) _ _ _)
        exact wpAny_pure ⟨rfl, h', tk, rfl, hf⟩
      · cases r₂ with
        | error e => exact hr₂
        | ok fl₂ =>
          cases fl₂ with
          | ret r =>
            obtain ⟨rfl, h', tk, rfl, hf⟩ := hr₂
            (repeat (any_goals (first | assumption | wp_step)))
            exact h _ _ hf
          | _ => exact hr₂.elim
    | _ => exact hr.elim
end
end L2
namespace L2
open PyProof.Rows PySem PySem.Spec
section
variable {A : Around} {P : Program} {w : World} {s : Shared} {E : Value → Shared → Prop}
theorem qs_set {l : Addr} {its : Array Value} (ns : List Int) {Q : Value → Shared → Prop} (hh : A.handled = none) (hl : s.heap.IsList l its) (kit : IntsAre its.toList ns) (hb : ns.length + 1 < scanBound)
    (h : ∀ (h' : Heap) (tz c : Nat), SetR w h' s.heap.objs.size (fun j => decide (j ∈ ns)) c → c ≤ ns.length → (∀ b o, s.heap.get? b = some o → h'.get? b = some o) → Q (.ref s.heap.objs.size) { s with heap := h', toks := tz }) : wpAny (model P w) A (call (.type "set") [.ref l]) Q E s := by
  have hsz : its.size = ns.length := by
    have q := IntsAre.length kit
    rw [Array.length_toList] at q
    exact q
  refine qs_gen (Fin := fun h' => ∃ c, SetR w h' s.heap.objs.size (fun j => decide (j ∈ ns)) c ∧ c ≤ ns.length ∧ ∀ b o, s.heap.get? b = some o → h'.get? b = some o) hl (fun R hR => ?_) fun h' tz ⟨c, z1, z2, z3⟩ => h h' tz c z1 z2 z3
  have hS : (s.heap.push (qEmp w)).get? s.heap.objs.size = some (qEmp w) := Heap.get?_push_size _ rfl
  have hl1 : (s.heap.push (qEmp w)).IsList l its := let ⟨o, ho, r⟩ := hl; ⟨o, Heap.get?_push_of_some _ ho, r⟩
  have klS : l < s.heap.objs.size := let ⟨o, ho, r⟩ := hl; Heap.lt_size ho
  have kh3 : A.in1.in1.in1.handled = none := by simp [hh]
  have hz1 : (s.heap.push (qEmp w)).objs.size = s.heap.objs.size + 1 := Heap.size_push ..
  have hneI : l ≠ (s.heap.push (qEmp w)).objs.size := by rw [hz1]; exact Nat.ne_of_lt (Nat.lt_succ_of_lt klS)
  have hSf : s.heap.objs.size ∉ [(s.heap.push (qEmp w)).objs.size, l] := by
    rw [hz1]; simp only [List.mem_cons, List.not_mem_nil, or_false, not_or]
    exact ⟨Nat.ne_of_lt (Nat.lt_succ_self _), Nat.ne_of_gt klS⟩
  have hval : ∀ (i : Nat) (v : Value), its[i]? = some v → ∃ k t, ns[i]? = some k ∧ v = .int k t := fun i v hv => by
    have hi : i < ns.length := by rw [← hsz]; exact (Array.getElem?_eq_some_iff.mp hv).1
    obtain ⟨t, e⟩ := PyProof.Rows.IntsAre.int_at kit i v (by rw [Array.getElem?_toList]; exact hv)
    exact ⟨ns[i], t, List.getElem?_eq_getElem hi, by rw [e, List.getD_eq_getElem?_getD, List.getElem?_eq_getElem hi]; rfl⟩
  refine set_update_ints ((Walks.list kh3 _ l hneI its).toS) s.heap.objs.size hSf ns hsz hb hval (its.size - 0) 0 _ (by omega) (Nat.zero_le _) ⟨⟨_, Heap.get?_push_size _ rfl, rfl, rfl⟩, (hl1.push _)⟩ ⟨0, Nat.le_refl 0, setR_new_at (Heap.get?_push_of_some _ hS)⟩ fun s' c' hm hc' hS' => ?_
  obtain ⟨h', gz, dz, kz, oz⟩ := s'
  obtain rfl : gz = s.gens := hm.gens
  obtain rfl : dz = s.drawn := hm.drawn
  obtain rfl : oz = s.os := hm.os
  refine hR h' kz ⟨c', hS', by omega, fun b o e => ?_⟩
  have kb0 : b < s.heap.objs.size := Heap.lt_size e
  refine hm.heap b o ?_ (Heap.get?_push_of_some _ (Heap.get?_push_of_some _ e))
  rw [hz1]
  simp only [List.mem_cons, List.not_mem_nil, or_false, not_or]
  exact ⟨Nat.ne_of_lt kb0, Nat.ne_of_lt (Nat.lt_succ_of_lt kb0)⟩
end
end L2
namespace Q
open PySem PySem.Spec PyProof.Rows L2 Pt
section
variable {X : Cx}
def rSetLI (K : PySem.W.Frag) (w : World) : List V → Hp → VK → Prop := fun xs H Q => ∃ (p : Addr) (ns : List Int), xs = [.ref p] ∧ SqL K H p (ns.map V.int) ∧ ns.length ≤ 1000 ∧ ∀ a c, H a = none → c ≤ ns.length → Q (.ref a) (upd H a (SetO w a (fun j => decide (j ∈ ns)) c))
theorem cr_setLI (hc : X.calm = true) : CallR X (.type "set") (rSetLI X.K X.w) := by
  intro pins s σ H xs vs1 Q I r h
  obtain ⟨p, ns, rfl, hq, hl, q⟩ := h
  rw [Vals.ref1 r]
  obtain ⟨its, rv, pt, hz⟩ := I.list hq
  have ki : IntsAre its.toArray.toList ns := ints_of_vals rv
  refine qs_set ns (I.ok.hd hc) pt.isList ki (by unfold scanBound; omega) fun h' tk c R1 hcn k => ?_
  exact ⟨.ref _, upd H s.heap.objs.size (SetO X.w s.heap.objs.size (fun j => decide (j ∈ ns)) c), I.laid (t' := tk) k (Nat.le_refl _) (setO_new R1), rfl, q _ c (I.hok.fresh (Nat.le_refl _)) hcn⟩
theorem allP_intV : ∀ (l : List Int) (G : Hp), AllP (l.map fun i => isI i) (l.map V.int) G
  | [], G => .nil
  | i :: r, G => .cons rfl (allP_intV r G)
theorem inc_inj : ∀ {l m : List Int}, l.Pairwise (· < ·) → m.Pairwise (· < ·) → (∀ k, k ∈ l ↔ k ∈ m) → l = m
  | [], [], _, _, _ => rfl
  | [], b :: m, _, _, h => nomatch (h b).mpr List.mem_cons_self
  | a :: l, [], _, _, h => nomatch (h a).mp List.mem_cons_self
  | a :: l, b :: m, h1, h2, h => by
    obtain ⟨p1, q1⟩ := List.pairwise_cons.mp h1
    obtain ⟨p2, q2⟩ := List.pairwise_cons.mp h2
    have e : a = b := by
      rcases List.mem_cons.mp ((h a).mp List.mem_cons_self) with x | x
      · exact x
      · rcases List.mem_cons.mp ((h b).mpr List.mem_cons_self) with y | y
        · exact y.symm
        · have := p1 b y
          have := p2 a x
          omega
    subst e
    rw [inc_inj q1 q2 fun k => ⟨fun hk => ?_, fun hk => ?_⟩]
    · rcases List.mem_cons.mp ((h k).mp (List.mem_cons_of_mem _ hk)) with x | x
      · have := p1 k hk; omega
      · exact x
    · rcases List.mem_cons.mp ((h k).mpr (List.mem_cons_of_mem _ hk)) with x | x
      · have := p2 k hk; omega
      · exact x
/-- a set of these ints -/
def isSt (w : World) (ns : List Int) : VP := ⟨fun v H => ∃ a c, v = .ref a ∧ H a = some (SetO w a (fun j => decide (j ∈ ns)) c) ∧ c ≤ ns.length, fun s ⟨a, c, e, q, h⟩ => ⟨a, c, e, s _ _ q, h⟩⟩
theorem ints_vs {ns : List Int} {xs : List V} {H : Hp} (h : AllP (ns.map fun i => isI i) xs H) : xs = ns.map V.int := by
  induction ns generalizing xs with
  | nil => cases h; rfl
  | cons a r ih =>
    cases h with
    | cons p t =>
      rw [ih t]
      have e : _ = V.int a := p
      rw [e]; rfl
variable {fr : Prop} {A A1 : As} {e : Expr} {pos p p1 p2 : Pos}
theorem e_setI {ns : List Int} (hc : X.calm = true) (hm : X.mg "set" = none) (h : Je fr X A e (isL (ns.map fun i => isI i)) A1) (hn : ns.length ≤ 1000) (hg : Gl X "set" := by rfl) (he : starEach [e] X.env = (false, eval e X.env) :: starEach [] X.env := by rfl) : Je fr X A (.Call (.Name "set" p) [e] [] pos) (isSt X.w ns) A1 :=
  e_callTy (cr_setLI hc) hm (a_one h he) (fun vs G H Q s r z => by
    obtain ⟨v, rfl, l, xs, rfl, e2, e3⟩ := paired_one r
    rw [ints_vs e3] at e2
    exact ⟨l, ns, rfl, SqL.of (s _ _ e2), hn, fun a c ha hcn => z _ _ _ (Gw.new s ha) ⟨a, c, rfl, upd_same, hcn⟩⟩) (by decide +kernel) hg (by decide) (by decide) he
theorem e_sortI {ns ms : List Int} (hc : X.calm = true) (hm : X.mg "sorted" = none) (h : Je fr X A e (isSt X.w ns) A1) (hn : ns.length < 60) (hs : ms.Pairwise (· < ·) ∧ ∀ k, k ∈ ms ↔ k ∈ ns) (hg : Gl X "sorted" := by rfl) (he : starEach [e] X.env = (false, eval e X.env) :: starEach [] X.env := by rfl) : Je fr X A (.Call (.Name "sorted" p) [e] [] pos) (isL (ms.map fun i => isI i)) A1 :=
  e_callB (cr_sortedSet hc) hm (a_one h he) (fun vs G H Q s r z => by
    obtain ⟨v, rfl, a, c, rfl, e2, e3⟩ := paired_one r
    refine ⟨a, _, c, rfl, s _ _ e2, by omega, fun ks l h1 h2 h3 hl => ?_⟩
    have e : ks = ms := inc_inj h1 hs.1 fun k => by rw [h2 k, decide_eq_true_eq, hs.2 k]
    subst e
    exact z _ _ _ (Gw.new s hl) ⟨l, _, rfl, upd_same, allP_intV _ _⟩) (by decide +kernel) hg (by decide) (by decide) he
end
end Q
/-! set(list of tuples of ints). -/
namespace Q
open L2 PySem PySem.Spec PyProof.Rows
section
variable {A : Around} {P : Program} {w : World} {s : Shared} {E : Value → Shared → Prop}
theorem SetW.keep {h h' : Heap} {a : Addr} {L : List (Addr × List Int)} {es : Array (Int × Value)} {ep : Nat} {t : SetTable} (R : SetW P w h a L es ep t) (ha : ∀ o, h.get? a = some o → h'.get? a = some o) (ht : ∀ p ∈ L, IsT P w h' p.2 p.1) : SetW P w h' a L es ep t :=
  let ⟨o, ho, r⟩ := R.ob
  { R with ob := ⟨o, ha o ho, r⟩, tup := ht }
theorem setW_born {h : Heap} {a : Addr} (ho : h.get? a = some (qEmp w)) : SetW P w h a [] #[] 0 (.fresh 0 0 (!w.params.followText "set-order")) where
  ob := ⟨_, ho, ⟨rfl, (rfl), rfl⟩, rfl⟩
  rows := rfl
  tab := ⟨List.Pairwise.nil, rfl, rfl, mok7, fun i h j hi => (by simp at hi)⟩
  nd := List.nodup_nil
  tup := fun p gp => (by cases gp)
  plain := rfl
  led := by
    (show _ ∨ (!w.params.followText "set-order") = true)
    (cases w.params.followText "set-order")
    · exact .inr rfl
    · exact .inl rfl
  room := by
    show 0 * 5 < 7 * 3
    decide
theorem w_update {I : Addr} {fp wr : List Addr} {G : Array GenState → Array GenState → Prop} {n : Nat} {Pv : Nat → Value → Prop} {St : Nat → Shared → Prop} {R : Result → Shared → Prop}
    (W : WalksS P w A.in1 I fp wr G n Pv St) (S : Addr) (gSf : S ∉ fp) (ks : List (Addr × List Int)) (hn : n = ks.length) (few : ks.length < 1000) (gval : ∀ i v, Pv i v → ∃ p, ks[i]? = some p ∧ v = .ref p.1)
    (h0 : Heap) (gk : ∀ p ∈ ks, IsT P w h0 p.2 p.1) (gS0 : h0.get? S = none) (gw0 : ∀ b ∈ wr, h0.get? b = none) (gu : A.in1.units < cLine) :
    ∀ (k i : Nat) (s : Shared), n - i = k → i ≤ n → St i s → (∀ b o, h0.get? b = some o → s.heap.get? b = some o) → (∃ L es ep t, SetW P w s.heap S L es ep t ∧ Got ks i L) →
      (∀ s' L es ep t, Moved (S :: wr) G s s' → SetW P w s'.heap S L es ep t → Got ks n L → (∀ b o, h0.get? b = some o → s'.heap.get? b = some o) → R (.ok (.ret .none)) s') → codeAny (model P w) A (.builtin "set.update.loop" ⟨[.ref S, .ref I], []⟩) R s := by
  have gSw : S ∉ wr := fun h => gSf (W.sub _ h)
  have gsu : ∀ b ∈ wr, b ∈ S :: wr := fun b hb => List.mem_cons_of_mem _ hb
  have keepM : ∀ {s s' : Shared}, Moved wr G s s' → (∀ b o, h0.get? b = some o → s.heap.get? b = some o) → ∀ b o, h0.get? b = some o → s'.heap.get? b = some o := fun gm gkp b o e => gm.heap b o (fun hb => by rw [gw0 b hb] at e; cases e) (gkp b o e)
  intro k
  induction k with
  | zero =>
    intro i s hk' hi gst gkp ⟨L, es, ep, t, hS, g⟩ hR
    obtain rfl : i = n := by omega
    (refine codeAny_builtin F.entry_set_update_loop ?_)
    (rw [Around.under_plainId F.plain_set_update_loop _])
    (show wpAny _ A.in1 (pyNext (.ref I) >>= _) _ _ s)
    refine wpAny_bind (W.done s _ _ gst fun s' gm => ?_)
    (show wpAny _ A.in1 (ret Value.none) _ _ s')
    have kp := keepM gm gkp
    exact wpAny_pure (hR s' L es ep t (gm.mono gsu) (hS.keep (fun o e => gm.heap S o gSw e) fun p gp => isT_keep (gk p (List.mem_of_mem_take (g.sub p gp))) kp) g kp)
  | succ k ih =>
    intro i s hk' hi gst gkp ⟨L, es, ep, t, hS, g⟩ hR
    have hlt : i < n := by omega
    (refine codeAny_builtin F.entry_set_update_loop ?_)
    (rw [Around.under_plainId F.plain_set_update_loop _])
    (show wpAny _ A.in1 (pyNext (.ref I) >>= _) _ _ s)
    refine wpAny_bind (W.item i s _ _ hlt gst fun v s' gP gst2 gm => ?_)
    obtain ⟨p, gp, rfl⟩ := gval i v gP
    have kp := keepM gm gkp
    have hS' : SetW P w s'.heap S L es ep t := hS.keep (fun o e => gm.heap S o gSw e) fun q hq => isT_keep (gk q (List.mem_of_mem_take (g.sub q hq))) kp
    have gx : IsT P w s'.heap p.2 p.1 := isT_keep (gk p (List.mem_of_getElem? gp)) kp
    (show wpAny _ A.in1 (holding [Value.ref p.1] (setAdd S (.ref p.1)) >>= _) _ _ s')
    (refine wpAny_bind (wpAny_holding ?_))
    unfold setAdd
    refine wpAny_holding ?_
    refine wpAny_bind (wpAny_pyHash_tuple gu gx ?_)
    refine w_add (s := { s' with toks := s'.toks + (p.2.length + 1) }) hS' gx gu (by have := g.len; omega) fun b h' L' es' ep' t' gsb hS2 c1 c2 => ?_
    have gg : Got ks (i + 1) L' := by
      (rcases Classical.em (p.2 ∈ L.map (·.2)) with c | c)
      · rw [c1 c]; exact g.same gp c
      · exact g.more gp (c2 c)
    have kp2 : ∀ b o, h0.get? b = some o → h'.get? b = some o := fun b o e => (gsb.2 b (fun z => by rw [z, gS0] at e; cases e)).trans (kp b o e)
    refine wpAny_pure ⟨plainId_quiet F.plain_set_update_loop _, ih (i + 1) _ (by omega) hlt (W.frame _ s' _ _ gst2 (Nat.le_add_right _ _) fun b hb o e => ?_) kp2 ⟨L', es', ep', t', hS2, gg⟩ fun s'' L2 es2 ep2 t2 gm2 gS2 gg2 gkp2 => ?_⟩
    · rw [gsb.2 b (fun h : b = S => gSf (by rw [← h]; exact hb))]; exact e
    · refine hR s'' L2 es2 ep2 t2 (Moved.trans W.gtrans ((gm.mono gsu).then_heap (Nat.le_add_right _ _) fun b o hb e => ?_) gm2) gS2 gg2 gkp2
      rw [gsb.2 b (fun h : b = S => hb (by rw [h]; exact List.mem_cons_self))]; exact e
theorem w_set {l : Addr} {its : Array Value} (ks : List (Addr × List Int)) {Q : Value → Shared → Prop} (hh : A.handled = none) (hl : s.heap.IsList l its) (hit : its.toList = ks.map fun p => Value.ref p.1)
    (gk : ∀ p ∈ ks, IsT P w s.heap p.2 p.1) (few : ks.length < 1000) (gu : A.units + 3 < cLine)
    (h : ∀ (h' : Heap) (tk : Nat) L es ep t, SetW P w h' s.heap.objs.size L es ep t → Got ks ks.length L → (∀ b o, s.heap.get? b = some o → h'.get? b = some o) → Q (.ref s.heap.objs.size) { s with heap := h', toks := tk }) : wpAny (model P w) A (call (.type "set") [.ref l]) Q E s := by
  have hsz : its.size = ks.length := by
    (have q := congrArg List.length hit)
    rw [List.length_map] at q
    exact q
  refine qs_gen (Fin := fun h' => ∃ L es ep t, SetW P w h' s.heap.objs.size L es ep t ∧ Got ks ks.length L ∧ ∀ b o, s.heap.get? b = some o → h'.get? b = some o) hl (fun R hR => ?_) fun h' tk ⟨L, es, ep, t, z1, z2, z3⟩ => h h' tk L es ep t z1 z2 z3
  have hS : (s.heap.push (qEmp w)).get? s.heap.objs.size = some (qEmp w) := Heap.get?_push_size _ rfl
  have hl1 : (s.heap.push (qEmp w)).IsList l its := let ⟨o, ho, r⟩ := hl; ⟨o, Heap.get?_push_of_some _ ho, r⟩
  have glS : l < s.heap.objs.size := let ⟨o, ho, r⟩ := hl; Heap.lt_size ho
  have gh3 : A.in1.in1.in1.handled = none := by simp [hh]
  have hz1 : (s.heap.push (qEmp w)).objs.size = s.heap.objs.size + 1 := Heap.size_push ..
  have hneI : l ≠ (s.heap.push (qEmp w)).objs.size := by rw [hz1]; exact Nat.ne_of_lt (Nat.lt_succ_of_lt glS)
  have gSf : s.heap.objs.size ∉ [(s.heap.push (qEmp w)).objs.size, l] := by
    rw [hz1]; simp only [List.mem_cons, List.not_mem_nil, or_false, not_or]
    exact ⟨Nat.ne_of_lt (Nat.lt_succ_self _), Nat.ne_of_gt glS⟩
  have gval : ∀ (i : Nat) (v : Value), its[i]? = some v → ∃ p, ks[i]? = some p ∧ v = .ref p.1 := fun i v hv => by
    rw [← Array.getElem?_toList, hit, List.getElem?_map] at hv
    obtain ⟨p, e1, e2⟩ := Option.map_eq_some_iff.mp hv
    exact ⟨p, e1, e2.symm⟩
  have gnone : ∀ b, s.heap.objs.size ≤ b → s.heap.get? b = none := fun b hb => by
    cases q : s.heap.get? b with
    | none => rfl
    | some o => exact absurd (Heap.lt_size q) (Nat.not_lt_of_le hb)
  refine w_update ((Walks.list gh3 _ l hneI its).toS) s.heap.objs.size gSf ks hsz few gval s.heap gk (gnone _ (Nat.le_refl _)) (fun b hb => gnone b (by rw [List.mem_singleton.mp hb, hz1]; exact Nat.le_succ _)) gu (its.size - 0) 0 _ (by omega) (Nat.zero_le _) ⟨⟨_, Heap.get?_push_size _ rfl, rfl, rfl⟩, (hl1.push _)⟩ (fun b o e => Heap.get?_push_of_some _ (Heap.get?_push_of_some _ e)) ⟨[], #[], 0, _, setW_born (Heap.get?_push_of_some _ hS), Got.zero ks⟩ fun s' L es ep t gm hS' gg gkp => ?_
  obtain ⟨h', gz, dz, kz, oz⟩ := s'
  obtain rfl : gz = s.gens := gm.gens
  obtain rfl : dz = s.drawn := gm.drawn
  obtain rfl : oz = s.os := gm.os
  rw [hsz] at gg
  exact hR h' kz ⟨L, es, ep, t, hS', gg, gkp⟩
end
end Q
/-! len(set(list of tuples)). -/
namespace Q
open PySem PySem.Spec PyProof.Rows L2 Pt
/-- a set of so many members, the object alone -/
def Sz (h : Heap) (a : Addr) (n : Nat) : Prop := ∃ (es : Array (Int × Value)) (ep : Nat) (t : SetTable), (∃ o, h.get? a = some o ∧ o.ExactSet ∧ o.data = .set es ep t) ∧ es.size = n ∧ t.fits es.size = true
def SzO (a : Addr) (n : Nat) : HO := .ext fun h => Sz h a n
theorem szO_new {P : Program} {w : World} {H : Hp} {h : Heap} {a : Addr} {n : Nat} (z : Sz h a n) : ObjOk P w H h a (SzO a n) := by
  have ⟨es, ep, t, ⟨o, ho, r⟩, q⟩ := z
  refine ⟨z, ⟨o, ho⟩, fun h1 h2 p k => ?_⟩
  obtain ⟨es2, ep2, t2, ⟨o2, ho2, r2⟩, q2⟩ := (show Sz h1 a n from p)
  exact ⟨es2, ep2, t2, ⟨o2, k o2 ho2, r2⟩, q2⟩
def isSz (n : Nat) : VP := ⟨fun v H => ∃ a, v = .ref a ∧ H a = some (SzO a n), fun s ⟨a, e, q⟩ => ⟨a, e, s _ _ q⟩⟩
section
variable {X : Cx}
def rSetTL (K : PySem.W.Frag) : List V → Hp → VK → Prop := fun xs H Q => ∃ (l : Addr) (ks : List (Addr × List Int)), xs = [V.ref l] ∧ SqL K H l (ks.map fun p => V.ref p.1) ∧ (∀ p ∈ ks, SqT K H p.1 (p.2.map V.int)) ∧ ks.length < 1000 ∧
  ∀ a (L : List (Addr × List Int)), H a = none → (L.map (·.2)).Nodup → (∀ p ∈ L, p ∈ ks) → (∀ p ∈ ks, p.2 ∈ L.map (·.2)) → Q (.ref a) (upd H a (SzO a L.length))
theorem cr_setTL (hc : X.calm = true) (hu : X.A.units + 3 < cLine) : CallR X (.type "set") (rSetTL X.K) := by
  intro pins s σ H xs vs1 Q I r h
  obtain ⟨l, ks, rfl, gl, gk, gf, q⟩ := h
  rw [Vals.ref1 r]
  obtain ⟨its, rv, pt, hz⟩ := I.list gl
  refine w_set (P := X.prog) (w := X.w) ks (I.ok.hd hc) pt.isList (by simpa using refs_of_vals rv) (fun p hp => I.isT (gk p hp)) gf hu fun h' tk L es ep t R g k => ?_
  have z : Sz h' s.heap.objs.size L.length := ⟨es, ep, t, R.ob, SetW.count (s := { s with heap := h' }) R, SetW.fits (s := { s with heap := h' }) R⟩
  exact ⟨.ref _, upd H s.heap.objs.size (SzO s.heap.objs.size L.length), I.laid (t' := tk) k (Nat.le_refl _) (szO_new z), rfl, q _ L (I.hok.fresh (Nat.le_refl _)) R.nd (fun p hp => List.mem_of_mem_take (g.sub p hp)) fun p hp => g.all p (by rw [List.take_length]; exact hp)⟩
def rLenSz : List V → Hp → VK → Prop := fun xs H Q => ∃ a n, xs = [V.ref a] ∧ H a = some (SzO a n) ∧ n < 1000 ∧ Q (.int (n : Nat)) H
theorem cr_lenSz : CallR X (.builtin "len") rLenSz := by
  intro pins s σ H xs vs1 Q I r h
  obtain ⟨a, n, rfl, ha, hn, q⟩ := h
  rw [Vals.ref1 r]
  have z : Sz s.heap a n := (I.hok a _ ha).1
  obtain ⟨es, ep, t, ⟨o, ho, hex, hd⟩, e, gf⟩ := z
  refine call_len_set ho hex hd gf (by rw [e]; omega) ?_
  exact ⟨.int n, H, I.tok _, ⟨_, by rw [e]⟩, q⟩
end
/-! ### how many there are -/
theorem castL_inj : ∀ {l m : List Nat}, l.map (fun (n : Nat) => (n : Int)) = m.map (fun (n : Nat) => (n : Int)) → l = m
  | [], [], _ => rfl
  | [], _ :: _, h => (by cases h)
  | _ :: _, [], h => (by cases h)
  | a :: l, b :: m, h => by
    (rw [List.map_cons, List.map_cons] at h)
    injection h with h1 h2
    rw [castL_inj h2, Int.ofNat.inj h1]
theorem dupsL_nodup {α : Type} [BEq α] [LawfulBEq α] : ∀ (n : Nat) (l : List α), l.length ≤ n → l.eraseDups.Nodup
  | _, [], _ => List.nodup_nil
  | 0, a :: l, h => by simp at h
  | n + 1, a :: l, h => by
    rw [List.eraseDups_cons, List.nodup_cons]
    refine ⟨fun z => ?_, dupsL_nodup n _ (by
      have := List.length_filter_le (fun b => !b == a) l
      simp at h
      omega)⟩
    rw [List.mem_eraseDups] at z
    have := (List.mem_filter.mp z).2
    simp at this
theorem mapInj_nodup {α β : Type} {f : α → β} (gf : ∀ a b, f a = f b → a = b) : ∀ {l : List α}, l.Nodup → (l.map f).Nodup
  | [], _ => List.nodup_nil
  | a :: l, h => by
    rw [List.nodup_cons] at h
    (rw [List.map_cons, List.nodup_cons])
    refine ⟨fun z => ?_, mapInj_nodup gf h.2⟩
    obtain ⟨b, hb, e⟩ := List.mem_map.mp z
    exact h.1 (by rw [← gf _ _ e]; exact hb)
theorem sz_dups {ls : List (List Nat)} {ks L : List (Addr × List Int)} (gk : ks.map (·.2) = ls.map fun l => l.map fun (n : Nat) => (n : Int)) (nd : (L.map (·.2)).Nodup) (sub : ∀ p ∈ L, p ∈ ks) (all : ∀ p ∈ ks, p.2 ∈ L.map (·.2)) : L.length = ls.eraseDups.length := by
  have e1 : L.length = (L.map (·.2)).length := by rw [List.length_map]
  have e2 : ls.eraseDups.length = (ls.eraseDups.map fun l => l.map fun (n : Nat) => (n : Int)).length := by rw [List.length_map]
  rw [e1, e2]
  refine List.Perm.length_eq ((List.perm_ext_iff_of_nodup nd (mapInj_nodup (fun a b => castL_inj) (dupsL_nodup _ _ (Nat.le_refl _)))).mpr fun x => ?_)
  have e3 : x ∈ (ls.eraseDups.map fun l => l.map fun (n : Nat) => (n : Int)) ↔ x ∈ ks.map (·.2) := by
    rw [gk, List.mem_map, List.mem_map]
    constructor
    · rintro ⟨l, h1, h2⟩
      exact ⟨l, List.mem_eraseDups.mp h1, h2⟩
    · rintro ⟨l, h1, h2⟩
      exact ⟨l, List.mem_eraseDups.mpr h1, h2⟩
  refine Iff.trans ?_ e3.symm
  constructor
  · intro h
    (obtain ⟨p, hp, e⟩ := List.mem_map.mp h)
    exact List.mem_map.mpr ⟨p, sub p hp, e⟩
  · intro h
    (obtain ⟨p, hp, e⟩ := List.mem_map.mp h)
    rw [← e]; exact all p hp
theorem szl_le {α : Type} [BEq α] [LawfulBEq α] : ∀ (n : Nat) (l : List α), l.length ≤ n → l.eraseDups.length ≤ l.length
  | _, [], _ => Nat.le_refl _
  | 0, a :: l, h => by simp at h
  | n + 1, a :: l, h => by
    rw [List.eraseDups_cons, List.length_cons, List.length_cons]
    have h1 := List.length_filter_le (fun b => !b == a) l
    have h2 := szl_le n (l.filter fun b => !b == a) (by simp at h; omega)
    omega
theorem sz_le (ls : List (List Nat)) : ls.eraseDups.length ≤ ls.length := szl_le _ _ (Nat.le_refl _)
theorem nats_vs {l : List Nat} {xs : List V} {H : Hp} (h : AllP (l.map fun (n : Nat) => isI (n : Int)) xs H) : xs = (l.map fun (n : Nat) => (n : Int)).map V.int := by
  refine ints_vs (H := H) ?_
  rw [List.map_map]; exact h
theorem tups_at : ∀ {ls : List (List Nat)} {xs : List V} {H : Hp}, AllP (ls.map fun l => isT (l.map fun (n : Nat) => isI (n : Int))) xs H → ∃ ks : List (Addr × List Int), xs = ks.map (fun p => V.ref p.1) ∧ (ks.map (·.2) = ls.map fun l => l.map fun (n : Nat) => (n : Int)) ∧ ∀ p ∈ ks, H p.1 = some (.tup (p.2.map V.int))
  | [], _, _, .nil => ⟨[], rfl, rfl, fun p hp => (by cases hp)⟩
  | l :: ls, _, _, .cons r t => by
    obtain ⟨ks, e1, e2, e3⟩ := tups_at t
    obtain ⟨a, xs, e4, e5, e6⟩ := r
    refine ⟨(a, l.map fun (n : Nat) => (n : Int)) :: ks, ?_, ?_, fun p hp => ?_⟩
    · rw [e1, e4]; rfl
    · rw [List.map_cons, List.map_cons, e2]
    · rcases List.mem_cons.mp hp with z | z
      · rw [z, e5, nats_vs e6]
      · exact e3 p z
end Q
/-! sorted(set(..)) of ints; len(set(..)) of tuples. -/
namespace Q
open PySem PySem.Spec PyProof.Rows L2 Pt
/-- in order, each once -/
def SortedOf (ns ms : List Int) : Prop := ms.Pairwise (· < ·) ∧ ∀ k, k ∈ ms ↔ k ∈ ns
section
variable {X : Cx} {fr : Prop} {A A1 : As} {e : Expr} {pos p p1 p2 p3 : Pos}
theorem e_sortedSet {ns ms : List Int} (hc : X.calm = true) (hm : X.mg "sorted" = none) (hm2 : X.mg "set" = none) (h : Je fr X A e (isL (ns.map fun i => isI i)) A1) (hn : ns.length < 60) (hs : SortedOf ns ms) (hg : Gl X "sorted" := by rfl) (hg2 : Gl X "set" := by rfl) (he : starEach [e] X.env = (false, eval e X.env) :: starEach [] X.env := by rfl) : Je fr X A (.Call (.Name "sorted" p) [.Call (.Name "set" p1) [e] [] p2] [] pos) (isL (ms.map fun i => isI i)) A1 :=
  e_sortI hc hm (e_setI hc hm2 h (by omega) hg2 he) hn hs hg
theorem e_lenSet {ls : List (List Nat)} (hc : X.calm = true) {m : Nat} (hr : Room m X.A) (hm : X.mg "len" = none) (hm2 : X.mg "set" = none) (h : Je fr X A e (isL (ls.map fun l => isT (l.map fun (n : Nat) => isI (n : Int)))) A1) (hn : ls.length < 1000) (hg : Gl X "len" := by rfl) (hg2 : Gl X "set" := by rfl) (he : starEach [e] X.env = (false, eval e X.env) :: starEach [] X.env := by rfl) : Je fr X A (.Call (.Name "len" p) [.Call (.Name "set" p1) [e] [] p2] [] pos) (isI ((ls.eraseDups.length : Nat) : Int)) A1 :=
  e_callB cr_lenSz hm (a_one (e_callTy (R := isSz ls.eraseDups.length) (cr_setTL hc (by have := hr.units; omega)) hm2 (a_one h he) (fun vs G H Q s r z => by
    obtain ⟨v, rfl, l, xs, rfl, e2, e3⟩ := paired_one r
    obtain ⟨ks, e4, e5, e6⟩ := tups_at e3
    rw [e4] at e2
    have hl : ks.length = ls.length := by
      have := congrArg List.length e5
      rw [List.length_map, List.length_map] at this
      exact this
    refine ⟨l, ks, rfl, SqL.of (s _ _ e2), fun p hp => SqT.of (s _ _ (e6 p hp)), by omega, fun a L ha nd sub all => ?_⟩
    rw [sz_dups e5 nd sub all]
    exact z _ _ _ (Gw.new s ha) ⟨a, rfl, upd_same⟩) (by decide +kernel) hg2 (by decide) (by decide) he)) (fun vs G H Q s r z => by
    obtain ⟨v, rfl, a, rfl, e2⟩ := paired_one r
    have hle : ls.eraseDups.length ≤ ls.length := sz_le ls
    exact ⟨a, _, rfl, s _ _ e2, by omega, z _ _ _ (Gw.refl s) rfl⟩) (by decide +kernel) hg (by decide) (by decide)
end
end Q
/-! Tables packed. -/
namespace Q
open PySem PySem.Spec PyProof.Rows L2 Pt
open VahypBase (Bytes)
open Vahypa (Pat)
open Vahypd (Node Table build firstSigns behind endsHere)
abbrev entP (e : Vahypd.Entry) : VP := isT [natsP e.1, natsP e.2]
def kidD (x : Nat × Nat) : PyData := .tuple [numD x.1, numD x.2]
def kidsD (l : List (Nat × Nat)) : PyData := .tuple (l.map kidD)
def nodD (n : Node) : PyData := .tuple [optD n.out, kidsD n.kids]
theorem eqv_two (a b c d : PyData) : PyData.eqv (.tuple [a, b]) (.tuple [c, d]) = (PyData.eqv a c && PyData.eqv b d) := by
  show PyData.eqvAll [a, b] [c, d] = _
  rw [eqv_cons, eqv_cons]
  show (_ && (_ && PyData.eqvAll [] [])) = _
  have : PyData.eqvAll [] [] = true := by rw [PyData.eqvAll]
  rw [this, Bool.and_true]
theorem eqv_kid (a b : Nat × Nat) : PyData.eqv (kidD a) (kidD b) = decide (a = b) := by
  unfold kidD
  rw [eqv_two, eqv_num, eqv_num, Bool.eq_iff_iff]
  (simp only [Bool.and_eq_true, decide_eq_true_eq])
  exact (Prod.ext_iff).symm
theorem eqv_kids (l m : List (Nat × Nat)) : PyData.eqv (kidsD l) (kidsD m) = decide (l = m) := eqv_map eqv_kid l m
theorem eqv_nod (a b : Node) : PyData.eqv (nodD a) (nodD b) = decide (a = b) := by
  unfold nodD
  rw [eqv_two, eqv_opt, eqv_kids, Bool.eq_iff_iff]
  (simp only [Bool.and_eq_true, decide_eq_true_eq])
  obtain ⟨a1, a2⟩ := a
  obtain ⟨b1, b2⟩ := b
  simp
theorem sh_kid (x : Nat × Nat) : Sh 1 (kidD x) := sh_tup fun d h => by
  (rcases List.mem_cons.mp h with rfl | h)
  · exact sh_num _
  · rw [List.mem_singleton.mp h]; exact sh_num _
theorem sh_kids (l : List (Nat × Nat)) : Sh 2 (kidsD l) := sh_tup (sh_map sh_kid l)
theorem sh_nod (n : Node) : Sh 3 (nodD n) := sh_tup fun d h => by
  (rcases List.mem_cons.mp h with rfl | h)
  · exact (sh_opt _).up (by decide)
  · rw [List.mem_singleton.mp h]; exact sh_kids _
section
variable {base : Heap} {P : Program} {w : World} {K : PySem.W.Frag} {mg : Str → Option Value}
theorem dp_kid {x : Nat × Nat} : DPc K (kidP x) (kidD x) := dp_T (.cons dp_nat (.cons dp_nat .nil))
theorem dp_kids {l : List (Nat × Nat)} : DPc K (kidsP l) (kidsD l) := dp_T (dps_map (fun _ => dp_kid) l)
theorem dp_nod {n : Node} : DPc K (nodP n) (nodD n) := dp_T (.cons dp_opt (.cons dp_kids .nil))
theorem dps_nods (t : Table) : DPs K (t.map nodP) (t.map nodD) := dps_map (fun _ => dp_nod) t
theorem sh_nods (t : Table) : SeqAt.shaped (.list (t.map nodD)) = true := (sh_lst (n := 3) (sh_map sh_nod t)).ok (by decide)
/-- the place of the first that is the same -/
theorem find_first {t : Table} {n : Node} (h : n ∈ t) : ∃ j, t.findIdx? (fun m => m == n) = some j ∧ (t.map nodD)[j]? = some (nodD n) ∧ ∀ (m : Nat) (z' : PyData), m < j → (t.map nodD)[m]? = some z' → PyData.eqv z' (nodD n) = false := by
  cases q : t.findIdx? (fun m => m == n) with
  | none =>
    rw [List.findIdx?_eq_none_iff] at q
    have := q n h
    simp at this
  | some j =>
    rw [List.findIdx?_eq_some_iff_getElem] at q
    obtain ⟨hj, e, lt⟩ := q
    have ej : t[j] = n := by simpa using e
    refine ⟨j, rfl, by rw [List.getElem?_map, List.getElem?_eq_getElem hj, ej]; rfl, fun m z' hm hz => ?_⟩
    rw [List.getElem?_map, List.getElem?_eq_getElem (by omega)] at hz
    have ez : nodD t[m] = z' := Option.some.inj hz
    rw [← ez, eqv_nod]
    have := lt m hm
    simpa using this
theorem put_in {t : Table} {n : Node} {j : Nat} (h : t.findIdx? (fun m => m == n) = some j) : Vahypd.put t n = (t, j) := by
  unfold Vahypd.put
  rw [h]
theorem put_new {t : Table} {n : Node} (h : n ∉ t) : Vahypd.put t n = (t ++ [n], t.length) := by
  unfold Vahypd.put
  have : t.findIdx? (fun m => m == n) = none := by
    rw [List.findIdx?_eq_none_iff]
    intro x hx
    cases q : x == n with
    | false => rfl
    | true =>
      have : x = n := by simpa using q
      rw [this] at hx; exact absurd hx h
  rw [this]
theorem find_new {t : Table} {n : Node} (h : n ∉ t) : (t ++ [n]).findIdx? (fun m => m == n) = some t.length := by
  rw [List.findIdx?_eq_some_iff_getElem]
  refine ⟨by simp, by simp, fun j hj => ?_⟩
  rw [List.getElem_append_left hj]
  intro q
  have : t[j] = n := by simpa using q
  exact h (by rw [← this]; exact List.getElem_mem _)
theorem anyE (t : Table) (n : Node) : ((t.map nodD).any fun z => PyData.eqv z (nodD n)) = decide (n ∈ t) := any_mem nodD eqv_nod n t
abbrev sp_num (K : PySem.W.Frag) : Sp := pSp (fun z : Table × Node => z.1.length ≤ 1000) (He.ga K "Packer") "nodes" (fun z => z.1.map nodP) (fun z => [nodP z.2]) (fun z => (Vahypd.put z.1 z.2).1.map nodP) (fun z => natP (Vahypd.put z.1 z.2).2)
theorem km_num (T : Txt K mg) : Km P w K mg base CX0 1 (He.ga K "Packer") "number_of" ["self", "node"] (sp_num K) :=
  km_of T.me_Packer_number_of (fn_pk0 T.df_Packer_number_of (fun _ => rfl) fun cdv A outer s H E z G a dx l hz sG hr => by
    obtain ⟨t, n⟩ := z
    have ht : t.length ≤ 1000 := hz
    by_cases hn : n ∈ t
    · obtain ⟨j, e1, e2, e3⟩ := find_first hn
      refine b_cons (M := Ga (Bs.mk2 G H a dx l) [.pk (He.ga K "Packer") "nodes" (t.map nodP), .val (nodP n)]) (s_if (t_pkNotIn 0 hr (e_v 1 rfl) rfl T.cl_Packer T.na_Packer_nodes dp_nod (dps_nods t) ((sh_nod n).ok (by decide)) (sh_nods t) (anyE t n)) (fun h => by rw [decide_eq_true hn] at h; cases h) (fun _ => b_nil .refl)) ?_
      refine b_one (s_retPk (Ps := (Vahypd.put t n).1.map nodP) (post := natP (Vahypd.put t n).2) (e_cast (e_pkIndex 0 hr rfl rfl T.cl_Packer T.na_Packer_nodes (e_v 1 rfl) dp_nod (dps_nods t) ((sh_nod n).ok (by decide)) (sh_nods t) e2 (by rw [eqv_nod]; exact decide_eq_true rfl) e3) ?_) ?_)
      · rw [put_in e1]
      · rw [put_in e1]; rfl
    · have hm : n ∈ t ++ [n] := by simp
      obtain ⟨j, e1, e2, e3⟩ := find_first hm
      have ej : j = t.length := by
        have := find_new hn
        rw [e1] at this; exact Option.some.inj this
      refine b_cons (M := Ga (Bs.mk2 G H a dx l) [.pk (He.ga K "Packer") "nodes" ((t ++ [n]).map nodP), .val (nodP n)]) (s_if (t_pkNotIn 0 hr (e_v 1 rfl) rfl T.cl_Packer T.na_Packer_nodes dp_nod (dps_nods t) ((sh_nod n).ok (by decide)) (sh_nods t) (anyE t n)) (fun _ => b_one (s_post (s_pkAppend 0 (Ps := t.map nodP) rfl rfl T.cl_Packer T.na_Packer_nodes (e_v 1 rfl) ?_) (ga_le' (.cons (.inl ?_) (.cons .rfl' .nil))))) (fun h => by rw [decide_eq_false hn] at h; cases h)) ?_
      · rw [List.length_map, line_eq]; omega
      · rw [List.map_append]; rfl
      refine b_one (s_retPk (Ps := (Vahypd.put t n).1.map nodP) (post := natP (Vahypd.put t n).2) (e_cast (e_pkIndex 0 hr rfl rfl T.cl_Packer T.na_Packer_nodes (e_v 1 rfl) dp_nod (dps_nods (t ++ [n])) ((sh_nod n).ok (by decide)) (sh_nods (t ++ [n])) e2 (by rw [eqv_nod]; exact decide_eq_true rfl) e3) ?_) ?_)
      · rw [put_new hn, ej]
      · rw [put_new hn]; rfl)
end
end Q
/-! First signs, what stands behind them. -/
namespace Q
open Vahypd (Node Table build firstSigns behind endsHere into plainBy)
abbrev Ents := List Vahypd.Entry
theorem into_mem (k j : Nat) : ∀ l : List Nat, j ∈ into k l ↔ j = k ∨ j ∈ l
  | [] => by show j ∈ [k] ↔ _; simp
  | a :: r => by
    show j ∈ (if a < k then a :: into k r else if a = k then a :: r else k :: a :: r) ↔ _
    split
    · rw [List.mem_cons, into_mem k j r, List.mem_cons]
      constructor
      · rintro (h | h | h)
        · exact .inr (.inl h)
        · exact .inl h
        · exact .inr (.inr h)
      · rintro (h | h | h)
        · exact .inr (.inl h)
        · exact .inl h
        · exact .inr (.inr h)
    · split
      · rename_i h1 h2
        subst h2
        simp
      · simp
theorem into_sorted (k : Nat) : ∀ l : List Nat, l.Pairwise (· < ·) → (into k l).Pairwise (· < ·)
  | [], _ => List.pairwise_singleton _ _
  | a :: r, h => by
    show (if a < k then a :: into k r else if a = k then a :: r else k :: a :: r).Pairwise (· < ·)
    (have h' := List.pairwise_cons.mp h)
    split
    · rename_i h1
      refine List.pairwise_cons.mpr ⟨fun j hj => ?_, into_sorted k r h'.2⟩
      rcases (into_mem k j r).mp hj with rfl | hj
      · exact h1
      · exact h'.1 j hj
    · split
      · exact h
      · rename_i h1 h2
        refine List.pairwise_cons.mpr ⟨fun j hj => ?_, h⟩
        rcases List.mem_cons.mp hj with rfl | hj
        · omega
        · have := h'.1 j hj
          omega
theorem first_fold (es : Ents) : ∀ l : List Nat, l.Pairwise (· < ·) → (es.foldl (fun l e => match e.1 with
    | s :: _ => into s l
    | [] => l) l).Pairwise (· < ·) ∧ ∀ k, k ∈ (es.foldl (fun l e => match e.1 with
    | s :: _ => into s l
    | [] => l) l) ↔ k ∈ l ∨ ∃ e ∈ es, e.1.head? = some k := by
  induction es with
  | nil => intro l h; exact ⟨h, fun k => by simp⟩
  | cons e r ih =>
    intro l h
    rw [List.foldl_cons]
    obtain ⟨s, d⟩ := e
    cases s with
    | nil =>
      obtain ⟨h1, h2⟩ := ih l h
      refine ⟨h1, fun k => (h2 k).trans ?_⟩
      simp
    | cons s t =>
      obtain ⟨h1, h2⟩ := ih (into s l) (into_sorted s l h)
      refine ⟨h1, fun k => (h2 k).trans ?_⟩
      rw [into_mem]
      constructor
      · rintro ((h | h) | ⟨e, he, h⟩)
        · exact .inr ⟨_, List.mem_cons_self .., by rw [h]; rfl⟩
        · exact .inl h
        · exact .inr ⟨e, List.mem_cons_of_mem _ he, h⟩
      · rintro (h | ⟨e, he, h⟩)
        · exact .inl (.inr h)
        · (rcases List.mem_cons.mp he with rfl | he)
          · exact .inl (.inl (Option.some.inj h).symm)
          · exact .inr ⟨e, he, h⟩
theorem first_sorted (es : Ents) : (firstSigns es).Pairwise (· < ·) := (first_fold es [] .nil).1
theorem first_mem (es : Ents) (k : Nat) : k ∈ firstSigns es ↔ ∃ e ∈ es, e.1.head? = some k := ((first_fold es [] .nil).2 k).trans (by simp)
theorem behind_eq (es : Ents) (s : Nat) : behind es s = (es.filter fun e => decide (e.1.take 1 = [s])).map fun e => (e.1.drop 1, e.2) := by
  unfold behind
  induction es with
  | nil => rfl
  | cons e r ih =>
    obtain ⟨l, d⟩ := e
    rw [List.filterMap_cons, List.filter_cons]
    cases l with
    | nil =>
      dsimp only
      rw [ih, if_neg (by simp)]
    | cons z t =>
      dsimp only
      by_cases hz : z = s
      · subst hz
        rw [if_pos rfl, if_pos (by simp), List.map_cons, ih]; rfl
      · rw [if_neg hz, if_neg (by simpa using hz), ih]
theorem behind_len (es : Ents) (s : Nat) : (behind es s).length ≤ es.length := by
  rw [behind_eq, List.length_map]
  exact List.length_filter_le _ _
theorem behind_short {es : Ents} {s f : Nat} (h : ∀ e ∈ es, e.1.length ≤ f + 1) : ∀ e ∈ behind es s, e.1.length ≤ f := fun e he => by
  rw [behind_eq, List.mem_map] at he
  obtain ⟨e', he', rfl⟩ := he
  have := h e' (List.mem_filter.mp he').1
  rw [List.length_drop]; omega
theorem ends_eq (es : Ents) : endsHere es = ((es.filter fun e => decide (e.1 = [])).map fun e => e.2).head? := by
  unfold endsHere
  induction es with
  | nil => rfl
  | cons e r ih =>
    rw [List.find?_cons, List.filter_cons]
    cases h : e.1 with
    | nil =>
      rw [if_pos (by simp)]
      rfl
    | cons a l =>
      rw [if_neg (by simp)]
      exact ih
/-- a step of the loop over signs -/
def bstep (f : Nat) (es : Ents) (x : Table × List (Nat × Nat)) (s : Nat) : Table × List (Nat × Nat) := ((build f (behind es s) x.1).1, x.2 ++ [(s, (build f (behind es s) x.1).2)])
theorem build_succ (f : Nat) (es : Ents) (t : Table) : build (f + 1) es t = Vahypd.put ((firstSigns es).foldl (bstep f es) (t, [])).1 ⟨endsHere es, ((firstSigns es).foldl (bstep f es) (t, [])).2⟩ := rfl
theorem put_len (t : Table) (n : Node) : (Vahypd.put t n).1.length ≤ t.length + 1 := by
  unfold Vahypd.put
  cases t.findIdx? (fun m => m == n) with
  | none => simp
  | some k => simp
theorem build_len : ∀ (f : Nat) (es : Ents) (t : Table), (build f es t).1.length ≤ t.length + plainBy f es
  | 0, es, t => put_len t _
  | f + 1, es, t => by
    rw [build_succ]
    have key : ∀ (fs : List Nat) (x : Table × List (Nat × Nat)), (fs.foldl (bstep f es) x).1.length ≤ x.1.length + (fs.map fun s => plainBy f (behind es s)).sum := by
      intro fs
      induction fs with
      | nil => intro x; exact Nat.le_refl _
      | cons s r ih =>
        intro x
        rw [List.foldl_cons, List.map_cons, List.sum_cons]
        have h1 := ih (bstep f es x s)
        have h2 : (bstep f es x s).1.length ≤ x.1.length + plainBy f (behind es s) := build_len f (behind es s) x.1
        omega
    have h1 : ((firstSigns es).foldl (bstep f es) (t, [])).1.length ≤ t.length + ((firstSigns es).map fun s => plainBy f (behind es s)).sum := key (firstSigns es) (t, [])
    have h2 := put_len ((firstSigns es).foldl (bstep f es) (t, [])).1 ⟨endsHere es, ((firstSigns es).foldl (bstep f es) (t, [])).2⟩
    have h3 : plainBy (f + 1) es = ((firstSigns es).map fun s => plainBy f (behind es s)).sum + 1 := rfl
    omega
theorem fold_len (f : Nat) (es : Ents) (t : Table) (i : Nat) : (((firstSigns es).take i).foldl (bstep f es) (t, [])).1.length ≤ t.length + (((firstSigns es).take i).map fun s => plainBy f (behind es s)).sum := by
  have key : ∀ (fs : List Nat) (x : Table × List (Nat × Nat)), (fs.foldl (bstep f es) x).1.length ≤ x.1.length + (fs.map fun s => plainBy f (behind es s)).sum := by
    intro fs
    induction fs with
    | nil => intro x; exact Nat.le_refl _
    | cons s r ih =>
      intro x
      rw [List.foldl_cons, List.map_cons, List.sum_cons]
      have h1 := ih (bstep f es x s)
      have h2 : (bstep f es x s).1.length ≤ x.1.length + plainBy f (behind es s) := build_len f (behind es s) x.1
      omega
  exact key _ _
theorem sum_take_le {l : List Nat} {i s : Nat} (g : Nat → Nat) (h : l[i]? = some s) : ((l.take i).map g).sum + g s ≤ (l.map g).sum := by
  have e : l = l.take i ++ s :: l.drop (i + 1) := by
    (obtain ⟨hi, e⟩ := List.getElem?_eq_some_iff.mp h)
    rw [← e, ← List.drop_eq_getElem_cons hi, List.take_append_drop]
  have e2 := congrArg (fun l => (l.map g).sum) e
  rw [List.map_append, List.map_cons, List.sum_append, List.sum_cons] at e2
  omega
theorem fold_kids (f : Nat) (es : Ents) : ∀ (fs : List Nat) (x : Table × List (Nat × Nat)), (fs.foldl (bstep f es) x).2.length = x.2.length + fs.length
  | [], x => rfl
  | s :: r, x => by
    rw [List.foldl_cons, fold_kids f es r]
    show (x.2 ++ [_]).length + r.length = _
    rw [List.length_append]
    (simp only [List.length_cons, List.length_nil])
    omega
end Q
/-! The node of some entries; the table of patterns. -/
namespace Q
open PySem PySem.Spec PyProof.Rows L2 Pt
open VahypBase (Bytes)
open Vahypa (Pat)
open Vahypd (Node Table build firstSigns behind endsHere plainBy)
abbrev entsP (es : Ents) : VP := isL (es.map entP)
theorem sorted_first (es : Ents) : SortedOf ((es.filter fun e => !decide (e.1 = [])).map fun e => ((e.1.headD 0 : Nat) : Int)) ((firstSigns es).map fun (s : Nat) => (s : Int)) := by
  refine ⟨?_, fun k => ?_⟩
  · rw [List.pairwise_map]
    exact (first_sorted es).imp fun h => by omega
  · rw [List.mem_map, List.mem_map]
    constructor
    · rintro ⟨s, hs, rfl⟩
      obtain ⟨e, he, h⟩ := (first_mem es s).mp hs
      refine ⟨e, List.mem_filter.mpr ⟨he, ?_⟩, ?_⟩
      · cases hl : e.1 with
        | nil => rw [hl] at h; cases h
        | cons a l => simp
      · cases hl : e.1 with
        | nil => rw [hl] at h; cases h
        | cons a l => rw [hl] at h; cases h; rfl
    · rintro ⟨e, he, rfl⟩
      obtain ⟨he, hn⟩ := List.mem_filter.mp he
      refine ⟨e.1.headD 0, (first_mem es _).mpr ⟨e, he, ?_⟩, rfl⟩
      cases hl : e.1 with
      | nil => rw [hl] at hn; simp at hn
      | cons a l => rfl
section
variable {base : Heap} {P : Program} {w : World} {K : PySem.W.Frag} {mg : Str → Option Value}
abbrev sp_nodeof (K : PySem.W.Frag) (f : Nat) : Sp := pSp (fun z : Table × Ents => z.1.length + plainBy f z.2 ≤ 1000 ∧ z.2.length ≤ 50 ∧ ∀ e ∈ z.2, e.1.length ≤ f) (He.ga K "Packer") "nodes" (fun z => z.1.map nodP) (fun z => [entsP z.2]) (fun z => (build f z.2 z.1).1.map nodP) (fun z => natP (build f z.2 z.1).2)
/-- the end of node_of -/
theorem node_end {cdv : Value} {A : Around} {outer : List Env} {s : Shared} {H G : Hp} {E : XK} {a dx l : Addr} {k : Nat} (T : Txt K mg) (hr : Room k (A.deeper (envOfC d_Packer_node_of.qual d_Packer_node_of.scope s.heap.objs.size (He.ma K (He.ga K "Packer") "node_of") cdv))) (hk : 1 ≤ k) {es : Ents} {t : Table} {ks : List (Nat × Nat)} (ht : t.length ≤ 1000) (hes : es.length ≤ 50) (hks : ks.length ≤ 1000) {st2 st3 : Stmt} (h2 : d_Packer_node_of.body[2]? = some st2) (h3 : d_Packer_node_of.body[3]? = some st3) :
    Jb (cxOf CX0 P w K mg base N_Packer_node_of d_Packer_node_of.qual d_Packer_node_of.scope (He.ma K (He.ga K "Packer") "node_of") cdv A outer s H E).nox (Ga (Bs.mk2 G H a dx l) [.pk (He.ga K "Packer") "nodes" (t.map nodP), .val (entsP es), .own (ks.map kidP), .any, .any, .any, .any, .any]) [st2, st3] ⟨As.no, rtPk (Bs.mk2 G H a dx l) (He.ga K "Packer") "nodes" ((Vahypd.put t ⟨endsHere es, ks⟩).1.map nodP) (natP (Vahypd.put t ⟨endsHere es, ks⟩).2), As.no, As.no⟩ := by
  cases h2
  cases h3
  have eh := ends_eq es
  refine b_cons (s_setLc (own := [("signs", 4), ("digits", 5)]) 7 es entP (fun e => decide (e.1 = [])) (fun e => natsP e.2) sc_Packer_node_of.nd (i_list (e_v 1 rfl)) (blkOk_by (by rfl)) (by rw [line_eq]; omega) (fun _ _ _ _ _ e _ => g_pair 4 5 sc_Packer_node_of.nd) (fun _ _ _ _ _ e _ => ts_one (t_eqD hr (e_v 4 rfl) (e_tup a_nil) dp_nats (dp_T .nil) ((sh_nums _).ok (by decide)) ((sh_nums []).ok (by decide)) (eqv_nums _ []))) (fun _ _ _ _ _ e _ _ => e_v 5 rfl)) ?_
  have hout : ∀ {q : List (List Nat)}, ((es.filter fun e => decide (e.1 = [])).map fun e => e.2) = q → (es.filter fun e => decide (e.1 = [])).map (fun e => natsP e.2) = q.map natsP := fun h => by rw [← h, List.map_map]; rfl
  have own_e : ∀ {q : List (List Nat)}, ((es.filter fun e => decide (e.1 = [])).map fun e => e.2) = q → endsHere es = q.head? := fun h => by rw [eh, h]
  cases hq : ((es.filter fun e => decide (e.1 = [])).map fun e => e.2) with
  | nil =>
    rw [hout hq]
    refine b_one (s_retPk (Ps := (Vahypd.put t ⟨endsHere es, ks⟩).1.map nodP) (post := natP (Vahypd.put t ⟨endsHere es, ks⟩).2) (e_pkMeth 0 (km_num T) T.cl_Packer (hr.mono hk) (t, ⟨endsHere es, ks⟩) ht rfl (a_one (e_tup (a_cons (e_if (P := optP (endsHere es) natsP) (k := false) (t_cast (t_neD (k := true) hr (e_v 7 rfl) (e_lst a_nil) (dp_L .nil) (dp_L .nil) ((sh_lst (n := 0) (l := []) (fun d h => by cases h)).ok (by decide)) ((sh_lst (n := 0) (l := []) (fun d h => by cases h)).ok (by decide)) rfl) rfl) (fun h => by cases h) fun _ => e_cast e_non (by rw [own_e hq]; rfl)) (a_one (e_tupleL T.n_tuple (e_thaw 2 rfl)))))) rfl (by decide +kernel)) rfl)
  | cons v r =>
    rw [hout hq]
    refine b_one (s_retPk (Ps := (Vahypd.put t ⟨endsHere es, ks⟩).1.map nodP) (post := natP (Vahypd.put t ⟨endsHere es, ks⟩).2) (e_pkMeth 0 (km_num T) T.cl_Packer (hr.mono hk) (t, ⟨endsHere es, ks⟩) ht rfl (a_one (e_tup (a_cons (e_if (P := optP (endsHere es) natsP) (k := true) (t_cast (t_neD (k := false) hr (e_v 7 rfl) (e_lst a_nil) (dp_L (dps_map (fun _ => dp_nats) (v :: r))) (dp_L .nil) ((sh_lst (n := 1) (sh_map sh_nums (v :: r))).ok (by decide)) ((sh_lst (n := 0) (l := []) (fun d h => by cases h)).ok (by decide)) rfl) rfl) (fun _ => e_cast (e_ixL (e_v 7 rfl) e_int at_zero) (by rw [own_e hq]; rfl)) fun h => by cases h) (a_one (e_tupleL T.n_tuple (e_thaw 2 rfl)))))) rfl (by decide +kernel)) rfl)

theorem head_at {e : Vahypd.Entry} (h : (!decide (e.1 = [])) = true) : atI (e.1.map natP) 0 = some (natP (e.1.headD 0)) := by
  cases q : e.1 with
  | nil => rw [q] at h; simp at h
  | cons a l => exact at_zero
theorem empty_first {es : Ents} (h : ∀ e ∈ es, e.1.length ≤ 0) : firstSigns es = [] := by
  cases q : firstSigns es with
  | nil => rfl
  | cons s r =>
    exfalso
    have : s ∈ firstSigns es := by rw [q]; exact List.mem_cons_self ..
    obtain ⟨e, he, hs⟩ := (first_mem es s).mp this
    have := h e he
    rw [List.eq_nil_of_length_eq_zero (Nat.le_zero.mp this)] at hs
    cases hs
theorem first_src (es : Ents) : (es.filter fun e => !decide (e.1 = [])).map (fun e => natP (e.1.headD 0)) = ((es.filter fun e => !decide (e.1 = [])).map fun e => ((e.1.headD 0 : Nat) : Int)).map fun i => isI i := by
  rw [List.map_map]; rfl
theorem first_len (es : Ents) (h : es.length ≤ 50) : ((es.filter fun e => !decide (e.1 = [])).map fun e => ((e.1.headD 0 : Nat) : Int)).length < 60 := by
  rw [List.length_map]
  have := List.length_filter_le (fun e : Vahypd.Entry => !decide (e.1 = [])) es
  omega
theorem first_few (es : Ents) : (firstSigns es).length ≤ es.length := by
  have key : ∀ (es : Ents) (l : List Nat), (es.foldl (fun l e => match e.1 with
    | s :: _ => Vahypd.into s l
    | [] => l) l).length ≤ l.length + es.length := by
    intro es
    induction es with
    | nil => intro l; exact Nat.le_refl _
    | cons e r ih =>
      intro l
      rw [List.foldl_cons]
      have il : ∀ (k : Nat) (l : List Nat), (Vahypd.into k l).length ≤ l.length + 1 := by
        intro k l
        induction l with
        | nil => exact Nat.le_refl _
        | cons a t ih2 =>
          show (if a < k then a :: Vahypd.into k t else if a = k then a :: t else k :: a :: t).length ≤ _
          split
          · simp; exact ih2
          · split <;> simp
      obtain ⟨s, d⟩ := e
      cases s with
      | nil =>
        have h0 := ih l
        show (r.foldl _ l).length ≤ _
        rw [List.length_cons]
        omega
      | cons s t =>
        have h1 := ih (Vahypd.into s l)
        have h2 := il s l
        simp only [List.length_cons] at *
        omega
  have h0 := key es []
  rw [List.length_nil, Nat.zero_add] at h0
  exact h0
theorem km_nodeof (T : Txt K mg) : ∀ f : Nat, Km P w K mg base CX0 (f + 2) (He.ga K "Packer") "node_of" ["self", "entries"] (sp_nodeof K f)
  | 0 => km_of T.me_Packer_node_of (fn_pk0 T.df_Packer_node_of (fun _ => rfl) fun cdv A outer s H E z G a dx l hz sG hr => by
    obtain ⟨t, es⟩ := z
    obtain ⟨h1, h2, h3⟩ := hz
    have hes : es.length ≤ 50 := h2
    have hsh : ∀ e ∈ es, e.1.length ≤ 0 := h3
    have ht : t.length ≤ 1000 := by have : t.length + plainBy 0 es ≤ 1000 := h1; omega
    have hf := empty_first hsh
    refine b_cons (s_own 2 sc_Packer_node_of.nd (l_lst a_nil)) ?_
    refine b_cons (M := Ga (Bs.mk2 G H a dx l) [.pk (He.ga K "Packer") "nodes" (t.map nodP), .val (entsP es), .own (([] : List (Nat × Nat)).map kidP), .any, .any, .any, .any, .any]) (s_for (ws := [3]) (Ps := ((firstSigns es).map fun (s : Nat) => (s : Int)).map fun i => isI i) (fun _ => Ga (Bs.mk2 G H a dx l) [.pk (He.ga K "Packer") "nodes" (t.map nodP), .val (entsP es), .own (([] : List (Nat × Nat)).map kidP), .any, .any, .any, .any, .any]) (fun _ => As.no)
      (i_list (e_sortedSet rfl T.n_sorted T.n_set (e_cast (e_lc (own := [("signs", 4), ("digits", 5)]) es entP (fun e => !decide (e.1 = [])) (fun e => natP (e.1.headD 0)) sc_Packer_node_of.nd (i_list (e_v 1 rfl)) (blkOk_by (by rfl)) (by rw [line_eq]; omega) (fun _ _ _ _ _ e _ => g_pair 4 5 sc_Packer_node_of.nd) (fun _ _ _ _ _ e _ => ts_one (t_neD hr (e_v 4 rfl) (e_tup a_nil) dp_nats (dp_T .nil) ((sh_nums _).ok (by decide)) ((sh_nums []).ok (by decide)) (eqv_nums _ []))) (fun _ _ _ _ _ e _ he => e_ixT (e_v 4 rfl) e_int (head_at he))) (congrArg isL (first_src es))) (first_len es hes) (sorted_first es))) .refl (fun i P hP => by rw [hf] at hP; cases hP) (fun i P hP => by rw [hf] at hP; cases hP) .refl) ?_
    exact node_end T hr (by decide) ht hes (Nat.zero_le _) rfl rfl)
  | f + 1 => km_of T.me_Packer_node_of (fn_pk0 T.df_Packer_node_of (fun _ => rfl) fun cdv A outer s H E z G a dx l hz sG hr => by
    obtain ⟨t, es⟩ := z
    obtain ⟨h1, h2, h3⟩ := hz
    have hes : es.length ≤ 50 := h2
    have hsh : ∀ e ∈ es, e.1.length ≤ f + 1 := h3
    have ht : t.length + plainBy (f + 1) es ≤ 1000 := h1
    have pb : plainBy (f + 1) es = ((firstSigns es).map fun s => plainBy f (behind es s)).sum + 1 := rfl
    refine b_cons (s_own 2 sc_Packer_node_of.nd (l_lst a_nil)) ?_
    refine b_cons (M := Ga (Bs.mk2 G H a dx l) [.pk (He.ga K "Packer") "nodes" (((firstSigns es).foldl (bstep f es) (t, [])).1.map nodP), .val (entsP es), .own (((firstSigns es).foldl (bstep f es) (t, [])).2.map kidP), .any, .any, .any, .any, .any]) (s_for (ws := [3]) (Ps := ((firstSigns es).map fun (s : Nat) => (s : Int)).map fun i => isI i) (fun i => Ga (Bs.mk2 G H a dx l) [.pk (He.ga K "Packer") "nodes" ((((firstSigns es).take i).foldl (bstep f es) (t, [])).1.map nodP), .val (entsP es), .own ((((firstSigns es).take i).foldl (bstep f es) (t, [])).2.map kidP), .any, .any, .any, .any, .any])
      (fun i => As.ex fun s : {s : Nat // (firstSigns es)[i]? = some s} => Ga (Bs.mk2 G H a dx l) [.pk (He.ga K "Packer") "nodes" ((((firstSigns es).take i).foldl (bstep f es) (t, [])).1.map nodP), .val (entsP es), .own ((((firstSigns es).take i).foldl (bstep f es) (t, [])).2.map kidP), .val (natP s.1), .any, .any, .any, .any])
      (i_list (e_sortedSet rfl T.n_sorted T.n_set (e_cast (e_lc (own := [("signs", 4), ("digits", 5)]) es entP (fun e => !decide (e.1 = [])) (fun e => natP (e.1.headD 0)) sc_Packer_node_of.nd (i_list (e_v 1 rfl)) (blkOk_by (by rfl)) (by rw [line_eq]; omega) (fun _ _ _ _ _ e _ => g_pair 4 5 sc_Packer_node_of.nd) (fun _ _ _ _ _ e _ => ts_one (t_neD hr (e_v 4 rfl) (e_tup a_nil) dp_nats (dp_T .nil) ((sh_nums _).ok (by decide)) ((sh_nums []).ok (by decide)) (eqv_nums _ []))) (fun _ _ _ _ _ e _ he => e_ixT (e_v 4 rfl) e_int (head_at he))) (congrArg isL (first_src es))) (first_len es hes) (sorted_first es))) .refl ?_ ?_ ?_) ?_
    · intro i P hP
      rw [List.map_map] at hP
      obtain ⟨s, es', rfl⟩ := map_at hP
      exact g_post (g_name 3 sc_Packer_node_of.nd) (le_ex ⟨s, es'⟩ .refl)
    · intro i P hP
      refine b_ex fun ⟨sg, hsg⟩ => ?_
      have hfl := fold_len f es t i
      have hst := sum_take_le (fun s => plainBy f (behind es s)) hsg
      have hnow : (((firstSigns es).take i).foldl (bstep f es) (t, [])).1.length + plainBy f (behind es sg) ≤ 1000 := by
        have e1 : ((firstSigns es).map fun s => plainBy f (behind es s)).sum + 1 + t.length ≤ 1000 := by omega
        have h4 : (((firstSigns es).take i).map fun s => plainBy f (behind es s)).sum + plainBy f (behind es sg) ≤ ((firstSigns es).map fun s => plainBy f (behind es s)).sum := hst
        omega
      refine b_cons (s_setLc (own := [("signs", 4), ("digits", 5)]) 6 es entP (fun e => decide (e.1.take 1 = [sg])) (fun e => entP (e.1.drop 1, e.2)) sc_Packer_node_of.nd (i_list (e_v 1 rfl)) (blkOk_by (by rfl)) (by rw [line_eq]; omega) (fun _ _ _ _ _ e _ => g_pair 4 5 sc_Packer_node_of.nd) (fun _ _ _ _ _ e _ => ts_one (t_eqD hr (e_cast (R := natsP (e.1.take 1)) (e_slT (e_v 4 rfl) o_no (o_at e_int)) (congrArg isT (cut_take (b := 1)))) (e_tup (a_one (e_v 3 rfl))) dp_nats (dp_nats (l := [sg])) ((sh_nums _).ok (by decide)) ((sh_nums [sg]).ok (by decide)) (eqv_nums _ _))) (fun _ _ _ _ _ e _ _ => e_tup (a_cons (e_cast (e_slT (e_v 4 rfl) (o_at e_int) o_no) (congrArg isT cut_drop1)) (a_one (e_v 5 rfl))))) ?_
      refine b_one (s_post (s_append 2 rfl rfl (e_tup (a_cons (e_v 3 rfl) (a_one (e_pkMeth (fr := False) 0 (km_nodeof T f) T.cl_Packer hr ((((firstSigns es).take i).foldl (bstep f es) (t, [])).1, behind es sg) ⟨hnow, Nat.le_trans (behind_len es sg) hes, behind_short hsh⟩ rfl (a_one (e_cast (e_v 6 rfl) ?_)) rfl (by decide +kernel))))) ?_) (ga_le' ?_))
      · show isL _ = isL ((behind es sg).map entP)
        rw [behind_eq, List.map_map]; rfl
      · rw [List.length_map, fold_kids, List.length_take, line_eq]
        have := first_few es
        simp only [List.length_nil]
        omega
      · rw [take_snoc hsg, List.foldl_append]
        refine .cons .rfl' (.cons .rfl' (.cons (.inl ?_) (.cons .any' (.cons .rfl' (.cons .rfl' (.cons .any' (.cons .rfl' .nil)))))))
        generalize ((firstSigns es).take i).foldl (bstep f es) (t, []) = x
        show Sl.own ((x.2 ++ [(sg, (build f (behind es sg) x.1).2)]).map kidP) = _
        rw [List.map_append]; rfl
    · rw [List.length_map, List.length_map, List.take_length]; exact .refl
    · have hfl := fold_len f es t (firstSigns es).length
      rw [List.take_length] at hfl
      refine node_end T hr (by omega) (by omega) hes ?_ rfl rfl
      have e := fold_kids f es (firstSigns es) (t, [])
      have := first_few es
      have e' : ((firstSigns es).foldl (bstep f es) (t, [])).2.length = 0 + (firstSigns es).length := e
      omega)
end
end Q
/-! The table of patterns. -/
namespace Q
open PySem PySem.Spec PyProof.Rows L2 Pt
open VahypBase (Bytes)
open Vahypa (Pat)
open Vahypd (Node Table build firstSigns behind endsHere plainBy)
/-- the packer's __init__ -/
def spPk (C : Addr) : Sp := fun vs H Q _ => ∃ (a dx : Addr), vs = [.ref a] ∧ H a = some (.ins C dx []) ∧ ∀ l, H l = none → Q .non (upd (upd H l (.lst [])) a (.ins C dx [("nodes", .ref l)]))
/-- a packer of ours in slot i, made in this frame -/
def pkA (B : Bs) (i : Nat) (C : Addr) (f : Str) (Ps : List VP) (Γ : List Sl) : As := ⟨fun σ G H => (Ga B Γ).p σ G H ∧ ∃ a dx l xs, σ[i]? = some (some (.ref a)) ∧ G a = none ∧ H a = some (.ins C dx [(f, .ref l)]) ∧ G l = none ∧ H l = some (.lst xs) ∧ B.H0 a = none ∧ B.H0 l = none ∧ AllP Ps xs G,
  fun s h w => ⟨(Ga B Γ).st s h.1 w, let ⟨a, dx, l, xs, e, g1, h1, g2, h2, b1, b2, q⟩ := h.2; ⟨a, dx, l, xs, e, w.n a g1 (by rw [h1]; exact fun z => nomatch z), w.same _ _ h1, w.n l g2 (by rw [h2]; exact fun z => nomatch z), w.same _ _ h2, b1, b2, allP_up w.g q⟩⟩⟩
/-- nothing of ours in the slots -/
def noMine (Γ : List Sl) : Bool := Γ.all fun s => !s.mine
theorem ga_free {B : Bs} {Γ : List Sl} {σ : L2.St} {M : List Addr} {G H G' H' : Hp} (h : (Ga B Γ).p σ G H) (hn : noMine Γ = true) (w : Gw M G H G' H') (hM : ∀ x ∈ M, x ∈ B.M ∨ B.H0 x = none) : (Ga B Γ).p σ G' H' := by
  have nm : ∀ {i : Nat} {s : Sl}, Γ[i]? = some s → s.mine = false := fun e => by
    have := List.all_eq_true.mp hn _ (List.mem_of_getElem? e)
    simpa using this
  refine ⟨h.1.trans' w hM, paired_all h.2.1 fun j s o e1 e2 ok => ?_, fun i j s s' a _ e1 _ m1 _ _ _ => by rw [nm e1] at m1; cases m1⟩
  have m := nm e1
  cases s with
  | any => trivial
  | val P => obtain ⟨v, e, p⟩ := ok; exact ⟨v, e, P.up w.g p⟩
  | own _ => cases m
  | obj _ _ _ => cases m
  | lent _ => cases m
  | pk _ _ _ => cases m
section
variable {base : Heap} {P : Program} {w : World} {K : PySem.W.Frag} {mg : Str → Option Value}
theorem ok_Packer (T : Txt K mg) : ∃ fd, FnOk P w K mg base CX0 1 (He.ma K (He.ga K "Packer") "__init__") fd ["self"] (spPk (He.ga K "Packer")) ∧ Binds K fd ["self"] [] := by
  obtain ⟨fd, F⟩ := T.df_Packer_init.fn
  refine ⟨fd, F.ok sc_Packer_init (fun vs H Q E ⟨a, dx, e, _⟩ => by rw [e]; rfl) (fun cdv A outer s H vs Q E hr ⟨a, dx, e, ha, q⟩ => ?_), F.bindsN T.df_Packer_init.bd⟩
  refine ⟨_, PSs.nox (pss_one (ps_fld (pv 0) (pe_lst pa_nil) rfl)), ?_⟩
  subst e
  refine ⟨by show 0 ≤ sizeLine; decide, fun l hl => ⟨_, rfl, a, He.ga K "Packer", dx, [], rfl, ?_, T.cl_Packer, T.na_Packer_nodes, by decide, q l hl⟩⟩
  have hne : a ≠ l := fun z => by rw [z, hl] at ha; cases ha
  rw [upd_ne hne]; exact ha
end
section
variable {X : Cx} {fr : Prop} {A A' A1 N bk ct : As} {B : Bs} {Γ Γ2 : List Sl} {Ps Rs : List VP} {e a : Expr} {es : List Expr} {pos apos cpos fpos pn p pos' : Pos} {P R post : VP} {rt : V → Hp → Hp → Prop} {x f m y : Str} {C : Addr} {k : Nat} {ps : List Str} {α : Type} {pre : α → Prop} {args ns ns' : α → List VP} {post' : α → VP}
/-- packer = Packer() -/
theorem s_newPk (i : Nat) (T : Txt X.K X.mg) (hr : Room 2 X.A) (hN : X.N.Nodup) (hn : noMine Γ = true) (hiΓ : Γ[i]?.isSome = true) (hi : X.N[i]? = some x := by rfl) (hx : Loc X.env.scope x := by first | exact Or.inl rfl | exact Or.inr rfl) (hs : swapsWith (.Call (.Name "Packer" p) [] [] cpos) (some (.Name x pos')) pos.line X.env = pure false := by rfl) (hf : X.fn x = true ∨ X.env.scope.names.lookup x = some .local := by first | exact .inl rfl | exact .inr rfl) (hg : Gl X "Packer" := by rfl) : Js X (Ga B Γ) (.Assign [.Name x pos'] (.Call (.Name "Packer" p) [] [] cpos) pos) ⟨pkA B i (He.ga X.K "Packer") "nodes" [] (Γ.set i .any), rt, bk, ct⟩ := by
  obtain ⟨fd, F1, hb⟩ := ok_Packer (P := X.prog) (w := X.w) (base := X.base) T
  refine ps_imp (ps_set hN hi hx (pe_make0 T.mk_Packer F1 hr hg T.g_Packer hb .nil pass0 (by decide)) hs hf) fun D σ H ⟨G, s, a, n, r⟩ => ?_
  intro y dx hy hdx ne
  have gy : G y = none := by
    cases e : G y with
    | none => rfl
    | some u => rw [s _ _ e] at hy; cases hy
  refine ⟨y, dx, rfl, upd_same, fun l hl => ⟨rfl, ?_⟩⟩
  have w1 : Gw [] G H G (upd H dx (.own y)) := Gw.own s hdx
  have hy1 : (upd H dx (.own y)) y = none := by rw [upd_ne (Ne.symm ne)]; exact hy
  have w2 : Gw [] G (upd H dx (.own y)) G (upd (upd H dx (.own y)) y (.ins (He.ga X.K "Packer") dx [])) := Gw.own w1.i hy1
  have w3 := Gw.own (M := []) (o := .lst []) w2.i hl
  have hly : y ≠ l := fun z => by rw [← z, upd_same] at hl; cases hl
  have hyl : l ≠ y := Ne.symm hly
  have w4 := Gw.mut (p := y) (o := .ins (He.ga X.K "Packer") dx [("nodes", .ref l)]) w3.i gy
  have wa : Gw [] G H G (upd (upd (upd (upd H dx (.own y)) y (.ins (He.ga X.K "Packer") dx [])) l (.lst [])) y (.ins (He.ga X.K "Packer") dx [("nodes", .ref l)])) := ((w1.trans w2).trans w3).trans' w4 fun u hu => by rw [List.mem_singleton.mp hu]; exact .inr hy
  have gl : G l = none := by
    cases e : G l with
    | none => rfl
    | some u => rw [w2.i _ _ e] at hl; cases hl
  have hl0 : H l = none := by
    cases e : H l with
    | none => rfl
    | some u => exact absurd hl (fun z => (w1.trans w2).t l (by rw [e]; exact fun z => nomatch z) z)
  have a' := ga_free a hn wa fun _ h => absurd h List.not_mem_nil
  refine n _ G _ (Same.refl _) w4.i ⟨ga_set (s := .any) (o := some (.ref y)) a' rfl trivial, y, dx, l, [], ?_, gy, upd_same, gl, by rw [upd_ne hyl]; exact upd_same, base_none a.1 hy, base_none a.1 hl0, .nil⟩
  have hlen : i < σ.length := by
    rw [← Paired.length a.2.1]
    cases q : Γ[i]? with
    | none => rw [q] at hiΓ; cases hiΓ
    | some z => exact (List.getElem?_eq_some_iff.mp q).1
  rw [List.getElem?_set_self hlen]
/-- an evaluation that changes nothing of the packer -/
theorem e_pkA {i : Nat} (h : Je True X (Ga B Γ) e P (Ga B Γ)) : Je False X (pkA B i C f Ps Γ) e P (pkA B i C f Ps Γ) := pe_imp h fun σ H Q ⟨G, s, a, q⟩ => ⟨G, s, a.1, fun v G1 H1 p1 pv => q v G1 H1 ⟨p1.g, p1.i, (pkA B i C f Ps Γ).st s a (p1.f trivial), fun z => z.elim⟩ pv⟩
/-- y = packer.m(e) -/
theorem s_pkCall (i j : Nat) {pl : Sem Bool} (F : Km X.prog X.w X.K X.mg X.base CX0 k C m ps (pSp pre C f ns args ns' post')) (T : Cls X.K C) (hr : Room k X.A) (z : α) (hz : pre z) (hN : X.N.Nodup) (hn : noMine Γ = true) (hij : i ≠ j) (hA : args z = [P]) (hns : ns z = Ps) (ha : Je True X (Ga B Γ) e P (Ga B Γ)) (hl : (f == m) = false) (hNi : X.N[i]? = some x := by rfl) (hv : Vis X.env.scope x := by first | exact Or.inl rfl | exact Or.inr (Or.inl rfl) | exact Or.inr (Or.inr rfl))
    (hd : (x == ("__debug__" : Str)) = false := by decide) (hcd : (x == ("__classdict__" : Str)) = false := by decide) (hst : starEach [e] X.env = (false, eval e X.env) :: starEach [] X.env := by rfl) (hpl : (backTo cpos (starEach [] X.env)).any (·.1) = false := by rfl)
    (hj : X.N[j]? = some y := by rfl) (hx : Loc X.env.scope y := by first | exact Or.inl rfl | exact Or.inr rfl) (hs : swapsWith (.Call (.Attribute (.Name x pn) m apos) [e] [] cpos) (some (.Name y pos')) pos.line X.env = pure false := by rfl) (hf : X.fn y = true ∨ X.env.scope.names.lookup y = some .local := by first | exact .inl rfl | exact .inr rfl)
    (ht : eval (.Call (.Attribute (.Name x pn) m apos) [e] [] cpos) X.env = (do let ov ← eval (.Name x pn) X.env; standAt apos.atName; let (f, first) ← holding [ov] (getMethod ov m pl); callWith cpos f first (backTo cpos (starEach [e] X.env)) (backToKw cpos (keywordEach [] X.env))) := by rfl) :
    Js X (pkA B i C f Ps Γ) (.Assign [.Name y pos'] (.Call (.Attribute (.Name x pn) m apos) [e] [] cpos) pos) ⟨pkA B i C f (ns' z) (Γ.set j (.val (post' z))), rt, bk, ct⟩ := by
  obtain ⟨g, fd, F1, mt, hb⟩ := F.ex
  refine ps_imp (ps_set hN hj hx (pe_meth (pv i hNi hv hd hcd) T mt F1 hr hb .nil pass0 (pa_cons ha pa_nil hst) hst hpl ht) hs hf) fun D σ H ⟨G, s, a, nx, r⟩ => ?_
  obtain ⟨a0, dx, l, xs, e1, g1, h1, g2, h2, b1, b2, q1⟩ := a.2
  have hl2 : List.lookup m [(f, V.ref l)] = none := by
    have hl' : (m == f) = false := by
      cases h : m == f with
      | false => rfl
      | true =>
        have : m = f := by simpa using h
        rw [this] at hl
        simp at hl
    show (match m == f with | true => some (V.ref l) | false => none) = none
    rw [hl']
  refine ⟨_, e1, a0, dx, _, rfl, h1, hl2, G, s, a.1, fun v G1 H1 p1 pv => ?_⟩
  obtain ⟨a0', dx', l', xs', e1', g1', h1', g2', h2', b1', b2', q1'⟩ := ((pkA B i C f Ps Γ).st s a (p1.f trivial)).2
  rw [e1] at e1'
  cases e1'
  have hmm : (HO.ins C dx [(f, V.ref l)]) = HO.ins C dx' [(f, V.ref l')] := by
    have := (p1.f trivial).same _ _ h1
    rw [h1'] at this
    (exact (Option.some.inj this).symm)
  cases hmm
  simp only [tNil, List.append_nil]
  refine ⟨z, G1, a0, dx, l, xs', [v], hz, rfl, p1.i, g1', h1', g2', h2', by rw [hns]; exact q1', by rw [hA]; exact .cons pv .nil, fun u G2 H2 ys w ea el qa pu => ?_⟩
  have a2 := ga_free p1.a hn w fun y hy => by
    (rcases List.mem_cons.mp hy with rfl | hy)
    · exact .inr b1
    · rw [List.mem_singleton.mp hy]; exact .inr b2
  refine nx _ G2 H2 (Same.trans p1.g w.g) w.i ⟨ga_set (s := .val (post' z)) a2 rfl ⟨u, rfl, pu⟩, a0, dx, l, ys, by rw [get_set_ne hij]; exact e1, w.n _ g1' (by rw [h1']; exact fun z => nomatch z), ea, w.n _ g2' (by rw [h2']; exact fun z => nomatch z), el, b1, b2, qa⟩
/-- packer.f, given away -/
theorem e_pkGive (i : Nat) (T : Cls X.K C) (na : NoAttr X.K C f) (hn : noMine Γ = true) (hN : X.N[i]? = some x := by rfl) (hv : Vis X.env.scope x := by first | exact Or.inl rfl | exact Or.inr (Or.inl rfl) | exact Or.inr (Or.inr rfl))
    (hd : (x == ("__debug__" : Str)) = false := by decide) (hcd : (x == ("__classdict__" : Str)) = false := by decide) (hb : attributeBase (.Name x pn) f X.env (eval (.Name x pn) X.env) = eval (.Name x pn) X.env := by rfl) : Je False X (pkA B i C f Ps Γ) (.Attribute (.Name x pn) f pos) (isL Ps) (Ga B Γ) :=
  pe_imp (pe_fld (pv i hN hv hd hcd) hb) fun σ H Q ⟨G, s, a, q⟩ => by
    obtain ⟨a0, dx, l, xs, e1, g1, h1, g2, h2, b1, b2, q1⟩ := a.2
    refine ⟨_, e1, a0, C, dx, _, _, rfl, h1, T, na, lk_one, ?_⟩
    have up : Same G (upd G l (.lst xs)) := fun b o eb => by
      have hb : b ≠ l := fun z => by rw [z, g2] at eb; cases eb
      rw [upd_ne hb]; exact eb
    have sH : Same (upd G l (.lst xs)) H := fun b o eb => by
      by_cases hb : b = l
      · subst hb; rw [upd_same] at eb; rw [← eb]; exact h2
      · rw [upd_ne hb] at eb; exact s _ _ eb
    have nm : ∀ {j : Nat} {s : Sl}, Γ[j]? = some s → s.mine = false := fun e => by
      have := List.all_eq_true.mp hn _ (List.mem_of_getElem? e)
      simpa using this
    refine q _ (upd G l (.lst xs)) H ⟨up, sH, ⟨⟨Same.trans a.1.1.g up, a.1.1.h, sH, fun b h1 h3 => ?_, a.1.1.t⟩, paired_all a.1.2.1 fun j s o e1 e2 ok => ?_, a.1.2.2⟩, fun z => z.elim⟩ ⟨l, xs, rfl, upd_same, allP_up up q1⟩
    · have hb : b ≠ l := fun z => h3 (by rw [z]; exact b2)
      rw [upd_ne hb]; exact a.1.1.n b h1 h3
    · have m := nm e1
      cases s with
      | any => trivial
      | val P => obtain ⟨v, e, p⟩ := ok; exact ⟨v, e, P.up up p⟩
      | own _ => cases m
      | obj _ _ _ => cases m
      | lent _ => cases m
      | pk _ _ _ => cases m
end
/-- each entry has at most one first sign -/
theorem split_sum (es : Ents) : ((firstSigns es).map fun s => 1 + ((behind es s).map fun e => e.1.length).sum).sum ≤ (es.map fun e => e.1.length).sum := by
  have hnd : (firstSigns es).Nodup := (first_sorted es).imp fun h => by omega
  have hne : ∀ s ∈ firstSigns es, ∃ e ∈ es, e.1.head? = some s := fun s hs => (first_mem es s).mp hs
  have key : ∀ (fs : List Nat) (es : Ents), fs.Nodup → (∀ s ∈ fs, ∃ e ∈ es, e.1.head? = some s) → (fs.map fun s => 1 + ((behind es s).map fun e => e.1.length).sum).sum ≤ (es.map fun e => e.1.length).sum := by
    intro fs
    induction fs with
    | nil => intro es _ _; exact Nat.zero_le _
    | cons s r ih =>
      intro es hnd hne
      have hnd' := List.nodup_cons.mp hnd
      -- the entries that begin by s, the others
      have hsp : ∀ es : Ents, (es.map fun e => e.1.length).sum = (((es.filter fun e => decide (e.1.take 1 = [s])).map fun e => e.1.length).sum) + (((es.filter fun e => !decide (e.1.take 1 = [s])).map fun e => e.1.length).sum) := by
        intro es
        induction es with
        | nil => rfl
        | cons e t ih =>
          (rw [List.filter_cons, List.filter_cons])
          by_cases h : e.1.take 1 = [s]
          · simp only [h, decide_true, if_true, Bool.not_true, Bool.false_eq_true, if_false, List.map_cons, List.sum_cons]
            rw [ih]; omega
          · simp only [h, decide_false, Bool.not_false, if_true, Bool.false_eq_true, if_false, List.map_cons, List.sum_cons]
            rw [ih]; omega
      have hb : ∀ s' ∈ r, behind (es.filter fun e => !decide (e.1.take 1 = [s])) s' = behind es s' := by
        intro s' hs'
        have hs2 : s' ≠ s := fun z => hnd'.1 (by rw [← z]; exact hs')
        rw [behind_eq, behind_eq, List.filter_filter]
        congr 1
        apply List.filter_congr
        intro e _
        by_cases h : e.1.take 1 = [s']
        · rw [h]
          simp [hs2]
        · simp [h]
      have hne' : ∀ s' ∈ r, ∃ e ∈ (es.filter fun e => !decide (e.1.take 1 = [s])), e.1.head? = some s' := by
        intro s' hs'
        obtain ⟨e, he, hh⟩ := hne s' (List.mem_cons_of_mem _ hs')
        refine ⟨e, List.mem_filter.mpr ⟨he, ?_⟩, hh⟩
        have hs2 : s' ≠ s := fun z => hnd'.1 (by rw [← z]; exact hs')
        cases q : e.1 with
        | nil => rw [q] at hh; cases hh
        | cons a l =>
          rw [q] at hh
          have : a = s' := Option.some.inj hh
          subst this
          simp [hs2]
      have ih' := ih (es.filter fun e => !decide (e.1.take 1 = [s])) hnd'.2 hne'
      have e1 : (r.map fun s' => 1 + ((behind (es.filter fun e => !decide (e.1.take 1 = [s])) s').map fun e => e.1.length).sum) = r.map fun s' => 1 + ((behind es s').map fun e => e.1.length).sum := List.map_congr_left fun s' hs' => by rw [hb s' hs']
      rw [e1] at ih'
      rw [List.map_cons, List.sum_cons, hsp es]
      -- each of those that begin by s loses one sign, there is one at least
      have h2 : 1 + ((behind es s).map fun e => e.1.length).sum ≤ ((es.filter fun e => decide (e.1.take 1 = [s])).map fun e => e.1.length).sum := by
        rw [behind_eq, List.map_map]
        have hall : ∀ l : Ents, (∀ e ∈ l, e.1.take 1 = [s]) → ((l.map ((fun e => e.1.length) ∘ fun e => ((e.1.drop 1, e.2) : Vahypd.Entry))).sum) + l.length = ((l.map fun e => e.1.length).sum) := by
          intro l
          induction l with
          | nil => intro _; rfl
          | cons e t ih =>
            intro h
            have h1 := h e (List.mem_cons_self ..)
            have h3 := ih fun e' he' => h e' (List.mem_cons_of_mem _ he')
            have h4 : 1 ≤ e.1.length := by
              cases q : e.1 with
              | nil => rw [q] at h1; cases h1
              | cons a l => simp
            simp only [List.map_cons, List.sum_cons, List.length_cons, Function.comp_apply, List.length_drop] at h3 ⊢
            omega
        have h5 := hall (es.filter fun e => decide (e.1.take 1 = [s])) fun e he => by
          have := (List.mem_filter.mp he).2
          simpa using this
        have h6 : 1 ≤ (es.filter fun e => decide (e.1.take 1 = [s])).length := by
          obtain ⟨e, he, hh⟩ := hne s (List.mem_cons_self ..)
          have : e ∈ es.filter fun e => decide (e.1.take 1 = [s]) := List.mem_filter.mpr ⟨he, by
            cases q : e.1 with
            | nil => rw [q] at hh; cases hh
            | cons a l =>
              rw [q] at hh
              have : a = s := Option.some.inj hh
              subst this
              simp⟩
          exact List.length_pos_of_mem this
        rw [← h5]
        generalize ((es.filter fun e => decide (e.1.take 1 = [s])).map ((fun e => e.1.length) ∘ fun e => ((e.1.drop 1, e.2) : Vahypd.Entry))).sum = q
        omega
      omega
  exact key _ es hnd hne
theorem entry_len {p : Pat} (h : p.x.length ≤ 6) : (Vahypd.entryOf p).1.length ≤ 8 := signs_len h
theorem plain_le : ∀ (f : Nat) (es : Ents), plainBy f es ≤ 1 + (es.map fun e => e.1.length).sum
  | 0, es => Nat.le_add_right _ _
  | f + 1, es => by
    have pb : plainBy (f + 1) es = ((firstSigns es).map fun s => plainBy f (behind es s)).sum + 1 := rfl
    have key : ((firstSigns es).map fun s => plainBy f (behind es s)).sum ≤ (es.map fun e => e.1.length).sum := by
      have h1 : ((firstSigns es).map fun s => plainBy f (behind es s)).sum ≤ ((firstSigns es).map fun s => 1 + ((behind es s).map fun e => e.1.length).sum).sum := by
        generalize firstSigns es = fs
        induction fs with
        | nil => exact Nat.le_refl _
        | cons s r ih =>
          rw [List.map_cons, List.map_cons, List.sum_cons, List.sum_cons]
          have := plain_le f (behind es s)
          omega
      refine Nat.le_trans h1 ?_
      exact split_sum es
    omega
section
variable {base : Heap} {P : Program} {w : World} {K : PySem.W.Frag} {mg : Str → Option Value}
abbrev sp_packed (K : PySem.W.Frag) : Sp := fSp (fun ps : List Pat => ps.length ≤ 50 ∧ ∀ p ∈ ps, p.x.length ≤ 6) (fun ps => [patsP K ps]) (fun ps => tabO K (Vahypd.tableOf ps)) fun _ => noX
theorem kn_packed (T : Txt K mg) : Kn P w K mg base CX0 11 "packed" ["patterns"] (sp_packed K) :=
  kn_of T.g_packed (fn_plain0 T.df_packed (fun _ => rfl) fun cdv A outer s H E ps G hz sG hr => by
    have hps : ps.length ≤ 50 := hz.1
    have hx : ∀ p ∈ ps, p.x.length ≤ 6 := hz.2
    have hsum : ((ps.map Vahypd.entryOf).map fun e => e.1.length).sum ≤ 8 * ps.length := by
      clear hps hz
      induction ps with
      | nil => exact Nat.le_refl _
      | cons p r ih =>
        rw [List.map_cons, List.map_cons, List.sum_cons, List.length_cons]
        have h1 := entry_len (hx p (List.mem_cons_self ..))
        have h2 := ih fun q hq => hx q (List.mem_cons_of_mem _ hq)
        omega
    have hpl := plain_le 8 (ps.map Vahypd.entryOf)
    refine b_cons (s_newPk 1 T (hr.mono (by decide)) sc_packed.nd rfl rfl) ?_
    refine b_cons (s_pkCall 1 2 (km_nodeof T 8) T.cl_Packer hr ([], ps.map Vahypd.entryOf) ⟨by show 0 + plainBy 8 (ps.map Vahypd.entryOf) ≤ 1000; omega, by show (ps.map Vahypd.entryOf).length ≤ 50; rw [List.length_map]; exact hps, fun e he => by
        obtain ⟨p, hp, rfl⟩ := List.mem_map.mp he
        exact entry_len (hx p hp)⟩ sc_packed.nd rfl (by decide) rfl rfl (e_cast (e_lc (own := [("one", 3)]) ps (patO K) (fun _ => true) (fun p => entP (Vahypd.entryOf p)) sc_packed.nd (i_list (e_v 0 rfl)) (blkOk_by (by rfl)) (by rw [line_eq]; omega) (fun _ _ _ _ _ p _ => g_name 3 sc_packed.nd) (fun _ _ _ _ _ p _ => ts_nil) (fun _ _ _ _ _ p hp _ => e_tup (a_cons (e_meth0 (km_signs T) T.cl_Pattern (hr.mono (by decide)) p (hx p hp) (e_v 3 rfl) rfl rfl) (a_one (e_fld (e_v 3 rfl) T.cl_Pattern T.na_Pattern_digits rfl))))) ?_) (by decide +kernel)) ?_
    · show isL _ = isL ((ps.map Vahypd.entryOf).map entP)
      rw [filter_yes, List.map_map]; rfl
    · exact b_one (s_retF (e_make (kc_Table T) (hr.mono (by decide)) (Vahypd.tableOf ps) trivial (a_cons (e_pkGive 1 T.cl_Packer T.na_Packer_nodes rfl) (a_one (e_v 2 rfl))))))
end
end Q
/-! Sizes; tables told; nodes kept. -/
namespace Q
open PySem PySem.Spec PyProof.Rows L2 Pt
open VahypBase (Bytes)
open Vahypa (Pat)
open Vahypd (Node Table)
structure TabSz (t : Table) : Prop where
  few : t.length ≤ 1000
  kids : ∀ n ∈ t, n.kids.length ≤ 1000
  outs : ∀ n ∈ t, (n.out.getD []).length ≤ 1000
theorem row_len {n : Node} (h1 : n.kids.length ≤ 1000) (h2 : (n.out.getD []).length ≤ 1000) : (Vahypd.nodeRow n).length ≤ 3003 := by
  obtain ⟨o, l⟩ := n
  have h1' : l.length ≤ 1000 := h1
  rw [nodeRow_eq, List.length_append, List.length_cons, flatMap_len]
  have : (preN o).length ≤ 1002 := by
    cases o with
    | none => exact (by decide : 1 ≤ 1002)
    | some v =>
      have : v.length ≤ 1000 := h2
      show (1 :: v.length :: v).length ≤ 1002
      simp; omega
  omega
theorem rows_len {t : Table} (h : ∀ n ∈ t, (Vahypd.nodeRow n).length ≤ 3003) : (t.flatMap Vahypd.nodeRow).length ≤ 3003 * t.length := by
  induction t with
  | nil => exact Nat.le_refl _
  | cons n r ih =>
    rw [List.flatMap_cons, List.length_append, List.length_cons]
    (have h1 := h n (List.mem_cons_self ..))
    have h2 := ih fun m hm => h m (List.mem_cons_of_mem _ hm)
    omega
section
variable {base : Heap} {P : Program} {w : World} {K : PySem.W.Frag} {mg : Str → Option Value}
theorem kn_table_told (T : Txt K mg) : Kn P w K mg base CX0 2 "table_told" ["table"] (fSp (fun t : Table × Nat => TabSz t.1) (fun t => [tabO K t]) (fun t => isL ((Vahypd.tableRow t).map natP)) fun _ => noX) :=
  kn_of T.g_table_told (fn_plain0 T.df_table_told (fun _ => rfl) fun cdv A outer s H E t G hz sG hr => by
    have S : TabSz t.1 := hz
    have hrow : ∀ n ∈ t.1, (Vahypd.nodeRow n).length ≤ 3003 := fun n hn => row_len (S.kids n hn) (S.outs n hn)
    have hrows := rows_len hrow
    have hfew := S.few
    refine b_cons (s_own 1 sc_table_told.nd (l_lst (a_one (e_cast (R := natP t.1.length) (e_lenL T.n_len (e_fld (e_v 0 rfl) T.cl_Table T.na_Table_nodes rfl)) (by rw [List.length_map]))))) ?_
    refine b_cons (M := Ga (Bs.pl G H) [.val (tabO K t), .own ((t.1.length :: t.1.flatMap Vahypd.nodeRow).map natP), .any]) (s_for (ws := [2]) (fun i => Ga (Bs.pl G H) [.val (tabO K t), .own ((t.1.length :: (t.1.take i).flatMap Vahypd.nodeRow).map natP), .any])
        (fun i => As.ex fun n : {n : Node // t.1[i]? = some n} => Ga (Bs.pl G H) [.val (tabO K t), .own ((t.1.length :: (t.1.take i).flatMap Vahypd.nodeRow).map natP), .val (nodP n.1)])
        (i_list (e_fld (e_v 0 rfl) T.cl_Table T.na_Table_nodes rfl)) .refl ?_ ?_ ?_) ?_
    · intro i P hP
      obtain ⟨n, en, rfl⟩ := map_at hP
      exact g_post (g_name 2 sc_table_told.nd) (le_ex ⟨n, en⟩ .refl)
    · intro i P hP
      refine b_ex fun ⟨n, en⟩ => ?_
      have hn := List.mem_of_getElem? en
      have k1 := S.kids n hn
      have k2 := S.outs n hn
      refine b_one (s_post (s_extend 1 rfl rfl (e_fn (kn_node_told T) hr n ⟨Nat.le_trans k1 (by decide), Nat.le_trans k2 (by decide)⟩ (a_one (e_v 2 rfl))) ?_) (ga_le' (.cons .rfl' (.cons (.inl ?_) (.cons .any' .nil)))))
      · rw [List.length_map, List.length_map, List.length_cons]
        have h1 := rows_len (t := t.1.take i) fun m hm => hrow m (List.mem_of_mem_take hm)
        have h2 := hrow n hn
        rw [List.length_take] at h1
        have h3 : min i t.1.length ≤ t.1.length := Nat.min_le_right _ _
        show _ ≤ sizeLine
        rw [line_eq]
        have h4 : (List.flatMap Vahypd.nodeRow (List.take i t.fst)).length ≤ 3003 * 1000 := Nat.le_trans h1 (by omega)
        omega
      · rw [take_snoc en, List.flatMap_append]
        simp only [List.map_append, List.map_cons, List.flatMap_cons, List.flatMap_nil, List.append_nil]
        rfl
    · rw [List.length_map, List.take_length]; exact .refl
    · refine b_one (s_retP (e_cast (e_cat (e_thaw 1 rfl) (e_lst (a_one (e_fld (e_v 0 rfl) T.cl_Table T.na_Table_first rfl))) ?_) ?_))
      · rw [List.length_map, List.length_cons]
        have h4 : (List.flatMap Vahypd.nodeRow t.fst).length ≤ 3003 * 1000 := Nat.le_trans hrows (by omega)
        show _ + 1 ≤ sizeLine
        rw [line_eq]; omega
      · show isL _ = isL ((t.1.length :: (t.1.flatMap Vahypd.nodeRow ++ [t.2])).map natP)
        rw [List.map_cons, List.map_cons, List.map_append]; rfl)
/-! ### translated, kept -/
def transO (l : List (Nat × Nat)) (ns : List (Option Nat)) : Option (List (Nat × Nat)) := if l.any (fun x => (ns.getD x.2 none).isNone) = true then none else some (l.map fun x => (x.1, (ns.getD x.2 none).getD 0))
abbrev numP' (o : Option Nat) : VP := optP o natP
theorem kn_translated (T : Txt K mg) : Kn P w K mg base CX0 1 "translated" ["edges", "numbers"] (fLSp (fun z : List (Nat × Nat) × List (Option Nat) => z.1.length ≤ 10000 ∧ ∀ x ∈ z.1, x.2 < z.2.length) (fun z => [kidsP z.1]) (fun z => z.2.map numP') (fun z => optP (transO z.1 z.2) kidsP) fun _ => noX) :=
  kn_of T.g_translated (fn_lent0 T.df_translated (fun _ => rfl) fun cdv A outer s H E z G hz sG hr => by
    obtain ⟨l, ns⟩ := z
    have hl : l.length ≤ 10000 := hz.1
    have hx : ∀ x ∈ l, x.2 < ns.length := hz.2
    have hat : ∀ x ∈ l, ns[x.2]? = some (ns.getD x.2 none) := fun x h => by
      rw [List.getD_eq_getElem?_getD, List.getElem?_eq_getElem (hx x h)]; rfl
    refine b_when (k := l.any (fun x => (ns.getD x.2 none).isNone)) (t_cast (t_val (e_any rfl T.n_any (bs := l.map fun x => (ns.getD x.2 none).isNone) (e_cast (e_lc (own := [("sign", 2), ("goal", 3)]) l kidP (fun _ => true) (fun x => isB ((ns.getD x.2 none).isNone)) sc_translated.nd (i_tup (e_v 0 rfl)) (blkOk_by (by rfl)) (by rw [line_eq]; omega) (fun _ _ _ _ _ x _ => g_pair 2 3 sc_translated.nd) (fun _ _ _ _ _ x _ => ts_nil) (fun _ _ _ _ _ x hx' _ => e_isN (e_lentIx 1 rfl rfl (e_v 3 rfl) rfl rfl (at_map (f := numP') (hat x hx'))) (nonP_opt fun _ => nonP_nat) e_non)) ?_))) ?_) (fun h => b_one (s_retP (e_cast e_non ?_))) fun h => b_one (s_retP (e_cast (e_tupleL T.n_tuple (e_lc (own := [("sign", 2), ("goal", 3)]) l kidP (fun _ => true) (fun x => kidP (x.1, (ns.getD x.2 none).getD 0)) sc_translated.nd (i_tup (e_v 0 rfl)) (blkOk_by (by rfl)) (by rw [line_eq]; omega) (fun _ _ _ _ _ x _ => g_pair 2 3 sc_translated.nd) (fun _ _ _ _ _ x _ => ts_nil) (fun _ _ _ _ _ x hx' _ => e_tup (a_cons (e_v 2 rfl) (a_one (e_cast (e_lentIx 1 rfl rfl (e_v 3 rfl) rfl rfl (at_map (f := numP') (hat x hx'))) ?_)))))) ?_))
    · rw [filter_yes, List.map_map]; rfl
    · rw [List.any_map]; rfl
    · show isN = optP (transO l ns) kidsP
      unfold transO
      rw [if_pos h]; rfl
    · cases q : ns.getD x.2 none with
      | some v => rfl
      | none =>
        exfalso
        have : l.any (fun x => (ns.getD x.2 none).isNone) = true := List.any_eq_true.mpr ⟨x, hx', by rw [q]; rfl⟩
        rw [this] at h; cases h
    · rw [filter_yes]
      show _ = optP (transO l ns) kidsP
      unfold transO
      (rw [if_neg (by rw [h]; exact Bool.false_ne_true)])
      show isT _ = isT ((l.map _).map kidP)
      rw [List.map_map]; rfl)
/-- the numbers in the new table -/
def numsOf (new : Table) (old : Table) : List (Option Nat) := old.foldl (fun ns n => ns ++ [(transO n.kids ns).bind fun l => new.findIdx? (fun m => m == ⟨n.out, l⟩)]) []
theorem numsOf_snoc (new old : Table) (n : Node) : numsOf new (old ++ [n]) = numsOf new old ++ [(transO n.kids (numsOf new old)).bind fun l => new.findIdx? (fun m => m == ⟨n.out, l⟩)] := by
  unfold numsOf
  rw [List.foldl_append]; rfl
theorem numsOf_len (new : Table) : ∀ old : Table, (numsOf new old).length = old.length := by
  have key : ∀ (old : Table) (ns : List (Option Nat)), (old.foldl (fun ns (n : Node) => ns ++ [(transO n.kids ns).bind fun l => new.findIdx? (fun m => m == ⟨n.out, l⟩)]) ns).length = ns.length + old.length := by
    intro old
    induction old with
    | nil => intro ns; rfl
    | cons n r ih =>
      intro ns
      rw [List.foldl_cons, ih, List.length_append]
      (simp only [List.length_cons, List.length_nil])
      omega
  intro old
  have := key old []
  rw [List.length_nil, Nat.zero_add] at this
  exact this
def trD (o : Option (List (Nat × Nat))) : PyData := match o with
  | some l => kidsD l
  | none => .none
theorem dp_tr {o : Option (List (Nat × Nat))} : DPc K (optP o kidsP) (trD o) := by
  cases o with
  | none => exact dp_N
  | some l => exact dp_kids
theorem sh_tr (o : Option (List (Nat × Nat))) : Sh 2 (trD o) := by
  cases o with
  | none => exact sh_none.up (by decide)
  | some l => exact sh_kids l
theorem eqv_tr (m : Node) (o : Option (List Nat)) (tr : Option (List (Nat × Nat))) : PyData.eqv (nodD m) (.tuple [optD o, trD tr]) = match tr with
    | some l => decide (m = ⟨o, l⟩)
    | none => false := by
  cases tr with
  | some l => exact eqv_nod m ⟨o, l⟩
  | none =>
    unfold nodD
    rw [eqv_two]
    show (_ && PyData.eqv (.tuple _) .none) = false
    have : PyData.eqv (.tuple (m.kids.map kidD)) .none = false := rfl
    show (_ && PyData.eqv (kidsD m.kids) .none) = false
    unfold kidsD
    rw [this, Bool.and_false]
end
section
variable {X : Cx} {fr : Prop} {A A1 A2 : As} {Ps : List VP} {e o : Expr} {apos cpos : Pos} {P : VP} {d : PyData} {ds : List PyData}
/-- o.index(e), o a list -/
theorem e_index {mm j : Nat} {z : PyData} (hr : Room mm X.A) (ho : Je fr X A o (isL Ps) A1) (he : Je fr X A1 e P A2) (d1 : DPc X.K P d) (d2 : DPs X.K Ps ds) (s1 : SeqAt.shaped d = true) (s2 : SeqAt.shaped (.list ds) = true) (hj : ds[j]? = some z) (hz : PyData.eqv z d = true) (hlt : ∀ (m : Nat) (z' : PyData), m < j → ds[m]? = some z' → PyData.eqv z' d = false)
    (hbase : attributeBase o "index" X.env (eval o X.env) = eval o X.env := by rfl) (hline : (apos.endLine == cpos.line) = true := by rfl)
    (hfew : ((backTo cpos (starEach [e] X.env)).all (fun x => !x.1) && (backToKw cpos (keywordEach [] X.env)).all (fun x => x.1.isSome) && decide ([e].length + ([] : List Keyword).length + (if ([] : List Keyword).isEmpty then 0 else 1) < 30)) = true := by rfl)
    (hs : starEach [e] X.env = (false, eval e X.env) :: starEach [] X.env := by rfl) (hplain : (backTo cpos (starEach [] X.env)).any (·.1) = false := by rfl) :
    Je fr X A (.Call (.Attribute o "index" apos) [e] [] cpos) (natP j) A2 :=
  pe_imp (pe_bm PySem.F.plainAttrs_list PySem.F.slot_list_index PySem.F.type_list_index (mt_indexD (room65 hr)) ho (pa_cons he pa_nil hs) hbase hfew hline hs hplain) fun σ H Q ⟨G, s, a, q⟩ => ⟨G, s, a, fun x G1 H1 p1 ⟨l, xs, e1, e2, e3⟩ => by
    subst e1
    refine ⟨.inl ⟨rfl, xs, SqL.of (p1.i _ _ e2)⟩, G1, p1.i, p1.a, fun v G2 H2 p2 pv => ?_⟩
    exact ⟨l, v, d, ds, j, z, rfl, rfl, dp_L d2 (.ref l) H2 ((isL Ps).up p2.i ⟨l, xs, rfl, p2.g _ _ e2, allP_up p2.g e3⟩), d1 _ _ (P.up p2.i pv), s2, s1, hj, hz, hlt, q _ G2 H2 (p1.trans p2) rfl⟩⟩
end
section
variable {base : Heap} {P : Program} {w : World} {K : PySem.W.Frag} {mg : Str → Option Value}
theorem kn_many_kept (T : Txt K mg) : Kn P w K mg base CX0 2 "many_kept" ["old", "new"] (fSp (fun z : (Table × Nat) × Table × Nat => TabIn z.1) (fun z => [tabO K z.1, tabO K z.2]) (fun z => natP ((numsOf z.2.1 z.1.1).filter fun o => o.isSome).length) fun _ => noX) :=
  kn_of T.g_many_kept (fn_plain0 T.df_many_kept (fun _ => rfl) fun cdv A outer s H E z G hz sG hr => by
    obtain ⟨t, u⟩ := z
    have I : TabIn t := hz
    refine b_cons (s_own 2 sc_many_kept.nd (l_lst a_nil)) ?_
    refine b_cons (M := Ga (Bs.pl G H) [.val (tabO K t), .val (tabO K u), .own ((numsOf u.1 t.1).map numP'), .any, .any, .any, .any]) (s_for (ws := [3, 4]) (fun i => Ga (Bs.pl G H) [.val (tabO K t), .val (tabO K u), .own ((numsOf u.1 (t.1.take i)).map numP'), .any, .any, .any, .any])
        (fun i => As.ex fun n : {n : Node // t.1[i]? = some n} => Ga (Bs.pl G H) [.val (tabO K t), .val (tabO K u), .own ((numsOf u.1 (t.1.take i)).map numP'), .val (optP n.1.out natsP), .val (kidsP n.1.kids), .any, .any])
        (i_list (e_fld (e_v 0 rfl) T.cl_Table T.na_Table_nodes rfl)) .refl ?_ ?_ ?_) ?_
    · intro i P hP
      obtain ⟨n, en, rfl⟩ := map_at hP
      exact g_post (g_pair 3 4 sc_many_kept.nd) (le_ex ⟨n, en⟩ .refl)
    · intro i P hP
      refine b_ex fun ⟨n, en⟩ => ?_
      have hi := (List.getElem?_eq_some_iff.mp en).1
      have hlen : (numsOf u.1 (t.1.take i)).length = i := by rw [numsOf_len, List.length_take]; omega
      refine b_cons (s_set (P := isT [optP n.out natsP, optP (transO n.kids (numsOf u.1 (t.1.take i))) kidsP]) 5 sc_many_kept.nd (e_tup (a_cons (e_v 3 rfl) (a_one (e_fnL 2 (kn_translated T) hr (n.kids, numsOf u.1 (t.1.take i)) ⟨Nat.le_trans (I.thin n (List.mem_of_getElem? en)) (by decide), fun x hx => by show x.2 < (numsOf u.1 (t.1.take i)).length; rw [hlen]; exact I.kids i n en x hx⟩ (e_v 4 rfl) rfl rfl rfl))))) ?_
      have dpn : DPc K (isT [optP n.out natsP, optP (transO n.kids (numsOf u.1 (t.1.take i))) kidsP]) (.tuple [optD n.out, trD (transO n.kids (numsOf u.1 (t.1.take i)))]) := dp_T (.cons dp_opt (.cons dp_tr .nil))
      have shn : SeqAt.shaped (.tuple [optD n.out, trD (transO n.kids (numsOf u.1 (t.1.take i)))]) = true := (sh_tup (n := 2) fun d h => by
        (rcases List.mem_cons.mp h with rfl | h)
        · exact (sh_opt _).up (by decide)
        · rw [List.mem_singleton.mp h]; exact sh_tr _).ok (by decide)
      refine b_one (s_post (s_append 2 (Γ2 := [.val (tabO K t), .val (tabO K u), .own ((numsOf u.1 (t.1.take i)).map numP'), .val (optP n.out natsP), .val (kidsP n.kids), .val (isT [optP n.out natsP, optP (transO n.kids (numsOf u.1 (t.1.take i))) kidsP]), .any]) (Ps := (numsOf u.1 (t.1.take i)).map numP') rfl rfl (P := numP' ((transO n.kids (numsOf u.1 (t.1.take i))).bind fun l => u.1.findIdx? (fun m => m == ⟨n.out, l⟩))) ?_ ?_) (ga_le' (.cons .rfl' (.cons .rfl' (.cons (.inl ?_) (.cons .any' (.cons .any' (.cons .any' (.cons .rfl' .nil)))))))))
      · cases htr : transO n.kids (numsOf u.1 (t.1.take i)) with
        | none =>
          rw [htr] at dpn shn
          refine e_if (k := false) (t_inD hr (e_v 5 rfl) (e_fld (e_v 1 rfl) T.cl_Table T.na_Table_nodes rfl) dpn (dps_nods u.1) shn (sh_nods u.1) ?_) (fun h => by cases h) (fun _ => e_non)
          rw [List.any_map, List.any_eq_false]
          intro m _
          show ¬ PyData.eqv (nodD m) (.tuple [optD n.out, trD none]) = true
          rw [eqv_tr]; exact Bool.false_ne_true
        | some l =>
          rw [htr] at dpn shn
          by_cases hin : (⟨n.out, l⟩ : Node) ∈ u.1
          · obtain ⟨j, f1, f2, f3⟩ := find_first hin
            refine e_if (k := true) (t_inD hr (e_v 5 rfl) (e_fld (e_v 1 rfl) T.cl_Table T.na_Table_nodes rfl) dpn (dps_nods u.1) shn (sh_nods u.1) ?_) (fun _ => e_cast (e_index hr (e_fld (e_v 1 rfl) T.cl_Table T.na_Table_nodes rfl) (e_v 5 rfl) dpn (dps_nods u.1) shn (sh_nods u.1) f2 (by rw [eqv_tr]; exact decide_eq_true rfl) f3) ?_) (fun h => by cases h)
            · rw [List.any_map, List.any_eq_true]
              exact ⟨_, hin, by show PyData.eqv (nodD _) (.tuple [optD n.out, trD (some l)]) = true; rw [eqv_tr]; exact decide_eq_true rfl⟩
            · show natP j = numP' (u.1.findIdx? _)
              rw [f1]; rfl
          · refine e_if (k := false) (t_inD hr (e_v 5 rfl) (e_fld (e_v 1 rfl) T.cl_Table T.na_Table_nodes rfl) dpn (dps_nods u.1) shn (sh_nods u.1) ?_) (fun h => by cases h) (fun _ => e_cast e_non ?_)
            · rw [List.any_map, List.any_eq_false]
              intro m hm
              show ¬ PyData.eqv (nodD m) (.tuple [optD n.out, trD (some l)]) = true
              rw [eqv_tr]
              intro z
              have : m = ⟨n.out, l⟩ := of_decide_eq_true z
              rw [this] at hm; exact hin hm
            · have : u.1.findIdx? (fun m => m == ⟨n.out, l⟩) = none := by
                rw [List.findIdx?_eq_none_iff]
                intro x hx
                cases q : x == (⟨n.out, l⟩ : Node) with
                | false => rfl
                | true =>
                  have : x = ⟨n.out, l⟩ := by simpa using q
                  rw [this] at hx; exact absurd hx hin
              show isN = numP' (u.1.findIdx? _)
              rw [this]; rfl
      · have := I.few
        rw [List.length_map, hlen, line_eq]; omega
      · rw [take_snoc en, numsOf_snoc, List.map_append]; rfl
    · rw [List.length_map, List.take_length]; exact .refl
    · have hlen := numsOf_len u.1 t.1
      have := I.few
      refine b_one (s_retP (e_cast (e_lenL T.n_len (e_lc (own := [("number", 6)]) (numsOf u.1 t.1) numP' (fun o => o.isSome) numP' sc_many_kept.nd (i_list (e_thaw 2 rfl)) (blkOk_by (by rfl)) (by rw [line_eq]; omega) (fun _ _ _ _ _ x _ => g_name 6 sc_many_kept.nd) (fun _ _ _ _ _ x _ => ts_one (t_cast (t_notN (e_v 6 rfl) (nonP_opt fun _ => nonP_nat) e_non) (by cases x <;> rfl))) (fun _ _ _ _ _ x _ _ => e_v 6 rfl))) ?_))
      rw [List.length_map])
end
end Q
/-! How many beginnings; sizes. -/
namespace Q
open PySem PySem.Spec PyProof.Rows L2 Pt
open VahypBase (Bytes)
open Vahypa (Pat)
open Vahypd (Node Table)
def beginsOf (p : Pat) : List (List Nat) := (List.range (Vahypd.signsOf p).length).map fun k => (Vahypd.signsOf p).take (k + 1)
def begins (ps : List Pat) : List (List Nat) := [] :: ps.flatMap beginsOf
theorem begins_len {ps : List Pat} (h : ∀ p ∈ ps, p.x.length ≤ 6) : (ps.flatMap beginsOf).length ≤ 8 * ps.length := by
  induction ps with
  | nil => exact Nat.le_refl _
  | cons p r ih =>
    rw [List.flatMap_cons, List.length_append, List.length_cons]
    have h1 := signs_len (h p (List.mem_cons_self ..))
    have h2 := ih fun q hq => h q (List.mem_cons_of_mem _ hq)
    have h3 : (beginsOf p).length = (Vahypd.signsOf p).length := by unfold beginsOf; rw [List.length_map, List.length_range]
    omega
section
variable {base : Heap} {P : Program} {w : World} {K : PySem.W.Frag} {mg : Str → Option Value}
theorem kn_beginnings (T : Txt K mg) : Kn P w K mg base CX0 2 "beginnings" ["patterns"] (fSp (fun ps : List Pat => ps.length ≤ 50 ∧ ∀ p ∈ ps, p.x.length ≤ 6) (fun ps => [patsP K ps]) (fun ps => natP (begins ps).eraseDups.length) fun _ => noX) :=
  kn_of T.g_beginnings (fn_plain0 T.df_beginnings (fun _ => rfl) fun cdv A outer s H E ps G hz sG hr => by
    have hps : ps.length ≤ 50 := hz.1
    have hx : ∀ p ∈ ps, p.x.length ≤ 6 := hz.2
    have hb := begins_len hx
    refine b_cons (s_own 1 sc_beginnings.nd (l_lst (a_one (e_tup a_nil)))) ?_
    refine b_cons (M := Ga (Bs.pl G H) [.val (patsP K ps), .own ((begins ps).map natsP), .any, .any, .any]) (s_for (ws := [2]) (fun i => Ga (Bs.pl G H) [.val (patsP K ps), .own ((begins (ps.take i)).map natsP), .any, .any, .any])
        (fun i => As.ex fun p : {p : Pat // ps[i]? = some p} => Ga (Bs.pl G H) [.val (patsP K ps), .own ((begins (ps.take i)).map natsP), .val (patO K p.1), .any, .any])
        (i_list (e_v 0 rfl)) .refl ?_ ?_ ?_) ?_
    · intro i P hP
      obtain ⟨p, ep, rfl⟩ := map_at hP
      exact g_post (g_name 2 sc_beginnings.nd) (le_ex ⟨p, ep⟩ .refl)
    · intro i P hP
      refine b_ex fun ⟨p, ep⟩ => ?_
      have hp := List.mem_of_getElem? ep
      have hsl := signs_len (hx p hp)
      refine b_cons (s_set 3 sc_beginnings.nd (e_meth0 (km_signs T) T.cl_Pattern (hr.mono (by decide)) p (hx p hp) (e_v 2 rfl) rfl rfl)) ?_
      refine b_one (s_post (s_extend 1 (Qs := (beginsOf p).map natsP) rfl rfl (e_cast (e_lc (own := [("k", 4)]) (List.range (Vahypd.signsOf p).length) (fun k => isI (1 + (k : Int))) (fun _ => true) (fun k => natsP ((Vahypd.signsOf p).take (k + 1))) sc_beginnings.nd (i_rangeF T.n_range (a_cons e_int (a_one (e_add (e_lenT T.n_len (e_v 3 rfl)) e_int))) (by rw [List.length_map]; omega) (by rw [List.length_map]; omega)) (blkOk_by (by rfl)) (by rw [List.length_range, line_eq]; omega) (fun _ _ _ _ _ k _ => g_name 4 sc_beginnings.nd) (fun _ _ _ _ _ k _ => ts_nil) (fun _ _ _ _ _ k _ _ => e_cast (e_slT (e_v 3 rfl) o_no (o_at (e_v 4 rfl))) ?_)) ?_) ?_) (ga_le' (.cons .rfl' (.cons (.inl ?_) (.cons .any' (.cons .any' (.cons .rfl' .nil)))))))
      · have c := cut_take (l := Vahypd.signsOf p) (f := natP) (b := k + 1)
        rw [show ((k + 1 : Nat) : Int) = 1 + (k : Int) by omega] at c
        exact congrArg isT c
      · rw [filter_yes]
        show isL _ = isL ((beginsOf p).map natsP)
        unfold beginsOf
        rw [List.map_map]; rfl
      · have h1 := begins_len (ps := ps.take i) fun q hq => hx q (List.mem_of_mem_take hq)
        rw [List.length_take] at h1
        have h3 : (beginsOf p).length = (Vahypd.signsOf p).length := by unfold beginsOf; rw [List.length_map, List.length_range]
        rw [List.length_map, List.length_map, h3]
        show (begins (ps.take i)).length + _ ≤ sizeLine
        unfold begins
        rw [List.length_cons, line_eq]
        have : min i ps.length ≤ ps.length := Nat.min_le_right _ _
        have h4 : (List.flatMap beginsOf (List.take i ps)).length ≤ 8 * 50 := Nat.le_trans h1 (by omega)
        omega
      · rw [take_snoc ep]
        unfold begins
        rw [List.flatMap_append]
        simp only [List.map_append, List.map_cons, List.flatMap_cons, List.flatMap_nil, List.append_nil]
        rfl
    · rw [List.length_map, List.take_length]; exact .refl
    · refine b_one (s_retP (e_lenSet (ls := begins ps) rfl hr T.n_len T.n_set (e_thaw 1 rfl) ?_))
      unfold begins
      rw [List.length_cons]; omega)
theorem kn_sizes (T : Txt K mg) : Kn P w K mg base CX0 3 "sizes" ["table", "patterns"] (fSp (fun z : (Table × Nat) × List Pat => z.1.1.length ≤ 1000 ∧ z.2.length ≤ 50 ∧ ∀ p ∈ z.2, p.x.length ≤ 6) (fun z => [tabO K z.1, patsP K z.2]) (fun z => isL ([z.1.1.length, Vahypd.edges z.1.1, Vahypd.outs z.1.1, (begins z.2).eraseDups.length].map natP)) fun _ => noX) :=
  kn_of T.g_sizes (fn_plain0 T.df_sizes (fun _ => rfl) fun cdv A outer s H E z G hz sG hr => by
    obtain ⟨t, ps⟩ := z
    have ht : t.1.length ≤ 1000 := hz.1
    refine b_cons (s_set (P := natP (Vahypd.edges t.1)) 2 sc_sizes.nd (e_cast (e_sum rfl T.n_sum (ns := (t.1.map fun n => n.kids.length).map fun (v : Nat) => (v : Int)) (e_cast (e_lc (own := [("node", 3)]) t.1 nodP (fun _ => true) (fun n => natP n.kids.length) sc_sizes.nd (i_list (e_fld (e_v 0 rfl) T.cl_Table T.na_Table_nodes rfl)) (blkOk_by (by rfl)) (by rw [line_eq]; omega) (fun _ _ _ _ _ n _ => g_name 3 sc_sizes.nd) (fun _ _ _ _ _ n _ => ts_nil) (fun _ _ _ _ _ n _ _ => e_cast (e_lenT T.n_len (e_ixT (Ps := [optP n.out natsP, kidsP n.kids]) (R := kidsP n.kids) (e_v 3 rfl) e_int rfl)) (by rw [List.length_map]))) ?_)) ?_)) ?_
    · rw [filter_yes, List.map_map, List.map_map]; rfl
    · rw [sum_nats]; rfl
    refine b_cons (s_set (P := natP (Vahypd.outs t.1)) 4 sc_sizes.nd (e_cast (e_lenL T.n_len (e_lc (own := [("node", 3)]) t.1 nodP (fun n => n.out.isSome) nodP sc_sizes.nd (i_list (e_fld (e_v 0 rfl) T.cl_Table T.na_Table_nodes rfl)) (blkOk_by (by rfl)) (by rw [line_eq]; omega) (fun _ _ _ _ _ n _ => g_name 3 sc_sizes.nd) (fun _ _ _ _ _ n _ => ts_one (t_cast (t_notN (e_ixT (Ps := [optP n.out natsP, kidsP n.kids]) (R := optP n.out natsP) (e_v 3 rfl) e_int rfl) (nonP_opt fun _ => nonP_isT) e_non) (by cases n.out <;> rfl))) (fun _ _ _ _ _ n _ _ => e_v 3 rfl))) ?_)) ?_
    · rw [List.length_map]; rfl
    exact b_one (s_retP (e_lst (a_cons (e_cast (e_lenL T.n_len (e_fld (e_v 0 rfl) T.cl_Table T.na_Table_nodes rfl)) (by rw [List.length_map])) (a_cons (e_v 2 rfl) (a_cons (e_v 4 rfl) (a_one (e_fn (kn_beginnings T) hr ps hz.2 (a_one (e_v 1 rfl))))))))))
end
end Q
/-! Tables of good patterns. -/
namespace Q
open VahypBase (Bytes)
open Vahypa (Pat Lst)
open Vahypd (Node Table)
/-- what a desk holds -/
structure HOk (h : Vahypd.Held) : Prop where
  good : PatsGood h.lst.pats
  tab : h.tab = Vahypd.tableOf h.lst.pats
def OOk (o : Vahypd.Obj) : Prop := ∀ h, o = some h → HOk h
end Q
/-! Tables built: what they are like, what they tell. -/
namespace Q
open Vahypd (Node Table build firstSigns behind endsHere plainBy nodeAt kidAt findOut nodesBy walk spellOut)
theorem nodeAt_some {t : Table} {k : Nat} {n : Node} (h : t[k]? = some n) : nodeAt t k = n := by unfold nodeAt; rw [h]; rfl
theorem at_nodeAt {t : Table} {k : Nat} (h : k < t.length) : t[k]? = some (nodeAt t k) := by
  unfold nodeAt
  rw [List.getElem?_eq_getElem h]; rfl
/-- each node goes on to ones before it -/
def Wf (t : Table) : Prop := ∀ k, k < t.length → ∀ x ∈ (nodeAt t k).kids, x.2 < k
theorem nodeAt_app {t u : Table} {k : Nat} (h : k < t.length) : nodeAt (t ++ u) k = nodeAt t k := by
  unfold nodeAt
  rw [List.getElem?_append_left h]
theorem kidAt_app {t u : Table} {k s : Nat} (h : k < t.length) : kidAt (t ++ u) k s = kidAt t k s := by
  unfold kidAt
  rw [nodeAt_app h]
theorem kidAt_mem {t : Table} {k s j : Nat} (h : kidAt t k s = some j) : (s, j) ∈ (nodeAt t k).kids := by
  unfold kidAt at h
  cases q : (nodeAt t k).kids.find? fun x => x.1 == s with
  | none => rw [q] at h; cases h
  | some x =>
    rw [q] at h
    have hm := List.mem_of_find?_eq_some q
    have hs := List.find?_some q
    have e1 : x.1 = s := by simpa using hs
    have e2 : x.2 = j := Option.some.inj h
    rw [← e1, ← e2]; exact hm
theorem findOut_app {t u : Table} (W : Wf t) : ∀ (l : List Nat) (k : Nat), k < t.length → findOut (t ++ u) k l = findOut t k l
  | [], k, h => by
    show (nodeAt (t ++ u) k).out = (nodeAt t k).out
    rw [nodeAt_app h]
  | s :: r, k, h => by
    show (kidAt (t ++ u) k s).bind _ = (kidAt t k s).bind _
    rw [kidAt_app h]
    cases q : kidAt t k s with
    | none => rfl
    | some j =>
      have hj : j < k := W k h _ (kidAt_mem q)
      show findOut (t ++ u) j r = findOut t j r
      exact findOut_app W r j (by omega)
/-- what entries tell of signs -/
def lookE (es : Ents) (l : List Nat) : Option (List Nat) := (es.find? fun e => decide (e.1 = l)).map fun e => e.2
theorem lookE_nil (es : Ents) : lookE es [] = endsHere es := by
  unfold lookE endsHere
  congr 1
  congr 1
  funext e
  cases e.1 <;> simp
theorem lookE_cons (es : Ents) (s : Nat) (r : List Nat) : lookE es (s :: r) = lookE (behind es s) r := by
  unfold lookE
  induction es with
  | nil => rfl
  | cons e t ih =>
    obtain ⟨l, d⟩ := e
    rw [List.find?_cons]
    cases l with
    | nil =>
      rw [show behind (([], d) :: t) s = behind t s from rfl]
      simp only [List.nil_eq, decide_false, reduceCtorEq]
      exact ih
    | cons z l =>
      by_cases hz : z = s
      · subst hz
        rw [show behind ((z :: l, d) :: t) z = (l, d) :: behind t z from by unfold behind; rw [List.filterMap_cons]; simp, List.find?_cons]
        by_cases hl : l = r
        · subst hl
          simp
        · have e1 : decide (z :: l = z :: r) = false := decide_eq_false (by simpa using hl)
          have e2 : decide (l = r) = false := decide_eq_false hl
          simp only [e1, e2]
          exact ih
      · rw [show behind ((z :: l, d) :: t) s = behind t s from by unfold behind; rw [List.filterMap_cons]; simp [hz]]
        have e1 : decide (z :: l = s :: r) = false := decide_eq_false (by simp [hz])
        simp only [e1]
        exact ih
theorem lookE_none {es : Ents} {s : Nat} {r : List Nat} (h : s ∉ firstSigns es) : lookE es (s :: r) = none := by
  unfold lookE
  have : es.find? (fun e => decide (e.1 = s :: r)) = none := by
    rw [List.find?_eq_none]
    intro e he z
    have e1 : e.1 = s :: r := by simpa using z
    exact h ((first_mem es s).mpr ⟨e, he, by rw [e1]; rfl⟩)
  rw [this]; rfl
/-- every node of a table is like this -/
def AllN (p : Table → Node → Prop) (t : Table) : Prop := ∀ n ∈ t, p t n
/-- how far down one can go -/
def Hi (t : Table) : Nat → Nat → Prop
  | 0, k => (nodeAt t k).kids = []
  | f + 1, k => ∀ x ∈ (nodeAt t k).kids, Hi t f x.2
theorem Hi.up {t : Table} : ∀ (f k : Nat), Hi t f k → Hi t (f + 1) k
  | 0, k, h => fun x hx => by
    have h' : (nodeAt t k).kids = [] := h
    rw [h'] at hx; cases hx
  | f + 1, k, h => fun x hx => Hi.up f x.2 (h x hx)
theorem Hi.mono {t : Table} {f g k : Nat} (h : Hi t f k) (hg : f ≤ g) : Hi t g k := by
  induction hg with
  | refl => exact h
  | step _ ih => exact Hi.up _ _ ih
theorem Hi.app {t u : Table} (W : Wf t) : ∀ (f k : Nat), k < t.length → Hi t f k → Hi (t ++ u) f k
  | 0, k, hk, h => by
    show (nodeAt (t ++ u) k).kids = []
    rw [nodeAt_app hk]; exact h
  | f + 1, k, hk, h => fun x hx => by
    rw [nodeAt_app hk] at hx
    exact Hi.app W f x.2 (Nat.lt_trans (W k hk x hx) hk) (h x hx)
/-- a node tells something -/
def Tells (t : Table) (k : Nat) : Prop := (nodeAt t k).out.isSome = true ∨ (nodeAt t k).kids ≠ []
/-- a table as build makes it -/
structure TG (t : Table) : Prop where
  wf : Wf t
  nd : t.Nodup
  sorted : ∀ k, k < t.length → ((nodeAt t k).kids.map fun x => x.1).Pairwise (· < ·)
  hi : ∀ k, k < t.length → Hi t 8 k
  kt : ∀ k, k < t.length → ∀ x ∈ (nodeAt t k).kids, Tells t x.2
theorem TG.nil : TG [] := ⟨fun k h => (by cases h), List.nodup_nil, fun k h => (by cases h), fun k h => (by cases h), fun k h => (by cases h)⟩
/-- the list grows by one more node, or not -/
theorem put_cases (t : Table) (n : Node) : (∃ k, t[k]? = some n ∧ Vahypd.put t n = (t, k)) ∨ (n ∉ t ∧ Vahypd.put t n = (t ++ [n], t.length)) := by
  unfold Vahypd.put
  cases q : t.findIdx? (fun m => m == n) with
  | some k =>
    left
    rw [List.findIdx?_eq_some_iff_getElem] at q
    obtain ⟨hk, he, _⟩ := q
    refine ⟨k, ?_, rfl⟩
    rw [List.getElem?_eq_getElem hk]
    have : t[k] = n := by simpa using he
    rw [this]
  | none =>
    right
    rw [List.findIdx?_eq_none_iff] at q
    refine ⟨fun h => ?_, rfl⟩
    have := q n h
    simp at this
theorem TG.snoc {t : Table} {n : Node} {f : Nat} (T : TG t) (hf : f ≤ 7) (hn : n ∉ t) (h1 : ∀ x ∈ n.kids, x.2 < t.length) (h2 : (n.kids.map fun x => x.1).Pairwise (· < ·)) (h3 : ∀ x ∈ n.kids, Hi t f x.2) (h4 : ∀ x ∈ n.kids, Tells t x.2) : TG (t ++ [n]) := by
  have last : nodeAt (t ++ [n]) t.length = n := by
    unfold nodeAt
    rw [List.getElem?_append_right (Nat.le_refl _), Nat.sub_self]; rfl
  have split : ∀ {k}, k < (t ++ [n]).length → k < t.length ∨ k = t.length := fun h => by
    rw [List.length_append] at h
    (simp only [List.length_cons, List.length_nil] at h)
    omega
  refine ⟨fun k hk x hx => ?_, ?_, fun k hk => ?_, fun k hk => ?_, fun k hk x hx => ?_⟩
  · rcases split hk with h | rfl
    · rw [nodeAt_app h] at hx; exact T.wf k h x hx
    · rw [last] at hx; exact h1 x hx
  · rw [List.nodup_append]
    refine ⟨T.nd, by simp, fun a ha b hb => ?_⟩
    rw [List.mem_singleton.mp hb]
    intro z
    rw [z] at ha; exact hn ha
  · rcases split hk with h | rfl
    · rw [nodeAt_app h]; exact T.sorted k h
    · rw [last]; exact h2
  · rcases split hk with h | rfl
    · exact Hi.app T.wf 8 k h (T.hi k h)
    · refine Hi.mono (f := f + 1) (fun x hx => ?_) (by omega)
      rw [last] at hx
      exact Hi.app T.wf f x.2 (h1 x hx) (h3 x hx)
  · have tt : ∀ {j}, j < t.length → Tells t j → Tells (t ++ [n]) j := fun hj h => by
      unfold Tells
      rw [nodeAt_app hj]; exact h
    rcases split hk with h | rfl
    · rw [nodeAt_app h] at hx
      exact tt (Nat.lt_trans (T.wf k h x hx) h) (T.kt k h x hx)
    · rw [last] at hx
      exact tt (h1 x hx) (h4 x hx)
/-- what build makes -/
structure Bd (f : Nat) (es : Ents) (t : Table) (r : Table × Nat) : Prop where
  app : ∃ u, r.1 = t ++ u
  tg : TG r.1
  lt : r.2 < r.1.length
  hi : Hi r.1 f r.2
  tells : es ≠ [] → Tells r.1 r.2
  look : ∀ l, findOut r.1 r.2 l = lookE es l
theorem put_bd {f : Nat} {es : Ents} {t0 t : Table} {n : Node} (T : TG t) (hf : f ≤ 8) (ap : ∃ u, t = t0 ++ u) (h1 : ∀ x ∈ n.kids, x.2 < t.length) (h2 : (n.kids.map fun x => x.1).Pairwise (· < ·)) (h3 : match f with
    | 0 => n.kids = []
    | g + 1 => ∀ x ∈ n.kids, Hi t g x.2) (h4 : ∀ x ∈ n.kids, Tells t x.2) (h5 : es ≠ [] → n.out.isSome = true ∨ n.kids ≠ []) (h6 : n.out = lookE es []) (h7 : ∀ s r, ((n.kids.find? fun x => x.1 == s).bind fun x => findOut t x.2 r) = lookE es (s :: r)) : Bd f es t0 (Vahypd.put t n) := by
  have core : ∀ (u : Table) (k : Nat), TG u → (∃ v, u = t ++ v) → k < u.length → nodeAt u k = n → Bd f es t0 (u, k) := by
    intro u k TU ⟨v, hv⟩ hk hnk
    refine ⟨?_, TU, hk, ?_, fun h => ?_, fun l => ?_⟩
    · obtain ⟨w, hw⟩ := ap
      exact ⟨w ++ v, by show u = t0 ++ (w ++ v); rw [hv, hw, List.append_assoc]⟩
    · cases f with
      | zero =>
        show (nodeAt u k).kids = []
        rw [hnk]; exact h3
      | succ g =>
        intro x hx
        have hx' : x ∈ (nodeAt u k).kids := hx
        rw [hnk] at hx'
        show Hi u g x.2
        rw [hv]
        exact Hi.app T.wf g x.2 (h1 x hx') (h3 x hx')
    · show Tells u k
      unfold Tells
      rw [hnk]; exact h5 h
    · cases l with
      | nil =>
        show (nodeAt u k).out = _
        rw [hnk]; exact h6
      | cons s r =>
        show ((kidAt u k s).bind fun j => findOut u j r) = _
        rw [← h7 s r]
        unfold kidAt
        rw [hnk]
        cases q : n.kids.find? (fun x => x.1 == s) with
        | none => rfl
        | some x =>
          show findOut u x.2 r = findOut t x.2 r
          rw [hv]
          exact findOut_app T.wf r x.2 (h1 x (List.mem_of_find?_eq_some q))
  rcases put_cases t n with ⟨k, hk, e⟩ | ⟨hn, e⟩
  · rw [e]
    exact core t k T ⟨[], by rw [List.append_nil]⟩ (List.getElem?_eq_some_iff.mp hk).1 (nodeAt_some hk)
  · rw [e]
    have h3' : ∀ x ∈ n.kids, Hi t 7 x.2 := fun x hx => by
      cases f with
      | zero =>
        have h3'' : n.kids = [] := h3
        rw [h3''] at hx; cases hx
      | succ g => exact Hi.mono (h3 x hx) (by omega)
    refine core _ _ (T.snoc (Nat.le_refl 7) hn h1 h2 h3' h4) ⟨[n], rfl⟩ (by rw [List.length_append]; simp) ?_
    unfold nodeAt
    rw [List.getElem?_append_right (Nat.le_refl _), Nat.sub_self]; rfl
theorem build_bd : ∀ (f : Nat) (es : Ents) (t : Table), f ≤ 8 → TG t → (∀ e ∈ es, e.1.length ≤ f) → Bd f es t (build f es t)
  | 0, es, t, hf, T, hl => by
    have hempty : firstSigns es = [] := by
      cases q : firstSigns es with
      | nil => rfl
      | cons s r =>
        exfalso
        have : s ∈ firstSigns es := by rw [q]; exact List.mem_cons_self ..
        obtain ⟨e, he, hs⟩ := (first_mem es s).mp this
        have := hl e he
        rw [List.eq_nil_of_length_eq_zero (Nat.le_zero.mp this)] at hs
        cases hs
    refine put_bd (t := t) (n := ⟨endsHere es, []⟩) T hf ⟨[], by rw [List.append_nil]⟩ (fun x hx => by cases hx) .nil rfl (fun x hx => by cases hx) (fun h => ?_) (lookE_nil es).symm (fun s r => ?_)
    · left
      obtain ⟨e, r, rfl⟩ := List.exists_cons_of_ne_nil h
      have h0 := hl e (List.mem_cons_self ..)
      show (endsHere (e :: r)).isSome = true
      unfold endsHere
      rw [List.find?_cons, List.eq_nil_of_length_eq_zero (Nat.le_zero.mp h0)]; rfl
    · show none = _
      rw [lookE_none (by rw [hempty]; exact List.not_mem_nil)]
  | f + 1, es, t, hf, T, hl => by
    rw [build_succ]
    -- the loop over signs
    have loop : ∀ (fs : List Nat) (x : Table × List (Nat × Nat)), (∀ s ∈ fs, s ∈ firstSigns es) → TG x.1 → (∃ u, x.1 = t ++ u) → (∀ y ∈ x.2, y.2 < x.1.length ∧ Hi x.1 f y.2 ∧ Tells x.1 y.2 ∧ ∀ r, findOut x.1 y.2 r = lookE (behind es y.1) r) →
        TG (fs.foldl (bstep f es) x).1 ∧ (∃ u, (fs.foldl (bstep f es) x).1 = t ++ u) ∧ (∀ y ∈ (fs.foldl (bstep f es) x).2, y.2 < (fs.foldl (bstep f es) x).1.length ∧ Hi (fs.foldl (bstep f es) x).1 f y.2 ∧ Tells (fs.foldl (bstep f es) x).1 y.2 ∧ ∀ r, findOut (fs.foldl (bstep f es) x).1 y.2 r = lookE (behind es y.1) r) ∧ (fs.foldl (bstep f es) x).2.map (fun y => y.1) = x.2.map (fun y => y.1) ++ fs := by
      intro fs
      induction fs with
      | nil => intro x _ TX ap hx; exact ⟨TX, ap, hx, by rw [List.append_nil]; rfl⟩
      | cons s r ih =>
        intro x hs TX ap hx
        have B := build_bd f (behind es s) x.1 (by omega) TX (behind_short hl)
        have hne : behind es s ≠ [] := by
          obtain ⟨e, he, hh⟩ := (first_mem es s).mp (hs s (List.mem_cons_self ..))
          rw [behind_eq]
          intro z
          rw [List.map_eq_nil_iff, List.filter_eq_nil_iff] at z
          apply z e he
          cases q : e.1 with
          | nil => rw [q] at hh; cases hh
          | cons a l =>
            rw [q] at hh
            have : a = s := Option.some.inj hh
            subst this; simp
        obtain ⟨u, hu⟩ := B.app
        have st : (bstep f es x s) = ((build f (behind es s) x.1).1, x.2 ++ [(s, (build f (behind es s) x.1).2)]) := rfl
        obtain ⟨r1, r2, r3, r4⟩ := ih (bstep f es x s) (fun s' h' => hs s' (List.mem_cons_of_mem _ h')) B.tg (by
          obtain ⟨w, hw⟩ := ap
          exact ⟨w ++ u, by rw [st]; show (build f (behind es s) x.1).1 = _; rw [hu, hw, List.append_assoc]⟩) (fun y hy => by
          rw [st] at hy ⊢
          have hy' : y ∈ x.2 ++ [(s, (build f (behind es s) x.1).2)] := hy
          show y.2 < (build f (behind es s) x.1).1.length ∧ Hi (build f (behind es s) x.1).1 f y.2 ∧ Tells (build f (behind es s) x.1).1 y.2 ∧ ∀ r, findOut (build f (behind es s) x.1).1 y.2 r = lookE (behind es y.1) r
          rcases List.mem_append.mp hy' with hy' | hy'
          · obtain ⟨a1, a2, a3, a4⟩ := hx y hy'
            rw [hu]
            refine ⟨by rw [List.length_append]; omega, Hi.app TX.wf f y.2 a1 a2, ?_, fun r => ?_⟩
            · unfold Tells
              rw [nodeAt_app a1]; exact a3
            · rw [findOut_app TX.wf r y.2 a1]; exact a4 r
          · rw [List.mem_singleton.mp hy']
            exact ⟨B.lt, B.hi, B.tells hne, B.look⟩)
        refine ⟨r1, r2, r3, ?_⟩
        rw [List.foldl_cons, r4, st, List.map_append, List.append_assoc]; rfl
    obtain ⟨T1, ap, hk, hs⟩ := loop (firstSigns es) (t, []) (fun _ h => h) T ⟨[], by rw [List.append_nil]⟩ (fun y hy => by cases hy)
    generalize ((firstSigns es).foldl (bstep f es) (t, [])) = x at T1 ap hk hs
    have hs' : x.2.map (fun y => y.1) = firstSigns es := hs
    refine put_bd (f := f + 1) (n := ⟨endsHere es, x.2⟩) T1 hf ap (fun y hy => (hk y hy).1) (by show (x.2.map fun y => y.1).Pairwise (· < ·); rw [hs']; exact first_sorted es) (fun y hy => (hk y hy).2.1) (fun y hy => (hk y hy).2.2.1) (fun h => ?_) (lookE_nil es).symm (fun s r => ?_)
    · by_cases h0 : firstSigns es = []
      · left
        obtain ⟨e, r, rfl⟩ := List.exists_cons_of_ne_nil h
        have he : e.1 = [] := by
          cases q : e.1 with
          | nil => rfl
          | cons a l =>
            exfalso
            have : a ∈ firstSigns (e :: r) := (first_mem _ a).mpr ⟨e, List.mem_cons_self .., by rw [q]; rfl⟩
            rw [h0] at this; cases this
        show (endsHere (e :: r)).isSome = true
        unfold endsHere
        rw [List.find?_cons, he]; rfl
      · right
        intro z
        have z' : x.2 = [] := z
        rw [z'] at hs'
        exact h0 hs'.symm
    · show ((x.2.find? fun y => y.1 == s).bind fun y => findOut x.1 y.2 r) = _
      cases q : x.2.find? (fun y => y.1 == s) with
      | none =>
        have : s ∉ firstSigns es := fun z => by
          rw [← hs', List.mem_map] at z
          obtain ⟨y, hy, e⟩ := z
          rw [List.find?_eq_none] at q
          exact q y hy (by simpa using e)
        rw [lookE_none this]; rfl
      | some y =>
        have hm := List.mem_of_find?_eq_some q
        have e1 : y.1 = s := by simpa using List.find?_some q
        show findOut x.1 y.2 r = _
        rw [(hk y hm).2.2.2 r, lookE_cons, e1]
end Q
/-! What the table of good patterns is like. -/
namespace Q
open VahypBase (Bytes)
open Vahypa (Pat Lst)
open Vahypd (Node Table build firstSigns behind endsHere plainBy nodeAt kidAt findOut nodesBy signed)
def NSz (n : Node) : Prop := n.kids.length ≤ 50 ∧ (n.out.getD []).length ≤ 7
theorem put_sz {t : Table} {n : Node} (h : ∀ m ∈ t, NSz m) (hn : NSz n) : ∀ m ∈ (Vahypd.put t n).1, NSz m := by
  rcases put_cases t n with ⟨k, _, e⟩ | ⟨_, e⟩
  · rw [e]; exact h
  · rw [e]
    intro m hm
    (rcases List.mem_append.mp hm with hm | hm)
    · exact h m hm
    · rw [List.mem_singleton.mp hm]; exact hn
theorem ends_sz {es : Ents} (h : ∀ e ∈ es, e.2.length ≤ 7) : ((endsHere es).getD []).length ≤ 7 := by
  unfold endsHere
  cases q : es.find? fun e => e.1.isEmpty with
  | none => exact Nat.zero_le _
  | some e => exact h e (List.mem_of_find?_eq_some q)
theorem behind_sz {es : Ents} {s : Nat} (h : ∀ e ∈ es, e.2.length ≤ 7) : ∀ e ∈ behind es s, e.2.length ≤ 7 := fun e he => by
  rw [behind_eq, List.mem_map] at he
  obtain ⟨e', he', rfl⟩ := he
  exact h e' (List.mem_filter.mp he').1
theorem build_sz : ∀ (f : Nat) (es : Ents) (t : Table), es.length ≤ 50 → (∀ e ∈ es, e.2.length ≤ 7) → (∀ m ∈ t, NSz m) → ∀ m ∈ (build f es t).1, NSz m
  | 0, es, t, hl, he, ht => put_sz ht ⟨Nat.zero_le _, ends_sz he⟩
  | f + 1, es, t, hl, he, ht => by
    rw [build_succ]
    have loop : ∀ (fs : List Nat) (x : Table × List (Nat × Nat)), (∀ m ∈ x.1, NSz m) → ∀ m ∈ (fs.foldl (bstep f es) x).1, NSz m := by
      intro fs
      induction fs with
      | nil => intro x h; exact h
      | cons s r ih =>
        intro x h
        exact ih _ (build_sz f (behind es s) x.1 (Nat.le_trans (behind_len es s) hl) (behind_sz he) h)
    refine put_sz (loop _ _ ht) ⟨?_, ends_sz he⟩
    have e := fold_kids f es (firstSigns es) (t, [])
    have h2 := first_few es
    show ((firstSigns es).foldl (bstep f es) (t, [])).2.length ≤ 50
    rw [e]
    simp only [List.length_nil]
    omega
section
variable {ps : List Pat}
theorem ents_len (h : PatsGood ps) : (ps.map Vahypd.entryOf).length ≤ 40 := by rw [List.length_map]; exact h.few
theorem ents_short (h : PatsGood ps) : ∀ e ∈ ps.map Vahypd.entryOf, e.1.length ≤ 8 := fun e he => by
  obtain ⟨p, hp, rfl⟩ := List.mem_map.mp he
  exact entry_len (h.ok.2 p hp)
theorem ents_digits (h : PatsGood ps) : ∀ e ∈ ps.map Vahypd.entryOf, e.2.length ≤ 7 := fun e he => by
  obtain ⟨p, hp, rfl⟩ := List.mem_map.mp he
  obtain ⟨c, hc⟩ := h.each p hp
  have := pat_facts hc
  show p.levels.length ≤ 7
  omega
theorem tab_bd (h : PatsGood ps) : Bd 8 (ps.map Vahypd.entryOf) [] (Vahypd.tableOf ps) := build_bd 8 _ [] (Nat.le_refl _) TG.nil (ents_short h)
theorem sum_len (h : PatsGood ps) : ((ps.map Vahypd.entryOf).map fun e => e.1.length).sum ≤ 8 * (ps.map Vahypd.entryOf).length := by
  have := ents_short h
  generalize ps.map Vahypd.entryOf = es at this
  induction es with
  | nil => exact Nat.le_refl _
  | cons e r ih =>
    rw [List.map_cons, List.sum_cons, List.length_cons]
    have h1 := this e (List.mem_cons_self ..)
    have h2 := ih fun x hx => this x (List.mem_cons_of_mem _ hx)
    omega
theorem tab_few (h : PatsGood ps) : (Vahypd.tableOf ps).1.length ≤ 400 := by
  have h1 := build_len 8 (ps.map Vahypd.entryOf) []
  have h2 := plain_le 8 (ps.map Vahypd.entryOf)
  have h3 := sum_len h
  have h4 := ents_len h
  rw [List.length_nil] at h1
  show (build 8 (ps.map Vahypd.entryOf) []).1.length ≤ 400
  omega
theorem tab_nsz (h : PatsGood ps) : ∀ n ∈ (Vahypd.tableOf ps).1, NSz n := build_sz 8 _ [] (Nat.le_trans (ents_len h) (by decide)) (ents_digits h) fun m hm => by cases hm
theorem tab_in (h : PatsGood ps) : TabIn (Vahypd.tableOf ps) := by
  have B := tab_bd h
  refine ⟨B.lt, fun k n hn x hx => ?_, Nat.le_trans (tab_few h) (by decide), fun n hn => Nat.le_trans (tab_nsz h n hn).1 (by decide)⟩
  have hk := (List.getElem?_eq_some_iff.mp hn).1
  exact B.tg.wf k hk x (by rw [nodeAt_some hn]; exact hx)
theorem tab_sz (h : PatsGood ps) : TabSz (Vahypd.tableOf ps).1 := ⟨Nat.le_trans (tab_few h) (by decide), fun n hn => Nat.le_trans (tab_nsz h n hn).1 (by decide), fun n hn => Nat.le_trans (tab_nsz h n hn).2 (by decide)⟩
/-- a node on the way stands behind a beginning of the signs -/
theorem way_prefix {t : Table} : ∀ (l : List Nat) (k j : Nat), j ∈ nodesBy t k l → ∃ p q, l = p ++ q ∧ findOut t k p = (nodeAt t j).out
  | [], k, j, h => by
    have h' : j ∈ [k] := h
    rw [List.mem_singleton.mp h']
    exact ⟨[], [], rfl, rfl⟩
  | s :: r, k, j, h => by
    have h' : j ∈ k :: (match kidAt t k s with
      | none => []
      | some i => nodesBy t i r) := h
    rcases List.mem_cons.mp h' with rfl | h'
    · exact ⟨[], s :: r, rfl, rfl⟩
    · cases q : kidAt t k s with
      | none => rw [q] at h'; cases h'
      | some i =>
        rw [q] at h'
        obtain ⟨p, u, e1, e2⟩ := way_prefix r i j h'
        refine ⟨s :: p, u, by rw [e1]; rfl, ?_⟩
        show (kidAt t k s).bind (fun i => findOut t i p) = _
        rw [q]; exact e2
theorem look_ok (h : PatsGood ps) (x : Bytes) : LookOk (Vahypd.tableOf ps) x := by
  intro s hs v hv
  unfold outsOf at hv
  rw [List.mem_filterMap] at hv
  obtain ⟨j, hj, ej⟩ := hv
  obtain ⟨p, u, e1, e2⟩ := way_prefix _ _ _ hj
  rw [ej, (tab_bd h).look p] at e2
  unfold lookE at e2
  cases q : (ps.map Vahypd.entryOf).find? (fun e => decide (e.1 = p)) with
  | none => rw [q] at e2; cases e2
  | some e =>
    rw [q] at e2
    have em := List.mem_of_find?_eq_some q
    have ep : e.1 = p := by simpa using List.find?_some q
    have ev : e.2 = v := Option.some.inj e2
    obtain ⟨pt, hpt, rfl⟩ := List.mem_map.mp em
    obtain ⟨c, hc⟩ := h.each pt hpt
    have pf := pat_facts hc
    have pl := patL_of hc
    have vlen : v.length = pt.x.length + 1 := by rw [← ev]; exact pf.2.2
    have ep' : Vahypd.signsOf pt = p := ep
    have zl := signed_len x
    -- the last letter's place among the word's signs
    have at_ : ∀ i, i < pt.x.length → ∃ b, (signed x)[s + ((if pt.front = true then 1 else 0) + i)]? = some b ∧ b ≠ 0 := by
      intro i hi
      have hb : VahypBase.isLetter pt.x[i] = true := pl.1 _ (List.getElem_mem hi)
      refine ⟨pt.x[i].toNat, ?_, byte_zero hb⟩
      have e3 : ((signed x).drop s)[(if pt.front = true then 1 else 0) + i]? = some pt.x[i].toNat := by
        rw [e1, ← ep']
        unfold Vahypd.signsOf
        have hh : (if pt.front = true then [0] else ([] : List Nat)).length = (if pt.front = true then 1 else 0) := by split <;> rfl
        rw [List.append_assoc, List.getElem?_append_right (by rw [hh]; omega), hh, show (if pt.front = true then 1 else 0) + i - (if pt.front = true then 1 else 0) = i by omega, List.append_assoc, List.getElem?_append_left (by rw [List.length_map]; exact hi), List.getElem?_map, List.getElem?_eq_getElem hi]; rfl
      rw [List.getElem?_drop] at e3
      exact e3
    obtain ⟨b, hb1, hb2⟩ := at_ (pt.x.length - 1) (by omega)
    have hlt := (List.getElem?_eq_some_iff.mp hb1).1
    have hne : s + ((if pt.front = true then 1 else 0) + (pt.x.length - 1)) ≠ x.length + 1 := fun z => by
      rw [z] at hb1
      have : (signed x)[x.length + 1]? = some 0 := by
        unfold signed
        rw [List.getElem?_cons_succ, List.getElem?_append_right (by rw [List.length_map]; exact Nat.le_refl _), List.length_map, Nat.sub_self]; rfl
      rw [this] at hb1
      exact hb2 (Option.some.inj hb1).symm
    rw [vlen]
    by_cases h0 : s = 0
    · subst h0
      obtain ⟨b', hb3, hb4⟩ := at_ 0 (by omega)
      have hf : pt.front = true := by
        cases hf : pt.front with
        | true => rfl
        | false =>
          rw [hf] at hb3
          have : (signed x)[0]? = some 0 := rfl
          have hb5 : (signed x)[0]? = some b' := hb3
          rw [this] at hb5
          exact absurd (Option.some.inj hb5).symm hb4
      rw [hf, if_pos rfl] at hlt hne
      omega
    · omega
end
end Q
/-! The desk: wants, load. -/
namespace Q
open PySem PySem.Spec PyProof.Rows L2 Pt
open VahypBase (Bytes isLetter)
open Vahypa (Pat Lst)
open Vahypd (Node Table)
abbrev refX (K : PySem.W.Frag) (n : Int) : XP := errX (He.ga K "Refused") [("refusal", .int n)]
def bX (K : PySem.W.Frag) (b : Bool) (n : Int) : XP := if b = true then noX else refX K n
def bP (b : Bool) : VP := if b = true then isN else noP
section
variable {base : Heap} {P : Program} {w : World} {K : PySem.W.Frag} {mg : Str → Option Value}
abbrev sp_want (K : PySem.W.Frag) : Sp := fSp (fun _ : Bool × Int => True) (fun z => [isB z.1, isI z.2]) (fun z => bP z.1) fun z => bX K z.1 z.2
theorem kn_want (T : Txt K mg) : Kn P w K mg base (L2.CX P w) 3 "want" ["is_so", "number"] (sp_want K) :=
  kn_of T.g_want (fn_plainX T.df_want (fun _ => rfl) fun cdv A outer s H E z G hz sG hr hE => by
    obtain ⟨b, n⟩ := z
    have tk' : tkOf P w K mg base N_want d_want (He.ga K "want") cdv A outer s H E := takes_of rfl rfl rfl rfl
    cases b with
    | true => exact b_one (s_if (t_not (k := true) (t_val (e_v 0 rfl))) (fun h => by cases h) (fun _ => b_nil (le_nxF)))
    | false => exact b_one (s_if (t_not (k := false) (t_val (e_v 0 rfl))) (fun _ => b_one (s_raiseR T hr tk' (a_one (e_v 1 rfl)) (hE.to fun _ _ _ z => z))) (fun h => by cases h)))
end
section
variable {X : Cx} {A A' N bk ct : As} {e a : Expr} {pos cpos p : Pos} {rt : V → Hp → Hp → Prop} {b : Bool} {n : Int} {E : XK}
/-- want(e, n) comes out -/
theorem s_want (T : Txt X.K X.mg) (hr : Room 3 X.A) (tk' : Takes X (fun c d _ H => E c d H)) (ha : Ja False X A [e, a] [isB true, isI n] A') (hg : Gl X "want" := by rfl)
    (he : starEach [e, a] X.env = (false, eval e X.env) :: starEach [a] X.env := by rfl) (hpl : (backTo cpos (starEach [a] X.env)).any (·.1) = false := by rfl) (hs : swapsWith (.Call (.Name "want" p) [e, a] [] cpos) none pos.line X.env = pure false := by rfl) : Js X A (.Expr (.Call (.Name "want" p) [e, a] [] cpos) pos) ⟨A', rt, bk, ct⟩ :=
  s_expr (P := isN) (e_fnX (E := E) (kn_want (P := X.prog) (w := X.w) (base := X.base) T) hr (true, n) trivial tk' ha (fun _ _ _ _ _ _ _ z => z.elim) hg (by decide) he hpl) hs
/-- want(e, n) does not -/
theorem s_wantX (T : Txt X.K X.mg) (hr : Room 3 X.A) (tk' : Takes X (fun c d _ H => E c d H)) (ha : Ja False X A [e, a] [isB false, isI n] A') (hE : ∀ c d σ G H, Same G H → A'.p σ G H → (refX X.K n).p c d G → E c d H) (hg : Gl X "want" := by rfl)
    (he : starEach [e, a] X.env = (false, eval e X.env) :: starEach [a] X.env := by rfl) (hpl : (backTo cpos (starEach [a] X.env)).any (·.1) = false := by rfl) (hs : swapsWith (.Call (.Name "want" p) [e, a] [] cpos) none pos.line X.env = pure false := by rfl) : Js X A (.Expr (.Call (.Name "want" p) [e, a] [] cpos) pos) ⟨N, rt, bk, ct⟩ :=
  s_exprN (e_fnX (E := E) (kn_want (P := X.prog) (w := X.w) (base := X.base) T) hr (false, n) trivial tk' ha hE hg (by decide) he hpl) hs
theorem s_wantG (T : Txt X.K X.mg) (hr : Room 3 X.A) (tk' : Takes X (fun c d _ H => E c d H)) (ha : Ja False X A [e, a] [isB b, isI n] A') (hN : b = true → As.le A' N) (hE : b = false → ∀ c d σ G H, Same G H → A'.p σ G H → (refX X.K n).p c d G → E c d H) (hg : Gl X "want" := by rfl)
    (he : starEach [e, a] X.env = (false, eval e X.env) :: starEach [a] X.env := by rfl) (hpl : (backTo cpos (starEach [a] X.env)).any (·.1) = false := by rfl) (hs : swapsWith (.Call (.Name "want" p) [e, a] [] cpos) none pos.line X.env = pure false := by rfl) : Js X A (.Expr (.Call (.Name "want" p) [e, a] [] cpos) pos) ⟨N, rt, bk, ct⟩ := by
  cases b with
  | true => exact s_post (s_want T hr tk' ha hg he hpl hs) (hN rfl)
  | false => exact s_wantX T hr tk' ha (hE rfl) hg he hpl hs
end
def okLet (x : Bytes) : Bool := (decide (2 ≤ x.length) && decide (x.length ≤ 16)) && x.all isLetter
section
variable {base : Heap} {P : Program} {w : World} {K : PySem.W.Frag} {mg : Str → Option Value}
abbrev sp_wlet (K : PySem.W.Frag) : Sp := fSp (fun x : Bytes => x.length ≤ 10000) (fun x => [bysP x]) (fun x => bP (okLet x)) fun x => bX K (okLet x) (-4)
theorem kn_wlet (T : Txt K mg) : Kn P w K mg base (L2.CX P w) 4 "want_letters" ["letters"] (sp_wlet K) :=
  kn_of T.g_want_letters (fn_plainX T.df_want_letters (fun _ => rfl) fun cdv A outer s H E x G hz sG hr hE => by
    have hx : x.length ≤ 10000 := hz
    have tk' : tkOf P w K mg base N_want_letters d_want_letters (He.ga K "want_letters") cdv A outer s H E := takes_of rfl rfl rfl rfl
    refine b_one (s_wantG (b := okLet x) T hr tk' (a_cons (e_and (k := decide (2 ≤ x.length) && decide (x.length ≤ 16)) (k' := x.all isLetter) (e_cast (e_lele (e_glob T.c_LEAST_LETTERS) (e_lenL T.n_len (e_v 0 rfl)) (e_glob T.c_MOST_LETTERS)) ?_) fun _ => e_one (e_cast (e_all rfl T.n_all (bs := x.map isLetter) (e_cast (e_lc (own := [("byte", 1)]) x byP (fun _ => true) (fun b => isB (isLetter b)) sc_want_letters.nd (i_list (e_v 0 rfl)) (blkOk_by (by rfl)) (by rw [line_eq]; omega) (fun _ _ _ _ _ b _ => g_name 1 sc_want_letters.nd) (fun _ _ _ _ _ b _ => ts_nil) (fun _ _ _ _ _ b _ _ => e_fn (kn_is_letter T) (hr.mono (by decide)) b trivial (a_one (e_v 1 rfl)))) ?_)) ?_)) (a_one (e_glob T.c_BAD))) (fun h => le_nxF ?_) (fun h => hE.to fun c d G' z => ?_))
    · refine congrArg isB ?_
      rw [List.length_map, Bool.eq_iff_iff]; simp only [Bool.and_eq_true, decide_eq_true_eq]; omega
    · rw [filter_yes, List.map_map]; rfl
    · rw [List.all_map]; rfl
    · intro H'
      show (bP (okLet x)).p _ _
      rw [h]; rfl
    · show (bX K (okLet x) (-4)).p c d G'
      rw [h]; exact z)
end
section
variable {X : Cx} {fr : Prop} {A A' : As} {e : Expr} {es : List Expr} {pos p : Pos} {k : Nat} {x : Str} {ps : List Str} {α : Type} {pre : α → Prop} {args : α → List VP} {post' : α → VP} {exc : α → XP} {E : XK}
theorem e_fnP (F : Kn X.prog X.w X.K X.mg X.base (L2.CX X.prog X.w) k x ps (fSp pre args post' exc)) (hr : Room k X.A) (z : α) (hz : pre z) (hx : Passes (L2.CX X.prog X.w) X E) (ha : Ja fr X A (e :: es) (args z) A') (hE : ∀ c d σ G H, Same G H → A'.p σ G H → (exc z).p c d G → E c d H) (hg : Gl X x := by rfl) (hdb : (x == ("__debug__" : Str)) = false := by decide)
    (he : starEach (e :: es) X.env = (false, eval e X.env) :: starEach es X.env := by rfl) (hpl : (backTo pos (starEach es X.env)).any (·.1) = false := by rfl) : Je fr X A (.Call (.Name x p) (e :: es) [] pos) (post' z) A' := by
  obtain ⟨f, fd, F1, g, kp, hb⟩ := F.ex
  exact pe_imp (pe_call F1 hr hg g kp hb .nil hx ha hdb he hpl) fun σ H Q ⟨G, s, a, q⟩ => ⟨G, s, a, fun vs G1 H1 p1 r => by
    simp only [tNil, List.append_nil]
    exact ⟨z, G1, hz, p1.i, r, fun v G2 H2 w pv => q v G2 H2 (p1.then w) pv, fun c d G2 H2 w xv => hE c d σ G2 H2 w.i (A'.st p1.i p1.a w) xv⟩⟩
end
section
variable {base : Heap} {P : Program} {w : World} {K : PySem.W.Frag} {mg : Str → Option Value}
/-! ### the desk -/
abbrev dkF (K : PySem.W.Frag) (o : Vahypd.Obj) : Fs := [("held", optP o fun h => lstO K h.lst), ("packed", optP o fun h => tabO K h.tab)]
theorem kc_Desk (T : Txt K mg) : ∃ fd, FnOk P w K mg base CX0 1 (He.ma K (He.ga K "Desk") "__init__") fd ["self"] (oSp (fun _ : Unit => True) (He.ga K "Desk") (fun _ => []) (fun _ => []) (fun _ => dkF K none) (fun _ => isN) (fun _ => dkF K none) fun _ => noX) ∧ PySem.W.keepIn K (.ref (He.ma K (He.ga K "Desk") "__init__")) = true ∧ Binds K fd ["self"] [] :=
  fn_own0 T.df_Desk_init (fun _ => rfl) fun cdv A outer s H E z G a dx hz sG hr =>
    b_cons (s_ofld 0 rfl T.cl_Desk T.na_Desk_held e_non) (b_one (s_post (s_ofld 0 rfl T.cl_Desk T.na_Desk_packed e_non) (le_nxO rfl)))
/-- what load answers -/
def loadO (o : Vahypd.Obj) (b : Bytes) : Vahypd.Obj := match Vahypa.read b with
  | .ok s => some (Vahypd.held s)
  | .error _ => o
def loadA (b : Bytes) : List Int := match Vahypa.read b with
  | .ok s => [1, (s.words.length : Int), (s.pats.length : Int)]
  | .error f => [0, (f.code : Int), (f.place : Int)]
abbrev sp_load (K : PySem.W.Frag) : Sp := oSp (fun z : Vahypd.Obj × Bytes => z.2.length ≤ 8192 ∧ ∀ s, Vahypa.read z.2 = .ok s → PatsGood s.pats) (He.ga K "Desk") (fun z => dkF K z.1) (fun z => [bysP z.2]) (fun z => dkF K (loadO z.1 z.2)) (fun z => isIs (loadA z.2)) (fun z => dkF K (loadO z.1 z.2)) fun _ => noX
/-- behind the try: the answer in its slot -/
def rdy (B : Bs) (C : Addr) (fs : Fs) (post : VP) (i : Nat) : As := ⟨fun σ G H => ∃ v, σ[i]? = some (some v) ∧ rtO B C fs post v G H, fun _ ⟨v, e, h, fv, e1, q, p⟩ w => ⟨v, e, h.trans w, fv, w.same _ _ e1, fldP_up w.g q, post.up w.g p⟩⟩
theorem le_rdy {B : Bs} {Γ : List Sl} {C : Addr} {fs : Fs} {post : VP} {i : Nat} (h0 : Γ[0]? = some (.obj true C fs)) (hi : Γ[i]? = some (.val post)) : As.le (Ga B Γ) (rdy B C fs post i) := fun σ G H s a => by
  obtain ⟨v, e, p⟩ := ga_val a hi
  obtain ⟨fv, e1, e2⟩ := me_out a h0
  exact ⟨v, e, a.1, fv, e1, e2, p⟩
theorem s_retRdy {X : Cx} {B : Bs} {C : Addr} {fs : Fs} {post : VP} {N bk ct : As} {x : Str} {p pos : Pos} (i : Nat) (hN : X.N[i]? = some x := by rfl) (hv : Vis X.env.scope x := by first | exact Or.inl rfl | exact Or.inr (Or.inl rfl) | exact Or.inr (Or.inr rfl)) (hd : (x == ("__debug__" : Str)) = false := by decide) (hcd : (x == ("__classdict__" : Str)) = false := by decide) : Js X (rdy B C fs post i) (.Return (some (.Name x p)) pos) ⟨N, rtO B C fs post, bk, ct⟩ :=
  ps_imp (ps_ret (pv i hN hv hd hcd)) fun D σ H ⟨G, s, ⟨v, e, q⟩, n, r, _⟩ => ⟨v, e, r v G H s q⟩
theorem rdy_re {G H G1 H1 G' H' : Hp} {a dx : Addr} {C : Addr} {fs : Fs} {post : VP} {i : Nat} {σ : L2.St} (w : Gw [a] G H G1 H1) (h : (rdy (Bs.me G1 H1 a dx) C fs post i).p σ G' H') : (rdy (Bs.me G H a dx) C fs post i).p σ G' H' := by
  obtain ⟨v, e, h, fv, q⟩ := h
  exact ⟨v, e, w.trans' h fun _ hx => .inl hx, fv, q⟩
theorem ga_re {G H G1 H1 : Hp} {a dx : Addr} {Γ Γ' : List Sl} {σ : L2.St} {C : Addr} {fs : Fs} (h : (Ga (Bs.me G H a dx) Γ).p σ G1 H1) (s : Same G1 H1) (h0 : Γ[0]? = some (.obj true C fs)) (h1 : Γ' = .obj true C fs :: Γ.tail.map fun s => match s with | .val P => .val P | _ => .any) : (Ga (Bs.me G1 H1 a dx) Γ').p σ G1 H1 := by
  subst h1
  obtain ⟨_, hp, hd⟩ := h
  cases Γ with
  | nil => cases h0
  | cons s0 Γ =>
    cases h0
    cases hp with
    | cons p t =>
      obtain ⟨y, dy, us, e3, g3, h3, b3, q3⟩ := p
      refine ⟨Gw.refl s, .cons ⟨y, dy, us, e3, g3, h3, ⟨b3.1, b3.2.1, b3.2.2⟩, q3⟩ ?_, fun i j s s' b hij e1 e2 m1 m2 f1 f2 => ?_⟩
      · clear hd
        induction t with
        | nil => exact .nil
        | @cons s o l l' p t ih =>
          refine .cons ?_ ih
          cases s with
          | val P => exact p
          | _ => trivial
      · have key : ∀ (i : Nat) (s : Sl), (Sl.obj true C fs :: Γ.map fun s => match s with | .val P => Sl.val P | _ => .any)[i]? = some s → s.mine = true → i = 0 := fun i s e m => by
          cases i with
          | zero => rfl
          | succ i =>
            rw [List.getElem?_cons_succ, List.getElem?_map] at e
            cases q : Γ[i]? with
            | none => (rw [q] at e; cases e)
            | some z => rw [q] at e; cases e; cases z <;> cases m
        exact hij ((key i s e1 m1).trans (key j s' e2 m2).symm)
theorem km_load (T : Txt K mg) : Km P w K mg base CX0 12 (He.ga K "Desk") "load" ["self", "text"] (sp_load K) :=
  km_of T.me_Desk_load (fn_own0 T.df_Desk_load (fun _ => rfl) fun cdv A outer s H E z G a dx hz sG hr => by
    obtain ⟨o, b⟩ := z
    obtain ⟨hb0, hgood⟩ := hz
    have hb : b.length ≤ 8192 := hb0
    refine b_cons (s_own 2 sc_Desk_load.nd (l_lst a_nil)) ?_
    refine b_cons (M := rdy (Bs.me G H a dx) (He.ga K "Desk") (dkF K (loadO o b)) (isIs (loadA b)) 2) (ps_imp (ps_try_as (x := "Fault") (n := "e") (i := 4) (c := .ref (He.ga K "Fault")) (Wout := fun _ _ _ _ => False) (tb := fun W D σ H1 => ∃ z : {z : Hp × Hp // ∀ c d σ G' H', Same G' H' → (Ga (Bs.me z.1 z.2 a dx) [.obj true (He.ga K "Desk") (dkF K o), .val (bysP b), .any, .any, .any]).p σ G' H' → (erX K (Vahypa.read b)).p c d G' → eW N_Desk_load.length W c d H'}, jS (Ga (Bs.me z.1.1 z.1.2 a dx) [.obj true (He.ga K "Desk") (dkF K o), .val (bysP b), .any, .any, .any]) ⟨rdy (Bs.me z.1.1 z.1.2 a dx) (He.ga K "Desk") (dkF K (loadO o b)) (isIs (loadA b)) 2, fun _ _ _ => False, As.no, As.no⟩ D σ H1) rfl rfl sc_Desk_load.nd rfl rfl ⟨rfl, rfl, .inl T.g_Fault⟩ takes_none5 (fun W pn xe tk hp => pss_any fun ⟨⟨Gz, Hz⟩, hE⟩ => ?_) (fun a oe cls d pn hz' hf => pss_one (ps_set (i := 2) sc_Desk_load.nd rfl (Or.inl rfl) (pe_lst (pa_cons pe_int (pa_cons (pe_xf T.oe_Fault.xf T.na_Fault_code hz' hf (pv 4)) (pa_cons (pe_xf T.oe_Fault.xf T.na_Fault_place hz' hf (pv 4)) pa_nil))))))) fun D σ H1 ⟨G1, s1, a1, n1, r1, b1, c1⟩ => ?_) (b_one (s_retRdy 2))
    · have hx := passes_len (X := (cxOf CX0 P w K mg base N_Desk_load d_Desk_load.qual d_Desk_load.scope (He.ma K (He.ga K "Desk") "load") cdv A outer s H E).nox.tr pn xe) (E := eW N_Desk_load.length W) tk fun c d σ H hσ h => h σ hσ
      dsimp only
      cases hrd : Vahypa.read b with
      | error f =>
        refine b_cons (s_setD (P := isN) 3 sc_Desk_load.nd (e_dead (e_imp (e_fnP (kn_read_list T) (hr.mono (by decide)) b hb hx (a_one (e_v 1 rfl)) hE) fun v H' z => ?_))) b_dead
        rw [hrd] at z; exact z
      | ok sl =>
        have good := hgood sl hrd
        have eo : loadO o b = some (Vahypd.held sl) := by unfold loadO; rw [hrd]
        have ea : loadA b = [1, (sl.words.length : Int), (sl.pats.length : Int)] := by unfold loadA; rw [hrd]
        refine b_cons (s_set (P := lstO K sl) 3 sc_Desk_load.nd (e_cast (e_fnP (kn_read_list T) (hr.mono (by decide)) b hb hx (a_one (e_v 1 rfl)) hE) ?_)) ?_
        · rw [hrd]; rfl
        · refine b_cons (s_ofld 0 rfl T.cl_Desk T.na_Desk_held (e_v 3 rfl)) ?_
          refine b_cons (s_ofld 0 rfl T.cl_Desk T.na_Desk_packed (e_fn (kn_packed T) hr sl.pats ⟨Nat.le_trans good.few (by decide), good.ok.2⟩ (a_one (e_fld (e_v 3 rfl) T.cl_Listed T.na_Listed_patterns rfl)))) ?_
          refine b_one (s_post (s_set (P := isIs (loadA b)) 2 sc_Desk_load.nd (e_cast (e_lst (a_cons e_int (a_cons (e_fld (e_v 3 rfl) T.cl_Listed T.na_Listed_many_words rfl) (a_one (e_cast (R := natP sl.pats.length) (e_lenL T.n_len (e_fld (e_v 3 rfl) T.cl_Listed T.na_Listed_patterns rfl)) (by rw [List.length_map])))))) ?_)) (le_rdy ?_ rfl))
          · rw [ea]; rfl
          · rw [eo]; rfl
    · have ar := ga_re a1 s1 rfl rfl
      refine ⟨⟨(G1, H1), fun c d σ2 G2 H2 s2 a2 hx σ' hσ => ?_⟩, G1, s1, ar, fun σ' G' H' g s' h => n1 σ' G' H' g s' (rdy_re a1.1 h), fun _ _ _ _ z => z.elim, fun _ _ _ _ _ z => z.elim, fun _ _ _ _ _ z => z.elim⟩
      cases hrd : Vahypa.read b with
      | ok sl => rw [hrd] at hx; exact hx.elim
      | error f =>
        rw [hrd] at hx
        obtain ⟨ec, dd, gs, ed, eg, lk⟩ := hx
        subst ec ed
        have eo : loadO o b = o := by unfold loadO; rw [hrd]
        have ea : loadA b = [0, (f.code : Int), (f.place : Int)] := by unfold loadA; rw [hrd]
        have l1 := lk "code" (.int (f.code : Int)) rfl
        have l2 := lk "place" (.int (f.place : Int)) rfl
        refine ⟨true, T.xm_Fault, fun _ y hy => ?_, fun z => by cases z⟩
        have h4 : (σ'.set 4 (some (.ref y)))[4]? = some (some (.ref y)) := by
          rw [List.getElem?_set_self (by rw [hσ]; decide)]
        refine ⟨_, h4, rfl, rfl, dd, gs, _, rfl, s2 _ _ eg, l1, ?_⟩
        refine ⟨_, h4, rfl, rfl, dd, gs, _, rfl, s2 _ _ eg, l2, ?_⟩
        refine ⟨by show 3 ≤ sizeLine; decide, fun l hl => ?_⟩
        have w := Gw.new (M := []) (o := .lst [.int 0, .int (f.code : Int), .int (f.place : Int)]) s2 hl
        obtain ⟨fv, e1, e2⟩ := me_out a2 rfl
        refine n1 _ (upd G2 l (.lst [.int 0, .int (f.code : Int), .int (f.place : Int)])) _ (Same.trans a2.1.g w.g) w.i ⟨.ref l, ?_, (a1.1.trans' a2.1 fun _ hx => .inl hx).trans w, fv, w.same _ _ e1, ?_, ?_⟩
        · rw [get_set_ne (by decide), List.getElem?_set_self (by rw [List.length_set, hσ]; decide)]
        · rw [eo]; exact fldP_up w.g e2
        · rw [ea]
          exact ⟨l, _, rfl, upd_same, .cons rfl (.cons rfl (.cons rfl .nil))⟩)
end
end Q
/-! The desk's calls. -/
namespace Q
open PySem PySem.Spec PyProof.Rows L2 Pt
open VahypBase (Bytes isLetter)
open Vahypa (Pat Lst)
open Vahypd (Node Table Held)
def okE {α : Type} (r : Except Int α) (f : α → VP) : VP := match r with
  | .ok a => f a
  | .error _ => noP
def rfX {α : Type} (K : PySem.W.Frag) (r : Except Int α) : XP := match r with
  | .ok _ => noX
  | .error n => refX K n
abbrev nsL (l : List Nat) : VP := isL (l.map natP)
def countsN (h : Held) : List Nat := [h.lst.pats.length, h.tab.1.length, Vahypd.edges h.tab.1, Vahypd.outs h.tab.1, (begins h.lst.pats).eraseDups.length]
section
variable {base : Heap} {P : Program} {w : World} {K : PySem.W.Frag} {mg : Str → Option Value}
theorem HOk.tin {h : Held} (H : HOk h) : TabIn h.tab := by rw [H.tab]; exact tab_in H.good
theorem HOk.tsz {h : Held} (H : HOk h) : TabSz h.tab.1 := by rw [H.tab]; exact tab_sz H.good
theorem HOk.look {h : Held} (H : HOk h) (x : Bytes) : LookOk h.tab x := by rw [H.tab]; exact look_ok H.good x
theorem HOk.some {h : Held} (H : HOk h) : h.lst.pats.length ≤ 50 ∧ ∀ p ∈ h.lst.pats, p.x.length ≤ 6 := ⟨Nat.le_trans H.good.few (by decide), H.good.ok.2⟩
abbrev sp_counts (K : PySem.W.Frag) : Sp := oSp (fun h : Held => HOk h) (He.ga K "Desk") (fun h => dkF K (some h)) (fun _ => []) (fun h => dkF K (some h)) (fun h => nsL (countsN h)) (fun h => dkF K (some h)) fun _ => noX
theorem km_counts (T : Txt K mg) : Km P w K mg base CX0 4 (He.ga K "Desk") "counts" ["self"] (sp_counts K) :=
  km_of T.me_Desk_counts (fn_own0 T.df_Desk_counts (fun _ => rfl) fun cdv A outer s H E h G a dx hz sG hr => by
    have O : HOk h := hz
    refine b_one (s_retO (e_cat (e_lst (a_one (e_cast (R := natP h.lst.pats.length) (e_lenL T.n_len (e_fld (e_ofld (P := lstO K h.lst) 0 rfl T.cl_Desk T.na_Desk_held rfl) T.cl_Listed T.na_Listed_patterns rfl)) (by rw [List.length_map])))) (e_fn (kn_sizes T) hr (h.tab, h.lst.pats) ⟨O.tin.few, O.some⟩ (a_cons (e_ofld (P := tabO K h.tab) 0 rfl T.cl_Desk T.na_Desk_packed rfl) (a_one (e_fld (e_ofld (P := lstO K h.lst) 0 rfl T.cl_Desk T.na_Desk_held rfl) T.cl_Listed T.na_Listed_patterns rfl)))) ?_) rfl)
    exact small_line (by show 1 + 4 ≤ 1000000; decide))
def storeN (h : Held) : List Nat := (Vahypd.tableRow h.tab).length :: Vahypd.tableRow h.tab
theorem row_len2 {t : Table × Nat} (S : TabSz t.1) : (Vahypd.tableRow t).length ≤ 3003002 := by
  unfold Vahypd.tableRow
  have h1 := rows_len (t := t.1) fun n hn => row_len (S.kids n hn) (S.outs n hn)
  have h2 := S.few
  rw [List.length_cons, List.length_append]
  have h3 : (t.1.flatMap Vahypd.nodeRow).length ≤ 3003 * 1000 := Nat.le_trans h1 (by omega)
  (simp only [List.length_cons, List.length_nil])
  omega
abbrev sp_store (K : PySem.W.Frag) : Sp := oSp (fun h : Held => HOk h) (He.ga K "Desk") (fun h => dkF K (some h)) (fun _ => []) (fun h => dkF K (some h)) (fun h => nsL (storeN h)) (fun h => dkF K (some h)) fun _ => noX
theorem km_store (T : Txt K mg) : Km P w K mg base CX0 3 (He.ga K "Desk") "store" ["self"] (sp_store K) :=
  km_of T.me_Desk_store (fn_own0 T.df_Desk_store (fun _ => rfl) fun cdv A outer s H E h G a dx hz sG hr => by
    have O : HOk h := hz
    have hl := row_len2 O.tsz
    refine b_cons (s_set 1 sc_Desk_store.nd (e_fn (kn_table_told T) hr h.tab O.tsz (a_one (e_ofld (P := tabO K h.tab) 0 rfl T.cl_Desk T.na_Desk_packed rfl)))) ?_
    refine b_one (s_retO (e_cat (e_lst (a_one (e_cast (R := natP (Vahypd.tableRow h.tab).length) (e_lenL T.n_len (e_v 1 rfl)) (by rw [List.length_map])))) (e_v 1 rfl) ?_) rfl)
    show 1 + ((Vahypd.tableRow h.tab).map natP).length ≤ sizeLine
    rw [List.length_map, line_eq]; omega)
theorem cut_mid {α β : Type} {l : List α} {f : α → β} (h : 2 ≤ l.length) : cutP (l.map f) (some 1) (some (-1)) = ((l.drop 1).take (l.length - 2)).map f := by
  unfold cutP
  have e1 : HT.sIx (l.map f).length 0 (some 1) = 1 := by
    have := HT.sIx_nat (l.map f).length 0 1
    rw [List.length_map] at this
    rw [List.length_map]
    rw [show (some (1 : Int)) = some ((1 : Nat) : Int) from rfl, this]; omega
  have e2 : HT.sIx (l.map f).length (l.map f).length (some (-1)) = l.length - 1 := by
    rw [List.length_map]
    show (if (-1 : Int) < 0 then ((-1 : Int) + (l.length : Int)).toNat else min (-1 : Int).toNat l.length) = l.length - 1
    rw [if_pos (by decide)]; omega
  rw [e1, e2, ← List.map_drop, ← List.map_take, show l.length - 1 - 1 = l.length - 2 by omega]
def lookN (h : Held) (x : Bytes) : List Nat × Nat := lookP h.tab x (Vahypd.signed x).length
def levR (h : Held) (x : Bytes) : Except Int (List Nat) := if okLet x = true then .ok ((x.length - 1) :: (((lookN h x).1.drop 1).take (x.length - 1) ++ [(lookN h x).2])) else .error (-4)
def partR (h : Held) (x : Bytes) : Except Int (List Nat) := if okLet x = true then .ok ((gapsP (lookN h x).1 h.lst.l h.lst.r).length :: gapsP (lookN h x).1 h.lst.l h.lst.r) else .error (-4)
abbrev sp_dk (K : PySem.W.Frag) (f : Held → Bytes → Except Int (List Nat)) : Sp := oSp (fun z : Held × Bytes => HOk z.1 ∧ z.2.length ≤ 8192) (He.ga K "Desk") (fun z => dkF K (some z.1)) (fun z => [bysP z.2]) (fun z => dkF K (some z.1)) (fun z => okE (f z.1 z.2) nsL) (fun z => dkF K (some z.1)) fun z => rfX K (f z.1 z.2)
theorem okLet_len {x : Bytes} (h : okLet x = true) : 2 ≤ x.length ∧ x.length ≤ 16 := by
  unfold okLet at h
  (simp only [Bool.and_eq_true, decide_eq_true_eq] at h)
  exact h.1
theorem km_levels (T : Txt K mg) : Km P w K mg base (L2.CX P w) 5 (He.ga K "Desk") "levels" ["self", "letters"] (sp_dk K levR) :=
  km_of T.me_Desk_levels (fn_ownX T.df_Desk_levels (fun _ => rfl) fun cdv A outer s H E z G a dx hz sG hr hE => by
    obtain ⟨h, x⟩ := z
    have O : HOk h := hz.1
    have hx : x.length ≤ 8192 := hz.2
    have tk' : tkOf P w K mg base N_Desk_levels d_Desk_levels (He.ma K (He.ga K "Desk") "levels") cdv A outer s H E := takes_of rfl rfl rfl rfl
    cases hb : okLet x with
    | false =>
      have er : levR h x = .error (-4) := by unfold levR; rw [if_neg (by rw [hb]; exact Bool.false_ne_true)]
      refine b_cons (s_exprN (N := As.no) (e_imp (e_fnX (kn_wlet T) hr x (Nat.le_trans hx (by decide)) tk' (a_one (e_v 1 rfl)) (hE.to rfl (fun _ _ h => h) fun c d G' z => ?_)) fun v H' z => ?_)) b_dead
      · show (rfX K (levR h x)).p c d G'
        rw [er]
        rw [hb] at z; exact z
      · rw [hb] at z; exact z
    | true =>
      have hl := okLet_len hb
      have er : levR h x = .ok ((x.length - 1) :: (((lookN h x).1.drop 1).take (x.length - 1) ++ [(lookN h x).2])) := by unfold levR; rw [if_pos hb]
      have len : (lookN h x).1.length = x.length + 1 := lookP_len _ _ _
      refine b_cons (s_expr (P := isN) (e_imp (e_fnX (kn_wlet T) hr x (Nat.le_trans hx (by decide)) tk' (a_one (e_v 1 rfl)) fun c d σ G' H' _ _ z => ?_) fun v H' z => ?_)) ?_
      · rw [hb] at z; exact z.elim
      · rw [hb] at z; exact z
      · refine b_cons (s_asg (P := isT [nsL (lookN h x).1, natP (lookN h x).2]) (e_fn (kn_looked_up T) hr (h.tab, x) ⟨O.tin, by show x.length ≤ 1000; omega, O.look x⟩ (a_cons (e_ofld (P := tabO K h.tab) 0 rfl T.cl_Desk T.na_Desk_packed rfl) (a_one (e_v 1 rfl)))) (g_pair 2 3 (ws := [2, 3]) sc_Desk_levels.nd)) ?_
        refine b_one (s_retPO (e_cast (e_cat (e_cat (e_lst (a_one (e_cast (R := natP (x.length - 1)) (e_sub (e_lenL T.n_len (e_v 1 rfl)) e_int) ?_))) (e_slL (e_v 2 rfl) (o_at e_int) (o_at (e_neg e_int))) ?_) (e_lst (a_one (e_v 3 rfl))) ?_) ?_) rfl)
        · refine congrArg isI ?_
          rw [List.length_map]
          show (x.length : Int) - 1 = ((x.length - 1 : Nat) : Int)
          omega
        · rw [cut_mid (f := natP) (l := (lookN h x).1) (by omega), List.length_map, line_eq, List.length_take, List.length_drop]
          (simp only [List.length_cons, List.length_nil]; omega)
        · rw [cut_mid (f := natP) (l := (lookN h x).1) (by omega), List.length_append, List.length_map, line_eq, List.length_take, List.length_drop]
          (simp only [List.length_cons, List.length_nil]; omega)
        · show _ = okE (levR h x) nsL
          rw [er, cut_mid (f := natP) (l := (lookN h x).1) (by omega)]
          show isL _ = isL (((x.length - 1) :: (((lookN h x).1.drop 1).take (x.length - 1) ++ [(lookN h x).2])).map natP)
          rw [List.map_cons, List.map_append, len, show x.length + 1 - 2 = x.length - 1 by omega]; rfl)
theorem km_part (T : Txt K mg) : Km P w K mg base (L2.CX P w) 5 (He.ga K "Desk") "part" ["self", "letters"] (sp_dk K partR) :=
  km_of T.me_Desk_part (fn_ownX T.df_Desk_part (fun _ => rfl) fun cdv A outer s H E z G a dx hz sG hr hE => by
    obtain ⟨h, x⟩ := z
    have O : HOk h := hz.1
    have hx : x.length ≤ 8192 := hz.2
    have tk' : tkOf P w K mg base N_Desk_part d_Desk_part (He.ma K (He.ga K "Desk") "part") cdv A outer s H E := takes_of rfl rfl rfl rfl
    cases hb : okLet x with
    | false =>
      have er : partR h x = .error (-4) := by unfold partR; rw [if_neg (by rw [hb]; exact Bool.false_ne_true)]
      refine b_cons (s_exprN (N := As.no) (e_imp (e_fnX (kn_wlet T) hr x (Nat.le_trans hx (by decide)) tk' (a_one (e_v 1 rfl)) (hE.to rfl (fun _ _ h => h) fun c d G' z => ?_)) fun v H' z => ?_)) b_dead
      · show (rfX K (partR h x)).p c d G'
        rw [er]
        rw [hb] at z; exact z
      · rw [hb] at z; exact z
    | true =>
      have hl := okLet_len hb
      have er : partR h x = .ok ((gapsP (lookN h x).1 h.lst.l h.lst.r).length :: gapsP (lookN h x).1 h.lst.l h.lst.r) := by unfold partR; rw [if_pos hb]
      have len : (lookN h x).1.length = x.length + 1 := lookP_len _ _ _
      refine b_cons (s_expr (P := isN) (e_imp (e_fnX (kn_wlet T) hr x (Nat.le_trans hx (by decide)) tk' (a_one (e_v 1 rfl)) fun c d σ G' H' _ _ z => ?_) fun v H' z => ?_)) ?_
      · rw [hb] at z; exact z.elim
      · rw [hb] at z; exact z
      · refine b_cons (s_set 2 sc_Desk_part.nd (e_fn (kn_parted T) (hr.mono (by decide)) ((lookN h x).1, h.lst.l, h.lst.r) ⟨by show 2 ≤ (lookN h x).1.length; omega, by show (lookN h x).1.length ≤ 10000; omega⟩ (a_cons (e_ixT (Ps := [nsL (lookN h x).1, natP (lookN h x).2]) (e_fn (kn_looked_up T) hr (h.tab, x) ⟨O.tin, by show x.length ≤ 1000; omega, O.look x⟩ (a_cons (e_ofld (P := tabO K h.tab) 0 rfl T.cl_Desk T.na_Desk_packed rfl) (a_one (e_v 1 rfl)))) e_int rfl) (a_cons (e_fld (e_ofld (P := lstO K h.lst) 0 rfl T.cl_Desk T.na_Desk_held rfl) T.cl_Listed T.na_Listed_left rfl) (a_one (e_fld (e_ofld (P := lstO K h.lst) 0 rfl T.cl_Desk T.na_Desk_held rfl) T.cl_Listed T.na_Listed_right rfl)))))) ?_
        refine b_one (s_retPO (e_cast (e_cat (e_lst (a_one (e_cast (R := natP (gapsP (lookN h x).1 h.lst.l h.lst.r).length) (e_lenL T.n_len (e_v 2 rfl)) (by rw [List.length_map])))) (e_v 2 rfl) ?_) ?_) rfl)
        · have : (gapsP (lookN h x).1 h.lst.l h.lst.r).length ≤ (lookN h x).1.length := by
            unfold gapsP
            rw [List.length_map]
            refine Nat.le_trans (List.length_filter_le _ _) ?_
            rw [List.length_range]; omega
          show 1 + ((gapsP (lookN h x).1 h.lst.l h.lst.r).map natP).length ≤ sizeLine
          rw [List.length_map, line_eq]; omega
        · show _ = okE (partR h x) nsL
          rw [er]; rfl)
end
end Q
/-! The desk's calls that change, that check, that find. -/
namespace Q
open PySem PySem.Spec PyProof.Rows L2 Pt
open VahypBase (Bytes isLetter)
open Vahypa (Pat Lst)
open Vahypd (Node Table Held)
def chgH (h : Held) (ps : List Pat) : Held := Vahypd.held { h.lst with pats := ps }
def keptN (a b : Table) : Nat := ((numsOf b a).filter fun o => o.isSome).length
def chgN (h : Held) (ps : List Pat) : List Nat := countsN (chgH h ps) ++ [keptN h.tab.1 (chgH h ps).tab.1]
theorem chg_ok {h : Held} {ps : List Pat} (g : PatsGood ps) : HOk (chgH h ps) := ⟨g, rfl⟩
section
variable {base : Heap} {P : Program} {w : World} {K : PySem.W.Frag} {mg : Str → Option Value}
abbrev sp_change (K : PySem.W.Frag) : Sp := oSp (fun z : Held × List Pat => HOk z.1 ∧ PatsGood z.2) (He.ga K "Desk") (fun z => dkF K (some z.1)) (fun z => [patsP K z.2]) (fun z => dkF K (some (chgH z.1 z.2))) (fun z => nsL (chgN z.1 z.2)) (fun z => dkF K (some (chgH z.1 z.2))) fun _ => noX
theorem km_change (T : Txt K mg) : Km P w K mg base CX0 12 (He.ga K "Desk") "change" ["self", "patterns"] (sp_change K) :=
  km_of T.me_Desk_change (fn_own0 T.df_Desk_change (fun _ => rfl) fun cdv A outer s H E z G a dx hz sG hr => by
    obtain ⟨h, ps⟩ := z
    have O : HOk h := hz.1
    have g : PatsGood ps := hz.2
    have O' : HOk (chgH h ps) := chg_ok g
    refine b_cons (s_set 2 sc_Desk_change.nd (e_ofld (P := tabO K h.tab) 0 rfl T.cl_Desk T.na_Desk_packed rfl)) ?_
    refine b_cons (s_ofld 0 rfl T.cl_Desk T.na_Desk_held (e_meth (km_with T) T.cl_Listed (hr.mono (by decide)) (h.lst, ps) trivial (e_ofld (P := lstO K h.lst) 0 rfl T.cl_Desk T.na_Desk_held rfl) (a_one (e_v 1 rfl)) rfl rfl)) ?_
    refine b_cons (s_ofld 0 rfl T.cl_Desk T.na_Desk_packed (e_fn (kn_packed T) hr ps ⟨Nat.le_trans g.few (by decide), g.ok.2⟩ (a_one (e_v 1 rfl)))) ?_
    refine b_one (s_retO (fs := dkF K (some (chgH h ps))) (e_cat (Ps := (countsN (chgH h ps)).map natP) (e_oMeth0 (E := fun _ _ _ => False) 0 (km_counts T) T.cl_Desk (hr.mono (by decide)) (chgH h ps) O' pass0 rfl rfl rfl fun _ _ _ _ _ _ _ z => z.elim) (e_lst (a_one (P := natP (keptN h.tab.1 (chgH h ps).tab.1)) (e_fn (kn_many_kept T) (hr.mono (by decide)) (h.tab, (chgH h ps).tab) O.tin (a_cons (e_v 2 rfl) (a_one (e_ofld (P := tabO K (chgH h ps).tab) 0 rfl T.cl_Desk T.na_Desk_packed rfl)))))) ?_) rfl ?_)
    · exact small_line (by show 5 + 1 ≤ 1000000; decide)
    · intro v H' hv
      show (isL ((chgN h ps).map natP)).p v H'
      unfold chgN
      rw [List.map_append]; exact hv)
/-- what add makes of the patterns -/
def addR (h : Held) (c : Bytes) : Except Int (List Pat) := match Vahypa.patOf c with
  | none => .error (-4)
  | some p => match placeOf h.lst.pats (Vahypd.signsOf p) with
    | none => if h.lst.pats.length < 40 then .ok (h.lst.pats ++ [p]) else .error (-7)
    | some k => .ok (h.lst.pats.take k ++ [p] ++ h.lst.pats.drop (k + 1))
def dropR (h : Held) (p : Int) : Except Int (List Pat) := if 0 ≤ p ∧ p < (h.lst.pats.length : Int) then .ok (h.lst.pats.take p.toNat ++ h.lst.pats.drop (p.toNat + 1)) else .error (-2)
theorem add_good {h : Held} (O : HOk h) {c : Bytes} {ps : List Pat} (e : addR h c = .ok ps) : PatsGood ps := by
  unfold addR at e
  cases hp : Vahypa.patOf c with
  | none => rw [hp] at e; cases e
  | some p =>
    rw [hp] at e
    dsimp only at e
    cases hk : placeOf h.lst.pats (Vahypd.signsOf p) with
    | none =>
      rw [hk] at e
      dsimp only at e
      split at e
      · cases e
        exact O.good.snoc (by assumption) hp (by rw [hk]; rfl)
      · cases e
    | some k =>
      rw [hk] at e
      cases e
      unfold placeOf at hk
      rw [List.findIdx?_eq_some_iff_getElem] at hk
      obtain ⟨hkl, hke, _⟩ := hk
      have hs : Vahypd.signsOf h.lst.pats[k] = Vahypd.signsOf p := of_decide_eq_true hke
      have sp : h.lst.pats = h.lst.pats.take k ++ h.lst.pats[k] :: h.lst.pats.drop (k + 1) := by
        rw [← List.drop_eq_getElem_cons hkl, List.take_append_drop]
      have ap := O.good.apart
      rw [sp, List.pairwise_append, List.pairwise_cons] at ap
      obtain ⟨a1, ⟨a2, a3⟩, a4⟩ := ap
      refine ⟨?_, fun q hq => ?_, ?_⟩
      · have := O.good.few
        rw [List.length_append, List.length_append, List.length_take, List.length_drop]
        (simp only [List.length_cons, List.length_nil])
        omega
      · rw [List.append_assoc] at hq
        (rcases List.mem_append.mp hq with hq | hq)
        · exact O.good.each q (List.mem_of_mem_take hq)
        · (rcases List.mem_cons.mp hq with rfl | hq)
          · exact ⟨c, hp⟩
          · exact O.good.each q (List.mem_of_mem_drop hq)
      · rw [List.append_assoc, List.pairwise_append]
        refine ⟨a1, List.pairwise_cons.mpr ⟨fun q hq => ?_, a3⟩, fun x hx y hy => ?_⟩
        · rw [← hs]; exact a2 q hq
        · (rcases List.mem_cons.mp hy with rfl | hy)
          · rw [← hs]; exact a4 x hx _ (List.mem_cons_self ..)
          · exact a4 x hx y (List.mem_cons_of_mem _ hy)
theorem drop_good {h : Held} (O : HOk h) {p : Int} {ps : List Pat} (e : dropR h p = .ok ps) : PatsGood ps := by
  unfold dropR at e
  split at e
  · cases e
    have sub : (h.lst.pats.take p.toNat ++ h.lst.pats.drop (p.toNat + 1)).Sublist h.lst.pats := by
      have h1 : (h.lst.pats.drop (p.toNat + 1)).Sublist (h.lst.pats.drop p.toNat) := by
        rw [← List.drop_drop]
        exact List.drop_sublist _ _
      have := List.Sublist.append (List.Sublist.refl (h.lst.pats.take p.toNat)) h1
      rwa [List.take_append_drop] at this
    exact ⟨Nat.le_trans sub.length_le O.good.few, fun q hq => O.good.each q (sub.subset hq), O.good.apart.sublist sub⟩
  · cases e
def chgO (h : Held) (r : Except Int (List Pat)) : Held := match r with
  | .ok ps => chgH h ps
  | .error _ => h
abbrev sp_add (K : PySem.W.Frag) : Sp := oSp (fun z : Held × Bytes => HOk z.1 ∧ z.2.length ≤ 8192) (He.ga K "Desk") (fun z => dkF K (some z.1)) (fun z => [bysP z.2]) (fun z => dkF K (some (chgO z.1 (addR z.1 z.2)))) (fun z => okE (addR z.1 z.2) fun ps => nsL (chgN z.1 ps)) (fun z => dkF K (some z.1)) fun z => rfX K (addR z.1 z.2)
theorem km_add (T : Txt K mg) : Km P w K mg base (L2.CX P w) 13 (He.ga K "Desk") "add" ["self", "chunk"] (sp_add K) :=
  km_of T.me_Desk_add (fn_ownX T.df_Desk_add (fun _ => rfl) fun cdv A outer s H E z G a dx hz sG hr hE => by
    obtain ⟨h, c⟩ := z
    have O : HOk h := hz.1
    have hc : c.length ≤ 8192 := hz.2
    have tk' : tkOf P w K mg base N_Desk_add d_Desk_add (He.ma K (He.ga K "Desk") "add") cdv A outer s H E := takes_of rfl rfl rfl rfl
    refine b_cons (s_set 2 sc_Desk_add.nd (e_fn (kn_read_pattern T) (hr.mono (by decide)) c (Nat.le_trans hc (by decide)) (a_one (e_v 1 rfl)))) ?_
    cases hp : Vahypa.patOf c with
    | none =>
      have er : addR h c = .error (-4) := by unfold addR; rw [hp]
      refine b_cons (s_wantX (N := As.no) T (hr.mono (by decide)) tk' (a_cons (e_notN (P := isN) (k := true) (e_v 2 rfl) nonP_N e_non) (a_one (e_glob T.c_BAD))) (hE.to rfl (fun _ _ h => h) fun c' d G' z => ?_)) b_dead
      show (rfX K (addR h c)).p c' d G'
      rw [er]; exact z
    | some p =>
      have hx := pat_facts hp
      refine b_cons (s_want T (hr.mono (by decide)) tk' (a_cons (e_notN (P := patO K p) (k := false) (e_v 2 rfl) nonP_O e_non) (a_one (e_glob T.c_BAD)))) ?_
      refine b_cons (s_set (P := patsP K h.lst.pats) 3 sc_Desk_add.nd (e_fld (e_ofld (P := lstO K h.lst) 0 rfl T.cl_Desk T.na_Desk_held rfl) T.cl_Listed T.na_Listed_patterns rfl)) ?_
      refine b_cons (s_set 4 sc_Desk_add.nd (e_fn (kn_place_of T) (hr.mono (by decide)) (h.lst.pats, Vahypd.signsOf p) O.good.ok (a_cons (e_v 3 rfl) (a_one (e_meth0 (km_signs T) T.cl_Pattern (hr.mono (by decide)) p hx.2.1 (e_v 2 rfl) rfl rfl))))) ?_
      have len50 := O.good.few
      cases hk : placeOf h.lst.pats (Vahypd.signsOf p) with
      | none =>
        by_cases h40 : h.lst.pats.length < 40
        · have er : addR h c = .ok (h.lst.pats ++ [p]) := by unfold addR; rw [hp]; dsimp only; rw [hk]; dsimp only; rw [if_pos h40]
          refine b_cons (s_want T (hr.mono (by decide)) tk' (a_cons (e_cast (e_or (k := false) (k' := true) (e_notN (P := isN) (k := true) (e_v 4 rfl) nonP_N e_non) fun _ => e_one (e_cast (e_lt (e_lenL T.n_len (e_v 3 rfl)) (e_glob T.c_MOST_PATTERNS)) ?_)) rfl) (a_one (e_glob T.c_FULL)))) ?_
          · refine congrArg isB ?_
            rw [List.length_map, decide_eq_true_eq]; omega
          refine b_when (k := true) (t_isN (P := isN) (e_v 4 rfl) nonP_N e_non) (fun _ => ?_) fun h => by cases h
          refine b_one (s_retO (fs := dkF K (some (chgO h (addR h c)))) (e_oMeth (fr := False) (E := fun _ _ _ => False) 0 (km_change T) T.cl_Desk hr (h, h.lst.pats ++ [p]) ⟨O, add_good O er⟩ pass0 rfl (a_one (e_cast (e_cat (e_v 3 rfl) (e_lst (a_one (e_v 2 rfl))) ?_) ?_)) rfl rfl fun _ _ _ _ _ _ _ z => z.elim) ?_ fun v H' hv => ?_)
          · rw [List.length_map, line_eq]; simp only [List.length_cons, List.length_nil]; omega
          · show isL _ = isL ((h.lst.pats ++ [p]).map (patO K))
            rw [List.map_append]; rfl
          · rw [er]; rfl
          · show (okE (addR h c) _).p v H'
            rw [er]; exact hv
        · have er : addR h c = .error (-7) := by unfold addR; rw [hp]; dsimp only; rw [hk]; dsimp only; rw [if_neg h40]
          refine b_cons (s_wantX (N := As.no) T (hr.mono (by decide)) tk' (a_cons (e_cast (e_or (k := false) (k' := false) (e_notN (P := isN) (k := true) (e_v 4 rfl) nonP_N e_non) fun _ => e_one (e_cast (e_lt (e_lenL T.n_len (e_v 3 rfl)) (e_glob T.c_MOST_PATTERNS)) ?_)) rfl) (a_one (e_glob T.c_FULL))) (hE.to rfl (fun _ _ h => h) fun c' d G' z => ?_)) b_dead
          · refine congrArg isB ?_
            rw [List.length_map, decide_eq_false_iff_not]; omega
          · show (rfX K (addR h c)).p c' d G'
            rw [er]; exact z
      | some k =>
        have er : addR h c = .ok (h.lst.pats.take k ++ [p] ++ h.lst.pats.drop (k + 1)) := by unfold addR; rw [hp]; dsimp only; rw [hk]
        have hkl : k < h.lst.pats.length := by
          unfold placeOf at hk
          rw [List.findIdx?_eq_some_iff_getElem] at hk
          exact hk.1
        refine b_cons (s_want T (hr.mono (by decide)) tk' (a_cons (e_cast (e_or (k := true) (k' := true) (e_notN (P := natP k) (k := false) (e_v 4 rfl) nonP_nat e_non) fun h => by cases h) rfl) (a_one (e_glob T.c_FULL)))) ?_
        refine b_when (k := false) (t_isN (P := natP k) (e_v 4 rfl) nonP_nat e_non) (fun h => by cases h) fun _ => ?_
        refine b_one (s_retO (fs := dkF K (some (chgO h (addR h c)))) (e_oMeth (fr := False) (E := fun _ _ _ => False) 0 (km_change T) T.cl_Desk hr (h, h.lst.pats.take k ++ [p] ++ h.lst.pats.drop (k + 1)) ⟨O, add_good O er⟩ pass0 rfl (a_one (e_cast (e_cat (e_cat (e_cast (R := patsP K (h.lst.pats.take k)) (e_slL (e_v 3 rfl) o_no (o_at (e_v 4 rfl))) (congrArg isL cut_take)) (e_lst (a_one (e_v 2 rfl))) ?_) (e_cast (R := patsP K (h.lst.pats.drop (k + 1))) (e_slL (e_v 3 rfl) (o_at (e_add (e_v 4 rfl) e_int)) o_no) (congrArg isL (cut_drop (a := k + 1) (by omega)))) ?_) ?_)) rfl rfl fun _ _ _ _ _ _ _ z => z.elim) ?_ fun v H' hv => ?_)
        · rw [List.length_map, line_eq, List.length_take]; simp only [List.length_cons, List.length_nil]; omega
        · rw [List.length_append, List.length_map, List.length_map, line_eq, List.length_take, List.length_drop]; simp only [List.length_cons, List.length_nil]; omega
        · show isL _ = isL ((h.lst.pats.take k ++ [p] ++ h.lst.pats.drop (k + 1)).map (patO K))
          rw [List.map_append, List.map_append]; rfl
        · rw [er]; rfl
        · show (okE (addR h c) _).p v H'
          rw [er]; exact hv)
abbrev sp_drop (K : PySem.W.Frag) : Sp := oSp (fun z : Held × Int => HOk z.1) (He.ga K "Desk") (fun z => dkF K (some z.1)) (fun z => [isI z.2]) (fun z => dkF K (some (chgO z.1 (dropR z.1 z.2)))) (fun z => okE (dropR z.1 z.2) fun ps => nsL (chgN z.1 ps)) (fun z => dkF K (some z.1)) fun z => rfX K (dropR z.1 z.2)
theorem km_drop (T : Txt K mg) : Km P w K mg base (L2.CX P w) 13 (He.ga K "Desk") "drop" ["self", "p"] (sp_drop K) :=
  km_of T.me_Desk_drop (fn_ownX T.df_Desk_drop (fun _ => rfl) fun cdv A outer s H E z G a dx hz sG hr hE => by
    obtain ⟨h, p⟩ := z
    have O : HOk h := hz
    have len50 := O.good.few
    have tk' : tkOf P w K mg base N_Desk_drop d_Desk_drop (He.ma K (He.ga K "Desk") "drop") cdv A outer s H E := takes_of rfl rfl rfl rfl
    refine b_cons (s_set (P := patsP K h.lst.pats) 2 sc_Desk_drop.nd (e_fld (e_ofld (P := lstO K h.lst) 0 rfl T.cl_Desk T.na_Desk_held rfl) T.cl_Listed T.na_Listed_patterns rfl)) ?_
    by_cases hp : 0 ≤ p ∧ p < (h.lst.pats.length : Int)
    · have er : dropR h p = .ok (h.lst.pats.take p.toNat ++ h.lst.pats.drop (p.toNat + 1)) := by unfold dropR; rw [if_pos hp]
      have ep : isI p = natP p.toNat := by rw [natP, Int.toNat_of_nonneg hp.1]
      refine b_cons (s_want T (hr.mono (by decide)) tk' (a_cons (e_cast (e_lelt e_int (e_v 1 rfl) (e_lenL T.n_len (e_v 2 rfl))) ?_) (a_one (e_glob T.c_NONE)))) ?_
      · refine congrArg isB ?_
        rw [List.length_map, decide_eq_true hp.1, decide_eq_true hp.2]; rfl
      · refine b_one (s_retO (fs := dkF K (some (chgO h (dropR h p)))) (e_oMeth (fr := False) (E := fun _ _ _ => False) 0 (km_change T) T.cl_Desk hr (h, h.lst.pats.take p.toNat ++ h.lst.pats.drop (p.toNat + 1)) ⟨O, drop_good O er⟩ pass0 rfl (a_one (e_cast (e_cat (e_cast (R := patsP K (h.lst.pats.take p.toNat)) (e_slL (e_v 2 rfl) o_no (o_at (e_cast (e_v 1 rfl) ep))) (congrArg isL cut_take)) (e_cast (R := patsP K (h.lst.pats.drop (p.toNat + 1))) (e_slL (e_v 2 rfl) (o_at (e_add (e_cast (e_v 1 rfl) ep) e_int)) o_no) (congrArg isL (cut_drop (a := p.toNat + 1) (by omega)))) ?_) ?_)) rfl rfl fun _ _ _ _ _ _ _ z => z.elim) ?_ fun v H' hv => ?_)
        · rw [List.length_map, List.length_map, line_eq, List.length_take, List.length_drop]; omega
        · show isL _ = isL ((h.lst.pats.take p.toNat ++ h.lst.pats.drop (p.toNat + 1)).map (patO K))
          rw [List.map_append]
        · rw [er]; rfl
        · show (okE (dropR h p) _).p v H'
          rw [er]; exact hv
    · have er : dropR h p = .error (-2) := by unfold dropR; rw [if_neg hp]
      refine b_cons (s_wantX (N := As.no) T (hr.mono (by decide)) tk' (a_cons (e_cast (e_lelt e_int (e_v 1 rfl) (e_lenL T.n_len (e_v 2 rfl))) ?_) (a_one (e_glob T.c_NONE))) (hE.to rfl (fun _ _ h => h) fun c' d G' z => ?_)) b_dead
      · refine congrArg isB ?_
        rw [List.length_map]
        by_cases h0 : 0 ≤ p
        · rw [decide_eq_false (fun z => hp ⟨h0, z⟩), Bool.and_false]
        · rw [decide_eq_false h0, Bool.false_and]
      · show (rfX K (dropR h p)).p c' d G'
        rw [er]; exact z)
end
end Q
/-! The desk's calls: check, find, node. -/
namespace Q
open PySem PySem.Spec PyProof.Rows L2 Pt
open VahypBase (Bytes isLetter)
open Vahypa (Pat Lst)
open Vahypd (Node Table Held nodeAt nodesBy)
theorem pairsIn_len : ∀ l : List Nat, 2 * (Vahypd.pairsIn l).length ≤ l.length
  | [] => Nat.le_refl _
  | [a] => by show 2 * 0 ≤ 1; omega
  | a :: b :: r => by
    have := pairsIn_len r
    show 2 * ((a, b) :: Vahypd.pairsIn r).length ≤ (a :: b :: r).length
    simp only [List.length_cons]
    omega
theorem node_small {l : List Nat} {n : Nat} {x : Node × Nat} (h : nodeR l n = some x) : 2 * x.1.kids.length ≤ l.length := by
  unfold nodeR at h
  cases h1 : outR l n with
  | none => (rw [h1] at h; cases h)
  | some a =>
    rw [h1] at h
    dsimp only [Option.bind_some] at h
    cases h2 : oneR l a.2 l.length with
    | none => rw [h2] at h; cases h
    | some b =>
      rw [h2] at h
      dsimp only [Option.bind_some] at h
      cases h3 : someR l b.2 (2 * b.1) with
      | none => rw [h3] at h; cases h
      | some c =>
        rw [h3] at h
        cases h
        obtain ⟨i1, i2, i3⟩ := someR_le h3
        have := pairsIn_len c.1
        show 2 * (Vahypd.pairsIn c.1).length ≤ l.length
        have : c.1.length ≤ l.length := by rw [i3, List.length_take, List.length_drop]; omega
        omega
theorem nodes_small {l : List Nat} : ∀ (k n : Nat) (x : Table × Nat), nodesR l k n = some x → ∀ y ∈ x.1, 2 * y.kids.length ≤ l.length
  | 0, n, x, h, y, hy => by cases h; cases hy
  | k + 1, n, x, h, y, hy => by
    unfold nodesR at h
    cases h1 : nodeR l n with
    | none => (rw [h1] at h; cases h)
    | some a =>
      rw [h1] at h
      dsimp only [Option.bind_some] at h
      cases h2 : nodesR l k a.2 with
      | none => rw [h2] at h; cases h
      | some b =>
        rw [h2] at h
        cases h
        (rcases List.mem_cons.mp hy with rfl | hy)
        · exact node_small h1
        · exact nodes_small k a.2 b h2 y hy
theorem tab_small {l : List Nat} {t : Table × Nat} (h : tabR l = some t) : t.1.length ≤ 300 ∧ ∀ y ∈ t.1, 2 * y.kids.length ≤ l.length := by
  unfold tabR at h
  cases h1 : oneR l 0 300 with
  | none => (rw [h1] at h; cases h)
  | some x =>
    obtain ⟨k1, k2, k3, k4⟩ := oneR_le h1
    rw [h1] at h
    dsimp only [Option.bind_some] at h
    cases h2 : nodesR l x.1 x.2 with
    | none => rw [h2] at h; cases h
    | some y =>
      rw [h2] at h
      dsimp only [Option.bind_some] at h
      cases h3 : someR l y.2 1 with
      | none => rw [h3] at h; cases h
      | some z =>
        rw [h3] at h
        dsimp only [Option.bind_some] at h
        split at h
        · cases h
        · cases h
          obtain ⟨_, _, j3⟩ := nodesR_le x.1 x.2 y (by omega) h2
          exact ⟨by show y.1.length ≤ 300; omega, fun q hq => nodes_small _ _ y h2 q hq⟩
theorem proper_in {t : Table × Nat} (h : Vahypd.proper t = true) (h1 : t.1.length ≤ 1000) (h2 : ∀ y ∈ t.1, y.kids.length ≤ 2000) : TabIn t := by
  unfold Vahypd.proper at h
  rw [Bool.and_eq_true, decide_eq_true_eq, List.all_eq_true] at h
  refine ⟨h.1, fun k n hn x hx => ?_, h1, h2⟩
  have hm : (n, k) ∈ t.1.zipIdx := by
    rw [List.mem_zipIdx_iff_getElem?]; exact hn
  have := h.2 _ hm
  rw [Bool.and_eq_true, List.all_eq_true] at this
  exact of_decide_eq_true (this.1 x hx)
def checkR (h : Held) (l : List Int) : Except Int (List Nat) := match tableIn l with
  | none => .error (-4)
  | some t => .ok [if (Vahypd.proper t && tellsB t h.lst.pats) = true then 1 else 0, if Vahypd.proper t = true then 1 else 0, t.1.length]
def findR (h : Held) (c : Bytes) : Except Int (List Nat) := match Vahypa.patOf c with
  | none => .error (-4)
  | some p => .ok ((if (placeOf h.lst.pats (Vahypd.signsOf p)).isSome = true then 1 else 0) :: nodesBy h.tab.1 h.tab.2 (Vahypd.signsOf p))
def nodeRR (h : Held) (k : Int) : Except Int (List Nat) := if 0 ≤ k ∧ k < (h.tab.1.length : Int) then .ok ((endsOf h.tab.1).getD k.toNat 0 :: Vahypd.nodeRow (nodeAt h.tab.1 k.toNat)) else .error (-2)
theorem tableIn_small {l : List Int} {t : Table × Nat} (hl : l.length ≤ 2000) (h : tableIn l = some t) : t.1.length ≤ 300 ∧ ∀ y ∈ t.1, y.kids.length ≤ 1000 := by
  unfold tableIn at h
  split at h
  · cases h
  · obtain ⟨h1, h2⟩ := tab_small h
    refine ⟨h1, fun y hy => ?_⟩
    have := h2 y hy
    rw [List.length_map] at this
    omega
theorem bool_natP (b : Bool) : isI (if b = true then 1 else 0) = natP (if b = true then 1 else 0) := by cases b <;> rfl
section
variable {base : Heap} {P : Program} {w : World} {K : PySem.W.Frag} {mg : Str → Option Value}
abbrev sp_check (K : PySem.W.Frag) : Sp := oSp (fun z : Held × List Int => HOk z.1 ∧ z.2.length ≤ 2000) (He.ga K "Desk") (fun z => dkF K (some z.1)) (fun z => [isIs z.2]) (fun z => dkF K (some z.1)) (fun z => okE (checkR z.1 z.2) nsL) (fun z => dkF K (some z.1)) fun z => rfX K (checkR z.1 z.2)
theorem km_check (T : Txt K mg) : Km P w K mg base (L2.CX P w) 6 (He.ga K "Desk") "check" ["self", "row"] (sp_check K) :=
  km_of T.me_Desk_check (fn_ownX T.df_Desk_check (fun _ => rfl) fun cdv A outer s H E z G a dx hz sG hr hE => by
    obtain ⟨h, l⟩ := z
    have O : HOk h := hz.1
    have hl : l.length ≤ 2000 := hz.2
    have tk' : tkOf P w K mg base N_Desk_check d_Desk_check (He.ma K (He.ga K "Desk") "check") cdv A outer s H E := takes_of rfl rfl rfl rfl
    refine b_cons (s_set 2 sc_Desk_check.nd (e_fn (kn_read_table T) hr l (Nat.le_trans hl (by decide)) (a_one (e_v 1 rfl)))) ?_
    cases ht : tableIn l with
    | none =>
      have er : checkR h l = .error (-4) := by unfold checkR; rw [ht]
      refine b_cons (s_wantX (N := As.no) T (hr.mono (by decide)) tk' (a_cons (e_notN (P := isN) (k := true) (e_v 2 rfl) nonP_N e_non) (a_one (e_glob T.c_BAD))) (hE.to rfl (fun _ _ h => h) fun c' d G' z => ?_)) b_dead
      show (rfX K (checkR h l)).p c' d G'
      rw [er]; exact z
    | some t =>
      have er : checkR h l = .ok [if (Vahypd.proper t && tellsB t h.lst.pats) = true then 1 else 0, if Vahypd.proper t = true then 1 else 0, t.1.length] := by unfold checkR; rw [ht]
      obtain ⟨hs1, hs2⟩ := tableIn_small hl ht
      refine b_cons (s_want T (hr.mono (by decide)) tk' (a_cons (e_notN (P := tabO K t) (k := false) (e_v 2 rfl) nonP_O e_non) (a_one (e_glob T.c_BAD)))) ?_
      refine b_cons (s_set 3 sc_Desk_check.nd (e_fn (kn_right T) (hr.mono (by decide)) t ⟨by omega, fun n hn => Nat.le_trans (hs2 n hn) (by decide)⟩ (a_one (e_v 2 rfl)))) ?_
      refine b_one (s_retPO (e_cast (e_lst (a_cons (e_cast (e_intB T.n_int (e_and (e_v 3 rfl) fun hk => e_one (e_meth (km_tell T) T.cl_Table (hr.mono (by decide)) (t, h.lst.pats) ⟨proper_in hk (by show t.1.length ≤ 1000; omega) fun y hy => Nat.le_trans (hs2 y hy) (by decide), O.good.ok⟩ (e_v 2 rfl) (a_one (e_fld (e_ofld (P := lstO K h.lst) 0 rfl T.cl_Desk T.na_Desk_held rfl) T.cl_Listed T.na_Listed_patterns rfl)) rfl rfl))) (bool_natP _)) (a_cons (e_cast (e_intB T.n_int (e_v 3 rfl)) (bool_natP _)) (a_one (e_cast (R := natP t.1.length) (e_lenL T.n_len (e_fld (e_v 2 rfl) T.cl_Table T.na_Table_nodes rfl)) (by rw [List.length_map])))))) ?_) rfl)
      show _ = okE (checkR h l) nsL
      rw [er]; rfl)
theorem km_find (T : Txt K mg) : Km P w K mg base (L2.CX P w) 4 (He.ga K "Desk") "find" ["self", "chunk"] (sp_dk K findR) :=
  km_of T.me_Desk_find (fn_ownX T.df_Desk_find (fun _ => rfl) fun cdv A outer s H E z G a dx hz sG hr hE => by
    obtain ⟨h, c⟩ := z
    have O : HOk h := hz.1
    have hc : c.length ≤ 8192 := hz.2
    have tk' : tkOf P w K mg base N_Desk_find d_Desk_find (He.ma K (He.ga K "Desk") "find") cdv A outer s H E := takes_of rfl rfl rfl rfl
    refine b_cons (s_set 2 sc_Desk_find.nd (e_fn (kn_read_pattern T) hr c (Nat.le_trans hc (by decide)) (a_one (e_v 1 rfl)))) ?_
    cases hp : Vahypa.patOf c with
    | none =>
      have er : findR h c = .error (-4) := by unfold findR; rw [hp]
      refine b_cons (s_wantX (N := As.no) T hr tk' (a_cons (e_notN (P := isN) (k := true) (e_v 2 rfl) nonP_N e_non) (a_one (e_glob T.c_BAD))) (hE.to rfl (fun _ _ h => h) fun c' d G' z => ?_)) b_dead
      show (rfX K (findR h c)).p c' d G'
      rw [er]; exact z
    | some p =>
      have hx := pat_facts hp
      have hsl := signs_len hx.2.1
      have er : findR h c = .ok ((if (placeOf h.lst.pats (Vahypd.signsOf p)).isSome = true then 1 else 0) :: nodesBy h.tab.1 h.tab.2 (Vahypd.signsOf p)) := by unfold findR; rw [hp]
      have nb : ∀ (k : Nat) (m : List Nat), (nodesBy h.tab.1 k m).length ≤ m.length + 1 := by
        intro k m
        induction m generalizing k with
        | nil => exact Nat.le_refl _
        | cons a r ih =>
          show (k :: (match Vahypd.kidAt h.tab.1 k a with
            | none => []
            | some j => nodesBy h.tab.1 j r)).length ≤ _
          cases Vahypd.kidAt h.tab.1 k a with
          | none => simp
          | some j => have := ih j; simp; omega
      refine b_cons (s_want T hr tk' (a_cons (e_notN (P := patO K p) (k := false) (e_v 2 rfl) nonP_O e_non) (a_one (e_glob T.c_BAD)))) ?_
      refine b_cons (s_set (P := isB ((placeOf h.lst.pats (Vahypd.signsOf p)).isSome)) 3 sc_Desk_find.nd (e_cast (e_notN (e_fn (kn_place_of T) (hr.mono (by decide)) (h.lst.pats, Vahypd.signsOf p) O.good.ok (a_cons (e_fld (e_ofld (P := lstO K h.lst) 0 rfl T.cl_Desk T.na_Desk_held rfl) T.cl_Listed T.na_Listed_patterns rfl) (a_one (e_meth0 (km_signs T) T.cl_Pattern (hr.mono (by decide)) p hx.2.1 (e_v 2 rfl) rfl rfl)))) (nonP_opt fun _ => nonP_nat) e_non) ?_)) ?_
      · cases placeOf h.lst.pats (Vahypd.signsOf p) <;> rfl
      · refine b_one (s_retPO (e_cast (e_cat (e_lst (a_one (e_cast (e_intB T.n_int (e_v 3 rfl)) (bool_natP _)))) (e_meth (km_way T) T.cl_Table (hr.mono (by decide)) (h.tab, false, Vahypd.signsOf p) ⟨O.tin, Nat.le_trans hsl (by decide)⟩ (e_ofld (P := tabO K h.tab) 0 rfl T.cl_Desk T.na_Desk_packed rfl) (a_one (e_meth0 (km_signs T) T.cl_Pattern (hr.mono (by decide)) p hx.2.1 (e_v 2 rfl) rfl rfl)) rfl rfl) ?_) ?_) rfl)
        · show 1 + ((nodesBy h.tab.1 h.tab.2 (Vahypd.signsOf p)).map natP).length ≤ sizeLine
          have := nb h.tab.2 (Vahypd.signsOf p)
          rw [List.length_map, line_eq]; omega
        · show _ = okE (findR h c) nsL
          rw [er]; rfl)
abbrev sp_nd (K : PySem.W.Frag) : Sp := oSp (fun z : Held × Int => HOk z.1) (He.ga K "Desk") (fun z => dkF K (some z.1)) (fun z => [isI z.2]) (fun z => dkF K (some z.1)) (fun z => okE (nodeRR z.1 z.2) nsL) (fun z => dkF K (some z.1)) fun z => rfX K (nodeRR z.1 z.2)
theorem km_dnode (T : Txt K mg) : Km P w K mg base (L2.CX P w) 4 (He.ga K "Desk") "node" ["self", "k"] (sp_nd K) :=
  km_of T.me_Desk_node (fn_ownX T.df_Desk_node (fun _ => rfl) fun cdv A outer s H E z G a dx hz sG hr hE => by
    obtain ⟨h, k⟩ := z
    have O : HOk h := hz
    have tk' : tkOf P w K mg base N_Desk_node d_Desk_node (He.ma K (He.ga K "Desk") "node") cdv A outer s H E := takes_of rfl rfl rfl rfl
    by_cases hk : 0 ≤ k ∧ k < (h.tab.1.length : Int)
    · have er : nodeRR h k = .ok ((endsOf h.tab.1).getD k.toNat 0 :: Vahypd.nodeRow (nodeAt h.tab.1 k.toNat)) := by unfold nodeRR; rw [if_pos hk]
      have ek : isI k = natP k.toNat := by rw [natP, Int.toNat_of_nonneg hk.1]
      have hkl : k.toNat < h.tab.1.length := by omega
      have hn := node_at hkl
      have he : (endsOf h.tab.1)[k.toNat]? = some ((endsOf h.tab.1).getD k.toNat 0) := by
        rw [List.getD_eq_getElem?_getD, List.getElem?_eq_getElem (by rw [endsOf_len]; exact hkl)]; rfl
      have nm := List.mem_of_getElem? hn
      have k1 := O.tsz.kids _ nm
      have k2 := O.tsz.outs _ nm
      refine b_cons (s_want T hr tk' (a_cons (e_cast (e_lelt e_int (e_v 1 rfl) (e_lenL T.n_len (e_fld (e_ofld (P := tabO K h.tab) 0 rfl T.cl_Desk T.na_Desk_packed rfl) T.cl_Table T.na_Table_nodes rfl))) ?_) (a_one (e_glob T.c_NONE)))) ?_
      · refine congrArg isB ?_
        rw [List.length_map, decide_eq_true hk.1, decide_eq_true hk.2]; rfl
      · refine b_one (s_retPO (e_cast (e_cat (e_lst (a_one (e_ixL (e_meth0 (km_ends T) T.cl_Table (hr.mono (by decide)) h.tab O.tin (e_ofld (P := tabO K h.tab) 0 rfl T.cl_Desk T.na_Desk_packed rfl) rfl rfl) (e_cast (e_v 1 rfl) ek) (at_map (f := natP) he)))) (e_fn (kn_node_told T) (hr.mono (by decide)) (nodeAt h.tab.1 k.toNat) ⟨Nat.le_trans k1 (by decide), Nat.le_trans k2 (by decide)⟩ (a_one (e_ixL (e_fld (e_ofld (P := tabO K h.tab) 0 rfl T.cl_Desk T.na_Desk_packed rfl) T.cl_Table T.na_Table_nodes rfl) (e_cast (e_v 1 rfl) ek) (at_map (f := nodP) hn)))) ?_) ?_) rfl)
        · show 1 + ((Vahypd.nodeRow (nodeAt h.tab.1 k.toNat)).map natP).length ≤ sizeLine
          have := row_len k1 k2
          rw [List.length_map, line_eq]; omega
        · show _ = okE (nodeRR h k) nsL
          rw [er]; rfl
    · have er : nodeRR h k = .error (-2) := by unfold nodeRR; rw [if_neg hk]
      refine b_cons (s_wantX (N := As.no) T hr tk' (a_cons (e_cast (e_lelt e_int (e_v 1 rfl) (e_lenL T.n_len (e_fld (e_ofld (P := tabO K h.tab) 0 rfl T.cl_Desk T.na_Desk_packed rfl) T.cl_Table T.na_Table_nodes rfl))) ?_) (a_one (e_glob T.c_NONE))) (hE.to rfl (fun _ _ h => h) fun c' d G' z => ?_)) b_dead
      · refine congrArg isB ?_
        rw [List.length_map]
        by_cases h0 : 0 ≤ k
        · rw [decide_eq_false (fun z => hk ⟨h0, z⟩), Bool.and_false]
        · rw [decide_eq_false h0, Bool.false_and]
      · show (rfX K (nodeRR h k)).p c' d G'
        rw [er]; exact z)
end
end Q
/-! A call on a desk. -/
namespace Q
open PySem PySem.Spec PyProof.Rows L2 Pt
open VahypBase (Bytes isLetter)
open Vahypa (Pat Lst)
open Vahypd (Node Table Held Obj)
def byO (l : List Int) : Bytes := l.map fun b => UInt8.ofNat b.toNat
def intL (l : List Nat) : List Int := l.map fun (n : Nat) => (n : Int)
def cR (o : Vahypd.Obj) (c n : Int) (l : List Int) : Except Int (List Int) := if c = 0 then .ok (loadA (byO l)) else match o with
  | none => .error (-1)
  | some h => if c = 1 then .ok (intL (countsN h)) else if c = 2 then .ok (intL (storeN h)) else if c = 3 then (levR h (byO l)).map intL else if c = 4 then (partR h (byO l)).map intL
    else if c = 5 then (addR h (byO l)).map (fun ps => intL (chgN h ps)) else if c = 6 then (dropR h n).map (fun ps => intL (chgN h ps)) else if c = 7 then (checkR h l).map intL else if c = 8 then (findR h (byO l)).map intL else (nodeRR h n).map intL
def cO (o : Vahypd.Obj) (c n : Int) (l : List Int) : Vahypd.Obj := if c = 0 then loadO o (byO l) else match o with
  | none => none
  | some h => if c = 5 then some (chgO h (addR h (byO l))) else if c = 6 then some (chgO h (dropR h n)) else some h
/-- what may be asked -/
structure CIn (c : Int) (l : List Int) : Prop where
  by_ : (c = 0 ∨ c = 3 ∨ c = 4 ∨ c = 5 ∨ c = 8) → l.length ≤ 8192 ∧ ∀ b ∈ l, 0 ≤ b ∧ b ≤ 255
  ns : c = 7 → l.length ≤ 2000
theorem bys_ints {l : List Int} (h : ∀ b ∈ l, 0 ≤ b ∧ b ≤ 255) : isIs l = bysP (byO l) := by
  refine congrArg isL ?_
  unfold byO
  rw [List.map_map]
  refine List.map_congr_left fun b hb => ?_
  obtain ⟨h1, h2⟩ := h b hb
  show isI b = isI (((UInt8.ofNat b.toNat).toNat : Nat) : Int)
  refine congrArg isI ?_
  rw [UInt8.toNat_ofNat_of_lt' (by show b.toNat < 256; omega)]
  omega
theorem byO_len (l : List Int) : (byO l).length = l.length := by unfold byO; rw [List.length_map]
theorem ns_intL (l : List Nat) : nsL l = isIs (intL l) := by
  refine congrArg isL ?_
  unfold intL
  rw [List.map_map]; rfl
theorem okE_map {r : Except Int (List Nat)} {v : V} {H : Hp} (h : (okE r nsL).p v H) : (okE (r.map intL) isIs).p v H := by
  cases r with
  | ok l =>
    have h' : (nsL l).p v H := h
    rw [ns_intL] at h'
    exact h'
  | error n => exact h
theorem okE_map2 {h : Held} {r : Except Int (List Pat)} {v : V} {H : Hp} (z : (okE r fun ps => nsL (chgN h ps)).p v H) : (okE (r.map fun ps => intL (chgN h ps)) isIs).p v H := by
  cases r with
  | ok ps =>
    have h' : (nsL (chgN h ps)).p v H := z
    rw [ns_intL] at h'
    exact h'
  | error n => exact z
theorem rfX_map {α β : Type} {K : PySem.W.Frag} {r : Except Int α} {f : α → β} {c : Value} {d : Option Addr} {G : Hp} (h : (rfX K r).p c d G) : (rfX K (r.map f)).p c d G := by
  cases r <;> exact h
section
variable {base : Heap} {P : Program} {w : World} {K : PySem.W.Frag} {mg : Str → Option Value}
abbrev sp_called (K : PySem.W.Frag) : Sp := oSp (fun z : Vahypd.Obj × Int × Int × List Int => OOk z.1 ∧ CIn z.2.1 z.2.2.2 ∧ ∀ s, Vahypa.read (byO z.2.2.2) = .ok s → PatsGood s.pats) (He.ga K "Desk") (fun z => dkF K z.1) (fun z => [isI z.2.1, isI z.2.2.1, isIs z.2.2.2]) (fun z => dkF K (cO z.1 z.2.1 z.2.2.1 z.2.2.2)) (fun z => okE (cR z.1 z.2.1 z.2.2.1 z.2.2.2) isIs) (fun z => dkF K z.1) fun z => rfX K (cR z.1 z.2.1 z.2.2.1 z.2.2.2)
theorem kn_called (T : Txt K mg) : Kn P w K mg base (L2.CX P w) 14 "called" ["desk", "call", "n", "row"] (sp_called K) :=
  kn_of T.g_called (fn_ownX T.df_called (fun _ => rfl) fun cdv A outer s H E z G a dx hz sG hr hE => by
    obtain ⟨o, c, n, l⟩ := z
    obtain ⟨O, I0, hgood0⟩ := hz
    have I : CIn c l := I0
    have hgood : ∀ s, Vahypa.read (byO l) = .ok s → PatsGood s.pats := hgood0
    have tk' : tkOf P w K mg base N_called d_called (He.ga K "called") cdv A outer s H E := takes_of rfl rfl rfl rfl
    have hE' : XO (Bs.me G H a dx) (He.ga K "Desk") (dkF K o) (rfX K (cR o c n l)) E := hE
    have by8 : (c = 0 ∨ c = 3 ∨ c = 4 ∨ c = 5 ∨ c = 8) → isIs l = bysP (byO l) ∧ (byO l).length ≤ 8192 := fun h => ⟨bys_ints (I.by_ h).2, by rw [byO_len]; exact (I.by_ h).1⟩
    refine b_when (k := decide (c = 0)) (t_eqI (e_v 1 rfl) (e_glob T.c_LOAD)) (fun h => ?_) fun h => ?_
    · have hc : c = 0 := of_decide_eq_true h
      obtain ⟨e1, e2⟩ := by8 (.inl hc)
      refine b_one (s_retO (fs := dkF K (cO o c n l)) (post := okE (cR o c n l) isIs) (e_oMeth (fr := False) (E := fun _ _ _ => False) 0 (km_load T) T.cl_Desk (hr.mono (by decide)) (o, byO l) ⟨e2, hgood⟩ pass0 rfl (a_one (e_cast (e_v 3 rfl) e1)) rfl rfl fun _ _ _ _ _ _ _ z => z.elim) ?_ fun v H' z => ?_)
      · show _ = some (Sl.obj true _ (dkF K (cO o c n l)))
        unfold cO
        rw [if_pos hc]; rfl
      · unfold cR
        rw [if_pos hc]; exact z
    · have hc0 : c ≠ 0 := of_decide_eq_false h
      cases o with
      | none =>
        have er : cR none c n l = .error (-1) := by unfold cR; rw [if_neg hc0]
        refine b_cons (s_wantX (N := As.no) T (hr.mono (by decide)) tk' (a_cons (e_notN (P := isN) (k := true) (e_ofld 0 rfl T.cl_Desk T.na_Desk_held rfl) nonP_N e_non) (a_one (e_glob T.c_NO_LIST))) (hE'.to rfl (fun _ _ h => h) fun c' d G' z => ?_)) b_dead
        rw [er]; exact z
      | some h =>
        have Oh : HOk h := O h rfl
        refine b_cons (s_want T (hr.mono (by decide)) tk' (a_cons (e_notN (P := lstO K h.lst) (k := false) (e_ofld 0 rfl T.cl_Desk T.na_Desk_held rfl) nonP_O e_non) (a_one (e_glob T.c_NO_LIST)))) ?_
        have er : cR (some h) c n l = if c = 1 then .ok (intL (countsN h)) else if c = 2 then .ok (intL (storeN h)) else if c = 3 then (levR h (byO l)).map intL else if c = 4 then (partR h (byO l)).map intL else if c = 5 then (addR h (byO l)).map (fun ps => intL (chgN h ps)) else if c = 6 then (dropR h n).map (fun ps => intL (chgN h ps)) else if c = 7 then (checkR h l).map intL else if c = 8 then (findR h (byO l)).map intL else (nodeRR h n).map intL := by
          unfold cR; rw [if_neg hc0]
        have eo : cO (some h) c n l = if c = 5 then some (chgO h (addR h (byO l))) else if c = 6 then some (chgO h (dropR h n)) else some h := by
          unfold cO; rw [if_neg hc0]
        have same : c ≠ 5 → c ≠ 6 → cO (some h) c n l = some h := fun h5 h6 => by rw [eo, if_neg h5, if_neg h6]
        refine b_when (k := decide (c = 1)) (t_eqI (e_v 1 rfl) e_int) (fun z => ?_) fun z1 => ?_
        · have hc : c = 1 := of_decide_eq_true z
          refine b_one (s_retO (fs := dkF K (cO (some h) c n l)) (post := okE (cR (some h) c n l) isIs) (e_oMeth0 (E := fun _ _ _ => False) 0 (km_counts T) T.cl_Desk (hr.mono (by decide)) h Oh pass0 rfl rfl rfl fun _ _ _ _ _ _ _ z => z.elim) ?_ fun v H' z => ?_)
          · rw [same (by omega) (by omega)]; rfl
          · rw [er, if_pos hc]; rw [ns_intL] at z; exact z
        have hc1 : c ≠ 1 := of_decide_eq_false z1
        rw [if_neg hc1] at er
        refine b_when (k := decide (c = 2)) (t_eqI (e_v 1 rfl) e_int) (fun z => ?_) fun z1 => ?_
        · have hc : c = 2 := of_decide_eq_true z
          refine b_one (s_retO (fs := dkF K (cO (some h) c n l)) (post := okE (cR (some h) c n l) isIs) (e_oMeth0 (E := fun _ _ _ => False) 0 (km_store T) T.cl_Desk (hr.mono (by decide)) h Oh pass0 rfl rfl rfl fun _ _ _ _ _ _ _ z => z.elim) ?_ fun v H' z => ?_)
          · rw [same (by omega) (by omega)]; rfl
          · rw [er, if_pos hc]; rw [ns_intL] at z; exact z
        have hc2 : c ≠ 2 := of_decide_eq_false z1
        rw [if_neg hc2] at er
        refine b_when (k := decide (c = 3)) (t_eqI (e_v 1 rfl) e_int) (fun z => ?_) fun z1 => ?_
        · have hc : c = 3 := of_decide_eq_true z
          rw [if_pos hc] at er
          obtain ⟨e1, e2⟩ := by8 (.inr (.inl hc))
          refine b_one (s_retO (fs := dkF K (cO (some h) c n l)) (post := okE (cR (some h) c n l) isIs) (e_oMeth (fr := False) 0 (km_levels T) T.cl_Desk (hr.mono (by decide)) (h, byO l) ⟨Oh, e2⟩ (passes_call tk' fun _ _ _ _ h => h) rfl (a_one (e_cast (e_v 3 rfl) e1)) rfl rfl (hE'.to rfl (fun _ _ h => h) fun c' d G' z => ?_)) ?_ fun v H' z => ?_)
          · rw [er]; exact rfX_map z
          · rw [same (by omega) (by omega)]; rfl
          · rw [er]; exact okE_map z
        have hc3 : c ≠ 3 := of_decide_eq_false z1
        rw [if_neg hc3] at er
        refine b_when (k := decide (c = 4)) (t_eqI (e_v 1 rfl) e_int) (fun z => ?_) fun z1 => ?_
        · have hc : c = 4 := of_decide_eq_true z
          rw [if_pos hc] at er
          obtain ⟨e1, e2⟩ := by8 (.inr (.inr (.inl hc)))
          refine b_one (s_retO (fs := dkF K (cO (some h) c n l)) (post := okE (cR (some h) c n l) isIs) (e_oMeth (fr := False) 0 (km_part T) T.cl_Desk (hr.mono (by decide)) (h, byO l) ⟨Oh, e2⟩ (passes_call tk' fun _ _ _ _ h => h) rfl (a_one (e_cast (e_v 3 rfl) e1)) rfl rfl (hE'.to rfl (fun _ _ h => h) fun c' d G' z => ?_)) ?_ fun v H' z => ?_)
          · rw [er]; exact rfX_map z
          · rw [same (by omega) (by omega)]; rfl
          · rw [er]; exact okE_map z
        have hc4 : c ≠ 4 := of_decide_eq_false z1
        rw [if_neg hc4] at er
        refine b_when (k := decide (c = 5)) (t_eqI (e_v 1 rfl) e_int) (fun z => ?_) fun z1 => ?_
        · have hc : c = 5 := of_decide_eq_true z
          rw [if_pos hc] at er eo
          obtain ⟨e1, e2⟩ := by8 (.inr (.inr (.inr (.inl hc))))
          refine b_one (s_retO (fs := dkF K (cO (some h) c n l)) (post := okE (cR (some h) c n l) isIs) (e_oMeth (fr := False) 0 (km_add T) T.cl_Desk hr (h, byO l) ⟨Oh, e2⟩ (passes_call tk' fun _ _ _ _ h => h) rfl (a_one (e_cast (e_v 3 rfl) e1)) rfl rfl (hE'.to rfl (fun _ _ h => h) fun c' d G' z => ?_)) ?_ fun v H' z => ?_)
          · rw [er]; exact rfX_map z
          · rw [eo]; rfl
          · rw [er]; exact okE_map2 z
        have hc5 : c ≠ 5 := of_decide_eq_false z1
        rw [if_neg hc5] at er eo
        refine b_when (k := decide (c = 6)) (t_eqI (e_v 1 rfl) e_int) (fun z => ?_) fun z1 => ?_
        · have hc : c = 6 := of_decide_eq_true z
          rw [if_pos hc] at er eo
          refine b_one (s_retO (fs := dkF K (cO (some h) c n l)) (post := okE (cR (some h) c n l) isIs) (e_oMeth (fr := False) 0 (km_drop T) T.cl_Desk hr (h, n) Oh (passes_call tk' fun _ _ _ _ h => h) rfl (a_one (e_v 2 rfl)) rfl rfl (hE'.to rfl (fun _ _ h => h) fun c' d G' z => ?_)) ?_ fun v H' z => ?_)
          · rw [er]; exact rfX_map z
          · rw [eo]; rfl
          · rw [er]; exact okE_map2 z
        have hc6 : c ≠ 6 := of_decide_eq_false z1
        rw [if_neg hc6] at er eo
        refine b_when (k := decide (c = 7)) (t_eqI (e_v 1 rfl) e_int) (fun z => ?_) fun z1 => ?_
        · have hc : c = 7 := of_decide_eq_true z
          rw [if_pos hc] at er
          refine b_one (s_retO (fs := dkF K (cO (some h) c n l)) (post := okE (cR (some h) c n l) isIs) (e_oMeth (fr := False) 0 (km_check T) T.cl_Desk (hr.mono (by decide)) (h, l) ⟨Oh, I.ns hc⟩ (passes_call tk' fun _ _ _ _ h => h) rfl (a_one (e_v 3 rfl)) rfl rfl (hE'.to rfl (fun _ _ h => h) fun c' d G' z => ?_)) ?_ fun v H' z => ?_)
          · rw [er]; exact rfX_map z
          · rw [eo]; rfl
          · rw [er]; exact okE_map z
        have hc7 : c ≠ 7 := of_decide_eq_false z1
        rw [if_neg hc7] at er
        refine b_one (s_retO (Γ := [.obj true (He.ga K "Desk") (dkF K (some h)), .val (isI c), .val (isI n), .val (isIs l)]) (fs := dkF K (cO (some h) c n l)) (post := okE (cR (some h) c n l) isIs) (P := okE (cR (some h) c n l) isIs) (e_if (k := decide (c = 8)) (t_eqI (e_v 1 rfl) e_int) (fun z => ?_) (fun z => ?_)) ?_)
        · have hc : c = 8 := of_decide_eq_true z
          rw [if_pos hc] at er
          obtain ⟨e1, e2⟩ := by8 (.inr (.inr (.inr (.inr hc))))
          refine e_imp (e_oMeth (fr := False) 0 (km_find T) T.cl_Desk (hr.mono (by decide)) (h, byO l) ⟨Oh, e2⟩ (passes_call tk' fun _ _ _ _ h => h) rfl (a_one (e_cast (e_v 3 rfl) e1)) rfl rfl (hE'.to rfl (fun _ _ h => h) fun c' d G' z => ?_)) fun v H' z => ?_
          · rw [er]; exact rfX_map z
          · rw [er]; exact okE_map z
        · have hc : c ≠ 8 := of_decide_eq_false z
          rw [if_neg hc] at er
          refine e_imp (e_oMeth (fr := False) 0 (km_dnode T) T.cl_Desk (hr.mono (by decide)) (h, n) Oh (passes_call tk' fun _ _ _ _ h => h) rfl (a_one (e_v 2 rfl)) rfl rfl (hE'.to rfl (fun _ _ h => h) fun c' d G' z => ?_)) fun v H' z => ?_
          · rw [er]; exact rfX_map z
          · rw [er]; exact okE_map z
        · rw [eo]; rfl)
end
end Q
/-! An answer; a call read. -/
namespace Q
open PySem PySem.Spec PyProof.Rows L2 Pt
open VahypBase (Bytes isLetter)
open Vahypa (Pat Lst)
open Vahypd (Node Table Held Obj)
def ansA (o : Vahypd.Obj) (c n : Int) (l : List Int) : List Int := match cR o c n l with
  | .ok r => r
  | .error k => [k]
theorem cO_error {o : Vahypd.Obj} {c n k : Int} {l : List Int} (h : cR o c n l = .error k) : cO o c n l = o := by
  unfold cR at h
  unfold cO
  by_cases h0 : c = 0
  · rw [if_pos h0] at h; cases h
  · rw [if_neg h0] at h
    rw [if_neg h0]
    cases o with
    | none => rfl
    | some hd =>
      dsimp only at h ⊢
      by_cases h5 : c = 5
      · subst h5
        rw [if_neg (by decide), if_neg (by decide), if_neg (by decide), if_neg (by decide), if_pos rfl] at h
        rw [if_pos rfl]
        cases ha : addR hd (byO l) with
        | ok ps => rw [ha] at h; cases h
        | error e => rfl
      · rw [if_neg h5]
        by_cases h6 : c = 6
        · subst h6
          rw [if_neg (by decide), if_neg (by decide), if_neg (by decide), if_neg (by decide), if_neg (by decide), if_pos rfl] at h
          rw [if_pos rfl]
          cases ha : dropR hd n with
          | ok ps => rw [ha] at h; cases h
          | error e => rfl
        · rw [if_neg h6]
section
variable {base : Heap} {P : Program} {w : World} {K : PySem.W.Frag} {mg : Str → Option Value}
abbrev sp_answer (K : PySem.W.Frag) : Sp := oSp (fun z : Vahypd.Obj × Int × Int × List Int => OOk z.1 ∧ CIn z.2.1 z.2.2.2 ∧ ∀ s, Vahypa.read (byO z.2.2.2) = .ok s → PatsGood s.pats) (He.ga K "Desk") (fun z => dkF K z.1) (fun z => [isI z.2.1, isI z.2.2.1, isIs z.2.2.2]) (fun z => dkF K (cO z.1 z.2.1 z.2.2.1 z.2.2.2)) (fun z => isIs (ansA z.1 z.2.1 z.2.2.1 z.2.2.2)) (fun z => dkF K z.1) fun _ => noX
theorem kn_answer (T : Txt K mg) : Kn P w K mg base CX0 15 "answer" ["desk", "call", "n", "row"] (sp_answer K) :=
  kn_of T.g_answer (fn_own0 T.df_answer (fun _ => rfl) fun cdv A outer s H E z G a dx hz sG hr => by
    obtain ⟨o, c, n, l⟩ := z
    obtain ⟨O, I0, hgood0⟩ := hz
    refine b_cons (s_own 4 sc_answer.nd (l_lst a_nil)) ?_
    refine b_cons (M := rdy (Bs.me G H a dx) (He.ga K "Desk") (dkF K (cO o c n l)) (isIs (ansA o c n l)) 4) (ps_imp (ps_try_as (x := "Refused") (n := "e") (i := 5) (c := .ref (He.ga K "Refused")) (Wout := fun _ _ _ _ => False) (tb := fun W D σ H1 => ∃ z : {z : Hp × Hp // ∀ c' d σ G' H', Same G' H' → (Ga (Bs.me z.1 z.2 a dx) [.obj true (He.ga K "Desk") (dkF K o), .val (isI c), .val (isI n), .val (isIs l), .any, .any]).p σ G' H' → (rfX K (cR o c n l)).p c' d G' → eW N_answer.length W c' d H'}, jS (Ga (Bs.me z.1.1 z.1.2 a dx) [.obj true (He.ga K "Desk") (dkF K o), .val (isI c), .val (isI n), .val (isIs l), .any, .any]) ⟨rdy (Bs.me z.1.1 z.1.2 a dx) (He.ga K "Desk") (dkF K (cO o c n l)) (isIs (ansA o c n l)) 4, fun _ _ _ => False, As.no, As.no⟩ D σ H1) rfl rfl sc_answer.nd rfl rfl ⟨rfl, rfl, .inl T.g_Refused⟩ takes_none5 (fun W pn xe tk hp => pss_any fun ⟨⟨Gz, Hz⟩, hE⟩ => ?_) (fun a oe cls d pn hz' hf => pss_one (ps_set (i := 4) sc_answer.nd rfl (Or.inl rfl) (pe_lst (pa_cons (pe_xf T.oe_Refused.xf T.na_Refused_refusal hz' hf (pv 5)) pa_nil))))) fun D σ H1 ⟨G1, s1, a1, n1, r1, b1, c1⟩ => ?_) (b_one (s_retRdy 4))
    · have hx := passes_len (X := (cxOf CX0 P w K mg base N_answer d_answer.qual d_answer.scope (He.ga K "answer") cdv A outer s H E).nox.tr pn xe) (E := eW N_answer.length W) tk fun c d σ H hσ h => h σ hσ
      dsimp only
      cases hrd : cR o c n l with
      | error k =>
        refine b_one (s_setD (P := isN) 4 sc_answer.nd (e_dead (e_imp (e_oFn (fr := False) 0 (kn_called T) hr (o, c, n, l) ⟨O, I0, hgood0⟩ hx rfl (a_cons (e_v 1 rfl) (a_cons (e_v 2 rfl) (a_one (e_v 3 rfl)))) rfl hE) fun v H' z => ?_)))
        rw [hrd] at z; exact z
      | ok r =>
        have ea : ansA o c n l = r := by unfold ansA; rw [hrd]
        refine b_one (s_post (s_set (P := isIs (ansA o c n l)) 4 sc_answer.nd (e_cast (e_oFn (fr := False) 0 (kn_called T) hr (o, c, n, l) ⟨O, I0, hgood0⟩ hx rfl (a_cons (e_v 1 rfl) (a_cons (e_v 2 rfl) (a_one (e_v 3 rfl)))) rfl fun c' d σ G' H' _ _ z => ?_) ?_)) (le_rdy rfl rfl))
        · rw [hrd] at z; exact z.elim
        · rw [ea, hrd]; rfl
    · have ar := ga_re a1 s1 rfl rfl
      refine ⟨⟨(G1, H1), fun c' d σ2 G2 H2 s2 a2 hx σ' hσ => ?_⟩, G1, s1, ar, fun σ' G' H' g s' h => n1 σ' G' H' g s' (rdy_re a1.1 h), fun _ _ _ _ z => z.elim, fun _ _ _ _ _ z => z.elim, fun _ _ _ _ _ z => z.elim⟩
      cases hrd : cR o c n l with
      | ok r => rw [hrd] at hx; exact hx.elim
      | error k =>
        rw [hrd] at hx
        obtain ⟨ec, dd, gs, ed, eg, lk⟩ := hx
        subst ec ed
        have eo := cO_error hrd
        have ea : ansA o c n l = [k] := by unfold ansA; rw [hrd]
        have l1 := lk "refusal" (.int k) rfl
        refine ⟨true, T.xm_Refused, fun _ y hy => ?_, fun z => by cases z⟩
        have h5 : (σ'.set 5 (some (.ref y)))[5]? = some (some (.ref y)) := by
          rw [List.getElem?_set_self (by rw [hσ]; decide)]
        refine ⟨_, h5, rfl, rfl, dd, gs, _, rfl, s2 _ _ eg, l1, ?_⟩
        refine ⟨by show 1 ≤ sizeLine; decide, fun l' hl => ?_⟩
        have w := Gw.new (M := []) (o := .lst [.int k]) s2 hl
        obtain ⟨fv, e1, e2⟩ := me_out a2 rfl
        refine n1 _ (upd G2 l' (.lst [.int k])) _ (Same.trans a2.1.g w.g) w.i ⟨.ref l', ?_, (a1.1.trans' a2.1 fun _ hx => .inl hx).trans w, fv, w.same _ _ e1, ?_, ?_⟩
        · rw [get_set_ne (by decide), List.getElem?_set_self (by rw [List.length_set, hσ]; decide)]
        · rw [eo]; exact fldP_up w.g e2
        · rw [ea]
          exact ⟨l', _, rfl, upd_same, .cons rfl .nil⟩)
/-! ### a call read -/
/-- the call at a place -/
structure CallAt (l : List Int) (i : Nat) (c n : Int) (r : List Int) (j : Nat) : Prop where
  at_ : l[i]? = some c
  num : (c = 6 ∨ c = 9) → l[i + 1]? = some n ∧ r = [] ∧ j = i + 2
  lst : (c = 0 ∨ c = 3 ∨ c = 4 ∨ c = 5 ∨ c = 7 ∨ c = 8) → ∃ m : Nat, l[i + 1]? = some (m : Int) ∧ i + 2 + m ≤ l.length ∧ n = 0 ∧ r = (l.drop (i + 2)).take m ∧ j = i + 2 + m
  bare : c ≠ 6 → c ≠ 9 → c ≠ 0 → c ≠ 3 → c ≠ 4 → c ≠ 5 → c ≠ 7 → c ≠ 8 → n = 0 ∧ r = [] ∧ j = i + 1
theorem Txt.t_WNUM {K : PySem.W.Frag} {mg : Str → Option Value} (T : Txt K mg) (H : Hp) : SqT K H (He.ga K "WITH_NUMBER") (([6, 9] : List Int).map V.int) := He.tupB_ok T.tup_WITH_NUMBER H
theorem Txt.t_WLST {K : PySem.W.Frag} {mg : Str → Option Value} (T : Txt K mg) (H : Hp) : SqT K H (He.ga K "WITH_LIST") (([0, 3, 4, 5, 7, 8] : List Int).map V.int) := He.tupB_ok T.tup_WITH_LIST H
theorem inV_ints (c : Int) (ns : List Int) : inV (.int c) (ns.map V.int) = decide (c ∈ ns) := by
  unfold inV
  (rw [List.any_map, Bool.eq_iff_iff, List.any_eq_true, decide_eq_true_eq])
  constructor
  · rintro ⟨x, hx, e⟩
    have : x = c := by
      have e' : (x == c) = true := e
      simpa using e'
    rw [← this]; exact hx
  · intro hx
    exact ⟨c, hx, by show (c == c) = true; simp⟩
abbrev isQs (K : PySem.W.Frag) (l : List Int) : VP := isQ K (l.map fun i => isI i)
abbrev sp_callat (K : PySem.W.Frag) : Sp := fSp (fun z : List Int × Nat × Int × Int × List Int × Nat => CallAt z.1 z.2.1 z.2.2.1 z.2.2.2.1 z.2.2.2.2.1 z.2.2.2.2.2) (fun z => [isQs K z.1, natP z.2.1]) (fun z => isT [isI z.2.2.1, isI z.2.2.2.1, isIs z.2.2.2.2.1, natP z.2.2.2.2.2]) fun _ => noX
theorem at_int {l : List Int} {i : Nat} {c : Int} (h : l[i]? = some c) : atI (l.map fun i => isI i) (i : Int) = some (isI c) := at_map (f := fun i => isI i) h
theorem kn_call_at (T : Txt K mg) : Kn P w K mg base CX0 1 "call_at" ["calls", "at"] (sp_callat K) :=
  kn_of T.g_call_at (fn_plain0 T.df_call_at (fun _ => rfl) fun cdv A outer s H E z G hz sG hr => by
    obtain ⟨l, i, c, n, r, j⟩ := z
    have C : CallAt l i c n r j := hz
    refine b_cons (s_set (P := isI c) 2 sc_call_at.nd (e_ixQ (e_v 0 rfl) (e_v 1 rfl) (at_int C.at_))) ?_
    refine b_when (k := decide (c ∈ ([6, 9] : List Int))) (t_cast (t_inK (e_v 2 rfl) (e_globT T.g_WITH_NUMBER T.t_WNUM)) (inV_ints c [6, 9])) (fun h => ?_) fun h6 => ?_
    · have hc : c = 6 ∨ c = 9 := by simpa using h
      obtain ⟨e1, e2, e3⟩ := C.num hc
      subst e2 e3
      exact b_one (s_retP (e_tup (a_cons (e_v 2 rfl) (a_cons (e_ixQ (e_v 0 rfl) (e_add (e_v 1 rfl) e_int) (at_int (i := i + 1) e1)) (a_cons (e_lst a_nil) (a_one (e_cast (R := natP (i + 2)) (e_add (e_v 1 rfl) e_int) rfl)))))))
    · refine b_when (k := decide (c ∈ ([0, 3, 4, 5, 7, 8] : List Int))) (t_cast (t_inK (e_v 2 rfl) (e_globT T.g_WITH_LIST T.t_WLST)) (inV_ints c [0, 3, 4, 5, 7, 8])) (fun h => ?_) fun h7 => ?_
      · have hc : c = 0 ∨ c = 3 ∨ c = 4 ∨ c = 5 ∨ c = 7 ∨ c = 8 := by simpa using h
        obtain ⟨m, e1, e2, e3, e4, e5⟩ := C.lst hc
        subst e3 e4 e5
        refine b_cons (s_set (P := natP (i + 2 + m)) 3 sc_call_at.nd (e_cast (e_add (e_add (e_v 1 rfl) e_int) (e_ixQ (e_v 0 rfl) (e_add (e_v 1 rfl) e_int) (at_int (i := i + 1) e1))) rfl)) ?_
        refine b_one (s_retP (e_tup (a_cons (e_v 2 rfl) (a_cons e_int (a_cons (e_cast (e_slQ (e_v 0 rfl) (o_at (e_add (e_v 1 rfl) e_int)) (o_at (e_v 3 rfl))) ?_) (a_one (e_v 3 rfl)))))))
        refine congrArg isL ?_
        have := cut_at (l := l) (f := fun i => isI i) (a := i + 2) (b := i + 2 + m) (by omega) e2
        rw [show i + 2 + m - (i + 2) = m by omega] at this
        exact this
      · have hb : c ≠ 6 ∧ c ≠ 9 := by simpa using h6
        have hb2 : c ≠ 0 ∧ c ≠ 3 ∧ c ≠ 4 ∧ c ≠ 5 ∧ c ≠ 7 ∧ c ≠ 8 := by simpa using h7
        obtain ⟨e3, e4, e5⟩ := C.bare hb.1 hb.2 hb2.1 hb2.2.1 hb2.2.2.1 hb2.2.2.2.1 hb2.2.2.2.2.1 hb2.2.2.2.2.2
        subst e3 e4 e5
        exact b_one (s_retP (e_tup (a_cons (e_v 2 rfl) (a_cons e_int (a_cons (e_lst a_nil) (a_one (e_cast (R := natP (i + 1)) (e_add (e_v 1 rfl) e_int) rfl))))))))
end
end Q
/-! All calls. -/
namespace Q
open PySem PySem.Spec PyProof.Rows L2 Pt
open VahypBase (Bytes isLetter)
open Vahypa (Pat Lst)
open Vahypd (Node Table Held Obj)
theorem paired_four {α β : Type} {F : α → β → Prop} {a b c d : α} {m : List β} (h : Paired F [a, b, c, d] m) : ∃ w x y z, m = [w, x, y, z] ∧ F a w ∧ F b x ∧ F c y ∧ F d z := by
  cases h with
  | cons r t =>
    cases t with
    | cons r2 t => obtain ⟨y, z, rfl, q1, q2⟩ := paired_two t; exact ⟨_, _, _, _, rfl, r, r2, q1, q2⟩
section
variable {X : Cx} {fr : Prop} {A A' A1 N bk ct : As} {B : Bs} {Γ : List Sl} {P1 P2 P3 P4 : VP} {pos cpos p pos' : Pos} {rt : V → Hp → Hp → Prop} {x : Str}
/-- a, b, c, d = four values -/
theorem g_four (i j k l : Nat) {x y z u : Str} {ws : List Nat} {px py pz pu : Pos} {kk : Nat} (hN : X.N.Nodup) (hi : X.N[i]? = some x := by rfl) (hj : X.N[j]? = some y := by rfl) (hk : X.N[k]? = some z := by rfl) (hl : X.N[l]? = some u := by rfl) (hx : Loc X.env.scope x := by first | exact Or.inl rfl | exact Or.inr rfl) (hy : Loc X.env.scope y := by first | exact Or.inl rfl | exact Or.inr rfl) (hz : Loc X.env.scope z := by first | exact Or.inl rfl | exact Or.inr rfl) (hu : Loc X.env.scope u := by first | exact Or.inl rfl | exact Or.inr rfl) (hw : i ∈ ws := by decide) (hw2 : j ∈ ws := by decide) (hw3 : k ∈ ws := by decide) (hw4 : l ∈ ws := by decide)
    (hf : X.fn x = true ∨ X.env.scope.names.lookup x = some .local := by first | exact .inl rfl | exact .inr rfl) (hf2 : X.fn y = true ∨ X.env.scope.names.lookup y = some .local := by first | exact .inl rfl | exact .inr rfl) (hf3 : X.fn z = true ∨ X.env.scope.names.lookup z = some .local := by first | exact .inl rfl | exact .inr rfl) (hf4 : X.fn u = true ∨ X.env.scope.names.lookup u = some .local := by first | exact .inl rfl | exact .inr rfl) (hc : X.calm = true := by rfl)
    (hn : (assignEach [.Name x px, .Name y py, .Name z pz, .Name u pu] X.env).length = 4 := by rfl) (hst : (assignEach [.Name x px, .Name y py, .Name z pz, .Name u pu] X.env).findIdx? (·.1) = none := by rfl) (h1 : (assignEach (.Name x px :: [.Name y py, .Name z pz, .Name u pu]) X.env).map (·.2) = assign (.Name x px) X.env :: (assignEach [.Name y py, .Name z pz, .Name u pu] X.env).map (·.2) := by rfl) (h2 : (assignEach (.Name y py :: [.Name z pz, .Name u pu]) X.env).map (·.2) = assign (.Name y py) X.env :: (assignEach [.Name z pz, .Name u pu] X.env).map (·.2) := by rfl)
    (h3 : (assignEach (.Name z pz :: [.Name u pu]) X.env).map (·.2) = assign (.Name z pz) X.env :: (assignEach [.Name u pu] X.env).map (·.2) := by rfl) (h4 : (assignEach (.Name u pu :: []) X.env).map (·.2) = assign (.Name u pu) X.env :: (assignEach [] X.env).map (·.2) := by rfl) :
    Jg X ws (Ga B Γ) (.Tuple [.Name x px, .Name y py, .Name z pz, .Name u pu] kk pos) (isT [P1, P2, P3, P4]) (Ga B ((((Γ.set i (.val P1)).set j (.val P2)).set k (.val P3)).set l (.val P4))) :=
  pg_imp (pg_tup (n := 4) hc (pgs_cons (pg_name hN hi hx hf) (pgs_cons (pg_name hN hj hy hf2) (pgs_cons (pg_name hN hk hz hf3) (pgs_cons (pg_name hN hl hu hf4) pgs_nil h4) h3) h2) h1) hn hst) fun v σ H Q ⟨G, s, a, ⟨l0, xs, e1, e2, e3⟩, q⟩ => by
    obtain ⟨w1, w2, w3, w4, rfl, q1, q2, q3, q4⟩ := paired_four e3
    exact ⟨l0, _, e1, SqT.of (s _ _ e2), rfl, w1, _, rfl, w2, _, rfl, w3, _, rfl, w4, _, rfl, rfl, q _ (((sameOut_set hw).trans (sameOut_set hw2)).trans ((sameOut_set hw3).trans (sameOut_set hw4))) (ga_set (s := .val P4) (ga_set (s := .val P3) (ga_set (s := .val P2) (ga_set (s := .val P1) a rfl ⟨w1, rfl, q1⟩) rfl ⟨w2, rfl, q2⟩) rfl ⟨w3, rfl, q3⟩) rfl ⟨w4, rfl, q4⟩)⟩
/-- desk = Desk() -/
theorem s_newDesk (i : Nat) (T : Txt X.K X.mg) (hr : Room 2 X.A) (hN : X.N.Nodup) (hn : noMine Γ = true) (hi : X.N[i]? = some x := by rfl) (hx : Loc X.env.scope x := by first | exact Or.inl rfl | exact Or.inr rfl) (hs : swapsWith (.Call (.Name "Desk" p) [] [] cpos) (some (.Name x pos')) pos.line X.env = pure false := by rfl) (hf : X.fn x = true ∨ X.env.scope.names.lookup x = some .local := by first | exact .inl rfl | exact .inr rfl) (hg : Gl X "Desk" := by rfl) : Js X (Ga B Γ) (.Assign [.Name x pos'] (.Call (.Name "Desk" p) [] [] cpos) pos) ⟨Ga B (Γ.set i (.obj false (He.ga X.K "Desk") (dkF X.K none))), rt, bk, ct⟩ := by
  obtain ⟨fd, F1, kp, hb⟩ := kc_Desk (P := X.prog) (w := X.w) (base := X.base) T
  refine ps_imp (ps_set hN hi hx (pe_make0 T.mk_Desk F1 hr hg T.g_Desk hb .nil pass0 (by decide)) hs hf) fun D σ H ⟨G, s, a, n, r⟩ => ?_
  intro y dx hy hdx ne
  have gy : G y = none := by
    cases e : G y with
    | none => rfl
    | some u => rw [s _ _ e] at hy; cases hy
  have w1 : Gw [] G H G (upd H dx (.own y)) := Gw.own s hdx
  have hy1 : (upd H dx (.own y)) y = none := by rw [upd_ne (Ne.symm ne)]; exact hy
  have w2 : Gw [] G (upd H dx (.own y)) G (upd (upd H dx (.own y)) y (.ins (He.ga X.K "Desk") dx [])) := Gw.own w1.i hy1
  simp only [tNil, List.append_nil]
  refine ⟨(), G, y, dx, [], [], trivial, rfl, w2.i, gy, upd_same, .nil, .nil, fun v G2 H2 fv w3 e2 e3 ev => ⟨ev, ?_⟩, fun _ _ _ _ _ _ _ _ h => h⟩
  have w13 : Gw [] G H G2 H2 := (w1.trans w2).trans' w3 fun u hu => by rw [List.mem_singleton.mp hu]; exact .inr hy
  have g2 : G2 y = none := w3.n y gy (by rw [upd_same]; exact fun z => nomatch z)
  have a2 := ga_free a hn w13 fun _ h => absurd h List.not_mem_nil
  refine n _ G2 H2 w13.g w13.i (ga_setOwn a2 ⟨y, dx, fv, rfl, g2, e2, base_none a.1 hy, e3⟩ fun j t hj e m => ?_)
  have := List.all_eq_true.mp hn _ (List.mem_of_getElem? e)
  rw [m] at this; cases this
end
/-- the calls from a place on, played from an object -/
inductive Runs (l : List Int) : Nat → Vahypd.Obj → List Int → Prop
  | nil {o : Vahypd.Obj} : Runs l l.length o []
  | cons {i j : Nat} {o : Vahypd.Obj} {c n : Int} {r out : List Int} : i < l.length → i < j → j ≤ l.length → CallAt l i c n r j → OOk o → OOk (cO o c n r) → CIn c r → (∀ s, Vahypa.read (byO r) = .ok s → PatsGood s.pats) → Runs l j (cO o c n r) out → Runs l i o (((ansA o c n r).length : Int) :: (ansA o c n r ++ out))
section
variable {base : Heap} {P : Program} {w : World} {K : PySem.W.Frag} {mg : Str → Option Value}
abbrev sp_answers (K : PySem.W.Frag) : Sp := fSp (fun z : List Int × List Int => Runs z.1 0 none z.2 ∧ z.2.length ≤ 16000000) (fun z => [isQs K z.1]) (fun z => isIs z.2) fun _ => noX
theorem fn_answers (T : Txt K mg) {fd : FuncData} (F : FunD K d_answers.name d_answers.qual d_answers.params d_answers.body d_answers.scope [] [] (He.fAd K ("answers", none)) fd) : FnOk P w K mg base CX0 16 (He.fAd K ("answers", none)) fd ["calls"] (sp_answers K) :=
  fn_plain0F F T.df_answers (fun _ => rfl) (fun cdv A outer s H E z G hz sG hr => by
    obtain ⟨l, out⟩ := z
    have R0 : Runs l 0 none out := hz.1
    have hout : out.length ≤ 16000000 := hz.2
    refine b_cons (s_newDesk 1 T (hr.mono (by decide)) sc_answers.nd rfl) (b_cons (s_own 2 sc_answers.nd (l_lst a_nil)) (b_cons (s_set 3 sc_answers.nd e_int) ?_))
    refine b_cons (M := As.ex fun o : Vahypd.Obj => Ga (Bs.pl G H) [.val (isQs K l), .obj false (He.ga K "Desk") (dkF K o), .own (out.map fun i => isI i), .any, .any, .any, .any, .any]) (s_while (fun q : {q : Nat × Vahypd.Obj × List Int × List Int // Runs l q.1 q.2.1 q.2.2.2 ∧ q.2.2.1 ++ q.2.2.2 = out ∧ q.1 ≤ l.length} => Ga (Bs.pl G H) [.val (isQs K l), .obj false (He.ga K "Desk") (dkF K q.1.2.1), .own (q.1.2.2.1.map fun i => isI i), .val (natP q.1.1), .any, .any, .any, .any]) (fun q => l.length - q.1.1) (fun q => decide (q.1.1 < l.length)) ⟨(0, none, [], out), R0, rfl, Nat.zero_le _⟩ .refl (fun q => ?_) (fun q hk => ?_) (fun q hk => ?_)) ?_
    · exact t_cast (t_lt (e_v 3 rfl) (e_lenQ T.n_len (e_v 0 rfl))) (by rw [List.length_map, Bool.eq_iff_iff]; simp only [decide_eq_true_eq]; omega)
    · obtain ⟨⟨i, o, fd, rest⟩, R, hcat, hle⟩ := q
      have hi : i < l.length := of_decide_eq_true hk
      have R' : Runs l i o rest := R
      have hcat' : fd ++ rest = out := hcat
      cases R' with
      | nil => exact absurd hi (Nat.lt_irrefl _)
      | @cons _ j _ c n r out' h1 h2 h3 C O O2 I g R2 =>
        have hlen : fd.length + (1 + (ansA o c n r).length) ≤ 16000000 := by
          have := congrArg List.length hcat'
          rw [List.length_append, List.length_cons, List.length_append] at this
          omega
        refine b_cons (s_asg (e_fn (kn_call_at T) (hr.mono (by decide)) (l, i, c, n, r, j) C (a_cons (e_v 0 rfl) (a_one (e_v 3 rfl)))) (g_four 4 5 6 3 (ws := [4, 5, 6, 3]) sc_answers.nd)) ?_
        refine b_cons (s_set 7 sc_answers.nd (e_oFn (fr := False) (E := fun _ _ _ => False) 1 (kn_answer T) hr (o, c, n, r) ⟨O, I, g⟩ pass0 rfl (a_cons (e_v 4 rfl) (a_cons (e_v 5 rfl) (a_one (e_v 6 rfl)))) rfl fun _ _ _ _ _ _ _ z => z.elim)) ?_
        refine b_cons (s_append 2 rfl rfl (e_cast (R := natP (ansA o c n r).length) (e_lenL T.n_len (e_v 7 rfl)) (by rw [List.length_map])) ?_) ?_
        · rw [List.length_map, line_eq]; show fd.length < _; omega
        · refine b_one (s_post (s_extend 2 rfl rfl (e_v 7 rfl) ?_) (le_less ⟨(j, cO o c n r, fd ++ (((ansA o c n r).length : Int) :: ansA o c n r), out'), R2, ?_, h3⟩ (by show l.length - j < l.length - i; omega) (ga_le' ?_)))
          · rw [List.length_append, List.length_map, List.length_map, line_eq]
            show fd.length + 1 + (ansA o c n r).length ≤ _
            omega
          · show (fd ++ (((ansA o c n r).length : Int) :: ansA o c n r)) ++ out' = out
            rw [← hcat', List.append_assoc]; rfl
          · refine .cons .rfl' (.cons .rfl' (.cons (.inl ?_) (.cons .rfl' (.cons .any' (.cons .any' (.cons .any' (.cons .any' .nil)))))))
            show Sl.own ((fd ++ (((ansA o c n r).length : Int) :: ansA o c n r)).map fun i => isI i) = _
            rw [List.map_append, List.map_cons, List.append_assoc]; rfl
    · obtain ⟨⟨i, o, fd, rest⟩, R, hcat, hle⟩ := q
      have hi : ¬ i < l.length := of_decide_eq_false hk
      have R' : Runs l i o rest := R
      have hcat' : fd ++ rest = out := hcat
      have er : rest = [] := by
        cases R' with
        | nil => rfl
        | cons h1 => exact absurd h1 hi
      subst er
      rw [List.append_nil] at hcat'
      subst hcat'
      exact le_ex o (ga_le' (.cons .rfl' (.cons .rfl' (.cons .rfl' (.cons .any' (.cons .rfl' (.cons .rfl' (.cons .rfl' (.cons .rfl' .nil))))))))) 
    · exact b_ex fun o => b_one (s_retP (e_thaw 2 rfl)))
end
end Q
/-! The law, part by part. -/
namespace Q
open VahypBase (Bytes)
open Vahypa (Pat Lst)
open Vahypd (Node Table build firstSigns behind endsHere plainBy nodeAt kidAt findOut nodesBy signed walk spellOut)
/-! ### ways -/
theorem walk_eq (t : Table) : ∀ (l : List Nat) (k : Nat), walk t k l = ((nodesBy t k l).filterMap (fun j => (nodeAt t j).out), min (nodesBy t k l).length l.length)
  | [], k => by
    unfold walk nodesBy
    rw [List.filterMap_cons, List.filterMap_nil]
    cases (nodeAt t k).out <;> rfl
  | s :: r, k => by
    unfold walk nodesBy
    dsimp only
    cases q : kidAt t k s with
    | none =>
      dsimp only
      rw [List.filterMap_cons, List.filterMap_nil]
      cases (nodeAt t k).out <;> simp
    | some j =>
      dsimp only
      rw [walk_eq t r j, List.filterMap_cons]
      refine Prod.ext ?_ ?_
      · cases (nodeAt t k).out <;> rfl
      · show min (nodesBy t j r).length r.length + 1 = min ((nodesBy t j r).length + 1) (r.length + 1)
        omega
theorem look_eq (t : Table × Nat) (x : Bytes) : Vahypd.look t.1 t.2 x = lookP t x (signed x).length := by
  unfold Vahypd.look lookP
  dsimp only
  have e0 : (x.map (fun _ => 0) ++ [0] : List Nat) = List.replicate (x.length + 1) 0 := by
    rw [List.replicate_succ', List.map_const']
  rw [e0]
  congr 1
  funext r s
  rw [walk_eq]
  unfold outsOf stepsOf
  rw [List.length_drop]
  have : (if s = 0 then 0 else s - 1) = s - 1 := by split <;> omega
  rw [this]
theorem digB_eq (t : Table) : ∀ (l : List Nat) (k : Nat), (if (nodesBy t k l).length = l.length + 1 then (nodeAt t ((nodesBy t k l).getLastD 0)).out else none) = findOut t k l
  | [], k => rfl
  | s :: r, k => by
    show (if (k :: (match kidAt t k s with
      | none => []
      | some j => nodesBy t j r)).length = (s :: r).length + 1 then (nodeAt t ((k :: (match kidAt t k s with
      | none => []
      | some j => nodesBy t j r)).getLastD 0)).out else none) = (kidAt t k s).bind fun j => findOut t j r
    cases q : kidAt t k s with
    | none =>
      rw [if_neg (by simp)]; rfl
    | some j =>
      have ih := digB_eq t r j
      show _ = findOut t j r
      rw [← ih]
      have e1 : ((k :: nodesBy t j r).length = (s :: r).length + 1) = ((nodesBy t j r).length = r.length + 1) := by
        simp only [List.length_cons]
        exact propext ⟨fun h => by omega, fun h => by omega⟩
      have e2 : (k :: nodesBy t j r).getLastD 0 = (nodesBy t j r).getLastD 0 := by
        obtain ⟨a, l, e⟩ := List.exists_cons_of_ne_nil (nodesBy_ne t j r)
        rw [e]; rfl
      dsimp only
      rw [e2]
      by_cases h : (nodesBy t j r).length = r.length + 1
      · rw [if_pos h, if_pos (by rw [e1]; exact h)]
      · rw [if_neg h, if_neg (by rw [e1]; exact h)]
theorem digB_find (t : Table × Nat) (l : List Nat) : digB t l = findOut t.1 t.2 l := digB_eq t.1 l t.2
/-! ### counts -/
theorem counts_snoc (t : Table) (n : Node) : Vahypd.countsOf (t ++ [n]) = Vahypd.countsOf t ++ [Nat.min 1000 ((if n.out.isSome = true then 1 else 0) + (n.kids.map fun x => (Vahypd.countsOf t).getD x.2 0).sum)] := by
  unfold Vahypd.countsOf
  rw [List.foldl_append]; rfl
theorem min_sum (l : List Nat) (c a : Nat) : min c (a + (l.map fun v => min c v).sum) = min c (a + l.sum) := by
  induction l generalizing a with
  | nil => rfl
  | cons v r ih =>
    rw [List.map_cons, List.sum_cons, List.sum_cons]
    have h1 := ih (a + min c v)
    have h2 := ih (a + v)
    rw [← Nat.add_assoc, h1, ← Nat.add_assoc]
    omega
theorem counts_eq (t : Table) : Vahypd.countsOf t = (endsOf t).map fun v => min 1000 v := by
  have key : ∀ (r t : Table), t.reverse = r → Vahypd.countsOf t = (endsOf t).map fun v => min 1000 v := by
    intro r
    induction r with
    | nil => intro t h; rw [List.reverse_eq_nil_iff] at h; subst h; rfl
    | cons n r ih =>
      intro t h
      have ht : t = r.reverse ++ [n] := by rw [← List.reverse_reverse t, h, List.reverse_cons]
      rw [ht, counts_snoc, endsOf_snoc, ih r.reverse (List.reverse_reverse r), List.map_append]
      congr 1
      show [Nat.min 1000 _] = [min 1000 _]
      congr 1
      have e1 : (n.kids.map fun x => ((endsOf r.reverse).map fun v => min 1000 v).getD x.2 0) = (n.kids.map fun x => (endsOf r.reverse).getD x.2 0).map fun v => min 1000 v := by
        rw [List.map_map]
        (refine List.map_congr_left fun x _ => ?_)
        show _ = min 1000 ((endsOf r.reverse).getD x.2 0)
        (rw [List.getD_eq_getElem?_getD, List.getD_eq_getElem?_getD, List.getElem?_map])
        cases (endsOf r.reverse)[x.2]? <;> rfl
      rw [e1]
      exact min_sum _ 1000 _
  exact key _ t rfl
theorem counts_at (t : Table) (k n : Nat) (h : n < 1000) : ((Vahypd.countsOf t).getD k 0 == n) = decide ((endsOf t).getD k 0 = n) := by
  rw [counts_eq, List.getD_eq_getElem?_getD, List.getElem?_map, List.getD_eq_getElem?_getD, Bool.eq_iff_iff, beq_iff_eq, decide_eq_true_eq]
  cases (endsOf t)[k]? with
  | none => rfl
  | some v =>
    show min 1000 v = n ↔ v = n
    omega
theorem tells_eq {t : Table × Nat} {ps : List Pat} (h : ps.length ≤ 40) : Vahypd.tells t ps = (Vahypd.proper t && tellsB t ps) := by
  unfold Vahypd.tells tellsB
  rw [counts_at _ _ _ (by omega)]
  congr 2
  refine List.all_congr rfl fun p => ?_
  rw [digB_find, Bool.eq_iff_iff, beq_iff_eq, decide_eq_true_eq]
/-! ### spelled out -/
theorem endsOf_at (t : Table) (k : Nat) (h : k < t.length) (W : Wf t) : (endsOf t).getD k 0 = (if (nodeAt t k).out.isSome = true then 1 else 0) + ((nodeAt t k).kids.map fun x => (endsOf t).getD x.2 0).sum := by
  -- the list grows at its end
  have app : ∀ (u t : Table), ∃ v, endsOf (t ++ u) = endsOf t ++ v := by
    intro u
    induction u with
    | nil => intro t; exact ⟨[], by rw [List.append_nil, List.append_nil]⟩
    | cons n r ih =>
      intro t
      obtain ⟨v, hv⟩ := ih (t ++ [n])
      rw [List.append_assoc] at hv
      rw [endsOf_snoc, List.append_assoc] at hv
      exact ⟨_, hv⟩
  have sp : t = t.take k ++ nodeAt t k :: t.drop (k + 1) := by
    have e := at_nodeAt h
    obtain ⟨_, e'⟩ := List.getElem?_eq_some_iff.mp e
    rw [← e', ← List.drop_eq_getElem_cons h, List.take_append_drop]
  have sp2 : t = (t.take k ++ [nodeAt t k]) ++ t.drop (k + 1) := by
    rw [List.append_assoc]; exact sp
  obtain ⟨v, hv⟩ := app (t.drop (k + 1)) (t.take k ++ [nodeAt t k])
  rw [← sp2, endsOf_snoc] at hv
  have lk : (endsOf (t.take k)).length = k := by rw [endsOf_len, List.length_take]; omega
  have low : ∀ j, j < k → (endsOf t).getD j 0 = (endsOf (t.take k)).getD j 0 := fun j hj => by
    rw [hv, List.getD_eq_getElem?_getD, List.getD_eq_getElem?_getD, List.append_assoc, List.getElem?_append_left (by omega)]
  have here : (endsOf t).getD k 0 = (if (nodeAt t k).out.isSome = true then 1 else 0) + ((nodeAt t k).kids.map fun x => (endsOf (t.take k)).getD x.2 0).sum := by
    rw [hv, List.getD_eq_getElem?_getD, List.append_assoc, List.getElem?_append_right (by omega), lk, Nat.sub_self]; rfl
  rw [here]
  congr 2
  refine List.map_congr_left fun x hx => ?_
  rw [low x.2 (W k h x hx)]
theorem spell_len {t : Table} (W : Wf t) : ∀ (f k : Nat), k < t.length → Hi t f k → (spellOut t f k).length = (endsOf t).getD k 0
  | 0, k, hk, h => by
    have h' : (nodeAt t k).kids = [] := h
    rw [endsOf_at t k hk W, h']
    unfold spellOut
    dsimp only
    cases (nodeAt t k).out <;> rfl
  | f + 1, k, hk, h => by
    rw [endsOf_at t k hk W]
    unfold spellOut
    dsimp only
    rw [List.length_append]
    congr 1
    · cases (nodeAt t k).out <;> rfl
    · rw [List.length_flatMap]
      congr 1
      refine List.map_congr_left fun x hx => ?_
      rw [List.length_map]
      exact spell_len W f x.2 (Nat.lt_trans (W k hk x hx) hk) (h x hx)
/-- more fuel, the same -/
theorem spell_fuel {t : Table} : ∀ (f g k : Nat), Hi t f k → f ≤ g → spellOut t g k = spellOut t f k
  | 0, 0, k, _, _ => rfl
  | 0, g + 1, k, h, _ => by
    have h' : (nodeAt t k).kids = [] := h
    show (match (nodeAt t k).out with
      | some v => [([], v)]
      | none => []) ++ (nodeAt t k).kids.flatMap _ = _
    rw [h', List.flatMap_nil, List.append_nil]
    rfl
  | f + 1, 0, k, _, h => by omega
  | f + 1, g + 1, k, h, hg => by
    show (match (nodeAt t k).out with
      | some v => [([], v)]
      | none => []) ++ (nodeAt t k).kids.flatMap (fun x => (spellOut t g x.2).map fun e => (x.1 :: e.1, e.2)) = (match (nodeAt t k).out with
      | some v => [([], v)]
      | none => []) ++ (nodeAt t k).kids.flatMap (fun x => (spellOut t f x.2).map fun e => (x.1 :: e.1, e.2))
    congr 1
    rw [List.flatMap_def, List.flatMap_def]
    congr 1
    refine List.map_congr_left fun x hx => ?_
    rw [spell_fuel f g x.2 (h x hx) (by omega)]
end Q
/-! Beginnings; nodes kept. -/
namespace Q
open VahypBase (Bytes)
open Vahypa (Pat Lst)
open Vahypd (Node Table build firstSigns behind endsHere plainBy nodeAt kidAt findOut nodesBy spellOut)
/-! ### beginnings -/
def plainL : Nat → Ents → List (List Nat)
  | 0, _ => [[]]
  | f + 1, es => [] :: (firstSigns es).flatMap fun s => (plainL f (behind es s)).map fun l => s :: l
theorem plainL_len : ∀ (f : Nat) (es : Ents), (plainL f es).length = plainBy f es
  | 0, es => rfl
  | f + 1, es => by
    show (List.length _) + 1 = ((firstSigns es).map fun s => plainBy f (behind es s)).sum + 1
    rw [List.length_flatMap]
    congr 2
    refine List.map_congr_left fun s _ => ?_
    rw [List.length_map, plainL_len f]
theorem plainL_nodup : ∀ (f : Nat) (es : Ents), (plainL f es).Nodup
  | 0, es => by simp [plainL]
  | f + 1, es => by
    show ([] :: (firstSigns es).flatMap fun s => (plainL f (behind es s)).map fun l => s :: l).Nodup
    rw [List.nodup_cons]
    refine ⟨fun h => ?_, ?_⟩
    · obtain ⟨s, _, h⟩ := List.mem_flatMap.mp h
      obtain ⟨l, _, e⟩ := List.mem_map.mp h
      cases e
    · unfold List.Nodup
      rw [List.pairwise_flatMap]
      refine ⟨fun s _ => ?_, ?_⟩
      · rw [List.pairwise_map]
        exact (plainL_nodup f (behind es s)).imp fun h z => h (List.cons.inj z).2
      · refine (first_sorted es).imp fun {a b} h x hx y hy z => ?_
        obtain ⟨l, _, e1⟩ := List.mem_map.mp hx
        obtain ⟨m, _, e2⟩ := List.mem_map.mp hy
        rw [← e1, ← e2] at z
        have := (List.cons.inj z).1
        omega
theorem behind_mem {es : Ents} {s : Nat} {l d : List Nat} : (l, d) ∈ behind es s ↔ (s :: l, d) ∈ es := by
  rw [behind_eq, List.mem_map]
  constructor
  · rintro ⟨e, he, h⟩
    obtain ⟨he, ht⟩ := List.mem_filter.mp he
    obtain ⟨el, ed⟩ := e
    have ht' : el.take 1 = [s] := by simpa using ht
    have h1 : el.drop 1 = l := (Prod.mk.inj h).1
    have h2 : ed = d := (Prod.mk.inj h).2
    have : el = s :: l := by rw [← List.take_append_drop 1 el, ht', h1]; rfl
    rw [← this, ← h2]; exact he
  · intro h
    exact ⟨_, List.mem_filter.mpr ⟨h, by simp⟩, rfl⟩
theorem plainL_mem : ∀ (f : Nat) (es : Ents), (∀ e ∈ es, e.1.length ≤ f) → ∀ l, l ∈ plainL f es ↔ l = [] ∨ ∃ e ∈ es, l <+: e.1
  | 0, es, h, l => by
    show l ∈ [[]] ↔ _
    rw [List.mem_singleton]
    constructor
    · exact .inl
    · rintro (h1 | ⟨e, he, hp⟩)
      · exact h1
      · rw [List.eq_nil_of_length_eq_zero (Nat.le_zero.mp (h e he))] at hp
        exact List.prefix_nil.mp hp
  | f + 1, es, h, l => by
    show l ∈ [] :: (firstSigns es).flatMap (fun s => (plainL f (behind es s)).map fun l => s :: l) ↔ _
    rw [List.mem_cons, List.mem_flatMap]
    constructor
    · rintro (h1 | ⟨s, hs, hm⟩)
      · exact .inl h1
      · obtain ⟨m, hm', rfl⟩ := List.mem_map.mp hm
        right
        rcases (plainL_mem f (behind es s) (behind_short h) m).mp hm' with rfl | ⟨⟨el, ed⟩, he, hp⟩
        · obtain ⟨e, he, hh⟩ := (first_mem es s).mp hs
          refine ⟨e, he, ?_⟩
          cases q : e.1 with
          | nil => rw [q] at hh; cases hh
          | cons a t =>
            rw [q] at hh
            have : a = s := Option.some.inj hh
            subst this
            exact ⟨t, rfl⟩
        · refine ⟨(s :: el, ed), behind_mem.mp he, ?_⟩
          exact List.cons_prefix_cons.mpr ⟨rfl, hp⟩
    · rintro (h1 | ⟨e, he, hp⟩)
      · exact .inl h1
      · cases l with
        | nil => exact .inl rfl
        | cons s m =>
          right
          obtain ⟨el, ed⟩ := e
          cases el with
          | nil => have := List.prefix_nil.mp hp; cases this
          | cons a t =>
            obtain ⟨e1, hp'⟩ := List.cons_prefix_cons.mp hp
            subst e1
            refine ⟨s, (first_mem es s).mpr ⟨_, he, rfl⟩, List.mem_map.mpr ⟨m, (plainL_mem f (behind es s) (behind_short h) m).mpr (.inr ⟨(t, ed), behind_mem.mpr he, hp'⟩), rfl⟩⟩
theorem begins_mem (ps : List Pat) (l : List Nat) : l ∈ begins ps ↔ l = [] ∨ ∃ e ∈ ps.map Vahypd.entryOf, l <+: e.1 := by
  unfold begins beginsOf
  rw [List.mem_cons, List.mem_flatMap]
  constructor
  · rintro (h | ⟨p, hp, h⟩)
    · exact .inl h
    · obtain ⟨k, hk, rfl⟩ := List.mem_map.mp h
      exact .inr ⟨_, List.mem_map.mpr ⟨p, hp, rfl⟩, List.take_prefix _ _⟩
  · rintro (h | ⟨e, he, h⟩)
    · exact .inl h
    · obtain ⟨p, hp, rfl⟩ := List.mem_map.mp he
      by_cases h0 : l = []
      · exact .inl h0
      · right
        have hl : l.length ≤ (Vahypd.signsOf p).length := h.length_le
        have hpos : 0 < l.length := List.length_pos_iff.mpr h0
        refine ⟨p, hp, List.mem_map.mpr ⟨l.length - 1, List.mem_range.mpr (by omega), ?_⟩⟩
        have := List.prefix_iff_eq_take.mp h
        rw [show l.length - 1 + 1 = l.length by omega]
        exact this.symm
theorem dups_nodup {α : Type} [BEq α] [LawfulBEq α] : ∀ (n : Nat) (l : List α), l.length ≤ n → l.eraseDups.Nodup
  | _, [], _ => List.nodup_nil
  | 0, a :: l, h => by simp at h
  | n + 1, a :: l, h => by
    rw [List.eraseDups_cons, List.nodup_cons]
    refine ⟨fun z => ?_, dups_nodup n _ (by
      have := List.length_filter_le (fun b => !b == a) l
      simp at h
      omega)⟩
    rw [List.mem_eraseDups] at z
    have := (List.mem_filter.mp z).2
    simp at this
theorem begins_plain {ps : List Pat} (h : PatsGood ps) : (begins ps).eraseDups.length = Vahypd.plainSize ps := by
  unfold Vahypd.plainSize
  rw [← plainL_len]
  refine List.Perm.length_eq ((List.perm_ext_iff_of_nodup (dups_nodup _ _ (Nat.le_refl _)) (plainL_nodup _ _)).mpr fun l => ?_)
  rw [List.mem_eraseDups, begins_mem]
  exact (plainL_mem 8 _ (ents_short h) l).symm
/-! ### spelled out, told apart -/
abbrev Sp (t : Table) (k : Nat) : Ents := spellOut t 8 k
def outE (o : Option (List Nat)) : Ents := match o with
  | some v => [([], v)]
  | none => []
def glue (K : List (Nat × Ents)) : Ents := K.flatMap fun x => x.2.map fun e => (x.1 :: e.1, e.2)
theorem spell_succ (t : Table) (f k : Nat) : spellOut t (f + 1) k = outE (nodeAt t k).out ++ (nodeAt t k).kids.flatMap (fun x => (spellOut t f x.2).map fun e => (x.1 :: e.1, e.2)) := rfl
theorem spell_succ' (t : Table) (k f g : Nat) (h : g = f + 1) : spellOut t g k = outE (nodeAt t k).out ++ (nodeAt t k).kids.flatMap (fun x => (spellOut t f x.2).map fun e => (x.1 :: e.1, e.2)) := by subst h; rfl
theorem Sp_eq {t : Table} (T : TG t) {k : Nat} (h : k < t.length) : Sp t k = outE (nodeAt t k).out ++ glue ((nodeAt t k).kids.map fun x => (x.1, Sp t x.2)) := by
  refine (spell_succ' t k 7 8 rfl).trans ?_
  unfold glue
  rw [List.flatMap_map]
  refine congrArg (fun z => outE (nodeAt t k).out ++ z) ?_
  rw [List.flatMap_def, List.flatMap_def]
  refine congrArg List.flatten ?_
  refine List.map_congr_left fun x hx => ?_
  have hh : Hi t 7 x.2 := T.hi k h x hx
  have := spell_fuel 7 8 x.2 hh (by decide)
  unfold Sp
  rw [this]
theorem Sp_ne {t : Table} (T : TG t) : ∀ (n k : Nat), k < n → k < t.length → Tells t k → Sp t k ≠ []
  | 0, k, h, _, _ => by omega
  | n + 1, k, hn, hk, ht => by
    rw [Sp_eq T hk]
    rcases ht with h | h
    · cases q : (nodeAt t k).out with
      | none => rw [q] at h; cases h
      | some v => simp [outE]
    · obtain ⟨x, r, e⟩ := List.exists_cons_of_ne_nil h
      have hx : x ∈ (nodeAt t k).kids := by rw [e]; exact List.mem_cons_self ..
      have hlt := T.wf k hk x hx
      have := Sp_ne T n x.2 (by omega) (by omega) (T.kt k hk x hx)
      rw [e]
      intro z
      have z2 := (List.append_eq_nil_iff.mp z).2
      unfold glue at z2
      rw [List.map_cons, List.flatMap_cons, List.append_eq_nil_iff, List.map_eq_nil_iff] at z2
      exact this z2.1
structure GK (K : List (Nat × Ents)) : Prop where
  sorted : (K.map fun x => x.1).Pairwise (· < ·)
  ne : ∀ x ∈ K, x.2 ≠ []
theorem glue_head {K : List (Nat × Ents)} {s : Nat} {e : Vahypd.Entry} (h : ∀ x ∈ K, s < x.1) (he : e ∈ glue K) : ∃ a l, e.1 = a :: l ∧ s < a := by
  unfold glue at he
  obtain ⟨x, hx, he⟩ := List.mem_flatMap.mp he
  obtain ⟨e', _, rfl⟩ := List.mem_map.mp he
  exact ⟨x.1, e'.1, rfl, h x hx⟩
theorem glue_inj : ∀ (K L : List (Nat × Ents)), GK K → GK L → glue K = glue L → K = L
  | [], [], _, _, _ => rfl
  | [], (s, es) :: L, _, g, h => by
    exfalso
    have hne : es ≠ [] := g.ne (s, es) (List.mem_cons_self ..)
    unfold glue at h
    rw [List.flatMap_cons, List.flatMap_nil] at h
    have := (List.append_eq_nil_iff.mp h.symm).1
    exact hne (List.map_eq_nil_iff.mp this)
  | (s, es) :: K, [], g, _, h => by
    exfalso
    have hne : es ≠ [] := g.ne (s, es) (List.mem_cons_self ..)
    unfold glue at h
    rw [List.flatMap_cons, List.flatMap_nil] at h
    have := (List.append_eq_nil_iff.mp h).1
    exact hne (List.map_eq_nil_iff.mp this)
  | (s, es) :: K, (s', es') :: L, g, g', h => by
    have h1 := List.pairwise_cons.mp g.sorted
    have h2 := List.pairwise_cons.mp g'.sorted
    have k1 : ∀ x ∈ K, s < x.1 := fun x hx => h1.1 _ (List.mem_map.mpr ⟨x, hx, rfl⟩)
    have k2 : ∀ x ∈ L, s' < x.1 := fun x hx => h2.1 _ (List.mem_map.mpr ⟨x, hx, rfl⟩)
    have e1 : glue ((s, es) :: K) = es.map (fun e => (s :: e.1, e.2)) ++ glue K := rfl
    have e2 : glue ((s', es') :: L) = es'.map (fun e => (s' :: e.1, e.2)) ++ glue L := rfl
    rw [e1, e2] at h
    have hs : s = s' := by
      obtain ⟨a, r, ea⟩ := List.exists_cons_of_ne_nil (g.ne (s, es) (List.mem_cons_self ..))
      obtain ⟨b, r', eb⟩ := List.exists_cons_of_ne_nil (g'.ne (s', es') (List.mem_cons_self ..))
      have ea' : es = a :: r := ea
      have eb' : es' = b :: r' := eb
      rw [ea', eb'] at h
      have := (List.cons.inj h).1
      have := (Prod.mk.inj this).1
      exact (List.cons.inj this).1
    subst hs
    have f1 : ∀ (es : Ents) (K : List (Nat × Ents)), (∀ x ∈ K, s < x.1) → ((es.map (fun e => (s :: e.1, e.2)) ++ glue K).filter fun e => decide (e.1.head? = some s)) = es.map fun e => (s :: e.1, e.2) := by
      intro es K hK
      rw [List.filter_append]
      have a1 : (es.map fun e => ((s :: e.1, e.2) : Vahypd.Entry)).filter (fun e => decide (e.1.head? = some s)) = es.map fun e => (s :: e.1, e.2) := by
        rw [List.filter_eq_self]
        intro e he
        obtain ⟨e', _, rfl⟩ := List.mem_map.mp he
        simp
      have a2 : (glue K).filter (fun e => decide (e.1.head? = some s)) = [] := by
        rw [List.filter_eq_nil_iff]
        intro e he z
        obtain ⟨a, l, q, hlt⟩ := glue_head hK he
        rw [q] at z
        have : a = s := by simpa using z
        omega
      rw [a1, a2, List.append_nil]
    have hes : es.map (fun e => ((s :: e.1, e.2) : Vahypd.Entry)) = es'.map fun e => (s :: e.1, e.2) := by
      rw [← f1 es K k1, ← f1 es' L k2, h]
    have hinj : es = es' := by
      refine List.map_inj_right (f := fun e : Vahypd.Entry => ((s :: e.1, e.2) : Vahypd.Entry)) (fun a b hab => ?_) |>.mp hes
      have q := Prod.mk.inj hab
      exact Prod.ext (List.cons.inj q.1).2 q.2
    subst hinj
    have hr := List.append_cancel_left h
    have ih := glue_inj K L ⟨h1.2, fun x hx => g.ne x (List.mem_cons_of_mem _ hx)⟩ ⟨h2.2, fun x hx => g'.ne x (List.mem_cons_of_mem _ hx)⟩ hr
    rw [ih]
theorem out_glue {o o' : Option (List Nat)} {K L : List (Nat × Ents)} (h : outE o ++ glue K = outE o' ++ glue L) : o = o' ∧ glue K = glue L := by
  have nope : ∀ (v : List Nat) (K : List (Nat × Ents)) (r : Ents), glue K ≠ ([], v) :: r := fun v K r z => by
    have : (([], v) : Vahypd.Entry) ∈ glue K := by rw [z]; exact List.mem_cons_self ..
    unfold glue at this
    obtain ⟨x, _, hx⟩ := List.mem_flatMap.mp this
    obtain ⟨e, _, he⟩ := List.mem_map.mp hx
    have := (Prod.mk.inj he).1
    cases this
  cases o with
  | none =>
    cases o' with
    | none => exact ⟨rfl, h⟩
    | some v => exact absurd h (nope v K _)
  | some v =>
    cases o' with
    | none => exact absurd h.symm (nope v L _)
    | some w =>
      have q := List.cons.inj h
      have q1 := (Prod.mk.inj q.1).2
      exact ⟨by rw [q1], q.2⟩
theorem kids_gk {t : Table} (T : TG t) {k : Nat} (h : k < t.length) : GK ((nodeAt t k).kids.map fun x => (x.1, Sp t x.2)) := by
  refine ⟨?_, fun x hx => ?_⟩
  · rw [List.map_map]
    exact T.sorted k h
  · obtain ⟨y, hy, rfl⟩ := List.mem_map.mp hx
    exact Sp_ne T (y.2 + 1) y.2 (Nat.lt_succ_self _) (Nat.lt_trans (T.wf k h y hy) h) (T.kt k h y hy)
/-- what is told apart -/
theorem Sp_split {a b : Table} (A : TG a) (B : TG b) {i j : Nat} (hi : i < a.length) (hj : j < b.length) (h : Sp a i = Sp b j) : (nodeAt a i).out = (nodeAt b j).out ∧ (nodeAt a i).kids.map (fun x => (x.1, Sp a x.2)) = (nodeAt b j).kids.map fun x => (x.1, Sp b x.2) := by
  rw [Sp_eq A hi, Sp_eq B hj] at h
  obtain ⟨h1, h2⟩ := out_glue h
  exact ⟨h1, glue_inj _ _ (kids_gk A hi) (kids_gk B hj) h2⟩
theorem nodup_at {t : Table} (h : t.Nodup) {i j : Nat} (hi : i < t.length) (hj : j < t.length) (e : nodeAt t i = nodeAt t j) : i = j := by
  have e1 := at_nodeAt hi
  have e2 := at_nodeAt hj
  rw [e] at e1
  obtain ⟨_, q1⟩ := List.getElem?_eq_some_iff.mp e1
  obtain ⟨_, q2⟩ := List.getElem?_eq_some_iff.mp e2
  rcases Nat.lt_trichotomy i j with z | z | z
  · exact absurd (q1.trans q2.symm) (List.pairwise_iff_getElem.mp h i j hi hj z)
  · exact z
  · exact absurd (q2.trans q1.symm) (List.pairwise_iff_getElem.mp h j i hj hi z)
theorem Sp_inj {t : Table} (T : TG t) : ∀ (n i j : Nat), i < n → i < t.length → j < t.length → Sp t i = Sp t j → i = j
  | 0, i, j, h, _, _, _ => by omega
  | n + 1, i, j, hn, hi, hj, h => by
    obtain ⟨h1, h2⟩ := Sp_split T T hi hj h
    have key : ∀ (K L : List (Nat × Nat)), (∀ x ∈ K, x.2 < i ∧ x.2 < t.length) → (∀ x ∈ L, x.2 < t.length) → K.map (fun x => (x.1, Sp t x.2)) = L.map (fun x => (x.1, Sp t x.2)) → K = L := by
      intro K
      induction K with
      | nil => intro L _ _ e; cases L with
        | nil => rfl
        | cons y L => cases e
      | cons x K ih =>
        intro L hK hL e
        cases L with
        | nil => cases e
        | cons y L =>
          (rw [List.map_cons, List.map_cons] at e)
          have q := List.cons.inj e
          have q1 := Prod.mk.inj q.1
          have hx := hK x (List.mem_cons_self ..)
          have := Sp_inj T n x.2 y.2 (by omega) hx.2 (hL y (List.mem_cons_self ..)) q1.2
          rw [Prod.ext q1.1 this, ih L (fun z hz => hK z (List.mem_cons_of_mem _ hz)) (fun z hz => hL z (List.mem_cons_of_mem _ hz)) q.2]
    have hk := key _ _ (fun x hx => ⟨T.wf i hi x hx, Nat.lt_trans (T.wf i hi x hx) hi⟩) (fun x hx => Nat.lt_trans (T.wf j hj x hx) hj) h2
    refine nodup_at T.nd hi hj ?_
    have : ∀ n m : Node, n.out = m.out → n.kids = m.kids → n = m := fun n m a b => by
      cases n; cases m; simp at a b; rw [a, b]
    exact this _ _ h1 hk
end Q
/-! Nodes kept. -/
namespace Q
open VahypBase (Bytes)
open Vahypa (Pat Lst)
open Vahypd (Node Table nodeAt spellOut)
theorem trans_congr {l : List (Nat × Nat)} {ns ms : List (Option Nat)} (h : ∀ x ∈ l, ns.getD x.2 none = ms.getD x.2 none) : transO l ns = transO l ms := by
  unfold transO
  have e1 : l.any (fun x => (ns.getD x.2 none).isNone) = l.any (fun x => (ms.getD x.2 none).isNone) := by
    (rw [Bool.eq_iff_iff, List.any_eq_true, List.any_eq_true])
    constructor
    · rintro ⟨x, hx, e⟩; exact ⟨x, hx, by rw [← h x hx]; exact e⟩
    · rintro ⟨x, hx, e⟩; exact ⟨x, hx, by rw [h x hx]; exact e⟩
  have e2 : (l.map fun x => (x.1, (ns.getD x.2 none).getD 0)) = l.map fun x => (x.1, (ms.getD x.2 none).getD 0) := List.map_congr_left fun x hx => by rw [h x hx]
  rw [e1, e2]
theorem numsOf_at (b a : Table) (i : Nat) (h : i < a.length) (W : Wf a) : (numsOf b a).getD i none = (transO (nodeAt a i).kids (numsOf b a)).bind fun l => b.findIdx? (fun m => m == ⟨(nodeAt a i).out, l⟩) := by
  have app : ∀ (u t : Table), ∃ v, numsOf b (t ++ u) = numsOf b t ++ v := by
    intro u
    induction u with
    | nil => intro t; exact ⟨[], by rw [List.append_nil, List.append_nil]⟩
    | cons n r ih =>
      intro t
      obtain ⟨v, hv⟩ := ih (t ++ [n])
      rw [List.append_assoc] at hv
      rw [numsOf_snoc, List.append_assoc] at hv
      exact ⟨_, hv⟩
  have sp2 : a = (a.take i ++ [nodeAt a i]) ++ a.drop (i + 1) := by
    have e := at_nodeAt h
    obtain ⟨_, e'⟩ := List.getElem?_eq_some_iff.mp e
    rw [List.append_assoc]
    show a = a.take i ++ nodeAt a i :: a.drop (i + 1)
    rw [← e', ← List.drop_eq_getElem_cons h, List.take_append_drop]
  obtain ⟨v, hv⟩ := app (a.drop (i + 1)) (a.take i ++ [nodeAt a i])
  rw [← sp2, numsOf_snoc] at hv
  have lk : (numsOf b (a.take i)).length = i := by rw [numsOf_len, List.length_take]; omega
  have low : ∀ j, j < i → (numsOf b a).getD j none = (numsOf b (a.take i)).getD j none := fun j hj => by
    rw [hv, List.getD_eq_getElem?_getD, List.getD_eq_getElem?_getD, List.append_assoc, List.getElem?_append_left (by omega)]
  have here : (numsOf b a).getD i none = (transO (nodeAt a i).kids (numsOf b (a.take i))).bind fun l => b.findIdx? (fun m => m == ⟨(nodeAt a i).out, l⟩) := by
    rw [hv, List.getD_eq_getElem?_getD, List.append_assoc, List.getElem?_append_right (by omega), lk, Nat.sub_self]; rfl
  rw [here, trans_congr fun x hx => (low x.2 (W i h x hx)).symm]
theorem find_node {b : Table} {n : Node} {j : Nat} (h : b.findIdx? (fun m => m == n) = some j) : j < b.length ∧ nodeAt b j = n := by
  rw [List.findIdx?_eq_some_iff_getElem] at h
  obtain ⟨hj, e, _⟩ := h
  refine ⟨hj, ?_⟩
  have e' : b[j] = n := by simpa using e
  have := at_nodeAt hj
  rw [List.getElem?_eq_getElem hj] at this
  rw [← Option.some.inj this]; exact e'
theorem find_node' {b : Table} {n : Node} (h : n ∈ b) : (b.findIdx? (fun m => m == n)).isSome = true := by
  cases q : b.findIdx? (fun m => m == n) with
  | some j => rfl
  | none =>
    rw [List.findIdx?_eq_none_iff] at q
    have := q n h
    simp at this
/-- a node of a that b has, too: by what is spelled out -/
theorem nums_spec {a b : Table} (A : TG a) (B : TG b) : ∀ (n i : Nat), i < n → i < a.length → (∀ j, (numsOf b a).getD i none = some j → j < b.length ∧ Sp a i = Sp b j) ∧ (∀ j, j < b.length → Sp a i = Sp b j → (numsOf b a).getD i none = some j)
  | 0, i, h, _ => by omega
  | n + 1, i, hn, hi => by
    have low : ∀ x ∈ (nodeAt a i).kids, x.2 < i := A.wf i hi
    have ih : ∀ x ∈ (nodeAt a i).kids, (∀ j, (numsOf b a).getD x.2 none = some j → j < b.length ∧ Sp a x.2 = Sp b j) ∧ (∀ j, j < b.length → Sp a x.2 = Sp b j → (numsOf b a).getD x.2 none = some j) := fun x hx => nums_spec A B n x.2 (by have := low x hx; omega) (by have := low x hx; omega)
    have fwd : ∀ j, (numsOf b a).getD i none = some j → j < b.length ∧ Sp a i = Sp b j := by
      intro j hj
      rw [numsOf_at b a i hi A.wf] at hj
      cases ht : transO (nodeAt a i).kids (numsOf b a) with
      | none => rw [ht] at hj; cases hj
      | some l =>
        rw [ht] at hj
        obtain ⟨hjl, en⟩ := find_node hj
        refine ⟨hjl, ?_⟩
        unfold transO at ht
        split at ht
        · cases ht
        · rename_i hany
          have el := Option.some.inj ht
          rw [Sp_eq A hi, Sp_eq B hjl, en]
          show outE (nodeAt a i).out ++ _ = outE (nodeAt a i).out ++ glue (l.map fun x => (x.1, Sp b x.2))
          rw [← el, List.map_map]
          refine congrArg (fun z => outE (nodeAt a i).out ++ glue z) (List.map_congr_left fun x hx => ?_)
          cases q : (numsOf b a).getD x.2 none with
          | none =>
            exfalso
            apply hany
            rw [List.any_eq_true]
            exact ⟨x, hx, by rw [q]; rfl⟩
          | some k =>
            have := ((ih x hx).1 k q).2
            show (x.1, Sp a x.2) = (x.1, Sp b (((numsOf b a).getD x.2 none).getD 0))
            rw [q, this]; rfl
    refine ⟨fwd, fun j hj h => ?_⟩
    obtain ⟨h1, h2⟩ := Sp_split A B hi hj h
    -- each edge's node has a number
    have key : ∀ (K L : List (Nat × Nat)), (∀ x ∈ K, x ∈ (nodeAt a i).kids) → (∀ x ∈ L, x.2 < b.length) → K.map (fun x => (x.1, Sp a x.2)) = L.map (fun x => (x.1, Sp b x.2)) → (∀ x ∈ K, ((numsOf b a).getD x.2 none).isSome = true) ∧ K.map (fun x => (x.1, ((numsOf b a).getD x.2 none).getD 0)) = L := by
      intro K
      induction K with
      | nil => intro L _ _ e; cases L with
        | nil => exact ⟨fun x hx => (by cases hx), rfl⟩
        | cons y L => cases e
      | cons x K ihK =>
        intro L hK hL e
        cases L with
        | nil => cases e
        | cons y L =>
          (rw [List.map_cons, List.map_cons] at e)
          have q := List.cons.inj e
          have q1 := Prod.mk.inj q.1
          have hx := hK x (List.mem_cons_self ..)
          have e1 := (ih x hx).2 y.2 (hL y (List.mem_cons_self ..)) q1.2
          obtain ⟨r1, r2⟩ := ihK L (fun z hz => hK z (List.mem_cons_of_mem _ hz)) (fun z hz => hL z (List.mem_cons_of_mem _ hz)) q.2
          refine ⟨fun z hz => ?_, ?_⟩
          · rcases List.mem_cons.mp hz with rfl | hz
            · rw [e1]; rfl
            · exact r1 z hz
          · rw [List.map_cons, r2, e1]
            have : (x.1, (some y.2).getD 0) = y := Prod.ext q1.1 rfl
            rw [this]
    obtain ⟨r1, r2⟩ := key _ _ (fun x hx => hx) (fun x hx => Nat.lt_trans (B.wf j hj x hx) hj) h2
    have ht : transO (nodeAt a i).kids (numsOf b a) = some (nodeAt b j).kids := by
      unfold transO
      rw [if_neg, r2]
      rw [List.any_eq_true]
      rintro ⟨x, hx, e⟩
      have := r1 x hx
      cases q : (numsOf b a).getD x.2 none with
      | none => rw [q] at this; cases this
      | some k => rw [q] at e; cases e
    have hnode : (⟨(nodeAt a i).out, (nodeAt b j).kids⟩ : Node) = nodeAt b j := by rw [h1]
    have hmem : nodeAt b j ∈ b := List.mem_of_getElem? (at_nodeAt hj)
    rw [numsOf_at b a i hi A.wf, ht]
    show b.findIdx? (fun m => m == ⟨(nodeAt a i).out, (nodeAt b j).kids⟩) = some j
    rw [hnode]
    cases q : b.findIdx? (fun m => m == nodeAt b j) with
    | none =>
      have := find_node' hmem
      rw [q] at this; cases this
    | some k =>
      obtain ⟨hk, ek⟩ := find_node q
      rw [nodup_at B.nd hk hj ek]
theorem spelled {t : Table} (T : TG t) : (t.map fun n => spellOut t 8 (t.findIdx fun m => m == n)) = (List.range t.length).map fun i => Sp t i := by
  apply List.ext_getElem?
  intro i
  (rw [List.getElem?_map, List.getElem?_map])
  rcases Nat.lt_or_ge i t.length with h | h
  · rw [at_nodeAt h, List.getElem?_range h]
    show some (spellOut t 8 _) = some (Sp t i)
    have hm : nodeAt t i ∈ t := List.mem_of_getElem? (at_nodeAt h)
    have hlt : t.findIdx (fun m => m == nodeAt t i) < t.length := by
      rw [List.findIdx_lt_length]
      exact ⟨_, hm, by simp⟩
    have he : nodeAt t (t.findIdx fun m => m == nodeAt t i) = nodeAt t i := by
      have := List.findIdx_getElem (w := hlt)
      have e2 := at_nodeAt hlt
      rw [List.getElem?_eq_getElem hlt] at e2
      rw [← Option.some.inj e2]
      simpa using this
    rw [nodup_at T.nd hlt h he]
  · rw [List.getElem?_eq_none h, List.getElem?_eq_none (by rw [List.length_range]; exact h)]; rfl
def keptC (b a : Table) : Nat := ((numsOf b a).filter fun o => o.isSome).length
theorem kept_eq {a b : Table} (A : TG a) (B : TG b) : Vahypd.kept a b = keptC b a := by
  unfold Vahypd.kept
  dsimp only
  rw [spelled A, spelled B, List.filter_map, List.length_map]
  unfold keptC
  have e : numsOf b a = (List.range a.length).map fun i => (numsOf b a).getD i none := by
    apply List.ext_getElem?
    intro i
    rw [List.getElem?_map]
    rcases Nat.lt_or_ge i a.length with h | h
    · rw [List.getElem?_range h, List.getElem?_eq_getElem (by rw [numsOf_len]; exact h)]
      show _ = some ((numsOf b a).getD i none)
      rw [List.getD_eq_getElem?_getD, List.getElem?_eq_getElem (by rw [numsOf_len]; exact h)]; rfl
    · rw [List.getElem?_eq_none (by rw [numsOf_len]; exact h), List.getElem?_eq_none (by rw [List.length_range]; exact h)]; rfl
  rw [e, List.filter_map, List.length_map]
  congr 1
  refine List.filter_congr fun i hi => ?_
  have hi' : i < a.length := List.mem_range.mp hi
  obtain ⟨s1, s2⟩ := nums_spec A B (i + 1) i (Nat.lt_succ_self _) hi'
  show ((List.range b.length).map fun i => Sp b i).contains (Sp a i) = ((numsOf b a).getD i none).isSome
  rw [Bool.eq_iff_iff, List.contains_iff_mem, List.mem_map]
  constructor
  · rintro ⟨j, hj, e⟩
    rw [s2 j (List.mem_range.mp hj) e.symm]; rfl
  · intro h
    cases q : (numsOf b a).getD i none with
    | none => rw [q] at h; cases h
    | some j =>
      obtain ⟨h1, h2⟩ := s1 j q
      exact ⟨j, List.mem_range.mpr h1, h2.symm⟩
end Q
/-! Each call answers as it is due. -/
namespace Q
open VahypBase (Bytes isLetter)
open Vahypa (Pat Lst)
open Vahypd (Node Table Held nodeAt findOut nodesBy)
theorem read_good {b : Bytes} {s : Lst} (h : Vahypa.read b = .ok s) : PatsGood s.pats := by
  cases ht : VahypBase.tokens b with
  | error f => unfold Vahypa.read at h; rw [ht] at h; cases h
  | ok ts =>
    have R := tokens_ok ht
    rw [read_eq ht] at h
    unfold readR at h
    cases h1 : takeR ts 0 (nextW ts 0 (VahypBase.word "margins")) with
    | error f => rw [h1] at h; cases h
    | ok n1 =>
      obtain ⟨hb, hn⟩ := takeR_lt h1
      have l1 : n1 < ts.length := by rw [hn]; exact R.next R.pos (nextW_not_last hb)
      rw [h1] at h
      change (marginR ts n1).bind _ = _ at h
      cases h2 : marginR ts n1 with
      | error f => rw [h2] at h; cases h
      | ok a =>
        have l2 := marginR_lt R l1 h2
        rw [h2] at h
        change (marginR ts a.2).bind _ = _ at h
        cases h3 : marginR ts a.2 with
        | error f => rw [h3] at h; cases h
        | ok z =>
          have l3 := marginR_lt R l2 h3
          rw [h3] at h
          change (takeR ts z.2 _).bind _ = _ at h
          cases h4 : takeR ts z.2 (isStop (tk ts z.2)) with
          | error f => rw [h4] at h; cases h
          | ok n4 =>
            obtain ⟨hb4, hn4⟩ := takeR_lt h4
            have l4 : n4 < ts.length := by rw [hn4]; exact R.next l3 (stop_not_last hb4)
            rw [h4] at h
            change (wordsR ts n4).bind _ = _ at h
            cases h5 : wordsR ts n4 with
            | error f => rw [h5] at h; cases h
            | ok ws =>
              obtain ⟨l5, _⟩ := wordsR_lt R l4 h5
              rw [h5] at h
              change (patsR ts ws.2).bind _ = _ at h
              cases h6 : patsR ts ws.2 with
              | error f => rw [h6] at h; cases h
              | ok ps =>
                rw [h6] at h
                change (takeR ts ps.2 _).map _ = _ at h
                cases h7 : takeR ts ps.2 (isLast (tk ts ps.2)) with
                | error f => rw [h7] at h; cases h
                | ok n7 =>
                  rw [h7] at h
                  cases h
                  exact (patsL_good R _ _ _ _ l5 PatsGood.nil h6).1
theorem held_ok {s : Lst} (h : PatsGood s.pats) : HOk (Vahypd.held s) := ⟨h, rfl⟩
theorem tab_tg {h : Held} (H : HOk h) : TG h.tab.1 := by rw [H.tab]; exact (tab_bd H.good).tg
theorem tab_look {h : Held} (H : HOk h) (l : List Nat) : findOut h.tab.1 h.tab.2 l = lookE (h.lst.pats.map Vahypd.entryOf) l := by rw [H.tab]; exact (tab_bd H.good).look l
abbrev enc (a : VahypBase.Answer) : List Int := VahypdNeutral.encode a
theorem nats_intL (l : List Nat) : VahypBase.nats l = intL l := rfl
theorem sizes_eq {h : Held} (H : HOk h) : ((h.lst.pats.length : Int)) :: Vahypd.sizes h = intL (countsN h) := by
  unfold Vahypd.sizes countsN
  rw [begins_plain H.good]; rfl
theorem let_eq (b : Bytes) : Vahypa.readLetters b = if okLet b = true then some b else none := by
  unfold Vahypa.readLetters okLet
  by_cases h1 : b.length < 2 ∨ Vahypa.LETTERS < b.length ∨ b.all isLetter = false
  · rw [if_pos h1, if_neg]
    intro z
    simp only [Bool.and_eq_true, decide_eq_true_eq] at z
    have hL : Vahypa.LETTERS = 16 := rfl
    rcases h1 with h | h | h
    · omega
    · omega
    · rw [z.2] at h; cases h
  · rw [if_neg h1, if_pos]
    have hL : Vahypa.LETTERS = 16 := rfl
    (simp only [Bool.and_eq_true, decide_eq_true_eq])
    refine ⟨⟨Nat.le_of_not_lt fun z => h1 (.inl z), Nat.le_of_not_lt fun z => h1 (.inr (.inl (by omega)))⟩, ?_⟩
    cases q : b.all isLetter with
    | true => rfl
    | false => exact absurd (.inr (.inr q)) h1
def exA (r : Except Int (List Nat)) : List Int := match r with
  | .ok l => intL l
  | .error n => [n]
theorem lev_eq {h : Held} (x : Bytes) : enc (Vahypd.looked h (.levels x)) = exA (levR h x) := by
  show enc (match Vahypa.readLetters x with
    | none => VahypBase.one (-4)
    | some x => let r := Vahypd.look h.tab.1 h.tab.2 x; ⟨((Vahypd.between x r.1).length : Int), VahypBase.nats (Vahypd.between x r.1 ++ [r.2])⟩) = _
  rw [let_eq]
  unfold levR
  by_cases hb : okLet x = true
  · rw [if_pos hb, if_pos hb]
    dsimp only
    rw [look_eq]
    have hl := okLet_len hb
    have len : (lookN h x).1.length = x.length + 1 := lookP_len _ _ _
    show ((Vahypd.between x (lookN h x).1).length : Int) :: VahypBase.nats (Vahypd.between x (lookN h x).1 ++ [(lookN h x).2]) = intL _
    unfold Vahypd.between
    rw [List.length_take, List.length_drop, len, show min (x.length - 1) (x.length + 1 - 1) = x.length - 1 by omega]
    rfl
  · rw [if_neg hb, if_neg hb]; rfl
theorem part_eq {h : Held} (x : Bytes) : enc (Vahypd.looked h (.part x)) = exA (partR h x) := by
  show enc (match Vahypa.readLetters x with
    | none => VahypBase.one (-4)
    | some x => let l := Vahypd.partsOf h.lst x (Vahypd.look h.tab.1 h.tab.2 x).1; ⟨(l.length : Int), VahypBase.nats l⟩) = _
  rw [let_eq]
  unfold partR
  by_cases hb : okLet x = true
  · rw [if_pos hb, if_pos hb]
    dsimp only
    rw [look_eq]
    have hl := okLet_len hb
    have len : (lookN h x).1.length = x.length + 1 := lookP_len _ _ _
    have e : Vahypd.partsOf h.lst x (lookN h x).1 = gapsP (lookN h x).1 h.lst.l h.lst.r := by
      unfold Vahypd.partsOf gapsP Vahypa.gaps
      rw [List.filter_map, len, show x.length + 1 - 2 = x.length - 1 by omega]
      refine congrArg (List.map _) (List.filter_congr fun i hi => ?_)
      (have hi' := List.mem_range.mp hi)
      show (((lookN h x).1.getD (i + 1) 0 % 2 == 1) && Vahypa.within h.lst x (i + 1)) = _
      unfold Vahypa.within
      rw [Bool.eq_iff_iff]
      simp only [Bool.and_eq_true, decide_eq_true_eq, beq_iff_eq]
      constructor
      · rintro ⟨a, b, c⟩; exact ⟨a, b, by omega⟩
      · rintro ⟨a, b, c⟩; exact ⟨a, b, by omega⟩
    show ((Vahypd.partsOf h.lst x (lookN h x).1).length : Int) :: VahypBase.nats (Vahypd.partsOf h.lst x (lookN h x).1) = intL _
    rw [e]; rfl
  · rw [if_neg hb, if_neg hb]; rfl
theorem chg_eq {h : Held} (H : HOk h) {ps : List Pat} (g : PatsGood ps) : (Vahypd.changed h ps).1 = some (chgH h ps) ∧ enc (Vahypd.changed h ps).2 = intL (chgN h ps) := by
  refine ⟨rfl, ?_⟩
  have H' : HOk (chgH h ps) := chg_ok g
  show ((ps.length : Int)) :: (Vahypd.sizes (chgH h ps) ++ VahypBase.nats [Vahypd.kept h.tab.1 (chgH h ps).tab.1]) = _
  have e := sizes_eq H'
  have e' : ((ps.length : Int)) :: Vahypd.sizes (chgH h ps) = intL (countsN (chgH h ps)) := e
  rw [← List.cons_append, e', kept_eq (tab_tg H) (tab_tg H')]
  unfold chgN intL
  rw [List.map_append]; rfl
theorem same_letters {ps : List Pat} {p : Pat} {c : Bytes} (H : PatsGood ps) (hc : Vahypa.patOf c = some p) (q : Pat) (hq : q ∈ ps) : Vahypd.sameLetters p q = decide (Vahypd.signsOf q = Vahypd.signsOf p) := by
  rw [signs_eq_iff (patL_of hc) (H.patL q hq)]
  unfold Vahypd.sameLetters
  rw [Bool.eq_iff_iff]
  (simp only [Bool.and_eq_true, beq_iff_eq])
  exact ⟨fun ⟨a, b, c⟩ => ⟨a.symm, b.symm, c.symm⟩, fun ⟨a, b, c⟩ => ⟨a.symm, b.symm, c.symm⟩⟩
theorem add_eq {h : Held} (H : HOk h) (c : Bytes) : Vahypd.step (some h) (.add c) = match addR h c with
    | .ok ps => (Vahypd.changed h ps)
    | .error n => (some h, VahypBase.one n) := by
  show (match Vahypa.patOf c with
    | none => (some h, VahypBase.one (-4))
    | some p => let ps := Vahypd.withPat h.lst.pats p; if Vahypa.PATS < ps.length then (some h, VahypBase.one (-7)) else Vahypd.changed h ps) = _
  unfold addR
  cases hp : Vahypa.patOf c with
  | none => rfl
  | some p =>
    dsimp only
    have sl := same_letters H.good hp
    have few := H.good.few
    have hP : Vahypa.PATS = 40 := rfl
    cases hk : placeOf h.lst.pats (Vahypd.signsOf p) with
    | none =>
      have hno : h.lst.pats.any (Vahypd.sameLetters p) = false := by
        rw [List.any_eq_false]
        intro q hq
        rw [sl q hq]
        unfold placeOf at hk
        rw [List.findIdx?_eq_none_iff] at hk
        rw [hk q hq]; exact Bool.false_ne_true
      have hw : Vahypd.withPat h.lst.pats p = h.lst.pats ++ [p] := by unfold Vahypd.withPat; rw [hno]; rfl
      dsimp only
      rw [hw, List.length_append]
      by_cases h40 : h.lst.pats.length < 40
      · rw [if_pos h40, if_neg (by simp only [List.length_cons, List.length_nil]; omega)]
      · rw [if_neg h40, if_pos (by simp only [List.length_cons, List.length_nil]; omega)]
    | some k =>
      unfold placeOf at hk
      rw [List.findIdx?_eq_some_iff_getElem] at hk
      obtain ⟨hkl, hke, _⟩ := hk
      have hs : Vahypd.signsOf h.lst.pats[k] = Vahypd.signsOf p := of_decide_eq_true hke
      have hyes : h.lst.pats.any (Vahypd.sameLetters p) = true := by
        rw [List.any_eq_true]
        exact ⟨_, List.getElem_mem hkl, by rw [sl _ (List.getElem_mem hkl)]; exact hke⟩
      have hw : Vahypd.withPat h.lst.pats p = h.lst.pats.take k ++ [p] ++ h.lst.pats.drop (k + 1) := by
        unfold Vahypd.withPat
        rw [if_pos hyes]
        have sp : h.lst.pats = h.lst.pats.take k ++ h.lst.pats[k] :: h.lst.pats.drop (k + 1) := by
          rw [← List.drop_eq_getElem_cons hkl, List.take_append_drop]
        have ap := H.good.apart
        rw [sp, List.pairwise_append, List.pairwise_cons] at ap
        obtain ⟨a1, ⟨a2, a3⟩, a4⟩ := ap
        have out : ∀ q, q ∈ h.lst.pats → Vahypd.signsOf q ≠ Vahypd.signsOf p → (if Vahypd.sameLetters p q = true then p else q) = q := fun q hq hne => by
          rw [sl q hq, decide_eq_false hne]; rfl
        have e1 : (h.lst.pats.take k).map (fun q => if Vahypd.sameLetters p q = true then p else q) = h.lst.pats.take k := by
          rw [List.map_congr_left (g := id) fun q hq => out q (List.mem_of_mem_take hq) (by rw [← hs]; exact a4 q hq _ (List.mem_cons_self ..)), List.map_id]
        have e2 : (h.lst.pats.drop (k + 1)).map (fun q => if Vahypd.sameLetters p q = true then p else q) = h.lst.pats.drop (k + 1) := by
          rw [List.map_congr_left (g := id) fun q hq => out q (List.mem_of_mem_drop hq) (by rw [← hs]; exact (a2 q hq).symm), List.map_id]
        have e3 : (if Vahypd.sameLetters p h.lst.pats[k] = true then p else h.lst.pats[k]) = p := by
          rw [sl _ (List.getElem_mem hkl), hke]; rfl
        conv => lhs; rw [sp]
        rw [List.map_append, List.map_cons, e1, e2, e3, List.append_assoc]; rfl
      dsimp only
      rw [hw, if_neg]
      rw [List.length_append, List.length_append, List.length_take, List.length_drop]
      (simp only [List.length_cons, List.length_nil])
      omega
theorem index_eq (i : Int) (n : Nat) : VahypBase.index i n = if 0 ≤ i ∧ i < (n : Int) then some i.toNat else none := rfl
theorem drop_eq {h : Held} (p : Int) : Vahypd.step (some h) (.drop p) = match dropR h p with
    | .ok ps => (Vahypd.changed h ps)
    | .error n => (some h, VahypBase.one n) := by
  show (match VahypBase.index p h.lst.pats.length with
    | none => (some h, VahypBase.one (-2))
    | some k => Vahypd.changed h (h.lst.pats.eraseIdx k)) = _
  rw [index_eq]
  unfold dropR
  by_cases hp : 0 ≤ p ∧ p < (h.lst.pats.length : Int)
  · rw [if_pos hp, if_pos hp]
    dsimp only
    rw [List.eraseIdx_eq_take_drop_succ]
  · rw [if_neg hp, if_neg hp]
theorem check_eq {h : Held} (H : HOk h) (l : List Int) : enc (Vahypd.looked h (.check l)) = exA (checkR h l) := by
  show enc (if l.any (fun z => decide (z < 0)) = true then VahypBase.one (-4) else (match Vahypd.readTable (l.map fun z => z.toNat) with
    | none => VahypBase.one (-4)
    | some t => ⟨if Vahypd.tells t h.lst.pats = true then 1 else 0, VahypBase.nats [if Vahypd.proper t = true then 1 else 0, t.1.length]⟩)) = _
  unfold checkR tableIn
  by_cases hn : l.any (fun z => decide (z < 0)) = true
  · rw [if_pos hn, if_pos hn]; rfl
  · rw [if_neg hn, if_neg hn, tab_eq]
    cases ht : tabR (l.map fun z => z.toNat) with
    | none => rfl
    | some t =>
      dsimp only
      rw [tells_eq H.good.few]
      cases Vahypd.proper t && tellsB t h.lst.pats <;> rfl
theorem find_eq {h : Held} (H : HOk h) (c : Bytes) : enc (Vahypd.looked h (.find c)) = exA (findR h c) := by
  show enc (match Vahypa.patOf c with
    | none => VahypBase.one (-4)
    | some p => let l := nodesBy h.tab.1 h.tab.2 (Vahypd.signsOf p); ⟨if (findOut h.tab.1 h.tab.2 (Vahypd.signsOf p)).isSome = true then 1 else 0, VahypBase.nats l⟩) = _
  unfold findR
  cases hp : Vahypa.patOf c with
  | none => rfl
  | some p =>
    dsimp only
    have e : (findOut h.tab.1 h.tab.2 (Vahypd.signsOf p)).isSome = (placeOf h.lst.pats (Vahypd.signsOf p)).isSome := by
      rw [tab_look H]
      unfold lookE placeOf
      rw [Option.isSome_map, List.find?_map, Option.isSome_map]
      induction h.lst.pats with
      | nil => rfl
      | cons q r ih =>
        (rw [List.find?_cons, List.findIdx?_cons])
        show (match decide (Vahypd.signsOf q = Vahypd.signsOf p) with
          | true => some q
          | false => r.find? _).isSome = _
        cases decide (Vahypd.signsOf q = Vahypd.signsOf p) with
        | true => rfl
        | false =>
          (simp only [Bool.false_eq_true, if_false])
          rw [Option.isSome_map]
          exact ih
    rw [e]
    cases (placeOf h.lst.pats (Vahypd.signsOf p)).isSome <;> rfl
theorem node_eq' {h : Held} (H : HOk h) (k : Int) : enc (Vahypd.looked h (.node k)) = exA (nodeRR h k) := by
  show enc (match (VahypBase.index k h.tab.1.length).bind fun i => (h.tab.1[i]?).map fun n => (i, n) with
    | none => VahypBase.one (-2)
    | some x => let e := Vahypd.spellOut h.tab.1 8 x.1; ⟨(e.length : Int), VahypBase.nats (Vahypd.nodeRow x.2)⟩) = _
  rw [index_eq]
  unfold nodeRR
  by_cases hk : 0 ≤ k ∧ k < (h.tab.1.length : Int)
  · have hkl : k.toNat < h.tab.1.length := by omega
    rw [if_pos hk, if_pos hk]
    dsimp only [Option.bind_some]
    rw [at_nodeAt hkl]
    dsimp only [Option.map_some]
    have T := tab_tg H
    rw [spell_len T.wf 8 k.toNat hkl (T.hi k.toNat hkl)]
    rfl
  · rw [if_neg hk, if_neg hk]; rfl
end Q
/-! The calls, one behind another. -/
namespace Q
open VahypBase (Bytes isLetter)
open Vahypa (Pat Lst)
open Vahypd (Node Table Held)
theorem load_ok {o : Vahypd.Obj} (O : OOk o) (b : Bytes) : OOk (loadO o b) := by
  unfold loadO
  cases h : Vahypa.read b with
  | ok s => intro g e; cases e; exact held_ok (read_good h)
  | error f => exact O
theorem cO_ok {o : Vahypd.Obj} (O : OOk o) (c n : Int) (l : List Int) : OOk (cO o c n l) := by
  unfold cO
  split
  · exact load_ok O _
  · cases o with
    | none => intro h e; cases e
    | some h =>
      have H := O h rfl
      dsimp only
      split
      · intro g e
        cases e
        unfold chgO
        cases q : addR h (byO l) with
        | ok ps => exact chg_ok (add_good H q)
        | error k => exact H
      · split
        · intro g e
          cases e
          unfold chgO
          cases q : dropR h n with
          | ok ps => exact chg_ok (drop_good H q)
          | error k => exact H
        · exact O
theorem ans_ex {o : Vahypd.Obj} {c n : Int} {l : List Int} {r : Except Int (List Nat)} (h : cR o c n l = r.map intL) : ansA o c n l = exA r := by
  unfold ansA
  rw [h]
  cases r <;> rfl
/-- what is due of a call -/
def due (o : Vahypd.Obj) (k : Vahypd.Call) : Vahypd.Obj × List Int := ((Vahypd.step o k).1, enc (Vahypd.step o k).2)
theorem due_none {o : Vahypd.Obj} {k : Vahypd.Call} {c n : Int} {l : List Int} (hc : c ≠ 0) (ho : o = none) (hk : Vahypd.step none k = (none, VahypBase.one (-1))) : due o k = (cO o c n l, ansA o c n l) := by
  subst ho
  unfold due
  rw [hk]
  unfold cO ansA cR
  rw [if_neg hc, if_neg hc]; rfl
theorem due_load {o : Vahypd.Obj} (l : List Int) : due o (.load (byO l)) = (cO o 0 0 l, ansA o 0 0 l) := by
  unfold due cO ansA cR
  rw [if_pos rfl, if_pos rfl]
  show ((match Vahypa.read (byO l) with
    | .ok s => (some (Vahypd.held s), (⟨1, VahypBase.nats [s.words.length, s.pats.length]⟩ : VahypBase.Answer))
    | .error f => (o, VahypBase.faulty f)).1, enc (match Vahypa.read (byO l) with
    | .ok s => (some (Vahypd.held s), (⟨1, VahypBase.nats [s.words.length, s.pats.length]⟩ : VahypBase.Answer))
    | .error f => (o, VahypBase.faulty f)).2) = (loadO o (byO l), loadA (byO l))
  unfold loadO loadA
  cases Vahypa.read (byO l) <;> rfl
theorem due_table {o : Vahypd.Obj} (O : OOk o) : due o .table = (cO o 1 0 [], ansA o 1 0 []) := by
  cases o with
  | none => exact due_none (by decide) rfl rfl
  | some h =>
    have e := sizes_eq (O h rfl)
    show (some h, enc ⟨(h.lst.pats.length : Int), Vahypd.sizes h⟩) = _
    show (some h, ((h.lst.pats.length : Int)) :: Vahypd.sizes h) = _
    rw [e]; rfl
theorem due_store {o : Vahypd.Obj} : due o .store = (cO o 2 0 [], ansA o 2 0 []) := by
  cases o with
  | none => exact due_none (by decide) rfl rfl
  | some h => rfl
theorem due_levels {o : Vahypd.Obj} (l : List Int) : due o (.levels (byO l)) = (cO o 3 0 l, ansA o 3 0 l) := by
  cases o with
  | none => exact due_none (by decide) rfl rfl
  | some h =>
    have e : ansA (some h) 3 0 l = exA (levR h (byO l)) := ans_ex rfl
    rw [e, ← lev_eq]; rfl
theorem due_part {o : Vahypd.Obj} (l : List Int) : due o (.part (byO l)) = (cO o 4 0 l, ansA o 4 0 l) := by
  cases o with
  | none => exact due_none (by decide) rfl rfl
  | some h =>
    have e : ansA (some h) 4 0 l = exA (partR h (byO l)) := ans_ex rfl
    rw [e, ← part_eq]; rfl
theorem due_add {o : Vahypd.Obj} (O : OOk o) (l : List Int) : due o (.add (byO l)) = (cO o 5 0 l, ansA o 5 0 l) := by
  cases o with
  | none => exact due_none (by decide) rfl rfl
  | some h =>
    have H := O h rfl
    have e1 : cR (some h) 5 0 l = (addR h (byO l)).map (fun ps => intL (chgN h ps)) := rfl
    have e2 : cO (some h) 5 0 l = some (chgO h (addR h (byO l))) := rfl
    unfold due
    rw [add_eq H, e2]
    unfold ansA
    rw [e1]
    cases q : addR h (byO l) with
    | ok ps =>
      obtain ⟨a, b⟩ := chg_eq H (add_good H q)
      show ((Vahypd.changed h ps).1, enc (Vahypd.changed h ps).2) = _
      rw [a, b]; rfl
    | error k => rfl
theorem due_drop {o : Vahypd.Obj} (O : OOk o) (p : Int) : due o (.drop p) = (cO o 6 p [], ansA o 6 p []) := by
  cases o with
  | none => exact due_none (by decide) rfl rfl
  | some h =>
    have H := O h rfl
    have e1 : cR (some h) 6 p [] = (dropR h p).map (fun ps => intL (chgN h ps)) := rfl
    have e2 : cO (some h) 6 p [] = some (chgO h (dropR h p)) := rfl
    unfold due
    rw [drop_eq, e2]
    unfold ansA
    rw [e1]
    cases q : dropR h p with
    | ok ps =>
      obtain ⟨a, b⟩ := chg_eq H (drop_good H q)
      show ((Vahypd.changed h ps).1, enc (Vahypd.changed h ps).2) = _
      rw [a, b]; rfl
    | error k => rfl
theorem due_check {o : Vahypd.Obj} (O : OOk o) (l : List Int) : due o (.check l) = (cO o 7 0 l, ansA o 7 0 l) := by
  cases o with
  | none => exact due_none (by decide) rfl rfl
  | some h =>
    have e : ansA (some h) 7 0 l = exA (checkR h l) := ans_ex rfl
    rw [e, ← check_eq (O h rfl)]; rfl
theorem due_find {o : Vahypd.Obj} (O : OOk o) (l : List Int) : due o (.find (byO l)) = (cO o 8 0 l, ansA o 8 0 l) := by
  cases o with
  | none => exact due_none (by decide) rfl rfl
  | some h =>
    have e : ansA (some h) 8 0 l = exA (findR h (byO l)) := ans_ex rfl
    rw [e, ← find_eq (O h rfl)]; rfl
theorem due_node {o : Vahypd.Obj} (O : OOk o) (k : Int) : due o (.node k) = (cO o 9 k [], ansA o 9 k []) := by
  cases o with
  | none => exact due_none (by decide) rfl rfl
  | some h =>
    have e : ansA (some h) 9 k [] = exA (nodeRR h k) := ans_ex rfl
    rw [e, ← node_eq' (O h rfl)]; rfl
/-! ### calls read -/
theorem bytes_of {l : List Int} (h : l.all (fun (z : Int) => VahypdNeutral.natural z 8) = true) : (∀ b ∈ l, 0 ≤ b ∧ b ≤ 255) ∧ NeutralIO.bytes l = true := by
  have h1 : ∀ b ∈ l, 0 ≤ b ∧ b ≤ 255 := fun b hb => by
    have := List.all_eq_true.mp h b hb
    unfold VahypdNeutral.natural at this
    simp only [Bool.and_eq_true, decide_eq_true_eq] at this
    have e : ((2 : Int) ^ 8) = 256 := by decide
    omega
  refine ⟨h1, ?_⟩
  unfold NeutralIO.bytes
  rw [List.all_eq_true]
  intro b hb
  have := h1 b hb
  (simp only [Bool.and_eq_true, decide_eq_true_eq])
  exact this
theorem step_due {o : Vahypd.Obj} {cl : List (List Int)} {k : Vahypd.Call} (h : VahypdNeutral.callOf cl = some k) : VahypdNeutral.step o cl = due o k := by
  unfold VahypdNeutral.step
  rw [h]; rfl
/-- one call: where it ends, what it is, what is due -/
theorem call_law {l : List Int} {i : Nat} {cl : List (List Int)} {t : List Int} {o : Vahypd.Obj} (O : OOk o) (hi : i < l.length) (h : PyFlat.call PyVahypd.shape (l.drop i) = some (cl, t)) (ha : VahypdNeutral.asked1 (PyVahypd.whole cl) = true) :
    ∃ c n r j, CallAt l i c n r j ∧ i < j ∧ j ≤ l.length ∧ t = l.drop j ∧ CIn c r ∧ VahypdNeutral.step o (PyVahypd.whole cl) = (cO o c n r, ansA o c n r) := by
  have hd : l.drop i = l[i] :: l.drop (i + 1) := List.drop_eq_getElem_cons hi
  rw [hd] at h
  have hc : l[i]? = some l[i] := List.getElem?_eq_getElem hi
  generalize l[i] = c at h hc
  -- a call with a row
  have lst : (c = 0 ∨ c = 3 ∨ c = 4 ∨ c = 5 ∨ c = 7 ∨ c = 8) → PyVahypd.shape c = some (0, 1) → ∃ (m : Nat), l[i + 1]? = some (m : Int) ∧ i + 2 + m ≤ l.length ∧ cl = [[c], (l.drop (i + 2)).take m] ∧ t = l.drop (i + 2 + m) := by
    intro _ hs
    unfold PyFlat.call at h
    dsimp only at h
    rw [hs] at h
    dsimp only at h
    rw [if_neg (Nat.not_lt_zero _), List.drop_zero, List.take_zero] at h
    unfold PyFlat.rows PyFlat.row at h
    rcases Nat.lt_or_ge (i + 1) l.length with h1 | h1
    · rw [List.drop_eq_getElem_cons h1] at h
      dsimp only at h
      by_cases hm : 0 ≤ l[i + 1] ∧ l[i + 1].toNat ≤ (l.drop (i + 1 + 1)).length
      · rw [if_pos hm] at h
        unfold PyFlat.rows at h
        dsimp only at h
        cases h
        rw [List.length_drop] at hm
        refine ⟨l[i + 1].toNat, ?_, by omega, rfl, by rw [List.drop_drop]⟩
        rw [List.getElem?_eq_getElem h1, Int.toNat_of_nonneg hm.1]
      · rw [if_neg hm] at h; cases h
    · rw [List.drop_eq_nil_of_le h1] at h; cases h
  have num : PyVahypd.shape c = some (1, 0) → ∃ n, l[i + 1]? = some n ∧ cl = [[c, n]] ∧ t = l.drop (i + 2) := by
    intro hs
    unfold PyFlat.call at h
    dsimp only at h
    rw [hs] at h
    dsimp only at h
    by_cases h1 : (l.drop (i + 1)).length < 1
    · rw [if_pos h1] at h; cases h
    · rw [if_neg h1] at h
      rw [List.length_drop] at h1
      unfold PyFlat.rows at h
      dsimp only at h
      cases h
      have h2 : i + 1 < l.length := by omega
      refine ⟨l[i + 1], List.getElem?_eq_getElem h2, ?_, by rw [List.drop_drop]⟩
      rw [List.drop_eq_getElem_cons h2]; rfl
  have bare : PyVahypd.shape c = some (0, 0) → cl = [[c]] ∧ t = l.drop (i + 1) := by
    intro hs
    unfold PyFlat.call at h
    dsimp only at h
    rw [hs] at h
    dsimp only at h
    rw [if_neg (Nat.not_lt_zero _), List.drop_zero, List.take_zero] at h
    unfold PyFlat.rows at h
    dsimp only at h
    cases h
    exact ⟨rfl, rfl⟩
  -- a row of bytes
  have withB : ∀ (k : Bytes → Vahypd.Call), (c = 0 ∨ c = 3 ∨ c = 4 ∨ c = 5 ∨ c = 8) → PyVahypd.shape c = some (0, 1) → (∀ r, PyVahypd.whole [[c], r] = [[c], r]) → (∀ r, VahypdNeutral.asked1 [[c], r] = ((r.all (fun (z : Int) => VahypdNeutral.natural z 8)) && decide (r.length ≤ 8192))) → (∀ r, NeutralIO.bytes r = true → VahypdNeutral.callOf [[c], r] = some (k (byO r))) → (∀ r, due o (k (byO r)) = (cO o c 0 r, ansA o c 0 r)) →
      ∃ c n r j, CallAt l i c n r j ∧ i < j ∧ j ≤ l.length ∧ t = l.drop j ∧ CIn c r ∧ VahypdNeutral.step o (PyVahypd.whole cl) = (cO o c n r, ansA o c n r) := by
    intro k hcs hs hw hask hcall hdue
    obtain ⟨m, e1, e2, e3, e4⟩ := lst (by omega) hs
    subst e3 e4
    rw [hw, hask, Bool.and_eq_true, decide_eq_true_eq] at ha
    obtain ⟨b1, b2⟩ := bytes_of ha.1
    refine ⟨c, 0, (l.drop (i + 2)).take m, i + 2 + m, ⟨hc, fun z => (by omega), fun _ => ⟨m, e1, e2, rfl, rfl, rfl⟩, fun _ _ _ _ _ _ _ _ => (by omega)⟩, by omega, e2, rfl, ⟨fun _ => ⟨ha.2, b1⟩, fun z => (by omega)⟩, ?_⟩
    rw [hw, step_due (hcall _ b2)]
    exact hdue _
  by_cases c0 : c = 0
  · subst c0; exact withB .load (.inl rfl) rfl (fun _ => rfl) (fun _ => rfl) (fun r hr => by show (if NeutralIO.bytes r = true then some (Vahypd.Call.load (byO r)) else none) = _; rw [if_pos hr]) (fun r => due_load r)
  by_cases c1 : c = 1
  · subst c1
    obtain ⟨e1, e2⟩ := bare rfl
    subst e1 e2
    exact ⟨1, 0, [], i + 1, ⟨hc, fun z => (by omega), fun z => (by omega), fun _ _ _ _ _ _ _ _ => ⟨rfl, rfl, rfl⟩⟩, by omega, by omega, rfl, ⟨fun z => (by omega), fun z => (by omega)⟩, (step_due (k := .table) rfl).trans (due_table O)⟩
  by_cases c2 : c = 2
  · subst c2
    obtain ⟨e1, e2⟩ := bare rfl
    subst e1 e2
    exact ⟨2, 0, [], i + 1, ⟨hc, fun z => (by omega), fun z => (by omega), fun _ _ _ _ _ _ _ _ => ⟨rfl, rfl, rfl⟩⟩, by omega, by omega, rfl, ⟨fun z => (by omega), fun z => (by omega)⟩, (step_due (k := .store) rfl).trans due_store⟩
  by_cases c3 : c = 3
  · subst c3; exact withB .levels (by omega) rfl (fun _ => rfl) (fun _ => rfl) (fun r hr => by show (if NeutralIO.bytes r = true then some (Vahypd.Call.levels (byO r)) else none) = _; rw [if_pos hr]) (fun r => due_levels r)
  by_cases c4 : c = 4
  · subst c4; exact withB .part (by omega) rfl (fun _ => rfl) (fun _ => rfl) (fun r hr => by show (if NeutralIO.bytes r = true then some (Vahypd.Call.part (byO r)) else none) = _; rw [if_pos hr]) (fun r => due_part r)
  by_cases c5 : c = 5
  · subst c5; exact withB .add (by omega) rfl (fun _ => rfl) (fun _ => rfl) (fun r hr => by show (if NeutralIO.bytes r = true then some (Vahypd.Call.add (byO r)) else none) = _; rw [if_pos hr]) (fun r => due_add O r)
  by_cases c6 : c = 6
  · subst c6
    obtain ⟨n, e1, e2, e3⟩ := num rfl
    subst e2 e3
    have h1 := (List.getElem?_eq_some_iff.mp e1).1
    exact ⟨6, n, [], i + 2, ⟨hc, fun _ => ⟨e1, rfl, rfl⟩, fun z => (by omega), fun z => absurd rfl z⟩, by omega, by omega, rfl, ⟨fun z => (by omega), fun z => (by omega)⟩, (step_due (k := .drop n) rfl).trans (due_drop O n)⟩
  by_cases c7 : c = 7
  · subst c7
    obtain ⟨m, e1, e2, e3, e4⟩ := lst (by omega) rfl
    subst e3 e4
    have ha' : (((l.drop (i + 2)).take m).all VahypdNeutral.whole60 && decide (((l.drop (i + 2)).take m).length ≤ 2000)) = true := ha
    rw [Bool.and_eq_true, decide_eq_true_eq] at ha'
    exact ⟨7, 0, (l.drop (i + 2)).take m, i + 2 + m, ⟨hc, fun z => (by omega), fun _ => ⟨m, e1, e2, rfl, rfl, rfl⟩, fun _ _ _ _ _ _ z => absurd rfl z⟩, by omega, e2, rfl, ⟨fun z => (by omega), fun _ => ha'.2⟩, (step_due (k := .check ((l.drop (i + 2)).take m)) rfl).trans (due_check O _)⟩
  by_cases c8 : c = 8
  · subst c8; exact withB .find (by omega) rfl (fun _ => rfl) (fun _ => rfl) (fun r hr => by show (if NeutralIO.bytes r = true then some (Vahypd.Call.find (byO r)) else none) = _; rw [if_pos hr]) (fun r => due_find O r)
  by_cases c9 : c = 9
  · subst c9
    obtain ⟨n, e1, e2, e3⟩ := num rfl
    subst e2 e3
    have h1 := (List.getElem?_eq_some_iff.mp e1).1
    exact ⟨9, n, [], i + 2, ⟨hc, fun _ => ⟨e1, rfl, rfl⟩, fun z => (by omega), fun _ z => absurd rfl z⟩, by omega, by omega, rfl, ⟨fun z => (by omega), fun z => (by omega)⟩, (step_due (k := .node n) rfl).trans (due_node O n)⟩
  · exfalso
    unfold PyFlat.call at h
    dsimp only at h
    have : PyVahypd.shape c = none := by
      unfold PyVahypd.shape
      rw [if_neg c0, if_neg c1, if_neg c2, if_neg c3, if_neg c4, if_neg c5, if_neg c6, if_neg c7, if_neg c8, if_neg c9]
    rw [this] at h; cases h
/-- all calls from a place on -/
theorem runs_law {l : List Int} : ∀ (f i : Nat) (raw : List (List (List Int))) (o : Vahypd.Obj), i ≤ l.length → OOk o → PyFlat.calls PyVahypd.shape f (l.drop i) = some raw → (∀ cl ∈ raw, VahypdNeutral.asked1 (PyVahypd.whole cl) = true) → Runs l i o (PyFlat.told (PyFlat.played VahypdNeutral.step o (raw.map PyVahypd.whole)))
  | f, i, raw, o, hi, O, h, ha => by
    rcases Nat.lt_or_ge i l.length with h1 | h1
    · have hd : l.drop i = l[i] :: l.drop (i + 1) := List.drop_eq_getElem_cons h1
      cases f with
      | zero => rw [hd] at h; cases h
      | succ f =>
        rw [hd] at h
        unfold PyFlat.calls at h
        rw [← hd] at h
        cases hc : PyFlat.call PyVahypd.shape (l.drop i) with
        | none => (rw [hc] at h; cases h)
        | some x =>
          obtain ⟨cl, t⟩ := x
          rw [hc] at h
          dsimp only at h
          cases hr : PyFlat.calls PyVahypd.shape f t with
          | none => rw [hr] at h; cases h
          | some cs =>
            rw [hr] at h
            cases h
            obtain ⟨c, n, r, j, C, hij, hj, et, I, hs⟩ := call_law O h1 hc (ha cl (List.mem_cons_self ..))
            subst et
            have ih := runs_law f j cs (cO o c n r) hj (cO_ok O c n r) hr fun x hx => ha x (List.mem_cons_of_mem _ hx)
            have := Runs.cons h1 hij hj C O (cO_ok O c n r) I (fun s hs => read_good hs) ih
            show Runs l i o (PyFlat.told (PyFlat.played VahypdNeutral.step o (PyVahypd.whole cl :: cs.map PyVahypd.whole)))
            have e : PyFlat.told (PyFlat.played VahypdNeutral.step o (PyVahypd.whole cl :: cs.map PyVahypd.whole)) = (((VahypdNeutral.step o (PyVahypd.whole cl)).2.length : Int) :: (VahypdNeutral.step o (PyVahypd.whole cl)).2) ++ PyFlat.told (PyFlat.played VahypdNeutral.step (VahypdNeutral.step o (PyVahypd.whole cl)).1 (cs.map PyVahypd.whole)) := rfl
            rw [e, hs]
            exact this
    · have ei : i = l.length := by omega
      subst ei
      rw [List.drop_length] at h
      have : raw = [] := by
        cases f <;> (unfold PyFlat.calls at h; exact (Option.some.inj h).symm)
      subst this
      exact Runs.nil
/-- the law -/
theorem law {l : List Int} (h : PyVahypd.answers_asked l = true) : Runs l 0 none (PyVahypd.answers l) ∧ (PyVahypd.answers l).length ≤ 16000000 := by
  unfold PyVahypd.answers_asked at h
  cases hc : PyFlat.calls PyVahypd.shape l.length l with
  | none => (rw [hc] at h; cases h)
  | some raw =>
    rw [hc] at h
    (simp only [Bool.and_eq_true] at h)
    have hask := h.1.2
    have hshort := h.2
    unfold VahypdNeutral.asked at hask
    rw [Bool.and_eq_true, List.all_eq_true] at hask
    refine ⟨?_, ?_⟩
    · have := runs_law (l := l) l.length 0 raw none (Nat.zero_le _) (fun h e => by cases e) (by rw [List.drop_zero]; exact hc) fun cl hcl => hask.1 _ (List.mem_map.mpr ⟨cl, hcl, rfl⟩)
      have e : PyVahypd.answers l = PyFlat.told (PyFlat.played VahypdNeutral.step VahypdNeutral.start (raw.map PyVahypd.whole)) := by
        unfold PyVahypd.answers PyVahypd.calls
        rw [hc]
      rw [e]; exact this
    · unfold PyFlat.short at hshort
      have := of_decide_eq_true hshort
      omega
end Q
/-! The row's end. -/
namespace Q
open PySem PySem.Spec PyProof.Rows L2 Pt
/-- an answer of ints, as data -/
theorem dw_out {K : PySem.W.Frag} {G H : Hp} {v : V} {out : List Int} (i : Same G H) (h : (isIs out).p v G) : Dw K H v (.list (out.map PySem.W.WData.int)) := by
  obtain ⟨a, xs, rfl, e1, e2⟩ := h
  have e3 : xs = out.map V.int := ints_vs e2
  subst e3
  exact .lst (SqL.of (i _ _ e1)) (dw_ints out)
/-- the argument of ints -/
theorem in_dw {K : PySem.W.Frag} {H : Hp} {xs : List V} {l : List Int} (h : DwAll K H xs [.list (l.map PySem.W.WData.int)]) : AllP [isQs K l] xs H := by
  cases h with
  | cons h1 h2 =>
    cases h2
    cases h1 with
    | lst hs ha =>
      have e := ints_dw l _ ha
      subst e
      exact .cons ⟨_, _, rfl, hs, allP_intV l H⟩ .nil
theorem row_ends {K : PySem.W.Frag} {H : Hp} {xs : List V} {l : List Int} (ha : PyVahypd.answers_asked l = true) (h : DwAll K H xs [.list (l.map PySem.W.WData.int)]) : sp_answers K xs H (fun v H' => Dw K H' v (.list ((PyVahypd.answers l).map PySem.W.WData.int))) fun _ _ _ => False :=
  ⟨(l, PyVahypd.answers l), H, law ha, Same.refl _, in_dw h, fun v G' H' g p => dw_out g.i p, fun _ _ _ _ _ z => z.elim⟩
theorem room16 : Room 16 callerA := ⟨rfl, by decide, by decide⟩
theorem rr_well : RR.wellSaid = true := by decide +kernel
theorem walk_answers : PySem.W.WalkOS qv names (PySem.W.XL qv []) hk.says RR (HandSHeadRun.topDef RR.prog 86) [] fun f vs => PySem.call f vs := by
  intro w s0 s1 mg mb G Y fa o pm cd doc dV kV ho hd hcd hD hmg hg args vals as hpre hlay hrd hwl hlo
  obtain ⟨z, e1, e2⟩ := PySem.W.os_pre_some hpre
  obtain ⟨e3, hwi⟩ := PySem.W.Codec.encAll_of_decAll RR.args args z e1
  subst e3
  obtain ⟨K, KX, c⟩ := Y
  have T : Txt K mg := ⟨⟨_, KX, G.T.g⟩, c.t.d, c.more⟩
  obtain ⟨fd, F⟩ := T.df_answers.fn
  have en : (HandSHeadRun.topDef RR.prog 86).name = ("answers" : PySem.Str) := by kernel_rfl
  have ef : fa = He.fAd K ("answers", none) := by
    rw [en, T.g_answers] at hmg
    cases hmg
    rfl
  subst ef
  obtain ⟨l, u⟩ := z
  have hsp : ∀ (H : Hp) (xs : List V), OnlyF H → DwAll K H xs [.list (l.map PySem.W.WData.int)] → sp_answers K xs H (fun v H' => Dw K H' v (.list ((PyVahypd.answers l).map PySem.W.WData.int))) fun _ _ _ => False := fun H xs _ q => row_ends e2 q
  refine PySem.W.enter_call (codeAny_mono (spec_call (P := RR.prog) (w := w) (K := K) (mg := mg) (mb := mb) (CX := CX0) (k := 16) (fd := fd) (ps := ["calls"]) (sp := sp_answers K) (ds := [.list (l.map PySem.W.WData.int)]) (R := []) (cl := PySem.classAt s0.heap) (d0 := .list ((PyVahypd.answers l).map PySem.W.WData.int))
    KX G.T.g G.T.b G.T.builtins G.T.nolimit hg hwl ?_ (layable_weight hlay) room16 (fun base _ _ => fn_answers T F) (FunD.bindsA F T.df_answers.bd) rfl hsp (fun H e s' x => x)) fun r s' q => ?_)
  · exact pl_encAll RR.args (l, u)
  · obtain ⟨v, bs, rfl, h1, h2, h3, h4⟩ := q
    refine ⟨.inl ⟨v, _, bs, rfl, fun _ => rfl, h1, ?_, fun z => Bool.noConfusion (show false = true from z)⟩, h2, h3, h4⟩
    exact (PySem.W.OpenSpec.post_iff rr_well hwi _ _).mpr rfl
end Q
set_option maxHeartbeats 0
open PyProof.Rows PySem PySem.W PySem.Calls
theorem PySem.Challenge.cw_patterntables_s01_answers_holds : PySem.Challenge.rw_patterntables_s01_answers.Holds := by
  w_on
  refine HandSHeadRun.head_spec (r := Pt.RR) (q := Pt.qv) (H := Pt.hk) (ob := Pt.ob) (M := 6000) (loose := Pt.names) (d := HandSHeadRun.topDef Pt.RR.prog 86) (kwd := []) Pt.ob_eq (by kernel_rfl) (fun s => by kernel_rfl) Pt.run (by kernel_rfl) (by kernel_rfl) (by kernel_rfl)
    os_shapes Q.rr_well (by decide +kernel) ⟨rfl, rfl, rfl, rfl, rfl, by decide +kernel⟩ ?hw Q.walk_answers
  case hw => exact ⟨[.list [.int 1]], by decide +kernel, by decide +kernel⟩
