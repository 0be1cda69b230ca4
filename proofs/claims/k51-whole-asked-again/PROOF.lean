import PyProof.Rows.All
import Wide.All
import OpenK.AllK
import Wide.FinOn
import HandS.ForMost
import HandS.ForExc
import HandS.Conv
import HandS.Codes
import HandS.IsInst
import HandS.TupLen
import HandS.Wide
import HandS.More
import HandS.Zip
import HandS.StrMore
import HandS.Defaults
import HandS.Evl
import HandS.Steps
import HandS.HeadHook2
import PySem.Challenge.RW_cablehouse_k51_whole_asked_again
import KE.KStateDown
import Lean
import HandS.Head0
import HandS.Head1
import HandS.Head2
import HandS.HeadEnd
import HandS.HeadHook1
import PyProof.StrOps2
import PyProof.StrWalks
import PyProof.Rows.SetFrom
import PyProof.DictValues
import PyProof.Rows.InDataRows
import HandS.Walk
import HandS.Replace
set_option Elab.async false
set_option linter.all false
set_option maxRecDepth 100000
set_option maxHeartbeats 0
/-! K1: the text by places, scopes, what the top has written (Tx). -/
namespace Cb
open PySem PySem.Spec PyProof.Rows L2
def top (i : Nat) : Stmt := PySem.Challenge.pw_cablehouse_k51_whole_asked_again.main.body.getD i (.Pass ⟨0, 0, 0, 0⟩)
abbrev s_exchanged_letter : Stmt := top 2
abbrev nm_exchanged_letter : List Str := ["code", "word", "number", "letters", "turns", "k", "place"]
theorem sc_exchanged_letter : FnScope nm_exchanged_letter ["code", "word", "number"] (defScope s_exchanged_letter) := ⟨rfl, rfl, rfl, by decide +kernel, rfl, by decide +kernel, by decide +kernel⟩
abbrev s_with_swap : Stmt := top 3
abbrev nm_with_swap : List Str := ["word", "number", "k"]
theorem sc_with_swap : FnScope nm_with_swap ["word", "number"] (defScope s_with_swap) := ⟨rfl, rfl, rfl, by decide +kernel, rfl, by decide +kernel, by decide +kernel⟩
abbrev s_first_fault : Stmt := top 4
abbrev nm_first_fault : List Str := ["faults", "sending", "place", "fault"]
theorem sc_first_fault : FnScope nm_first_fault ["faults", "sending", "place"] (defScope s_first_fault) := ⟨rfl, rfl, rfl, by decide +kernel, rfl, by decide +kernel, by decide +kernel⟩
abbrev s_garbled : Stmt := top 5
abbrev nm_garbled : List Str := ["code", "words", "faults", "sending", "found", "place", "word", "fault"]
theorem sc_garbled : FnScope nm_garbled ["code", "words", "faults", "sending"] (defScope s_garbled) := ⟨rfl, rfl, rfl, by decide +kernel, rfl, by decide +kernel, by decide +kernel⟩
abbrev s_is_kept : Stmt := top 6
abbrev nm_is_kept : List Str := ["book", "word", "is_check", "code"]
theorem sc_is_kept : FnScope nm_is_kept ["book", "word", "is_check"] (defScope s_is_kept) := ⟨rfl, rfl, rfl, by decide +kernel, rfl, by decide +kernel, by decide +kernel⟩
abbrev s_got_across : Stmt := top 7
abbrev nm_got_across : List Str := ["book", "words", "faults", "end", "sendings", "asked", "place", "came", "left", "word"]
theorem sc_got_across : FnScope nm_got_across ["book", "words", "faults"] (defScope s_got_across) := ⟨rfl, rfl, rfl, by decide +kernel, rfl, by decide +kernel, by decide +kernel⟩
abbrev s_is_whole : Stmt := top 21
abbrev nm_is_whole : List Str := ["thing"]
theorem sc_is_whole : FnScope nm_is_whole ["thing"] (defScope s_is_whole) := ⟨rfl, rfl, rfl, by decide +kernel, rfl, by decide +kernel, by decide +kernel⟩
abbrev s_divisor : Stmt := top 22
abbrev nm_divisor : List Str := ["one", "other"]
theorem sc_divisor : FnScope nm_divisor ["one", "other"] (defScope s_divisor) := ⟨rfl, rfl, rfl, by decide +kernel, rfl, by decide +kernel, by decide +kernel⟩
abbrev s_fits_behind : Stmt := top 23
abbrev nm_fits_behind : List Str := ["weights", "weight", "m"]
theorem sc_fits_behind : FnScope nm_fits_behind ["weights", "weight", "m"] (defScope s_fits_behind) := ⟨rfl, rfl, rfl, by decide +kernel, rfl, by decide +kernel, by decide +kernel⟩
abbrev s_are_safe : Stmt := top 24
abbrev nm_are_safe : List Str := ["weights", "m", "k", "weight"]
theorem sc_are_safe : FnScope nm_are_safe ["weights", "m"] (defScope s_are_safe) := ⟨rfl, rfl, rfl, by decide +kernel, rfl, by decide +kernel, by decide +kernel⟩
abbrev s_are_letters : Stmt := top 28
abbrev nm_are_letters : List Str := ["thing", "most", "sign"]
theorem sc_are_letters : FnScope nm_are_letters ["thing", "most"] (defScope s_are_letters) := ⟨rfl, rfl, rfl, by decide +kernel, rfl, by decide +kernel, by decide +kernel⟩
abbrev s_are_words : Stmt := top 29
abbrev nm_are_words : List Str := ["thing", "most", "words", "word"]
theorem sc_are_words : FnScope nm_are_words ["thing", "most"] (defScope s_are_words) := ⟨rfl, rfl, rfl, by decide +kernel, rfl, by decide +kernel, by decide +kernel⟩
abbrev s_is_entry : Stmt := top 30
abbrev nm_is_entry : List Str := ["thing"]
theorem sc_is_entry : FnScope nm_is_entry ["thing"] (defScope s_is_entry) := ⟨rfl, rfl, rfl, by decide +kernel, rfl, by decide +kernel, by decide +kernel⟩
abbrev s_Book_init : Stmt := inClass (top 31) 0
abbrev nm_Book_init : List Str := ["self", "code"]
theorem sc_Book_init : FnScope nm_Book_init ["self", "code"] (defScope s_Book_init) := ⟨rfl, rfl, rfl, by decide +kernel, rfl, by decide +kernel, by decide +kernel⟩
abbrev s_Book_code : Stmt := inClass (top 31) 1
abbrev nm_Book_code : List Str := ["self"]
theorem sc_Book_code : FnScope nm_Book_code ["self"] (defScope s_Book_code) := ⟨rfl, rfl, rfl, by decide +kernel, rfl, by decide +kernel, by decide +kernel⟩
abbrev s_Book_put : Stmt := inClass (top 31) 3
abbrev nm_Book_put : List Str := ["self", "entry", "number"]
theorem sc_Book_put : FnScope nm_Book_put ["self", "entry", "number"] (defScope s_Book_put) := ⟨rfl, rfl, rfl, by decide +kernel, rfl, by decide +kernel, by decide +kernel⟩
abbrev s_Book_entry : Stmt := inClass (top 31) 5
abbrev nm_Book_entry : List Str := ["self", "number"]
theorem sc_Book_entry : FnScope nm_Book_entry ["self", "number"] (defScope s_Book_entry) := ⟨rfl, rfl, rfl, by decide +kernel, rfl, by decide +kernel, by decide +kernel⟩
abbrev s_Book_number : Stmt := inClass (top 31) 6
abbrev nm_Book_number : List Str := ["self", "entry"]
theorem sc_Book_number : FnScope nm_Book_number ["self", "entry"] (defScope s_Book_number) := ⟨rfl, rfl, rfl, by decide +kernel, rfl, by decide +kernel, by decide +kernel⟩
abbrev s_sum_of : Stmt := top 34
abbrev nm_sum_of : List Str := ["weights", "places", "weight", "place"]
theorem sc_sum_of : FnScope nm_sum_of ["weights", "places"] (defScope s_sum_of) := ⟨rfl, rfl, rfl, by decide +kernel, rfl, by decide +kernel, by decide +kernel⟩
abbrev s_is_good : Stmt := top 35
abbrev nm_is_good : List Str := ["alphabet", "weights", "rest", "word", "places", "letter"]
theorem sc_is_good : FnScope nm_is_good ["alphabet", "weights", "rest", "word"] (defScope s_is_good) := ⟨rfl, rfl, rfl, by decide +kernel, rfl, by decide +kernel, by decide +kernel⟩
abbrev s_is_alphabet : Stmt := top 36
abbrev nm_is_alphabet : List Str := ["thing", "letter"]
theorem sc_is_alphabet : FnScope nm_is_alphabet ["thing"] (defScope s_is_alphabet) := ⟨rfl, rfl, rfl, by decide +kernel, rfl, by decide +kernel, by decide +kernel⟩
abbrev s_is_place : Stmt := top 37
abbrev nm_is_place : List Str := ["thing", "m"]
theorem sc_is_place : FnScope nm_is_place ["thing", "m"] (defScope s_is_place) := ⟨rfl, rfl, rfl, by decide +kernel, rfl, by decide +kernel, by decide +kernel⟩
abbrev s_are_weights : Stmt := top 38
abbrev nm_are_weights : List Str := ["thing", "m", "weight"]
theorem sc_are_weights : FnScope nm_are_weights ["thing", "m"] (defScope s_are_weights) := ⟨rfl, rfl, rfl, by decide +kernel, rfl, by decide +kernel, by decide +kernel⟩
abbrev s_Code_init : Stmt := inClass (top 39) 0
abbrev nm_Code_init : List Str := ["self", "alphabet", "weights", "rest"]
theorem sc_Code_init : FnScope nm_Code_init ["self", "alphabet", "weights", "rest"] (defScope s_Code_init) := ⟨rfl, rfl, rfl, by decide +kernel, rfl, by decide +kernel, by decide +kernel⟩
abbrev s_Code_alphabet : Stmt := inClass (top 39) 1
abbrev nm_Code_alphabet : List Str := ["self"]
theorem sc_Code_alphabet : FnScope nm_Code_alphabet ["self"] (defScope s_Code_alphabet) := ⟨rfl, rfl, rfl, by decide +kernel, rfl, by decide +kernel, by decide +kernel⟩
abbrev s_Code_weights : Stmt := inClass (top 39) 2
abbrev nm_Code_weights : List Str := ["self"]
theorem sc_Code_weights : FnScope nm_Code_weights ["self"] (defScope s_Code_weights) := ⟨rfl, rfl, rfl, by decide +kernel, rfl, by decide +kernel, by decide +kernel⟩
abbrev s_Code_many : Stmt := inClass (top 39) 4
abbrev nm_Code_many : List Str := ["self", "found", "weight"]
theorem sc_Code_many : FnScope nm_Code_many ["self"] (defScope s_Code_many) := ⟨rfl, rfl, rfl, by decide +kernel, rfl, by decide +kernel, by decide +kernel⟩
abbrev s_Code_word : Stmt := inClass (top 39) 5
abbrev nm_Code_word : List Str := ["self", "k", "m", "places", "turn", "left", "last", "place"]
theorem sc_Code_word : FnScope nm_Code_word ["self", "k"] (defScope s_Code_word) := ⟨rfl, rfl, rfl, by decide +kernel, rfl, by decide +kernel, by decide +kernel⟩
abbrev s_Code_number : Stmt := inClass (top 39) 6
abbrev nm_Code_number : List Str := ["self", "word", "found", "letter"]
theorem sc_Code_number : FnScope nm_Code_number ["self", "word"] (defScope s_Code_number) := ⟨rfl, rfl, rfl, by decide +kernel, rfl, by decide +kernel, by decide +kernel⟩
abbrev s_Code_has_good : Stmt := inClass (top 39) 7
abbrev nm_Code_has_good : List Str := ["self", "thing", "letter"]
theorem sc_Code_has_good : FnScope nm_Code_has_good ["self", "thing"] (defScope s_Code_has_good) := ⟨rfl, rfl, rfl, by decide +kernel, rfl, by decide +kernel, by decide +kernel⟩
abbrev s_is_text : Stmt := top 43
abbrev nm_is_text : List Str := ["thing"]
theorem sc_is_text : FnScope nm_is_text ["thing"] (defScope s_is_text) := ⟨rfl, rfl, rfl, by decide +kernel, rfl, by decide +kernel, by decide +kernel⟩
abbrev s_said_on : Stmt := top 44
abbrev nm_said_on : List Str := ["words", "spelled", "entry", "more"]
theorem sc_said_on : FnScope nm_said_on ["words", "spelled", "entry"] (defScope s_said_on) := ⟨rfl, rfl, rfl, by decide +kernel, rfl, by decide +kernel, by decide +kernel⟩
abbrev s_said : Stmt := top 45
abbrev nm_said : List Str := ["book", "groups", "words", "spelled", "at", "group"]
theorem sc_said : FnScope nm_said ["book", "groups"] (defScope s_said) := ⟨rfl, rfl, rfl, by decide +kernel, rfl, by decide +kernel, by decide +kernel⟩
abbrev s_shorter : Stmt := top 49
abbrev nm_shorter : List Str := ["one", "other"]
theorem sc_shorter : FnScope nm_shorter ["one", "other"] (defScope s_shorter) := ⟨rfl, rfl, rfl, by decide +kernel, rfl, by decide +kernel, by decide +kernel⟩
abbrev s_spelled_groups : Stmt := top 50
abbrev nm_spelled_groups : List Str := ["book", "word", "last", "found", "to", "best", "begin", "part"]
theorem sc_spelled_groups : FnScope nm_spelled_groups ["book", "word"] (defScope s_spelled_groups) := ⟨rfl, rfl, rfl, by decide +kernel, rfl, by decide +kernel, by decide +kernel⟩
abbrev s_settings : Stmt := top 51
abbrev nm_settings : List Str := ["book", "words", "found", "to", "best", "begin", "phrase", "spelled"]
theorem sc_settings : FnScope nm_settings ["book", "words"] (defScope s_settings) := ⟨rfl, rfl, rfl, by decide +kernel, rfl, by decide +kernel, by decide +kernel⟩
abbrev s_settings_of : Stmt := top 52
abbrev nm_settings_of : List Str := ["book", "text"]
theorem sc_settings_of : FnScope nm_settings_of ["book", "text"] (defScope s_settings_of) := ⟨rfl, rfl, rfl, by decide +kernel, rfl, by decide +kernel, by decide +kernel⟩
abbrev s_set_groups : Stmt := top 53
abbrev nm_set_groups : List Str := ["book", "text", "found", "many"]
theorem sc_set_groups : FnScope nm_set_groups ["book", "text"] (defScope s_set_groups) := ⟨rfl, rfl, rfl, by decide +kernel, rfl, by decide +kernel, by decide +kernel⟩
abbrev s_check_of : Stmt := top 62
abbrev nm_check_of : List Str := ["code", "groups"]
theorem sc_check_of : FnScope nm_check_of ["code", "groups"] (defScope s_check_of) := ⟨rfl, rfl, rfl, by decide +kernel, rfl, by decide +kernel, by decide +kernel⟩
abbrev s_telegram : Stmt := top 63
abbrev nm_telegram : List Str := ["book", "groups", "code", "group"]
theorem sc_telegram : FnScope nm_telegram ["book", "groups"] (defScope s_telegram) := ⟨rfl, rfl, rfl, by decide +kernel, rfl, by decide +kernel, by decide +kernel⟩
abbrev s_is_word_of : Stmt := top 64
abbrev nm_is_word_of : List Str := ["code", "thing", "letters", "letter"]
theorem sc_is_word_of : FnScope nm_is_word_of ["code", "thing"] (defScope s_is_word_of) := ⟨rfl, rfl, rfl, by decide +kernel, rfl, by decide +kernel, by decide +kernel⟩
abbrev s_look_at_words : Stmt := top 65
abbrev nm_look_at_words : List Str := ["code", "words", "word"]
theorem sc_look_at_words : FnScope nm_look_at_words ["code", "words"] (defScope s_look_at_words) := ⟨rfl, rfl, rfl, by decide +kernel, rfl, by decide +kernel, by decide +kernel⟩
abbrev s_is_group : Stmt := top 66
abbrev nm_is_group : List Str := ["book", "word", "code"]
theorem sc_is_group : FnScope nm_is_group ["book", "word"] (defScope s_is_group) := ⟨rfl, rfl, rfl, by decide +kernel, rfl, by decide +kernel, by decide +kernel⟩
abbrev s_doubtful : Stmt := top 67
abbrev nm_doubtful : List Str := ["book", "words", "code", "found", "k", "word"]
theorem sc_doubtful : FnScope nm_doubtful ["book", "words"] (defScope s_doubtful) := ⟨rfl, rfl, rfl, by decide +kernel, rfl, by decide +kernel, by decide +kernel⟩
abbrev s_read_as : Stmt := top 69
abbrev nm_read_as : List Str := ["book", "numbers", "groups"]
theorem sc_read_as : FnScope nm_read_as ["book", "numbers"] (defScope s_read_as) := ⟨rfl, rfl, rfl, by decide +kernel, rfl, by decide +kernel, by decide +kernel⟩
abbrev s_lengthened : Stmt := top 70
abbrev nm_lengthened : List Str := ["rows", "some", "found", "row", "number"]
theorem sc_lengthened : FnScope nm_lengthened ["rows", "some"] (defScope s_lengthened) := ⟨rfl, rfl, rfl, by decide +kernel, rfl, by decide +kernel, by decide +kernel⟩
abbrev s_readings : Stmt := top 71
abbrev nm_readings : List Str := ["book", "words", "places", "code", "rows", "k", "word", "some", "texts", "row", "text"]
theorem sc_readings : FnScope nm_readings ["book", "words"] (defScope s_readings) := ⟨rfl, rfl, rfl, by decide +kernel, rfl, by decide +kernel, by decide +kernel⟩
abbrev s_law_cell_at : Stmt := top 73
abbrev nm_law_cell_at : List Str := ["_law_script", "_law_k"]
theorem sc_law_cell_at : FnScope nm_law_cell_at ["_law_script", "_law_k"] (defScope s_law_cell_at) := ⟨rfl, rfl, rfl, by decide +kernel, rfl, by decide +kernel, by decide +kernel⟩
abbrev s_law_mixed : Stmt := top 74
abbrev nm_law_mixed : List Str := ["_law_cell", "_law_k", "_law_many", "_law_number"]
theorem sc_law_mixed : FnScope nm_law_mixed ["_law_cell", "_law_k"] (defScope s_law_mixed) := ⟨rfl, rfl, rfl, by decide +kernel, rfl, by decide +kernel, by decide +kernel⟩
abbrev s_law_divisor : Stmt := top 75
abbrev nm_law_divisor : List Str := ["_law_one", "_law_other"]
theorem sc_law_divisor : FnScope nm_law_divisor ["_law_one", "_law_other"] (defScope s_law_divisor) := ⟨rfl, rfl, rfl, by decide +kernel, rfl, by decide +kernel, by decide +kernel⟩
abbrev s_law_alphabet : Stmt := top 76
abbrev nm_law_alphabet : List Str := ["_law_cell", "_law_letters", "_law_by", "_law_m", "_law_k"]
theorem sc_law_alphabet : FnScope nm_law_alphabet ["_law_cell"] (defScope s_law_alphabet) := ⟨rfl, rfl, rfl, by decide +kernel, rfl, by decide +kernel, by decide +kernel⟩
abbrev s_law_weights : Stmt := top 77
abbrev nm_law_weights : List Str := ["_law_m", "_law_cell", "_law_length", "_law_weights_here", "_law_k", "_law_start", "_law_step", "_law_one", "_law_apart"]
theorem sc_law_weights : FnScope nm_law_weights ["_law_m", "_law_cell", "_law_length"] (defScope s_law_weights) := ⟨rfl, rfl, rfl, by decide +kernel, rfl, by decide +kernel, by decide +kernel⟩
abbrev s_law_code : Stmt := top 78
abbrev nm_law_code : List Str := ["_law_script", "_law_alphabet_here", "_law_m", "_law_weights_here"]
theorem sc_law_code : FnScope nm_law_code ["_law_script"] (defScope s_law_code) := ⟨rfl, rfl, rfl, by decide +kernel, rfl, by decide +kernel, by decide +kernel⟩
abbrev s_law_vocabulary : Stmt := top 79
abbrev nm_law_vocabulary : List Str := ["_law_cell", "_law_words", "_law_k", "_law_number", "_law_word", "_law_j"]
theorem sc_law_vocabulary : FnScope nm_law_vocabulary ["_law_cell"] (defScope s_law_vocabulary) := ⟨rfl, rfl, rfl, by decide +kernel, rfl, by decide +kernel, by decide +kernel⟩
abbrev s_law_entry : Stmt := top 80
abbrev nm_law_entry : List Str := ["_law_cell", "_law_words", "_law_number", "_law_kind"]
theorem sc_law_entry : FnScope nm_law_entry ["_law_cell", "_law_words"] (defScope s_law_entry) := ⟨rfl, rfl, rfl, by decide +kernel, rfl, by decide +kernel, by decide +kernel⟩
abbrev s_law_entries : Stmt := top 81
abbrev nm_law_entries : List Str := ["_law_code_here", "_law_script", "_law_full", "_law_words", "_law_many", "_law_k", "_law_some", "_law_found", "_law_number", "_law_cell", "_law_letter"]
theorem sc_law_entries : FnScope nm_law_entries ["_law_code_here", "_law_script", "_law_full"] (defScope s_law_entries) := ⟨rfl, rfl, rfl, by decide +kernel, rfl, by decide +kernel, by decide +kernel⟩
abbrev s_law_made : Stmt := top 82
abbrev nm_law_made : List Str := ["_law_code_here", "_law_entries_here", "_law_book", "_law_number"]
theorem sc_law_made : FnScope nm_law_made ["_law_code_here", "_law_entries_here"] (defScope s_law_made) := ⟨rfl, rfl, rfl, by decide +kernel, rfl, by decide +kernel, by decide +kernel⟩
abbrev s_law_text : Stmt := top 83
abbrev nm_law_text : List Str := ["_law_script", "_law_words", "_law_first", "_law_last", "_law_k"]
theorem sc_law_text : FnScope nm_law_text ["_law_script", "_law_words", "_law_first", "_law_last"] (defScope s_law_text) := ⟨rfl, rfl, rfl, by decide +kernel, rfl, by decide +kernel, by decide +kernel⟩
abbrev s_law_made_another : Stmt := top 84
abbrev nm_law_made_another : List Str := ["_law_code_here", "_law_word", "_law_fault", "_law_alphabet_here", "_law_m", "_law_q", "_law_k", "_law_place"]
theorem sc_law_made_another : FnScope nm_law_made_another ["_law_code_here", "_law_word", "_law_fault"] (defScope s_law_made_another) := ⟨rfl, rfl, rfl, by decide +kernel, rfl, by decide +kernel, by decide +kernel⟩
abbrev s_law_came : Stmt := top 85
abbrev nm_law_came : List Str := ["_law_code_here", "_law_words", "_law_faults_here", "_law_sending", "_law_found", "_law_place", "_law_some", "_law_fault"]
theorem sc_law_came : FnScope nm_law_came ["_law_code_here", "_law_words", "_law_faults_here", "_law_sending"] (defScope s_law_came) := ⟨rfl, rfl, rfl, by decide +kernel, rfl, by decide +kernel, by decide +kernel⟩
abbrev s_law_faults : Stmt := top 86
abbrev nm_law_faults : List Str := ["_law_script", "_law_many", "_law_faults_here", "_law_cells", "_law_k", "_law_place", "_law_kind", "_law_cell", "_law_j"]
theorem sc_law_faults : FnScope nm_law_faults ["_law_script", "_law_many"] (defScope s_law_faults) := ⟨rfl, rfl, rfl, by decide +kernel, rfl, by decide +kernel, by decide +kernel⟩
abbrev s_law_sendings_right : Stmt := top 87
abbrev nm_law_sendings_right : List Str := ["_law_code_here", "_law_words", "_law_faults_here", "_law_sendings", "_law_asked", "_law_sending", "_law_came_here", "_law_one", "_law_other"]
theorem sc_law_sendings_right : FnScope nm_law_sendings_right ["_law_code_here", "_law_words", "_law_faults_here", "_law_sendings"] (defScope s_law_sendings_right) := ⟨rfl, rfl, rfl, by decide +kernel, rfl, by decide +kernel, by decide +kernel⟩
abbrev s_law : Stmt := top 88
abbrev nm_law : List Str := ["_law_script", "_law_code_here", "_law_words", "_law_entries_here", "_law_book", "_law_text_here", "_law_sent", "_law_faults_here", "_law_handed", "_law_found", "_law_letter"]
theorem sc_law : FnScope nm_law ["_law_script"] (defScope s_law) := ⟨rfl, rfl, rfl, by decide +kernel, rfl, by decide +kernel, by decide +kernel⟩

theorem bt_len : bootBuiltins "len" = some (.builtin "len") := by decide +kernel
theorem bt_abs : bootBuiltins "abs" = some (.builtin "abs") := by decide +kernel
theorem bt_sum : bootBuiltins "sum" = some (.builtin "sum") := by decide +kernel
theorem bt_max : bootBuiltins "max" = some (.builtin "max") := by decide +kernel
theorem bt_all : bootBuiltins "all" = some (.builtin "all") := by decide +kernel
theorem bt_isinstance : bootBuiltins "isinstance" = some (.builtin "isinstance") := by decide +kernel
theorem bt_sorted : bootBuiltins "sorted" = some (.builtin "sorted") := by decide +kernel
theorem bt_divmod : bootBuiltins "divmod" = some (.builtin "divmod") := by decide +kernel
theorem bt_int : bootBuiltins "int" = some (.type "int") := by decide +kernel
theorem bt_str : bootBuiltins "str" = some (.type "str") := by decide +kernel
theorem bt_bool : bootBuiltins "bool" = some (.type "bool") := by decide +kernel
theorem bt_list : bootBuiltins "list" = some (.type "list") := by decide +kernel
theorem bt_tuple : bootBuiltins "tuple" = some (.type "tuple") := by decide +kernel
theorem bt_set : bootBuiltins "set" = some (.type "set") := by decide +kernel
/-- what the top has written -/
structure Tx (K : PySem.W.Frag) (mg : Str → Option Value) : Prop where
  d_exchanged_letter : ∃ fd, FunD K "exchanged_letter" "exchanged_letter" (defArgs s_exchanged_letter) (defBody s_exchanged_letter) (defScope s_exchanged_letter) [] [] (He.fAd K ("exchanged_letter", none)) fd
  a_exchanged_letter : mg "exchanged_letter" = some (.ref (He.fAd K ("exchanged_letter", none)))
  d_with_swap : ∃ fd, FunD K "with_swap" "with_swap" (defArgs s_with_swap) (defBody s_with_swap) (defScope s_with_swap) [] [] (He.fAd K ("with_swap", none)) fd
  a_with_swap : mg "with_swap" = some (.ref (He.fAd K ("with_swap", none)))
  d_first_fault : ∃ fd, FunD K "first_fault" "first_fault" (defArgs s_first_fault) (defBody s_first_fault) (defScope s_first_fault) [] [] (He.fAd K ("first_fault", none)) fd
  a_first_fault : mg "first_fault" = some (.ref (He.fAd K ("first_fault", none)))
  d_garbled : ∃ fd, FunD K "garbled" "garbled" (defArgs s_garbled) (defBody s_garbled) (defScope s_garbled) [] [] (He.fAd K ("garbled", none)) fd
  a_garbled : mg "garbled" = some (.ref (He.fAd K ("garbled", none)))
  d_is_kept : ∃ fd, FunD K "is_kept" "is_kept" (defArgs s_is_kept) (defBody s_is_kept) (defScope s_is_kept) [] [] (He.fAd K ("is_kept", none)) fd
  a_is_kept : mg "is_kept" = some (.ref (He.fAd K ("is_kept", none)))
  d_got_across : ∃ fd, FunD K "got_across" "got_across" (defArgs s_got_across) (defBody s_got_across) (defScope s_got_across) [] [] (He.fAd K ("got_across", none)) fd
  a_got_across : mg "got_across" = some (.ref (He.fAd K ("got_across", none)))
  d_is_whole : ∃ fd, FunD K "is_whole" "is_whole" (defArgs s_is_whole) (defBody s_is_whole) (defScope s_is_whole) [] [] (He.fAd K ("is_whole", none)) fd
  a_is_whole : mg "is_whole" = some (.ref (He.fAd K ("is_whole", none)))
  d_divisor : ∃ fd, FunD K "divisor" "divisor" (defArgs s_divisor) (defBody s_divisor) (defScope s_divisor) [] [] (He.fAd K ("divisor", none)) fd
  a_divisor : mg "divisor" = some (.ref (He.fAd K ("divisor", none)))
  d_fits_behind : ∃ fd, FunD K "fits_behind" "fits_behind" (defArgs s_fits_behind) (defBody s_fits_behind) (defScope s_fits_behind) [] [] (He.fAd K ("fits_behind", none)) fd
  a_fits_behind : mg "fits_behind" = some (.ref (He.fAd K ("fits_behind", none)))
  d_are_safe : ∃ fd, FunD K "are_safe" "are_safe" (defArgs s_are_safe) (defBody s_are_safe) (defScope s_are_safe) [] [] (He.fAd K ("are_safe", none)) fd
  a_are_safe : mg "are_safe" = some (.ref (He.fAd K ("are_safe", none)))
  d_are_letters : ∃ fd, FunD K "are_letters" "are_letters" (defArgs s_are_letters) (defBody s_are_letters) (defScope s_are_letters) [] [] (He.fAd K ("are_letters", none)) fd
  a_are_letters : mg "are_letters" = some (.ref (He.fAd K ("are_letters", none)))
  d_are_words : ∃ fd, FunD K "are_words" "are_words" (defArgs s_are_words) (defBody s_are_words) (defScope s_are_words) [] [] (He.fAd K ("are_words", none)) fd
  a_are_words : mg "are_words" = some (.ref (He.fAd K ("are_words", none)))
  d_is_entry : ∃ fd, FunD K "is_entry" "is_entry" (defArgs s_is_entry) (defBody s_is_entry) (defScope s_is_entry) [] [] (He.fAd K ("is_entry", none)) fd
  a_is_entry : mg "is_entry" = some (.ref (He.fAd K ("is_entry", none)))
  d_Book_init : ∃ fd, FunD K "__init__" "Book.__init__" (defArgs s_Book_init) (defBody s_Book_init) (defScope s_Book_init) [] [] (He.fAd K ("Book", some "__init__")) fd
  d_Book_code : ∃ fd, FunD K "code" "Book.code" (defArgs s_Book_code) (defBody s_Book_code) (defScope s_Book_code) [] [] (He.fAd K ("Book", some "code")) fd
  d_Book_put : ∃ fd, FunD K "put" "Book.put" (defArgs s_Book_put) (defBody s_Book_put) (defScope s_Book_put) [.non] [] (He.fAd K ("Book", some "put")) fd
  d_Book_entry : ∃ fd, FunD K "entry" "Book.entry" (defArgs s_Book_entry) (defBody s_Book_entry) (defScope s_Book_entry) [] [] (He.fAd K ("Book", some "entry")) fd
  d_Book_number : ∃ fd, FunD K "number" "Book.number" (defArgs s_Book_number) (defBody s_Book_number) (defScope s_Book_number) [] [] (He.fAd K ("Book", some "number")) fd
  d_sum_of : ∃ fd, FunD K "sum_of" "sum_of" (defArgs s_sum_of) (defBody s_sum_of) (defScope s_sum_of) [] [] (He.fAd K ("sum_of", none)) fd
  a_sum_of : mg "sum_of" = some (.ref (He.fAd K ("sum_of", none)))
  d_is_good : ∃ fd, FunD K "is_good" "is_good" (defArgs s_is_good) (defBody s_is_good) (defScope s_is_good) [] [] (He.fAd K ("is_good", none)) fd
  a_is_good : mg "is_good" = some (.ref (He.fAd K ("is_good", none)))
  d_is_alphabet : ∃ fd, FunD K "is_alphabet" "is_alphabet" (defArgs s_is_alphabet) (defBody s_is_alphabet) (defScope s_is_alphabet) [] [] (He.fAd K ("is_alphabet", none)) fd
  a_is_alphabet : mg "is_alphabet" = some (.ref (He.fAd K ("is_alphabet", none)))
  d_is_place : ∃ fd, FunD K "is_place" "is_place" (defArgs s_is_place) (defBody s_is_place) (defScope s_is_place) [] [] (He.fAd K ("is_place", none)) fd
  a_is_place : mg "is_place" = some (.ref (He.fAd K ("is_place", none)))
  d_are_weights : ∃ fd, FunD K "are_weights" "are_weights" (defArgs s_are_weights) (defBody s_are_weights) (defScope s_are_weights) [] [] (He.fAd K ("are_weights", none)) fd
  a_are_weights : mg "are_weights" = some (.ref (He.fAd K ("are_weights", none)))
  d_Code_init : ∃ fd, FunD K "__init__" "Code.__init__" (defArgs s_Code_init) (defBody s_Code_init) (defScope s_Code_init) [] [] (He.fAd K ("Code", some "__init__")) fd
  d_Code_alphabet : ∃ fd, FunD K "alphabet" "Code.alphabet" (defArgs s_Code_alphabet) (defBody s_Code_alphabet) (defScope s_Code_alphabet) [] [] (He.fAd K ("Code", some "alphabet")) fd
  d_Code_weights : ∃ fd, FunD K "weights" "Code.weights" (defArgs s_Code_weights) (defBody s_Code_weights) (defScope s_Code_weights) [] [] (He.fAd K ("Code", some "weights")) fd
  d_Code_many : ∃ fd, FunD K "many" "Code.many" (defArgs s_Code_many) (defBody s_Code_many) (defScope s_Code_many) [] [] (He.fAd K ("Code", some "many")) fd
  d_Code_word : ∃ fd, FunD K "word" "Code.word" (defArgs s_Code_word) (defBody s_Code_word) (defScope s_Code_word) [] [] (He.fAd K ("Code", some "word")) fd
  d_Code_number : ∃ fd, FunD K "number" "Code.number" (defArgs s_Code_number) (defBody s_Code_number) (defScope s_Code_number) [] [] (He.fAd K ("Code", some "number")) fd
  d_Code_has_good : ∃ fd, FunD K "has_good" "Code.has_good" (defArgs s_Code_has_good) (defBody s_Code_has_good) (defScope s_Code_has_good) [] [] (He.fAd K ("Code", some "has_good")) fd
  d_is_text : ∃ fd, FunD K "is_text" "is_text" (defArgs s_is_text) (defBody s_is_text) (defScope s_is_text) [] [] (He.fAd K ("is_text", none)) fd
  a_is_text : mg "is_text" = some (.ref (He.fAd K ("is_text", none)))
  d_said_on : ∃ fd, FunD K "said_on" "said_on" (defArgs s_said_on) (defBody s_said_on) (defScope s_said_on) [] [] (He.fAd K ("said_on", none)) fd
  a_said_on : mg "said_on" = some (.ref (He.fAd K ("said_on", none)))
  d_said : ∃ fd, FunD K "said" "said" (defArgs s_said) (defBody s_said) (defScope s_said) [] [] (He.fAd K ("said", none)) fd
  a_said : mg "said" = some (.ref (He.fAd K ("said", none)))
  d_shorter : ∃ fd, FunD K "shorter" "shorter" (defArgs s_shorter) (defBody s_shorter) (defScope s_shorter) [] [] (He.fAd K ("shorter", none)) fd
  a_shorter : mg "shorter" = some (.ref (He.fAd K ("shorter", none)))
  d_spelled_groups : ∃ fd, FunD K "spelled_groups" "spelled_groups" (defArgs s_spelled_groups) (defBody s_spelled_groups) (defScope s_spelled_groups) [] [] (He.fAd K ("spelled_groups", none)) fd
  a_spelled_groups : mg "spelled_groups" = some (.ref (He.fAd K ("spelled_groups", none)))
  d_settings : ∃ fd, FunD K "settings" "settings" (defArgs s_settings) (defBody s_settings) (defScope s_settings) [] [] (He.fAd K ("settings", none)) fd
  a_settings : mg "settings" = some (.ref (He.fAd K ("settings", none)))
  d_settings_of : ∃ fd, FunD K "settings_of" "settings_of" (defArgs s_settings_of) (defBody s_settings_of) (defScope s_settings_of) [] [] (He.fAd K ("settings_of", none)) fd
  a_settings_of : mg "settings_of" = some (.ref (He.fAd K ("settings_of", none)))
  d_set_groups : ∃ fd, FunD K "set_groups" "set_groups" (defArgs s_set_groups) (defBody s_set_groups) (defScope s_set_groups) [] [] (He.fAd K ("set_groups", none)) fd
  a_set_groups : mg "set_groups" = some (.ref (He.fAd K ("set_groups", none)))
  d_check_of : ∃ fd, FunD K "check_of" "check_of" (defArgs s_check_of) (defBody s_check_of) (defScope s_check_of) [] [] (He.fAd K ("check_of", none)) fd
  a_check_of : mg "check_of" = some (.ref (He.fAd K ("check_of", none)))
  d_telegram : ∃ fd, FunD K "telegram" "telegram" (defArgs s_telegram) (defBody s_telegram) (defScope s_telegram) [] [] (He.fAd K ("telegram", none)) fd
  a_telegram : mg "telegram" = some (.ref (He.fAd K ("telegram", none)))
  d_is_word_of : ∃ fd, FunD K "is_word_of" "is_word_of" (defArgs s_is_word_of) (defBody s_is_word_of) (defScope s_is_word_of) [] [] (He.fAd K ("is_word_of", none)) fd
  a_is_word_of : mg "is_word_of" = some (.ref (He.fAd K ("is_word_of", none)))
  d_look_at_words : ∃ fd, FunD K "look_at_words" "look_at_words" (defArgs s_look_at_words) (defBody s_look_at_words) (defScope s_look_at_words) [] [] (He.fAd K ("look_at_words", none)) fd
  a_look_at_words : mg "look_at_words" = some (.ref (He.fAd K ("look_at_words", none)))
  d_is_group : ∃ fd, FunD K "is_group" "is_group" (defArgs s_is_group) (defBody s_is_group) (defScope s_is_group) [] [] (He.fAd K ("is_group", none)) fd
  a_is_group : mg "is_group" = some (.ref (He.fAd K ("is_group", none)))
  d_doubtful : ∃ fd, FunD K "doubtful" "doubtful" (defArgs s_doubtful) (defBody s_doubtful) (defScope s_doubtful) [] [] (He.fAd K ("doubtful", none)) fd
  a_doubtful : mg "doubtful" = some (.ref (He.fAd K ("doubtful", none)))
  d_read_as : ∃ fd, FunD K "read_as" "read_as" (defArgs s_read_as) (defBody s_read_as) (defScope s_read_as) [] [] (He.fAd K ("read_as", none)) fd
  a_read_as : mg "read_as" = some (.ref (He.fAd K ("read_as", none)))
  d_lengthened : ∃ fd, FunD K "lengthened" "lengthened" (defArgs s_lengthened) (defBody s_lengthened) (defScope s_lengthened) [] [] (He.fAd K ("lengthened", none)) fd
  a_lengthened : mg "lengthened" = some (.ref (He.fAd K ("lengthened", none)))
  d_readings : ∃ fd, FunD K "readings" "readings" (defArgs s_readings) (defBody s_readings) (defScope s_readings) [] [] (He.fAd K ("readings", none)) fd
  a_readings : mg "readings" = some (.ref (He.fAd K ("readings", none)))
  d_law_cell_at : ∃ fd, FunD K "_law_cell_at" "_law_cell_at" (defArgs s_law_cell_at) (defBody s_law_cell_at) (defScope s_law_cell_at) [] [] (He.fAd K ("_law_cell_at", none)) fd
  a_law_cell_at : mg "_law_cell_at" = some (.ref (He.fAd K ("_law_cell_at", none)))
  d_law_mixed : ∃ fd, FunD K "_law_mixed" "_law_mixed" (defArgs s_law_mixed) (defBody s_law_mixed) (defScope s_law_mixed) [] [] (He.fAd K ("_law_mixed", none)) fd
  a_law_mixed : mg "_law_mixed" = some (.ref (He.fAd K ("_law_mixed", none)))
  d_law_divisor : ∃ fd, FunD K "_law_divisor" "_law_divisor" (defArgs s_law_divisor) (defBody s_law_divisor) (defScope s_law_divisor) [] [] (He.fAd K ("_law_divisor", none)) fd
  a_law_divisor : mg "_law_divisor" = some (.ref (He.fAd K ("_law_divisor", none)))
  d_law_alphabet : ∃ fd, FunD K "_law_alphabet" "_law_alphabet" (defArgs s_law_alphabet) (defBody s_law_alphabet) (defScope s_law_alphabet) [] [] (He.fAd K ("_law_alphabet", none)) fd
  a_law_alphabet : mg "_law_alphabet" = some (.ref (He.fAd K ("_law_alphabet", none)))
  d_law_weights : ∃ fd, FunD K "_law_weights" "_law_weights" (defArgs s_law_weights) (defBody s_law_weights) (defScope s_law_weights) [] [] (He.fAd K ("_law_weights", none)) fd
  a_law_weights : mg "_law_weights" = some (.ref (He.fAd K ("_law_weights", none)))
  d_law_code : ∃ fd, FunD K "_law_code" "_law_code" (defArgs s_law_code) (defBody s_law_code) (defScope s_law_code) [] [] (He.fAd K ("_law_code", none)) fd
  a_law_code : mg "_law_code" = some (.ref (He.fAd K ("_law_code", none)))
  d_law_vocabulary : ∃ fd, FunD K "_law_vocabulary" "_law_vocabulary" (defArgs s_law_vocabulary) (defBody s_law_vocabulary) (defScope s_law_vocabulary) [] [] (He.fAd K ("_law_vocabulary", none)) fd
  a_law_vocabulary : mg "_law_vocabulary" = some (.ref (He.fAd K ("_law_vocabulary", none)))
  d_law_entry : ∃ fd, FunD K "_law_entry" "_law_entry" (defArgs s_law_entry) (defBody s_law_entry) (defScope s_law_entry) [] [] (He.fAd K ("_law_entry", none)) fd
  a_law_entry : mg "_law_entry" = some (.ref (He.fAd K ("_law_entry", none)))
  d_law_entries : ∃ fd, FunD K "_law_entries" "_law_entries" (defArgs s_law_entries) (defBody s_law_entries) (defScope s_law_entries) [] [] (He.fAd K ("_law_entries", none)) fd
  a_law_entries : mg "_law_entries" = some (.ref (He.fAd K ("_law_entries", none)))
  d_law_made : ∃ fd, FunD K "_law_made" "_law_made" (defArgs s_law_made) (defBody s_law_made) (defScope s_law_made) [] [] (He.fAd K ("_law_made", none)) fd
  a_law_made : mg "_law_made" = some (.ref (He.fAd K ("_law_made", none)))
  d_law_text : ∃ fd, FunD K "_law_text" "_law_text" (defArgs s_law_text) (defBody s_law_text) (defScope s_law_text) [] [] (He.fAd K ("_law_text", none)) fd
  a_law_text : mg "_law_text" = some (.ref (He.fAd K ("_law_text", none)))
  d_law_made_another : ∃ fd, FunD K "_law_made_another" "_law_made_another" (defArgs s_law_made_another) (defBody s_law_made_another) (defScope s_law_made_another) [] [] (He.fAd K ("_law_made_another", none)) fd
  a_law_made_another : mg "_law_made_another" = some (.ref (He.fAd K ("_law_made_another", none)))
  d_law_came : ∃ fd, FunD K "_law_came" "_law_came" (defArgs s_law_came) (defBody s_law_came) (defScope s_law_came) [] [] (He.fAd K ("_law_came", none)) fd
  a_law_came : mg "_law_came" = some (.ref (He.fAd K ("_law_came", none)))
  d_law_faults : ∃ fd, FunD K "_law_faults" "_law_faults" (defArgs s_law_faults) (defBody s_law_faults) (defScope s_law_faults) [] [] (He.fAd K ("_law_faults", none)) fd
  a_law_faults : mg "_law_faults" = some (.ref (He.fAd K ("_law_faults", none)))
  d_law_sendings_right : ∃ fd, FunD K "_law_sendings_right" "_law_sendings_right" (defArgs s_law_sendings_right) (defBody s_law_sendings_right) (defScope s_law_sendings_right) [] [] (He.fAd K ("_law_sendings_right", none)) fd
  a_law_sendings_right : mg "_law_sendings_right" = some (.ref (He.fAd K ("_law_sendings_right", none)))
  d_law : ∃ fd, FunD K "law" "law" (defArgs s_law) (defBody s_law) (defScope s_law) [] [] (He.fAd K ("law", none)) fd
  a_law : mg "law" = some (.ref (He.fAd K ("law", none)))
  f_len : mg "len" = none
  f_abs : mg "abs" = none
  f_sum : mg "sum" = none
  f_max : mg "max" = none
  f_all : mg "all" = none
  f_isinstance : mg "isinstance" = none
  f_sorted : mg "sorted" = none
  f_divmod : mg "divmod" = none
  f_int : mg "int" = none
  f_str : mg "str" = none
  f_bool : mg "bool" = none
  f_list : mg "list" = none
  f_tuple : mg "tuple" = none
  f_set : mg "set" = none
  f_zip : mg "zip" = none
  f_enumerate : mg "enumerate" = none
  f_range : mg "range" = none
  g_LETTERS_books : ∃ u, mg "LETTERS_books" = some u ∧ RelV (.str "abcdefghijklmnopqrstuvwxyz") u
  g_LETTERS_codes : ∃ u, mg "LETTERS_codes" = some u ∧ RelV (.str "abcdefghijklmnopqrstuvwxyz") u
  g_MOST_books : ∃ u, mg "MOST_books" = some u ∧ RelV (.int 300) u
  g_MOST_WORDS : ∃ u, mg "MOST_WORDS" = some u ∧ RelV (.int 60) u
  g_MOST_LETTERS : ∃ u, mg "MOST_LETTERS" = some u ∧ RelV (.int 20) u
  g_MOST_PHRASE : ∃ u, mg "MOST_PHRASE" = some u ∧ RelV (.int 6) u
  g_MOST_PART : ∃ u, mg "MOST_PART" = some u ∧ RelV (.int 6) u
  g_MOST_telegrams : ∃ u, mg "MOST_telegrams" = some u ∧ RelV (.int 1400) u
  a_Book : mg "Book" = some (.ref (He.ga K "Book"))
  cl_Book : Cls K (He.ga K "Book")
  mk_Book : Mk K (He.ga K "Book") (He.fAd K ("Book", some "__init__"))
  a_Code : mg "Code" = some (.ref (He.ga K "Code"))
  cl_Code : Cls K (He.ga K "Code")
  mk_Code : Mk K (He.ga K "Code") (He.fAd K ("Code", some "__init__"))
  n_Book_own_code : NoAttr K (He.ga K "Book") "own_code"
  n_Book_by_number : NoAttr K (He.ga K "Book") "by_number"
  n_Book_by_entry : NoAttr K (He.ga K "Book") "by_entry"
  n_Code_letters : NoAttr K (He.ga K "Code") "letters"
  n_Code_loads : NoAttr K (He.ga K "Code") "loads"
  n_Code_remainder : NoAttr K (He.ga K "Code") "remainder"
  me_Book_code : Meth K (He.ga K "Book") "code" (He.fAd K ("Book", some "code"))
  me_Book_put : Meth K (He.ga K "Book") "put" (He.fAd K ("Book", some "put"))
  me_Book_entry : Meth K (He.ga K "Book") "entry" (He.fAd K ("Book", some "entry"))
  me_Book_number : Meth K (He.ga K "Book") "number" (He.fAd K ("Book", some "number"))
  me_Code_alphabet : Meth K (He.ga K "Code") "alphabet" (He.fAd K ("Code", some "alphabet"))
  me_Code_weights : Meth K (He.ga K "Code") "weights" (He.fAd K ("Code", some "weights"))
  me_Code_many : Meth K (He.ga K "Code") "many" (He.fAd K ("Code", some "many"))
  me_Code_word : Meth K (He.ga K "Code") "word" (He.fAd K ("Code", some "word"))
  me_Code_number : Meth K (He.ga K "Code") "number" (He.fAd K ("Code", some "number"))
  me_Code_has_good : Meth K (He.ga K "Code") "has_good" (He.fAd K ("Code", some "has_good"))

end Cb
namespace Cb
open PySem PySem.Spec PyProof.Rows L2
def fa1 : List He.Fa := [.glo "exchanged_letter", .glo "with_swap", .glo "first_fault", .glo "garbled", .glo "is_kept", .glo "got_across", .glo "is_whole", .glo "divisor", .glo "fits_behind", .glo "are_safe", .glo "are_letters", .glo "are_words", .glo "is_entry", .glo "sum_of", .glo "is_good", .glo "is_alphabet", .glo "is_place", .glo "are_weights", .glo "is_text", .glo "said_on", .glo "said", .glo "shorter", .glo "spelled_groups", .glo "settings", .glo "settings_of", .glo "set_groups", .glo "check_of", .glo "telegram", .glo "is_word_of", .glo "look_at_words", .glo "is_group", .glo "doubtful", .glo "read_as", .glo "lengthened", .glo "readings", .glo "_law_cell_at", .glo "_law_mixed", .glo "_law_divisor", .glo "_law_alphabet", .glo "_law_weights"]
def fa2 : List He.Fa := [.glo "_law_code", .glo "_law_vocabulary", .glo "_law_entry", .glo "_law_entries", .glo "_law_made", .glo "_law_text", .glo "_law_made_another", .glo "_law_came", .glo "_law_faults", .glo "_law_sendings_right", .glo "law", .free "len", .free "abs", .free "sum", .free "max", .free "all", .free "isinstance", .free "sorted", .free "divmod", .free "int", .free "str", .free "bool", .free "list", .free "tuple", .free "set", .free "zip", .free "enumerate", .free "range", .str "LETTERS_books" "abcdefghijklmnopqrstuvwxyz", .str "LETTERS_codes" "abcdefghijklmnopqrstuvwxyz", .int "MOST_books" 300, .int "MOST_WORDS" 60, .int "MOST_LETTERS" 20, .int "MOST_PHRASE" 6, .int "MOST_PART" 6, .int "MOST_telegrams" 1400, .glo "Book", .cls "Book", .mkr "Book", .glo "Code"]
def fa3 : List He.Fa := [.cls "Code", .mkr "Code", .noat "Book" "own_code", .noat "Book" "by_number", .noat "Book" "by_entry", .noat "Code" "letters", .noat "Code" "loads", .noat "Code" "remainder", .meth "Book" "code", .meth "Book" "put", .meth "Book" "entry", .meth "Book" "number", .meth "Code" "alphabet", .meth "Code" "weights", .meth "Code" "many", .meth "Code" "word", .meth "Code" "number", .meth "Code" "has_good"]
def fa : List He.Fa := fa1 ++ (fa2 ++ fa3)
def dd_exchanged_letter : He.DefD := ⟨("exchanged_letter", none), "exchanged_letter", "exchanged_letter", defArgs s_exchanged_letter, defBody s_exchanged_letter, defScope s_exchanged_letter, [], []⟩
def dd_with_swap : He.DefD := ⟨("with_swap", none), "with_swap", "with_swap", defArgs s_with_swap, defBody s_with_swap, defScope s_with_swap, [], []⟩
def dd_first_fault : He.DefD := ⟨("first_fault", none), "first_fault", "first_fault", defArgs s_first_fault, defBody s_first_fault, defScope s_first_fault, [], []⟩
def dd_garbled : He.DefD := ⟨("garbled", none), "garbled", "garbled", defArgs s_garbled, defBody s_garbled, defScope s_garbled, [], []⟩
def dd_is_kept : He.DefD := ⟨("is_kept", none), "is_kept", "is_kept", defArgs s_is_kept, defBody s_is_kept, defScope s_is_kept, [], []⟩
def dd_got_across : He.DefD := ⟨("got_across", none), "got_across", "got_across", defArgs s_got_across, defBody s_got_across, defScope s_got_across, [], []⟩
def dd_is_whole : He.DefD := ⟨("is_whole", none), "is_whole", "is_whole", defArgs s_is_whole, defBody s_is_whole, defScope s_is_whole, [], []⟩
def dd_divisor : He.DefD := ⟨("divisor", none), "divisor", "divisor", defArgs s_divisor, defBody s_divisor, defScope s_divisor, [], []⟩
def dd_fits_behind : He.DefD := ⟨("fits_behind", none), "fits_behind", "fits_behind", defArgs s_fits_behind, defBody s_fits_behind, defScope s_fits_behind, [], []⟩
def dd_are_safe : He.DefD := ⟨("are_safe", none), "are_safe", "are_safe", defArgs s_are_safe, defBody s_are_safe, defScope s_are_safe, [], []⟩
def dd_are_letters : He.DefD := ⟨("are_letters", none), "are_letters", "are_letters", defArgs s_are_letters, defBody s_are_letters, defScope s_are_letters, [], []⟩
def dd_are_words : He.DefD := ⟨("are_words", none), "are_words", "are_words", defArgs s_are_words, defBody s_are_words, defScope s_are_words, [], []⟩
def dd_is_entry : He.DefD := ⟨("is_entry", none), "is_entry", "is_entry", defArgs s_is_entry, defBody s_is_entry, defScope s_is_entry, [], []⟩
def dd_Book_init : He.DefD := ⟨("Book", some "__init__"), "__init__", "Book.__init__", defArgs s_Book_init, defBody s_Book_init, defScope s_Book_init, [], []⟩
def dd_Book_code : He.DefD := ⟨("Book", some "code"), "code", "Book.code", defArgs s_Book_code, defBody s_Book_code, defScope s_Book_code, [], []⟩
def dd_Book_put : He.DefD := ⟨("Book", some "put"), "put", "Book.put", defArgs s_Book_put, defBody s_Book_put, defScope s_Book_put, [.non], []⟩
def dd_Book_entry : He.DefD := ⟨("Book", some "entry"), "entry", "Book.entry", defArgs s_Book_entry, defBody s_Book_entry, defScope s_Book_entry, [], []⟩
def dd_Book_number : He.DefD := ⟨("Book", some "number"), "number", "Book.number", defArgs s_Book_number, defBody s_Book_number, defScope s_Book_number, [], []⟩
def dd_sum_of : He.DefD := ⟨("sum_of", none), "sum_of", "sum_of", defArgs s_sum_of, defBody s_sum_of, defScope s_sum_of, [], []⟩
def dd_is_good : He.DefD := ⟨("is_good", none), "is_good", "is_good", defArgs s_is_good, defBody s_is_good, defScope s_is_good, [], []⟩
def dd_is_alphabet : He.DefD := ⟨("is_alphabet", none), "is_alphabet", "is_alphabet", defArgs s_is_alphabet, defBody s_is_alphabet, defScope s_is_alphabet, [], []⟩
def dd_is_place : He.DefD := ⟨("is_place", none), "is_place", "is_place", defArgs s_is_place, defBody s_is_place, defScope s_is_place, [], []⟩
def dd_are_weights : He.DefD := ⟨("are_weights", none), "are_weights", "are_weights", defArgs s_are_weights, defBody s_are_weights, defScope s_are_weights, [], []⟩
def dd_Code_init : He.DefD := ⟨("Code", some "__init__"), "__init__", "Code.__init__", defArgs s_Code_init, defBody s_Code_init, defScope s_Code_init, [], []⟩
def dd_Code_alphabet : He.DefD := ⟨("Code", some "alphabet"), "alphabet", "Code.alphabet", defArgs s_Code_alphabet, defBody s_Code_alphabet, defScope s_Code_alphabet, [], []⟩
def dd_Code_weights : He.DefD := ⟨("Code", some "weights"), "weights", "Code.weights", defArgs s_Code_weights, defBody s_Code_weights, defScope s_Code_weights, [], []⟩
def dd_Code_many : He.DefD := ⟨("Code", some "many"), "many", "Code.many", defArgs s_Code_many, defBody s_Code_many, defScope s_Code_many, [], []⟩
def dd_Code_word : He.DefD := ⟨("Code", some "word"), "word", "Code.word", defArgs s_Code_word, defBody s_Code_word, defScope s_Code_word, [], []⟩
def dd_Code_number : He.DefD := ⟨("Code", some "number"), "number", "Code.number", defArgs s_Code_number, defBody s_Code_number, defScope s_Code_number, [], []⟩
def dd_Code_has_good : He.DefD := ⟨("Code", some "has_good"), "has_good", "Code.has_good", defArgs s_Code_has_good, defBody s_Code_has_good, defScope s_Code_has_good, [], []⟩
def dd_is_text : He.DefD := ⟨("is_text", none), "is_text", "is_text", defArgs s_is_text, defBody s_is_text, defScope s_is_text, [], []⟩
def dd_said_on : He.DefD := ⟨("said_on", none), "said_on", "said_on", defArgs s_said_on, defBody s_said_on, defScope s_said_on, [], []⟩
def dd_said : He.DefD := ⟨("said", none), "said", "said", defArgs s_said, defBody s_said, defScope s_said, [], []⟩
def dd_shorter : He.DefD := ⟨("shorter", none), "shorter", "shorter", defArgs s_shorter, defBody s_shorter, defScope s_shorter, [], []⟩
def dd_spelled_groups : He.DefD := ⟨("spelled_groups", none), "spelled_groups", "spelled_groups", defArgs s_spelled_groups, defBody s_spelled_groups, defScope s_spelled_groups, [], []⟩
def dd_settings : He.DefD := ⟨("settings", none), "settings", "settings", defArgs s_settings, defBody s_settings, defScope s_settings, [], []⟩
def dd_settings_of : He.DefD := ⟨("settings_of", none), "settings_of", "settings_of", defArgs s_settings_of, defBody s_settings_of, defScope s_settings_of, [], []⟩
def dd_set_groups : He.DefD := ⟨("set_groups", none), "set_groups", "set_groups", defArgs s_set_groups, defBody s_set_groups, defScope s_set_groups, [], []⟩
def dd_check_of : He.DefD := ⟨("check_of", none), "check_of", "check_of", defArgs s_check_of, defBody s_check_of, defScope s_check_of, [], []⟩
def dd_telegram : He.DefD := ⟨("telegram", none), "telegram", "telegram", defArgs s_telegram, defBody s_telegram, defScope s_telegram, [], []⟩
def dd_is_word_of : He.DefD := ⟨("is_word_of", none), "is_word_of", "is_word_of", defArgs s_is_word_of, defBody s_is_word_of, defScope s_is_word_of, [], []⟩
def dd_look_at_words : He.DefD := ⟨("look_at_words", none), "look_at_words", "look_at_words", defArgs s_look_at_words, defBody s_look_at_words, defScope s_look_at_words, [], []⟩
def dd_is_group : He.DefD := ⟨("is_group", none), "is_group", "is_group", defArgs s_is_group, defBody s_is_group, defScope s_is_group, [], []⟩
def dd_doubtful : He.DefD := ⟨("doubtful", none), "doubtful", "doubtful", defArgs s_doubtful, defBody s_doubtful, defScope s_doubtful, [], []⟩
def dd_read_as : He.DefD := ⟨("read_as", none), "read_as", "read_as", defArgs s_read_as, defBody s_read_as, defScope s_read_as, [], []⟩
def dd_lengthened : He.DefD := ⟨("lengthened", none), "lengthened", "lengthened", defArgs s_lengthened, defBody s_lengthened, defScope s_lengthened, [], []⟩
def dd_readings : He.DefD := ⟨("readings", none), "readings", "readings", defArgs s_readings, defBody s_readings, defScope s_readings, [], []⟩
def dd_law_cell_at : He.DefD := ⟨("_law_cell_at", none), "_law_cell_at", "_law_cell_at", defArgs s_law_cell_at, defBody s_law_cell_at, defScope s_law_cell_at, [], []⟩
def dd_law_mixed : He.DefD := ⟨("_law_mixed", none), "_law_mixed", "_law_mixed", defArgs s_law_mixed, defBody s_law_mixed, defScope s_law_mixed, [], []⟩
def dd_law_divisor : He.DefD := ⟨("_law_divisor", none), "_law_divisor", "_law_divisor", defArgs s_law_divisor, defBody s_law_divisor, defScope s_law_divisor, [], []⟩
def dd_law_alphabet : He.DefD := ⟨("_law_alphabet", none), "_law_alphabet", "_law_alphabet", defArgs s_law_alphabet, defBody s_law_alphabet, defScope s_law_alphabet, [], []⟩
def dd_law_weights : He.DefD := ⟨("_law_weights", none), "_law_weights", "_law_weights", defArgs s_law_weights, defBody s_law_weights, defScope s_law_weights, [], []⟩
def dd_law_code : He.DefD := ⟨("_law_code", none), "_law_code", "_law_code", defArgs s_law_code, defBody s_law_code, defScope s_law_code, [], []⟩
def dd_law_vocabulary : He.DefD := ⟨("_law_vocabulary", none), "_law_vocabulary", "_law_vocabulary", defArgs s_law_vocabulary, defBody s_law_vocabulary, defScope s_law_vocabulary, [], []⟩
def dd_law_entry : He.DefD := ⟨("_law_entry", none), "_law_entry", "_law_entry", defArgs s_law_entry, defBody s_law_entry, defScope s_law_entry, [], []⟩
def dd_law_entries : He.DefD := ⟨("_law_entries", none), "_law_entries", "_law_entries", defArgs s_law_entries, defBody s_law_entries, defScope s_law_entries, [], []⟩
def dd_law_made : He.DefD := ⟨("_law_made", none), "_law_made", "_law_made", defArgs s_law_made, defBody s_law_made, defScope s_law_made, [], []⟩
def dd_law_text : He.DefD := ⟨("_law_text", none), "_law_text", "_law_text", defArgs s_law_text, defBody s_law_text, defScope s_law_text, [], []⟩
def dd_law_made_another : He.DefD := ⟨("_law_made_another", none), "_law_made_another", "_law_made_another", defArgs s_law_made_another, defBody s_law_made_another, defScope s_law_made_another, [], []⟩
def dd_law_came : He.DefD := ⟨("_law_came", none), "_law_came", "_law_came", defArgs s_law_came, defBody s_law_came, defScope s_law_came, [], []⟩
def dd_law_faults : He.DefD := ⟨("_law_faults", none), "_law_faults", "_law_faults", defArgs s_law_faults, defBody s_law_faults, defScope s_law_faults, [], []⟩
def dd_law_sendings_right : He.DefD := ⟨("_law_sendings_right", none), "_law_sendings_right", "_law_sendings_right", defArgs s_law_sendings_right, defBody s_law_sendings_right, defScope s_law_sendings_right, [], []⟩
def dd_law : He.DefD := ⟨("law", none), "law", "law", defArgs s_law, defBody s_law, defScope s_law, [], []⟩
def fn1 : List He.DefD := [dd_exchanged_letter, dd_with_swap, dd_first_fault, dd_garbled, dd_is_kept, dd_got_across, dd_is_whole, dd_divisor, dd_fits_behind, dd_are_safe, dd_are_letters, dd_are_words, dd_is_entry, dd_Book_init, dd_Book_code, dd_Book_put, dd_Book_entry, dd_Book_number, dd_sum_of, dd_is_good, dd_is_alphabet, dd_is_place, dd_are_weights, dd_Code_init, dd_Code_alphabet, dd_Code_weights, dd_Code_many, dd_Code_word, dd_Code_number, dd_Code_has_good, dd_is_text, dd_said_on, dd_said, dd_shorter, dd_spelled_groups]
def fn2 : List He.DefD := [dd_settings, dd_settings_of, dd_set_groups, dd_check_of, dd_telegram, dd_is_word_of, dd_look_at_words, dd_is_group, dd_doubtful, dd_read_as, dd_lengthened, dd_readings, dd_law_cell_at, dd_law_mixed, dd_law_divisor, dd_law_alphabet, dd_law_weights, dd_law_code, dd_law_vocabulary, dd_law_entry, dd_law_entries, dd_law_made, dd_law_text, dd_law_made_another, dd_law_came, dd_law_faults, dd_law_sendings_right, dd_law]
def fn : List He.DefD := fn1 ++ fn2

abbrev Rw : PySem.W.OpenRow := PySem.W.OpenLaw.row PySem.Challenge.rw_cablehouse_k51_whole_asked_again
abbrev hk : PySem.W.Hook := He.hookD 4 fa fn
def ob (s : PySem.W.SharedT) : He.AlD := He.obsDG 4 fa fn (HandSHeadRun.getT s)
theorem ob_eq (s : PySem.W.SharedT) : ob s = hk.obs s.abs := He.obsDG_eq (HandSHeadRun.getT_eq s)
def lo0 : List Str := ["_wall", "exchanged_letter", "with_swap", "first_fault", "garbled", "is_kept", "got_across", "is_whole", "divisor", "fits_behind", "are_safe", "are_letters"]
def lo1 : List Str := ["are_words", "is_entry", "sum_of", "is_good", "is_alphabet", "is_place", "are_weights", "is_text", "said_on", "said", "shorter", "spelled_groups"]
def lo2 : List Str := ["settings", "settings_of", "set_groups", "is_word", "places_of", "word_of", "faulty", "nearest", "check_of", "telegram", "is_word_of", "look_at_words"]
def lo3 : List Str := ["is_group", "doubtful", "choices", "read_as", "lengthened", "readings", "_law_cell_at", "_law_mixed", "_law_divisor", "_law_alphabet", "_law_weights", "_law_code"]
def lo4 : List Str := ["_law_vocabulary", "_law_entry", "_law_entries", "_law_made", "_law_text", "_law_made_another", "_law_came", "_law_faults", "_law_sendings_right", "CableError", "NoCode", "NoNumber"]
def lo5 : List Str := ["NoWord", "NoEntry", "Twice", "TooMany", "NoText", "NoReading", "NoSetting", "TooGarbled", "Book", "Code", "LETTERS_books", "LETTERS_codes"]
def lo6 : List Str := ["MOST_books", "MOST_WORDS", "MOST_LETTERS", "MOST_PHRASE", "MOST_PART", "MOST_telegrams"]
def loose : List Str := lo0 ++ lo1 ++ lo2 ++ lo3 ++ lo4 ++ lo5 ++ lo6

theorem run (w : World) : HandSHeadRun.RunEq Rw (PySem.W.view Rw.prog [88]) hk ob 12000 loose w := by
  intro os
  kernel_rfl
theorem gi {K : PySem.W.Frag} {h : Heap} {mg : Str → Option Value} (X : K.In h) (G : h.Ns mainGlobals mg) {x : Str} {i : Int} (c : (He.Fa.int x i).ok K = true) : ∃ u, mg x = some u ∧ RelV (.int i) u := by
  obtain ⟨t, e⟩ := He.int_ok X G c
  exact ⟨_, e, t, rfl⟩
theorem gs {K : PySem.W.Frag} {h : Heap} {mg : Str → Option Value} (X : K.In h) (G : h.Ns mainGlobals mg) {x z : Str} (c : (He.Fa.str x z).ok K = true) : ∃ u, mg x = some u ∧ RelV (.str z) u := by
  obtain ⟨t, e⟩ := He.str_ok X G c
  exact ⟨_, e, t, rfl⟩
theorem tx_of {K : PySem.W.Frag} {h : Heap} {mg : Str → Option Value} (X : K.In h) (G : h.Ns mainGlobals mg) (c : He.SaysD fa fn K) : Tx K mg where
  d_exchanged_letter := c.def_ 0 (d := dd_exchanged_letter) rfl
  d_with_swap := c.def_ 1 (d := dd_with_swap) rfl
  d_first_fault := c.def_ 2 (d := dd_first_fault) rfl
  d_garbled := c.def_ 3 (d := dd_garbled) rfl
  d_is_kept := c.def_ 4 (d := dd_is_kept) rfl
  d_got_across := c.def_ 5 (d := dd_got_across) rfl
  d_is_whole := c.def_ 6 (d := dd_is_whole) rfl
  d_divisor := c.def_ 7 (d := dd_divisor) rfl
  d_fits_behind := c.def_ 8 (d := dd_fits_behind) rfl
  d_are_safe := c.def_ 9 (d := dd_are_safe) rfl
  d_are_letters := c.def_ 10 (d := dd_are_letters) rfl
  d_are_words := c.def_ 11 (d := dd_are_words) rfl
  d_is_entry := c.def_ 12 (d := dd_is_entry) rfl
  d_Book_init := c.def_ 13 (d := dd_Book_init) rfl
  d_Book_code := c.def_ 14 (d := dd_Book_code) rfl
  d_Book_put := c.def_ 15 (d := dd_Book_put) rfl
  d_Book_entry := c.def_ 16 (d := dd_Book_entry) rfl
  d_Book_number := c.def_ 17 (d := dd_Book_number) rfl
  d_sum_of := c.def_ 18 (d := dd_sum_of) rfl
  d_is_good := c.def_ 19 (d := dd_is_good) rfl
  d_is_alphabet := c.def_ 20 (d := dd_is_alphabet) rfl
  d_is_place := c.def_ 21 (d := dd_is_place) rfl
  d_are_weights := c.def_ 22 (d := dd_are_weights) rfl
  d_Code_init := c.def_ 23 (d := dd_Code_init) rfl
  d_Code_alphabet := c.def_ 24 (d := dd_Code_alphabet) rfl
  d_Code_weights := c.def_ 25 (d := dd_Code_weights) rfl
  d_Code_many := c.def_ 26 (d := dd_Code_many) rfl
  d_Code_word := c.def_ 27 (d := dd_Code_word) rfl
  d_Code_number := c.def_ 28 (d := dd_Code_number) rfl
  d_Code_has_good := c.def_ 29 (d := dd_Code_has_good) rfl
  d_is_text := c.def_ 30 (d := dd_is_text) rfl
  d_said_on := c.def_ 31 (d := dd_said_on) rfl
  d_said := c.def_ 32 (d := dd_said) rfl
  d_shorter := c.def_ 33 (d := dd_shorter) rfl
  d_spelled_groups := c.def_ 34 (d := dd_spelled_groups) rfl
  d_settings := c.def_ 35 (d := dd_settings) rfl
  d_settings_of := c.def_ 36 (d := dd_settings_of) rfl
  d_set_groups := c.def_ 37 (d := dd_set_groups) rfl
  d_check_of := c.def_ 38 (d := dd_check_of) rfl
  d_telegram := c.def_ 39 (d := dd_telegram) rfl
  d_is_word_of := c.def_ 40 (d := dd_is_word_of) rfl
  d_look_at_words := c.def_ 41 (d := dd_look_at_words) rfl
  d_is_group := c.def_ 42 (d := dd_is_group) rfl
  d_doubtful := c.def_ 43 (d := dd_doubtful) rfl
  d_read_as := c.def_ 44 (d := dd_read_as) rfl
  d_lengthened := c.def_ 45 (d := dd_lengthened) rfl
  d_readings := c.def_ 46 (d := dd_readings) rfl
  d_law_cell_at := c.def_ 47 (d := dd_law_cell_at) rfl
  d_law_mixed := c.def_ 48 (d := dd_law_mixed) rfl
  d_law_divisor := c.def_ 49 (d := dd_law_divisor) rfl
  d_law_alphabet := c.def_ 50 (d := dd_law_alphabet) rfl
  d_law_weights := c.def_ 51 (d := dd_law_weights) rfl
  d_law_code := c.def_ 52 (d := dd_law_code) rfl
  d_law_vocabulary := c.def_ 53 (d := dd_law_vocabulary) rfl
  d_law_entry := c.def_ 54 (d := dd_law_entry) rfl
  d_law_entries := c.def_ 55 (d := dd_law_entries) rfl
  d_law_made := c.def_ 56 (d := dd_law_made) rfl
  d_law_text := c.def_ 57 (d := dd_law_text) rfl
  d_law_made_another := c.def_ 58 (d := dd_law_made_another) rfl
  d_law_came := c.def_ 59 (d := dd_law_came) rfl
  d_law_faults := c.def_ 60 (d := dd_law_faults) rfl
  d_law_sendings_right := c.def_ 61 (d := dd_law_sendings_right) rfl
  d_law := c.def_ 62 (d := dd_law) rfl
  a_exchanged_letter := He.glo_ok X G (c.fact 0 (f := .glo "exchanged_letter") rfl)
  a_with_swap := He.glo_ok X G (c.fact 1 (f := .glo "with_swap") rfl)
  a_first_fault := He.glo_ok X G (c.fact 2 (f := .glo "first_fault") rfl)
  a_garbled := He.glo_ok X G (c.fact 3 (f := .glo "garbled") rfl)
  a_is_kept := He.glo_ok X G (c.fact 4 (f := .glo "is_kept") rfl)
  a_got_across := He.glo_ok X G (c.fact 5 (f := .glo "got_across") rfl)
  a_is_whole := He.glo_ok X G (c.fact 6 (f := .glo "is_whole") rfl)
  a_divisor := He.glo_ok X G (c.fact 7 (f := .glo "divisor") rfl)
  a_fits_behind := He.glo_ok X G (c.fact 8 (f := .glo "fits_behind") rfl)
  a_are_safe := He.glo_ok X G (c.fact 9 (f := .glo "are_safe") rfl)
  a_are_letters := He.glo_ok X G (c.fact 10 (f := .glo "are_letters") rfl)
  a_are_words := He.glo_ok X G (c.fact 11 (f := .glo "are_words") rfl)
  a_is_entry := He.glo_ok X G (c.fact 12 (f := .glo "is_entry") rfl)
  a_sum_of := He.glo_ok X G (c.fact 13 (f := .glo "sum_of") rfl)
  a_is_good := He.glo_ok X G (c.fact 14 (f := .glo "is_good") rfl)
  a_is_alphabet := He.glo_ok X G (c.fact 15 (f := .glo "is_alphabet") rfl)
  a_is_place := He.glo_ok X G (c.fact 16 (f := .glo "is_place") rfl)
  a_are_weights := He.glo_ok X G (c.fact 17 (f := .glo "are_weights") rfl)
  a_is_text := He.glo_ok X G (c.fact 18 (f := .glo "is_text") rfl)
  a_said_on := He.glo_ok X G (c.fact 19 (f := .glo "said_on") rfl)
  a_said := He.glo_ok X G (c.fact 20 (f := .glo "said") rfl)
  a_shorter := He.glo_ok X G (c.fact 21 (f := .glo "shorter") rfl)
  a_spelled_groups := He.glo_ok X G (c.fact 22 (f := .glo "spelled_groups") rfl)
  a_settings := He.glo_ok X G (c.fact 23 (f := .glo "settings") rfl)
  a_settings_of := He.glo_ok X G (c.fact 24 (f := .glo "settings_of") rfl)
  a_set_groups := He.glo_ok X G (c.fact 25 (f := .glo "set_groups") rfl)
  a_check_of := He.glo_ok X G (c.fact 26 (f := .glo "check_of") rfl)
  a_telegram := He.glo_ok X G (c.fact 27 (f := .glo "telegram") rfl)
  a_is_word_of := He.glo_ok X G (c.fact 28 (f := .glo "is_word_of") rfl)
  a_look_at_words := He.glo_ok X G (c.fact 29 (f := .glo "look_at_words") rfl)
  a_is_group := He.glo_ok X G (c.fact 30 (f := .glo "is_group") rfl)
  a_doubtful := He.glo_ok X G (c.fact 31 (f := .glo "doubtful") rfl)
  a_read_as := He.glo_ok X G (c.fact 32 (f := .glo "read_as") rfl)
  a_lengthened := He.glo_ok X G (c.fact 33 (f := .glo "lengthened") rfl)
  a_readings := He.glo_ok X G (c.fact 34 (f := .glo "readings") rfl)
  a_law_cell_at := He.glo_ok X G (c.fact 35 (f := .glo "_law_cell_at") rfl)
  a_law_mixed := He.glo_ok X G (c.fact 36 (f := .glo "_law_mixed") rfl)
  a_law_divisor := He.glo_ok X G (c.fact 37 (f := .glo "_law_divisor") rfl)
  a_law_alphabet := He.glo_ok X G (c.fact 38 (f := .glo "_law_alphabet") rfl)
  a_law_weights := He.glo_ok X G (c.fact 39 (f := .glo "_law_weights") rfl)
  a_law_code := He.glo_ok X G (c.fact 40 (f := .glo "_law_code") rfl)
  a_law_vocabulary := He.glo_ok X G (c.fact 41 (f := .glo "_law_vocabulary") rfl)
  a_law_entry := He.glo_ok X G (c.fact 42 (f := .glo "_law_entry") rfl)
  a_law_entries := He.glo_ok X G (c.fact 43 (f := .glo "_law_entries") rfl)
  a_law_made := He.glo_ok X G (c.fact 44 (f := .glo "_law_made") rfl)
  a_law_text := He.glo_ok X G (c.fact 45 (f := .glo "_law_text") rfl)
  a_law_made_another := He.glo_ok X G (c.fact 46 (f := .glo "_law_made_another") rfl)
  a_law_came := He.glo_ok X G (c.fact 47 (f := .glo "_law_came") rfl)
  a_law_faults := He.glo_ok X G (c.fact 48 (f := .glo "_law_faults") rfl)
  a_law_sendings_right := He.glo_ok X G (c.fact 49 (f := .glo "_law_sendings_right") rfl)
  a_law := He.glo_ok X G (c.fact 50 (f := .glo "law") rfl)
  f_len := He.free_ok X G (c.fact 51 (f := .free "len") rfl)
  f_abs := He.free_ok X G (c.fact 52 (f := .free "abs") rfl)
  f_sum := He.free_ok X G (c.fact 53 (f := .free "sum") rfl)
  f_max := He.free_ok X G (c.fact 54 (f := .free "max") rfl)
  f_all := He.free_ok X G (c.fact 55 (f := .free "all") rfl)
  f_isinstance := He.free_ok X G (c.fact 56 (f := .free "isinstance") rfl)
  f_sorted := He.free_ok X G (c.fact 57 (f := .free "sorted") rfl)
  f_divmod := He.free_ok X G (c.fact 58 (f := .free "divmod") rfl)
  f_int := He.free_ok X G (c.fact 59 (f := .free "int") rfl)
  f_str := He.free_ok X G (c.fact 60 (f := .free "str") rfl)
  f_bool := He.free_ok X G (c.fact 61 (f := .free "bool") rfl)
  f_list := He.free_ok X G (c.fact 62 (f := .free "list") rfl)
  f_tuple := He.free_ok X G (c.fact 63 (f := .free "tuple") rfl)
  f_set := He.free_ok X G (c.fact 64 (f := .free "set") rfl)
  f_zip := He.free_ok X G (c.fact 65 (f := .free "zip") rfl)
  f_enumerate := He.free_ok X G (c.fact 66 (f := .free "enumerate") rfl)
  f_range := He.free_ok X G (c.fact 67 (f := .free "range") rfl)
  g_LETTERS_books := gs X G (c.fact 68 (f := .str "LETTERS_books" "abcdefghijklmnopqrstuvwxyz") rfl)
  g_LETTERS_codes := gs X G (c.fact 69 (f := .str "LETTERS_codes" "abcdefghijklmnopqrstuvwxyz") rfl)
  g_MOST_books := gi X G (c.fact 70 (f := .int "MOST_books" 300) rfl)
  g_MOST_WORDS := gi X G (c.fact 71 (f := .int "MOST_WORDS" 60) rfl)
  g_MOST_LETTERS := gi X G (c.fact 72 (f := .int "MOST_LETTERS" 20) rfl)
  g_MOST_PHRASE := gi X G (c.fact 73 (f := .int "MOST_PHRASE" 6) rfl)
  g_MOST_PART := gi X G (c.fact 74 (f := .int "MOST_PART" 6) rfl)
  g_MOST_telegrams := gi X G (c.fact 75 (f := .int "MOST_telegrams" 1400) rfl)
  a_Book := He.glo_ok X G (c.fact 76 (f := .glo "Book") rfl)
  cl_Book := He.cls_ok (c.fact 77 (f := .cls "Book") rfl)
  mk_Book := He.mkr_ok (c.fact 78 (f := .mkr "Book") rfl)
  a_Code := He.glo_ok X G (c.fact 79 (f := .glo "Code") rfl)
  cl_Code := He.cls_ok (c.fact 80 (f := .cls "Code") rfl)
  mk_Code := He.mkr_ok (c.fact 81 (f := .mkr "Code") rfl)
  n_Book_own_code := He.noat_ok (c.fact 82 (f := .noat "Book" "own_code") rfl)
  n_Book_by_number := He.noat_ok (c.fact 83 (f := .noat "Book" "by_number") rfl)
  n_Book_by_entry := He.noat_ok (c.fact 84 (f := .noat "Book" "by_entry") rfl)
  n_Code_letters := He.noat_ok (c.fact 85 (f := .noat "Code" "letters") rfl)
  n_Code_loads := He.noat_ok (c.fact 86 (f := .noat "Code" "loads") rfl)
  n_Code_remainder := He.noat_ok (c.fact 87 (f := .noat "Code" "remainder") rfl)
  me_Book_code := He.meth_ok (c.fact 88 (f := .meth "Book" "code") rfl)
  me_Book_put := He.meth_ok (c.fact 89 (f := .meth "Book" "put") rfl)
  me_Book_entry := He.meth_ok (c.fact 90 (f := .meth "Book" "entry") rfl)
  me_Book_number := He.meth_ok (c.fact 91 (f := .meth "Book" "number") rfl)
  me_Code_alphabet := He.meth_ok (c.fact 92 (f := .meth "Code" "alphabet") rfl)
  me_Code_weights := He.meth_ok (c.fact 93 (f := .meth "Code" "weights") rfl)
  me_Code_many := He.meth_ok (c.fact 94 (f := .meth "Code" "many") rfl)
  me_Code_word := He.meth_ok (c.fact 95 (f := .meth "Code" "word") rfl)
  me_Code_number := He.meth_ok (c.fact 96 (f := .meth "Code" "number") rfl)
  me_Code_has_good := He.meth_ok (c.fact 97 (f := .meth "Code" "has_good") rfl)

end Cb
/-! K2: three rules of our own: a text times a number, not in d.values(), len(set(text)). -/
namespace Cb
open PySem PySem.Spec PyProof.Rows L2
section
variable {X : Cx}
/-- "x" * n, n nought or one -/
def rRepS : R2 := fun x y H Q => ∃ (z : Str) (n : Int), x = .str z ∧ y = .int n ∧ (n = 0 ∨ n = 1) ∧ z.length ≤ 1000 ∧ Q (.str (if n = 0 then Str.empty else z)) H
theorem op_repS : OpR X (binaryOp .Mult) rRepS := by
  intro pins s σ H x y v u Q I rx ry h
  obtain ⟨z, n, rfl, rfl, hn, hz, q⟩ := h
  obtain ⟨t, rfl⟩ := rx
  obtain ⟨t', rfl⟩ := ry
  rcases hn with rfl | rfl
  · exact PySem.P.mul_str_none (by decide) (by decide) ⟨.str Str.empty, H, I.tok _, ⟨_, rfl⟩, q⟩
  · refine PySem.P.mul_str (by decide) (fun _ h => ?_) (fun _ h => ?_) ?_
    · exact absurd (show (((1 : Int) == 1) || z.length == 0) = true from rfl) (by rw [h]; decide)
    · exact absurd (show (((1 : Int) == 1) || z.length == 0) = true from rfl) (by rw [h]; decide)
    · rw [if_neg (by decide), if_pos (show (((1 : Int) == 1) || z.length == 0) = true from rfl)]
      exact ⟨.str z, H, I, ⟨_, rfl⟩, q⟩
end
/-! ### x not in d.values() -/
theorem noContains : typeLookup (.type "dict_values") "__contains__" = pure none := by
  rw [typeLookup_type, builtinLookup_eq_fast]
  kernel_rfl
theorem entryCi : entryFor table "proto.contains_iter" = some Builtin.«proto.contains_iter» := entryFor_of_tree (by kernel_rfl)
theorem plainCi : plainId "proto.contains_iter" = true := by decide +kernel
section
variable {prog : Program} {w : World} {A : Around} {I : Addr} {fp wr : List Addr} {n : Nat} {P : Nat → Value → Prop} {Sd : Nat → Heap → Prop}
/-- the walk of a container: c i says whether the i-th item is the one sought -/
theorem ci_loop (W : Walks prog w A.in1 I fp wr n P Sd) (x : Value) (c : Nat → Bool) (K0 : Heap → Prop)
    (hK : ∀ h h', K0 h → (∀ b o, b ∉ wr → h.get? b = some o → h'.get? b = some o) → K0 h')
    (heq : ∀ i (s : Shared) v, i < n → P i v → K0 s.heap → SeqAt.EqAt A.in1 s v x (c i)) {R : Result → Shared → Prop} :
    ∀ (k i : Nat) (s : Shared), n - i = k → i ≤ n → Sd i s.heap → K0 s.heap → (∀ j, j < i → c j = false) →
      (∀ h' tk, (∀ b o, b ∉ wr → s.heap.get? b = some o → h'.get? b = some o) → R (.ok (.ret (.bool ((List.range n).any c)))) { s with heap := h', toks := tk }) →
      codeAny (model prog w) A (.builtin "proto.contains_iter" ⟨[.ref I, x], []⟩) R s := by
  intro k
  induction k with
  | zero =>
    intro i s hk hi hst h0 hno hR
    obtain rfl : i = n := by omega
    refine codeAny_builtin entryCi ?_
    rw [Around.under_plainId plainCi _]
    show wpAny _ A.in1 (pyNext (.ref I) >>= _) _ _ s
    refine wpAny_bind (W.done s _ _ hst fun h' tk hm => ?_)
    have e : (List.range i).any c = false := by
      rw [List.any_eq_false]
      intro j hj
      rw [hno j (List.mem_range.mp hj)]
      decide
    refine wpAny_bind (wpAny_rule ?_)
    have q := hR h' tk hm
    rw [e] at q
    exact wpAny_pure q
  | succ k ih =>
    intro i s hk hi hst h0 hno hR
    have hlt : i < n := by omega
    refine codeAny_builtin entryCi ?_
    rw [Around.under_plainId plainCi _]
    show wpAny _ A.in1 (pyNext (.ref I) >>= _) _ _ s
    refine wpAny_bind (W.item i s _ _ hlt hst fun v h' tk hP hst' hm => ?_)
    have h1 := hK _ _ h0 hm
    refine wpAny_bind (heq i { s with heap := h', toks := tk } v hlt hP h1 _ _ _ _ ?_)
    cases hc : c i with
    | true =>
      have e : (List.range n).any c = true := List.any_eq_true.mpr ⟨i, List.mem_range.mpr hlt, hc⟩
      refine wpAny_bind (wpAny_rule ?_)
      have q := hR h' tk hm
      rw [e] at q
      exact wpAny_pure q
    | false =>
      refine wpAny_pure ⟨plainId_quiet plainCi _, ih (i + 1) _ (by omega) hlt hst' h1 (fun j hj => ?_) fun h'' tk' hm' => hR h'' tk' fun b o hb q => hm' b o hb (hm b o hb q)⟩
      rcases Nat.lt_or_ge j i with z | z
      · exact hno j z
      · obtain rfl : j = i := by omega
        exact hc
end
theorem reads_at {h : Heap} : ∀ (ds : List PyData) (us : List Value) (bs : List Addr), ReadsAll h us ds bs → ∀ (i : Nat) (u : Value) (d : PyData), us[i]? = some u → ds[i]? = some d → ∃ as, Reads h u d as
  | [], us, _, r, i, u, d, _, h2 => by simp at h2
  | z :: ds, us, bs, r, i, u, d, h1, h2 => by
    cases r with
    | cons r1 r2 =>
      cases i with
      | zero =>
        obtain rfl : _ = u := Option.some.inj h1
        obtain rfl : z = d := Option.some.inj h2
        exact ⟨_, r1⟩
      | succ i => exact reads_at ds _ _ r2 i u d (by simpa using h1) (by simpa using h2)
theorem any_range {α : Type} (f : α → Bool) (z0 : α) : ∀ ds : List α, ((List.range ds.length).any fun i => f (ds.getD i z0)) = ds.any f := fun ds => by
  rw [Bool.eq_iff_iff, List.any_eq_true, List.any_eq_true]
  constructor
  · rintro ⟨i, hi, e⟩
    have hl : i < ds.length := List.mem_range.mp hi
    have q : ds.getD i z0 = ds[i] := by
      rw [List.getD_eq_getElem?_getD, List.getElem?_eq_getElem hl]
      rfl
    rw [q] at e
    exact ⟨ds[i], List.getElem_mem hl, e⟩
  · rintro ⟨z, hz, e⟩
    obtain ⟨i, hi, q⟩ := List.mem_iff_getElem.mp hz
    refine ⟨i, List.mem_range.mpr hi, ?_⟩
    have q2 : ds.getD i z0 = z := by
      rw [List.getD_eq_getElem?_getD, List.getElem?_eq_getElem hi, ← q]
      rfl
    rw [q2]
    exact e
section
variable {X : Cx} {pins : List (Addr × Obj)} {σ : L2.St} {H : Hp} {s : Shared}
/-- v in the view at p of the dict at d -/
theorem contains_view {p d : Addr} {x : Value} {vs : List (Key × Value)} {ep : Nat} {ds : List PyData} {dx : PyData} {Q : Bool → Shared → Prop} (hu : X.A.units + 64 < cLine) (hh : X.A.handled = none)
    (hp : s.heap.IsValuesView p d) (hm : s.heap.DictAt (mixKind X.prog X.w) d vs ep) (hd : ∃ as, Reads s.heap x dx as) (sx : SeqAt.shaped dx = true) (s60 : dx.depth ≤ 60)
    (hv : ∃ as, ReadsAll s.heap (vs.map (·.2)) ds as) (sv : ∀ z ∈ ds, z.canLay0 = true)
    (h : ∀ h' tk, (∀ b o, s.heap.get? b = some o → h'.get? b = some o) → Q (ds.any fun z => PyData.eqv z dx) { s with heap := h', toks := tk }) :
    wpAny (model X.prog X.w) X.A (contains (.ref p) x) Q X.xe s := by
  unfold contains
  refine wpAny_holding ?_
  show wpAny _ _ (specialOf (.ref p) "__contains__" >>= _) _ _ s
  refine wpAny_bind (wpAny_specialOf hp.typeIs noContains ?_)
  show wpAny _ _ (callSpecialUnlessNone? (.ref p) "__contains__" [x] _ >>= _) _ _ s
  refine wpAny_bind ?_
  unfold callSpecialUnlessNone?
  refine wpAny_bind (wpAny_specialOf hp.typeIs noContains (wpAny_pure ?_))
  refine wpAny_bind (wpAny_rule ?_)
  refine wpAny_bind ?_
  refine wpAny_tryCatch (wpAny_pyIter_values hp hm ?_)
  refine wpAny_bind (wpAny_runValue ?_)
  obtain ⟨as, rx⟩ := hd
  obtain ⟨bs, rv⟩ := hv
  have hne : d ≠ s.heap.objs.size := Nat.ne_of_lt (by obtain ⟨o, _, e, _⟩ := hm; exact Heap.lt_size e)
  have hlen : vs.length = ds.length := by
    have e := SeqAt.ReadsAll.length ds _ bs rv
    rw [List.length_map] at e
    exact e
  have hx1 : X.A.in1.handled = none := hh
  have kept : ∀ h' : Heap, (∀ b o, b ∉ [s.heap.objs.size] → (s.heap.push { cls := .type "dict_valueiterator", data := .fields #[.ref d, .int 0 0, .int vs.length 0, .int ep 0] }).get? b = some o → h'.get? b = some o) → ∀ b o, s.heap.get? b = some o → h'.get? b = some o := fun h' k b o e =>
    k b o (fun z => Nat.ne_of_lt (Heap.lt_size e) (List.mem_singleton.mp z)) (Heap.get?_push_of_some _ e)
  refine ci_loop (Walks.dictValues (knd := mixKind X.prog X.w) hx1 s.heap.objs.size d hne vs ep) x (fun i => PyData.eqv (ds.getD i .none) dx) (fun h => ∀ b o, s.heap.get? b = some o → h.get? b = some o) (fun h h' k0 k b o e => k b o (fun z => Nat.ne_of_lt (Heap.lt_size e) (List.mem_singleton.mp z)) (k0 b o e)) (fun i s1 v hi hP k0 => ?_) (vs.length - 0) 0 _ rfl (Nat.zero_le _)
    ⟨⟨_, Heap.get?_push_size _ rfl, rfl, rfl⟩, hm.push _⟩ (fun b o e => Heap.get?_push_of_some _ e) (fun j hj => absurd hj (Nat.not_lt_zero _)) (fun h' tk k => ?_)
  · obtain ⟨k, ek⟩ := hP
    have hi2 : i < ds.length := by omega
    have ed : ds.getD i .none = ds[i] := by
      rw [List.getD_eq_getElem?_getD, List.getElem?_eq_getElem hi2]
      rfl
    show SeqAt.EqAt X.A.in1 s1 v x (PyData.eqv (ds.getD i .none) dx)
    rw [ed]
    have hmem : ds[i] ∈ ds := List.getElem_mem hi2
    obtain ⟨cs, rc⟩ := reads_at ds (vs.map (·.2)) bs rv i v ds[i] (by rw [List.getElem?_map, ek]; rfl) (List.getElem?_eq_getElem hi2)
    refine SeqAt.eqAt_reads _ _ _ _ _ _ cs as (Reads.keeps k0 rc) (Reads.keeps k0 rx) (sv _ hmem) (SeqAt.canLay_of_shaped sx) ?_
    show X.A.units + 1 + min (ds[i]).depth dx.depth < cLine
    omega
  · have e : ((List.range vs.length).any fun i => PyData.eqv (ds.getD i .none) dx) = ds.any fun z => PyData.eqv z dx := by
      rw [hlen]
      exact any_range (fun z => PyData.eqv z dx) .none ds
    show wpAny _ _ _ _ _ _
    rw [e]
    exact wpAny_pure (h h' tk (kept h' k))
/-- item not in d.values() -/
def tNotVals (K : PySem.W.Frag) (ty td : TE) : TE := fun σ H Q => ty σ H fun y H1 => td σ H1 fun x H2 => ∃ (a : Addr) (kvs : List (Key × V)) (d : PyData) (ds : List PyData), x = .ref a ∧ Rd H2 a (.dK kvs) ∧ Dp K H2 y d ∧ DpAll K H2 (kvs.map (·.2)) ds ∧
  SeqAt.shaped d = true ∧ d.depth ≤ 60 ∧ (∀ z ∈ ds, z.canLay0 = true) ∧ Q (.bl (!ds.any fun z => PyData.eqv z d)) H2
theorem kv_vals : ∀ {kvs : List (Key × V)} {vs : List (Key × Value)}, KV kvs vs → Vals (kvs.map (·.2)) (vs.map (·.2))
  | _, _, .nil => .nil
  | _, _, .cons r t => .cons r.2 (kv_vals t)
theorem pc_notinVals {i e : Expr} {ty td : TE} {apos cpos : Pos} (hu : X.A.units + 64 < cLine) (hi : PE X i ty) (he : PE X e td) (hc : X.calm = true := by rfl) (hbase : attributeBase e "values" X.env (eval e X.env) = eval e X.env := by rfl) (hline : (apos.endLine == cpos.line) = true := by rfl) :
    PC X .NotIn i (.Call (.Attribute e "values" apos) [] [] cpos) (tNotVals X.K ty td) := by
  refine ⟨fun pins s σ H Q I h => ?_⟩
  refine thn (hi.run pins s σ H _ I h) fun u s1 ⟨y, H1, I1, ry, q1⟩ => ?_
  refine wpAny_Call_method (T := "dict") (id := "dict.values") hbase rfl hline F.plainAttrs_dict F.slot_dict_values F.type_dict_values (thn (he.run pins s1 σ H1 _ I1 q1) fun ud s2 ⟨x, H2, I2, rx, q2⟩ => ?_)
  obtain ⟨a, kvs, d, ds, rfl, hd, hy, hv, sd, s60, sv, q2⟩ := q2
  obtain rfl : ud = Value.ref a := rx
  obtain ⟨_, hs, vs, kv, hdict⟩ := dk_rd I2.hok hd
  obtain ⟨o, es, ep, ho, hex, hdat, hks, hps, hnd⟩ := id hdict
  have hm : s2.heap.DictAt (mixKind X.prog X.w) a vs ep := ⟨o, es, ho, hex, hdat, hks, hps, hnd⟩
  refine ⟨hdict.typeIs, hdict.mapOf.noDict, ?_⟩
  have I3 : Inv X pins σ H2 { s2 with heap := s2.heap.push { cls := .type "dict_values", data := .fields #[.ref a] } } := I2.kept (t' := s2.toks) fun b ob q => Heap.get?_push_of_some _ q
  have fin : wpAny (model X.prog X.w) X.A (compareOp .NotIn u (.ref s2.heap.objs.size)) (EP X pins σ Q) X.xe { s2 with heap := s2.heap.push { cls := .type "dict_values", data := .fields #[.ref a] } } := by
    show wpAny _ _ (contains (.ref s2.heap.objs.size) u >>= _) _ _ _
    refine wpAny_bind (contains_view hu (I2.ok.hd hc) (d := a) (ds := ds) (dx := d) ⟨_, Heap.get?_push_size _ rfl, rfl, rfl⟩ (hm.push _) (Dp.reads I3 d y u hy ry) sd s60 (Dp.readsAll I3 ds _ _ hv (kv_vals kv)) sv fun h' tk k => ?_)
    exact wpAny_pure ⟨.bl _, H2, I3.kept (t' := tk) k, rfl, q2⟩
  show wpAny _ _ (callWith cpos (.builtin "dict.values") [.ref a] [] []) _ X.xe s2
  exact method_meetsIn F.slot_dict_values F.entry_dict_values rfl (PySem.evalArgs_none ⟨rfl, hdict.typeIs, F.args_dict_values_1 _, _, meets_dict_values (mixKind X.prog X.w) a hs, ⟨vs, hdict⟩, fin⟩)
end
/-! ### len(set(text)), the text's signs unlike -/
theorem subStrSet : isSubtype (.type "str") (.type "set") = pure false := by
  rw [isSubtype_type]
  kernel_rfl
theorem subStrFrz : isSubtype (.type "str") (.type "frozenset") = pure false := by
  rw [isSubtype_type]
  kernel_rfl
section
variable {prog : Program} {w : World} {A : Around} {R : Result → Shared → Prop} {I : Addr} {fp wr : List Addr} {n : Nat} {P : Nat → Value → Prop} {Sd : Nat → Heap → Prop}
/-- one text after another is put in: unlike ones -/
theorem su_loop (W : Walks prog w A.in1 I fp wr n P Sd) (S : Addr) (hSf : S ∉ fp) (val : Nat → Str) (hn : n < 1000) (hun : ∀ i j, i < j → j < n → val i ≠ val j)
    (hval : ∀ i v, P i v → ∃ t, v = .str (val i) t) :
    ∀ (k i : Nat) (s : Shared), n - i = k → i ≤ n → Sd i s.heap → s.heap.SetOf (PySem.strKind prog w) S (fun k' => (List.range i).any fun j => decide (k' = val j)) i →
      (∀ h' tk, (∀ b o, b ≠ S → b ∉ wr → s.heap.get? b = some o → h'.get? b = some o) → h'.SetOf (PySem.strKind prog w) S (fun k' => (List.range n).any fun j => decide (k' = val j)) n → R (.ok (.ret .none)) { s with heap := h', toks := tk }) →
      codeAny (model prog w) A (.builtin "set.update.loop" ⟨[.ref S, .ref I], []⟩) R s := by
  have hSw : S ∉ wr := fun h => hSf (W.sub _ h)
  intro k
  induction k with
  | zero =>
    intro i s hk hi hst hS hR
    obtain rfl : i = n := by omega
    refine codeAny_builtin PyProof.Rows.F.entry_set_update_loop ?_
    rw [Around.under_plainId PyProof.Rows.F.plain_set_update_loop _]
    show wpAny _ A.in1 (pyNext (.ref I) >>= _) _ _ s
    refine wpAny_bind (W.done s _ _ hst fun h' tk hm => ?_)
    obtain ⟨o, es, ep, t, ho, rest⟩ := hS
    exact wpAny_pure (hR h' tk (fun b o _ hb e => hm b o hb e) ⟨o, es, ep, t, hm S _ hSw ho, rest⟩)
  | succ k ih =>
    intro i s hk hi hst hS hR
    have hlt : i < n := by omega
    refine codeAny_builtin PyProof.Rows.F.entry_set_update_loop ?_
    rw [Around.under_plainId PyProof.Rows.F.plain_set_update_loop _]
    show wpAny _ A.in1 (pyNext (.ref I) >>= _) _ _ s
    refine wpAny_bind (W.item i s _ _ hlt hst fun v h1 tk hP hst1 hm => ?_)
    obtain ⟨t, rfl⟩ := hval i v hP
    have hS1 : h1.SetOf (PySem.strKind prog w) S (fun k' => (List.range i).any fun j => decide (k' = val j)) i := by
      obtain ⟨o, es, ep, tb, ho, rest⟩ := hS
      exact ⟨o, es, ep, tb, hm S _ hSw ho, rest⟩
    show wpAny _ A.in1 (holding [Value.str (val i) t] (setAdd S (.str (val i) t)) >>= _) _ _ _
    refine wpAny_bind (wpAny_holding ?_)
    unfold setAdd
    refine wpAny_holding ?_
    refine wpAny_bind ((PySem.strKind prog w).pyHash (k := val i) (strKind_is _ _ _ _) ?_)
    refine wpAny_setAddHashed_of (knd := PySem.strKind prog w) (s := { heap := h1, gens := s.gens, drawn := s.drawn, toks := tk + 1, os := s.os }) (strKind_is _ _ _ _) rfl hS1 (by unfold scanBound; omega) fun h2 hsb hS2 => ?_
    have hno : ((List.range i).any fun j => decide (val i = val j)) = false := by
      rw [List.any_eq_false]
      intro j hj e
      exact hun j i (List.mem_range.mp hj) hlt (of_decide_eq_true e).symm
    have hSi : h2.SetOf (PySem.strKind prog w) S (fun k' => (List.range (i + 1)).any fun j => decide (k' = val j)) (i + 1) := by
      refine SetOf_congr hS2 (fun k' => ?_) (by rw [hno]; rfl)
      rw [List.range_succ, List.any_append]
      simp
    have back : ∀ b o, b ≠ S → h1.get? b = some o → h2.get? b = some o := fun b o hb e => (hsb.2 b hb).trans e
    refine wpAny_pure ⟨plainId_quiet PyProof.Rows.F.plain_set_update_loop _, ih (i + 1) _ (by omega) hlt (W.frame _ _ _ hst1 fun b hb o e => back b o (fun z => hSf (by rw [← z]; exact hb)) e) hSi fun h3 tk3 k3 hS3 => ?_⟩
    exact hR h3 tk3 (fun b o h4 h5 e => k3 b o h4 h5 (back b o h4 (hm b o h5 e))) hS3
end
section
variable {prog : Program} {w : World} {A : Around} {E : Value → Shared → Prop} {s : Shared}
/-- set(x), x a text of fewer than 1000 unlike signs -/
theorem call_set_text {x : Str} {t : Tok} {Q : Value → Shared → Prop} (hh : A.handled = none) (hn : x.cps.size < 1000) (hun : ∀ i j, i < j → j < x.cps.size → x.cps.getD i 0 ≠ x.cps.getD j 0)
    (h : ∀ (h' : Heap) (tk : Nat) (S : Str → Bool), h'.SetOf (PySem.strKind prog w) s.heap.objs.size S x.cps.size → (∀ b o, s.heap.get? b = some o → h'.get? b = some o) → Q (.ref s.heap.objs.size) { s with heap := h', toks := tk }) :
    wpAny (model prog w) A (call (.type "set") [.str x t]) Q E s := by
  obtain ⟨c0, tl0, hmro0⟩ := PySem.F.called_set.mro
  have q1 := PySem.F.called_set.made
  have q2 := PySem.F.called_set.sub
  refine wpAny_call (codeAny_of_tree ?_)
  show wpAny _ _ (callAny (.type "set") _) _ _ _
  refine wpAny_pure ⟨Code.quiet_builtin _ (by decide +kernel), codeAny_builtin PySem.F.entry_type_call ?_⟩
  rw [Around.under_plain (weight_type_call_type "set" [.str x t] []) rfl]
  have q3 := PySem.F.called_set.notType
  have q4 := PySem.F.called_set.canCreate
  have q5 := PySem.F.typeCall_set_1 (.str x t)
  repeat (any_goals (first | assumption | wp_step))
  refine codeAny_mono (code_set_new_1 (.str x t) (E := E) (Q₁ := fun obj s₁ => ∃ led : Bool, obj = .ref s.heap.objs.size ∧ s₁ = { s with heap := s.heap.push { cls := .type "set", dict := none, data := .set #[] 0 (.fresh 0 0 led) } }) fun led => ⟨led, rfl, rfl⟩) fun r s₁ hr => ?_
  cases r with
  | error e => exact hr
  | ok fl =>
    cases fl with
    | ret obj =>
      obtain ⟨led, e1, e2⟩ := hr
      subst e1 e2
      have o1 : (s.heap.push { cls := .type "set", dict := none, data := .set #[] 0 (.fresh 0 0 led) }).get? s.heap.objs.size = some { cls := .type "set", dict := none, data := .set #[] 0 (.fresh 0 0 led) } := Heap.get?_push_size _ rfl
      have o2 : Shared.TypeIs { s with heap := s.heap.push { cls := .type "set", dict := none, data := .set #[] 0 (.fresh 0 0 led) } } (.ref s.heap.objs.size) "set" := ⟨_, o1, rfl⟩
      have q6 := PySem.F.called_set.init.lookup
      have q7 := PySem.F.called_set.init.bind (.ref s.heap.objs.size)
      repeat (any_goals (first | assumption | wp_step))
      refine codeAny_mono (codeAny_call_builtin (R := wants (fun r s₂ => r = .none ∧ ∃ h' tk, s₂ = { s with heap := h', toks := tk } ∧
          (∃ S, h'.SetOf (PySem.strKind prog w) s.heap.objs.size S x.cps.size) ∧ (∀ b o, s.heap.get? b = some o → h'.get? b = some o)) E) PySem.F.called_set.init.plain PySem.F.entry_set_init (check_set_init_1 o2 ?_)) fun r₂ s₂ hr₂ => ?_
      · have q8 := subStrSet
        have q9 := subStrFrz
        have q10 : (Value.type "str" == Value.type "dict") = false := by decide
        unfold Builtin.«set.__init__» noKeywords Builtin.Frozenset.updateFrom
        generalize hPI : pyIter = PI
        wp_walk
        subst hPI
        refine wpAny_pyIter_str fun ob Sd hW hst => ?_
        refine wpAny_bind (wpAny_runValue ?_)
        have h3 : A.in1.in1.in1.handled = none := by simp [hh]
        have hSf : s.heap.objs.size ∉ [(s.heap.push { cls := .type "set", dict := none, data := .set #[] 0 (.fresh 0 0 led) }).objs.size] := by
          rw [Heap.size_push]
          intro z
          exact absurd (List.mem_singleton.mp z) (Nat.ne_of_lt (Nat.lt_succ_self _))
        refine su_loop (hW _ h3) s.heap.objs.size hSf (fun i => ⟨#[x.cps.getD i 0]⟩) hn (fun i j hij hj e => hun i j hij hj ?_) (fun i v hP => ?_) (x.cps.size - 0) 0 _ rfl (Nat.zero_le _) hst ?hS0 ?hR
        · injection e with e
          have e3 : [x.cps.getD i 0] = [x.cps.getD j 0] := by
            have e4 := congrArg Array.toList e
            simpa using e4
          injection e3
        · obtain ⟨c, u, hc, e⟩ := hP
          refine ⟨u, ?_⟩
          rw [e]
          have e5 : x.cps.getD i 0 = c := by simp [Array.getD_eq_getD_getElem?, hc]
          rw [e5]
        case hS0 =>
          exact PyProof.Rows.SetOf_congr ((PyProof.Rows.setObjOf_fresh (knd := PySem.strKind prog w) led).setOf (Heap.get?_push_of_some _ o1) (by unfold scanBound; omega)) (fun _ => rfl) rfl
        case hR =>
          intro h' tk hm hS'
          show wpAny _ _ _ _ _ _
          refine wpAny_pure ?_
          show wpAny _ _ (ret Value.none) _ _ _
          refine wpAny_pure ⟨rfl, h', tk, rfl, ⟨_, hS'⟩, fun b o e => ?_⟩
          have hb : b < s.heap.objs.size := Heap.lt_size e
          refine hm b o (Nat.ne_of_lt hb) (fun z => ?_) (Heap.get?_push_of_some _ (Heap.get?_push_of_some _ e))
          have z2 := List.mem_singleton.mp z
          rw [Heap.size_push] at z2
          exact Nat.lt_irrefl _ (Nat.lt_of_lt_of_le hb (Nat.le_trans (Nat.le_succ _) (Nat.le_of_eq z2.symm)))
      · cases r₂ with
        | error e => exact hr₂
        | ok fl₂ =>
          cases fl₂ with
          | ret r =>
            obtain ⟨e1, h', tk, e2, ⟨S, hS'⟩, hk'⟩ := hr₂
            subst e1 e2
            repeat (any_goals (first | assumption | wp_step))
            exact h h' _ S hS' hk'
          | _ => exact hr₂.elim
    | _ => exact hr.elim
end
section
variable {X : Cx}
def tLenSetT (ta : TE) : TE := fun σ H Q => ta σ H fun x H1 => ∃ z : Str, x = .str z ∧ z.cps.size < 1000 ∧ (∀ i j, i < j → j < z.cps.size → z.cps.getD i 0 ≠ z.cps.getD j 0) ∧ Q (.int (z.cps.size : Nat)) H1
theorem pe_lenSetT {a : Expr} {ta : TE} {p p2 q pos : Pos} (hg : Gl X "len") (hg2 : Gl X "set") (hm : X.mg "len" = none) (hc : X.calm = true) (hm2 : X.mg "set" = none) (ha : PE X a ta)
    (na : starEach [a] X.env = (false, eval a X.env) :: starEach [] X.env := by rfl) : PE X (.Call (.Name "len" p) [.Call (.Name "set" p2) [a] [] q] [] pos) (tLenSetT ta) := by
  refine ⟨fun pins s σ H Q I h => ?_⟩
  refine Call_ (ld_blt I hg hm boot_len ?_)
  refine PyProof.Rows.callWith_builtin1 (PyProof.Rows.args_cons ?_ rfl) rfl rfl
  refine Call_ (ld_blt I hg2 hm2 boot_set ?_)
  refine PyProof.Rows.callWith_type1 (PyProof.Rows.args_cons (thn (ha.run pins s σ H _ I h) fun v s1 ⟨x, H1, I1, r1, q1⟩ => PyProof.Rows.args_nil ?_) na) na rfl
  obtain ⟨z, e, hz, hun, q1⟩ := q1
  subst e
  obtain ⟨t, e⟩ := r1
  subst e
  refine call_set_text (I1.ok.hd hc) hz hun fun h' tk S hS hk => ?_
  refine PyProof.Rows.args_nil ?_
  obtain ⟨o, es, ep, tb, ho, hex, hd, _, _, _, hf, hn⟩ := hS
  have I2 : Inv X pins σ H1 { s1 with heap := h', toks := tk } := I1.kept hk
  exact call_len_set ho hex hd hf (by rw [hn] <;> omega) ⟨.int (z.cps.size : Nat), H1, I2.tok _, ⟨_, by rw [hn]⟩, q1⟩
end
end Cb
/-! K3: more of what evaluates to what (over HandS.Evl); a def's promise by its body. -/
namespace Cb
open PySem PySem.Spec PyProof.Rows L2 Evl
open C8 (Cal Met Mak pe_c pe_mk pe_mt pe_mt0 pe_gc)
abbrev S (l : List Nat) : Str := SX.S l
/-! ### a def by its body -/
section
variable {P : Program} {w : World} {K : PySem.W.Frag} {mg : Str → Option Value} {base : Heap}
theorem cal_of {x : Str} {st : Stmt} {f : Addr} {N ps : List Str} {k : Nat} {sp : Sp} (F : ∃ fd, FunD K x x (defArgs st) (defBody st) (defScope st) [] [] f fd) (hm : mg x = some (.ref f)) (sc : FnScope N ps (defScope st))
    (hb : ∀ (kV doc pm : Value) (an : Option Addr) (cdv ct : Value) (us : List Value), us.length = ps.length → bindArgs (PySem.W.fnOf x x (defArgs st) (defBody st) (defScope st) .none kV doc pm an cdv ct) ⟨us, []⟩ = pure (ps.zip us))
    (len : ∀ vs H Q E, sp vs H Q E → vs.length = ps.length)
    (body : ∀ (f : Addr) (cdv : Value) (A : Around) (outer : List Env) (s : Shared) (H : Hp) (vs : List V) (Q : VK) (E : XK), Room k (A.deeper (envOfC x (defScope st) s.heap.objs.size f cdv)) → sp vs H Q E →
      ∃ t, PSs (cxOf CX0 P w K mg base N x (defScope st) f cdv A outer s H E).nox (defBody st) t ∧ t { nx := fun _ H' => Q .non H', rt := Q } (start N vs) H) : Cal P w K mg base (k + 1) x sp [] := by
  obtain ⟨fd, F⟩ := F
  refine ⟨f, fd, ps, [], F.ok sc len fun cdv A outer s H vs Q E hr h => ?_, hm, F.kp, F.bindsN hb, .nil⟩
  obtain ⟨t, h1, h2⟩ := body f cdv A outer s H vs Q E hr h
  exact ⟨t, h1.nox, h2⟩
theorem met_of {C : Addr} {m q : Str} {st : Stmt} {f : Addr} {N ps : List Str} {k : Nat} {sp : Sp} (c : Cls K C) (me : Meth K C m f) (F : ∃ fd, FunD K m q (defArgs st) (defBody st) (defScope st) [] [] f fd) (sc : FnScope N ps (defScope st))
    (hb : ∀ (kV doc pm : Value) (an : Option Addr) (cdv ct : Value) (us : List Value), us.length = ps.length → bindArgs (PySem.W.fnOf m q (defArgs st) (defBody st) (defScope st) .none kV doc pm an cdv ct) ⟨us, []⟩ = pure (ps.zip us))
    (len : ∀ vs H Q E, sp vs H Q E → vs.length = ps.length)
    (body : ∀ (f : Addr) (cdv : Value) (A : Around) (outer : List Env) (s : Shared) (H : Hp) (vs : List V) (Q : VK) (E : XK), Room k (A.deeper (envOfC q (defScope st) s.heap.objs.size f cdv)) → sp vs H Q E →
      ∃ t, PSs (cxOf CX0 P w K mg base N q (defScope st) f cdv A outer s H E).nox (defBody st) t ∧ t { nx := fun _ H' => Q .non H', rt := Q } (start N vs) H) : Met P w K mg base (k + 1) C m sp [] := by
  obtain ⟨fd, F⟩ := F
  refine ⟨f, fd, ps, [], c, me, F.ok sc len fun cdv A outer s H vs Q E hr h => ?_, F.bindsN hb, .nil⟩
  obtain ⟨t, h1, h2⟩ := body f cdv A outer s H vs Q E hr h
  exact ⟨t, h1.nox, h2⟩
theorem mak_of {C : Addr} {x q : Str} {st : Stmt} {f : Addr} {N ps : List Str} {k : Nat} {sp : Sp} (M : Mk K C f) (hm : mg x = some (.ref C)) (F : ∃ fd, FunD K "__init__" q (defArgs st) (defBody st) (defScope st) [] [] f fd) (sc : FnScope N ps (defScope st))
    (hb : ∀ (kV doc pm : Value) (an : Option Addr) (cdv ct : Value) (us : List Value), us.length = ps.length → bindArgs (PySem.W.fnOf "__init__" q (defArgs st) (defBody st) (defScope st) .none kV doc pm an cdv ct) ⟨us, []⟩ = pure (ps.zip us))
    (len : ∀ vs H Q E, sp vs H Q E → vs.length = ps.length)
    (body : ∀ (f : Addr) (cdv : Value) (A : Around) (outer : List Env) (s : Shared) (H : Hp) (vs : List V) (Q : VK) (E : XK), Room k (A.deeper (envOfC q (defScope st) s.heap.objs.size f cdv)) → sp vs H Q E →
      ∃ t, PSs (cxOf CX0 P w K mg base N q (defScope st) f cdv A outer s H E).nox (defBody st) t ∧ t { nx := fun _ H' => Q .non H', rt := Q } (start N vs) H) : Mak P w K mg base (k + 1) x C sp [] := by
  obtain ⟨fd, F⟩ := F
  refine ⟨f, fd, ps, [], M, F.ok sc len fun cdv A outer s H vs Q E hr h => ?_, hm, F.bindsN hb, .nil⟩
  obtain ⟨t, h1, h2⟩ := body f cdv A outer s H vs Q E hr h
  exact ⟨t, h1.nox, h2⟩
end
/-! ### cuts -/
def cutG {α : Type} (l : List α) (lo hi : Option Int) : List α := (l.drop (HT.sIx l.length 0 lo)).take (HT.sIx l.length l.length hi - HT.sIx l.length 0 lo)
theorem cutG_to {α : Type} (l : List α) (k : Nat) : cutG l none (some (k : Int)) = l.take k := by
  unfold cutG
  rw [HT.sIx_nat, HT.sIx_none, List.drop_zero, Nat.sub_zero]
  rcases Nat.le_total k l.length with h | h
  · rw [Nat.min_eq_left h]
  · rw [Nat.min_eq_right h, List.take_of_length_le (Nat.le_refl _), List.take_of_length_le h]
theorem cutG_from {α : Type} (l : List α) (k : Nat) : cutG l (some (k : Int)) none = l.drop k := by
  unfold cutG
  rw [HT.sIx_nat, HT.sIx_none]
  rcases Nat.le_total k l.length with h | h
  · rw [Nat.min_eq_left h]
    exact List.take_of_length_le (by rw [List.length_drop]; exact Nat.le_refl _)
  · rw [Nat.min_eq_right h, List.drop_length, List.take_nil, List.drop_of_length_le h]
theorem cutG_mid {α : Type} (l : List α) (i j : Nat) (h : i ≤ j) (hj : j ≤ l.length) : cutG l (some (i : Int)) (some (j : Int)) = (l.drop i).take (j - i) := by
  unfold cutG
  rw [HT.sIx_nat, HT.sIx_nat, Nat.min_eq_left hj, Nat.min_eq_left (Nat.le_trans h hj)]
theorem cutG_last {α : Type} (l : List α) : cutG l none (some (-1)) = l.dropLast := by
  unfold cutG
  rw [HT.sIx_none, List.drop_zero, Nat.sub_zero]
  have e : HT.sIx l.length l.length (some (-1)) = l.length - 1 := by
    show (if (-1 : Int) < 0 then ((-1 : Int) + (l.length : Int)).toNat else min (-1 : Int).toNat l.length) = l.length - 1
    rw [if_pos (by decide)]
    omega
  rw [e, List.dropLast_eq_take]
theorem cutV_map {α : Type} (f : α → V) (l : List α) (lo hi : Option Int) : cutV (l.map f) lo hi = (cutG l lo hi).map f := by
  unfold cutV cutG
  rw [List.length_map, List.map_take, List.map_drop]
theorem cutS_S (l : List Nat) (lo hi : Option Int) : cutS (S l) lo hi = S (cutG l lo hi) := by
  have e : (S l).length = l.length := SX.S_len l
  unfold cutS cutG
  rw [e]
theorem getD_at {α : Type} {l : List α} {k : Nat} {d : α} (h : k < l.length) : l[k]? = some (l.getD k d) := by
  rw [List.getD_eq_getElem?_getD, List.getElem?_eq_getElem h]
  rfl
theorem atG {α : Type} {l : List α} {z : Int} {j : Nat} {v : α} (e : z = (j : Int)) (h : l[j]? = some v) : atI l z = some v := by
  rw [e]
  exact atI_nat h
theorem atD {α : Type} {l : List α} {z : Int} {j : Nat} (d : α) (e : z = (j : Int)) (h : j < l.length) : atI l z = some (l.getD j d) := atG e (getD_at h)
/-! ### expressions -/
section
variable {K : PySem.W.Frag} {σ : L2.St} {H H' : Hp} {ta tb te : TE} {t u : TT} {x y z v : V} {a C dx : Addr} {fs : List (Str × V)} {f m : Str}
theorem ev_fld (ha : Ev ta σ H (.ref a)) (ho : H a = some (.ins C dx fs)) (c : Cls K C) (n : NoAttr K C f) (hl : fs.lookup f = some v) : Ev (tFld K ta f) σ H v := fun H1 e Q q =>
  ha H1 e _ fun H2 e2 => ⟨a, C, dx, fs, v, rfl, e2 a _ (e a _ ho), c, n, hl, q H2 e2⟩
theorem rv_mod {i j : Int} (h : 0 < j) : RV (rI (fun _ j => 0 < j) fun i j => .int (i % j)) (.int i) (.int j) H (.int (i % j)) := rv_I (C := fun _ j => 0 < j) (g := fun i j => .int (i % j)) h
theorem rv_addS {p q : List Nat} (h : p.length + q.length ≤ 100000) : RV (fun x y H Q => ∃ i j, x = .str i ∧ y = .str j ∧ i.length + j.length ≤ sizeLine ∧ Q (.str (i ++ j)) H) (.str (S p)) (.str (S q)) H (.str (S (p ++ q))) := fun H1 _ Q k =>
  ⟨S p, S q, rfl, rfl, sz_of (by rw [SX.S_len, SX.S_len]; exact h), by rw [SX.S_cat]; exact k H1 (Ex.refl H1)⟩
theorem rv_ixSS {l : List Nat} {i : Int} {c : Nat} (h : l.length ≤ 100000) (ha : atI l i = some c) : RV rIxS (.str (S l)) (.int i) H (.str (S [c])) := rv_ixS (by rw [SX.S_len]; exact h) ha
theorem rv_inS {c : Nat} {l : List Nat} : RV (fun x y H Q => ∃ (c : Nat) (z : Str), x = .str ⟨#[c]⟩ ∧ y = .str z ∧ Q (.bl (decide (c ∈ z.cps.toList))) H) (.str (S [c])) (.str (S l)) H (.bl (decide (c ∈ l))) := fun H1 _ Q k =>
  ⟨c, S l, rfl, rfl, k H1 (Ex.refl H1)⟩
theorem rv_isN : RV (fun x y H Q => y = .non ∧ Q (.bl (decide (x = .non))) H) x .non H (.bl (decide (x = .non))) := fun H1 _ Q k => ⟨rfl, k H1 (Ex.refl H1)⟩
theorem rv_notN : RV (fun x y H Q => y = .non ∧ Q (.bl (!decide (x = .non))) H) x .non H (.bl (!decide (x = .non))) := fun H1 _ Q k => ⟨rfl, k H1 (Ex.refl H1)⟩
theorem ev_chain {r r' : R2} {tc : TE} {b1 b2 : Bool} (ha : Ev ta σ H x) (hb : Ev tb σ H y) (hr : RV r x y H (.bl b1)) (hc : b1 = true → Ev tc σ H z) (hr' : b1 = true → RV r' y z H (.bl b2)) : Ev (tChain r r' ta tb tc) σ H (.bl (b1 && b2)) := fun H1 e Q q =>
  ha H1 e _ fun H2 e2 => hb H2 (e.trans e2) _ fun H3 e3 => hr H3 ((e.trans e2).trans e3) _ fun H4 e4 => ⟨b1, rfl, by
    cases b1 with
    | true =>
      show tc σ H4 _
      exact hc rfl H4 (((e.trans e2).trans e3).trans e4) _ fun H5 e5 => hr' rfl H5 ((((e.trans e2).trans e3).trans e4).trans e5) _ fun H6 e6 => q H6 ((((e2.trans e3).trans e4).trans e5).trans e6)
    | false =>
      show Q (.bl false) H4
      exact q H4 ((e2.trans e3).trans e4)⟩
theorem ev_slS {tl th : TO} {l : List Nat} {lo hi : Option Int} (h : Ev te σ H (.str (S l))) (h1 : EvO tl σ H lo) (h2 : EvO th σ H hi) (hz : l.length ≤ 100000) : Ev (tSl rSlS te tl th) σ H (.str (S (cutG l lo hi))) := fun H1 e _ q =>
  h H1 e _ fun H2 e2 => h1 H2 (e.trans e2) _ fun H3 e3 => h2 H3 ((e.trans e2).trans e3) _ fun H4 e4 =>
    ⟨S l, rfl, sz_of (by rw [SX.S_len]; exact hz), by rw [cutS_S]; exact q H4 ((e2.trans e3).trans e4)⟩
theorem ev_lenStr {l : List Nat} (ha : Ev ta σ H (.str (S l))) (hz : l.length ≤ 100000) : Ev (tCB (fun xs H Q => ∃ z, xs = [.str z] ∧ z.length ≤ sizeLine ∧ Q (.int z.length) H) (tCons ta tNil)) σ H (.int (l.length : Int)) := fun H1 e Q q =>
  ha H1 e _ fun H2 e2 => ⟨S l, rfl, sz_of (by rw [SX.S_len]; exact hz), by rw [SX.S_len]; exact q H2 e2⟩
theorem ev_meth {sp : Sp} {dvs vs : List V} {E : XK} {t : TA} (ha : Ev ta σ H (.ref a)) (ho : H a = some (.ins C dx fs)) (hl : fs.lookup m = none) (h : EvA t σ H vs) (hs : SpV sp (.ref a :: (vs ++ dvs)) H z) : Ev (tMeth C m sp dvs E ta t) σ H z := fun H1 e Q q =>
  ha H1 e _ fun H2 e2 => ⟨a, dx, fs, rfl, e2 a _ (e a _ ho), hl, h H2 (e.trans e2) _ fun H3 e3 => hs H3 ((e.trans e2).trans e3) Q (fun H4 e4 => q H4 ((e2.trans e3).trans e4)) E⟩
theorem el_meth {sp : Sp} {dvs vs xs : List V} {E : XK} {t : TA} (ha : Ev ta σ H (.ref a)) (ho : H a = some (.ins C dx fs)) (hl : fs.lookup m = none) (h : EvA t σ H vs) (hs : SpL sp (.ref a :: (vs ++ dvs)) H xs) : EvL (tMeth C m sp dvs E ta t) σ H xs := fun H1 e Q q =>
  ha H1 e _ fun H2 e2 => ⟨a, dx, fs, rfl, e2 a _ (e a _ ho), hl, h H2 (e.trans e2) _ fun H3 e3 => hs H3 ((e.trans e2).trans e3) Q (fun p H4 hp e4 h4 => q p H4 (fresh_back (e2.trans e3) hp) ((e2.trans e3).trans e4) h4) E⟩
/-! ### what evaluates to something of which R holds -/
def EvR (te : TE) (σ : L2.St) (H : Hp) (R : V → Hp → Prop) : Prop := ∀ H1, Ex H H1 → ∀ Q : VK, (∀ v H2, Ex H1 H2 → R v H2 → Q v H2) → te σ H1 Q
def SpR (sp : Sp) (vs : List V) (H : Hp) (R : V → Hp → Prop) : Prop := ∀ H1, Ex H H1 → ∀ Q : VK, (∀ v H2, Ex H1 H2 → R v H2 → Q v H2) → ∀ E : XK, sp vs H1 Q E
def EvAR (ta : TA) (σ : L2.St) (H : Hp) (R : List V → Hp → Prop) : Prop := ∀ H1, Ex H H1 → ∀ Q : List V → Hp → Prop, (∀ vs H2, Ex H1 H2 → R vs H2 → Q vs H2) → ta σ H1 Q
theorem Ev.r (h : Ev te σ H v) : EvR te σ H (fun y _ => y = v) := fun H1 e Q q => h H1 e Q fun H2 e2 => q v H2 e2 rfl
theorem EvR.val (h : EvR te σ H (fun y _ => y = v)) : Ev te σ H v := fun H1 e Q q => h H1 e Q fun y H2 e2 r => by
  rw [r]
  exact q H2 e2
theorem EvL.r {xs : List V} (h : EvL te σ H xs) : EvR te σ H (fun y H2 => ∃ p, y = .ref p ∧ H2 p = some (.lst xs)) := fun H1 e Q q => h H1 e Q fun p H2 _ e2 hp => q _ H2 e2 ⟨p, rfl, hp⟩
theorem EvU.r {xs : List V} (h : EvU te σ H xs) : EvR te σ H (fun y H2 => ∃ p, y = .ref p ∧ H2 p = some (.tup xs)) := fun H1 e Q q => h H1 e Q fun p H2 _ e2 hp => q _ H2 e2 ⟨p, rfl, hp⟩
theorem EvR.mono {R : V → Hp → Prop} (e : Ex H H') (h : EvR te σ H R) : EvR te σ H' R := fun H1 a Q q => h H1 (e.trans a) Q q
theorem EvR.imp {R R' : V → Hp → Prop} (h : EvR te σ H R) (k : ∀ y H2, Ex H H2 → R y H2 → R' y H2) : EvR te σ H R' := fun H1 e Q q => h H1 e Q fun y H2 e2 r => q y H2 e2 (k y H2 (e.trans e2) r)
theorem evr_call {sp : Sp} {dvs : List V} {E : XK} {ta : TA} {RA : List V → Hp → Prop} {R : V → Hp → Prop} (h : EvAR ta σ H RA) (hs : ∀ vs H1, Ex H H1 → RA vs H1 → SpR sp (vs ++ dvs) H1 R) : EvR (tCall sp dvs E ta) σ H R := fun H1 e Q q =>
  h H1 e _ fun vs H2 e2 r => hs vs H2 (e.trans e2) r H2 (Ex.refl H2) Q (fun y H3 e3 r3 => q y H3 (e2.trans e3) r3) E
theorem evr_callA {sp : Sp} {dvs vs : List V} {E : XK} {ta : TA} {R : V → Hp → Prop} (h : EvA ta σ H vs) (hs : SpR sp (vs ++ dvs) H R) : EvR (tCall sp dvs E ta) σ H R := fun H1 e Q q =>
  h H1 e _ fun H2 e2 => hs H2 (e.trans e2) Q (fun y H3 e3 r3 => q y H3 (e2.trans e3) r3) E
theorem evr_meth {sp : Sp} {dvs vs : List V} {E : XK} {t : TA} {R : V → Hp → Prop} (ha : Ev ta σ H (.ref a)) (ho : H a = some (.ins C dx fs)) (hl : fs.lookup m = none) (h : EvA t σ H vs) (hs : SpR sp (.ref a :: (vs ++ dvs)) H R) : EvR (tMeth C m sp dvs E ta t) σ H R := fun H1 e Q q =>
  ha H1 e _ fun H2 e2 => ⟨a, dx, fs, rfl, e2 a _ (e a _ ho), hl, h H2 (e.trans e2) _ fun H3 e3 => hs H3 ((e.trans e2).trans e3) Q (fun y H4 e4 r => q y H4 ((e2.trans e3).trans e4) r) E⟩
theorem ear_nil : EvAR tNil σ H (fun vs _ => vs = []) := fun H1 _ _ q => q [] H1 (Ex.refl H1) rfl
/-- the next argument, whatever R tells of it; RS: what is told of all, given it -/
theorem ear_cons {tr : TA} {R : V → Hp → Prop} {RS : List V → Hp → Prop} (h : EvR te σ H R) (hr : ∀ y H1, Ex H H1 → R y H1 → EvAR tr σ H1 (fun vs H2 => RS (y :: vs) H2)) : EvAR (tCons te tr) σ H RS := fun H1 e _ q =>
  h H1 e _ fun y H2 e2 r => hr y H2 (e.trans e2) r H2 (Ex.refl H2) _ fun vs H3 e3 r3 => q (y :: vs) H3 (e2.trans e3) r3
theorem EvA.r {ta : TA} {vs : List V} (h : EvA ta σ H vs) : EvAR ta σ H (fun us _ => us = vs) := fun H1 e Q q => h H1 e Q fun H2 e2 => q vs H2 e2 rfl
theorem EvAR.imp {ta : TA} {R R' : List V → Hp → Prop} (h : EvAR ta σ H R) (k : ∀ y H2, Ex H H2 → R y H2 → R' y H2) : EvAR ta σ H R' := fun H1 e Q q => h H1 e Q fun y H2 e2 r => q y H2 e2 (k y H2 (e.trans e2) r)
/-- an operator on what is only told of -/
theorem evr_op {r : R2} {R1 R2' R : V → Hp → Prop} (ha : EvR ta σ H R1) (hb : ∀ y H1, Ex H H1 → R1 y H1 → EvR tb σ H1 (fun z H2 => R2' z H2 ∧ ∀ Q : VK, (∀ w H3, Ex H2 H3 → R w H3 → Q w H3) → r y z H2 Q)) : EvR (tOp r ta tb) σ H R := fun H1 e Q q =>
  ha H1 e _ fun y H2 e2 r1 => hb y H2 (e.trans e2) r1 H2 (Ex.refl H2) _ fun z H3 e3 r2 => r2.2 Q fun w H4 e4 r4 => q w H4 ((e2.trans e3).trans e4) r4
theorem ea_is {ta : TA} {vs us : List V} (h : EvA ta σ H vs) (e : vs = us) : EvA ta σ H us := e ▸ h
/-! ### statements -/
variable {D : Ends} {tz : TS} {g : TG}
theorem s_asgR {i : Nat} {R : V → Hp → Prop} (h : EvR te σ H R) (k : ∀ v H1, Ex H H1 → R v H1 → D.nx (σ.set i (some v)) H1) : tAsg te (gName i) D σ H := h H (Ex.refl H) _ fun v H1 e r => k v H1 e r
theorem q_asgR {i : Nat} {R : V → Hp → Prop} (h : EvR te σ H R) (k : ∀ v H1, Ex H H1 → R v H1 → tz D (σ.set i (some v)) H1) : tSeq (tAsg te (gName i)) tz D σ H := s_asgR (D := { D with nx := tz D }) h k
theorem s_retR {R : V → Hp → Prop} (h : EvR te σ H R) (k : ∀ v H1, Ex H H1 → R v H1 → D.rt v H1) : tRet te D σ H := h H (Ex.refl H) _ fun v H1 e r => k v H1 e r
theorem s_dropR {R : V → Hp → Prop} (h : EvR te σ H R) (k : ∀ v H1, Ex H H1 → R v H1 → D.nx σ H1) : tDrop te D σ H := h H (Ex.refl H) _ fun v H1 e r => k v H1 e r
theorem q_dropR {R : V → Hp → Prop} (h : EvR te σ H R) (k : ∀ v H1, Ex H H1 → R v H1 → tz D σ H1) : tSeq (tDrop te) tz D σ H := s_dropR (D := { D with nx := tz D }) h k
/-- an if without else whose way does not come back or is not taken: b = false -/
theorem q_skip {tu : TS} (h : EvT t σ H false) (k : ∀ H1, Ex H H1 → tz D σ H1) : tSeq (tIfS t tu tNext) tz D σ H := q_when h (fun z => Bool.noConfusion z) fun _ => k
theorem s_skip {tu : TS} (h : EvT t σ H false) (k : ∀ H1, Ex H H1 → D.nx σ H1) : tIfS t tu tNext D σ H := s_when h (fun z => Bool.noConfusion z) fun _ => k
/-- a, b = a tuple at p -/
theorem q_unpack {i j : Nat} {R : V → Hp → Prop} {Rt : V → V → Hp → Prop} (h : EvR te σ H R) (hR : ∀ v H1, R v H1 → ∃ p y1 y2, v = .ref p ∧ SqT K H1 p [y1, y2] ∧ Rt y1 y2 H1) (k : ∀ y1 y2 H1, Ex H H1 → Rt y1 y2 H1 → tz D ((σ.set i (some y1)).set j (some y2)) H1) :
    tSeq (tAsg te (gTup K 2 (gCons (gName i) (gCons (gName j) gNil)))) tz D σ H := h H (Ex.refl H) _ fun v H1 e r => by
  obtain ⟨p, y1, y2, rfl, hp, rt⟩ := hR v H1 r
  exact ⟨p, [y1, y2], rfl, hp, rfl, y1, [y2], rfl, y2, [], rfl, rfl, k y1 y2 H1 e rt⟩
end
end Cb
/-! KM: the mathematics of codes, in plain Lean. -/
namespace Cb
/-- an alphabet (signs), weights, a rest -/
structure Cd where
  al : List Nat
  ws : List Int
  rs : Int
abbrev Cd.m (c : Cd) : Nat := c.al.length
abbrev Cd.n (c : Cd) : Nat := c.ws.length
/-- a sign's place -/
abbrev Cd.ix (c : Cd) (a : Nat) : Nat := c.al.idxOf a
def sumP (ws ps : List Int) : Int := (List.zipWith (· * ·) ws ps).sum
def Safe (m : Nat) (ws : List Int) : Prop :=
  (∀ (i : Nat) (a : Int), ws[i]? = some a → Int.gcd a m = 1) ∧ ∀ (i : Nat) (a b : Int), ws[i]? = some a → ws[i + 1]? = some b → Int.gcd (a - b) m = 1
structure CdOk (c : Cd) : Prop where
  m5 : 5 ≤ c.al.length
  m25 : c.al.length ≤ 25
  nd : c.al.Nodup
  az : ∀ a ∈ c.al, 97 ≤ a ∧ a ≤ 122
  n3 : 3 ≤ c.ws.length
  n5 : c.ws.length ≤ 5
  rng : ∀ a ∈ c.ws, 0 ≤ a ∧ a < (c.al.length : Int)
  safe : Safe c.al.length c.ws
  rs0 : 0 ≤ c.rs
  rsm : c.rs < (c.al.length : Int)
def IsWord (c : Cd) (w : List Nat) : Prop := w.length = c.ws.length ∧ ∀ a ∈ w, a ∈ c.al
/-- a word's places -/
def plc (c : Cd) (w : List Nat) : List Int := w.map fun a => ((c.al.idxOf a : Nat) : Int)
def goodB (c : Cd) (w : List Nat) : Bool := decide ((sumP c.ws (plc c w) - c.rs) % (c.al.length : Int) = 0)
/-! ### sums -/
theorem sumP_nil (ws : List Int) : sumP ws [] = 0 := by
  cases ws <;> rfl
theorem sumP_cons (a : Int) (ws : List Int) (p : Int) (ps : List Int) : sumP (a :: ws) (p :: ps) = a * p + sumP ws ps := by
  unfold sumP
  rw [List.zipWith_cons_cons, List.sum_cons]
theorem sumP_set : ∀ (ws ps : List Int) (k : Nat) (a p q : Int), ws[k]? = some a → ps[k]? = some p → sumP ws (ps.set k q) = sumP ws ps + a * (q - p)
  | [], _, _, _, _, _, h, _ => by simp at h
  | _ :: _, [], _, _, _, _, _, h => by simp at h
  | b :: ws, r :: ps, 0, a, p, q, h1, h2 => by
    simp at h1 h2
    subst h1 h2
    rw [List.set_cons_zero, sumP_cons, sumP_cons, Int.mul_sub]
    omega
  | b :: ws, r :: ps, k + 1, a, p, q, h1, h2 => by
    rw [List.set_cons_succ, sumP_cons, sumP_cons, sumP_set ws ps k a p q (by simpa using h1) (by simpa using h2)]
    omega
theorem sumP_snoc : ∀ (ws ps : List Int) (a p : Int), ps.length = ws.length → sumP (ws ++ [a]) (ps ++ [p]) = sumP ws ps + a * p
  | [], [], a, p, _ => by
    rw [List.nil_append, List.nil_append, sumP_cons, sumP_nil]
    omega
  | [], _ :: _, _, _, h => by simp at h
  | _ :: _, [], _, _, h => by simp at h
  | b :: ws, r :: ps, a, p, h => by
    rw [List.cons_append, List.cons_append, sumP_cons, sumP_cons, sumP_snoc ws ps a p (by simpa using h)]
    omega
theorem sumP_prefix : ∀ (ws qs ps : List Int), ps.length ≤ ws.length → sumP (ws ++ qs) ps = sumP ws ps
  | [], qs, [], _ => by rw [sumP_nil, sumP_nil]
  | [], _, _ :: _, h => by simp at h
  | b :: ws, qs, [], _ => by rw [sumP_nil, sumP_nil]
  | b :: ws, qs, r :: ps, h => by
    rw [List.cons_append, sumP_cons, sumP_cons, sumP_prefix ws qs ps (by simpa using h)]
/-! ### no fault goes by -/
theorem dvd_cancel {a d : Int} {m : Nat} (h : Int.gcd a m = 1) (hd : (m : Int) ∣ a * d) : (m : Int) ∣ d := by
  have h1 : m ∣ a.natAbs * d.natAbs := by
    rw [← Int.natAbs_mul]
    exact Int.ofNat_dvd_left.mp hd
  have h2 : Nat.Coprime m a.natAbs := by
    have e : Nat.gcd a.natAbs m = 1 := h
    exact (Nat.gcd_comm _ _).trans e
  exact Int.ofNat_dvd_left.mpr (h2.dvd_of_dvd_mul_left h1)
theorem not_small {d : Int} {m : Nat} (hd : (m : Int) ∣ d) (h1 : -(m : Int) < d) (h2 : d < m) : d = 0 := by
  obtain ⟨k, rfl⟩ := hd
  have : k = 0 := by
    rcases Int.lt_trichotomy k 0 with h | h | h
    · have : (m : Int) * k ≤ (m : Int) * (-1) := Int.mul_le_mul_of_nonneg_left (by omega) (by omega)
      omega
    · exact h
    · have : (m : Int) * 1 ≤ (m : Int) * k := Int.mul_le_mul_of_nonneg_left (by omega) (by omega)
      omega
  rw [this, Int.mul_zero]
/-- one place changed: no longer right -/
theorem changed_bad {ws ps : List Int} {m : Nat} {rs : Int} {k : Nat} {a p q : Int} (ha : ws[k]? = some a) (hp : ps[k]? = some p) (hg : Int.gcd a m = 1) (h0 : (sumP ws ps - rs) % (m : Int) = 0) (hq : 0 ≤ q ∧ q < m) (hp0 : 0 ≤ p ∧ p < m) (hne : q ≠ p) :
    (sumP ws (ps.set k q) - rs) % (m : Int) ≠ 0 := by
  intro h1
  rw [sumP_set ws ps k a p q ha hp] at h1
  have d1 := Int.dvd_of_emod_eq_zero h0
  have d2 := Int.dvd_of_emod_eq_zero h1
  have d3 : (m : Int) ∣ a * (q - p) := by
    have := Int.dvd_sub d2 d1
    rw [show sumP ws ps + a * (q - p) - rs - (sumP ws ps - rs) = a * (q - p) by omega] at this
    exact this
  have := not_small (dvd_cancel hg d3) (by omega) (by omega)
  omega
/-- two neighbours exchanged -/
theorem swapped_bad {ws ps : List Int} {m : Nat} {rs : Int} {k : Nat} {a b p q : Int} (ha : ws[k]? = some a) (hb : ws[k + 1]? = some b) (hp : ps[k]? = some p) (hq : ps[k + 1]? = some q) (hg : Int.gcd (a - b) m = 1) (h0 : (sumP ws ps - rs) % (m : Int) = 0)
    (hq0 : 0 ≤ q ∧ q < m) (hp0 : 0 ≤ p ∧ p < m) (hne : q ≠ p) : (sumP ws ((ps.set k q).set (k + 1) p) - rs) % (m : Int) ≠ 0 := by
  intro h1
  have hq' : (ps.set k q)[k + 1]? = some q := by rw [List.getElem?_set_ne (by omega)]; exact hq
  rw [sumP_set ws _ (k + 1) b q p hb hq', sumP_set ws ps k a p q ha hp] at h1
  have d1 := Int.dvd_of_emod_eq_zero h0
  have d2 := Int.dvd_of_emod_eq_zero h1
  have d3 : (m : Int) ∣ (a - b) * (q - p) := by
    have := Int.dvd_sub d2 d1
    have e : sumP ws ps + a * (q - p) + b * (p - q) - rs - (sumP ws ps - rs) = (a - b) * (q - p) := by
      rw [Int.sub_mul]
      have e2 : b * (p - q) = -(b * (q - p)) := by rw [← Int.mul_neg, Int.neg_sub]
      omega
    rw [e] at this
    exact this
  have := not_small (dvd_cancel hg d3) (by omega) (by omega)
  omega
/-! ### good words by numbers -/
def manyN (c : Cd) : Nat := c.al.length ^ (c.ws.length - 1)
/-- the t last figures of k, the greatest first -/
def digs (m : Nat) : Nat → Nat → List Int
  | 0, _ => []
  | t + 1, k => ((k / m ^ t % m : Nat) : Int) :: digs m t k
theorem digs_length (m : Nat) : ∀ t k, (digs m t k).length = t
  | 0, _ => rfl
  | t + 1, k => by
    show (digs m t k).length + 1 = t + 1
    rw [digs_length m t k]
theorem digs_rng {m : Nat} (hm : 0 < m) : ∀ (t k : Nat), ∀ d ∈ digs m t k, 0 ≤ d ∧ d < (m : Int)
  | 0, _, d, h => by cases h
  | t + 1, k, d, h => by
    rcases List.mem_cons.mp h with rfl | h
    · have := Nat.mod_lt (k / m ^ t) hm
      omega
    · exact digs_rng hm t k d h
/-- reading figures -/
def undig (m : Nat) (z : Int) (ds : List Int) : Int := ds.foldl (fun a d => a * (m : Int) + d) z
theorem undig_digs {m : Nat} (hm : 0 < m) (k : Nat) : ∀ t : Nat, undig m ((k / m ^ t : Nat) : Int) (digs m t k) = (k : Int)
  | 0 => by
    show ((k / m ^ 0 : Nat) : Int) = (k : Int)
    rw [Nat.pow_zero, Nat.div_one]
  | t + 1 => by
    have ih := undig_digs hm k t
    show undig m (((k / m ^ (t + 1) : Nat) : Int) * (m : Int) + ((k / m ^ t % m : Nat) : Int)) (digs m t k) = (k : Int)
    have e : ((k / m ^ (t + 1) : Nat) : Int) * (m : Int) + ((k / m ^ t % m : Nat) : Int) = ((k / m ^ t : Nat) : Int) := by
      rw [Nat.pow_succ, ← Nat.div_div_eq_div_mul, ← Int.natCast_mul, ← Int.natCast_add, Nat.mul_comm, Nat.div_add_mod]
    rw [e]
    exact ih
/-- the last place of a good word: there is one -/
def lasts (c : Cd) (left : Int) : List Int := ((List.range c.al.length).map fun p => ((p : Nat) : Int)).filter fun p => decide ((left - c.ws.getD (c.ws.length - 1) 0 * p) % (c.al.length : Int) = 0)
def lastP (c : Cd) (left : Int) : Int := (lasts c left).headD 0
theorem inv_small : ∀ m : Fin 26, ∀ a : Fin 26, 1 < m.val → Nat.gcd a.val m.val = 1 → ∃ p : Fin 26, a.val * p.val % m.val = 1 := by decide +kernel
theorem exists_last {c : Cd} (ok : CdOk c) (left : Int) : ∃ p : Nat, p < c.al.length ∧ (left - c.ws.getD (c.ws.length - 1) 0 * (p : Int)) % (c.al.length : Int) = 0 := by
  have hm : 5 ≤ c.al.length := ok.m5
  have hm2 := ok.m25
  have hn := ok.n3
  generalize hw : c.ws.getD (c.ws.length - 1) 0 = a
  have ha : c.ws[c.ws.length - 1]? = some a := by
    rw [List.getElem?_eq_getElem (by omega), ← hw, List.getD_eq_getElem?_getD, List.getElem?_eq_getElem (by omega)]
    rfl
  have hg := ok.safe.1 _ _ ha
  obtain ⟨h0, h1⟩ := ok.rng a (List.mem_of_getElem? ha)
  obtain ⟨b, rfl⟩ : ∃ b : Nat, a = (b : Int) := ⟨a.toNat, by omega⟩
  obtain ⟨p, hp⟩ := inv_small ⟨c.al.length, by omega⟩ ⟨b, by omega⟩ (by show 1 < c.al.length; omega) hg
  have hp : b * p.val % c.al.length = 1 := hp
  refine ⟨(left * (p.val : Int) % (c.al.length : Int)).toNat, ?_, ?_⟩
  · have h2 := Int.emod_nonneg (left * (p.val : Int)) (show (c.al.length : Int) ≠ 0 by omega)
    have h3 := Int.emod_lt_of_pos (left * (p.val : Int)) (show (0 : Int) < (c.al.length : Int) by omega)
    omega
  · have h2 := Int.emod_nonneg (left * (p.val : Int)) (show (c.al.length : Int) ≠ 0 by omega)
    rw [Int.toNat_of_nonneg h2]
    refine Int.emod_eq_zero_of_dvd ?_
    -- b p = 1 + m u; left p = r + m v
    obtain ⟨u, hu⟩ : ∃ u : Int, (b : Int) * (p.val : Int) = 1 + (c.al.length : Int) * u := ⟨((b * p.val / c.al.length : Nat) : Int), by
      have h5 := Nat.mod_add_div (b * p.val) c.al.length
      rw [hp] at h5
      have h6 := congrArg (fun z : Nat => (z : Int)) h5
      simp only [Int.natCast_add, Int.natCast_mul] at h6
      exact h6.symm⟩
    have hv := Int.emod_add_mul_ediv (left * (p.val : Int)) (c.al.length : Int)
    generalize hr : left * (p.val : Int) % (c.al.length : Int) = r at hv ⊢
    generalize left * (p.val : Int) / (c.al.length : Int) = v at hv
    refine ⟨-(left * u) + (b : Int) * v, ?_⟩
    have e : (b : Int) * r = (b : Int) * (left * (p.val : Int)) - (b : Int) * ((c.al.length : Int) * v) := by
      rw [← hv, Int.mul_add]
      omega
    have e2 : (b : Int) * (left * (p.val : Int)) = left + left * ((c.al.length : Int) * u) := by
      rw [Int.mul_left_comm, hu, Int.mul_add, Int.mul_one]
    rw [e, e2, Int.mul_add, Int.mul_neg]
    have e3 : left * ((c.al.length : Int) * u) = (c.al.length : Int) * (left * u) := Int.mul_left_comm _ _ _
    have e4 : (b : Int) * ((c.al.length : Int) * v) = (c.al.length : Int) * ((b : Int) * v) := Int.mul_left_comm _ _ _
    omega
theorem lasts_ne {c : Cd} (ok : CdOk c) (left : Int) : ∃ p r, lasts c left = p :: r ∧ 0 ≤ p ∧ p < (c.al.length : Int) ∧ (left - c.ws.getD (c.ws.length - 1) 0 * p) % (c.al.length : Int) = 0 := by
  obtain ⟨p, hp, hz⟩ := exists_last ok left
  have hm : ((p : Nat) : Int) ∈ lasts c left := List.mem_filter.mpr ⟨List.mem_map.mpr ⟨p, List.mem_range.mpr hp, rfl⟩, decide_eq_true hz⟩
  cases h : lasts c left with
  | nil => rw [h] at hm; cases hm
  | cons q r =>
    have hq : q ∈ lasts c left := by rw [h]; exact List.mem_cons_self
    obtain ⟨h1, h2⟩ := List.mem_filter.mp hq
    obtain ⟨q', h3, rfl⟩ := List.mem_map.mp h1
    have := List.mem_range.mp h3
    exact ⟨_, _, rfl, by omega, by omega, of_decide_eq_true h2⟩
/-- the places of the good word of number k -/
def plcOf (c : Cd) (k : Nat) : List Int := digs c.al.length (c.ws.length - 1) k ++ [lastP c (c.rs - sumP c.ws (digs c.al.length (c.ws.length - 1) k))]
/-- signs by places -/
def sig (c : Cd) (ps : List Int) : List Nat := ps.map fun p => c.al.getD p.toNat 0
def wordOf (c : Cd) (k : Nat) : List Nat := sig c (plcOf c k)
def numOf (c : Cd) (w : List Nat) : Int := undig c.al.length 0 (plc c w.dropLast)
theorem plc_sig {c : Cd} (nd : c.al.Nodup) {ps : List Int} (h : ∀ p ∈ ps, 0 ≤ p ∧ p < (c.al.length : Int)) : plc c (sig c ps) = ps := by
  unfold plc sig
  rw [List.map_map]
  refine (List.map_congr_left fun p hp => ?_).trans (List.map_id _)
  obtain ⟨h0, h1⟩ := h p hp
  have hl : p.toNat < c.al.length := by omega
  show ((c.al.idxOf (c.al.getD p.toNat 0) : Nat) : Int) = p
  have e : c.al.getD p.toNat 0 = c.al[p.toNat] := by
    rw [List.getD_eq_getElem?_getD, List.getElem?_eq_getElem hl]
    rfl
  rw [e, nd.idxOf_getElem]
  omega
theorem sig_mem {c : Cd} {ps : List Int} (h : ∀ p ∈ ps, 0 ≤ p ∧ p < (c.al.length : Int)) : ∀ a ∈ sig c ps, a ∈ c.al := by
  intro a ha
  obtain ⟨p, hp, rfl⟩ := List.mem_map.mp ha
  obtain ⟨h0, h1⟩ := h p hp
  have hl : p.toNat < c.al.length := by omega
  have e : c.al.getD p.toNat 0 = c.al[p.toNat] := by
    rw [List.getD_eq_getElem?_getD, List.getElem?_eq_getElem hl]
    rfl
  rw [e]
  exact List.getElem_mem hl
theorem plcOf_rng {c : Cd} (ok : CdOk c) (k : Nat) : ∀ p ∈ plcOf c k, 0 ≤ p ∧ p < (c.al.length : Int) := by
  intro p hp
  rcases List.mem_append.mp hp with h | h
  · exact digs_rng (by have := ok.m5; omega) _ _ p h
  · obtain ⟨q, r, e, h0, h1, _⟩ := lasts_ne ok (c.rs - sumP c.ws (digs c.al.length (c.ws.length - 1) k))
    have : p = q := by
      rw [List.mem_singleton.mp h]
      unfold lastP
      rw [e]
      rfl
    rw [this]
    exact ⟨h0, h1⟩
theorem plcOf_length {c : Cd} (ok : CdOk c) (k : Nat) : (plcOf c k).length = c.ws.length := by
  unfold plcOf
  rw [List.length_append, digs_length]
  have := ok.n3
  show c.ws.length - 1 + 1 = c.ws.length
  omega
theorem wordOf_isWord {c : Cd} (ok : CdOk c) (k : Nat) : IsWord c (wordOf c k) := by
  refine ⟨?_, sig_mem (plcOf_rng ok k)⟩
  show ((plcOf c k).map _).length = _
  rw [List.length_map, plcOf_length ok]
theorem ws_split {c : Cd} (ok : CdOk c) : ∃ us a, c.ws = us ++ [a] ∧ us.length = c.ws.length - 1 ∧ c.ws.getD (c.ws.length - 1) 0 = a := by
  have hn := ok.n3
  have hne : c.ws ≠ [] := by
    intro z
    rw [z] at hn
    simp at hn
  refine ⟨c.ws.dropLast, c.ws.getLast hne, (List.dropLast_concat_getLast hne).symm, List.length_dropLast, ?_⟩
  rw [List.getD_eq_getElem?_getD, List.getElem?_eq_getElem (by omega), List.getLast_eq_getElem]
  rfl
theorem wordOf_good {c : Cd} (ok : CdOk c) (k : Nat) : goodB c (wordOf c k) = true := by
  refine decide_eq_true ?_
  unfold wordOf
  rw [plc_sig ok.nd (plcOf_rng ok k)]
  unfold plcOf
  obtain ⟨us, a, hw, hl, hd⟩ := ws_split ok
  obtain ⟨q, r, e, h0, h1, hz⟩ := lasts_ne ok (c.rs - sumP c.ws (digs c.al.length (c.ws.length - 1) k))
  have el : lastP c (c.rs - sumP c.ws (digs c.al.length (c.ws.length - 1) k)) = q := by
    unfold lastP
    rw [e]
    rfl
  rw [el]
  rw [hd] at hz
  generalize hds : digs c.al.length (c.ws.length - 1) k = ds at hz ⊢
  have hlen : ds.length = us.length := by rw [← hds, digs_length, hl]
  rw [hw, sumP_prefix us [a] ds (by omega)] at hz
  rw [hw, sumP_snoc us ds a q hlen]
  have d1 := Int.dvd_of_emod_eq_zero hz
  refine Int.emod_eq_zero_of_dvd ?_
  have := Int.dvd_neg.mpr d1
  rw [show -(c.rs - sumP us ds - a * q) = sumP us ds + a * q - c.rs by omega] at this
  exact this
theorem numOf_wordOf {c : Cd} (ok : CdOk c) {k : Nat} (hk : k < manyN c) : numOf c (wordOf c k) = (k : Int) := by
  have hm := ok.m5
  unfold numOf
  have e : plc c (wordOf c k).dropLast = digs c.al.length (c.ws.length - 1) k := by
    have e1 : plc c (wordOf c k).dropLast = (plc c (wordOf c k)).dropLast := List.map_dropLast ..
    rw [e1]
    unfold wordOf
    rw [plc_sig ok.nd (plcOf_rng ok k)]
    unfold plcOf
    exact List.dropLast_concat
  rw [e]
  have h := undig_digs (show 0 < c.al.length by omega) k (c.ws.length - 1)
  rw [Nat.div_eq_of_lt (show k < c.al.length ^ (c.ws.length - 1) from hk)] at h
  exact h
theorem manyN_le {c : Cd} (ok : CdOk c) : manyN c ≤ 390625 := by
  unfold manyN
  have h1 := ok.n5
  have h2 := ok.m25
  have h3 : c.al.length ^ (c.ws.length - 1) ≤ 25 ^ (c.ws.length - 1) := Nat.pow_le_pow_left h2 _
  have h4 : 25 ^ (c.ws.length - 1) ≤ 25 ^ 4 := Nat.pow_le_pow_right (by decide) (by omega)
  omega
theorem manyN_ge {c : Cd} (ok : CdOk c) : 25 ≤ manyN c := by
  unfold manyN
  have h1 := ok.n3
  have h2 := ok.m5
  have h3 : 5 ^ (c.ws.length - 1) ≤ c.al.length ^ (c.ws.length - 1) := Nat.pow_le_pow_left h2 _
  have h4 : 5 ^ 2 ≤ 5 ^ (c.ws.length - 1) := Nat.pow_le_pow_right (by decide) (by omega)
  omega
/-! ### faults -/
structure Fl where
  s : Int
  p : Int
  letter : Bool
  n : Int
/-- two neighbours exchanged, from k on -/
def swapL (l : List Nat) (k : Nat) : List Nat := l.take k ++ [l.getD (k + 1) 0] ++ [l.getD k 0] ++ l.drop (k + 2)
def swapW (w : List Nat) (n : Int) : List Nat := swapL w (n % ((w.length : Int) - 1)).toNat
/-- the place of the new sign -/
def newP (c : Cd) (w : List Nat) (n : Int) : Int := (((c.al.idxOf (w.getD (n % (w.length : Int)).toNat 0) : Nat) : Int) + 1 + n / (w.length : Int) % ((c.al.length : Int) - 1)) % (c.al.length : Int)
def exchW (c : Cd) (w : List Nat) (n : Int) : List Nat := w.take (n % (w.length : Int)).toNat ++ [c.al.getD (newP c w n).toNat 0] ++ w.drop ((n % (w.length : Int)).toNat + 1)
def garbW (c : Cd) (f : Option Fl) (w : List Nat) : List Nat := match f with
  | none => w
  | some f => if f.letter = true then exchW c w f.n else swapW w f.n
def firstF (fs : List Fl) (s p : Int) : Option Fl := fs.find? fun f => decide (f.s = s) && decide (f.p = p)
def garbL (c : Cd) (ws : List (List Nat)) (fs : List Fl) (s : Int) : List (List Nat) := (List.range ws.length).map fun i : Nat => garbW c (firstF fs s (i : Int)) (ws.getD i [])
theorem take_drop_set {α : Type} (l : List α) (k : Nat) (x : α) (h : k < l.length) : l.take k ++ [x] ++ l.drop (k + 1) = l.set k x := by
  rw [List.set_eq_take_append_cons_drop, if_pos h, List.append_assoc]
  rfl
theorem swapL_set (l : List Nat) (k : Nat) (h : k + 1 < l.length) : swapL l k = (l.set k (l.getD (k + 1) 0)).set (k + 1) (l.getD k 0) := by
  apply List.ext_getElem?
  intro i
  unfold swapL
  rw [List.getElem?_set, List.getElem?_set]
  simp only [List.length_set]
  rcases Nat.lt_trichotomy i k with h1 | h1 | h1
  · rw [List.append_assoc, List.append_assoc, List.getElem?_append_left (by rw [List.length_take]; omega), List.getElem?_take, if_pos h1, if_neg (by omega), if_neg (by omega)]
  · subst h1
    rw [List.append_assoc, List.append_assoc, List.getElem?_append_right (by rw [List.length_take]; omega), List.length_take, Nat.min_eq_left (by omega), Nat.sub_self, if_neg (by omega), if_pos rfl, if_pos (by omega)]
    rfl
  · rcases Nat.lt_or_ge i (k + 2) with h2 | h2
    · obtain rfl : i = k + 1 := by omega
      rw [List.append_assoc, List.append_assoc, List.getElem?_append_right (by rw [List.length_take]; omega), List.length_take, Nat.min_eq_left (by omega), show k + 1 - k = 1 by omega, if_pos rfl, if_pos (by omega)]
      rfl
    · rw [List.getElem?_append_right (by simp only [List.length_append, List.length_take, List.length_cons, List.length_nil]; omega), List.getElem?_drop, if_neg (by omega), if_neg (by omega)]
      congr 1
      simp only [List.length_append, List.length_take, List.length_cons, List.length_nil]
      omega
theorem isWord_set {c : Cd} {w : List Nat} (h : IsWord c w) {k a : Nat} (ha : a ∈ c.al) : IsWord c (w.set k a) := by
  refine ⟨by rw [List.length_set]; exact h.1, fun b hb => ?_⟩
  rcases List.mem_or_eq_of_mem_set hb with z | z
  · exact h.2 b z
  · rw [z]
    exact ha
theorem plc_set (c : Cd) (w : List Nat) (k a : Nat) : plc c (w.set k a) = (plc c w).set k ((c.al.idxOf a : Nat) : Int) := by
  unfold plc
  rw [List.map_set]
theorem plc_at {c : Cd} {w : List Nat} (h : IsWord c w) {k : Nat} (hk : k < w.length) : (plc c w)[k]? = some ((c.al.idxOf (w.getD k 0) : Nat) : Int) ∧ w.getD k 0 ∈ c.al := by
  have e : w.getD k 0 = w[k] := by
    rw [List.getD_eq_getElem?_getD, List.getElem?_eq_getElem hk]
    rfl
  unfold plc
  rw [List.getElem?_map, List.getElem?_eq_getElem hk, e]
  exact ⟨rfl, h.2 _ (List.getElem_mem hk)⟩
theorem ix_rng {c : Cd} {a : Nat} (h : a ∈ c.al) : (0 : Int) ≤ ((c.al.idxOf a : Nat) : Int) ∧ ((c.al.idxOf a : Nat) : Int) < (c.al.length : Int) := by
  have := List.idxOf_lt_length_of_mem h
  omega
theorem newP_rng {c : Cd} (ok : CdOk c) (w : List Nat) (n : Int) : 0 ≤ newP c w n ∧ newP c w n < (c.al.length : Int) := by
  have := ok.m5
  exact ⟨Int.emod_nonneg _ (by omega), Int.emod_lt_of_pos _ (by omega)⟩
theorem kN {n : Int} {l : Nat} (h : 0 < l) : ((n % (l : Int)).toNat : Int) = n % (l : Int) ∧ (n % (l : Int)).toNat < l := by
  have h1 := Int.emod_nonneg n (show (l : Int) ≠ 0 by omega)
  have h2 := Int.emod_lt_of_pos n (show (0 : Int) < (l : Int) by omega)
  omega
theorem exchW_set {c : Cd} (ok : CdOk c) {w : List Nat} (h : IsWord c w) (n : Int) : exchW c w n = w.set (n % (w.length : Int)).toNat (c.al.getD (newP c w n).toNat 0) := by
  have hl := h.1
  have := ok.n3
  exact take_drop_set _ _ _ (kN (by omega)).2
theorem getD_mem {l : List Nat} {k : Nat} (h : k < l.length) : l.getD k 0 ∈ l := by
  have e : l.getD k 0 = l[k] := by
    rw [List.getD_eq_getElem?_getD, List.getElem?_eq_getElem h]
    rfl
  rw [e]
  exact List.getElem_mem h
theorem idxOf_getD {l : List Nat} (nd : l.Nodup) {k : Nat} (h : k < l.length) : l.idxOf (l.getD k 0) = k := by
  have e : l.getD k 0 = l[k] := by
    rw [List.getD_eq_getElem?_getD, List.getElem?_eq_getElem h]
    rfl
  rw [e, nd.idxOf_getElem]
theorem exchW_ok {c : Cd} (ok : CdOk c) {w : List Nat} (h : IsWord c w) (hg : goodB c w = true) (n : Int) : IsWord c (exchW c w n) ∧ goodB c (exchW c w n) = false := by
  obtain ⟨r0, r1⟩ := newP_rng ok w n
  have hl := h.1
  have hn := ok.n3
  have hm := ok.m5
  obtain ⟨k1, k2⟩ := kN (n := n) (show 0 < w.length by omega)
  have hin : (newP c w n).toNat < c.al.length := by omega
  rw [exchW_set ok h]
  refine ⟨isWord_set h (getD_mem hin), decide_eq_false ?_⟩
  rw [plc_set, idxOf_getD ok.nd hin]
  obtain ⟨p1, p2⟩ := plc_at h k2
  have hk : (n % (w.length : Int)).toNat < c.ws.length := by omega
  have ha : c.ws[(n % (w.length : Int)).toNat]? = some c.ws[(n % (w.length : Int)).toNat] := List.getElem?_eq_getElem hk
  have hr := ix_rng p2
  refine changed_bad ha p1 (ok.safe.1 _ _ ha) (of_decide_eq_true hg) (by omega) hr ?_
  have e : (((newP c w n).toNat : Nat) : Int) = newP c w n := by omega
  rw [e]
  unfold newP
  generalize ((c.al.idxOf (w.getD (n % (w.length : Int)).toNat 0) : Nat) : Int) = i at hr
  have q0 := Int.emod_nonneg (n / (w.length : Int)) (show (c.al.length : Int) - 1 ≠ 0 by omega)
  have q1 := Int.emod_lt_of_pos (n / (w.length : Int)) (show (0 : Int) < (c.al.length : Int) - 1 by omega)
  generalize n / (w.length : Int) % ((c.al.length : Int) - 1) = q at q0 q1
  intro z
  have hb : i + 1 + q < 2 * (c.al.length : Int) := by omega
  rcases Int.lt_or_le (i + 1 + q) (c.al.length : Int) with h1 | h1
  · rw [Int.emod_eq_of_lt (by omega) h1] at z
    omega
  · have e2 : (i + 1 + q) % (c.al.length : Int) = i + 1 + q - (c.al.length : Int) := by
      rw [← Int.sub_emod_right, Int.emod_eq_of_lt (by omega) (by omega)]
    rw [e2] at z
    omega
theorem swapW_ok {c : Cd} (ok : CdOk c) {w : List Nat} (h : IsWord c w) (hg : goodB c w = true) (n : Int) : IsWord c (swapW w n) ∧ (swapW w n = w ∨ goodB c (swapW w n) = false) := by
  have hl := h.1
  have hn := ok.n3
  have hm := ok.m5
  unfold swapW
  have e0 : (w.length : Int) - 1 = ((w.length - 1 : Nat) : Int) := by omega
  rw [e0]
  obtain ⟨k1, k2⟩ := kN (n := n) (show 0 < w.length - 1 by omega)
  generalize (n % ((w.length - 1 : Nat) : Int)).toNat = k at k2
  have hk : k + 1 < w.length := by omega
  rw [swapL_set w k hk]
  obtain ⟨p1, p2⟩ := plc_at h (show k < w.length by omega)
  obtain ⟨p3, p4⟩ := plc_at h hk
  refine ⟨isWord_set (isWord_set h p4) p2, ?_⟩
  by_cases he : w.getD (k + 1) 0 = w.getD k 0
  · refine .inl ?_
    apply List.ext_getElem?
    intro i
    rw [List.getElem?_set, List.getElem?_set]
    simp only [List.length_set]
    have g1 : w[k]? = some (w.getD k 0) := by
      rw [List.getD_eq_getElem?_getD, List.getElem?_eq_getElem (show k < w.length by omega)]
      rfl
    have g2 : w[k + 1]? = some (w.getD (k + 1) 0) := by
      rw [List.getD_eq_getElem?_getD, List.getElem?_eq_getElem hk]
      rfl
    by_cases c1 : k + 1 = i
    · subst c1
      rw [if_pos rfl, if_pos hk, g2, he]
    · rw [if_neg c1]
      by_cases c2 : k = i
      · subst c2
        rw [if_pos rfl, if_pos (by omega), g1, he]
      · rw [if_neg c2]
  · refine .inr (decide_eq_false ?_)
    rw [plc_set, plc_set]
    have ha : c.ws[k]? = some (c.ws[k]'(by omega)) := List.getElem?_eq_getElem _
    have hb : c.ws[k + 1]? = some (c.ws[k + 1]'(by omega)) := List.getElem?_eq_getElem _
    refine swapped_bad ha hb p1 p3 (ok.safe.2 _ _ _ ha hb) (of_decide_eq_true hg) (ix_rng p4) (ix_rng p2) fun z => he ?_
    have z2 : c.al.idxOf (w.getD (k + 1) 0) = c.al.idxOf (w.getD k 0) := by omega
    have i1 := List.getElem_idxOf (List.idxOf_lt_length_of_mem p4)
    have i2 := List.getElem_idxOf (List.idxOf_lt_length_of_mem p2)
    rw [← i1, ← i2]
    congr 1
theorem garbW_ok {c : Cd} (ok : CdOk c) {w : List Nat} (h : IsWord c w) (hg : goodB c w = true) (f : Option Fl) : IsWord c (garbW c f w) ∧ (garbW c f w = w ∨ goodB c (garbW c f w) = false) := by
  cases f with
  | none => exact ⟨h, .inl rfl⟩
  | some f =>
    show IsWord c (if f.letter = true then exchW c w f.n else swapW w f.n) ∧ _
    unfold garbW
    dsimp only
    by_cases hf : f.letter = true
    · rw [if_pos hf]
      obtain ⟨a, b⟩ := exchW_ok ok h hg f.n
      exact ⟨a, .inr b⟩
    · rw [if_neg hf]
      exact swapW_ok ok h hg f.n
end Cb
/-! KN: sendings asked again; groups that say words. Plain Lean. -/
namespace Cb
abbrev W := List Nat
/-! ### asked again -/
def nextA (c : Cd) (fs : List Fl) (t : Nat) (aw : List W) : List W := ((aw.zip (garbL c aw fs (t : Int))).filter fun x => decide (x.1 ≠ x.2)).map (·.1)
def asked (c : Cd) (fs : List Fl) (ws : List W) : Nat → List W
  | 0 => ws
  | t + 1 => nextA c fs t (asked c fs ws t)
def nextP (c : Cd) (fs : List Fl) (wd : Nat → W) (t : Nat) (ps : List Nat) : List Nat := ((ps.zip (garbL c (ps.map wd) fs (t : Int))).filter fun x => decide (wd x.1 ≠ x.2)).map (·.1)
def places (c : Cd) (fs : List Fl) (ws : List W) : Nat → List Nat
  | 0 => List.range ws.length
  | t + 1 => nextP c fs (fun p => ws.getD p []) t (places c fs ws t)
theorem nextP_map (c : Cd) (fs : List Fl) (wd : Nat → W) (t : Nat) (ps : List Nat) : (nextP c fs wd t ps).map wd = nextA c fs t (ps.map wd) := by
  unfold nextP nextA
  rw [List.zip_map_left, List.filter_map, List.map_map, List.map_map]
  rfl
theorem places_map (c : Cd) (fs : List Fl) (ws : List W) : ∀ t, (places c fs ws t).map (fun p => ws.getD p []) = asked c fs ws t
  | 0 => by
    show (List.range ws.length).map (fun p => ws.getD p []) = ws
    apply List.ext_getElem?
    intro i
    rw [List.getElem?_map]
    by_cases h : i < ws.length
    · rw [List.getElem?_range h, List.getElem?_eq_getElem h]
      show some (ws.getD i []) = some ws[i]
      rw [List.getD_eq_getElem?_getD, List.getElem?_eq_getElem h]
      rfl
    · rw [List.getElem?_eq_none (by rw [List.length_range]; omega), List.getElem?_eq_none (by omega)]
      rfl
  | t + 1 => by
    show (nextP c fs _ t (places c fs ws t)).map _ = nextA c fs t (asked c fs ws t)
    rw [nextP_map, places_map c fs ws t]
theorem nextP_mem {c : Cd} {fs : List Fl} {wd : Nat → W} {t : Nat} {ps : List Nat} {p : Nat} (h : p ∈ nextP c fs wd t ps) : p ∈ ps := by
  obtain ⟨x, hx, rfl⟩ := List.mem_map.mp h
  exact (List.of_mem_zip (List.mem_filter.mp hx).1).1
theorem places_lt {c : Cd} {fs : List Fl} {ws : List W} : ∀ {t p : Nat}, p ∈ places c fs ws t → p < ws.length
  | 0, p, h => List.mem_range.mp h
  | t + 1, p, h => places_lt (nextP_mem h)
theorem garbL_length (c : Cd) (ws : List W) (fs : List Fl) (s : Int) : (garbL c ws fs s).length = ws.length := by
  unfold garbL
  rw [List.length_map, List.length_range]
theorem garbL_late {c : Cd} {ws : List W} {fs : List Fl} {s : Int} (h : ∀ f ∈ fs, f.s < s) : garbL c ws fs s = ws := by
  unfold garbL
  have e : ∀ i : Nat, firstF fs s (i : Int) = none := fun i => by
    unfold firstF
    rw [List.find?_eq_none]
    intro f hf z
    have := h f hf
    simp only [Bool.and_eq_true, decide_eq_true_eq] at z
    omega
  apply List.ext_getElem?
  intro i
  rw [List.getElem?_map]
  by_cases hi : i < ws.length
  · rw [List.getElem?_range hi, List.getElem?_eq_getElem hi]
    show some (garbW c (firstF fs s (i : Int)) (ws.getD i [])) = some ws[i]
    rw [e]
    show some (ws.getD i []) = some ws[i]
    rw [List.getD_eq_getElem?_getD, List.getElem?_eq_getElem hi]
    rfl
  · rw [List.getElem?_eq_none (by rw [List.length_range]; omega), List.getElem?_eq_none (by omega)]
    rfl
theorem filter_zip_self : ∀ ws : List W, ((ws.zip ws).filter fun x => decide (x.1 ≠ x.2)) = []
  | [] => rfl
  | w :: ws => by
    rw [List.zip_cons_cons, List.filter_cons, if_neg (by simp)]
    exact filter_zip_self ws
theorem asked_late {c : Cd} {fs : List Fl} {ws : List W} {b : Nat} (h : ∀ f ∈ fs, f.s < (b : Int)) : asked c fs ws (b + 1) = [] := by
  show nextA c fs b (asked c fs ws b) = []
  unfold nextA
  rw [garbL_late h, filter_zip_self]
  rfl
/-- each asked word is one of those sent -/
theorem asked_mem {c : Cd} {fs : List Fl} {ws : List W} {t : Nat} {w : W} (h : w ∈ asked c fs ws t) : w ∈ ws := by
  rw [← places_map] at h
  obtain ⟨p, hp, rfl⟩ := List.mem_map.mp h
  have hl := places_lt hp
  have e : ws.getD p [] = ws[p] := by
    rw [List.getD_eq_getElem?_getD, List.getElem?_eq_getElem hl]
    rfl
  show ws.getD p [] ∈ ws
  rw [e]
  exact List.getElem_mem hl
/-! ### groups that say words -/
def sPhrase : W := [112, 104, 114, 97, 115, 101]
def sPart : W := [112, 97, 114, 116]
def sEnd : W := [101, 110, 100]
/-- words with a blank between -/
def joinW : List W → W
  | [] => []
  | [w] => w
  | w :: v :: r => w ++ 32 :: joinW (v :: r)
/-- a word: one to twenty small letters -/
def WordOk (w : W) : Prop := 1 ≤ w.length ∧ w.length ≤ 20 ∧ ∀ a ∈ w, 97 ≤ a ∧ a ≤ 122
abbrev Ent := List W
inductive EntOk : Ent → Prop where
  | phrase (ws : List W) : 1 ≤ ws.length → ws.length ≤ 6 → (∀ w ∈ ws, WordOk w) → EntOk [sPhrase, joinW ws]
  | part (l : W) : 1 ≤ l.length → l.length ≤ 6 → (∀ a ∈ l, 97 ≤ a ∧ a ≤ 122) → EntOk [sPart, l]
  | fin : EntOk [sEnd]
/-- what is said: the words, the word that is spelled -/
abbrev Say := List W × Option W
inductive Step : Say → Ent → Say → Prop where
  | phrase (us ws : List W) : 1 ≤ ws.length → (∀ w ∈ ws, WordOk w) → us.length + ws.length ≤ 60 → Step (us, none) [sPhrase, joinW ws] (us ++ ws, none)
  | begin (us : List W) (l : W) : us.length < 60 → l.length ≤ 20 → Step (us, none) [sPart, l] (us, some l)
  | more (us : List W) (p l : W) : p.length + l.length ≤ 20 → Step (us, some p) [sPart, l] (us, some (p ++ l))
  | fin (us : List W) (p : W) : p.length ≤ 20 → Step (us, some p) [sEnd] (us ++ [p], none)
inductive Says : Say → List Ent → Say → Prop where
  | nil (s : Say) : Says s [] s
  | cons {s s1 s2 : Say} {e : Ent} {es : List Ent} : Step s e s1 → Says s1 es s2 → Says s (e :: es) s2
theorem Says.append {s s1 s2 : Say} {es fs : List Ent} (h : Says s es s1) (h2 : Says s1 fs s2) : Says s (es ++ fs) s2 := by
  induction h with
  | nil s => exact h2
  | cons st _ ih => exact .cons st (ih h2)
theorem says_parts {us : List W} : ∀ {ps : List W} {p : W}, p.length + ps.flatten.length ≤ 20 → Says (us, some p) (ps.map fun l => [sPart, l]) (us, some (p ++ ps.flatten))
  | [], p, _ => by
    rw [List.flatten_nil, List.append_nil]
    exact .nil _
  | l :: ps, p, h => by
    rw [List.flatten_cons, List.length_append] at h
    have ih := says_parts (us := us) (ps := ps) (p := p ++ l) (by rw [List.length_append]; omega)
    rw [List.append_assoc] at ih
    rw [List.flatten_cons]
    exact .cons (.more us p l (by omega)) ih
theorem says_word {us : List W} {ps : List W} (hu : us.length < 60) (hp : ps ≠ []) (hl : ps.flatten.length ≤ 20) : Says (us, none) ((ps.map fun l => [sPart, l]) ++ [[sEnd]]) (us ++ [ps.flatten], none) := by
  cases ps with
  | nil => exact absurd rfl hp
  | cons l ps =>
    rw [List.flatten_cons, List.length_append] at hl
    refine Says.append (s1 := (us, some (l ++ ps.flatten))) (.cons (.begin us l hu (by omega)) (says_parts hl)) (.cons (.fin us _ ?_) (.nil _))
    rw [List.length_append]
    exact hl
/-! ### books: numbers with their entries -/
abbrev Bk := List (Nat × Ent)
def entOf (b : Bk) (n : Int) : Option Ent := (b.find? fun x => decide ((x.1 : Int) = n)).map (·.2)
def numOfE (b : Bk) (e : Ent) : Option Nat := (b.find? fun x => decide (x.2 = e)).map (·.1)
structure BkOk (c : Cd) (b : Bk) : Prop where
  ents : ∀ x ∈ b, EntOk x.2
  nums : (b.map (·.1)).Nodup
  unl : (b.map (·.2)).Nodup
  lt : ∀ x ∈ b, x.1 < manyN c
  most : b.length ≤ 300
theorem find_of_nodup {α β : Type} [DecidableEq β] {f : α → β} : ∀ {l : List α}, (l.map f).Nodup → ∀ {x : α}, x ∈ l → l.find? (fun y => decide (f y = f x)) = some x
  | [], _, x, h => by cases h
  | y :: l, nd, x, h => by
    rw [List.find?_cons]
    by_cases e : f y = f x
    · rw [decide_eq_true e]
      rcases List.mem_cons.mp h with rfl | h
      · rfl
      · exact absurd (List.mem_map.mpr ⟨x, h, e.symm⟩) (List.nodup_cons.mp nd).1
    · rw [decide_eq_false e]
      rcases List.mem_cons.mp h with rfl | h
      · exact absurd rfl e
      · exact find_of_nodup (List.nodup_cons.mp nd).2 h
theorem numOfE_mem {c : Cd} {b : Bk} (ok : BkOk c b) {n : Nat} {e : Ent} (h : (n, e) ∈ b) : numOfE b e = some n := by
  unfold numOfE
  have := find_of_nodup (f := fun x : Nat × Ent => x.2) ok.unl h
  rw [show (fun x : Nat × Ent => decide (x.2 = e)) = fun y => decide (y.2 = (n, e).2) from rfl, this]
  rfl
theorem entOf_mem {c : Cd} {b : Bk} (ok : BkOk c b) {n : Nat} {e : Ent} (h : (n, e) ∈ b) : entOf b (n : Int) = some e := by
  unfold entOf
  have := find_of_nodup (f := fun x : Nat × Ent => x.1) ok.nums h
  have e2 : (fun x : Nat × Ent => decide ((x.1 : Int) = (n : Int))) = fun y => decide (y.1 = (n, e).1) := by
    funext x
    rw [Bool.eq_iff_iff, decide_eq_true_eq, decide_eq_true_eq]
    exact Int.ofNat_inj
  rw [e2, this]
  rfl
theorem mem_of_numOfE {b : Bk} {n : Nat} {e : Ent} (h : numOfE b e = some n) : (n, e) ∈ b := by
  unfold numOfE at h
  cases hf : b.find? (fun x => decide (x.2 = e)) with
  | none =>
    rw [hf] at h
    cases h
  | some x =>
    rw [hf] at h
    have h1 : x.1 = n := Option.some.inj h
    have h2 : x.2 = e := of_decide_eq_true (List.find?_some (p := fun x : Nat × Ent => decide (x.2 = e)) hf)
    rw [← h1, ← h2]
    exact List.mem_of_find?_eq_some hf
theorem mem_of_entOf {b : Bk} {n : Nat} {e : Ent} (h : entOf b (n : Int) = some e) : (n, e) ∈ b := by
  unfold entOf at h
  cases hf : b.find? (fun x => decide ((x.1 : Int) = (n : Int))) with
  | none =>
    rw [hf] at h
    cases h
  | some x =>
    rw [hf] at h
    have h1 : (x.1 : Int) = (n : Int) := of_decide_eq_true (List.find?_some (p := fun x : Nat × Ent => decide ((x.1 : Int) = (n : Int))) hf)
    have h2 : x.2 = e := Option.some.inj h
    have h3 : x.1 = n := by omega
    rw [← h3, ← h2]
    exact List.mem_of_find?_eq_some hf
/-- groups of a book with their entries -/
def Grp (b : Bk) (g : List Nat) (es : List Ent) : Prop := g.length = es.length ∧ ∀ (i n : Nat), g[i]? = some n → ∃ e, es[i]? = some e ∧ (n, e) ∈ b
theorem Grp.nil (b : Bk) : Grp b [] [] := ⟨rfl, fun i n h => by simp at h⟩
theorem Grp.snoc {b : Bk} {g : List Nat} {es : List Ent} {n : Nat} {e : Ent} (h : Grp b g es) (hn : (n, e) ∈ b) : Grp b (g ++ [n]) (es ++ [e]) := by
  refine ⟨by rw [List.length_append, List.length_append, h.1]; rfl, fun i k hk => ?_⟩
  by_cases hi : i < g.length
  · rw [List.getElem?_append_left hi] at hk
    obtain ⟨e', h1, h2⟩ := h.2 i k hk
    exact ⟨e', by rw [List.getElem?_append_left (by rw [← h.1]; exact hi)]; exact h1, h2⟩
  · rw [List.getElem?_append_right (by omega)] at hk
    have h0 : i - g.length = 0 := by
      have := (List.getElem?_eq_some_iff.mp hk).1
      simp at this
      omega
    rw [h0] at hk
    have : n = k := Option.some.inj hk
    subst this
    exact ⟨e, by rw [List.getElem?_append_right (by rw [← h.1]; omega), ← h.1, h0]; rfl, hn⟩
theorem Grp.append {b : Bk} {g : List Nat} {es : List Ent} (h : Grp b g es) : ∀ {g2 : List Nat} {fs : List Ent}, Grp b g2 fs → Grp b (g ++ g2) (es ++ fs) := fun {g2 fs} h2 => by
  refine ⟨by rw [List.length_append, List.length_append, h.1, h2.1], fun i k hk => ?_⟩
  by_cases hi : i < g.length
  · rw [List.getElem?_append_left hi] at hk
    obtain ⟨e', h1, h2⟩ := h.2 i k hk
    exact ⟨e', by rw [List.getElem?_append_left (by rw [← h.1]; exact hi)]; exact h1, h2⟩
  · rw [List.getElem?_append_right (by omega)] at hk
    obtain ⟨e', h3, h4⟩ := h2.2 _ k hk
    exact ⟨e', by rw [List.getElem?_append_right (by rw [← h.1]; omega), ← h.1]; exact h3, h4⟩
end Cb
/-! KD: how words, lists, codes, books, faults stand in the heap; more of what evaluates to what. -/
namespace Cb
open PySem PySem.Spec PyProof.Rows L2 Evl
open C8 (Cal Met Mak pe_c pe_mk pe_mt pe_mt0 pe_gc)
/-! ### data -/
abbrev vS (l : W) : V := .str (S l)
abbrev dS (l : W) : PyData := .str (S l)
theorem tup_ex {H H' : Hp} (e : Ex H H') {a : Addr} {o : HO} (h : H a = some o) : H' a = some o := e a o h
mutual
theorem dp_ex {K : PySem.W.Frag} {H H' : Hp} (e : Ex H H') : ∀ (d : PyData) (v : V), Dp K H v d → Dp K H' v d
  | .none, _, h => by
    cases h
    exact .non
  | .bool b, _, h => by
    cases h
    exact .bl b
  | .int i, _, h => by
    cases h
    exact .int i
  | .str x, _, h => by
    cases h
    exact .str x
  | .list ds, _, h => by
    cases h with
    | lst hs ha => exact .lst (ex_l e hs) (dpAll_ex e ds _ ha)
  | .tuple ds, _, h => by
    cases h with
    | tup hs ha => exact .tup (ex_t e hs) (dpAll_ex e ds _ ha)
  | .dict _, _, h => by cases h
theorem dpAll_ex {K : PySem.W.Frag} {H H' : Hp} (e : Ex H H') : ∀ (ds : List PyData) (vs : List V), DpAll K H vs ds → DpAll K H' vs ds
  | [], _, h => by
    cases h
    exact .nil
  | d :: ds, _, h => by
    cases h with
    | cons h1 h2 => exact .cons (dp_ex e d _ h1) (dpAll_ex e ds _ h2)
end
section
variable {K : PySem.W.Frag} {H : Hp}
theorem dpAll_S : ∀ ws : List W, DpAll K H (ws.map vS) (ws.map dS)
  | [] => .nil
  | w :: ws => .cons (.str _) (dpAll_S ws)
theorem dpAll_I : ∀ ns : List Int, DpAll K H (ns.map V.int) (ns.map PyData.int)
  | [] => .nil
  | n :: ns => .cons (.int _) (dpAll_I ns)
theorem dp_LS {a : Addr} {ws : List W} (h : SqL K H a (ws.map vS)) : Dp K H (.ref a) (.list (ws.map dS)) := .lst h (dpAll_S ws)
theorem dp_LI {a : Addr} {ns : List Int} (h : SqL K H a (ns.map V.int)) : Dp K H (.ref a) (.list (ns.map PyData.int)) := .lst h (dpAll_I ns)
theorem dp_TS {a : Addr} {ws : List W} (h : SqT K H a (ws.map vS)) : Dp K H (.ref a) (.tuple (ws.map dS)) := .tup h (dpAll_S ws)
theorem dpAll_len : ∀ {vs : List V} {ds : List PyData}, DpAll K H vs ds → vs.length = ds.length
  | _, _, .nil => rfl
  | _, _, .cons _ t => congrArg Nat.succ (dpAll_len t)
theorem dpAll_at : ∀ {vs : List V} {ds : List PyData}, DpAll K H vs ds → ∀ {i : Nat} {v : V}, vs[i]? = some v → ∃ d, ds[i]? = some d ∧ Dp K H v d
  | _, _, .nil, i, v, h => by simp at h
  | _, _, .cons h1 t, 0, v, h => by
    simp at h
    subst h
    exact ⟨_, rfl, h1⟩
  | _, _, .cons h1 t, i + 1, v, h => by
    obtain ⟨d, h2, h3⟩ := dpAll_at t (i := i) (v := v) (by simpa using h)
    exact ⟨d, by simpa using h2, h3⟩
theorem dpAll_append {vs us : List V} {ds es : List PyData} (h : DpAll K H vs ds) (h2 : DpAll K H us es) : DpAll K H (vs ++ us) (ds ++ es) := by
  induction vs generalizing ds with
  | nil =>
    cases h
    exact h2
  | cons v vs ih =>
    cases h with
    | cons h1 t => exact .cons h1 (ih t)
end
/-- signs below 128 -/
def Asc (l : W) : Prop := ∀ a ∈ l, a < 128
theorem lay_S {l : W} (h : Asc l) : PyData.canLay0 (dS l) = true := by
  have e : PyData.canLay0 (dS l) = PyData.strOk (S l) := by simp only [PyData.canLay0]
  rw [e]
  unfold PyData.strOk
  rw [← Array.all_toList]
  refine List.all_eq_true.mpr fun a ha => decide_eq_true ?_
  have := h a ha
  omega
theorem layAll : ∀ {ds : List PyData}, (∀ d ∈ ds, d.canLay0 = true) → PyData.canLayAll0 ds = true
  | [], _ => by simp only [PyData.canLayAll0]
  | d :: ds, h => by
    simp only [PyData.canLayAll0]
    rw [h d (List.mem_cons_self ..), layAll fun e he => h e (List.mem_cons_of_mem _ he)]
    rfl
theorem depthAll_le {k : Nat} : ∀ {ds : List PyData}, (∀ d ∈ ds, d.depth ≤ k) → PyData.depthAll ds ≤ k
  | [], _ => by simp only [PyData.depthAll]; exact Nat.zero_le _
  | d :: ds, h => by
    simp only [PyData.depthAll]
    exact Nat.max_le.mpr ⟨h d (List.mem_cons_self ..), depthAll_le fun e he => h e (List.mem_cons_of_mem _ he)⟩
theorem shaped_of {d : PyData} (h1 : d.canLay0 = true) (h2 : d.depth ≤ 60) : SeqAt.shaped d = true := by
  show (d.canLay0 && decide (d.depth ≤ 64)) = true
  rw [Bool.and_eq_true]
  exact ⟨h1, decide_eq_true (by omega)⟩
/-- told to be flat up to depth k, and layable -/
def Fl0 (k : Nat) (d : PyData) : Prop := d.canLay0 = true ∧ d.depth ≤ k
theorem fl_S {l : W} (h : Asc l) : Fl0 0 (dS l) := ⟨lay_S h, by simp only [PyData.depth]; exact Nat.le_refl _⟩
theorem fl_I (i : Int) : Fl0 0 (.int i) := ⟨by simp only [PyData.canLay0], by simp only [PyData.depth]; exact Nat.le_refl _⟩
theorem fl_list {k : Nat} {ds : List PyData} (h : ∀ d ∈ ds, Fl0 k d) : Fl0 (k + 1) (.list ds) := ⟨by simp only [PyData.canLay0]; exact layAll fun d hd => (h d hd).1, by simp only [PyData.depth]; exact Nat.succ_le_succ (depthAll_le fun d hd => (h d hd).2)⟩
theorem fl_tup {k : Nat} {ds : List PyData} (h : ∀ d ∈ ds, Fl0 k d) : Fl0 (k + 1) (.tuple ds) := ⟨by simp only [PyData.canLay0]; exact layAll fun d hd => (h d hd).1, by simp only [PyData.depth]; exact Nat.succ_le_succ (depthAll_le fun d hd => (h d hd).2)⟩
theorem Fl0.mono {k j : Nat} {d : PyData} (h : Fl0 k d) (hk : k ≤ j) : Fl0 j d := ⟨h.1, Nat.le_trans h.2 hk⟩
theorem Fl0.shaped {k : Nat} {d : PyData} (h : Fl0 k d) (hk : k ≤ 60 := by decide) : SeqAt.shaped d = true := shaped_of h.1 (Nat.le_trans h.2 hk)
theorem fl_LS {ws : List W} (h : ∀ w ∈ ws, Asc w) : Fl0 1 (.list (ws.map dS)) := fl_list fun d hd => by
  obtain ⟨w, hw, rfl⟩ := List.mem_map.mp hd
  exact fl_S (h w hw)
theorem fl_LI (ns : List Int) : Fl0 1 (.list (ns.map PyData.int)) := fl_list fun d hd => by
  obtain ⟨w, hw, rfl⟩ := List.mem_map.mp hd
  exact fl_I w
theorem S_eq {a b : W} : (S a == S b) = decide (a = b) := SX.S_beq_eq
theorem vS_eq {a b : W} : decide (vS a = vS b) = decide (a = b) := by
  rw [decide_eq_decide]
  constructor
  · intro h
    injection h with h
    exact SX.S_inj h
  · intro h
    rw [h]
theorem eqv_S (a b : W) : PyData.eqv (dS a) (dS b) = decide (a = b) := by
  simp only [PyData.eqv]
  exact S_eq
theorem eqvAll_S : ∀ as bs : List W, PyData.eqvAll (as.map dS) (bs.map dS) = decide (as = bs)
  | [], [] => by simp [PyData.eqvAll]
  | [], b :: bs => by simp [PyData.eqvAll]
  | a :: as, [] => by simp [PyData.eqvAll]
  | a :: as, b :: bs => by
    rw [List.map_cons, List.map_cons]
    simp only [PyData.eqvAll]
    rw [eqv_S, eqvAll_S as bs, ← Bool.decide_and, decide_eq_decide]
    simp
theorem eqv_LS (as bs : List W) : PyData.eqv (.list (as.map dS)) (.list (bs.map dS)) = decide (as = bs) := by
  simp only [PyData.eqv]
  exact eqvAll_S as bs
theorem eqv_TS (as bs : List W) : PyData.eqv (.tuple (as.map dS)) (.tuple (bs.map dS)) = decide (as = bs) := by
  simp only [PyData.eqv]
  exact eqvAll_S as bs
theorem eqv_nil (ds : List PyData) : PyData.eqv (.list ds) (.list []) = ds.isEmpty := by
  cases ds with
  | nil => simp [PyData.eqv, PyData.eqvAll]
  | cons d ds => simp [PyData.eqv, PyData.eqvAll]
/-! ### more of what evaluates to what -/
section
variable {K : PySem.W.Frag} {σ : L2.St} {H H' : Hp} {ta tb te : TE} {t u : TT} {x y z v : V} {a C dx : Addr} {fs : List (Str × V)} {f m : Str} {D : Ends} {tz : TS} {g : TG}
theorem s_par {i j : Nat} {ta : TA} {v w : V} (h : EvA ta σ H [v, w]) (k : ∀ H1, Ex H H1 → D.nx ((σ.set i (some v)).set j (some w)) H1) : tPar i j ta D σ H := h H (Ex.refl H) _ fun H1 e => ⟨v, w, rfl, k H1 e⟩
theorem ev_abs {i : Int} (ha : Ev ta σ H (.int i)) : Ev (tCB (fun xs H Q => ∃ i, xs = [.int i] ∧ Q (.int (if i < 0 then -i else i)) H) (tCons ta tNil)) σ H (.int (if i < 0 then -i else i)) := fun H1 e Q q => ha H1 e _ fun H2 e2 => ⟨i, rfl, q H2 e2⟩
theorem ev_int1 {b : Bool} (ha : Ev ta σ H (.bl b)) : Ev (tCB (fun xs H Q => (∃ i, xs = [.int i] ∧ Q (.int i) H) ∨ ∃ k, xs = [.bl k] ∧ Q (.int (if k then 1 else 0)) H) (tCons ta tNil)) σ H (.int (if b then 1 else 0)) := fun H1 e Q q => ha H1 e _ fun H2 e2 => .inr ⟨b, rfl, q H2 e2⟩
theorem ev_isi {T U : String} {b : Bool} (ha : Ev ta σ H x) (ht : ∀ H1, Ex H H1 → TyX K H1 x (.type T)) (hk : kitB T U = some b) (hb : Ev tb σ H (.ty U)) : Ev (tCB (rIsi K) (tCons ta (tCons tb tNil))) σ H (.bl b) := fun H1 e Q q =>
  ha H1 e _ fun H2 e2 => hb H2 (e.trans e2) _ fun H3 e3 => ⟨x, .ty U, .type T, .type U, b, rfl, .ty U, ht H3 ((e.trans e2).trans e3), kit_ty hk, q H3 (e2.trans e3)⟩
theorem rv_eqD {d e : PyData} (hx : Dp K H x d) (hy : Dp K H y e) (sd : SeqAt.shaped d = true) (se : SeqAt.shaped e = true) : RV (rEqD K) x y H (.bl (PyData.eqv d e)) := fun H1 a Q q => ⟨d, e, dp_ex a _ _ hx, dp_ex a _ _ hy, sd, se, q H1 (Ex.refl H1)⟩
theorem rv_neD {d e : PyData} (hx : Dp K H x d) (hy : Dp K H y e) (sd : SeqAt.shaped d = true) (se : SeqAt.shaped e = true) : RV (rNeD K) x y H (.bl (!PyData.eqv d e)) := fun H1 a Q q => ⟨d, e, dp_ex a _ _ hx, dp_ex a _ _ hy, sd, se, q H1 (Ex.refl H1)⟩
theorem dp_nil {p : Addr} (h : H p = some (.lst [])) : Dp K H (.ref p) (.list []) := .lst (sq_of h) .nil
/-- x == [] -/
theorem ev_eqNil {ds : List PyData} {k : Nat} (ha : Ev ta σ H x) (hx : Dp K H x (.list ds)) (hd : Fl0 k (.list ds)) (hk : k ≤ 60 := by decide) : Ev (tOp (rEqD K) ta (tLst tNil)) σ H (.bl ds.isEmpty) :=
  ev_opL (xs := []) ha (el_lst ea_nil (by decide)) fun p H1 hp e => by
    have h := rv_eqD (dp_ex e _ _ hx) (dp_nil hp) (hd.shaped hk) (Fl0.shaped (fl_list (k := 0) fun d hd => by cases hd) (by decide))
    rw [eqv_nil] at h
    exact h
theorem ev_neNil {ds : List PyData} {k : Nat} (ha : Ev ta σ H x) (hx : Dp K H x (.list ds)) (hd : Fl0 k (.list ds)) (hk : k ≤ 60 := by decide) : Ev (tOp (rNeD K) ta (tLst tNil)) σ H (.bl (!ds.isEmpty)) :=
  ev_opL (xs := []) ha (el_lst ea_nil (by decide)) fun p H1 hp e => by
    have h := rv_neD (dp_ex e _ _ hx) (dp_nil hp) (hd.shaped hk) (Fl0.shaped (fl_list (k := 0) fun d hd => by cases hd) (by decide))
    rw [eqv_nil] at h
    exact h
end
end Cb
/-! K5: loops and comprehensions over anything that walks; texts, dicts, calls of methods. -/
namespace Cb
open PySem PySem.Spec PyProof.Rows L2 Evl
open C8 (Cal Met Mak pe_c pe_mk pe_mt pe_mt0 pe_gc)
/-! ### rules told with K outside -/
section
variable {X : Cx} {K : PySem.W.Frag} {e o i : Expr} {es : List Expr} {ta to ty td : TE} {t : TA} {f name : Str} {pos apos cpos : Pos} {T id : String} {r : V → List V → Hp → VK → Prop}
theorem pe_fldK (hK : X.K = K) (he : PE X e ta) (hb : attributeBase e f X.env (eval e X.env) = eval e X.env) : PE X (.Attribute e f pos) (tFld K ta f) := hK ▸ pe_fld he hb
theorem ixK_list (hK : X.K = K) : IxR X (rIxL K) := hK ▸ ix_list
theorem ixK_tup (hK : X.K = K) : IxR X (rIxT K) := hK ▸ ix_tup
theorem pe_bmK (hK : X.K = K) (pa : PlainAttrs T) (slot : Slot T name id) (hty : typeOf (.builtin id) = pure (.type "method_descriptor")) (hm : MtR X id r) (ho : PE X o to) (ha : PA X (e :: es) t)
    (hbase : attributeBase o name X.env (eval o X.env) = eval o X.env := by rfl)
    (hfew : ((backTo cpos (starEach (e :: es) X.env)).all (fun x => !x.1) && (backToKw cpos (keywordEach [] X.env)).all (fun x => x.1.isSome)
      && decide ((e :: es).length + ([] : List Keyword).length + (if ([] : List Keyword).isEmpty then 0 else 1) < 30)) = true := by rfl)
    (hline : (apos.endLine == cpos.line) = true := by rfl) (hs : starEach (e :: es) X.env = (false, eval e X.env) :: starEach es X.env := by rfl) (hplain : (backTo cpos (starEach es X.env)).any (·.1) = false := by rfl) :
    PE X (.Call (.Attribute o name apos) (e :: es) [] cpos) (tBM K T r to t) := hK ▸ pe_bm pa slot hty hm ho ha hbase hfew hline hs hplain
theorem pc_notinValsK (hK : X.K = K) (hu : X.A.units + 64 < cLine) (hi : PE X i ty) (he : PE X e td) (hc : X.calm = true := by rfl) (hbase : attributeBase e "values" X.env (eval e X.env) = eval e X.env := by rfl) (hline : (apos.endLine == cpos.line) = true := by rfl) :
    PC X .NotIn i (.Call (.Attribute e "values" apos) [] [] cpos) (tNotVals K ty td) := hK ▸ pc_notinVals hu hi he hc hbase hline
end
/-! ### what iterates -/
/-- n turns, the i-th gives v i, while G stands -/
def EvI (wi : TI) (σ : L2.St) (H : Hp) (n : Nat) (G : Hp → Prop) (v : Nat → V) : Prop := ∀ H1, Ex H H1 → ∀ R : It → Hp → Prop,
  (∀ J H2, Ex H1 H2 → G H2 → Walk J n G (fun i Ha x Hb => Ex Ha Hb ∧ x = v i) → R J H2) → wi σ H1 R
/-- .. pairs -/
def EvP (wi : TI) (σ : L2.St) (H : Hp) (n : Nat) (G : Hp → Prop) (v w : Nat → V) : Prop := ∀ H1, Ex H H1 → ∀ R : It → Hp → Prop,
  (∀ J H2, Ex H1 H2 → G H2 → Walk J n G (fun i Ha x Hb => Ex Ha Hb ∧ ∃ T, x = .ref T ∧ Hb T = some (.tup [v i, w i])) → R J H2) → wi σ H1 R
/-- .. whatever must stand stands in what is more -/
def EvIN (wi : TI) (σ : L2.St) (H : Hp) (n : Nat) (v : Nat → V) : Prop := ∀ H1, Ex H H1 → ∀ R : It → Hp → Prop,
  (∀ J H2 (G : Hp → Prop), Ex H1 H2 → G H2 → (∀ Ha Hb, Ex Ha Hb → G Ha → G Hb) → Walk J n G (fun i Ha x Hb => Ex Ha Hb ∧ x = v i) → R J H2) → wi σ H1 R
def EvPN (wi : TI) (σ : L2.St) (H : Hp) (n : Nat) (v w : Nat → V) : Prop := ∀ H1, Ex H H1 → ∀ R : It → Hp → Prop,
  (∀ J H2 (G : Hp → Prop), Ex H1 H2 → G H2 → (∀ Ha Hb, Ex Ha Hb → G Ha → G Hb) → Walk J n G (fun i Ha x Hb => Ex Ha Hb ∧ ∃ T, x = .ref T ∧ Hb T = some (.tup [v i, w i])) → R J H2) → wi σ H1 R
section
variable {K : PySem.W.Frag} {σ : L2.St} {H H' : Hp} {ta tb te tl : TE} {wi : TI} {n : Nat} {G : Hp → Prop} {v w : Nat → V} {a b : Addr} {xs ys : List V}
theorem ei_n (h : EvI wi σ H n G v) (mo : ∀ Ha Hb, Ex Ha Hb → G Ha → G Hb) : EvIN wi σ H n v := fun H1 e R r => h H1 e R fun J H2 e2 g w => r J H2 G e2 g mo w
theorem ep_n (h : EvP wi σ H n G v w) (mo : ∀ Ha Hb, Ex Ha Hb → G Ha → G Hb) : EvPN wi σ H n v w := fun H1 e R r => h H1 e R fun J H2 e2 g w => r J H2 G e2 g mo w
theorem EvI.mono (e : Ex H H') (h : EvI wi σ H n G v) : EvI wi σ H' n G v := fun H1 a => h H1 (e.trans a)
theorem EvP.mono (e : Ex H H') (h : EvP wi σ H n G v w) : EvP wi σ H' n G v w := fun H1 a => h H1 (e.trans a)
theorem at_getD {xs : List V} {i : Nat} {x : V} (h : xs[i]? = some x) : x = xs.getD i .non := by
  rw [List.getD_eq_getElem?_getD, h]
  rfl
theorem ei_str {l : W} (h : Ev te σ H (.str (S l))) : EvI (iStr te) σ H l.length (fun _ => True) (fun i => .str (S [l.getD i 0])) := fun H1 e R r => h H1 e _ fun H2 e2 => ⟨S l, rfl, r _ H2 e2 trivial (by
  have w : Walk (Its (S l)) l.length (fun _ => True) _ := walk_str (z := S l)
  refine w.mono (fun _ h => h) fun i Ha x Hb hi _ y => ?_
  obtain ⟨rfl, c, hc, rfl⟩ := y
  refine ⟨Ex.refl _, ?_⟩
  have : l[i]? = some c := by
    rw [← hc]
    show _ = l.toArray[i]?
    rw [List.getElem?_toArray]
  show V.str _ = V.str (S [l.getD i 0])
  rw [List.getD_eq_getElem?_getD, this]
  rfl)⟩
theorem ei_list (h : Ev tl σ H (.ref a)) (hx : SqL K H a xs) : EvI (iList K tl) σ H xs.length (fun H' => SqL K H' a xs) (fun i => xs.getD i .non) := fun H1 e R r => h H1 e _ fun H2 e2 =>
  ⟨a, rfl, ⟨xs, ex_l (e.trans e2) hx⟩, r _ H2 e2 (ex_l (e.trans e2) hx) (walk_list.mono (fun _ h => h) fun i Ha x Hb hi _ y => ⟨y.1 ▸ Ex.refl _, at_getD y.2⟩)⟩
theorem ein_list (h : EvL tl σ H xs) : EvIN (iList K tl) σ H xs.length (fun i => xs.getD i .non) := fun H1 e R r => h H1 e _ fun a H2 _ e2 ha =>
  ⟨a, rfl, ⟨xs, sq_of ha⟩, r _ H2 (fun H' => SqL K H' a xs) e2 (sq_of ha) (fun _ _ e => ex_l e) (walk_list.mono (fun _ h => h) fun i Ha x Hb hi _ y => ⟨y.1 ▸ Ex.refl _, at_getD y.2⟩)⟩
theorem ei_rng1 {ta : TA} {m : Int} (h : EvA ta σ H [.int m]) (hm : -100000 ≤ m ∧ m ≤ 100000) : EvI (iRng1 ta) σ H m.toNat (fun _ => True) (fun i => .int (i : Int)) := fun H1 e R r => h H1 e _ fun H2 e2 =>
  ⟨m, rfl, by omega, by omega, r _ H2 e2 trivial (walk_range.mono (fun _ h => h) fun i Ha x Hb hi _ y => ⟨y.1 ▸ Ex.refl _, by rw [y.2]; show V.int (0 + (i : Int)) = V.int (i : Int); rw [Int.zero_add]⟩)⟩
theorem ei_rng2 {ta : TA} {lo m : Int} (h : EvA ta σ H [.int lo, .int m]) (hm : -100000 ≤ lo ∧ lo ≤ 100000 ∧ -100000 ≤ m ∧ m ≤ 100000) : EvI (iRng2 ta) σ H (m - lo).toNat (fun _ => True) (fun i => .int (lo + (i : Int))) := fun H1 e R r => h H1 e _ fun H2 e2 =>
  ⟨lo, m, rfl, ⟨by omega, by omega, by omega, by omega⟩, r _ H2 e2 trivial (walk_range.mono (fun _ h => h) fun i Ha x Hb hi _ y => ⟨y.1 ▸ Ex.refl _, y.2⟩)⟩
theorem ei_rng3 {ta : TA} {lo m c : Int} {k : Nat} (h : EvA ta σ H [.int lo, .int m, .int c]) (hc : RgC lo m c k) : EvI (iRng3 ta) σ H k (fun _ => True) (fun i => .int (lo + (i : Int) * c)) := fun H1 e R r => h H1 e _ fun H2 e2 =>
  ⟨lo, m, c, k, rfl, hc, r _ H2 e2 trivial (walk_rangeC.mono (fun _ h => h) fun i Ha x Hb hi _ y => ⟨y.1 ▸ Ex.refl _, y.2⟩)⟩
theorem ypair {f g : Nat → Option V} {i : Nat} {Ha Hb : Hp} {x p q : V} (y : YPair f g i Ha x Hb) (hf : ∀ z, f i = some z → z = p) (hg : ∀ z, g i = some z → z = q) : Ex Ha Hb ∧ ∃ T, x = .ref T ∧ Hb T = some (.tup [p, q]) := by
  obtain ⟨T, p', q', rfl, hT, rfl, h1, h2⟩ := y
  rw [hf _ h1, hg _ h2]
  exact ⟨Ex.new hT, T, rfl, upd_same⟩
theorem ep_enum {ta : TA} (h : EvA ta σ H [.ref a]) (hx : SqL K H a xs) : EvP (iEnum K ta) σ H xs.length (fun H' => SqL K H' a xs) (fun i => .int (i : Int)) (fun i => xs.getD i .non) := fun H1 e R r => h H1 e _ fun H2 e2 =>
  ⟨a, xs, rfl, ex_l (e.trans e2) hx, r _ H2 e2 (ex_l (e.trans e2) hx) (walk_enum.mono (fun _ h => h) fun i Ha x Hb hi _ y => ypair y (fun z hz => (Option.some.inj hz).symm) (fun z hz => at_getD hz))⟩
theorem epn_enum (h : EvL tl σ H xs) : EvPN (iEnum K (tCons tl tNil)) σ H xs.length (fun i => .int (i : Int)) (fun i => xs.getD i .non) := fun H1 e R r => h H1 e _ fun a H2 _ e2 ha =>
  ⟨a, xs, rfl, sq_of ha, r _ H2 (fun H' => SqL K H' a xs) e2 (sq_of ha) (fun _ _ e => ex_l e) (walk_enum.mono (fun _ h => h) fun i Ha x Hb hi _ y => ypair y (fun z hz => (Option.some.inj hz).symm) (fun z hz => at_getD hz))⟩
theorem ep_zip {ta : TA} (h : EvA ta σ H [.ref a, .ref b]) (hx : SqL K H a xs) (hy : SqL K H b ys) : EvP (iZip K ta) σ H (min xs.length ys.length) (fun H' => SqL K H' a xs ∧ SqL K H' b ys) (fun i => xs.getD i .non) (fun i => ys.getD i .non) := fun H1 e R r => h H1 e _ fun H2 e2 =>
  ⟨a, b, xs, ys, rfl, ex_l (e.trans e2) hx, ex_l (e.trans e2) hy, r _ H2 e2 ⟨ex_l (e.trans e2) hx, ex_l (e.trans e2) hy⟩ ((walk_zip rfl).mono (fun _ h => h) fun i Ha x Hb hi _ y => ypair y (fun z hz => at_getD hz) (fun z hz => at_getD hz))⟩
/-! ### comprehensions -/
variable {tt : TT} {j k : Nat} {vs : List Nat}
theorem Cw.ex {H Ha Hb : Hp} {f : Nat → Bool} {u : Nat → V} {D : Addr} {i : Nat} (p : Cw H f u D i Ha) (e : Ex Ha Hb) : Cw H f u D i Hb := ⟨p.1, p.2.1.trans e, e D _ p.2.2⟩
theorem el_lcN (f : Nat → Bool) (u : Nat → V) (hi : EvIN wi σ H n v) (hn : n ≤ 50000) (hw : ∀ x, wipe ((wipe σ vs).set j (some x)) vs = wipe σ vs)
    (ht : ∀ i, i < n → EvT tt ((wipe σ vs).set j (some (v i))) H (f i)) (he : ∀ i, i < n → f i = true → Ev te ((wipe σ vs).set j (some (v i))) H (u i)) : EvL (tLc wi (gName j) tt te vs) σ H (given n f u) := fun H0 e Q q =>
  hi H0 e _ fun J H2 G e2 g2 mo w D hD => lc_it w (Cw H2 f u D) ⟨hD, Ex.new hD, upd_same⟩ (fun i Ha _ p => mo H2 Ha p.2.1 g2) (fun i x Ha Hb hlt p y => by
    obtain ⟨eab, rfl⟩ := y
    exact ⟨hw _, cw_turn (Cw.ex p eab) (by omega) ((ht i hlt).mono (e.trans e2)) fun hf => (he i hlt hf).mono (e.trans e2)⟩) (fun Ha p => q D Ha (fresh_back e2 hD) (e2.trans p.2.1) p.2.2)
theorem el_lcPN (f : Nat → Bool) (u : Nat → V) {v2 : Nat → V} (hi : EvPN wi σ H n v v2) (hn : n ≤ 50000) (hw : ∀ x y, wipe (((wipe σ vs).set j (some x)).set k (some y)) vs = wipe σ vs)
    (ht : ∀ i, i < n → EvT tt (((wipe σ vs).set j (some (v i))).set k (some (v2 i))) H (f i)) (he : ∀ i, i < n → f i = true → Ev te (((wipe σ vs).set j (some (v i))).set k (some (v2 i))) H (u i)) : EvL (tLc wi (gTup K 2 (gCons (gName j) (gCons (gName k) gNil))) tt te vs) σ H (given n f u) := fun H0 e Q q =>
  hi H0 e _ fun J H2 G e2 g2 mo w D hD => lc_it w (Cw H2 f u D) ⟨hD, Ex.new hD, upd_same⟩ (fun i Ha _ p => mo H2 Ha p.2.1 g2) (fun i x Ha Hb hlt p y => by
    obtain ⟨eab, T, rfl, hT⟩ := y
    exact ⟨T, [v i, v2 i], rfl, st_of hT, rfl, v i, [v2 i], rfl, v2 i, [], rfl, rfl, hw _ _, cw_turn (Cw.ex p eab) (by omega) ((ht i hlt).mono (e.trans e2)) fun hf => (he i hlt hf).mono (e.trans e2)⟩) (fun Ha p => q D Ha (fresh_back e2 hD) (e2.trans p.2.1) p.2.2)
theorem et_yes : EvT tYes σ H true := fun H1 _ _ q => q H1 (Ex.refl H1)
theorem given_all (n : Nat) (u : Nat → V) : given n (fun _ => true) u = (List.range n).map u := by
  unfold given
  rw [List.filter_eq_self.mpr (fun _ _ => rfl)]
/-- no test -/
theorem el_lcY (u : Nat → V) (hi : EvIN wi σ H n v) (hn : n ≤ 50000) (hw : ∀ x, wipe ((wipe σ vs).set j (some x)) vs = wipe σ vs)
    (he : ∀ i, i < n → Ev te ((wipe σ vs).set j (some (v i))) H (u i)) : EvL (tLc wi (gName j) tYes te vs) σ H ((List.range n).map u) := by
  rw [← given_all]
  exact el_lcN _ u hi hn hw (fun _ _ => et_yes) fun i hi _ => he i hi
theorem el_lcPY (u : Nat → V) {v2 : Nat → V} (hi : EvPN wi σ H n v v2) (hn : n ≤ 50000) (hw : ∀ x y, wipe (((wipe σ vs).set j (some x)).set k (some y)) vs = wipe σ vs)
    (he : ∀ i, i < n → Ev te (((wipe σ vs).set j (some (v i))).set k (some (v2 i))) H (u i)) : EvL (tLc wi (gTup K 2 (gCons (gName j) (gCons (gName k) gNil))) tYes te vs) σ H ((List.range n).map u) := by
  rw [← given_all]
  exact el_lcPN _ u hi hn hw (fun _ _ => et_yes) fun i hi _ => he i hi
/-- what R tells of the heap stays when more is known, and when a list changes -/
structure Still (R : Hp → Prop) : Prop where
  ex : ∀ {Ha Hb}, Ex Ha Hb → R Ha → R Hb
  lst : ∀ {Ha : Hp} {D : Addr} {xs ys : List V}, Ha D = some (.lst xs) → R Ha → R (upd Ha D (.lst ys))
/-- each of them only told of -/
def Cr (H : Hp) (R : Nat → V → Hp → Prop) (D : Addr) (i : Nat) (H' : Hp) : Prop := H D = none ∧ Ex H H' ∧ ∃ acc, acc.length = i ∧ H' D = some (.lst acc) ∧ ∀ k y, acc[k]? = some y → R k y H'
theorem er_lcY (R : Nat → V → Hp → Prop) (st : ∀ i y, Still (R i y)) (hi : EvIN wi σ H n v) (hn : n ≤ 50000) (hw : ∀ x, wipe ((wipe σ vs).set j (some x)) vs = wipe σ vs)
    (he : ∀ i, i < n → EvR te ((wipe σ vs).set j (some (v i))) H (R i)) : EvR (tLc wi (gName j) tYes te vs) σ H (fun y H2 => ∃ p xs, y = .ref p ∧ H p = none ∧ H2 p = some (.lst xs) ∧ xs.length = n ∧ ∀ k z, xs[k]? = some z → R k z H2) := fun H0 e Q q =>
  hi H0 e _ fun J H2 G e2 g2 mo w D hD => lc_it w (Cr H2 R D) ⟨hD, Ex.new hD, [], rfl, upd_same, fun k y h => by simp at h⟩ (fun i Ha _ p => mo H2 Ha p.2.1 g2) (fun i x Ha Hb hlt p y => by
    obtain ⟨eab, rfl⟩ := y
    obtain ⟨p1, p2, acc, p3, p4, p5⟩ := p
    refine ⟨hw _, ?_⟩
    show te _ Hb _
    refine he i hlt Hb (((e.trans e2).trans p2).trans eab) _ fun y H4 e4 ry => ⟨acc, e4 D _ (eab D _ p4), sz_lt (by omega), p1, Ex.mut ((p2.trans eab).trans e4) p1, acc ++ [y], by rw [List.length_append, p3]; rfl, upd_same, fun k z hz => ?_⟩
    refine (st k z).lst (e4 D _ (eab D _ p4)) ?_
    by_cases hk : k < acc.length
    · rw [List.getElem?_append_left hk] at hz
      exact (st k z).ex (eab.trans e4) (p5 k z hz)
    · rw [List.getElem?_append_right (by omega)] at hz
      have h0 : k - acc.length = 0 := by
        have := (List.getElem?_eq_some_iff.mp hz).1
        simp at this
        omega
      rw [h0] at hz
      have : y = z := Option.some.inj hz
      subst this
      have : k = i := by omega
      subst this
      exact ry) (fun Ha p => by
        obtain ⟨p1, p2, acc, p3, p4, p5⟩ := p
        exact q _ Ha (e2.trans p2) ⟨D, acc, rfl, fresh_back (e.trans e2) hD, p4, p3, p5⟩)
/-! ### for -/
variable {D : Ends} {tu tz : TS} {v2 : Nat → V}
theorem s_forN (hi : EvI wi σ H n G v) (Pv : Nat → L2.St → Hp → Prop) (h0 : ∀ H1, Ex H H1 → G H1 → Pv 0 σ H1) (hG : ∀ i σ' H', i ≤ n → Pv i σ' H' → G H')
    (hs : ∀ i σ' H', i < n → Pv i σ' H' → ∀ H2, Ex H' H2 → tu { D with nx := Pv (i + 1), ct := Pv (i + 1), bk := D.nx } (σ'.set j (some (v i))) H2) (hd : ∀ σ' H', Pv n σ' H' → D.nx σ' H') : tFor wi (gName j) tu D σ H :=
  hi H (Ex.refl H) _ fun J H2 e2 g2 w => for_it w Pv (h0 H2 e2 g2) (fun i σ' H' hi p => hG i σ' H' hi p) (fun i x σ' Ha Hb hlt p y => by
    obtain ⟨eab, rfl⟩ := y
    exact hs i σ' Ha hlt p Hb eab) hd
theorem q_forN (hi : EvI wi σ H n G v) (Pv : Nat → L2.St → Hp → Prop) (h0 : ∀ H1, Ex H H1 → G H1 → Pv 0 σ H1) (hG : ∀ i σ' H', i ≤ n → Pv i σ' H' → G H')
    (hs : ∀ i σ' H', i < n → Pv i σ' H' → ∀ H2, Ex H' H2 → tu { D with nx := Pv (i + 1), ct := Pv (i + 1), bk := tz D } (σ'.set j (some (v i))) H2) (hd : ∀ σ' H', Pv n σ' H' → tz D σ' H') : tSeq (tFor wi (gName j) tu) tz D σ H :=
  s_forN (D := { D with nx := tz D }) hi Pv h0 hG hs hd
theorem s_forP (hi : EvP wi σ H n G v v2) (Pv : Nat → L2.St → Hp → Prop) (h0 : ∀ H1, Ex H H1 → G H1 → Pv 0 σ H1) (hG : ∀ i σ' H', i ≤ n → Pv i σ' H' → G H')
    (hs : ∀ i σ' H', i < n → Pv i σ' H' → ∀ H2, Ex H' H2 → tu { D with nx := Pv (i + 1), ct := Pv (i + 1), bk := D.nx } ((σ'.set j (some (v i))).set k (some (v2 i))) H2) (hd : ∀ σ' H', Pv n σ' H' → D.nx σ' H') : tFor wi (gTup K 2 (gCons (gName j) (gCons (gName k) gNil))) tu D σ H :=
  hi H (Ex.refl H) _ fun J H2 e2 g2 w => for_it w Pv (h0 H2 e2 g2) (fun i σ' H' hi p => hG i σ' H' hi p) (fun i x σ' Ha Hb hlt p y => by
    obtain ⟨eab, T, rfl, hT⟩ := y
    exact ⟨T, [v i, v2 i], rfl, st_of hT, rfl, v i, [v2 i], rfl, v2 i, [], rfl, rfl, hs i σ' Ha hlt p Hb eab⟩) hd
theorem q_forP (hi : EvP wi σ H n G v v2) (Pv : Nat → L2.St → Hp → Prop) (h0 : ∀ H1, Ex H H1 → G H1 → Pv 0 σ H1) (hG : ∀ i σ' H', i ≤ n → Pv i σ' H' → G H')
    (hs : ∀ i σ' H', i < n → Pv i σ' H' → ∀ H2, Ex H' H2 → tu { D with nx := Pv (i + 1), ct := Pv (i + 1), bk := tz D } ((σ'.set j (some (v i))).set k (some (v2 i))) H2) (hd : ∀ σ' H', Pv n σ' H' → tz D σ' H') : tSeq (tFor wi (gTup K 2 (gCons (gName j) (gCons (gName k) gNil))) tu) tz D σ H :=
  s_forP (D := { D with nx := tz D }) hi Pv h0 hG hs hd
/-! ### the same rules, told at a heap that was -/
variable {x y z : V} {i : Nat} {t : TT}
theorem b_asg {B : Hp} (e : Ex B H) (h : Ev te σ B x) (k : ∀ H1, Ex B H1 → Ex H H1 → tz D (σ.set i (some x)) H1) : tSeq (tAsg te (gName i)) tz D σ H := q_asg (h.mono e) fun H1 e1 => k H1 (e.trans e1) e1
theorem b_asgL {B : Hp} (e : Ex B H) (h : EvL te σ B xs) (k : ∀ p H1, H p = none → B p = none → Ex B H1 → Ex H H1 → H1 p = some (.lst xs) → tz D (σ.set i (some (.ref p))) H1) : tSeq (tAsg te (gName i)) tz D σ H := q_asgL (h.mono e) fun p H1 hp e1 h1 => k p H1 hp (fresh_back e hp) (e.trans e1) e1 h1
theorem b_asgR {B : Hp} {R : V → Hp → Prop} (e : Ex B H) (h : EvR te σ B R) (k : ∀ y H1, Ex B H1 → Ex H H1 → R y H1 → tz D (σ.set i (some y)) H1) : tSeq (tAsg te (gName i)) tz D σ H := q_asgR (h.mono e) fun y H1 e1 r => k y H1 (e.trans e1) e1 r
theorem b_skip {B : Hp} (e : Ex B H) (h : EvT t σ B false) (k : ∀ H1, Ex B H1 → Ex H H1 → tz D σ H1) : tSeq (tIfS t tu tNext) tz D σ H := q_skip (h.mono e) fun H1 e1 => k H1 (e.trans e1) e1
theorem b_ret {B : Hp} (e : Ex B H) (h : Ev te σ B x) (k : ∀ H1, Ex B H1 → D.rt x H1) : tRet te D σ H := s_ret (h.mono e) fun H1 e1 => k H1 (e.trans e1)
/-! ### texts, sums, dicts -/
theorem ev_sindex {l : W} {c : Nat} (ho : Ev ta σ H (.str (S l))) (he : Ev te σ H (.str (S [c]))) (hc : c ∈ l) :
    Ev (tBM K "str" (fun x xs H Q => ∃ a b i rest, x = .str a ∧ xs = [.str b] ∧ Builtin.Str.occurrences a b 0 a.length 1 = i :: rest ∧ Q (.int (i : Nat)) H) ta (tCons te tNil)) σ H (.int ((l.idxOf c : Nat) : Int)) := fun H1 e Q q =>
  ho H1 e _ fun H2 e2 => ⟨rfl, he H2 (e.trans e2) _ fun H3 e3 => by
    have pre1 : ∀ i, TL.pre (TL.tl (S [c])) ((TL.tl (S l)).drop i) = true ↔ l[i]? = some c := fun i => by
      show TL.pre [c] (l.drop i) = true ↔ _
      cases hd : l.drop i with
      | nil =>
        have : l.length ≤ i := List.drop_eq_nil_iff.mp hd
        rw [List.getElem?_eq_none this]
        simp [TL.pre]
      | cons a r =>
        have h1 : l[i]? = some a := by
          have := congrArg (fun z => z[0]?) hd
          simpa [List.getElem?_drop] using this
        rw [h1]
        simp [TL.pre]
    have at1 : ∀ i, StrLaws.At (S l) (S [c]) (S l).length i ↔ l[i]? = some c := fun i => (TL.at_iff (List.cons_ne_nil c []) i).trans (pre1 i)
    rcases StrLaws.occ_head (S l) (S [c]) 1 (Nat.le_refl 1) with ⟨_, h2⟩ | ⟨i, r, h1, h2, h3⟩
    · have := h2 (l.idxOf c)
      rw [at1] at this
      exact absurd (by rw [List.getElem?_eq_getElem (List.idxOf_lt_length_of_mem hc)]; simp) this
    · have e0 : i = l.idxOf c := by
        rw [at1] at h2
        have hl : i < l.length := (List.getElem?_eq_some_iff.mp h2).1
        have hi : l[i] = c := (List.getElem?_eq_some_iff.mp h2).2
        apply Nat.le_antisymm
        · rcases Nat.lt_or_ge (l.idxOf c) i with h | h
          · have := h3 _ h
            rw [at1] at this
            exact absurd (by rw [List.getElem?_eq_getElem (List.idxOf_lt_length_of_mem hc)]; simp) this
          · exact h
        · rcases Nat.lt_or_ge i (l.idxOf c) with h | h
          · exact absurd hi (by
              have := List.not_of_lt_findIdx (p := (· == c)) (xs := l) (i := i) h
              simpa using this)
          · exact h
      subst e0
      exact ⟨S l, S [c], _, r, rfl, rfl, h1, q H3 (e2.trans e3)⟩⟩
theorem ev_all {bs : List Bool} (h : EvL tl σ H (bs.map V.bl)) : Ev (tCB (rAll K) (tCons tl tNil)) σ H (.bl (bs.all id)) := fun H1 e Q q => h H1 e _ fun p H2 _ e2 hp => ⟨p, bs, rfl, sq_of hp, q H2 e2⟩
theorem ev_sum {ns : List Int} (h : EvL tl σ H (ns.map V.int)) : Ev (tCB (rSum K) (tCons tl tNil)) σ H (.int ns.sum) := fun H1 e Q q => h H1 e _ fun p H2 _ e2 hp => ⟨p, ns, rfl, sq_of hp, q H2 e2⟩
theorem ev_sumK {p : Addr} {ns : List Int} (h : Ev tl σ H (.ref p)) (hp : SqL K H p (ns.map V.int)) : Ev (tCB (rSum K) (tCons tl tNil)) σ H (.int ns.sum) := fun H1 e Q q => h H1 e _ fun H2 e2 => ⟨p, ns, rfl, ex_l (e.trans e2) hp, q H2 e2⟩
theorem len_map_S (ws : List W) : ((ws.map S).map (·.length)) = ws.map (·.length) := by
  rw [List.map_map]
  exact List.map_congr_left fun w _ => SX.S_len w
theorem ev_join {s : W} {ws : List W} (ho : Ev ta σ H (.str (S s))) (h : EvL te σ H (ws.map vS)) (hz : (ws.map (·.length)).sum + ws.length * s.length ≤ 16777216) :
    Ev (tM1 (fun x xs H Q => ∃ a p, ∃ ys : List Str, x = .str a ∧ xs = [.ref p] ∧ (SqL K H p (ys.map V.str) ∨ SqT K H p (ys.map V.str)) ∧ (ys.map (·.length)).sum + ys.length * a.length ≤ 16777216 ∧ Q (.str (Txt.join a ys)) H) ta te) σ H (.str (S (TL.joinL s ws))) := fun H1 e Q q =>
  ho H1 e _ fun H2 e2 => ⟨⟨S s, rfl⟩, h H2 (e.trans e2) _ fun p H3 _ e3 hp => ⟨S s, p, ws.map S, rfl, rfl, .inl (sq_of (by rw [List.map_map]; exact hp)), by rw [len_map_S, List.length_map, SX.S_len]; exact hz, by rw [SX.join_S]; exact q H3 (e2.trans e3)⟩⟩
/-- join of a list that stands -/
theorem ev_joinK {s : W} {ws : List W} {p : Addr} (ho : Ev ta σ H (.str (S s))) (h : Ev te σ H (.ref p)) (hp : SqL K H p (ws.map vS)) (hz : (ws.map (·.length)).sum + ws.length * s.length ≤ 16777216) :
    Ev (tM1 (fun x xs H Q => ∃ a p, ∃ ys : List Str, x = .str a ∧ xs = [.ref p] ∧ (SqL K H p (ys.map V.str) ∨ SqT K H p (ys.map V.str)) ∧ (ys.map (·.length)).sum + ys.length * a.length ≤ 16777216 ∧ Q (.str (Txt.join a ys)) H) ta te) σ H (.str (S (TL.joinL s ws))) := fun H1 e Q q =>
  ho H1 e _ fun H2 e2 => ⟨⟨S s, rfl⟩, h H2 (e.trans e2) _ fun H3 e3 => ⟨S s, p, ws.map S, rfl, rfl, .inl (by rw [List.map_map]; exact ex_l ((e.trans e2).trans e3) hp), by rw [len_map_S, List.length_map, SX.S_len]; exact hz, by rw [SX.join_S]; exact q H3 (e2.trans e3)⟩⟩
theorem joinW_eq : ∀ ws : List W, TL.joinL [32] ws = joinW ws
  | [] => rfl
  | [w] => rfl
  | w :: v :: r => by
    show w ++ ([32] ++ TL.joinL [32] (v :: r)) = w ++ 32 :: joinW (v :: r)
    rw [joinW_eq (v :: r)]
    rfl
theorem join_flat : ∀ ws : List W, TL.joinL [] ws = ws.flatten
  | [] => rfl
  | [w] => (List.append_nil w).symm
  | w :: v :: r => by
    show w ++ ([] ++ TL.joinL [] (v :: r)) = w ++ (v :: r).flatten
    rw [join_flat (v :: r)]
    rfl
theorem el_split {l : W} {ws : List W} (ho : Ev ta σ H (.str (S l))) (he : Ev te σ H (.str (S [32]))) (hl : l.length ≤ 100000) (hs : l = joinW ws) (hne : ws ≠ []) (hb : ∀ w ∈ ws, 32 ∉ w) :
    EvL (tM1 (fun x xs H Q => ∃ a b, x = .str a ∧ xs = [.str b] ∧ (b.length == 0) = false ∧ a.length + 2 ≤ sizeLine ∧ rNewStrs (Txt.split a b) H Q) ta te) σ H (ws.map vS) := fun H1 e Q q =>
  ho H1 e _ fun H2 e2 => ⟨⟨S l, rfl⟩, he H2 (e.trans e2) _ fun H3 e3 => ⟨S l, S [32], rfl, rfl, rfl, Nat.le_trans (m := 100002) (by rw [SX.S_len]; omega) (by decide), fun p hp => by
    rw [SX.split_S (List.cons_ne_nil _ _) (by decide), hs, ← joinW_eq, SX.spl_join hne hb, List.map_map]
    exact q p _ (fresh_back (e2.trans e3) hp) ((e2.trans e3).trans (Ex.new hp)) upd_same⟩⟩
theorem ev_dinK {kvs : List (Key × V)} {m : Int} (h1 : Ev ta σ H (.int m)) (h2 : Ev tb σ H (.ref a)) (hd : H a = some (.dK kvs)) : Ev (tDIn ta tb) σ H (.bl (valV kvs (.inl m)).isSome) := fun H1 e Q q =>
  h1 H1 e _ fun H2 e2 => h2 H2 (e.trans e2) _ fun H3 e3 => ⟨a, _, rfl, DGet.k (k := .inl m) (((e.trans e2).trans e3) a _ hd), q H3 (e2.trans e3)⟩
theorem ev_dinT {kvs : List (List Key × V)} {ks : List Key} (h1 : Ev ta σ H (.ref b)) (h2 : Ev tb σ H (.ref a)) (hd : H a = some (.dT kvs)) (hb : H b = some (.tup (ks.map kV))) : Ev (tDIn ta tb) σ H (.bl (valV kvs ks).isSome) := fun H1 e Q q =>
  h1 H1 e _ fun H2 e2 => h2 H2 (e.trans e2) _ fun H3 e3 => ⟨a, _, rfl, DGet.t (((e.trans e2).trans e3) a _ hd) (((e.trans e2).trans e3) b _ hb), q H3 (e2.trans e3)⟩
theorem ev_dget1K {kvs : List (Key × V)} {m : Int} (h1 : Ev ta σ H (.ref a)) (h2 : Ev tb σ H (.int m)) (hd : H a = some (.dK kvs)) : Ev (tDGet1 ta tb) σ H ((valV kvs (.inl m)).getD .non) := fun H1 e Q q =>
  h1 H1 e _ fun H2 e2 => ⟨a, rfl, .inl ⟨kvs, .inl ((e.trans e2) a _ hd)⟩, h2 H2 (e.trans e2) _ fun H3 e3 => ⟨_, DGet.k (k := .inl m) (((e.trans e2).trans e3) a _ hd), q H3 (e2.trans e3)⟩⟩
theorem ev_dget1T {kvs : List (List Key × V)} {ks : List Key} (h1 : Ev ta σ H (.ref a)) (h2 : Ev tb σ H (.ref b)) (hd : H a = some (.dT kvs)) (hb : H b = some (.tup (ks.map kV))) : Ev (tDGet1 ta tb) σ H ((valV kvs ks).getD .non) := fun H1 e Q q =>
  h1 H1 e _ fun H2 e2 => ⟨a, rfl, .inr ⟨kvs, .inl ((e.trans e2) a _ hd)⟩, h2 H2 (e.trans e2) _ fun H3 e3 => ⟨_, DGet.t (((e.trans e2).trans e3) a _ hd) (((e.trans e2).trans e3) b _ hb), q H3 (e2.trans e3)⟩⟩
theorem ev_lenT {ta : TE} (h : Ev ta σ H (.ref a)) (ht : SqT K H a xs) : Ev (tCB (rLenS K) (tCons ta tNil)) σ H (.int (xs.length : Int)) := fun H1 e Q q => h H1 e _ fun H2 e2 => ⟨a, xs, rfl, .inr (ex_t (e.trans e2) ht), q H2 e2⟩
theorem ev_lenDT {kvs : List (List Key × V)} (h : Ev ta σ H (.ref a)) (hd : H a = some (.dT kvs)) : Ev (tCB rLenT (tCons ta tNil)) σ H (.int ((kvs.length : Nat) : Int)) := fun H1 e Q q => h H1 e _ fun H2 e2 => ⟨a, kvs, rfl, (e.trans e2) a _ hd, q H2 e2⟩
/-- l + m, both new or standing as tracked -/
theorem el_cat {p : Addr} (h1 : Ev ta σ H (.ref p)) (hp : H p = some (.lst xs)) (h2 : EvL tb σ H ys) (hz : xs.length + ys.length ≤ 100000) : EvL (tOp rCat ta tb) σ H (xs ++ ys) := fun H1 e Q k =>
  h1 H1 e _ fun H2 e2 => h2 H2 (e.trans e2) _ fun q H3 _ e3 hq => ⟨p, q, xs, ys, rfl, rfl, ((e.trans e2).trans e3) p _ hp, hq, sz_of hz, fun r hr => k r _ (fresh_back (e2.trans e3) hr) ((e2.trans e3).trans (Ex.new hr)) upd_same⟩
theorem el_cat1 {q : Addr} (h1 : EvL ta σ H xs) (h2 : Ev tb σ H (.ref q)) (hq : H q = some (.lst ys)) (hz : xs.length + ys.length ≤ 100000) : EvL (tOp rCat ta tb) σ H (xs ++ ys) := fun H1 e Q k =>
  h1 H1 e _ fun p H2 _ e2 hp => h2 H2 (e.trans e2) _ fun H3 e3 => ⟨p, q, xs, ys, rfl, rfl, e3 p _ hp, ((e.trans e2).trans e3) q _ hq, sz_of hz, fun r hr => k r _ (fresh_back (e2.trans e3) hr) ((e2.trans e3).trans (Ex.new hr)) upd_same⟩
theorem el_cat2 {p q : Addr} (h1 : Ev ta σ H (.ref p)) (hp : H p = some (.lst xs)) (h2 : Ev tb σ H (.ref q)) (hq : H q = some (.lst ys)) (hz : xs.length + ys.length ≤ 100000) : EvL (tOp rCat ta tb) σ H (xs ++ ys) := fun H1 e Q k =>
  h1 H1 e _ fun H2 e2 => h2 H2 (e.trans e2) _ fun H3 e3 => ⟨p, q, xs, ys, rfl, rfl, ((e.trans e2).trans e3) p _ hp, ((e.trans e2).trans e3) q _ hq, sz_of hz, fun r hr => k r _ (fresh_back (e2.trans e3) hr) ((e2.trans e3).trans (Ex.new hr)) upd_same⟩
theorem el_catN (h1 : EvL ta σ H xs) (h2 : EvL tb σ H ys) (hz : xs.length + ys.length ≤ 100000) : EvL (tOp rCat ta tb) σ H (xs ++ ys) := fun H1 e Q k =>
  h1 H1 e _ fun p H2 _ e2 hp => h2 H2 (e.trans e2) _ fun q H3 _ e3 hq => ⟨p, q, xs, ys, rfl, rfl, e3 p _ hp, hq, sz_of hz, fun r hr => k r _ (fresh_back (e2.trans e3) hr) ((e2.trans e3).trans (Ex.new hr)) upd_same⟩
/-- list(xs), a type called -/
theorem el_slN {tl1 th : TO} {lo hi : Option Int} (h : Ev te σ H (.ref a)) (h1 : EvO tl1 σ H lo) (h2 : EvO th σ H hi) (hs : SqL K H a xs) : EvL (tSl (rSlL K) te tl1 th) σ H (cutV xs lo hi) := el_sl h h1 h2 hs
/-- index of a new list -/
theorem ev_ixN {m : Int} (h : EvL ta σ H xs) (hi : Ev tb σ H (.int m)) (hv : atI xs m = some x) : Ev (tOp (rIxL K) ta tb) σ H x := ev_opL1 h (fun H1 e => hi.mono e) fun p H1 hp e => rv_ixL (sq_of hp) hv
end
end Cb
/-! K6: how codes, books, faults stand; weights and codes walked. -/
namespace Cb
open PySem PySem.Spec PyProof.Rows L2 Evl
open C8 (Cal Met Mak pe_c pe_mk pe_mt pe_mt0 pe_gc)

/-! ### data -/
def CodeAt (K : PySem.W.Frag) (H : Hp) (p : Addr) (c : Cd) : Prop := CdOk c ∧ ∃ dx lp, H p = some (.ins (He.ga K "Code") dx [("letters", .str (S c.al)), ("loads", .ref lp), ("remainder", .int c.rs)]) ∧ H lp = some (.lst (c.ws.map V.int))
abbrev eK (e : Ent) : List Key := e.map fun w => Sum.inr (S w)
abbrev eV (e : Ent) : List V := e.map vS
abbrev Rows := List (Nat × Ent × Addr)
def rB (r : Rows) : Bk := r.map fun x => (x.1, x.2.1)
def rN (r : Rows) : List (Key × V) := r.map fun x => (Sum.inl (x.1 : Int), V.ref x.2.2)
def rE (r : Rows) : List (List Key × V) := r.map fun x => (eK x.2.1, V.int (x.1 : Int))
def RowsAt (H : Hp) (r : Rows) : Prop := ∀ x ∈ r, H x.2.2 = some (.tup (eV x.2.1))
def BookAt (K : PySem.W.Frag) (H : Hp) (p : Addr) (c : Cd) (b : Bk) : Prop := BkOk c b ∧ ∃ (dx cp dn de : Addr) (r : Rows), H p = some (.ins (He.ga K "Book") dx [("own_code", .ref cp), ("by_number", .ref dn), ("by_entry", .ref de)]) ∧ CodeAt K H cp c ∧
  H dn = some (.dK (rN r)) ∧ H de = some (.dT (rE r)) ∧ rB r = b ∧ RowsAt H r
theorem CodeAt.ex {K : PySem.W.Frag} {H H' : Hp} {p : Addr} {c : Cd} (e : Ex H H') (h : CodeAt K H p c) : CodeAt K H' p c := by
  obtain ⟨ok, dx, lp, h1, h2⟩ := h
  exact ⟨ok, dx, lp, e _ _ h1, e _ _ h2⟩
theorem RowsAt.ex {H H' : Hp} {r : Rows} (e : Ex H H') (h : RowsAt H r) : RowsAt H' r := fun x hx => e _ _ (h x hx)
theorem BookAt.ex {K : PySem.W.Frag} {H H' : Hp} {p : Addr} {c : Cd} {b : Bk} (e : Ex H H') (h : BookAt K H p c b) : BookAt K H' p c b := by
  obtain ⟨ok, dx, cp, dn, de, r, h1, h2, h3, h4, h5, h6⟩ := h
  exact ⟨ok, dx, cp, dn, de, r, e _ _ h1, h2.ex e, e _ _ h3, e _ _ h4, h5, h6.ex e⟩
theorem eV_eq (e : Ent) : eV e = (eK e).map kV := by
  rw [List.map_map]
  rfl
theorem S_ne {a b : W} (h : a ≠ b) : S a ≠ S b := fun e => h (SX.S_inj e)
/-- a promise of something told -/
def RetR (R : V → Hp → Prop) (H : Hp) (Q : VK) : Prop := ∀ v H', Ex H H' → R v H' → Q v H'
/-! ### isinstance -/
section
variable {K : PySem.W.Frag} {σ : L2.St} {H H' : Hp} {ta tb te tl : TE} {a p : Addr} {xs : List V}
theorem tyx_list (h : SqL K H p xs) : TyX K H (.ref p) (.type "list") := by
  rcases h with (h | ⟨o, h⟩) | ⟨o, its, n, h1, h2, _⟩
  · exact .base (.lst h)
  · exact .base (.frz h)
  · exact .kList h1 h2
theorem tyx_tuple (h : SqT K H p xs) : TyX K H (.ref p) (.type "tuple") := by
  rcases h with (h | ⟨o, h⟩) | ⟨o, its, n, h1, h2, _⟩
  · exact .base (.tup h)
  · exact .fTuple h
  · exact .kTuple h1 h2
theorem ev_isStr {s : Str} (h : Ev ta σ H (.str s)) : Ev (tCB (rIsi K) (tCons ta (tCons (tC (.ty "str")) tNil))) σ H (.bl true) := ev_isi h (fun _ _ => .base (.str s)) (by decide +kernel) ev_c
theorem ev_isInt {i : Int} (h : Ev ta σ H (.int i)) : Ev (tCB (rIsi K) (tCons ta (tCons (tC (.ty "int")) tNil))) σ H (.bl true) := ev_isi h (fun _ _ => .base (.int i)) (by decide +kernel) ev_c
theorem ev_isBoolI {i : Int} (h : Ev ta σ H (.int i)) : Ev (tCB (rIsi K) (tCons ta (tCons (tC (.ty "bool")) tNil))) σ H (.bl false) := ev_isi h (fun _ _ => .base (.int i)) (by decide +kernel) ev_c
theorem ev_isList (h : Ev ta σ H (.ref p)) (hp : SqL K H p xs) : Ev (tCB (rIsi K) (tCons ta (tCons (tC (.ty "list")) tNil))) σ H (.bl true) := ev_isi h (fun _ e => tyx_list (ex_l e hp)) (by decide +kernel) ev_c
theorem ev_isTuple (h : Ev ta σ H (.ref p)) (hp : SqT K H p xs) : Ev (tCB (rIsi K) (tCons ta (tCons (tC (.ty "tuple")) tNil))) σ H (.bl true) := ev_isi h (fun _ e => tyx_tuple (ex_t e hp)) (by decide +kernel) ev_c
end
local macro_rules | `(tactic| tm_at "side") => `(tactic| (first | assumption | omega | ((try simp only [List.length_append, List.length_cons, List.length_nil, List.length_map, List.length_range]); omega) | exact ⟨by omega, by omega⟩ | exact .inl ⟨by omega, by omega⟩ | exact .inr ⟨by omega, by omega⟩ | decide))
local macro_rules | `(tactic| tm_at "rv") => `(tactic| (first
  | exact rv_I0
  | exact rv_mod (by tm_at "side")
  | exact rv_I (by tm_at "side")
  | exact rv_eq rfl
  | exact rv_ne rfl
  | exact rv_addS (by tm_at "side")
  | exact rv_ixSS (by tm_at "side") (by assumption)
  | exact rv_ixL (by assumption) (by assumption)
  | exact rv_ixT (by assumption) (by assumption)
  | exact rv_inS
  | exact rv_isN
  | exact rv_notN
  | assumption))
local macro_rules | `(tactic| tm_at "eo") => `(tactic| (first | exact eo_none | (apply eo_some; tm_at "ev")))
local macro_rules | `(tactic| tm_at "ea") => `(tactic| (first | exact ea_nil | (apply ea_cons; (tm_at "ev"); (tm_at "ea"))))
local macro_rules | `(tactic| tm_at "sp") => `(tactic| assumption)
local macro_rules | `(tactic| tm_at "ev") => `(tactic| (first
  | exact ev_c
  | exact ev_var rfl
  | assumption
  | (apply ev_op; (tm_at "ev"); (tm_at "ev"); (tm_at "rv"))
  | (apply ev_un (hr := ru_neg); tm_at "ev")
  | (apply ev_fld; (tm_at "ev"); assumption; assumption; assumption; rfl)
  | (apply ev_lenStr; (tm_at "ev"); (tm_at "side"))
  | (apply ev_lenDT; (tm_at "ev"); assumption)
  | (apply ev_len; (tm_at "ev"); assumption)
  | (apply ev_lenT; (tm_at "ev"); assumption)
  | (apply ev_slS; (tm_at "ev"); (tm_at "eo"); (tm_at "eo"); (tm_at "side"))
  | (apply ev_call; (tm_at "ea"); (tm_at "sp"))
  | (apply ev_meth; (tm_at "ev"); assumption; rfl; (tm_at "ea"); (tm_at "sp"))
  | (apply ev_isStr; tm_at "ev")
  | (apply ev_isInt; tm_at "ev")
  | (apply ev_isBoolI; tm_at "ev")
  | (apply ev_isList; (tm_at "ev"); assumption)
  | (apply ev_isTuple; (tm_at "ev"); assumption)
  | (apply ev_abs; tm_at "ev")
  | (apply ev_int1; tm_at "ev")
  | (apply ev_max2; (tm_at "ev"); (tm_at "ev"))
  | (apply ev_sindex; (tm_at "ev"); (tm_at "ev"); assumption)
  | (apply ev_dinK; (tm_at "ev"); (tm_at "ev"); assumption)
  | (apply ev_dinT; (tm_at "ev"); (tm_at "ev"); assumption; assumption)
  | (apply ev_chain; (tm_at "ev"); (tm_at "ev"); (tm_at "rv"); (intro _; tm_at "ev"); (intro _; tm_at "rv"))
  | (apply ev_andV; (tm_at "ev"); (intro _; tm_at "ev"))
  | (apply ev_orV; (tm_at "ev"); (intro _; tm_at "ev"))
  | (apply ev_notV; tm_at "ev")))
local macro_rules | `(tactic| tm_at "et") => `(tactic| (first
  | assumption
  | (apply et_test; tm_at "ev")
  | (apply et_B; tm_at "ev")
  | (apply et_not; tm_at "et")
  | (apply et_and; (tm_at "et"); (intro _; tm_at "et"))
  | (apply et_or; (tm_at "et"); (intro _; tm_at "et"))))
/-- tests by sums -/
local macro_rules | `(tactic| tm_at "bf") => `(tactic| (simp only [Bool.not_true, Bool.not_false, Bool.false_or, Bool.true_and, Bool.and_true, Bool.or_false, Bool.or_eq_false_iff, Bool.and_eq_true, decide_eq_false_iff_not, decide_eq_true_eq, Bool.not_eq_false', Bool.not_eq_true']; omega))

section
variable {P : Program} {w : World} {K : PySem.W.Frag} {mg : Str → Option Value} {base : Heap} {H : Hp}
/-! ### weights -/
def sp_is_whole (K : PySem.W.Frag) : Sp := fun vs H Q _ => ∃ i : Int, vs = [.int i] ∧ RetV (.bl true) H Q
theorem v_is_whole {i : Int} : SpV (sp_is_whole K) [.int i] H (.bl true) := fun H1 e Q q E => ⟨i, rfl, q⟩
theorem c_is_whole (T : Tx K mg) : Cal P w K mg base 1 "is_whole" (sp_is_whole K) [] := by
  refine cal_of T.d_is_whole T.a_is_whole sc_is_whole (fun _ _ _ _ _ _ us hl => match us, hl with | [_], _ => rfl) (fun vs H Q E h => by (repeat (obtain ⟨_, h⟩ := h)); subst_vars; rfl) fun f cdv A outer s H vs Q E hr h => ?_
  obtain ⟨i, rfl, q⟩ := h
  refine ⟨_, (pss_one (ps_ret (pe_and (pe_callB call_isi rfl T.f_isinstance bt_isinstance (pa_cons (pv 0) (pa_cons (pe_bltn (v := .ty "int") rfl T.f_int bt_int rfl) pa_nil))) (pe_one (pe_not (pe_callB call_isi rfl T.f_isinstance bt_isinstance (pa_cons (pv 0) (pa_cons (pe_bltn (v := .ty "bool") rfl T.f_bool bt_bool rfl) pa_nil)))))))), ?_⟩
  refine s_ret (by tm_at "ev") fun H1 e1 => ?_
  exact q H1 e1
def sp_divisor (K : PySem.W.Frag) : Sp := fun vs H Q _ => ∃ a b : Int, vs = [.int a, .int b] ∧ 0 ≤ b ∧ RetV (.int ((Int.gcd a b : Nat) : Int)) H Q
theorem v_divisor {a b : Int} (hb : 0 ≤ b) : SpV (sp_divisor K) [.int a, .int b] H (.int ((Int.gcd a b : Nat) : Int)) := fun H1 e Q q E => ⟨a, b, rfl, hb, q⟩
theorem gcd_step (a b : Int) : Int.gcd b (a % b) = Int.gcd a b := by
  have h : a % b = a + b * (-(a / b)) := by
    have := Int.emod_add_mul_ediv a b
    rw [Int.mul_neg]
    omega
  rw [h, Int.gcd_add_mul_left_right, Int.gcd_comm]
theorem abs_gcd0 (a : Int) : (if a < 0 then -a else a) = ((Int.gcd a 0 : Nat) : Int) := by
  rw [Int.gcd_zero_right]
  split <;> omega
theorem c_divisor (T : Tx K mg) : Cal P w K mg base 1 "divisor" (sp_divisor K) [] := by
  refine cal_of T.d_divisor T.a_divisor sc_divisor (fun _ _ _ _ _ _ us hl => match us, hl with | [_, _], _ => rfl) (fun vs H Q E h => by (repeat (obtain ⟨_, h⟩ := h)); subst_vars; rfl) fun f cdv A outer s H vs Q E hr h => ?_
  obtain ⟨a, b, rfl, hb, q⟩ := h
  refine ⟨_, (pss_cons (ps_while PassesOwn.never (pt_cmpR op_ne (pv 1) pe_int (nomark _))
    (pss_one (ps_par (i := 0) (j := 1) (by rfl) sc_divisor.nd rfl rfl (by decide) rfl rfl (pa_cons (pv 1) (pa_cons (pe_op op_mod (pv 0) (pv 1)) pa_nil)) (by rfl))))
  (pss_one (ps_ret (pe_callB call_abs rfl T.f_abs bt_abs (pa_cons (pv 0) pa_nil))))), ?_⟩
  refine q_while (fun m σ' H' => ∃ a' b' : Int, σ' = [some (.int a'), some (.int b')] ∧ 0 ≤ b' ∧ m = b'.toNat ∧ Int.gcd a' b' = Int.gcd a b ∧ Ex H H') b.toNat ⟨a, b, rfl, hb, rfl, rfl, Ex.refl H⟩ fun m σ' H' hw => ?_
  obtain ⟨a', b', rfl, hb', rfl, hg, e⟩ := hw
  refine ⟨!decide (V.int b' = V.int 0), by tm_at "et", fun hc H1 e1 => ?_, fun hc H1 e1 => ?_⟩
  · have hb0 : b' ≠ 0 := fun z => by
      subst z
      simp at hc
    have hb1 : 0 < b' := by omega
    have h1 := Int.emod_nonneg a' hb0
    have h2 := Int.emod_lt_of_pos a' hb1
    refine ⟨_, fun σ2 H2 hN => hN, ?_⟩
    refine s_par (v := .int b') (w := .int (a' % b')) (by tm_at "ea") fun H2 e2 => ?_
    exact ⟨(a' % b').toNat, by omega, b', a' % b', rfl, h1, rfl, by rw [gcd_step, hg], (e.trans e1).trans e2⟩
  · have hb0 : b' = 0 := by simpa using hc
    subst hb0
    refine s_ret (by tm_at "ev") fun H2 e2 => ?_
    have := q H2 ((e.trans e1).trans e2)
    rw [← hg, ← abs_gcd0] at this
    exact this
end
end Cb
/-! K7: weights, entries, codes walked. -/
namespace Cb
open PySem PySem.Spec PyProof.Rows L2 Evl
open C8 (Cal Met Mak pe_c pe_mk pe_mt pe_mt0 pe_gc)

theorem atI_m1 {α : Type} {l : List α} {x : α} (h : l.getLast? = some x) : atI l (-1) = some x := by
  have hne : l ≠ [] := fun z => by
    rw [z] at h
    cases h
  have hl : 0 < l.length := List.length_pos_iff.mpr hne
  unfold atI ixN
  rw [if_neg (by omega), if_pos (by omega)]
  show l[((-1 : Int) + (l.length : Int)).toNat]? = some x
  rw [show ((-1 : Int) + (l.length : Int)).toNat = l.length - 1 by omega, ← List.getLast?_eq_getElem?]
  exact h
theorem getLast_take {α : Type} {l : List α} {i : Nat} (h : i + 1 ≤ l.length) : (l.take (i + 1)).getLast? = l[i]? := by
  rw [List.getLast?_eq_getElem?, List.length_take, Nat.min_eq_left h, List.getElem?_take, if_pos (by omega)]
  rfl
theorem getLast_map {α β : Type} (f : α → β) (l : List α) : (l.map f).getLast? = l.getLast?.map f := List.getLast?_map ..
theorem getD_map {α : Type} {l : List α} {f : α → V} {i : Nat} {d : α} (h : i < l.length) : (l.map f).getD i .non = f (l.getD i d) := by
  rw [List.getD_eq_getElem?_getD, List.getElem?_map, List.getD_eq_getElem?_getD, List.getElem?_eq_getElem h]
  rfl
theorem map_range_getD {α β : Type} (l : List α) (d : α) (f : α → β) : (List.range l.length).map (fun i => f (l.getD i d)) = l.map f := by
  apply List.ext_getElem?
  intro i
  rw [List.getElem?_map, List.getElem?_map]
  by_cases h : i < l.length
  · rw [List.getElem?_range h, List.getElem?_eq_getElem h]
    show some (f (l.getD i d)) = some (f l[i])
    rw [List.getD_eq_getElem?_getD, List.getElem?_eq_getElem h]
    rfl
  · rw [List.getElem?_eq_none (by rw [List.length_range]; omega), List.getElem?_eq_none (by omega)]
    rfl
section
variable {K : PySem.W.Frag} {σ : L2.St} {H H' : Hp} {ta tb te tl : TE} {wi : TI} {n : Nat} {v : Nat → V} {a p : Addr} {xs : List V} {z : V} {tt : TT} {j : Nat} {vs : List Nat}
theorem ev_allN (hi : EvIN wi σ H n v) (hn : n ≤ 50000) (hw : ∀ x, wipe ((wipe σ vs).set j (some x)) vs = wipe σ vs) (he : ∀ i, i < n → Ev te ((wipe σ vs).set j (some (v i))) H (.bl true)) :
    Ev (tCB (rAll K) (tCons (tLc wi (gName j) tYes te vs) tNil)) σ H (.bl true) := by
  have h := ev_all (K := K) (bs := (List.range n).map fun _ => true) (by
    rw [List.map_map]
    exact el_lcY (fun _ => V.bl true) hi hn hw he)
  have e : ((List.range n).map fun _ => true).all id = true := by
    rw [List.all_map]
    exact List.all_eq_true.mpr fun _ _ => rfl
  rw [e] at h
  exact h
theorem ev_callL {sp : Sp} {dvs us : List V} {E : XK} {ta : TA} (h : EvL te σ H xs) (hr : EvA ta σ H us) (hs : ∀ p H1, Ex H H1 → H1 p = some (.lst xs) → SpV sp ((.ref p :: us) ++ dvs) H1 z) : Ev (tCall sp dvs E (tCons te ta)) σ H z := fun H1 e Q q =>
  h H1 e _ fun p H2 _ e2 hp => hr H2 (e.trans e2) _ fun H3 e3 => hs p H3 ((e.trans e2).trans e3) (e3 p _ hp) H3 (Ex.refl H3) Q (fun H4 e4 => q H4 ((e2.trans e3).trans e4)) E
theorem ev_callR {sp : Sp} {dvs us : List V} {E : XK} {ta : TA} {R : V → Hp → Prop} (h : EvR te σ H R) (hr : EvA ta σ H us) (hR : ∀ y Ha Hb, Ex Ha Hb → R y Ha → R y Hb) (hs : ∀ y H1, Ex H H1 → R y H1 → SpV sp ((y :: us) ++ dvs) H1 z) : Ev (tCall sp dvs E (tCons te ta)) σ H z := fun H1 e Q q =>
  h H1 e _ fun y H2 e2 hy => hr H2 (e.trans e2) _ fun H3 e3 => hs y H3 ((e.trans e2).trans e3) (hR y H2 H3 e3 hy) H3 (Ex.refl H3) Q (fun H4 e4 => q H4 ((e2.trans e3).trans e4)) E
end
local macro_rules | `(tactic| tm_at "side") => `(tactic| (first | assumption | omega | ((try simp only [List.length_append, List.length_cons, List.length_nil, List.length_map, List.length_range]); omega) | exact ⟨by omega, by omega⟩ | exact .inl ⟨by omega, by omega⟩ | exact .inr ⟨by omega, by omega⟩ | decide))
local macro_rules | `(tactic| tm_at "rv") => `(tactic| (first
  | exact rv_I0
  | exact rv_mod (by tm_at "side")
  | exact rv_I (by tm_at "side")
  | exact rv_eq rfl
  | exact rv_ne rfl
  | exact rv_addS (by tm_at "side")
  | exact rv_ixSS (by tm_at "side") (by assumption)
  | exact rv_ixL (by assumption) (by assumption)
  | exact rv_ixT (by assumption) (by assumption)
  | exact rv_inS
  | exact rv_isN
  | exact rv_notN
  | assumption))
local macro_rules | `(tactic| tm_at "eo") => `(tactic| (first | exact eo_none | (apply eo_some; tm_at "ev")))
local macro_rules | `(tactic| tm_at "ea") => `(tactic| (first | exact ea_nil | (apply ea_cons; (tm_at "ev"); (tm_at "ea"))))
local macro_rules | `(tactic| tm_at "sp") => `(tactic| assumption)
local macro_rules | `(tactic| tm_at "ev") => `(tactic| (first
  | exact ev_c
  | exact ev_var rfl
  | assumption
  | (apply ev_op; (tm_at "ev"); (tm_at "ev"); (tm_at "rv"))
  | (apply ev_un (hr := ru_neg); tm_at "ev")
  | (apply ev_fld; (tm_at "ev"); assumption; assumption; assumption; rfl)
  | (apply ev_lenStr; (tm_at "ev"); (tm_at "side"))
  | (apply ev_lenDT; (tm_at "ev"); assumption)
  | (apply ev_len; (tm_at "ev"); assumption)
  | (apply ev_lenT; (tm_at "ev"); assumption)
  | (apply ev_slS; (tm_at "ev"); (tm_at "eo"); (tm_at "eo"); (tm_at "side"))
  | (apply ev_call; (tm_at "ea"); (tm_at "sp"))
  | (apply ev_meth; (tm_at "ev"); assumption; rfl; (tm_at "ea"); (tm_at "sp"))
  | (apply ev_isStr; tm_at "ev")
  | (apply ev_isInt; tm_at "ev")
  | (apply ev_isBoolI; tm_at "ev")
  | (apply ev_isList; (tm_at "ev"); assumption)
  | (apply ev_isTuple; (tm_at "ev"); assumption)
  | (apply ev_abs; tm_at "ev")
  | (apply ev_int1; tm_at "ev")
  | (apply ev_max2; (tm_at "ev"); (tm_at "ev"))
  | (apply ev_sindex; (tm_at "ev"); (tm_at "ev"); assumption)
  | (apply ev_dinK; (tm_at "ev"); (tm_at "ev"); assumption)
  | (apply ev_dinT; (tm_at "ev"); (tm_at "ev"); assumption; assumption)
  | (apply ev_chain; (tm_at "ev"); (tm_at "ev"); (tm_at "rv"); (intro _; tm_at "ev"); (intro _; tm_at "rv"))
  | (apply ev_andV; (tm_at "ev"); (intro _; tm_at "ev"))
  | (apply ev_orV; (tm_at "ev"); (intro _; tm_at "ev"))
  | (apply ev_notV; tm_at "ev")))
local macro_rules | `(tactic| tm_at "et") => `(tactic| (first
  | assumption
  | (apply et_test; tm_at "ev")
  | (apply et_B; tm_at "ev")
  | (apply et_not; tm_at "et")
  | (apply et_and; (tm_at "et"); (intro _; tm_at "et"))
  | (apply et_or; (tm_at "et"); (intro _; tm_at "et"))))
/-- tests by sums -/
local macro_rules | `(tactic| tm_at "bf") => `(tactic| (simp only [Bool.not_true, Bool.not_false, Bool.false_or, Bool.true_and, Bool.and_true, Bool.or_false, Bool.or_eq_false_iff, Bool.and_eq_true, decide_eq_false_iff_not, decide_eq_true_eq, Bool.not_eq_false', Bool.not_eq_true']; omega))

section
variable {P : Program} {w : World} {K : PySem.W.Frag} {mg : Str → Option Value} {base : Heap} {H : Hp}
/-! ### weights -/
def FitsOk (us : List Int) (x m : Int) : Prop := Int.gcd x m = 1 ∧ ∀ u, us.getLast? = some u → Int.gcd (u - x) m = 1
def sp_fits_behind (K : PySem.W.Frag) : Sp := fun vs H Q _ => ∃ (p : Addr) (us : List Int) (x m : Int), vs = [.ref p, .int x, .int m] ∧ SqL K H p (us.map V.int) ∧ 0 < m ∧ FitsOk us x m ∧ RetV (.bl true) H Q
theorem v_fits_behind {p : Addr} {us : List Int} {x m : Int} (h1 : SqL K H p (us.map V.int)) (h2 : 0 < m) (h3 : FitsOk us x m) : SpV (sp_fits_behind K) [.ref p, .int x, .int m] H (.bl true) := fun H1 e Q q E => ⟨p, us, x, m, rfl, ex_l e h1, h2, h3, q⟩
theorem c_fits_behind (T : Tx K mg) : Cal P w K mg base 2 "fits_behind" (sp_fits_behind K) [] := by
  refine cal_of T.d_fits_behind T.a_fits_behind sc_fits_behind (fun _ _ _ _ _ _ us hl => match us, hl with | [_, _, _], _ => rfl) (fun vs H Q E h => by (repeat (obtain ⟨_, h⟩ := h)); subst_vars; rfl) fun f cdv A outer s H vs Q E hr h => ?_
  obtain ⟨p, us, x, m, rfl, hp, hm, ⟨h1, h2⟩, q⟩ := h
  refine ⟨_, (pss_cons (ps_if (pt_cmpR op_ne (pe_c (c_divisor T) hr (by decide) rfl (pa_cons (pv 1) (pa_cons (pv 2) pa_nil))) pe_int (nomark _))
    (pss_one (ps_ret pe_bl))
    pss_nil)
  (pss_one (ps_ret (pe_or (pe_cmpR (op_eqD hr.units) (pv 0) (pe_lst pa_nil) (nomark _)) (pe_one (pe_cmpR op_eq (pe_c (c_divisor T) hr (by decide) rfl (pa_cons (pe_op op_sub (pe_ix ix_list (pv 0) (pe_un un_neg pe_int) (fun _ _ => rfl)) (pv 1)) (pa_cons (pv 2) pa_nil))) pe_int (nomark _))))))), ?_⟩
  have v1 := v_divisor (K := K) (H := H) (a := x) (b := m) (by omega)
  rw [h1] at v1
  refine q_skip (et_is (by tm_at "et") (by decide)) fun H1 e1 => ?_
  cases hu : us.getLast? with
  | none =>
    have : us = [] := List.getLast?_eq_none_iff.mp hu
    subst this
    refine s_ret (ev_orV (ev_eqNil (ds := []) (ev_var rfl) (dp_LI (ns := []) (ex_l e1 hp)) (fl_LI [])) (fun z => by cases z) (b := true)) fun H2 e2 => ?_
    exact q H2 (e1.trans e2)
  | some u =>
    have hl := atI_m1 (l := us.map V.int) (x := .int u) (by rw [getLast_map, hu]; rfl)
    have v2 := v_divisor (K := K) (H := H1) (a := u - x) (b := m) (by omega)
    rw [h2 u hu] at v2
    have hp1 := ex_l e1 hp
    refine s_ret (ev_is (ev_orV (ev_eqNil (ev_var rfl) (dp_LI hp1) (fl_LI us)) (fun z => by tm_at "ev")) (w := .bl true) ?_) fun H2 e2 => ?_
    · show V.bl (_ || decide (V.int ((1 : Nat) : Int) = V.int 1)) = V.bl true
      rw [decide_eq_true (by rfl), Bool.or_true]
    · exact q H2 (e1.trans e2)
def sp_are_safe (K : PySem.W.Frag) : Sp := fun vs H Q _ => ∃ (p : Addr) (us : List Int) (m : Int), vs = [.ref p, .int m] ∧ SqL K H p (us.map V.int) ∧ 0 < m ∧ (∀ i a, us[i]? = some a → FitsOk (us.take i) a m) ∧ RetV (.bl true) H Q
theorem v_are_safe {p : Addr} {us : List Int} {m : Int} (h1 : SqL K H p (us.map V.int)) (h2 : 0 < m) (h3 : ∀ i a, us[i]? = some a → FitsOk (us.take i) a m) : SpV (sp_are_safe K) [.ref p, .int m] H (.bl true) := fun H1 e Q q E => ⟨p, us, m, rfl, ex_l e h1, h2, h3, q⟩
theorem safe_fits {m : Nat} {us : List Int} (h : Safe m us) : ∀ i a, us[i]? = some a → FitsOk (us.take i) a m := fun i a ha => by
  refine ⟨h.1 i a ha, fun u hu => ?_⟩
  cases i with
  | zero => simp at hu
  | succ i =>
    have hl := (List.getElem?_eq_some_iff.mp ha).1
    rw [getLast_take (by omega)] at hu
    exact h.2 i u a hu ha
theorem c_are_safe (T : Tx K mg) : Cal P w K mg base 3 "are_safe" (sp_are_safe K) [] := by
  refine cal_of T.d_are_safe T.a_are_safe sc_are_safe (fun _ _ _ _ _ _ us hl => match us, hl with | [_, _], _ => rfl) (fun vs H Q E h => by (repeat (obtain ⟨_, h⟩ := h)); subst_vars; rfl) fun f cdv A outer s H vs Q E hr h => ?_
  obtain ⟨p, us, m, rfl, hp, hm, hs, q⟩ := h
  refine ⟨_, (pss_cons (ps_for PassesOwn.never rfl (pi_enum rfl T.f_enumerate (pa_cons (pv 0) pa_nil)) (pg_tup rfl (pgs_cons (pg_name (i := 2) sc_are_safe.nd rfl (Or.inl rfl)) (pgs_cons (pg_name (i := 3) sc_are_safe.nd rfl (Or.inl rfl)) pgs_nil)))
    (pss_one (ps_if (pt_not (pt_val (pe_c (c_fits_behind T) hr (by decide) rfl (pa_cons (pe_slice sl_list (pv 0) po_none (po_some (pv 2))) (pa_cons (pv 3) (pa_cons (pv 1) pa_nil))))))
    (pss_one (ps_ret pe_bl))
    pss_nil)))
  (pss_one (ps_ret pe_bl))), ?_⟩
  refine q_forP (ep_enum (by tm_at "ea") hp) (fun i σ' H' => ∃ x y, σ' = [some (.ref p), some (.int m), x, y] ∧ Ex H H') (fun H1 e1 _ => ⟨none, none, rfl, e1⟩) (fun i σ' H' _ hP => by obtain ⟨x, y, rfl, e⟩ := hP; exact ex_l e hp) (fun i σ' H' hi hP H2 e2 => ?_) (fun σ' H' hP => ?_)
  · obtain ⟨x, y, rfl, e⟩ := hP
    rw [List.length_map] at hi
    rw [getD_map (d := 0) hi]
    have hp2 := ex_l (e.trans e2) hp
    have c1 := hs i (us.getD i 0) (getD_at hi)
    refine s_skip (et_is (et_not (et_B (ev_callL (xs := (us.take i).map V.int) (us := [.int (us.getD i 0), .int m]) (z := .bl true) ?_ (by tm_at "ea") fun p2 H3 e3 h3 => ?_))) (by rfl)) fun H3 e3 => ⟨_, _, rfl, (e.trans e2).trans e3⟩
    · have := el_sl (K := K) (σ := [some (.ref p), some (.int m), some (.int (i : Int)), some (.int (us.getD i 0))]) (te := tVar 0) (tl := tNoPart) (th := tPart (tVar 2)) (ev_var rfl) eo_none (eo_some (i := (i : Int)) (ev_var rfl)) hp2
      rw [cutV_map, cutG_to] at this
      exact this
    · exact v_fits_behind (sq_of h3) hm c1
  · obtain ⟨x, y, rfl, e⟩ := hP
    refine s_ret (by tm_at "ev") fun H2 e2 => ?_
    exact q H2 (e.trans e2)
/-! ### entries -/
def Az (l : W) : Prop := ∀ a ∈ l, 97 ≤ a ∧ a ≤ 122
theorem az_mem {a : Nat} (h : 97 ≤ a ∧ a ≤ 122) : a ∈ ("abcdefghijklmnopqrstuvwxyz" : Str).cps.toList := by
  have e : ∀ b : Fin 26, b.val + 97 ∈ ("abcdefghijklmnopqrstuvwxyz" : Str).cps.toList := by decide +kernel
  have := e ⟨a - 97, by omega⟩
  rwa [show a - 97 + 97 = a by omega] at this
theorem rv_inZ {c : Nat} {z : Str} : RV (fun x y H Q => ∃ (c : Nat) (z : Str), x = .str ⟨#[c]⟩ ∧ y = .str z ∧ Q (.bl (decide (c ∈ z.cps.toList))) H) (.str (S [c])) (.str z) H (.bl (decide (c ∈ z.cps.toList))) := fun H1 _ Q k => ⟨c, z, rfl, rfl, k H1 (Ex.refl H1)⟩
def sp_are_letters (K : PySem.W.Frag) : Sp := fun vs H Q _ => ∃ (l : W) (m : Int), vs = [.str (S l), .int m] ∧ 1 ≤ l.length ∧ (l.length : Int) ≤ m ∧ l.length ≤ 10000 ∧ Az l ∧ RetV (.bl true) H Q
theorem v_are_letters {l : W} {m : Int} (h1 : 1 ≤ l.length) (h2 : (l.length : Int) ≤ m) (h3 : l.length ≤ 10000) (h4 : Az l) : SpV (sp_are_letters K) [.str (S l), .int m] H (.bl true) := fun H1 e Q q E => ⟨l, m, rfl, h1, h2, h3, h4, q⟩
theorem getD_az {l : W} (h : Az l) {i : Nat} (hi : i < l.length) : 97 ≤ l.getD i 0 ∧ l.getD i 0 ≤ 122 := h _ (getD_mem hi)
theorem c_are_letters (T : Tx K mg) : Cal P w K mg base 1 "are_letters" (sp_are_letters K) [] := by
  refine cal_of T.d_are_letters T.a_are_letters sc_are_letters (fun _ _ _ _ _ _ us hl => match us, hl with | [_, _], _ => rfl) (fun vs H Q E h => by (repeat (obtain ⟨_, h⟩ := h)); subst_vars; rfl) fun f cdv A outer s H vs Q E hr h => ?_
  obtain ⟨l, m, rfl, h1, h2, h3, h4, q⟩ := h
  refine ⟨_, (pss_cons (ps_if (PW.pt (pw_or (pt_not (pt_val (pe_callB call_isi rfl T.f_isinstance bt_isinstance (pa_cons (pv 0) (pa_cons (pe_bltn (v := .ty "str") rfl T.f_str bt_str rfl) pa_nil))))) (pw_or (pt_cmpR op_lt (pe_callB call_len_str rfl T.f_len bt_len (pa_cons (pv 0) pa_nil)) pe_int (nomark _)) (pw_or1 (pt_cmpR op_gt (pe_callB call_len_str rfl T.f_len bt_len (pa_cons (pv 0) pa_nil)) (pv 1) (nomark _))))))
    (pss_one (ps_ret pe_bl))
    pss_nil)
  (pss_one (ps_ret (pe_callB (cr_all rfl) rfl T.f_all bt_all (pa_cons (pe_lc (own := [("sign", 2)]) (g := gName 2) (tt := tYes) rfl sc_are_letters.nd (pi_str (pv 0)) (blkOk_by (N := nm_are_letters) (sc := defScope s_are_letters) (by decide +kernel)) (fun _ _ _ _ _ => (pg_name (i := 2) sc_are_letters.nd rfl (Or.inl rfl))) (fun _ _ _ _ _ => pts_nil) (fun _ _ _ _ _ => (pe_cmpR op_in_sign (pv 2) (pe_gc rfl T.g_LETTERS_books) rfl))) pa_nil))))), ?_⟩
  refine q_skip (et_is (by tm_at "et") (by tm_at "bf")) fun H1 e1 => ?_
  refine s_ret (ev_allN (ei_n (ei_str (ev_var rfl)) (fun _ _ _ h => h)) (by omega) (fun _ => rfl) fun i hi => ev_is (ev_op (ev_var rfl) ev_c rv_inZ) (by rw [decide_eq_true (az_mem (getD_az h4 hi))])) fun H2 e2 => ?_
  exact q H2 (e1.trans e2)
end
end Cb
/-! K8: words, entries, sums, good words; a code made. -/
namespace Cb
open PySem PySem.Spec PyProof.Rows L2 Evl
open C8 (Cal Met Mak pe_c pe_mk pe_mt pe_mt0 pe_gc)

theorem ePh : (Str.ofString "phrase") = S sPhrase := by rfl
theorem ePa : (Str.ofString "part") = S sPart := by rfl
theorem eEn : (Str.ofString "end") = S sEnd := by rfl
theorem eBl : (Str.ofString " ") = S [32] := by rfl
theorem vint_eq {a b : Int} : decide (V.int a = V.int b) = decide (a = b) := by
  rw [decide_eq_decide]
  exact ⟨fun h => by injection h, fun h => by rw [h]⟩
theorem joinW_len : ∀ ws : List W, (∀ w ∈ ws, w.length ≤ 20) → (joinW ws).length ≤ 21 * ws.length
  | [], _ => Nat.le_refl _
  | [w], h => by
    have := h w (List.mem_singleton.mpr rfl)
    show w.length ≤ 21 * 1
    omega
  | w :: v :: r, h => by
    have h1 := h w (List.mem_cons_self ..)
    have ih := joinW_len (v :: r) fun x hx => h x (List.mem_cons_of_mem _ hx)
    show (w ++ 32 :: joinW (v :: r)).length ≤ _
    rw [List.length_append, List.length_cons, List.length_cons]
    omega
theorem word_no32 {x : W} (h : WordOk x) : 32 ∉ x := fun z => by
  have := (h.2.2 _ z).1
  omega
section
variable {K : PySem.W.Frag} {σ : L2.St} {H H' : Hp} {ta tv te tl : TE} {a p C dx : Addr} {xs : List V} {y z : V} {fs : List (Str × V)} {f : Str} {D : Ends} {tz : TS}
def ExB (x : Addr) (H H' : Hp) : Prop := ∀ a o, a ≠ x → H a = some o → H' a = some o
theorem ExB.of {x : Addr} {H H' : Hp} (e : Ex H H') : ExB x H H' := fun a o _ h => e a o h
theorem ExB.trans {x : Addr} {H H1 H2 : Hp} (e : ExB x H H1) (e2 : ExB x H1 H2) : ExB x H H2 := fun a o n h => e2 a o n (e a o n h)
theorem ExB.upd {x : Addr} {H : Hp} {o : HO} : ExB x H (upd H x o) := fun a u n h => by
  rw [upd_ne n]
  exact h
theorem q_fld (h : Ev tv σ H y) (ha : Ev ta σ H (.ref a)) (ho : H a = some (.ins C dx fs)) (c : Cls K C) (n : NoAttr K C f) (hl : fs.length < 1000) (k : ∀ H1, Ex H H1 → tz D σ (upd H1 a (.ins C dx (putF f y fs)))) : tSeq (sFld K ta tv f) tz D σ H :=
  h H (Ex.refl H) _ fun H1 e1 => ha H1 e1 _ fun H2 e2 => ⟨a, C, dx, fs, rfl, (e1.trans e2) a _ ho, c, n, hl, k H2 (e1.trans e2)⟩
theorem s_fld (h : Ev tv σ H y) (ha : Ev ta σ H (.ref a)) (ho : H a = some (.ins C dx fs)) (c : Cls K C) (n : NoAttr K C f) (hl : fs.length < 1000) (k : ∀ H1, Ex H H1 → D.nx σ (upd H1 a (.ins C dx (putF f y fs)))) : sFld K ta tv f D σ H :=
  h H (Ex.refl H) _ fun H1 e1 => ha H1 e1 _ fun H2 e2 => ⟨a, C, dx, fs, rfl, (e1.trans e2) a _ ho, c, n, hl, k H2 (e1.trans e2)⟩
theorem q_fldR {R : V → Hp → Prop} (h : EvR tv σ H R) (ha : Ev ta σ H (.ref a)) (ho : H a = some (.ins C dx fs)) (c : Cls K C) (n : NoAttr K C f) (hl : fs.length < 1000) (k : ∀ y H1 H2, Ex H H1 → R y H1 → Ex H1 H2 → tz D σ (upd H2 a (.ins C dx (putF f y fs)))) : tSeq (sFld K ta tv f) tz D σ H :=
  h H (Ex.refl H) _ fun y H1 e1 r => ha H1 e1 _ fun H2 e2 => ⟨a, C, dx, fs, rfl, (e1.trans e2) a _ ho, c, n, hl, k y H1 H2 e1 r e2⟩
theorem s_fldR {R : V → Hp → Prop} (h : EvR tv σ H R) (ha : Ev ta σ H (.ref a)) (ho : H a = some (.ins C dx fs)) (c : Cls K C) (n : NoAttr K C f) (hl : fs.length < 1000) (k : ∀ y H1 H2, Ex H H1 → R y H1 → Ex H1 H2 → D.nx σ (upd H2 a (.ins C dx (putF f y fs)))) : sFld K ta tv f D σ H :=
  h H (Ex.refl H) _ fun y H1 e1 r => ha H1 e1 _ fun H2 e2 => ⟨a, C, dx, fs, rfl, (e1.trans e2) a _ ho, c, n, hl, k y H1 H2 e1 r e2⟩
/-- a new list told with its place -/
theorem EvL.rr (h : EvL te σ H xs) : EvR te σ H (fun y H2 => ∃ p, y = .ref p ∧ H p = none ∧ H2 p = some (.lst xs)) := fun H1 e Q q => h H1 e Q fun p H2 hp e2 h2 => q _ H2 e2 ⟨p, rfl, fresh_back e hp, h2⟩
theorem evr_make {sp : Sp} {dvs : List V} {E : XK} {ta : TA} {RA : List V → Hp → Prop} {R : V → Hp → Prop} (h : EvAR ta σ H RA)
    (hs : ∀ vs H1, Ex H H1 → RA vs H1 → ∀ x dx, H1 x = none → H1 dx = none → dx ≠ x → ∀ Q : VK, (∀ v H2, Ex H1 H2 → R v H2 → Q v H2) → sp (.ref x :: (vs ++ dvs)) (upd (upd H1 dx (.own x)) x (.ins C dx [])) (fun v H2 => v = .non ∧ Q (.ref x) H2) E) : EvR (tMake C sp dvs E ta) σ H R := fun H1 e Q q =>
  h H1 e _ fun vs H2 e2 ra x dx hx hdx hne => hs vs H2 (e.trans e2) ra x dx hx hdx hne Q fun v H3 e3 r => q v H3 (e2.trans e3) r
theorem ev_lenSetT {l : W} (h : Ev ta σ H (.str (S l))) (hl : l.length < 1000) (nd : l.Nodup) : Ev (tLenSetT ta) σ H (.int ((l.length : Nat) : Int)) := fun H1 e Q q => h H1 e _ fun H2 e2 => ⟨S l, rfl, hl, fun i j hij hj => by
    have hj' : j < l.length := hj
    have gi : ∀ k (hk : k < l.length), (S l).cps.getD k 0 = l[k] := fun k hk => by
      show l.toArray.getD k 0 = l[k]
      simp [Array.getD, hk]
    rw [gi i (by omega), gi j hj']
    intro z
    have := (List.getElem_inj nd (h₀ := by omega) (h₁ := hj')).mp z
    omega, q H2 e2⟩
end
local macro_rules | `(tactic| tm_at "side") => `(tactic| (first | assumption | omega | ((try simp only [List.length_append, List.length_cons, List.length_nil, List.length_map, List.length_range]); omega) | exact ⟨by omega, by omega⟩ | exact .inl ⟨by omega, by omega⟩ | exact .inr ⟨by omega, by omega⟩ | decide))
local macro_rules | `(tactic| tm_at "rv") => `(tactic| (first
  | exact rv_I0
  | exact rv_mod (by tm_at "side")
  | exact rv_I (by tm_at "side")
  | exact rv_eq rfl
  | exact rv_ne rfl
  | exact rv_addS (by tm_at "side")
  | exact rv_ixSS (by tm_at "side") (by assumption)
  | exact rv_ixL (by assumption) (by assumption)
  | exact rv_ixT (by assumption) (by assumption)
  | exact rv_inS
  | exact rv_isN
  | exact rv_notN
  | assumption))
local macro_rules | `(tactic| tm_at "eo") => `(tactic| (first | exact eo_none | (apply eo_some; tm_at "ev")))
local macro_rules | `(tactic| tm_at "ea") => `(tactic| (first | exact ea_nil | (apply ea_cons; (tm_at "ev"); (tm_at "ea"))))
local macro_rules | `(tactic| tm_at "sp") => `(tactic| assumption)
local macro_rules | `(tactic| tm_at "ev") => `(tactic| (first
  | exact ev_c
  | exact ev_var rfl
  | assumption
  | (apply ev_op; (tm_at "ev"); (tm_at "ev"); (tm_at "rv"))
  | (apply ev_un (hr := ru_neg); tm_at "ev")
  | (apply ev_fld; (tm_at "ev"); assumption; assumption; assumption; rfl)
  | (apply ev_lenStr; (tm_at "ev"); (tm_at "side"))
  | (apply ev_lenDT; (tm_at "ev"); assumption)
  | (apply ev_len; (tm_at "ev"); assumption)
  | (apply ev_lenT; (tm_at "ev"); assumption)
  | (apply ev_slS; (tm_at "ev"); (tm_at "eo"); (tm_at "eo"); (tm_at "side"))
  | (apply ev_call; (tm_at "ea"); (tm_at "sp"))
  | (apply ev_meth; (tm_at "ev"); assumption; rfl; (tm_at "ea"); (tm_at "sp"))
  | (apply ev_isStr; tm_at "ev")
  | (apply ev_isInt; tm_at "ev")
  | (apply ev_isBoolI; tm_at "ev")
  | (apply ev_isList; (tm_at "ev"); assumption)
  | (apply ev_isTuple; (tm_at "ev"); assumption)
  | (apply ev_abs; tm_at "ev")
  | (apply ev_int1; tm_at "ev")
  | (apply ev_max2; (tm_at "ev"); (tm_at "ev"))
  | (apply ev_sindex; (tm_at "ev"); (tm_at "ev"); assumption)
  | (apply ev_dinK; (tm_at "ev"); (tm_at "ev"); assumption)
  | (apply ev_dinT; (tm_at "ev"); (tm_at "ev"); assumption; assumption)
  | (apply ev_chain; (tm_at "ev"); (tm_at "ev"); (tm_at "rv"); (intro _; tm_at "ev"); (intro _; tm_at "rv"))
  | (apply ev_andV; (tm_at "ev"); (intro _; tm_at "ev"))
  | (apply ev_orV; (tm_at "ev"); (intro _; tm_at "ev"))
  | (apply ev_notV; tm_at "ev")))
local macro_rules | `(tactic| tm_at "et") => `(tactic| (first
  | assumption
  | (apply et_test; tm_at "ev")
  | (apply et_B; tm_at "ev")
  | (apply et_not; tm_at "et")
  | (apply et_and; (tm_at "et"); (intro _; tm_at "et"))
  | (apply et_or; (tm_at "et"); (intro _; tm_at "et"))))
/-- tests by sums -/
local macro_rules | `(tactic| tm_at "bf") => `(tactic| (simp only [Bool.not_true, Bool.not_false, Bool.false_or, Bool.true_and, Bool.and_true, Bool.or_false, Bool.or_eq_false_iff, Bool.and_eq_true, decide_eq_false_iff_not, decide_eq_true_eq, Bool.not_eq_false', Bool.not_eq_true']; omega))

section
variable {P : Program} {w : World} {K : PySem.W.Frag} {mg : Str → Option Value} {base : Heap} {H : Hp}
def sp_are_words (K : PySem.W.Frag) : Sp := fun vs H Q _ => ∃ (ws : List W) (m : Int), vs = [.str (S (joinW ws)), .int m] ∧ ws ≠ [] ∧ (ws.length : Int) ≤ m ∧ ws.length ≤ 1000 ∧ (∀ x ∈ ws, WordOk x) ∧ RetV (.bl true) H Q
theorem v_are_words {ws : List W} {m : Int} (h1 : ws ≠ []) (h2 : (ws.length : Int) ≤ m) (h3 : ws.length ≤ 1000) (h4 : ∀ x ∈ ws, WordOk x) : SpV (sp_are_words K) [.str (S (joinW ws)), .int m] H (.bl true) := fun H1 e Q q E => ⟨ws, m, rfl, h1, h2, h3, h4, q⟩
theorem getD_memW {ws : List W} {i : Nat} (h : i < ws.length) : ws.getD i [] ∈ ws := by
  rw [List.getD_eq_getElem?_getD, List.getElem?_eq_getElem h]
  exact List.getElem_mem h
theorem c_are_words (T : Tx K mg) : Cal P w K mg base 2 "are_words" (sp_are_words K) [] := by
  refine cal_of T.d_are_words T.a_are_words sc_are_words (fun _ _ _ _ _ _ us hl => match us, hl with | [_, _], _ => rfl) (fun vs H Q E h => by (repeat (obtain ⟨_, h⟩ := h)); subst_vars; rfl) fun f cdv A outer s H vs Q E hr h => ?_
  obtain ⟨ws, m, rfl, h1, h2, h3, h4, q⟩ := h
  refine ⟨_, (pss_cons (ps_if (pt_not (pt_val (pe_callB call_isi rfl T.f_isinstance bt_isinstance (pa_cons (pv 0) (pa_cons (pe_bltn (v := .ty "str") rfl T.f_str bt_str rfl) pa_nil)))))
    (pss_one (ps_ret pe_bl))
    pss_nil)
  (pss_cons (ps_set (i := 2) sc_are_words.nd rfl (Or.inl rfl) (pe_split (pv 0) pe_str))
  (pss_one (ps_ret (pe_and (pe_cmpR op_le (pe_callB call_len_seq rfl T.f_len bt_len (pa_cons (pv 2) pa_nil)) (pv 1) (nomark _)) (pe_one (pe_callB (cr_all rfl) rfl T.f_all bt_all (pa_cons (pe_lc (own := [("word", 3)]) (g := gName 3) (tt := tYes) rfl sc_are_words.nd (pi_list (pv 2)) (blkOk_by (N := nm_are_words) (sc := defScope s_are_words) (by decide +kernel)) (fun _ _ _ _ _ => (pg_name (i := 3) sc_are_words.nd rfl (Or.inl rfl))) (fun _ _ _ _ _ => pts_nil) (fun _ _ _ _ _ => (pe_c (c_are_letters T) hr (by decide) rfl (pa_cons (pv 3) (pa_cons pe_int pa_nil))))) pa_nil)))))))), ?_⟩
  refine q_skip (et_is (by tm_at "et") (by decide)) fun H1 e1 => ?_
  have hl := joinW_len ws fun x hx => (h4 x hx).2.1
  refine q_asgL (el_split (ev_var rfl) (ev_is ev_c (by rw [eBl])) (by omega) rfl h1 fun x hx => word_no32 (h4 x hx)) fun p H2 hp e2 h2 => ?_
  have hp2 := sq_of (K := K) h2
  refine s_ret (ev_is (w := .bl true) (ev_andV (a := true) (b := true) (ev_is (ev_op (ev_len (ev_var rfl) hp2) (ev_var rfl) rv_I0) ?_) fun _ => ev_allN (ei_n (ei_list (ev_var rfl) hp2) fun _ _ e => ex_l e) (by rw [List.length_map]; omega) (fun _ => rfl) fun i hi => ?_) rfl) fun H3 e3 => ?_
  · rw [List.length_map, decide_eq_true (by omega)]
  · rw [List.length_map] at hi
    rw [getD_map (d := []) hi]
    have hw := h4 _ (getD_memW hi)
    have v1 := v_are_letters (K := K) (H := H2) (l := ws.getD i []) (m := 20) hw.1 (by have := hw.2.1; omega) (by have := hw.2.1; omega) hw.2.2
    tm_at "ev"
  · exact q H3 ((e1.trans e2).trans e3)
def sp_is_entry (K : PySem.W.Frag) : Sp := fun vs H Q _ => ∃ (a : Addr) (e : Ent), vs = [.ref a] ∧ H a = some (.tup (eV e)) ∧ EntOk e ∧ RetV (.bl true) H Q
theorem v_is_entry {a : Addr} {e : Ent} (h1 : H a = some (.tup (eV e))) (h2 : EntOk e) : SpV (sp_is_entry K) [.ref a] H (.bl true) := fun H1 x Q q E => ⟨a, e, rfl, x _ _ h1, h2, q⟩
theorem c_is_entry (T : Tx K mg) : Cal P w K mg base 3 "is_entry" (sp_is_entry K) [] := by
  refine cal_of T.d_is_entry T.a_is_entry sc_is_entry (fun _ _ _ _ _ _ us hl => match us, hl with | [_], _ => rfl) (fun vs H Q E h => by (repeat (obtain ⟨_, h⟩ := h)); subst_vars; rfl) fun f cdv A outer s H vs Q E hr h => ?_
  obtain ⟨a, e, rfl, ha, ok, q⟩ := h
  refine ⟨_, (pss_cons (ps_if (PW.pt (pw_or (pt_not (pt_val (pe_callB call_isi rfl T.f_isinstance bt_isinstance (pa_cons (pv 0) (pa_cons (pe_bltn (v := .ty "tuple") rfl T.f_tuple bt_tuple rfl) pa_nil))))) (pw_or (pt_cmpR op_lt (pe_callB call_len_seq rfl T.f_len bt_len (pa_cons (pv 0) pa_nil)) pe_int (nomark _)) (pw_or1 (pt_not (pt_val (pe_callB call_isi rfl T.f_isinstance bt_isinstance (pa_cons (pe_ix ix_tup (pv 0) pe_int (fun _ _ => rfl)) (pa_cons (pe_bltn (v := .ty "str") rfl T.f_str bt_str rfl) pa_nil)))))))))
    (pss_one (ps_ret pe_bl))
    pss_nil)
  (pss_cons (ps_if (pt_cmpR op_eq (pe_ix ix_tup (pv 0) pe_int (fun _ _ => rfl)) pe_str (nomark _))
    (pss_one (ps_ret (pe_and (pe_cmpR op_eq (pe_callB call_len_seq rfl T.f_len bt_len (pa_cons (pv 0) pa_nil)) pe_int (nomark _)) (pe_one (pe_c (c_are_words T) hr (by decide) rfl (pa_cons (pe_ix ix_tup (pv 0) pe_int (fun _ _ => rfl)) (pa_cons pe_int pa_nil)))))))
    pss_nil)
  (pss_cons (ps_if (pt_cmpR op_eq (pe_ix ix_tup (pv 0) pe_int (fun _ _ => rfl)) pe_str (nomark _))
    (pss_one (ps_ret (pe_and (pe_cmpR op_eq (pe_callB call_len_seq rfl T.f_len bt_len (pa_cons (pv 0) pa_nil)) pe_int (nomark _)) (pe_one (pe_c (c_are_letters T) hr (by decide) rfl (pa_cons (pe_ix ix_tup (pv 0) pe_int (fun _ _ => rfl)) (pa_cons pe_int pa_nil)))))))
    pss_nil)
  (pss_one (ps_ret (pe_cmpR (op_eqD hr.units) (pv 0) (pe_tup (pa_cons pe_str pa_nil)) (nomark _))))))), ?_⟩
  have c1 : ∀ x y : W, decide (V.str (S x) = V.str (S y)) = decide (x = y) := fun x y => vS_eq
  cases ok with
  | phrase ws w1 w6 wo =>
    have ht := st_of (K := K) ha
    have a0 : atI (eV [sPhrase, joinW ws]) 0 = some (vS sPhrase) := rfl
    have a1 : atI (eV [sPhrase, joinW ws]) 1 = some (vS (joinW ws)) := rfl
    refine q_skip (et_is (by tm_at "et") (by rfl)) fun H1 e1 => ?_
    have ht1 := ex_t e1 ht
    refine q_when (b := true) (et_is (by tm_at "et") (by rw [ePh, c1]; rfl)) (fun _ H2 e2 => ?_) (fun z => by cases z)
    have ht2 := ex_t e2 ht1
    have v1 := v_are_words (K := K) (H := H2) (ws := ws) (m := 6) (fun z => by rw [z] at w1; simp at w1) (by omega) (by omega) wo
    refine s_ret (ev_is (w := .bl true) (by tm_at "ev") (by rfl)) fun H3 e3 => ?_
    exact q H3 ((e1.trans e2).trans e3)
  | part l w1 w6 wo =>
    have ht := st_of (K := K) ha
    have a0 : atI (eV [sPart, l]) 0 = some (vS sPart) := rfl
    have a1 : atI (eV [sPart, l]) 1 = some (vS l) := rfl
    refine q_skip (et_is (by tm_at "et") (by rfl)) fun H1 e1 => ?_
    have ht1 := ex_t e1 ht
    refine q_skip (et_is (by tm_at "et") (by rw [ePh, c1]; rfl)) fun H2 e2 => ?_
    have ht2 := ex_t e2 ht1
    refine q_when (b := true) (et_is (by tm_at "et") (by rw [ePa, c1]; rfl)) (fun _ H3 e3 => ?_) (fun z => by cases z)
    have ht3 := ex_t e3 ht2
    have v1 := v_are_letters (K := K) (H := H3) (l := l) (m := 6) w1 (by omega) (by omega) wo
    refine s_ret (ev_is (w := .bl true) (by tm_at "ev") (by rfl)) fun H4 e4 => ?_
    exact q H4 (((e1.trans e2).trans e3).trans e4)
  | fin =>
    have ht := st_of (K := K) ha
    have a0 : atI (eV [sEnd]) 0 = some (vS sEnd) := rfl
    refine q_skip (et_is (by tm_at "et") (by rfl)) fun H1 e1 => ?_
    have ht1 := ex_t e1 ht
    refine q_skip (et_is (by tm_at "et") (by rw [ePh, c1]; rfl)) fun H2 e2 => ?_
    have ht2 := ex_t e2 ht1
    refine q_skip (et_is (by tm_at "et") (by rw [ePa, c1]; rfl)) fun H3 e3 => ?_
    have ht3 := ex_t e3 ht2
    have fl := fl_tup (k := 0) (ds := [dS sEnd]) fun d hd => by
      obtain rfl := List.mem_singleton.mp hd
      exact fl_S (fun b hb => by revert b; decide)
    refine s_ret (ev_opU (xs := eV [sEnd]) (ev_var rfl) (eu_tup (by tm_at "ea") (by decide)) fun p H4 hp e4 => rv_eqD (dp_TS (ws := [sEnd]) (ex_t e4 ht3)) (dp_TS (ws := [sEnd]) (st_of hp)) fl.shaped fl.shaped) fun H4 e4 => ?_
    have := q H4 (((e1.trans e2).trans e3).trans e4)
    rw [show (PyData.tuple ([sEnd].map dS)).eqv (PyData.tuple ([sEnd].map dS)) = true from by rw [eqv_TS]; rfl]
    exact this
/-! ### sums, good words -/
def sp_sum_of (K : PySem.W.Frag) : Sp := fun vs H Q _ => ∃ (a b : Addr) (us ps : List Int), vs = [.ref a, .ref b] ∧ SqL K H a (us.map V.int) ∧ SqL K H b (ps.map V.int) ∧ us.length ≤ 1000 ∧ (∀ u ∈ us, -1000 < u ∧ u < 1000) ∧ RetV (.int (sumP us ps)) H Q
theorem v_sum_of {a b : Addr} {us ps : List Int} (h1 : SqL K H a (us.map V.int)) (h2 : SqL K H b (ps.map V.int)) (h3 : us.length ≤ 1000) (h4 : ∀ u ∈ us, -1000 < u ∧ u < 1000) : SpV (sp_sum_of K) [.ref a, .ref b] H (.int (sumP us ps)) := fun H1 e Q q E => ⟨a, b, us, ps, rfl, ex_l e h1, ex_l e h2, h3, h4, q⟩
theorem zip_range (us ps : List Int) : (List.range (min us.length ps.length)).map (fun i => us.getD i 0 * ps.getD i 0) = List.zipWith (· * ·) us ps := by
  apply List.ext_getElem?
  intro i
  rw [List.getElem?_map]
  by_cases h : i < min us.length ps.length
  · have h1 : i < us.length := by omega
    have h2 : i < ps.length := by omega
    rw [List.getElem?_range h, List.getElem?_zipWith, List.getElem?_eq_getElem h1, List.getElem?_eq_getElem h2]
    show some (us.getD i 0 * ps.getD i 0) = some (us[i] * ps[i])
    rw [List.getD_eq_getElem?_getD, List.getElem?_eq_getElem h1, List.getD_eq_getElem?_getD, List.getElem?_eq_getElem h2]
    rfl
  · rw [List.getElem?_eq_none (by rw [List.length_range]; omega), List.getElem?_eq_none (by rw [List.length_zipWith]; omega)]
    rfl
theorem getD_memI {us : List Int} {i : Nat} (h : i < us.length) : us.getD i 0 ∈ us := by
  rw [List.getD_eq_getElem?_getD, List.getElem?_eq_getElem h]
  exact List.getElem_mem h
theorem c_sum_of (T : Tx K mg) : Cal P w K mg base 1 "sum_of" (sp_sum_of K) [] := by
  refine cal_of T.d_sum_of T.a_sum_of sc_sum_of (fun _ _ _ _ _ _ us hl => match us, hl with | [_, _], _ => rfl) (fun vs H Q E h => by (repeat (obtain ⟨_, h⟩ := h)); subst_vars; rfl) fun f cdv A outer s H vs Q E hr h => ?_
  obtain ⟨a, b, us, ps, rfl, ha, hb, h3, h4, q⟩ := h
  refine ⟨_, (pss_one (ps_ret (pe_callB (cr_sum rfl) rfl T.f_sum bt_sum (pa_cons (pe_lc (own := [("weight", 2), ("place", 3)]) (g := gTup K 2 (gCons (gName 2) (gCons (gName 3) gNil))) (tt := tYes) rfl sc_sum_of.nd (pi_zip rfl T.f_zip (pa_cons (pv 0) (pa_cons (pv 1) pa_nil))) (blkOk_by (N := nm_sum_of) (sc := defScope s_sum_of) (by decide +kernel)) (fun _ _ _ _ _ => (pg_tup rfl (pgs_cons (pg_name (i := 2) sc_sum_of.nd rfl (Or.inl rfl)) (pgs_cons (pg_name (i := 3) sc_sum_of.nd rfl (Or.inl rfl)) pgs_nil)))) (fun _ _ _ _ _ => pts_nil) (fun _ _ _ _ _ => (pe_op op_mul (pv 2) (pv 3)))) pa_nil)))), ?_⟩
  refine s_ret (ev_sum (ns := List.zipWith (· * ·) us ps) (by
    rw [← zip_range, List.map_map]
    have h := el_lcPY (K := K) (te := tOp (rI CMul fun i j => .int (i * j)) (tVar 2) (tVar 3)) (j := 2) (k := 3) (vs := [2, 3]) (fun i => V.int (us.getD i 0 * ps.getD i 0)) (ep_n (ep_zip (K := K) (σ := [some (V.ref a), some (V.ref b), none, none]) (H := H) (ta := tCons (tVar 0) (tCons (tVar 1) tNil)) (by tm_at "ea") ha hb) fun _ _ e g => ⟨ex_l e g.1, ex_l e g.2⟩) (by rw [List.length_map, List.length_map]; omega) (fun _ _ => rfl) fun i hi => by
      rw [List.length_map, List.length_map] at hi
      rw [getD_map (d := 0) (by omega), getD_map (d := 0) (by omega)]
      have hu := h4 _ (getD_memI (us := us) (i := i) (by omega))
      tm_at "ev"
    rw [List.length_map, List.length_map] at h
    exact h)) fun H1 e1 => ?_
  exact q H1 e1
def sp_is_good (K : PySem.W.Frag) : Sp := fun vs H Q _ => ∃ (a : Addr) (c : Cd) (x : W), vs = [.str (S c.al), .ref a, .int c.rs, .str (S x)] ∧ SqL K H a (c.ws.map V.int) ∧ CdOk c ∧ IsWord c x ∧ RetV (.bl (goodB c x)) H Q
theorem v_is_good {a : Addr} {c : Cd} {x : W} (h1 : SqL K H a (c.ws.map V.int)) (h2 : CdOk c) (h3 : IsWord c x) : SpV (sp_is_good K) [.str (S c.al), .ref a, .int c.rs, .str (S x)] H (.bl (goodB c x)) := fun H1 e Q q E => ⟨a, c, x, rfl, ex_l e h1, h2, h3, q⟩
theorem ws_small {c : Cd} (ok : CdOk c) : ∀ u ∈ c.ws, -1000 < u ∧ u < 1000 := fun u hu => by
  have := ok.rng u hu
  have := ok.m25
  omega
theorem c_is_good (T : Tx K mg) : Cal P w K mg base 2 "is_good" (sp_is_good K) [] := by
  refine cal_of T.d_is_good T.a_is_good sc_is_good (fun _ _ _ _ _ _ us hl => match us, hl with | [_, _, _, _], _ => rfl) (fun vs H Q E h => by (repeat (obtain ⟨_, h⟩ := h)); subst_vars; rfl) fun f cdv A outer s H vs Q E hr h => ?_
  obtain ⟨a, c, x, rfl, ha, ok, hx, q⟩ := h
  refine ⟨_, (pss_cons (ps_setLc (i := 4) (own := [("letter", 5)]) (g := gName 5) (tt := tYes) rfl sc_is_good.nd rfl rfl (sw_true rfl rfl rfl (by decide +kernel)) (pi_str (pv 3)) (blkOk_by (N := nm_is_good) (sc := defScope s_is_good) (by decide +kernel)) (fun _ _ _ _ _ => (pg_name (i := 5) sc_is_good.nd rfl (Or.inl rfl))) (fun _ _ _ _ _ => pts_nil) (fun _ _ _ _ _ => (pe_bmK (K := K) rfl PySem.F.plainAttrs_str PySem.F.slot_str_index PySem.F.type_str_index mt_sindex (pv 0) (pa_cons (pv 5) pa_nil))))
  (pss_one (ps_ret (pe_cmpR op_eq (pe_op op_mod (pe_op op_sub (pe_c (c_sum_of T) hr (by decide) rfl (pa_cons (pv 1) (pa_cons (pv 4) pa_nil))) (pv 2)) (pe_callB call_len_str rfl T.f_len bt_len (pa_cons (pv 0) pa_nil))) pe_int (nomark _))))), ?_⟩
  have := ok.n5
  have := ok.m25
  have := ok.m5
  have hxl : x.length = c.ws.length := hx.1
  refine q_asgL (xs := (plc c x).map V.int) ?_ fun p H1 hp e1 h1 => ?_
  · have h := el_lcY (te := tBM K "str" _ (tVar 0) (tCons (tVar 5) tNil)) (j := 5) (vs := [5]) (fun i => V.int ((c.al.idxOf (x.getD i 0) : Nat) : Int)) (ei_n (ei_str (σ := [some (vS c.al), some (V.ref a), some (V.int c.rs), some (vS x), none, none]) (H := H) (te := tVar 3) (l := x) (ev_var rfl)) fun _ _ _ h => h) (by omega) (fun _ => rfl) fun i hi => ev_sindex (l := c.al) (ev_var rfl) (ev_var rfl) (hx.2 _ (getD_mem hi))
    rw [map_range_getD x 0 (fun a => V.int ((c.al.idxOf a : Nat) : Int))] at h
    unfold plc
    rw [List.map_map]
    exact h
  · have v1 := v_sum_of (K := K) (H := H1) (ex_l e1 ha) (sq_of h1) (by omega) (ws_small ok)
    refine s_ret (by tm_at "ev") fun H2 e2 => ?_
    have := q H2 (e1.trans e2)
    unfold goodB at this
    rw [← vint_eq] at this
    exact this
end
end Cb
/-! K9: codes made; good words by numbers and back. -/
namespace Cb
open PySem PySem.Spec PyProof.Rows L2 Evl
open C8 (Cal Met Mak pe_c pe_mk pe_mt pe_mt0 pe_gc)

local macro_rules | `(tactic| tm_at "side") => `(tactic| (first | assumption | omega | ((try simp only [List.length_append, List.length_cons, List.length_nil, List.length_map, List.length_range]); omega) | exact ⟨by omega, by omega⟩ | exact .inl ⟨by omega, by omega⟩ | exact .inr ⟨by omega, by omega⟩ | decide))
local macro_rules | `(tactic| tm_at "rv") => `(tactic| (first
  | exact rv_I0
  | exact rv_mod (by tm_at "side")
  | exact rv_I (by tm_at "side")
  | exact rv_eq rfl
  | exact rv_ne rfl
  | exact rv_addS (by tm_at "side")
  | exact rv_ixSS (by tm_at "side") (by assumption)
  | exact rv_ixL (by assumption) (by assumption)
  | exact rv_ixT (by assumption) (by assumption)
  | exact rv_inS
  | exact rv_isN
  | exact rv_notN
  | assumption))
local macro_rules | `(tactic| tm_at "eo") => `(tactic| (first | exact eo_none | (apply eo_some; tm_at "ev")))
local macro_rules | `(tactic| tm_at "ea") => `(tactic| (first | exact ea_nil | (apply ea_cons; (tm_at "ev"); (tm_at "ea"))))
local macro_rules | `(tactic| tm_at "sp") => `(tactic| assumption)
local macro_rules | `(tactic| tm_at "ev") => `(tactic| (first
  | exact ev_c
  | exact ev_var rfl
  | assumption
  | (apply ev_op; (tm_at "ev"); (tm_at "ev"); (tm_at "rv"))
  | (apply ev_un (hr := ru_neg); tm_at "ev")
  | (apply ev_fld; (tm_at "ev"); assumption; assumption; assumption; rfl)
  | (apply ev_lenStr; (tm_at "ev"); (tm_at "side"))
  | (apply ev_lenDT; (tm_at "ev"); assumption)
  | (apply ev_len; (tm_at "ev"); assumption)
  | (apply ev_lenT; (tm_at "ev"); assumption)
  | (apply ev_slS; (tm_at "ev"); (tm_at "eo"); (tm_at "eo"); (tm_at "side"))
  | (apply ev_call; (tm_at "ea"); (tm_at "sp"))
  | (apply ev_meth; (tm_at "ev"); assumption; rfl; (tm_at "ea"); (tm_at "sp"))
  | (apply ev_isStr; tm_at "ev")
  | (apply ev_isInt; tm_at "ev")
  | (apply ev_isBoolI; tm_at "ev")
  | (apply ev_isList; (tm_at "ev"); assumption)
  | (apply ev_isTuple; (tm_at "ev"); assumption)
  | (apply ev_abs; tm_at "ev")
  | (apply ev_int1; tm_at "ev")
  | (apply ev_max2; (tm_at "ev"); (tm_at "ev"))
  | (apply ev_sindex; (tm_at "ev"); (tm_at "ev"); assumption)
  | (apply ev_dinK; (tm_at "ev"); (tm_at "ev"); assumption)
  | (apply ev_dinT; (tm_at "ev"); (tm_at "ev"); assumption; assumption)
  | (apply ev_chain; (tm_at "ev"); (tm_at "ev"); (tm_at "rv"); (intro _; tm_at "ev"); (intro _; tm_at "rv"))
  | (apply ev_andV; (tm_at "ev"); (intro _; tm_at "ev"))
  | (apply ev_orV; (tm_at "ev"); (intro _; tm_at "ev"))
  | (apply ev_notV; tm_at "ev")))
local macro_rules | `(tactic| tm_at "et") => `(tactic| (first
  | assumption
  | (apply et_test; tm_at "ev")
  | (apply et_B; tm_at "ev")
  | (apply et_not; tm_at "et")
  | (apply et_and; (tm_at "et"); (intro _; tm_at "et"))
  | (apply et_or; (tm_at "et"); (intro _; tm_at "et"))))
/-- tests by sums -/
local macro_rules | `(tactic| tm_at "bf") => `(tactic| (simp only [Bool.not_true, Bool.not_false, Bool.false_or, Bool.true_and, Bool.and_true, Bool.or_false, Bool.or_eq_false_iff, Bool.and_eq_true, decide_eq_false_iff_not, decide_eq_true_eq, Bool.not_eq_false', Bool.not_eq_true']; omega))

section
variable {P : Program} {w : World} {K : PySem.W.Frag} {mg : Str → Option Value} {base : Heap} {H : Hp}
def sp_is_alphabet (K : PySem.W.Frag) : Sp := fun vs H Q _ => ∃ c : Cd, vs = [.str (S c.al)] ∧ CdOk c ∧ RetV (.bl true) H Q
theorem v_is_alphabet {c : Cd} (h : CdOk c) : SpV (sp_is_alphabet K) [.str (S c.al)] H (.bl true) := fun H1 e Q q E => ⟨c, rfl, h, q⟩
theorem c_is_alphabet (T : Tx K mg) : Cal P w K mg base 1 "is_alphabet" (sp_is_alphabet K) [] := by
  refine cal_of T.d_is_alphabet T.a_is_alphabet sc_is_alphabet (fun _ _ _ _ _ _ us hl => match us, hl with | [_], _ => rfl) (fun vs H Q E h => by (repeat (obtain ⟨_, h⟩ := h)); subst_vars; rfl) fun f cdv A outer s H vs Q E hr h => ?_
  obtain ⟨c, rfl, ok, q⟩ := h
  have := ok.m5
  have := ok.m25
  refine ⟨_, (pss_cons (ps_if (PW.pt (pw_or (pt_not (pt_val (pe_callB call_isi rfl T.f_isinstance bt_isinstance (pa_cons (pv 0) (pa_cons (pe_bltn (v := .ty "str") rfl T.f_str bt_str rfl) pa_nil))))) (pw_or (pt_cmpR op_lt (pe_callB call_len_str rfl T.f_len bt_len (pa_cons (pv 0) pa_nil)) pe_int (nomark _)) (pw_or (pt_cmpR op_gt (pe_callB call_len_str rfl T.f_len bt_len (pa_cons (pv 0) pa_nil)) pe_int (nomark _)) (pw_or1 (pt_cmpR op_lt (pe_lenSetT rfl rfl T.f_len rfl T.f_set (pv 0)) (pe_callB call_len_str rfl T.f_len bt_len (pa_cons (pv 0) pa_nil)) (nomark _)))))))
    (pss_one (ps_ret pe_bl))
    pss_nil)
  (pss_one (ps_ret (pe_callB (cr_all rfl) rfl T.f_all bt_all (pa_cons (pe_lc (own := [("letter", 1)]) (g := gName 1) (tt := tYes) rfl sc_is_alphabet.nd (pi_str (pv 0)) (blkOk_by (N := nm_is_alphabet) (sc := defScope s_is_alphabet) (by decide +kernel)) (fun _ _ _ _ _ => (pg_name (i := 1) sc_is_alphabet.nd rfl (Or.inl rfl))) (fun _ _ _ _ _ => pts_nil) (fun _ _ _ _ _ => (pe_cmpR op_in_sign (pv 1) (pe_gc rfl T.g_LETTERS_codes) rfl))) pa_nil))))), ?_⟩
  have v0 : Ev (tLenSetT (tVar 0)) [some (vS c.al), none] H (.int ((c.al.length : Nat) : Int)) := ev_lenSetT (ev_var rfl) (by omega) ok.nd
  refine q_skip (et_is (by tm_at "et") (by tm_at "bf")) fun H1 e1 => ?_
  refine s_ret (ev_allN (ei_n (ei_str (ev_var rfl)) (fun _ _ _ h => h)) (by omega) (fun _ => rfl) fun i hi => ev_is (ev_op (ev_var rfl) ev_c rv_inZ) (by rw [decide_eq_true (az_mem (getD_az ok.az hi))])) fun H2 e2 => ?_
  exact q H2 (e1.trans e2)
def sp_is_place (K : PySem.W.Frag) : Sp := fun vs H Q _ => ∃ i m : Int, vs = [.int i, .int m] ∧ 0 ≤ i ∧ i < m ∧ RetV (.bl true) H Q
theorem v_is_place {i m : Int} (h1 : 0 ≤ i) (h2 : i < m) : SpV (sp_is_place K) [.int i, .int m] H (.bl true) := fun H1 e Q q E => ⟨i, m, rfl, h1, h2, q⟩
theorem c_is_place (T : Tx K mg) : Cal P w K mg base 2 "is_place" (sp_is_place K) [] := by
  refine cal_of T.d_is_place T.a_is_place sc_is_place (fun _ _ _ _ _ _ us hl => match us, hl with | [_, _], _ => rfl) (fun vs H Q E h => by (repeat (obtain ⟨_, h⟩ := h)); subst_vars; rfl) fun f cdv A outer s H vs Q E hr h => ?_
  obtain ⟨i, m, rfl, h1, h2, q⟩ := h
  refine ⟨_, (pss_one (ps_ret (pe_and (pe_c (c_is_whole T) hr (by decide) rfl (pa_cons (pv 0) pa_nil)) (pe_one (pe_chain op_le op_lt pe_int (pv 0) (pv 1)))))), ?_⟩
  have v1 := v_is_whole (K := K) (H := H) (i := i)
  refine s_ret (ev_is (w := .bl true) (by tm_at "ev") ?_) fun H1 e1 => ?_
  · rw [decide_eq_true h1, decide_eq_true h2]
    rfl
  · exact q H1 e1
def sp_are_weights (K : PySem.W.Frag) : Sp := fun vs H Q _ => ∃ (p : Addr) (c : Cd), vs = [.ref p, .int (c.al.length : Nat)] ∧ SqL K H p (c.ws.map V.int) ∧ CdOk c ∧ RetV (.bl true) H Q
theorem v_are_weights {p : Addr} {c : Cd} (h1 : SqL K H p (c.ws.map V.int)) (h2 : CdOk c) : SpV (sp_are_weights K) [.ref p, .int ((c.al.length : Nat) : Int)] H (.bl true) := fun H1 e Q q E => ⟨p, c, rfl, ex_l e h1, h2, q⟩
theorem c_are_weights (T : Tx K mg) : Cal P w K mg base 3 "are_weights" (sp_are_weights K) [] := by
  refine cal_of T.d_are_weights T.a_are_weights sc_are_weights (fun _ _ _ _ _ _ us hl => match us, hl with | [_, _], _ => rfl) (fun vs H Q E h => by (repeat (obtain ⟨_, h⟩ := h)); subst_vars; rfl) fun f cdv A outer s H vs Q E hr h => ?_
  obtain ⟨p, c, rfl, hp, ok, q⟩ := h
  have := ok.n3
  have := ok.n5
  refine ⟨_, (pss_cons (ps_if (PW.pt (pw_or (pt_not (pt_val (pe_callB call_isi rfl T.f_isinstance bt_isinstance (pa_cons (pv 0) (pa_cons (pe_bltn (v := .ty "list") rfl T.f_list bt_list rfl) pa_nil))))) (pw_or (pt_cmpR op_lt (pe_callB call_len_seq rfl T.f_len bt_len (pa_cons (pv 0) pa_nil)) pe_int (nomark _)) (pw_or1 (pt_cmpR op_gt (pe_callB call_len_seq rfl T.f_len bt_len (pa_cons (pv 0) pa_nil)) pe_int (nomark _))))))
    (pss_one (ps_ret pe_bl))
    pss_nil)
  (pss_one (ps_ret (pe_callB (cr_all rfl) rfl T.f_all bt_all (pa_cons (pe_lc (own := [("weight", 2)]) (g := gName 2) (tt := tYes) rfl sc_are_weights.nd (pi_list (pv 0)) (blkOk_by (N := nm_are_weights) (sc := defScope s_are_weights) (by decide +kernel)) (fun _ _ _ _ _ => (pg_name (i := 2) sc_are_weights.nd rfl (Or.inl rfl))) (fun _ _ _ _ _ => pts_nil) (fun _ _ _ _ _ => (pe_c (c_is_place T) hr (by decide) rfl (pa_cons (pv 2) (pa_cons (pv 1) pa_nil))))) pa_nil))))), ?_⟩
  refine q_skip (et_is (by tm_at "et") (by rw [List.length_map]; tm_at "bf")) fun H1 e1 => ?_
  have hp1 := ex_l e1 hp
  refine s_ret (ev_allN (ei_n (ei_list (ev_var rfl) hp1) fun _ _ e => ex_l e) (by rw [List.length_map]; omega) (fun _ => rfl) fun i hi => ?_) fun H2 e2 => ?_
  · rw [List.length_map] at hi
    rw [getD_map (d := 0) hi]
    have hr := ok.rng _ (getD_memI hi)
    have v1 := v_is_place (K := K) (H := H1) hr.1 hr.2
    tm_at "ev"
  · exact q H2 (e1.trans e2)
/-! ### a code -/
theorem el_listT {σ : L2.St} {ta : TE} {p : Addr} {xs : List V} (ha : Ev ta σ H (.ref p)) (h : SqL K H p xs) : EvL (tCB (fun xs H Q => ∃ p ys, xs = [.ref p] ∧ (SqL K H p ys ∨ SqT K H p ys) ∧ ∀ l, H l = none → Q (.ref l) (upd H l (.lst ys))) (tCons ta tNil)) σ H xs := el_list ha h
def sp_Code_init (K : PySem.W.Frag) : Sp := fun vs H Q _ => ∃ (x dx p : Addr) (c : Cd), vs = [.ref x, .str (S c.al), .ref p, .int c.rs] ∧ H x = some (.ins (He.ga K "Code") dx []) ∧ H p = some (.lst (c.ws.map V.int)) ∧ CdOk c ∧ ∀ H', ExB x H H' → CodeAt K H' x c → Q .non H'
theorem mk_Code (T : Tx K mg) : Mak P w K mg base 4 "Code" (He.ga K "Code") (sp_Code_init K) [] := by
  refine mak_of T.mk_Code T.a_Code T.d_Code_init sc_Code_init (fun _ _ _ _ _ _ us hl => match us, hl with | [_, _, _, _], _ => rfl) (fun vs H Q E h => by (repeat (obtain ⟨_, h⟩ := h)); subst_vars; rfl) fun f cdv A outer s H vs Q E hr h => ?_
  obtain ⟨x, dx, p, c, rfl, hx, hp, ok, q⟩ := h
  have := ok.m5
  have := ok.m25
  have clC := T.cl_Code; have n1 := T.n_Code_letters; have n2 := T.n_Code_loads; have n3 := T.n_Code_remainder
  refine ⟨_, (pss_cons (ps_if (PW.pt (pw_or (pt_not (pt_val (pe_c (c_is_alphabet T) hr (by decide) rfl (pa_cons (pv 1) pa_nil)))) (pw_or (pt_not (pt_val (pe_c (c_are_weights T) hr (by decide) rfl (pa_cons (pv 2) (pa_cons (pe_callB call_len_str rfl T.f_len bt_len (pa_cons (pv 1) pa_nil)) pa_nil))))) (pw_or1 (pt_not (pt_val (pe_c (c_is_place T) hr (by decide) rfl (pa_cons (pv 3) (pa_cons (pe_callB call_len_str rfl T.f_len bt_len (pa_cons (pv 1) pa_nil)) pa_nil)))))))))
    (pss_one ps_never)
    pss_nil)
  (pss_cons (ps_if (pt_not (pt_val (pe_c (c_are_safe T) hr (by decide) rfl (pa_cons (pv 2) (pa_cons (pe_callB call_len_str rfl T.f_len bt_len (pa_cons (pv 1) pa_nil)) pa_nil)))))
    (pss_one ps_never)
    pss_nil)
  (pss_cons (ps_fld (pv 0) (pv 1) rfl)
  (pss_cons (ps_fld (pv 0) (pe_callTy call_list_of rfl T.f_list bt_list (pa_cons (pv 2) pa_nil)) rfl)
  (pss_one (ps_fld (pv 0) (pv 3) rfl)))))), ?_⟩
  have hne : p ≠ x := by
    intro z
    subst z
    rw [hx] at hp
    cases hp
  have v1 := v_is_alphabet (K := K) (H := H) ok
  have v2 := v_are_weights (K := K) (H := H) (sq_of hp) ok
  have v3 := v_is_place (K := K) (H := H) ok.rs0 ok.rsm
  refine q_skip (et_is (by tm_at "et") (by rfl)) fun H1 e1 => ?_
  have v4 := v_are_safe (K := K) (H := H1) (m := (c.al.length : Nat)) (sq_of (e1 _ _ hp)) (by omega) (safe_fits ok.safe)
  refine q_skip (et_is (by tm_at "et") (by rfl)) fun H2 e2 => ?_
  refine q_fld (ev_var rfl) (ev_var rfl) ((e1.trans e2) _ _ hx) clC n1 (by decide) fun H3 e3 => ?_
  have b3 : ExB x H (upd H3 x (.ins (He.ga K "Code") dx (putF "letters" (.str (S c.al)) []))) := (ExB.of ((e1.trans e2).trans e3)).trans ExB.upd
  refine q_fldR (EvL.rr (el_listT (ev_var rfl) (sq_of (b3 _ _ hne hp)))) (ev_var rfl) upd_same clC n2 (by show 1 < 1000; decide) fun y H4 H5 e4 r e5 => ?_
  obtain ⟨lp, rfl, hl0, hl⟩ := r
  have hlx : lp ≠ x := by
    intro z
    subst z
    rw [upd_same] at hl0
    cases hl0
  refine s_fld (ev_var rfl) (ev_var rfl) upd_same clC n3 (by show 2 < 1000; decide) fun H6 e6 => ?_
  have b6 := ((b3.trans (ExB.of (e4.trans e5))).trans (ExB.upd (x := x))).trans (ExB.of e6)
  refine q _ (b6.trans ExB.upd) ⟨ok, dx, lp, upd_same, ?_⟩
  rw [upd_ne hlx]
  refine e6 _ _ ?_
  rw [upd_ne hlx]
  exact e5 _ _ hl
/-- Code(alphabet, a new list, rest) -/
theorem spm_Code {c : Cd} {p : Addr} (ok : CdOk c) (hp : H p = some (.lst (c.ws.map V.int))) {E : XK} : ∀ x dx, H x = none → H dx = none → dx ≠ x → ∀ Q : VK, (∀ v H2, Ex H H2 → (∃ q, v = .ref q ∧ CodeAt K H2 q c) → Q v H2) →
    sp_Code_init K (.ref x :: ([.str (S c.al), .ref p, .int c.rs] ++ [])) (upd (upd H dx (.own x)) x (.ins (He.ga K "Code") dx [])) (fun v H2 => v = .non ∧ Q (.ref x) H2) E := fun x dx hx hdx hne Q q => by
  have h1 : p ≠ x := ne_of_none hp hx
  have h2 : p ≠ dx := ne_of_none hp hdx
  refine ⟨x, dx, p, c, rfl, upd_same, by rw [upd_ne h1, upd_ne h2]; exact hp, ok, fun H' b hc => ⟨rfl, q _ H' (fun a o ha => ?_) ⟨x, rfl, hc⟩⟩⟩
  refine b a o (ne_of_none ha hx) ?_
  rw [upd_ne (ne_of_none ha hx), upd_ne (ne_of_none ha hdx)]
  exact ha
def sp_Code_alphabet (K : PySem.W.Frag) : Sp := fun vs H Q _ => ∃ (p : Addr) (c : Cd), vs = [.ref p] ∧ CodeAt K H p c ∧ RetV (.str (S c.al)) H Q
theorem v_Code_alphabet {p : Addr} {c : Cd} (h : CodeAt K H p c) : SpV (sp_Code_alphabet K) [.ref p] H (.str (S c.al)) := fun H1 e Q q E => ⟨p, c, rfl, h.ex e, q⟩
theorem m_Code_alphabet (T : Tx K mg) : Met P w K mg base 1 (He.ga K "Code") "alphabet" (sp_Code_alphabet K) [] := by
  refine met_of T.cl_Code T.me_Code_alphabet T.d_Code_alphabet sc_Code_alphabet (fun _ _ _ _ _ _ us hl => match us, hl with | [_], _ => rfl) (fun vs H Q E h => by (repeat (obtain ⟨_, h⟩ := h)); subst_vars; rfl) fun f cdv A outer s H vs Q E hr h => ?_
  obtain ⟨p, c, rfl, ⟨ok, dx, lp, hp, hl⟩, q⟩ := h
  have clC := T.cl_Code; have n1 := T.n_Code_letters; have n2 := T.n_Code_loads; have n3 := T.n_Code_remainder
  refine ⟨_, (pss_one (ps_ret (pe_fld (pv 0) rfl))), ?_⟩
  refine s_ret (by tm_at "ev") fun H1 e1 => ?_
  exact q H1 e1
def sp_Code_weights (K : PySem.W.Frag) : Sp := fun vs H Q _ => ∃ (p : Addr) (c : Cd), vs = [.ref p] ∧ CodeAt K H p c ∧ RetL (c.ws.map V.int) H Q
theorem l_Code_weights {p : Addr} {c : Cd} (h : CodeAt K H p c) : SpL (sp_Code_weights K) [.ref p] H (c.ws.map V.int) := fun H1 e Q q E => ⟨p, c, rfl, h.ex e, fun p H2 h1 h2 h3 => q p H2 h1 h2 h3⟩
theorem m_Code_weights (T : Tx K mg) : Met P w K mg base 1 (He.ga K "Code") "weights" (sp_Code_weights K) [] := by
  refine met_of T.cl_Code T.me_Code_weights T.d_Code_weights sc_Code_weights (fun _ _ _ _ _ _ us hl => match us, hl with | [_], _ => rfl) (fun vs H Q E h => by (repeat (obtain ⟨_, h⟩ := h)); subst_vars; rfl) fun f cdv A outer s H vs Q E hr h => ?_
  obtain ⟨p, c, rfl, ⟨ok, dx, lp, hp, hl⟩, q⟩ := h
  have clC := T.cl_Code; have n1 := T.n_Code_letters; have n2 := T.n_Code_loads; have n3 := T.n_Code_remainder
  refine ⟨_, (pss_one (ps_ret (pe_callTy call_list_of rfl T.f_list bt_list (pa_cons (pe_fld (pv 0) rfl) pa_nil)))), ?_⟩
  refine s_retL (el_listT (by tm_at "ev") (sq_of hl)) fun p1 H1 hp1 e1 h1 => ?_
  exact q p1 H1 hp1 e1 h1
def sp_Code_many (K : PySem.W.Frag) : Sp := fun vs H Q _ => ∃ (p : Addr) (c : Cd), vs = [.ref p] ∧ CodeAt K H p c ∧ RetV (.int (manyN c : Nat)) H Q
theorem v_Code_many {p : Addr} {c : Cd} (h : CodeAt K H p c) : SpV (sp_Code_many K) [.ref p] H (.int (manyN c : Nat)) := fun H1 e Q q E => ⟨p, c, rfl, h.ex e, q⟩
theorem pow_i {m : Nat} (i : Nat) : (((m ^ i : Nat) : Int)) * (m : Int) = ((m ^ (i + 1) : Nat) : Int) := by
  rw [Nat.pow_succ, Int.natCast_mul]
theorem m_Code_many (T : Tx K mg) : Met P w K mg base 1 (He.ga K "Code") "many" (sp_Code_many K) [] := by
  refine met_of T.cl_Code T.me_Code_many T.d_Code_many sc_Code_many (fun _ _ _ _ _ _ us hl => match us, hl with | [_], _ => rfl) (fun vs H Q E h => by (repeat (obtain ⟨_, h⟩ := h)); subst_vars; rfl) fun f cdv A outer s H vs Q E hr h => ?_
  obtain ⟨p, c, rfl, ⟨ok, dx, lp, hp, hl⟩, q⟩ := h
  have clC := T.cl_Code; have n1 := T.n_Code_letters; have n2 := T.n_Code_loads; have n3 := T.n_Code_remainder
  have := ok.n5
  have := ok.m25
  refine ⟨_, (pss_cons (ps_set (i := 1) sc_Code_many.nd rfl (Or.inl rfl) pe_int)
  (pss_cons (ps_for PassesOwn.never rfl (pi_list (pe_slice sl_list (pe_fld (pv 0) rfl) (po_some pe_int) po_none)) (pg_name (i := 2) sc_Code_many.nd rfl (Or.inl rfl))
    (pss_one (ps_set (i := 1) sc_Code_many.nd rfl (Or.inl rfl) (pe_op op_mul (pv 1) (pe_callB call_len_str rfl T.f_len bt_len (pa_cons (pe_fld (pv 0) rfl) pa_nil))))))
  (pss_one (ps_ret (pv 1))))), ?_⟩
  refine q_asg ev_c fun H1 e1 => ?_
  have hp1 := e1 _ _ hp
  have hs : EvL (tSl (rSlL K) (tFld K (tVar 0) "loads") (tPart (tC (.int 1))) tNoPart) [some (.ref p), some (.int 1), none] H1 ((c.ws.drop 1).map V.int) := by
    have := el_sl (K := K) (σ := [some (.ref p), some (.int 1), none]) (H := H1) (te := tFld K (tVar 0) "loads") (tl := tPart (tC (.int 1))) (th := tNoPart) (by tm_at "ev") (eo_some (i := ((1 : Nat) : Int)) ev_c) eo_none (sq_of (e1 _ _ hl))
    rw [cutV_map, cutG_from] at this
    exact this
  refine q_forNLn hs (fun pl i σ' H' => ∃ x, σ' = [some (.ref p), some (.int (c.al.length ^ i : Nat)), x] ∧ Ex H1 H' ∧ SqL K H' pl ((c.ws.drop 1).map V.int)) (fun pl H2 hn e2 h2 => ⟨none, rfl, e2, sq_of h2⟩) (fun pl i σ' H' _ hP => by obtain ⟨x, rfl, e, h⟩ := hP; exact h) (fun pl i x σ' H' hi hP => ?_) (fun pl σ' H' hP => ?_)
  · obtain ⟨y, rfl, e, h⟩ := hP
    have hp2 := e _ _ hp1
    refine s_asg (by tm_at "ev") fun H2 e2 => ?_
    refine ⟨some x, ?_, e.trans e2, ex_l e2 h⟩
    rw [pow_i]
    rfl
  · obtain ⟨y, rfl, e, h⟩ := hP
    refine s_ret (by tm_at "ev") fun H2 e2 => ?_
    have := q H2 ((e1.trans e).trans e2)
    unfold manyN at this
    rw [List.length_map, List.length_drop]
    exact this
def sp_Code_has_good (K : PySem.W.Frag) : Sp := fun vs H Q _ => ∃ (p : Addr) (c : Cd) (x : W), vs = [.ref p, .str (S x)] ∧ CodeAt K H p c ∧ IsWord c x ∧ RetV (.bl (goodB c x)) H Q
theorem v_Code_has_good {p : Addr} {c : Cd} {x : W} (h : CodeAt K H p c) (hx : IsWord c x) : SpV (sp_Code_has_good K) [.ref p, .str (S x)] H (.bl (goodB c x)) := fun H1 e Q q E => ⟨p, c, x, rfl, h.ex e, hx, q⟩
theorem m_Code_has_good (T : Tx K mg) : Met P w K mg base 3 (He.ga K "Code") "has_good" (sp_Code_has_good K) [] := by
  refine met_of T.cl_Code T.me_Code_has_good T.d_Code_has_good sc_Code_has_good (fun _ _ _ _ _ _ us hl => match us, hl with | [_, _], _ => rfl) (fun vs H Q E h => by (repeat (obtain ⟨_, h⟩ := h)); subst_vars; rfl) fun f cdv A outer s H vs Q E hr h => ?_
  obtain ⟨p, c, x, rfl, ⟨ok, dx, lp, hp, hl⟩, hx, q⟩ := h
  have clC := T.cl_Code; have n1 := T.n_Code_letters; have n2 := T.n_Code_loads; have n3 := T.n_Code_remainder
  have := ok.n5
  have hxl : x.length = c.ws.length := hx.1
  refine ⟨_, (pss_cons (ps_if (PW.pt (pw_or (pt_not (pt_val (pe_callB call_isi rfl T.f_isinstance bt_isinstance (pa_cons (pv 1) (pa_cons (pe_bltn (v := .ty "str") rfl T.f_str bt_str rfl) pa_nil))))) (pw_or1 (pt_cmpR op_ne (pe_callB call_len_str rfl T.f_len bt_len (pa_cons (pv 1) pa_nil)) (pe_callB call_len_seq rfl T.f_len bt_len (pa_cons (pe_fld (pv 0) rfl) pa_nil)) (nomark _)))))
    (pss_one (ps_ret pe_bl))
    pss_nil)
  (pss_cons (ps_if (pt_not (pt_val (pe_callB (cr_all rfl) rfl T.f_all bt_all (pa_cons (pe_lc (own := [("letter", 2)]) (g := gName 2) (tt := tYes) rfl sc_Code_has_good.nd (pi_str (pv 1)) (blkOk_by (N := nm_Code_has_good) (sc := defScope s_Code_has_good) (by decide +kernel)) (fun _ _ _ _ _ => (pg_name (i := 2) sc_Code_has_good.nd rfl (Or.inl rfl))) (fun _ _ _ _ _ => pts_nil) (fun _ _ _ _ _ => (pe_cmpR op_in_sign (pv 2) (pe_fldK (K := K) rfl (pv 0) rfl) rfl))) pa_nil))))
    (pss_one (ps_ret pe_bl))
    pss_nil)
  (pss_one (ps_ret (pe_c (c_is_good T) hr (by decide) rfl (pa_cons (pe_fld (pv 0) rfl) (pa_cons (pe_fld (pv 0) rfl) (pa_cons (pe_fld (pv 0) rfl) (pa_cons (pv 1) pa_nil))))))))), ?_⟩
  have hl0 := sq_of (K := K) hl
  refine q_skip (et_is (by tm_at "et") ?_) fun H1 e1 => ?_
  · rw [List.length_map, hxl, decide_eq_true (by rfl)]
    rfl
  have hp1 := e1 _ _ hp
  refine q_skip (et_is (et_not (et_B (ev_allN (ei_n (ei_str (ev_var rfl)) (fun _ _ _ h => h)) (by omega) (fun _ => rfl) fun i hi => ev_is (ev_op (ev_var rfl) (by tm_at "ev") rv_inS) (by rw [decide_eq_true (hx.2 _ (getD_mem hi))])))) (by rfl)) fun H2 e2 => ?_
  have hp2 := e2 _ _ hp1
  have v1 := v_is_good (K := K) (H := H2) (sq_of ((e1.trans e2) _ _ hl)) ok hx
  refine s_ret (by tm_at "ev") fun H3 e3 => ?_
  exact q H3 ((e1.trans e2).trans e3)
end
end Cb
/-! K10: good words by numbers and back; lines that garble. -/
namespace Cb
open PySem PySem.Spec PyProof.Rows L2 Evl
open C8 (Cal Met Mak pe_c pe_mk pe_mt pe_mt0 pe_gc)

theorem eLe : (Str.ofString "letter") = S [108, 101, 116, 116, 101, 114] := by rfl
theorem eSw : (Str.ofString "swap") = S [115, 119, 97, 112] := by rfl
theorem lasts_given (c : Cd) (left a : Int) (ha : c.ws.getD (c.ws.length - 1) 0 = a) : given c.al.length (fun i => decide (V.int ((left - a * (i : Int)) % (c.al.length : Int)) = V.int 0)) (fun i => V.int (i : Int)) = (lasts c left).map V.int := by
  unfold given lasts
  rw [List.filter_map, List.map_map]
  congr 1
  apply List.filter_congr
  intro i _
  rw [vint_eq, ha]
  rfl
theorem sum_ones {α : Type} (f : α → W) (hf : ∀ x, (f x).length = 1) : ∀ l : List α, ((l.map f).map (·.length)).sum = l.length
  | [] => rfl
  | x :: l => by
    rw [List.map_cons, List.map_cons, List.sum_cons, sum_ones f hf l, hf, List.length_cons]
    omega
theorem flat_ones {α : Type} (f : α → Nat) : ∀ l : List α, (l.map fun x => [f x]).flatten = l.map f
  | [] => rfl
  | x :: l => by
    rw [List.map_cons, List.flatten_cons, flat_ones f l]
    rfl
section
variable {K : PySem.W.Frag} {σ : L2.St} {H H' : Hp} {ta te : TE} {D : Ends} {tz : TS} {x y : V}
theorem eu_divmod {i j : Int} {ta : TA} (h : EvA ta σ H [.int i, .int j]) (hj : 0 < j ∧ j < 1073741824) : EvU (tCB (fun xs H Q => ∃ i j, xs = [.int i, .int j] ∧ CDiv i j ∧ ∀ p, H p = none → Q (.ref p) (upd H p (.tup [.int (i / j), .int (i % j)]))) ta) σ H [.int (i / j), .int (i % j)] := fun H1 e Q q =>
  h H1 e _ fun H2 e2 => ⟨i, j, rfl, hj, fun p hp => q p _ (fresh_back e2 hp) (e2.trans (Ex.new hp)) upd_same⟩
theorem q_unpU {i j : Nat} (h : EvU te σ H [x, y]) (k : ∀ H1, Ex H H1 → tz D ((σ.set i (some x)).set j (some y)) H1) : tSeq (tAsg te (gTup K 2 (gCons (gName i) (gCons (gName j) gNil)))) tz D σ H := h H (Ex.refl H) _ fun p H1 _ e hp =>
  ⟨p, [x, y], rfl, st_of hp, rfl, x, [y], rfl, y, [], rfl, rfl, k H1 e⟩
end
local macro_rules | `(tactic| tm_at "side") => `(tactic| (first | assumption | omega | ((try simp only [List.length_append, List.length_cons, List.length_nil, List.length_map, List.length_range]); omega) | exact ⟨by omega, by omega⟩ | exact .inl ⟨by omega, by omega⟩ | exact .inr ⟨by omega, by omega⟩ | decide))
local macro_rules | `(tactic| tm_at "rv") => `(tactic| (first
  | exact rv_I0
  | exact rv_mod (by tm_at "side")
  | exact rv_I (by tm_at "side")
  | exact rv_eq rfl
  | exact rv_ne rfl
  | exact rv_addS (by tm_at "side")
  | exact rv_ixSS (by tm_at "side") (by assumption)
  | exact rv_ixL (by assumption) (by assumption)
  | exact rv_ixT (by assumption) (by assumption)
  | exact rv_inS
  | exact rv_isN
  | exact rv_notN
  | assumption))
local macro_rules | `(tactic| tm_at "eo") => `(tactic| (first | exact eo_none | (apply eo_some; tm_at "ev")))
local macro_rules | `(tactic| tm_at "ea") => `(tactic| (first | exact ea_nil | (apply ea_cons; (tm_at "ev"); (tm_at "ea"))))
local macro_rules | `(tactic| tm_at "sp") => `(tactic| assumption)
local macro_rules | `(tactic| tm_at "ev") => `(tactic| (first
  | exact ev_c
  | exact ev_var rfl
  | assumption
  | (apply ev_op; (tm_at "ev"); (tm_at "ev"); (tm_at "rv"))
  | (apply ev_un (hr := ru_neg); tm_at "ev")
  | (apply ev_fld; (tm_at "ev"); assumption; assumption; assumption; rfl)
  | (apply ev_lenStr; (tm_at "ev"); (tm_at "side"))
  | (apply ev_lenDT; (tm_at "ev"); assumption)
  | (apply ev_len; (tm_at "ev"); assumption)
  | (apply ev_lenT; (tm_at "ev"); assumption)
  | (apply ev_slS; (tm_at "ev"); (tm_at "eo"); (tm_at "eo"); (tm_at "side"))
  | (apply ev_call; (tm_at "ea"); (tm_at "sp"))
  | (apply ev_meth; (tm_at "ev"); assumption; rfl; (tm_at "ea"); (tm_at "sp"))
  | (apply ev_isStr; tm_at "ev")
  | (apply ev_isInt; tm_at "ev")
  | (apply ev_isBoolI; tm_at "ev")
  | (apply ev_isList; (tm_at "ev"); assumption)
  | (apply ev_isTuple; (tm_at "ev"); assumption)
  | (apply ev_abs; tm_at "ev")
  | (apply ev_int1; tm_at "ev")
  | (apply ev_max2; (tm_at "ev"); (tm_at "ev"))
  | (apply ev_sindex; (tm_at "ev"); (tm_at "ev"); assumption)
  | (apply ev_dinK; (tm_at "ev"); (tm_at "ev"); assumption)
  | (apply ev_dinT; (tm_at "ev"); (tm_at "ev"); assumption; assumption)
  | (apply ev_chain; (tm_at "ev"); (tm_at "ev"); (tm_at "rv"); (intro _; tm_at "ev"); (intro _; tm_at "rv"))
  | (apply ev_andV; (tm_at "ev"); (intro _; tm_at "ev"))
  | (apply ev_orV; (tm_at "ev"); (intro _; tm_at "ev"))
  | (apply ev_notV; tm_at "ev")))
local macro_rules | `(tactic| tm_at "et") => `(tactic| (first
  | assumption
  | (apply et_test; tm_at "ev")
  | (apply et_B; tm_at "ev")
  | (apply et_not; tm_at "et")
  | (apply et_and; (tm_at "et"); (intro _; tm_at "et"))
  | (apply et_or; (tm_at "et"); (intro _; tm_at "et"))))
/-- tests by sums -/
local macro_rules | `(tactic| tm_at "bf") => `(tactic| (simp only [Bool.not_true, Bool.not_false, Bool.false_or, Bool.true_and, Bool.and_true, Bool.or_false, Bool.or_eq_false_iff, Bool.and_eq_true, decide_eq_false_iff_not, decide_eq_true_eq, Bool.not_eq_false', Bool.not_eq_true']; omega))

section
variable {P : Program} {w : World} {K : PySem.W.Frag} {mg : Str → Option Value} {base : Heap} {H : Hp}
def sp_Code_word (K : PySem.W.Frag) : Sp := fun vs H Q _ => ∃ (p : Addr) (c : Cd) (k : Nat), vs = [.ref p, .int (k : Int)] ∧ CodeAt K H p c ∧ k < manyN c ∧ RetV (.str (S (wordOf c k))) H Q
theorem v_Code_word {p : Addr} {c : Cd} {k : Nat} (h : CodeAt K H p c) (hk : k < manyN c) : SpV (sp_Code_word K) [.ref p, .int (k : Int)] H (.str (S (wordOf c k))) := fun H1 e Q q E => ⟨p, c, k, rfl, h.ex e, hk, q⟩
theorem m_Code_word (T : Tx K mg) : Met P w K mg base 2 (He.ga K "Code") "word" (sp_Code_word K) [] := by
  refine met_of T.cl_Code T.me_Code_word T.d_Code_word sc_Code_word (fun _ _ _ _ _ _ us hl => match us, hl with | [_, _], _ => rfl) (fun vs H Q E h => by (repeat (obtain ⟨_, h⟩ := h)); subst_vars; rfl) fun f cdv A outer s H vs Q E hr h => ?_
  obtain ⟨p, c, k, rfl, hc, hk, q⟩ := h
  have hc0 := hc
  obtain ⟨ok, dx, lp, hp, hl⟩ := hc
  have clC := T.cl_Code; have n1 := T.n_Code_letters; have n2 := T.n_Code_loads; have n3 := T.n_Code_remainder
  have := ok.n3
  have := ok.n5
  have := ok.m5
  have := ok.m25
  refine ⟨_, (pss_cons (ps_if (PW.pt (pw_or (pt_not (pt_val (pe_c (c_is_whole T) hr (by decide) rfl (pa_cons (pv 1) pa_nil)))) (pw_or (pt_cmpR op_lt (pv 1) pe_int (nomark _)) (pw_or1 (pt_cmpR op_ge (pv 1) (pe_mt0 (m_Code_many T) hr (by decide) (pv 0)) (nomark _))))))
    (pss_one ps_never)
    pss_nil)
  (pss_cons (ps_set (i := 2) sc_Code_word.nd rfl (Or.inr rfl) (pe_callB call_len_str rfl T.f_len bt_len (pa_cons (pe_fld (pv 0) rfl) pa_nil)))
  (pss_cons (ps_set (i := 3) sc_Code_word.nd rfl (Or.inl rfl) (pe_lst pa_nil))
  (pss_cons (ps_for PassesOwn.never rfl (pi_range1 rfl T.f_range (pa_cons (pe_op op_sub (pe_callB call_len_seq rfl T.f_len bt_len (pa_cons (pe_fld (pv 0) rfl) pa_nil)) pe_int) pa_nil)) (pg_name (i := 4) sc_Code_word.nd rfl (Or.inl rfl))
    (pss_cons (ps_set (i := 3) sc_Code_word.nd rfl (Or.inl rfl) (pe_op op_cat (pe_lst (pa_cons (pe_op op_mod (pv 1) (pv 2)) pa_nil)) (pv 3)))
  (pss_one (ps_set (i := 1) sc_Code_word.nd rfl (Or.inl rfl) (pe_op op_fdiv (pv 1) (pv 2))))))
  (pss_cons (ps_set (i := 5) sc_Code_word.nd rfl (Or.inr rfl) (pe_op op_sub (pe_fld (pv 0) rfl) (pe_c (c_sum_of T) hr (by decide) rfl (pa_cons (pe_fld (pv 0) rfl) (pa_cons (pv 3) pa_nil)))))
  (pss_cons (ps_set (i := 6) sc_Code_word.nd rfl (Or.inl rfl) (pe_ix ix_list (pe_lc (own := [("place", 7)]) (g := gName 7) rfl sc_Code_word.nd (pi_range1 rfl T.f_range (pa_cons (pv 2) pa_nil)) (blkOk_by (N := nm_Code_word) (sc := defScope s_Code_word) (by decide +kernel)) (fun _ _ _ _ _ => (pg_name (i := 7) sc_Code_word.nd rfl (Or.inl rfl))) (fun _ _ _ _ _ => pts_one (pt_cmpR op_eq (pe_op op_mod (pe_op op_sub (pv 5) (pe_op op_mul (pe_ix (ixK_list (K := K) rfl) (pe_fldK (K := K) rfl (pv 0) rfl) (pe_un un_neg pe_int) (fun _ _ => rfl)) (pv 7))) (pv 2)) pe_int (nomark _))) (fun _ _ _ _ _ => (pv 7))) pe_int (fun _ _ => rfl)))
  (pss_one (ps_ret (pe_join pe_str (pe_lc (own := [("place", 7)]) (g := gName 7) (tt := tYes) rfl sc_Code_word.nd (pi_list (pe_op op_cat (pv 3) (pe_lst (pa_cons (pv 6) pa_nil)))) (blkOk_by (N := nm_Code_word) (sc := defScope s_Code_word) (by decide +kernel)) (fun _ _ _ _ _ => (pg_name (i := 7) sc_Code_word.nd rfl (Or.inl rfl))) (fun _ _ _ _ _ => pts_nil) (fun _ _ _ _ _ => (pe_ix ix_str (pe_fldK (K := K) rfl (pv 0) rfl) (pv 7) (fun _ _ => rfl))))))))))))), ?_⟩
  have v1 := v_is_whole (K := K) (H := H) (i := (k : Int))
  have v2 := v_Code_many hc0
  refine q_skip (et_is (by tm_at "et") (by tm_at "bf")) fun H1 e1 => ?_
  have hp1 := e1 _ _ hp
  refine q_asg (by tm_at "ev") fun H2 e2 => ?_
  have hp2 := e2 _ _ hp1
  refine q_asgL (xs := []) (el_lst ea_nil (by decide)) fun pl H3 hpl e3 h3 => ?_
  have hp3 := e3 _ _ hp2
  have hl3 := sq_of (K := K) (((e1.trans e2).trans e3) _ _ hl)
  refine q_forN (ei_rng1 (m := ((c.ws.length - 1 : Nat) : Int)) (ea_cons (ev_is (by tm_at "ev") (by rw [List.length_map]; congr 1; omega)) ea_nil) (by omega)) (fun t σ' H' => ∃ pl x, σ' = [some (.ref p), some (.int ((k / c.al.length ^ t : Nat) : Int)), some (.int (c.al.length : Nat)), some (.ref pl), x, none, none, none] ∧ H' pl = some (.lst ((digs c.al.length t k).map V.int)) ∧ Ex H3 H')
    (fun H4 e4 _ => ⟨pl, none, by rw [Nat.pow_zero, Nat.div_one]; rfl, e4 _ _ h3, e4⟩) (fun _ _ _ _ _ => trivial) (fun t σ' H' ht hP H4 e4 => ?_) (fun σ' H' hP => ?_)
  · obtain ⟨pl, x, rfl, hpl, e⟩ := hP
    refine q_asgL (xs := (digs c.al.length (t + 1) k).map V.int) (el_cat1 (xs := [V.int ((k / c.al.length ^ t % c.al.length : Nat) : Int)]) (el_lst (by tm_at "ea") (Nat.le_of_ble_eq_true rfl)) (ev_var rfl) (e4 _ _ hpl) (by rw [List.length_map, digs_length]; show 1 + t ≤ _; have : t < c.ws.length - 1 := ht; omega)) fun pl2 H5 hp5 e5 h5 => ?_
    refine s_asg (by tm_at "ev") fun H6 e6 => ?_
    refine ⟨pl2, some (.int (t : Int)), ?_, e6 _ _ h5, ((e.trans e4).trans e5).trans e6⟩
    rw [Nat.pow_succ, ← Nat.div_div_eq_div_mul]
    rfl
  · obtain ⟨pl, x, rfl, hpl, e⟩ := hP
    have hpl' : H' pl = some (.lst ((digs c.al.length (c.ws.length - 1) k).map V.int)) := hpl
    have hp4 := e _ _ hp3
    have hl4 := ex_l e hl3
    have v3 := v_sum_of (K := K) (H := H') hl4 (sq_of hpl') (by omega) (ws_small ok)
    refine q_asg (by tm_at "ev") fun H5 e5 => ?_
    obtain ⟨us, a, hus, _, ha⟩ := ws_split ok
    have a1 : atI (c.ws.map V.int) (-1) = some (.int a) := atI_m1 (by rw [getLast_map, hus, List.getLast?_append]; rfl)
    obtain ⟨lp0, lr, hlasts, l0, l1, l2⟩ := lasts_ne ok (c.rs - sumP c.ws (digs c.al.length (c.ws.length - 1) k))
    have hp5 := e5 _ _ hp4
    have hl5 := ex_l e5 hl4
    refine q_asg (ev_ixN (xs := (lasts c (c.rs - sumP c.ws (digs c.al.length (c.ws.length - 1) k))).map V.int) (x := .int lp0) ?_ ev_c (by rw [hlasts]; exact atG (j := 0) rfl rfl)) fun H6 e6 => ?_
    · rw [← lasts_given c _ a ha]
      refine el_lcN (n := (((c.al.length : Nat) : Int)).toNat) _ _ (ei_n (ei_rng1 (m := (c.al.length : Nat)) (by tm_at "ea") (by omega)) fun _ _ _ h => h) (by omega) (fun _ => rfl) (fun i hi => ?_) (fun i hi _ => ev_var rfl)
      have : i < c.al.length := hi
      tm_at "et"
    · have hp6 := e6 _ _ hp5
      have hpl6 := (e5.trans e6) _ _ hpl'
      refine s_ret (ev_join (s := []) (ws := (plcOf c k).map fun p => [c.al.getD p.toNat 0]) (ev_is ev_c (by rfl)) ?_ ?_) fun H7 e7 => ?_
      · have hcat := el_cat (σ := [some (V.ref p), some (V.int ((k / c.al.length ^ (c.ws.length - 1) : Nat) : Int)), some (V.int (c.al.length : Nat)), some (V.ref pl), x, some (V.int (c.rs - sumP c.ws (digs c.al.length (c.ws.length - 1) k))), some (V.int lp0), none]) (H := H6) (ta := tVar 3) (tb := tLst (tCons (tVar 6) tNil)) (ys := [V.int lp0]) (ev_var rfl) hpl6 (el_lst (by tm_at "ea") (Nat.le_of_ble_eq_true rfl)) (by rw [List.length_map, digs_length]; show c.ws.length - 1 + 1 ≤ _; omega)
        have e8 : (digs c.al.length (c.ws.length - 1) k).map V.int ++ [V.int lp0] = (plcOf c k).map V.int := by
          unfold plcOf lastP
          rw [hlasts, List.map_append]
          rfl
        rw [e8] at hcat
        have hlen := plcOf_length ok k
        have := el_lcY (te := tOp rIxS (tFld K (tVar 0) "letters") (tVar 7)) (j := 7) (vs := [7]) (fun i => vS [c.al.getD ((plcOf c k).getD i 0).toNat 0]) (ein_list (K := K) hcat) (by rw [List.length_map]; omega) (fun _ => rfl) fun i hi => by
          rw [List.length_map] at hi
          rw [getD_map (d := 0) hi]
          have hr := plcOf_rng ok k _ (getD_memI hi)
          have a2 : atI c.al ((plcOf c k).getD i 0) = some (c.al.getD ((plcOf c k).getD i 0).toNat 0) := atD 0 (by omega) (by omega)
          tm_at "ev"
        rw [List.length_map, map_range_getD (plcOf c k) 0 (fun p => vS [c.al.getD p.toNat 0])] at this
        rw [List.map_map]
        exact this
      · rw [sum_ones _ (fun _ => rfl), plcOf_length ok]
        show _ + _ * 0 ≤ _
        omega
      · have := q H7 (((((((e1.trans e2).trans e3).trans e).trans e5).trans e6)).trans e7)
        rw [join_flat, flat_ones]
        exact this
def sp_Code_number (K : PySem.W.Frag) : Sp := fun vs H Q _ => ∃ (p : Addr) (c : Cd) (x : W), vs = [.ref p, .str (S x)] ∧ CodeAt K H p c ∧ IsWord c x ∧ goodB c x = true ∧ RetV (.int (numOf c x)) H Q
theorem v_Code_number {p : Addr} {c : Cd} {x : W} (h : CodeAt K H p c) (h1 : IsWord c x) (h2 : goodB c x = true) : SpV (sp_Code_number K) [.ref p, .str (S x)] H (.int (numOf c x)) := fun H1 e Q q E => ⟨p, c, x, rfl, h.ex e, h1, h2, q⟩
theorem undig_take (m : Nat) (ps : List Int) (i : Nat) (h : i < ps.length) : undig m 0 (ps.take (i + 1)) = undig m 0 (ps.take i) * (m : Int) + ps.getD i 0 := by
  unfold undig
  rw [List.take_succ, List.foldl_append, List.getD_eq_getElem?_getD, List.getElem?_eq_getElem h]
  rfl
theorem m_Code_number (T : Tx K mg) : Met P w K mg base 4 (He.ga K "Code") "number" (sp_Code_number K) [] := by
  refine met_of T.cl_Code T.me_Code_number T.d_Code_number sc_Code_number (fun _ _ _ _ _ _ us hl => match us, hl with | [_, _], _ => rfl) (fun vs H Q E h => by (repeat (obtain ⟨_, h⟩ := h)); subst_vars; rfl) fun f cdv A outer s H vs Q E hr h => ?_
  obtain ⟨p, c, x, rfl, hc, hx, hg, q⟩ := h
  have hc0 := hc
  obtain ⟨ok, dx, lp, hp, hl⟩ := hc
  have clC := T.cl_Code; have n1 := T.n_Code_letters; have n2 := T.n_Code_loads; have n3 := T.n_Code_remainder
  have := ok.n5
  have := ok.m5
  have := ok.m25
  have hxl : x.length = c.ws.length := hx.1
  have v1 := v_Code_has_good hc0 hx
  rw [hg] at v1
  refine ⟨_, (pss_cons (ps_if (pt_not (pt_val (pe_mt (m_Code_has_good T) hr (by decide) (pv 0) (pa_cons (pv 1) pa_nil))))
    (pss_one ps_never)
    pss_nil)
  (pss_cons (ps_set (i := 2) sc_Code_number.nd rfl (Or.inl rfl) pe_int)
  (pss_cons (ps_for PassesOwn.never rfl (pi_str (pe_slice sl_str (pv 1) po_none (po_some (pe_un un_neg pe_int)))) (pg_name (i := 3) sc_Code_number.nd rfl (Or.inl rfl))
    (pss_one (ps_set (i := 2) sc_Code_number.nd rfl (Or.inl rfl) (pe_op op_add (pe_op op_mul (pv 2) (pe_callB call_len_str rfl T.f_len bt_len (pa_cons (pe_fld (pv 0) rfl) pa_nil))) (pe_bm PySem.F.plainAttrs_str PySem.F.slot_str_index PySem.F.type_str_index mt_sindex (pe_fld (pv 0) rfl) (pa_cons (pv 3) pa_nil))))))
  (pss_one (ps_ret (pv 2)))))), ?_⟩
  refine q_skip (et_is (by tm_at "et") (by rfl)) fun H1 e1 => ?_
  have hp1 := e1 _ _ hp
  refine q_asg ev_c fun H2 e2 => ?_
  have hs : Ev (tSl rSlS (tVar 1) tNoPart (tPart (tUn (rU fun i => .int (-i)) (tC (.int 1))))) [some (V.ref p), some (vS x), some (V.int 0), none] H2 (.str (S x.dropLast)) := by
    rw [← cutG_last]
    tm_at "ev"
  have hm : ∀ i, i < x.dropLast.length → x.dropLast.getD i 0 ∈ c.al := fun i hi => hx.2 _ (List.dropLast_subset _ (getD_mem hi))
  refine q_forN (ei_str hs) (fun i σ' H' => ∃ y, σ' = [some (.ref p), some (vS x), some (.int (undig c.al.length 0 ((plc c x.dropLast).take i))), y] ∧ Ex H1 H') (fun H3 e3 _ => ⟨none, rfl, e2.trans e3⟩) (fun _ _ _ _ _ => trivial) (fun i σ' H' hi hP H3 e3 => ?_) (fun σ' H' hP => ?_)
  · obtain ⟨y, rfl, e⟩ := hP
    have hp3 := e3 _ _ (e _ _ hp1)
    have hm1 := hm i hi
    refine s_asg (by tm_at "ev") fun H4 e4 => ?_
    refine ⟨some (vS [x.dropLast.getD i 0]), ?_, (e.trans e3).trans e4⟩
    rw [undig_take _ _ _ (by unfold plc; rw [List.length_map]; exact hi)]
    have : (plc c x.dropLast).getD i 0 = ((c.al.idxOf (x.dropLast.getD i 0) : Nat) : Int) := by
      unfold plc
      rw [List.getD_eq_getElem?_getD, List.getElem?_map, List.getD_eq_getElem?_getD, List.getElem?_eq_getElem hi]
      rfl
    rw [this]
    rfl
  · obtain ⟨y, rfl, e⟩ := hP
    refine s_ret (ev_var rfl) fun H3 e3 => ?_
    have := q H3 ((e1.trans e).trans e3)
    unfold numOf at this
    rw [List.take_of_length_le (by unfold plc; rw [List.length_map]; exact Nat.le_refl _)]
    exact this
end
end Cb
/-! K11: lines that garble. -/
namespace Cb
open PySem PySem.Spec PyProof.Rows L2 Evl
open C8 (Cal Met Mak pe_c pe_mk pe_mt pe_mt0 pe_gc)

def sLetter : W := [108, 101, 116, 116, 101, 114]
def sSwap : W := [115, 119, 97, 112]
def FlV (f : Fl) : List V := [.int f.s, .int f.p, .str (S (if f.letter = true then sLetter else sSwap)), .int f.n]
def FaultsAt (K : PySem.W.Frag) (H : Hp) (p : Addr) (fs : List Fl) : Prop := ∃ as : List Addr, SqL K H p (as.map V.ref) ∧ as.length = fs.length ∧ fs.length ≤ 1000 ∧ ∀ (i : Nat) (a : Addr) (f : Fl), as[i]? = some a → fs[i]? = some f → H a = some (.tup (FlV f))
theorem FaultsAt.ex {K : PySem.W.Frag} {H H' : Hp} {p : Addr} {fs : List Fl} (e : Ex H H') (h : FaultsAt K H p fs) : FaultsAt K H' p fs := by
  obtain ⟨as, h1, h2, h3, h4⟩ := h
  exact ⟨as, ex_l e h1, h2, h3, fun i a f x y => e _ _ (h4 i a f x y)⟩
def FltR (o : Option Fl) (v : V) (H : Hp) : Prop := match o with
  | none => v = .non
  | some f => ∃ a, v = .ref a ∧ H a = some (.tup (FlV f))
local macro_rules | `(tactic| tm_at "side") => `(tactic| (first | assumption | omega | ((try simp only [List.length_append, List.length_cons, List.length_nil, List.length_map, List.length_range]); omega) | exact ⟨by omega, by omega⟩ | exact .inl ⟨by omega, by omega⟩ | exact .inr ⟨by omega, by omega⟩ | decide))
local macro_rules | `(tactic| tm_at "rv") => `(tactic| (first
  | exact rv_I0
  | exact rv_mod (by tm_at "side")
  | exact rv_I (by tm_at "side")
  | exact rv_eq rfl
  | exact rv_ne rfl
  | exact rv_addS (by tm_at "side")
  | exact rv_ixSS (by tm_at "side") (by assumption)
  | exact rv_ixL (by assumption) (by assumption)
  | exact rv_ixT (by assumption) (by assumption)
  | exact rv_inS
  | exact rv_isN
  | exact rv_notN
  | assumption))
local macro_rules | `(tactic| tm_at "eo") => `(tactic| (first | exact eo_none | (apply eo_some; tm_at "ev")))
local macro_rules | `(tactic| tm_at "ea") => `(tactic| (first | exact ea_nil | (apply ea_cons; (tm_at "ev"); (tm_at "ea"))))
local macro_rules | `(tactic| tm_at "sp") => `(tactic| assumption)
local macro_rules | `(tactic| tm_at "ev") => `(tactic| (first
  | exact ev_c
  | exact ev_var rfl
  | assumption
  | (apply ev_op; (tm_at "ev"); (tm_at "ev"); (tm_at "rv"))
  | (apply ev_un (hr := ru_neg); tm_at "ev")
  | (apply ev_fld; (tm_at "ev"); assumption; assumption; assumption; rfl)
  | (apply ev_lenStr; (tm_at "ev"); (tm_at "side"))
  | (apply ev_lenDT; (tm_at "ev"); assumption)
  | (apply ev_len; (tm_at "ev"); assumption)
  | (apply ev_lenT; (tm_at "ev"); assumption)
  | (apply ev_slS; (tm_at "ev"); (tm_at "eo"); (tm_at "eo"); (tm_at "side"))
  | (apply ev_call; (tm_at "ea"); (tm_at "sp"))
  | (apply ev_meth; (tm_at "ev"); assumption; rfl; (tm_at "ea"); (tm_at "sp"))
  | (apply ev_isStr; tm_at "ev")
  | (apply ev_isInt; tm_at "ev")
  | (apply ev_isBoolI; tm_at "ev")
  | (apply ev_isList; (tm_at "ev"); assumption)
  | (apply ev_isTuple; (tm_at "ev"); assumption)
  | (apply ev_abs; tm_at "ev")
  | (apply ev_int1; tm_at "ev")
  | (apply ev_max2; (tm_at "ev"); (tm_at "ev"))
  | (apply ev_sindex; (tm_at "ev"); (tm_at "ev"); assumption)
  | (apply ev_dinK; (tm_at "ev"); (tm_at "ev"); assumption)
  | (apply ev_dinT; (tm_at "ev"); (tm_at "ev"); assumption; assumption)
  | (apply ev_chain; (tm_at "ev"); (tm_at "ev"); (tm_at "rv"); (intro _; tm_at "ev"); (intro _; tm_at "rv"))
  | (apply ev_andV; (tm_at "ev"); (intro _; tm_at "ev"))
  | (apply ev_orV; (tm_at "ev"); (intro _; tm_at "ev"))
  | (apply ev_notV; tm_at "ev")))
local macro_rules | `(tactic| tm_at "et") => `(tactic| (first
  | assumption
  | (apply et_test; tm_at "ev")
  | (apply et_B; tm_at "ev")
  | (apply et_not; tm_at "et")
  | (apply et_and; (tm_at "et"); (intro _; tm_at "et"))
  | (apply et_or; (tm_at "et"); (intro _; tm_at "et"))))
/-- tests by sums -/
local macro_rules | `(tactic| tm_at "bf") => `(tactic| (simp only [Bool.not_true, Bool.not_false, Bool.false_or, Bool.true_and, Bool.and_true, Bool.or_false, Bool.or_eq_false_iff, Bool.and_eq_true, decide_eq_false_iff_not, decide_eq_true_eq, Bool.not_eq_false', Bool.not_eq_true']; omega))

section
variable {P : Program} {w : World} {K : PySem.W.Frag} {mg : Str → Option Value} {base : Heap} {H : Hp}
def sp_with_swap (K : PySem.W.Frag) : Sp := fun vs H Q _ => ∃ (l : W) (n : Int), vs = [.str (S l), .int n] ∧ 2 ≤ l.length ∧ l.length ≤ 1000 ∧ RetV (.str (S (swapW l n))) H Q
theorem v_with_swap {l : W} {n : Int} (h1 : 2 ≤ l.length) (h2 : l.length ≤ 1000) : SpV (sp_with_swap K) [.str (S l), .int n] H (.str (S (swapW l n))) := fun H1 e Q q E => ⟨l, n, rfl, h1, h2, q⟩
theorem swap_cut {l : W} {n : Int} {k : Nat} (hk : n % ((l.length : Int) - 1) = (k : Int)) : cutG l none (some (k : Int)) ++ [l.getD (k + 1) 0] ++ [l.getD k 0] ++ cutG l (some ((k : Int) + 2)) none = swapW l n := by
  unfold swapW swapL
  rw [hk, show (k : Int) + 2 = ((k + 2 : Nat) : Int) by omega, cutG_from, cutG_to]
  rfl
theorem c_with_swap (T : Tx K mg) : Cal P w K mg base 1 "with_swap" (sp_with_swap K) [] := by
  refine cal_of T.d_with_swap T.a_with_swap sc_with_swap (fun _ _ _ _ _ _ us hl => match us, hl with | [_, _], _ => rfl) (fun vs H Q E h => by (repeat (obtain ⟨_, h⟩ := h)); subst_vars; rfl) fun f cdv A outer s H vs Q E hr h => ?_
  obtain ⟨l, n, rfl, h2, h1000, q⟩ := h
  refine ⟨_, (pss_cons (ps_set (i := 2) sc_with_swap.nd rfl (Or.inl rfl) (pe_op op_mod (pv 1) (pe_op op_sub (pe_callB call_len_str rfl T.f_len bt_len (pa_cons (pv 0) pa_nil)) pe_int)))
  (pss_one (ps_ret (pe_op op_add_str (pe_op op_add_str (pe_op op_add_str (pe_slice sl_str (pv 0) po_none (po_some (pv 2))) (pe_ix ix_str (pv 0) (pe_op op_add (pv 2) pe_int) (fun _ _ => rfl))) (pe_ix ix_str (pv 0) (pv 2) (fun _ _ => rfl))) (pe_slice sl_str (pv 0) (po_some (pe_op op_add (pv 2) pe_int)) po_none))))), ?_⟩
  obtain ⟨k, hk⟩ : ∃ k : Nat, n % ((l.length : Int) - 1) = (k : Int) := ⟨(n % ((l.length : Int) - 1)).toNat, by have := Int.emod_nonneg n (show (l.length : Int) - 1 ≠ 0 by omega); omega⟩
  have hk1 : k + 1 < l.length := by
    have := Int.emod_lt_of_pos n (show 0 < (l.length : Int) - 1 by omega)
    omega
  refine q_asg (by tm_at "ev") fun H1 e1 => ?_
  rw [hk]
  have a1 : atI l ((k : Int) + 1) = some (l.getD (k + 1) 0) := atD 0 (by omega) hk1
  have a2 : atI l (k : Int) = some (l.getD k 0) := atD 0 rfl (by omega)
  have l1 : (cutG l none (some (k : Int))).length ≤ 1000 := by rw [cutG_to, List.length_take]; omega
  have l2 : (cutG l (some ((k : Int) + 2)) none).length ≤ 1000 := by rw [show (k : Int) + 2 = ((k + 2 : Nat) : Int) by omega, cutG_from, List.length_drop]; omega
  refine s_ret (by tm_at "ev") fun H2 e2 => ?_
  show Q (.str (S _)) H2
  rw [swap_cut hk]
  exact q H2 (e1.trans e2)
def sp_exchanged_letter (K : PySem.W.Frag) : Sp := fun vs H Q _ => ∃ (p : Addr) (c : Cd) (x : W) (n : Int), vs = [.ref p, .str (S x), .int n] ∧ CodeAt K H p c ∧ IsWord c x ∧ RetV (.str (S (exchW c x n))) H Q
theorem v_exchanged_letter {p : Addr} {c : Cd} {x : W} {n : Int} (h : CodeAt K H p c) (hx : IsWord c x) : SpV (sp_exchanged_letter K) [.ref p, .str (S x), .int n] H (.str (S (exchW c x n))) := fun H1 e Q q E => ⟨p, c, x, n, rfl, h.ex e, hx, q⟩
theorem exch_cut {c : Cd} {x : W} {n : Int} {k j : Nat} (hk : n % (x.length : Int) = (k : Int)) (hj : newP c x n = (j : Int)) : cutG x none (some (k : Int)) ++ [c.al.getD j 0] ++ cutG x (some ((k : Int) + 1)) none = exchW c x n := by
  unfold exchW
  rw [hk, hj, show (k : Int) + 1 = ((k + 1 : Nat) : Int) by omega, cutG_from, cutG_to]
  rfl
theorem c_exchanged_letter (T : Tx K mg) : Cal P w K mg base 2 "exchanged_letter" (sp_exchanged_letter K) [] := by
  refine cal_of T.d_exchanged_letter T.a_exchanged_letter sc_exchanged_letter (fun _ _ _ _ _ _ us hl => match us, hl with | [_, _, _], _ => rfl) (fun vs H Q E h => by (repeat (obtain ⟨_, h⟩ := h)); subst_vars; rfl) fun f cdv A outer s H vs Q E hr h => ?_
  obtain ⟨p, c, x, n, rfl, hc, hx, q⟩ := h
  have ok := hc.1
  have := ok.n3
  have := ok.n5
  have := ok.m5
  have := ok.m25
  have hxl : x.length = c.ws.length := hx.1
  refine ⟨_, (pss_cons (ps_set (i := 3) sc_exchanged_letter.nd rfl (Or.inl rfl) (pe_mt0 (m_Code_alphabet T) hr (by decide) (pv 0)))
  (pss_cons (ps_asg (pe_callB call_divmod rfl T.f_divmod bt_divmod (pa_cons (pv 2) (pa_cons (pe_callB call_len_str rfl T.f_len bt_len (pa_cons (pv 1) pa_nil)) pa_nil))) (pg_tup rfl (pgs_cons (pg_name (i := 4) sc_exchanged_letter.nd rfl (Or.inl rfl)) (pgs_cons (pg_name (i := 5) sc_exchanged_letter.nd rfl (Or.inl rfl)) pgs_nil))))
  (pss_cons (ps_set (i := 6) sc_exchanged_letter.nd rfl (Or.inl rfl) (pe_op op_mod (pe_op op_add (pe_op op_add (pe_bm PySem.F.plainAttrs_str PySem.F.slot_str_index PySem.F.type_str_index mt_sindex (pv 3) (pa_cons (pe_ix ix_str (pv 1) (pv 5) (fun _ _ => rfl)) pa_nil)) pe_int) (pe_op op_mod (pv 4) (pe_op op_sub (pe_callB call_len_str rfl T.f_len bt_len (pa_cons (pv 3) pa_nil)) pe_int))) (pe_callB call_len_str rfl T.f_len bt_len (pa_cons (pv 3) pa_nil))))
  (pss_one (ps_ret (pe_op op_add_str (pe_op op_add_str (pe_slice sl_str (pv 1) po_none (po_some (pv 5))) (pe_ix ix_str (pv 3) (pv 6) (fun _ _ => rfl))) (pe_slice sl_str (pv 1) (po_some (pe_op op_add (pv 5) pe_int)) po_none))))))), ?_⟩
  have v1 := v_Code_alphabet hc
  obtain ⟨dx, lp, hp, hl⟩ := hc.2
  refine q_asg (by tm_at "ev") fun H1 e1 => ?_
  refine q_unpU (eu_divmod (i := n) (j := (x.length : Nat)) (by tm_at "ea") ⟨by omega, by omega⟩) fun H2 e2 => ?_
  obtain ⟨hk0, hk1⟩ := kN (n := n) (l := x.length) (by omega)
  obtain ⟨k, hk⟩ : ∃ k : Nat, n % (x.length : Int) = (k : Int) := ⟨_, hk0.symm⟩
  rw [hk] at hk1 ⊢
  have hk2 : k < x.length := hk1
  have a1 : atI x (k : Int) = some (x.getD k 0) := atD 0 rfl hk2
  have hm : x.getD k 0 ∈ c.al := hx.2 _ (getD_mem hk2)
  obtain ⟨hj0, hj1⟩ := newP_rng ok x n
  obtain ⟨j, hj⟩ : ∃ j : Nat, newP c x n = (j : Int) := ⟨(newP c x n).toNat, by omega⟩
  have hne : 0 < (c.al.length : Int) - 1 := by omega
  have en : (((c.al.idxOf (x.getD k 0) : Nat) : Int) + 1 + n / (x.length : Int) % ((c.al.length : Int) - 1)) % (c.al.length : Int) = (j : Int) := by
    rw [← hj]
    unfold newP
    rw [hk]
    rfl
  refine q_asg (by tm_at "ev") fun H3 e3 => ?_
  rw [en]
  have a2 : atI c.al (j : Int) = some (c.al.getD j 0) := atD 0 rfl (by omega)
  have l1 : (cutG x none (some (k : Int))).length ≤ 1000 := by rw [cutG_to, List.length_take]; omega
  have l2 : (cutG x (some ((k : Int) + 1)) none).length ≤ 1000 := by rw [show (k : Int) + 1 = ((k + 1 : Nat) : Int) by omega, cutG_from, List.length_drop]; omega
  refine s_ret (by tm_at "ev") fun H4 e4 => ?_
  show Q (.str (S _)) H4
  rw [exch_cut hk hj]
  exact q H4 (((e1.trans e2).trans e3).trans e4)
def sp_first_fault (K : PySem.W.Frag) : Sp := fun vs H Q _ => ∃ (p : Addr) (fs : List Fl) (s pl : Int), vs = [.ref p, .int s, .int pl] ∧ FaultsAt K H p fs ∧ RetR (FltR (firstF fs s pl)) H Q
theorem r_first_fault {p : Addr} {fs : List Fl} {s pl : Int} (h : FaultsAt K H p fs) : SpR (sp_first_fault K) [.ref p, .int s, .int pl] H (FltR (firstF fs s pl)) := fun H1 e Q q E => ⟨p, fs, s, pl, rfl, h.ex e, q⟩
theorem find_at {fs : List Fl} {g : Fl → Bool} {i : Nat} {f : Fl} (h0 : (fs.take i).find? g = none) (hf : fs[i]? = some f) (hg : g f = true) : fs.find? g = some f := by
  have hl := (List.getElem?_eq_some_iff.mp hf).1
  have e : fs = fs.take i ++ f :: fs.drop (i + 1) := by
    have := (List.getElem?_eq_some_iff.mp hf).2
    rw [← this, List.getElem_cons_drop, List.take_append_drop]
  rw [e, List.find?_append, h0, List.find?_cons, hg]
  rfl
theorem find_take {fs : List Fl} {g : Fl → Bool} {i : Nat} {f : Fl} (h0 : (fs.take i).find? g = none) (hf : fs[i]? = some f) (hg : g f = false) : (fs.take (i + 1)).find? g = none := by
  rw [List.take_succ, hf, List.find?_append, h0]
  show none.or (List.find? g [f]) = none
  rw [List.find?_cons, hg]
  rfl
theorem c_first_fault (T : Tx K mg) : Cal P w K mg base 1 "first_fault" (sp_first_fault K) [] := by
  refine cal_of T.d_first_fault T.a_first_fault sc_first_fault (fun _ _ _ _ _ _ us hl => match us, hl with | [_, _, _], _ => rfl) (fun vs H Q E h => by (repeat (obtain ⟨_, h⟩ := h)); subst_vars; rfl) fun f cdv A outer s H vs Q E hr h => ?_
  obtain ⟨p, fs, s, pl, rfl, hfa, q⟩ := h
  obtain ⟨as, ha, hal, hf3, hat⟩ := hfa
  refine ⟨_, (pss_cons (ps_for PassesOwn.never rfl (pi_list (pv 0)) (pg_name (i := 3) sc_first_fault.nd rfl (Or.inl rfl))
    (pss_one (ps_if (PW.pt (pw_and (pt_cmpR op_eq (pe_ix ix_tup (pv 3) pe_int (fun _ _ => rfl)) (pv 1) (nomark _)) (pw_and1 (pt_cmpR op_eq (pe_ix ix_tup (pv 3) pe_int (fun _ _ => rfl)) (pv 2) (nomark _)))))
    (pss_one (ps_ret (pv 3)))
    pss_nil)))
  (pss_one (ps_ret pe_non))), ?_⟩
  refine q_forN (ei_list (ev_var rfl) ha) (fun i σ' H' => ∃ x, σ' = [some (.ref p), some (.int s), some (.int pl), x] ∧ Ex H H' ∧ (fs.take i).find? (fun f => decide (f.s = s) && decide (f.p = pl)) = none) (fun H1 e1 _ => ⟨none, rfl, e1, rfl⟩) (fun i σ' H' _ hP => by obtain ⟨x, rfl, e, _⟩ := hP; exact ex_l e ha) (fun i σ' H' hi hP H2 e2 => ?_) (fun σ' H' hP => ?_)
  · obtain ⟨x, rfl, e, h0⟩ := hP
    rw [List.length_map] at hi
    obtain ⟨a, haa⟩ : ∃ a, as[i]? = some a := ⟨_, List.getElem?_eq_getElem hi⟩
    obtain ⟨f, hff⟩ : ∃ f, fs[i]? = some f := ⟨_, List.getElem?_eq_getElem (by omega)⟩
    have hx : (as.map V.ref).getD i .non = .ref a := by
      rw [List.getD_eq_getElem?_getD, List.getElem?_map, haa]
      rfl
    rw [hx]
    have ht := (e.trans e2) _ _ (hat i a f haa hff)
    have htt := st_of (K := K) ht
    have a0 : atI (FlV f) 0 = some (.int f.s) := rfl
    have a1 : atI (FlV f) 1 = some (.int f.p) := rfl
    refine s_when (b := decide (f.s = s) && decide (f.p = pl)) (et_is (by tm_at "et") (by rw [vint_eq, vint_eq])) (fun hb H3 e3 => ?_) (fun hb H3 e3 => ?_)
    · refine s_ret (ev_var rfl) fun H4 e4 => ?_
      refine q _ H4 (((e.trans e2).trans e3).trans e4) ?_
      have : firstF fs s pl = some f := find_at h0 hff hb
      rw [this]
      exact ⟨a, rfl, (e3.trans e4) _ _ ht⟩
    · exact ⟨_, rfl, (e.trans e2).trans e3, find_take h0 hff hb⟩
  · obtain ⟨x, rfl, e, h0⟩ := hP
    refine s_ret ev_c fun H3 e3 => ?_
    refine q _ H3 (e.trans e3) ?_
    have : firstF fs s pl = none := by
      unfold firstF
      rw [← h0, List.take_of_length_le (by rw [List.length_map, hal]; exact Nat.le_refl _)]
    rw [this]
    rfl
def sp_garbled (K : PySem.W.Frag) : Sp := fun vs H Q _ => ∃ (p wp fp : Addr) (c : Cd) (ws : List W) (fs : List Fl) (s : Int), vs = [.ref p, .ref wp, .ref fp, .int s] ∧ CodeAt K H p c ∧ SqL K H wp (ws.map vS) ∧ ws.length ≤ 10000 ∧ (∀ x ∈ ws, IsWord c x) ∧ FaultsAt K H fp fs ∧ RetL ((garbL c ws fs s).map vS) H Q
theorem l_garbled {p wp fp : Addr} {c : Cd} {ws : List W} {fs : List Fl} {s : Int} (h1 : CodeAt K H p c) (h2 : SqL K H wp (ws.map vS)) (h3 : ws.length ≤ 10000) (h4 : ∀ x ∈ ws, IsWord c x) (h5 : FaultsAt K H fp fs) : SpL (sp_garbled K) [.ref p, .ref wp, .ref fp, .int s] H ((garbL c ws fs s).map vS) :=
  fun H1 e Q q E => ⟨p, wp, fp, c, ws, fs, s, rfl, h1.ex e, ex_l e h2, h3, h4, h5.ex e, fun p H2 a b d => q p H2 a b d⟩
theorem range_snoc {α : Type} (f : Nat → α) (n : Nat) : (List.range (n + 1)).map f = (List.range n).map f ++ [f n] := by
  rw [List.range_succ, List.map_append]
  rfl
theorem c_garbled (T : Tx K mg) : Cal P w K mg base 3 "garbled" (sp_garbled K) [] := by
  refine cal_of T.d_garbled T.a_garbled sc_garbled (fun _ _ _ _ _ _ us hl => match us, hl with | [_, _, _, _], _ => rfl) (fun vs H Q E h => by (repeat (obtain ⟨_, h⟩ := h)); subst_vars; rfl) fun f cdv A outer s H vs Q E hr h => ?_
  obtain ⟨p, wp, fp, c, ws, fs, s, rfl, hc, hw, hwl, hws, hf, q⟩ := h
  have ok := hc.1
  have := ok.n3
  have := ok.n5
  refine ⟨_, (pss_cons (ps_set (i := 4) sc_garbled.nd rfl (Or.inl rfl) (pe_lst pa_nil))
  (pss_cons (ps_for PassesOwn.never rfl (pi_enum rfl T.f_enumerate (pa_cons (pv 1) pa_nil)) (pg_tup rfl (pgs_cons (pg_name (i := 5) sc_garbled.nd rfl (Or.inl rfl)) (pgs_cons (pg_name (i := 6) sc_garbled.nd rfl (Or.inl rfl)) pgs_nil)))
    (pss_cons (ps_set (i := 7) sc_garbled.nd rfl (Or.inl rfl) (pe_c (c_first_fault T) hr (by decide) rfl (pa_cons (pv 2) (pa_cons (pv 3) (pa_cons (pv 5) pa_nil)))))
  (pss_one (ps_if (pt_cmpR op_isN (pv 7) pe_non (nomark _))
    (pss_one (ps_expr (pe_bm PySem.F.plainAttrs_list PySem.F.slot_list_append PySem.F.type_list_append mt_append (pv 4) (pa_cons (pv 6) pa_nil))))
    (pss_one (ps_if (pt_cmpR op_eq (pe_ix ix_tup (pv 7) pe_int (fun _ _ => rfl)) pe_str (nomark _))
    (pss_one (ps_expr (pe_bm PySem.F.plainAttrs_list PySem.F.slot_list_append PySem.F.type_list_append mt_append (pv 4) (pa_cons (pe_c (c_exchanged_letter T) hr (by decide) rfl (pa_cons (pv 0) (pa_cons (pv 6) (pa_cons (pe_ix ix_tup (pv 7) pe_int (fun _ _ => rfl)) pa_nil)))) pa_nil))))
    (pss_one (ps_expr (pe_bm PySem.F.plainAttrs_list PySem.F.slot_list_append PySem.F.type_list_append mt_append (pv 4) (pa_cons (pe_c (c_with_swap T) hr (by decide) rfl (pa_cons (pv 6) (pa_cons (pe_ix ix_tup (pv 7) pe_int (fun _ _ => rfl)) pa_nil))) pa_nil))))))))))
  (pss_one (ps_ret (pv 4))))), ?_⟩
  refine q_asgL (xs := []) (el_lst ea_nil (by decide)) fun l H1 hl e1 h1 => ?_
  refine q_forP (ep_enum (by tm_at "ea") (ex_l e1 hw)) (fun i σ' H' => ∃ x y z, σ' = [some (.ref p), some (.ref wp), some (.ref fp), some (.int s), some (.ref l), x, y, z] ∧ Ex H H' ∧ H' l = some (.lst (((List.range i).map fun i : Nat => garbW c (firstF fs s (i : Int)) (ws.getD i [])).map vS)))
    (fun H2 e2 _ => ⟨none, none, none, rfl, e1.trans e2, e2 _ _ h1⟩) (fun i σ' H' _ hP => by obtain ⟨x, y, z, rfl, e, _⟩ := hP; exact ex_l e hw) (fun i σ' H' hi hP H2 e2 => ?_) (fun σ' H' hP => ?_)
  · obtain ⟨x, y, z, rfl, e, hacc⟩ := hP
    rw [List.length_map] at hi
    rw [getD_map (d := []) hi]
    have hx := hws _ (getD_memW hi)
    have hxl : (ws.getD i []).length = c.ws.length := hx.1
    have hf2 := hf.ex (e.trans e2)
    have hl2 := e2 _ _ hacc
    have hz : (((List.range i).map fun i : Nat => garbW c (firstF fs s (i : Int)) (ws.getD i [])).map vS).length < 100000 := by
      rw [List.length_map, List.length_map, List.length_range]
      omega
    refine q_asgR (evr_callA (vs := [.ref fp, .int s, .int (i : Int)]) (by tm_at "ea") (r_first_fault hf2)) fun v H3 e3 r => ?_
    have hl3 := e3 _ _ hl2
    have ex3 := (e.trans e2).trans e3
    have fin : ∀ (H4 : Hp), Ex H3 H4 → ∃ x y z, ([some (V.ref p), some (V.ref wp), some (V.ref fp), some (V.int s), some (V.ref l), some (V.int (i : Int)), some (vS (ws.getD i [])), some v] : L2.St) = [some (.ref p), some (.ref wp), some (.ref fp), some (.int s), some (.ref l), x, y, z] ∧ Ex H (upd H4 l (.lst ((((List.range i).map fun i : Nat => garbW c (firstF fs s (i : Int)) (ws.getD i [])).map vS) ++ [vS (garbW c (firstF fs s (i : Int)) (ws.getD i []))]))) ∧
        (upd H4 l (.lst ((((List.range i).map fun i : Nat => garbW c (firstF fs s (i : Int)) (ws.getD i [])).map vS) ++ [vS (garbW c (firstF fs s (i : Int)) (ws.getD i []))]))) l = some (.lst (((List.range (i + 1)).map fun i : Nat => garbW c (firstF fs s (i : Int)) (ws.getD i [])).map vS)) := fun H4 e4 =>
      ⟨_, _, _, rfl, Ex.mut (ex3.trans e4) hl, by rw [upd_same, range_snoc (fun i : Nat => garbW c (firstF fs s (i : Int)) (ws.getD i [])), List.map_append]; rfl⟩
    cases ho : firstF fs s (i : Int) with
    | none =>
      rw [ho] at r fin
      obtain rfl : v = .non := r
      refine s_if (b := true) (et_is (by tm_at "et") (by rfl)) (fun _ H4 e4 => ?_) (fun z => by cases z)
      refine s_app (e4 _ _ hl3) (ev_var rfl) (ev_var rfl) hz fun H5 e5 => ?_
      exact fin H5 (e4.trans e5)
    | some f =>
      rw [ho] at r fin
      obtain ⟨a, rfl, ha⟩ := r
      refine s_if (b := false) (et_is (by tm_at "et") (by rfl)) (fun z => by cases z) (fun _ H4 e4 => ?_)
      have ha4 := e4 _ _ ha
      have hat := st_of (K := K) ha4
      have a2 : atI (FlV f) 2 = some (.str (S (if f.letter = true then sLetter else sSwap))) := rfl
      have a3 : atI (FlV f) 3 = some (.int f.n) := rfl
      cases hb : f.letter with
      | true =>
        rw [hb] at a2
        refine s_if (b := true) (et_is (by tm_at "et") (by rw [eLe]; exact decide_eq_true rfl)) (fun _ H5 e5 => ?_) (fun z => by cases z)
        have v1 := v_exchanged_letter (n := f.n) (hc.ex ((ex3.trans e4).trans e5)) hx
        have hat5 := ex_t e5 hat
        refine s_app ((e4.trans e5) _ _ hl3) (ev_var rfl) (by tm_at "ev") hz fun H6 e6 => ?_
        have := fin H6 ((e4.trans e5).trans e6)
        rw [show garbW c (some f) (ws.getD i []) = exchW c (ws.getD i []) f.n from if_pos hb] at this
        exact this
      | false =>
        rw [hb] at a2
        refine s_if (b := false) (et_is (by tm_at "et") (by rw [eLe]; exact vS_eq.trans (by decide))) (fun z => by cases z) (fun _ H5 e5 => ?_)
        have v1 := v_with_swap (K := K) (H := H5) (l := ws.getD i []) (n := f.n) (by omega) (by omega)
        have hat5 := ex_t e5 hat
        refine s_app ((e4.trans e5) _ _ hl3) (ev_var rfl) (by tm_at "ev") hz fun H6 e6 => ?_
        have := fin H6 ((e4.trans e5).trans e6)
        rw [show garbW c (some f) (ws.getD i []) = swapW (ws.getD i []) f.n from if_neg (by rw [hb]; decide)] at this
        exact this
  · obtain ⟨x, y, z, rfl, e, hacc⟩ := hP
    refine s_ret (ev_var rfl) fun H2 e2 => ?_
    refine q l H2 hl (e.trans e2) ?_
    have := e2 _ _ hacc
    rw [List.length_map] at this
    exact this
end
end Cb
/-! K12: books; what is kept. -/
namespace Cb
open PySem PySem.Spec PyProof.Rows L2 Evl
open C8 (Cal Met Mak pe_c pe_mk pe_mt pe_mt0 pe_gc)

def EntR (o : Option Ent) (v : V) (H : Hp) : Prop := match o with
  | none => v = .non
  | some e => ∃ a, v = .ref a ∧ H a = some (.tup (eV e))
theorem EntR.ex {o : Option Ent} {v : V} {Ha Hb : Hp} (e : Ex Ha Hb) (h : EntR o v Ha) : EntR o v Hb := by
  cases o with
  | none => exact h
  | some x =>
    obtain ⟨a, h1, h2⟩ := h
    exact ⟨a, h1, e _ _ h2⟩
def numV : Option Nat → V
  | none => .non
  | some n => .int (n : Int)
theorem eK_inj {a b : Ent} (h : eK a = eK b) : a = b := by
  induction a generalizing b with
  | nil =>
    cases b with
    | nil => rfl
    | cons y b => cases h
  | cons x a ih =>
    cases b with
    | nil => cases h
    | cons y b =>
      have h1 := (List.cons.inj h).1
      have h2 := (List.cons.inj h).2
      rw [ih h2]
      injection h1 with h1
      rw [SX.S_inj h1]
theorem valV_rN (r : Rows) (n : Int) : valV (rN r) (.inl n) = (r.find? fun x => decide ((x.1 : Int) = n)).map fun x => V.ref x.2.2 := by
  unfold valV rN
  rw [List.find?_map, Option.map_map]
  have e : ((fun kv : Key × V => decide (kv.1 = Sum.inl n)) ∘ fun x : Nat × Ent × Addr => (Sum.inl (x.1 : Int), V.ref x.2.2)) = fun x => decide ((x.1 : Int) = n) := by
    funext x
    show decide ((Sum.inl (x.1 : Int) : Key) = Sum.inl n) = decide ((x.1 : Int) = n)
    rw [decide_eq_decide]
    exact ⟨fun h => by injection h, fun h => by rw [h]⟩
  rw [e]
  rfl
theorem entOf_rB (r : Rows) (n : Int) : entOf (rB r) n = (r.find? fun x => decide ((x.1 : Int) = n)).map fun x => x.2.1 := by
  unfold entOf rB
  rw [List.find?_map, Option.map_map]
  rfl
theorem valV_rE (r : Rows) (e : Ent) : valV (rE r) (eK e) = (r.find? fun x => decide (x.2.1 = e)).map fun x => V.int (x.1 : Int) := by
  unfold valV rE
  rw [List.find?_map, Option.map_map]
  have e : ((fun kv : List Key × V => decide (kv.1 = eK e)) ∘ fun x : Nat × Ent × Addr => (eK x.2.1, V.int (x.1 : Int))) = fun x => decide (x.2.1 = e) := by
    funext x
    show decide (eK x.2.1 = eK e) = decide (x.2.1 = e)
    rw [decide_eq_decide]
    exact ⟨eK_inj, fun h => by rw [h]⟩
  rw [e]
  rfl
theorem numOfE_rB (r : Rows) (e : Ent) : numOfE (rB r) e = (r.find? fun x => decide (x.2.1 = e)).map fun x => x.1 := by
  unfold numOfE rB
  rw [List.find?_map, Option.map_map]
  rfl
theorem rows_entR {H : Hp} {r : Rows} (h : RowsAt H r) (n : Int) : EntR (entOf (rB r) n) ((valV (rN r) (.inl n)).getD .non) H := by
  rw [entOf_rB, valV_rN]
  cases hf : r.find? (fun x => decide ((x.1 : Int) = n)) with
  | none => rfl
  | some x => exact ⟨x.2.2, rfl, h x (List.mem_of_find?_eq_some hf)⟩
theorem rows_numV (r : Rows) (e : Ent) : (valV (rE r) (eK e)).getD .non = numV (numOfE (rB r) e) := by
  rw [numOfE_rB, valV_rE]
  cases hf : r.find? (fun x => decide (x.2.1 = e)) <;> rfl
/-- put: at the end -/
theorem putK_new {κ : Type} [DecidableEq κ] {kvs : List (κ × V)} {k : κ} {v : V} (h : valV kvs k = none) : putK kvs k v = kvs ++ [(k, v)] := by
  unfold putK
  rw [if_neg]
  intro z
  unfold valV at h
  rw [Option.map_eq_none_iff, List.find?_eq_none] at h
  rw [List.any_eq_true] at z
  obtain ⟨x, hx, hz⟩ := z
  exact h x hx hz
section
variable {K : PySem.W.Frag} {σ : L2.St} {H H' : Hp} {ta tb te td tv ty : TE} {x y z : V} {r : R2} {D : Ends} {tz : TS} {a b : Addr}
theorem ev_opR {R : V → Hp → Prop} (ha : EvR ta σ H R) (hb : ∀ H1, Ex H H1 → Ev tb σ H1 y) (hr : ∀ x H1 H2, R x H1 → Ex H1 H2 → RV r x y H2 z) : Ev (tOp r ta tb) σ H z := fun H1 e Q q =>
  ha H1 e _ fun x H2 e2 rx => hb H2 (e.trans e2) H2 (Ex.refl H2) _ fun H3 e3 => hr x H2 H3 rx e3 H3 (Ex.refl H3) Q fun H4 e4 => q H4 ((e2.trans e3).trans e4)
/-- o.m(..), o only told of -/
theorem ev_methR {C : Addr} {m : Str} {sp : Sp} {dvs vs : List V} {E : XK} {t : TA} {R : V → Hp → Prop} (ha : EvR ta σ H R) (hR : ∀ y H1, Ex H H1 → R y H1 → ∃ a dx fs, y = .ref a ∧ H1 a = some (.ins C dx fs) ∧ fs.lookup m = none ∧ EvA t σ H1 vs ∧ SpV sp (y :: (vs ++ dvs)) H1 z) : Ev (tMeth C m sp dvs E ta t) σ H z := fun H1 e Q q =>
  ha H1 e _ fun y H2 e2 ry => by
    obtain ⟨a, dx, fs, rfl, h1, h2, h3, h4⟩ := hR y H2 (e.trans e2) ry
    exact ⟨a, dx, fs, rfl, h1, h2, h3 H2 (Ex.refl H2) _ fun H3 e3 => h4 H3 e3 Q (fun H4 e4 => q H4 ((e2.trans e3).trans e4)) E⟩
theorem q_dputK {kvs : List (Key × V)} {m : Int} (hv : Ev tv σ H x) (hd : Ev td σ H (.ref a)) (hy : Ev ty σ H (.int m)) (ha : H a = some (.dK kvs)) (hl : kvs.length < 10000) (k : ∀ H1, Ex H H1 → tz D σ (upd H1 a (.dK (putK kvs (.inl m) x)))) : tSeq (sDPut td ty tv) tz D σ H :=
  hv H (Ex.refl H) _ fun H1 e1 => hd H1 e1 _ fun H2 e2 => hy H2 (e1.trans e2) _ fun H3 e3 => ⟨a, _, rfl, DPut.k (k := .inl m) (((e1.trans e2).trans e3) _ _ ha) (sz_lt (by omega)), k H3 ((e1.trans e2).trans e3)⟩
theorem q_dputT {kvs : List (List Key × V)} {ks : List Key} (hv : Ev tv σ H x) (hd : Ev td σ H (.ref a)) (hy : Ev ty σ H (.ref b)) (ha : H a = some (.dT kvs)) (hb : H b = some (.tup (ks.map kV))) (hl : kvs.length < 10000) (k : ∀ H1, Ex H H1 → tz D σ (upd H1 a (.dT (putK kvs ks x)))) : tSeq (sDPut td ty tv) tz D σ H :=
  hv H (Ex.refl H) _ fun H1 e1 => hd H1 e1 _ fun H2 e2 => hy H2 (e1.trans e2) _ fun H3 e3 => ⟨a, _, rfl, DPut.t (((e1.trans e2).trans e3) _ _ ha) (((e1.trans e2).trans e3) _ _ hb) (sz_lt (by omega)), k H3 ((e1.trans e2).trans e3)⟩
end
/-- all but dicts stay -/
def ExD (H H' : Hp) : Prop := ∀ a o, H a = some o → (∀ kvs, o ≠ .dK kvs) → (∀ kvs, o ≠ .dT kvs) → H' a = some o
theorem ExD.of {H H' : Hp} (e : Ex H H') : ExD H H' := fun a o h _ _ => e a o h
theorem ExD.trans {H H1 H2 : Hp} (e : ExD H H1) (e2 : ExD H1 H2) : ExD H H2 := fun a o h x y => e2 a o (e a o h x y) x y
theorem ExD.updK {H : Hp} {d : Addr} {kvs : List (Key × V)} {o : HO} (h : H d = some (.dK kvs)) : ExD H (upd H d o) := fun a u ha x y => by
  rw [upd_ne (fun z => by
    subst z
    rw [h] at ha
    exact x _ (Option.some.inj ha).symm)]
  exact ha
theorem ExD.updT {H : Hp} {d : Addr} {kvs : List (List Key × V)} {o : HO} (h : H d = some (.dT kvs)) : ExD H (upd H d o) := fun a u ha x y => by
  rw [upd_ne (fun z => by
    subst z
    rw [h] at ha
    exact y _ (Option.some.inj ha).symm)]
  exact ha
theorem ExD.lst {H H' : Hp} (e : ExD H H') {p : Addr} {xs : List V} (h : H p = some (.lst xs)) : H' p = some (.lst xs) := e _ _ h (fun _ z => by cases z) (fun _ z => by cases z)
theorem ExD.tup {H H' : Hp} (e : ExD H H') {p : Addr} {xs : List V} (h : H p = some (.tup xs)) : H' p = some (.tup xs) := e _ _ h (fun _ z => by cases z) (fun _ z => by cases z)
theorem ExD.ins {H H' : Hp} (e : ExD H H') {p C dx : Addr} {fs : List (Str × V)} (h : H p = some (.ins C dx fs)) : H' p = some (.ins C dx fs) := e _ _ h (fun _ z => by cases z) (fun _ z => by cases z)
theorem CodeAt.exD {K : PySem.W.Frag} {H H' : Hp} {p : Addr} {c : Cd} (e : ExD H H') (h : CodeAt K H p c) : CodeAt K H' p c := by
  obtain ⟨ok, dx, lp, h1, h2⟩ := h
  exact ⟨ok, dx, lp, e.ins h1, e.lst h2⟩
local macro_rules | `(tactic| tm_at "side") => `(tactic| (first | assumption | omega | ((try simp only [List.length_append, List.length_cons, List.length_nil, List.length_map, List.length_range]); omega) | exact ⟨by omega, by omega⟩ | exact .inl ⟨by omega, by omega⟩ | exact .inr ⟨by omega, by omega⟩ | decide))
local macro_rules | `(tactic| tm_at "rv") => `(tactic| (first
  | exact rv_I0
  | exact rv_mod (by tm_at "side")
  | exact rv_I (by tm_at "side")
  | exact rv_eq rfl
  | exact rv_ne rfl
  | exact rv_addS (by tm_at "side")
  | exact rv_ixSS (by tm_at "side") (by assumption)
  | exact rv_ixL (by assumption) (by assumption)
  | exact rv_ixT (by assumption) (by assumption)
  | exact rv_inS
  | exact rv_isN
  | exact rv_notN
  | assumption))
local macro_rules | `(tactic| tm_at "eo") => `(tactic| (first | exact eo_none | (apply eo_some; tm_at "ev")))
local macro_rules | `(tactic| tm_at "ea") => `(tactic| (first | exact ea_nil | (apply ea_cons; (tm_at "ev"); (tm_at "ea"))))
local macro_rules | `(tactic| tm_at "sp") => `(tactic| assumption)
local macro_rules | `(tactic| tm_at "ev") => `(tactic| (first
  | exact ev_c
  | exact ev_var rfl
  | assumption
  | (apply ev_op; (tm_at "ev"); (tm_at "ev"); (tm_at "rv"))
  | (apply ev_un (hr := ru_neg); tm_at "ev")
  | (apply ev_fld; (tm_at "ev"); assumption; assumption; assumption; rfl)
  | (apply ev_lenStr; (tm_at "ev"); (tm_at "side"))
  | (apply ev_lenDT; (tm_at "ev"); assumption)
  | (apply ev_len; (tm_at "ev"); assumption)
  | (apply ev_lenT; (tm_at "ev"); assumption)
  | (apply ev_slS; (tm_at "ev"); (tm_at "eo"); (tm_at "eo"); (tm_at "side"))
  | (apply ev_call; (tm_at "ea"); (tm_at "sp"))
  | (apply ev_meth; (tm_at "ev"); assumption; rfl; (tm_at "ea"); (tm_at "sp"))
  | (apply ev_isStr; tm_at "ev")
  | (apply ev_isInt; tm_at "ev")
  | (apply ev_isBoolI; tm_at "ev")
  | (apply ev_isList; (tm_at "ev"); assumption)
  | (apply ev_isTuple; (tm_at "ev"); assumption)
  | (apply ev_abs; tm_at "ev")
  | (apply ev_int1; tm_at "ev")
  | (apply ev_max2; (tm_at "ev"); (tm_at "ev"))
  | (apply ev_sindex; (tm_at "ev"); (tm_at "ev"); assumption)
  | (apply ev_dinK; (tm_at "ev"); (tm_at "ev"); assumption)
  | (apply ev_dinT; (tm_at "ev"); (tm_at "ev"); assumption; assumption)
  | (apply ev_chain; (tm_at "ev"); (tm_at "ev"); (tm_at "rv"); (intro _; tm_at "ev"); (intro _; tm_at "rv"))
  | (apply ev_andV; (tm_at "ev"); (intro _; tm_at "ev"))
  | (apply ev_orV; (tm_at "ev"); (intro _; tm_at "ev"))
  | (apply ev_notV; tm_at "ev")))
local macro_rules | `(tactic| tm_at "et") => `(tactic| (first
  | assumption
  | (apply et_test; tm_at "ev")
  | (apply et_B; tm_at "ev")
  | (apply et_not; tm_at "et")
  | (apply et_and; (tm_at "et"); (intro _; tm_at "et"))
  | (apply et_or; (tm_at "et"); (intro _; tm_at "et"))))
/-- tests by sums -/
local macro_rules | `(tactic| tm_at "bf") => `(tactic| (simp only [Bool.not_true, Bool.not_false, Bool.false_or, Bool.true_and, Bool.and_true, Bool.or_false, Bool.or_eq_false_iff, Bool.and_eq_true, decide_eq_false_iff_not, decide_eq_true_eq, Bool.not_eq_false', Bool.not_eq_true']; omega))

section
variable {P : Program} {w : World} {K : PySem.W.Frag} {mg : Str → Option Value} {base : Heap} {H : Hp}
def sp_Book_init (K : PySem.W.Frag) : Sp := fun vs H Q _ => ∃ (x dx p : Addr) (c : Cd), vs = [.ref x, .ref p] ∧ H x = some (.ins (He.ga K "Book") dx []) ∧ CodeAt K H p c ∧ ∀ H', ExB x H H' → BookAt K H' x c [] → Q .non H'
theorem CodeAt.exB {K : PySem.W.Frag} {H H' : Hp} {x p : Addr} {c : Cd} {C dx : Addr} (e : ExB x H H') (hx : H x = some (.ins C dx [])) (h : CodeAt K H p c) : CodeAt K H' p c := by
  obtain ⟨ok, dx2, lp, h1, h2⟩ := h
  refine ⟨ok, dx2, lp, e _ _ (fun z => ?_) h1, e _ _ (fun z => ?_) h2⟩
  · subst z
    rw [hx] at h1
    cases h1
  · subst z
    rw [hx] at h2
    cases h2
theorem evr_dnewK {σ : L2.St} : EvR tDNewK σ H (fun y H2 => ∃ p, y = .ref p ∧ H p = none ∧ H2 p = some (.dK [])) := fun H1 e Q q p hp => q _ _ (Ex.new hp) ⟨p, rfl, fresh_back e hp, upd_same⟩
theorem evr_dnewT {σ : L2.St} : EvR tDNewT σ H (fun y H2 => ∃ p, y = .ref p ∧ H p = none ∧ H2 p = some (.dT [])) := fun H1 e Q q p hp => q _ _ (Ex.new hp) ⟨p, rfl, fresh_back e hp, upd_same⟩
theorem bkOk_nil (c : Cd) : BkOk c [] := ⟨(fun x h => nomatch h), List.nodup_nil, List.nodup_nil, (fun x h => nomatch h), Nat.zero_le _⟩
theorem mk_Book (T : Tx K mg) : Mak P w K mg base 1 "Book" (He.ga K "Book") (sp_Book_init K) [] := by
  refine mak_of T.mk_Book T.a_Book T.d_Book_init sc_Book_init (fun _ _ _ _ _ _ us hl => match us, hl with | [_, _], _ => rfl) (fun vs H Q E h => by (repeat (obtain ⟨_, h⟩ := h)); subst_vars; rfl) fun f cdv A outer s H vs Q E hr h => ?_
  obtain ⟨x, dx, p, c, rfl, hx, hc, q⟩ := h
  have clB := T.cl_Book; have n4 := T.n_Book_own_code; have n5 := T.n_Book_by_number; have n6 := T.n_Book_by_entry
  refine ⟨_, (pss_cons (ps_fld (pv 0) (pv 1) rfl)
  (pss_cons (ps_fld (pv 0) pe_dnewK rfl)
  (pss_one (ps_fld (pv 0) pe_dnewT rfl)))), ?_⟩
  refine q_fld (ev_var rfl) (ev_var rfl) hx clB n4 (by decide) fun H1 e1 => ?_
  have b1 : ExB x H (upd H1 x (.ins (He.ga K "Book") dx (putF "own_code" (.ref p) []))) := (ExB.of e1).trans ExB.upd
  refine q_fldR evr_dnewK (ev_var rfl) upd_same clB n5 (by show 1 < 1000; decide) fun y H2 H3 e2 r e3 => ?_
  obtain ⟨dn, rfl, hdn0, hdn⟩ := r
  have nx : dn ≠ x := fun z => by
    subst z
    rw [upd_same] at hdn0
    cases hdn0
  have b3 := (b1.trans (ExB.of (e2.trans e3))).trans (ExB.upd (x := x) (o := .ins (He.ga K "Book") dx (putF "by_number" (.ref dn) (putF "own_code" (.ref p) []))))
  have hdn3 : (upd H3 x (.ins (He.ga K "Book") dx (putF "by_number" (.ref dn) (putF "own_code" (.ref p) [])))) dn = some (.dK []) := by
    rw [upd_ne nx]
    exact e3 _ _ hdn
  refine s_fldR evr_dnewT (ev_var rfl) upd_same clB n6 (by show 2 < 1000; decide) fun y H4 H5 e4 r e5 => ?_
  obtain ⟨de, rfl, hde0, hde⟩ := r
  have nx2 : de ≠ x := fun z => by
    subst z
    rw [upd_same] at hde0
    cases hde0
  have b5 := b3.trans (ExB.of (e4.trans e5))
  refine q _ (b5.trans ExB.upd) ⟨bkOk_nil c, dx, p, dn, de, [], upd_same, hc.exB (b5.trans ExB.upd) hx, ?_, ?_, rfl, fun x h => nomatch h⟩
  · rw [upd_ne nx]
    exact (e4.trans e5) _ _ hdn3
  · rw [upd_ne nx2]
    exact e5 _ _ hde
/-- Book(code) -/
theorem spm_Book {c : Cd} {p : Addr} (hc : CodeAt K H p c) {E : XK} : ∀ x dx, H x = none → H dx = none → dx ≠ x → ∀ Q : VK, (∀ v H2, Ex H H2 → (∃ q, v = .ref q ∧ BookAt K H2 q c []) → Q v H2) →
    sp_Book_init K (.ref x :: ([.ref p] ++ [])) (upd (upd H dx (.own x)) x (.ins (He.ga K "Book") dx [])) (fun v H2 => v = .non ∧ Q (.ref x) H2) E := fun x dx hx hdx hne Q q => by
  have ex : Ex H (upd (upd H dx (.own x)) x (.ins (He.ga K "Book") dx [])) := fun a o ha => by
    rw [upd_ne (ne_of_none ha hx), upd_ne (ne_of_none ha hdx)]
    exact ha
  refine ⟨x, dx, p, c, rfl, upd_same, hc.ex ex, fun H' b hc => ⟨rfl, q _ H' (fun a o ha => ?_) ⟨x, rfl, hc⟩⟩⟩
  exact b a o (ne_of_none ha hx) (ex a o ha)
def sp_Book_code (K : PySem.W.Frag) : Sp := fun vs H Q _ => ∃ (p : Addr) (c : Cd) (b : Bk), vs = [.ref p] ∧ BookAt K H p c b ∧ RetR (fun v H' => ∃ cp, v = .ref cp ∧ CodeAt K H' cp c) H Q
theorem r_Book_code {p : Addr} {c : Cd} {b : Bk} (h : BookAt K H p c b) : SpR (sp_Book_code K) [.ref p] H (fun v H' => ∃ cp, v = .ref cp ∧ CodeAt K H' cp c) := fun H1 e Q q E => ⟨p, c, b, rfl, h.ex e, q⟩
theorem m_Book_code (T : Tx K mg) : Met P w K mg base 1 (He.ga K "Book") "code" (sp_Book_code K) [] := by
  refine met_of T.cl_Book T.me_Book_code T.d_Book_code sc_Book_code (fun _ _ _ _ _ _ us hl => match us, hl with | [_], _ => rfl) (fun vs H Q E h => by (repeat (obtain ⟨_, h⟩ := h)); subst_vars; rfl) fun f cdv A outer s H vs Q E hr h => ?_
  obtain ⟨p, c, b, rfl, ⟨ok, dx, cp, dn, de, r, hp, hc, hn, he, hr, ha⟩, q⟩ := h
  have clB := T.cl_Book; have n4 := T.n_Book_own_code; have n5 := T.n_Book_by_number; have n6 := T.n_Book_by_entry
  refine ⟨_, (pss_one (ps_ret (pe_fld (pv 0) rfl))), ?_⟩
  refine s_ret (by tm_at "ev") fun H1 e1 => ?_
  exact q _ H1 e1 ⟨cp, rfl, hc.ex e1⟩
def sp_Book_entry (K : PySem.W.Frag) : Sp := fun vs H Q _ => ∃ (p : Addr) (c : Cd) (b : Bk) (n : Int), vs = [.ref p, .int n] ∧ BookAt K H p c b ∧ RetR (EntR (entOf b n)) H Q
theorem r_Book_entry {p : Addr} {c : Cd} {b : Bk} {n : Int} (h : BookAt K H p c b) : SpR (sp_Book_entry K) [.ref p, .int n] H (EntR (entOf b n)) := fun H1 e Q q E => ⟨p, c, b, n, rfl, h.ex e, q⟩
theorem m_Book_entry (T : Tx K mg) : Met P w K mg base 2 (He.ga K "Book") "entry" (sp_Book_entry K) [] := by
  refine met_of T.cl_Book T.me_Book_entry T.d_Book_entry sc_Book_entry (fun _ _ _ _ _ _ us hl => match us, hl with | [_, _], _ => rfl) (fun vs H Q E h => by (repeat (obtain ⟨_, h⟩ := h)); subst_vars; rfl) fun f cdv A outer s H vs Q E hr h => ?_
  obtain ⟨p, c, b, n, rfl, ⟨ok, dx, cp, dn, de, r, hp, hc, hn, he, rfl, ha⟩, q⟩ := h
  have clB := T.cl_Book; have n4 := T.n_Book_own_code; have n5 := T.n_Book_by_number; have n6 := T.n_Book_by_entry
  refine ⟨_, (pss_cons (ps_if (pt_not (pt_val (pe_c (c_is_whole T) hr (by decide) rfl (pa_cons (pv 1) pa_nil))))
    (pss_one (ps_ret pe_non))
    pss_nil)
  (pss_one (ps_ret (pe_dget1 (hu_of hr) (pe_fld (pv 0) rfl) (pv 1) ⟨rfl, rfl, rfl, rfl⟩)))), ?_⟩
  have v1 := v_is_whole (K := K) (H := H) (i := n)
  refine q_skip (et_is (by tm_at "et") (by rfl)) fun H1 e1 => ?_
  have hp1 := e1 _ _ hp
  refine s_ret (ev_dget1K (by tm_at "ev") (ev_var rfl) (e1 _ _ hn)) fun H2 e2 => ?_
  exact q _ H2 (e1.trans e2) (rows_entR (ha.ex (e1.trans e2)) n)
def sp_Book_number (K : PySem.W.Frag) : Sp := fun vs H Q _ => ∃ (p a : Addr) (c : Cd) (b : Bk) (e : Ent), vs = [.ref p, .ref a] ∧ BookAt K H p c b ∧ H a = some (.tup (eV e)) ∧ EntOk e ∧ RetV (numV (numOfE b e)) H Q
theorem v_Book_number {p a : Addr} {c : Cd} {b : Bk} {e : Ent} (h : BookAt K H p c b) (ha : H a = some (.tup (eV e))) (he : EntOk e) : SpV (sp_Book_number K) [.ref p, .ref a] H (numV (numOfE b e)) := fun H1 x Q q E => ⟨p, a, c, b, e, rfl, h.ex x, x _ _ ha, he, q⟩
theorem m_Book_number (T : Tx K mg) : Met P w K mg base 4 (He.ga K "Book") "number" (sp_Book_number K) [] := by
  refine met_of T.cl_Book T.me_Book_number T.d_Book_number sc_Book_number (fun _ _ _ _ _ _ us hl => match us, hl with | [_, _], _ => rfl) (fun vs H Q E h => by (repeat (obtain ⟨_, h⟩ := h)); subst_vars; rfl) fun f cdv A outer s H vs Q E hr h => ?_
  obtain ⟨p, a, c, b, e, rfl, ⟨ok, dx, cp, dn, de, r, hp, hc, hn, hde, rfl, ha⟩, hae, hok, q⟩ := h
  have clB := T.cl_Book; have n4 := T.n_Book_own_code; have n5 := T.n_Book_by_number; have n6 := T.n_Book_by_entry
  refine ⟨_, (pss_cons (ps_if (pt_not (pt_val (pe_c (c_is_entry T) hr (by decide) rfl (pa_cons (pv 1) pa_nil))))
    (pss_one (ps_ret pe_non))
    pss_nil)
  (pss_one (ps_ret (pe_dget1 (hu_of hr) (pe_fld (pv 0) rfl) (pv 1) ⟨rfl, rfl, rfl, rfl⟩)))), ?_⟩
  have v1 := v_is_entry (K := K) (H := H) hae hok
  refine q_skip (et_is (by tm_at "et") (by rfl)) fun H1 e1 => ?_
  have hp1 := e1 _ _ hp
  refine s_ret (ev_dget1T (ks := eK e) (by tm_at "ev") (ev_var rfl) (e1 _ _ hde) (by rw [← eV_eq]; exact e1 _ _ hae)) fun H2 e2 => ?_
  have := q H2 (e1.trans e2)
  rw [← rows_numV] at this
  exact this
def sp_Book_put (K : PySem.W.Frag) : Sp := fun vs H Q _ => ∃ (p a : Addr) (c : Cd) (b : Bk) (e : Ent) (n : Nat), vs = [.ref p, .ref a, .int (n : Int)] ∧ BookAt K H p c b ∧ H a = some (.tup (eV e)) ∧ EntOk e ∧ (∀ x ∈ b, x.1 ≠ n) ∧ (∀ x ∈ b, x.2 ≠ e) ∧ n < manyN c ∧ b.length < 300 ∧
  ∀ H', ExD H H' → BookAt K H' p c (b ++ [(n, e)]) → Q (.int (n : Int)) H'
theorem rB_length (r : Rows) : (rB r).length = r.length := List.length_map ..
theorem m_Book_put (T : Tx K mg) : Met P w K mg base 4 (He.ga K "Book") "put" (sp_Book_put K) [] := by
  obtain ⟨fd, F⟩ := T.d_Book_put
  obtain ⟨ds, hds, hb⟩ := F.binds1 (ps := ["self", "entry", "number"]) 3 1 (by decide) (by decide) fun Tp kV doc pm an cdv ct us its hu hi => match us, its, hu, hi with
    | [_, _, _], [_], _, _ => ⟨_, rfl, rfl⟩
  refine ⟨_, fd, ["self", "entry", "number"], ds, T.cl_Book, T.me_Book_put, F.ok sc_Book_put (fun vs H Q E h => by (repeat (obtain ⟨_, h⟩ := h)); subst_vars; rfl) fun cdv A outer s H vs Q E hr h => ?_, hb, hds⟩
  obtain ⟨p, a, c, b, e, n, rfl, ⟨ok, dx, cp, dn, de, r, hp, hc, hn, hde, rfl, har⟩, hae, hok, hnn, hne, hnm, hlen, q⟩ := h
  have clB := T.cl_Book; have n4 := T.n_Book_own_code; have n5 := T.n_Book_by_number; have n6 := T.n_Book_by_entry
  refine ⟨_, (pss_cons (ps_if (pt_not (pt_val (pe_c (c_is_entry T) hr (by decide) rfl (pa_cons (pv 1) pa_nil))))
    (pss_one ps_never)
    pss_nil)
  (pss_cons (ps_if (pt_cmp (pc_din (hu_of hr) (pv 1) (pe_fld (pv 0) rfl)))
    (pss_one ps_never)
    pss_nil)
  (pss_cons (ps_if (pt_cmpR op_notN (pv 2) pe_non (nomark _))
    (pss_one (ps_if (PW.pt (pw_or (pt_not (pt_val (pe_c (c_is_whole T) hr (by decide) rfl (pa_cons (pv 2) pa_nil)))) (pw_or (pt_cmpR op_lt (pv 2) pe_int (nomark _)) (pw_or (pt_cmpR op_ge (pv 2) (pe_mt0 (m_Code_many T) hr (by decide) (pe_fld (pv 0) rfl)) (nomark _)) (pw_or1 (pt_cmp (pc_din (hu_of hr) (pv 2) (pe_fld (pv 0) rfl))))))))
    (pss_one ps_never)
    pss_nil))
    pss_nil)
  (pss_cons (ps_if (pt_cmpR op_eq (pe_callB call_len_dT rfl T.f_len bt_len (pa_cons (pe_fld (pv 0) rfl) pa_nil)) (pe_gc rfl T.g_MOST_books) (nomark _))
    (pss_one ps_never)
    pss_nil)
  (pss_cons (ps_if (pt_cmpR op_isN (pv 2) pe_non (nomark _))
    (pss_one ps_never)
    pss_nil)
  (pss_cons (ps_dput (hu_of hr) (pe_fld (pv 0) rfl) (pv 2) (pv 1) rfl)
  (pss_cons (ps_dput (hu_of hr) (pe_fld (pv 0) rfl) (pv 1) (pv 2) rfl)
  (pss_one (ps_ret (pv 2)))))))))), ?_⟩
  have v1 := v_is_entry (K := K) (H := H) hae hok
  have haeK : H a = some (.tup ((eK e).map kV)) := by rw [← eV_eq]; exact hae
  have f1 : valV (rE r) (eK e) = none := by
    rw [valV_rE, Option.map_eq_none_iff, List.find?_eq_none]
    intro x hx z
    exact hne (x.1, x.2.1) (List.mem_map.mpr ⟨x, hx, rfl⟩) (of_decide_eq_true z)
  have f2 : valV (rN r) (.inl (n : Int)) = none := by
    rw [valV_rN, Option.map_eq_none_iff, List.find?_eq_none]
    intro x hx z
    exact hnn (x.1, x.2.1) (List.mem_map.mpr ⟨x, hx, rfl⟩) (by have := of_decide_eq_true z; omega)
  rw [rB_length] at hlen
  have lE : (rE r).length = r.length := List.length_map ..
  have lN : (rN r).length = r.length := List.length_map ..
  refine q_skip (et_is (by tm_at "et") (by rfl)) fun H1 e1 => ?_
  have hp1 := e1 _ _ hp
  have hde1 := e1 _ _ hde
  have ha1 := e1 _ _ haeK
  refine q_skip (et_is (by tm_at "et") (by rw [f1]; rfl)) fun H2 e2 => ?_
  have hp2 := e2 _ _ hp1
  refine q_when (b := true) (et_is (by tm_at "et") (by rfl)) (fun _ H3 e3 => ?_) (fun z => by cases z)
  have hp3 := e3 _ _ hp2
  have e03 := (e1.trans e2).trans e3
  have v2 := v_is_whole (K := K) (H := H3) (i := (n : Int))
  have hcc := hc.ex e03
  have v3 := v_Code_many hcc
  obtain ⟨_, dxc, lpc, hcp, _⟩ := hcc
  have hn3 := e03 _ _ hn
  refine s_skip (et_is (et_or (et_not (et_B (by tm_at "ev"))) fun _ => et_or (et_test (by tm_at "ev")) fun _ => et_or (et_test (ev_op (ev_var rfl) (ev_meth (vs := []) (ev_fld (ev_var rfl) hp3 clB n4 rfl) hcp rfl ea_nil v3) rv_I0)) fun _ => et_B (ev_dinK (ev_var rfl) (ev_fld (ev_var rfl) hp3 clB n5 rfl) hn3)) (by rw [f2, Option.isSome_none]; tm_at "bf")) fun H4 e4 => ?_
  have e04 := e03.trans e4
  have hp4 := e04 _ _ hp
  have hde4 := e04 _ _ hde
  refine q_skip (et_is (et_test (ev_op (ev_lenDT (ev_fld (ev_var rfl) hp4 clB n6 rfl) hde4) ev_c (rv_eq rfl))) (by rw [vint_eq, decide_eq_false (by omega)])) fun H5 e5 => ?_
  refine q_skip (et_is (by tm_at "et") (by rfl)) fun H6 e6 => ?_
  have e06 := (e04.trans e5).trans e6
  have hp6 := e06 _ _ hp
  have hn6 := e06 _ _ hn
  refine q_dputK (ev_var rfl) (by tm_at "ev") (ev_var rfl) hn6 (by omega) fun H7 e7 => ?_
  have e07 := e06.trans e7
  have hn7 := e07 _ _ hn
  have d8 : ExD H (upd H7 dn (.dK (putK (rN r) (.inl (n : Int)) (.ref a)))) := (ExD.of e07).trans (ExD.updK hn7)
  have hp8 := d8.ins hp
  have ha8 := d8.tup haeK
  have hnd : de ≠ dn := fun z => by
    subst z
    rw [hn] at hde
    cases hde
  have hde8 : (upd H7 dn (.dK (putK (rN r) (.inl (n : Int)) (.ref a)))) de = some (.dT (rE r)) := by
    rw [upd_ne hnd]
    exact e07 _ _ hde
  refine q_dputT (ev_var rfl) (by tm_at "ev") (ev_var rfl) hde8 ha8 (by omega) fun H9 e9 => ?_
  have d9 : ExD H (upd H9 de (.dT (putK (rE r) (eK e) (.int (n : Int))))) := (d8.trans (ExD.of e9)).trans (ExD.updT (e9 _ _ hde8))
  refine s_ret (ev_var rfl) fun H10 e10 => ?_
  have d10 := d9.trans (ExD.of e10)
  refine q H10 d10 ⟨⟨?_, ?_, ?_, ?_, ?_⟩, dx, cp, dn, de, r ++ [(n, e, a)], d10.ins hp, hc.exD d10, ?_, ?_, ?_, ?_⟩
  · intro x hx
    rcases List.mem_append.mp hx with h | h
    · exact ok.ents x h
    · rw [List.mem_singleton.mp h]
      exact hok
  · rw [List.map_append]
    refine List.nodup_append.mpr ⟨ok.nums, List.nodup_cons.mpr ⟨(fun h => nomatch h), List.nodup_nil⟩, fun x hx y hy => ?_⟩
    obtain ⟨z, hz, rfl⟩ := List.mem_map.mp hx
    rw [List.mem_singleton.mp hy]
    exact hnn z hz
  · rw [List.map_append]
    refine List.nodup_append.mpr ⟨ok.unl, List.nodup_cons.mpr ⟨(fun h => nomatch h), List.nodup_nil⟩, fun x hx y hy => ?_⟩
    obtain ⟨z, hz, rfl⟩ := List.mem_map.mp hx
    rw [List.mem_singleton.mp hy]
    exact hne z hz
  · intro x hx
    rcases List.mem_append.mp hx with h | h
    · exact ok.lt x h
    · rw [List.mem_singleton.mp h]
      exact hnm
  · rw [List.length_append, rB_length]
    show r.length + 1 ≤ 300
    omega
  · refine e10 _ _ ?_
    rw [upd_ne (fun z => hnd z.symm)]
    refine e9 _ _ ?_
    rw [upd_same, putK_new f2]
    unfold rN
    rw [List.map_append]
    rfl
  · refine e10 _ _ ?_
    rw [upd_same, putK_new f1]
    unfold rE
    rw [List.map_append]
    rfl
  · unfold rB
    rw [List.map_append]
    rfl
  · intro x hx
    rcases List.mem_append.mp hx with h | h
    · exact d10.tup (har x h)
    · rw [List.mem_singleton.mp h]
      exact d10.tup hae
def keptB (c : Cd) (b : Bk) (x : W) (ck : Bool) : Bool := goodB c x && (ck || (entOf b (numOf c x)).isSome)
def sp_is_kept (K : PySem.W.Frag) : Sp := fun vs H Q _ => ∃ (p : Addr) (c : Cd) (b : Bk) (x : W) (ck : Bool), vs = [.ref p, .str (S x), .bl ck] ∧ BookAt K H p c b ∧ IsWord c x ∧ RetV (.bl (keptB c b x ck)) H Q
theorem v_is_kept {p : Addr} {c : Cd} {b : Bk} {x : W} {ck : Bool} (h : BookAt K H p c b) (hx : IsWord c x) : SpV (sp_is_kept K) [.ref p, .str (S x), .bl ck] H (.bl (keptB c b x ck)) := fun H1 e Q q E => ⟨p, c, b, x, ck, rfl, h.ex e, hx, q⟩
theorem rv_entN {o : Option Ent} {v : V} {H1 : Hp} (h : EntR o v H1) : RV (fun x y H Q => y = .non ∧ Q (.bl (!decide (x = .non))) H) v .non H (.bl o.isSome) := by
  have e : (!decide (v = V.non)) = o.isSome := by
    cases o with
    | none =>
      have : v = .non := h
      rw [this]
      rfl
    | some x =>
      obtain ⟨a, rfl, _⟩ := h
      rfl
  rw [← e]
  exact rv_notN
/-- book.code() -/
theorem evr_code {σ : L2.St} {E : XK} {ta : TE} {p : Addr} {c : Cd} {b : Bk} (h : Ev ta σ H (.ref p)) (hb : BookAt K H p c b) : EvR (tMeth (He.ga K "Book") "code" (sp_Book_code K) [] E ta tNil) σ H (fun v H' => ∃ cp, v = .ref cp ∧ CodeAt K H' cp c) := by
  have hb0 := hb
  obtain ⟨_, dx, cp, dn, de, r, hp, _⟩ := hb
  exact evr_meth h hp rfl ea_nil (r_Book_code hb0)
theorem c_is_kept (T : Tx K mg) : Cal P w K mg base 5 "is_kept" (sp_is_kept K) [] := by
  refine cal_of T.d_is_kept T.a_is_kept sc_is_kept (fun _ _ _ _ _ _ us hl => match us, hl with | [_, _, _], _ => rfl) (fun vs H Q E h => by (repeat (obtain ⟨_, h⟩ := h)); subst_vars; rfl) fun f cdv A outer s H vs Q E hr h => ?_
  obtain ⟨p, c, b, x, ck, rfl, hb, hx, q⟩ := h
  refine ⟨_, (pss_cons (ps_set (i := 3) sc_is_kept.nd rfl (Or.inl rfl) (pe_mt0 (m_Book_code T) hr (by decide) (pv 0)))
  (pss_cons (ps_if (pt_not (pt_val (pe_mt (m_Code_has_good T) hr (by decide) (pv 3) (pa_cons (pv 1) pa_nil))))
    (pss_one (ps_ret pe_bl))
    pss_nil)
  (pss_one (ps_ret (pe_or (pv 2) (pe_one (pe_cmpR op_notN (pe_mt (m_Book_entry T) hr (by decide) (pv 0) (pa_cons (pe_mt (m_Code_number T) hr (by decide) (pv 3) (pa_cons (pv 1) pa_nil)) pa_nil)) pe_non (nomark _)))))))), ?_⟩
  refine q_asgR (evr_code (ev_var rfl) hb) fun v H1 e1 r => ?_
  obtain ⟨cp, rfl, hc⟩ := r
  have v1 := v_Code_has_good hc hx
  have hcp := hc
  obtain ⟨_, dxc, lpc, hcp, _⟩ := hcp
  refine q_when (b := !goodB c x) (by tm_at "et") (fun hg H2 e2 => ?_) (fun hg H2 e2 => ?_)
  · refine s_ret ev_c fun H3 e3 => ?_
    have := q H3 ((e1.trans e2).trans e3)
    unfold keptB at this
    rw [show goodB c x = false by simpa using hg] at this
    exact this
  · have hg' : goodB c x = true := by simpa using hg
    have hb2 := hb.ex (e1.trans e2)
    have hb2' := hb2
    obtain ⟨_, dx, cp2, dn, de, r, hp2, _⟩ := hb2'
    have v2 := v_Code_number (hc.ex e2) hx hg'
    have hcp2 := e2 _ _ hcp
    refine s_ret (ev_orV (b := (entOf b (numOf c x)).isSome) (ev_var rfl) fun hk => ev_opR (evr_meth (ev_var rfl) hp2 rfl (vs := [.int (numOf c x)]) (by tm_at "ea") (r_Book_entry (n := numOf c x) hb2)) (fun _ _ => ev_c) fun y Ha Hb hr _ => rv_entN hr) fun H3 e3 => ?_
    have := q H3 ((e1.trans e2).trans e3)
    unfold keptB at this
    rw [hg'] at this
    exact this
end
end Cb
/-! K13: got_across. -/
namespace Cb
open PySem PySem.Spec PyProof.Rows L2 Evl
open C8 (Cal Met Mak pe_c pe_mk pe_mt pe_mt0 pe_gc)

abbrev iN (P : List Nat) : List V := (P.map fun p : Nat => (p : Int)).map V.int
theorem upd_id {H : Hp} {p : Addr} {o : HO} (h : H p = some o) : upd H p o = H := by
  funext a
  by_cases e : a = p
  · subst e
    rw [upd_same, h]
  · rw [upd_ne e]
theorem set_same {ws : List W} {p : Nat} : (ws.map vS).set p (vS (ws.getD p [])) = ws.map vS := by
  apply List.ext_getElem?
  intro i
  rw [List.getElem?_set]
  split
  · rename_i h
    subst h
    split
    · rename_i h2
      rw [List.length_map] at h2
      rw [List.getElem?_map, List.getElem?_eq_getElem h2, List.getD_eq_getElem?_getD, List.getElem?_eq_getElem h2]
      rfl
    · rename_i h2
      rw [List.getElem?_eq_none (by omega)]
  · rfl
section
variable {K : PySem.W.Frag} {σ : L2.St} {H H' : Hp} {ta te : TE} {xs : List V}
theorem el_callR {sp : Sp} {dvs : List V} {E : XK} {ta : TA} {RA : List V → Hp → Prop} (h : EvAR ta σ H RA) (hs : ∀ vs H1, Ex H H1 → RA vs H1 → SpL sp (vs ++ dvs) H1 xs) : EvL (tCall sp dvs E ta) σ H xs := fun H1 e Q q =>
  h H1 e _ fun vs H2 e2 r => hs vs H2 (e.trans e2) r H2 (Ex.refl H2) Q (fun p H3 hp e3 h3 => q p H3 (fresh_back e2 hp) (e2.trans e3) h3) E
theorem el_listRg1 {n : Nat} (h : Ev ta σ H (.int (n : Int))) (hn : n ≤ 100000) : EvL (tLstRg (tRg1 ta)) σ H (iN (List.range n)) := fun H1 e Q q =>
  h H1 e _ fun H2 e2 => ⟨(n : Int), rfl, RgOk.of_le (by omega) (by omega) (by omega) (by omega), fun p hp => by
    have e3 : rgV 0 (n : Int) = iN (List.range n) := by
      show (List.range ((n : Int) - 0).toNat).map _ = ((List.range n).map fun p : Nat => (p : Int)).map V.int
      rw [List.map_map]
      rw [show ((n : Int) - 0).toNat = n by omega]
      apply List.map_congr_left
      intro i _
      show V.int (0 + (i : Int)) = V.int (i : Int)
      rw [Int.zero_add]
    rw [e3]
    exact q p _ (fresh_back e2 hp) (e2.trans (Ex.new hp)) upd_same⟩
end
theorem kept_iff {c : Cd} {b : Bk} (ok : CdOk c) {x : W} {f : Option Fl} {ck : Bool} (hx : IsWord c x) (hg : goodB c x = true) (hk : ck = true ∨ (entOf b (numOf c x)).isSome = true) : keptB c b (garbW c f x) ck = decide (x = garbW c f x) := by
  obtain ⟨_, h⟩ := garbW_ok ok hx hg f
  unfold keptB
  rcases h with h | h
  · rw [h, hg, decide_eq_true rfl]
    rcases hk with hk | hk
    · rw [hk]
      rfl
    · rw [hk, Bool.or_true]
      rfl
  · rw [h, decide_eq_false (fun z => by rw [← z, hg] at h; cases h)]
    rfl
def leftL (P : List Nat) (G : List W) (wd : Nat → W) (i : Nat) : List Nat := (((P.zip G).take i).filter fun x => decide (wd x.1 ≠ x.2)).map (·.1)
theorem zip_at {P : List Nat} {G : List W} {i : Nat} (h1 : i < P.length) (h2 : i < G.length) : (P.zip G)[i]? = some (P.getD i 0, G.getD i []) := by
  rw [List.getElem?_zip_eq_some]
  exact ⟨getD_at h1, getD_at h2⟩
theorem leftL_zero (P : List Nat) (G : List W) (wd : Nat → W) : leftL P G wd 0 = [] := by
  unfold leftL
  rw [List.take_zero]
  rfl
theorem leftL_succ {P : List Nat} {G : List W} {wd : Nat → W} {i : Nat} (h1 : i < P.length) (h2 : i < G.length) : leftL P G wd (i + 1) = leftL P G wd i ++ (if wd (P.getD i 0) = G.getD i [] then [] else [P.getD i 0]) := by
  unfold leftL
  rw [List.take_succ, zip_at h1 h2, List.filter_append, List.map_append]
  congr 1
  show (List.filter _ [(P.getD i 0, G.getD i [])]).map _ = _
  rw [List.filter_cons]
  split
  · rename_i h
    have := of_decide_eq_true h
    rw [if_neg this]
    rfl
  · rename_i h
    rw [if_pos (by simpa using h)]
    rfl
theorem leftL_len (P : List Nat) (G : List W) (wd : Nat → W) (i : Nat) : (leftL P G wd i).length ≤ P.length := by
  unfold leftL
  rw [List.length_map]
  refine Nat.le_trans (List.length_filter_le _ _) (Nat.le_trans (by rw [List.length_take]; exact Nat.min_le_right _ _) ?_)
  rw [List.length_zip]
  exact Nat.min_le_left _ _
theorem places_len (c : Cd) (fs : List Fl) (ws : List W) : ∀ t, (places c fs ws t).length ≤ ws.length
  | 0 => by
    show (List.range ws.length).length ≤ _
    rw [List.length_range]
    exact Nat.le_refl _
  | t + 1 => by
    refine Nat.le_trans ?_ (places_len c fs ws t)
    show (nextP c fs _ t _).length ≤ _
    unfold nextP
    rw [List.length_map]
    refine Nat.le_trans (List.length_filter_le _ _) ?_
    rw [List.length_zip]
    exact Nat.min_le_left _ _
/-- all sendings as they came, in the heap -/
def SendAt (H : Hp) (sp : Addr) (c : Cd) (fs : List Fl) (ws : List W) (T : Nat) : Prop := ∃ as : List Addr, H sp = some (.lst (as.map V.ref)) ∧ as.length = T ∧ ∀ (i : Nat) (a : Addr), as[i]? = some a → H a = some (.lst ((garbL c (asked c fs ws i) fs (i : Int)).map vS))
def GaW (H : Hp) (bp wp fp ep sp : Addr) (c : Cd) (fs : List Fl) (ws : List W) (t : Nat) (σ' : L2.St) (H' : Hp) : Prop := ∃ (ap : Addr) (as : List Addr) (x6 x7 x8 x9 : Option V),
  σ' = [some (.ref bp), some (.ref wp), some (.ref fp), some (.ref ep), some (.ref sp), some (.ref ap), x6, x7, x8, x9] ∧ Ex H H' ∧ H' ep = some (.lst (ws.map vS)) ∧ H' sp = some (.lst (as.map V.ref)) ∧ as.length = t ∧
  (∀ (i : Nat) (a : Addr), as[i]? = some a → a ≠ sp ∧ H' a = some (.lst ((garbL c (asked c fs ws i) fs (i : Int)).map vS))) ∧ ap ≠ sp ∧ H' ap = some (.lst (iN (places c fs ws t))) ∧ (∀ i, i < t → asked c fs ws i ≠ []) ∧ t ≤ 61
local macro_rules | `(tactic| tm_at "side") => `(tactic| (first | assumption | omega | ((try simp only [List.length_append, List.length_cons, List.length_nil, List.length_map, List.length_range]); omega) | exact ⟨by omega, by omega⟩ | exact .inl ⟨by omega, by omega⟩ | exact .inr ⟨by omega, by omega⟩ | decide))
local macro_rules | `(tactic| tm_at "rv") => `(tactic| (first
  | exact rv_I0
  | exact rv_mod (by tm_at "side")
  | exact rv_I (by tm_at "side")
  | exact rv_eq rfl
  | exact rv_ne rfl
  | exact rv_addS (by tm_at "side")
  | exact rv_ixSS (by tm_at "side") (by assumption)
  | exact rv_ixL (by assumption) (by assumption)
  | exact rv_ixT (by assumption) (by assumption)
  | exact rv_inS
  | exact rv_isN
  | exact rv_notN
  | assumption))
local macro_rules | `(tactic| tm_at "eo") => `(tactic| (first | exact eo_none | (apply eo_some; tm_at "ev")))
local macro_rules | `(tactic| tm_at "ea") => `(tactic| (first | exact ea_nil | (apply ea_cons; (tm_at "ev"); (tm_at "ea"))))
local macro_rules | `(tactic| tm_at "sp") => `(tactic| assumption)
local macro_rules | `(tactic| tm_at "ev") => `(tactic| (first
  | exact ev_c
  | exact ev_var rfl
  | assumption
  | (apply ev_op; (tm_at "ev"); (tm_at "ev"); (tm_at "rv"))
  | (apply ev_un (hr := ru_neg); tm_at "ev")
  | (apply ev_fld; (tm_at "ev"); assumption; assumption; assumption; rfl)
  | (apply ev_lenStr; (tm_at "ev"); (tm_at "side"))
  | (apply ev_lenDT; (tm_at "ev"); assumption)
  | (apply ev_len; (tm_at "ev"); assumption)
  | (apply ev_lenT; (tm_at "ev"); assumption)
  | (apply ev_slS; (tm_at "ev"); (tm_at "eo"); (tm_at "eo"); (tm_at "side"))
  | (apply ev_call; (tm_at "ea"); (tm_at "sp"))
  | (apply ev_meth; (tm_at "ev"); assumption; rfl; (tm_at "ea"); (tm_at "sp"))
  | (apply ev_isStr; tm_at "ev")
  | (apply ev_isInt; tm_at "ev")
  | (apply ev_isBoolI; tm_at "ev")
  | (apply ev_isList; (tm_at "ev"); assumption)
  | (apply ev_isTuple; (tm_at "ev"); assumption)
  | (apply ev_abs; tm_at "ev")
  | (apply ev_int1; tm_at "ev")
  | (apply ev_max2; (tm_at "ev"); (tm_at "ev"))
  | (apply ev_sindex; (tm_at "ev"); (tm_at "ev"); assumption)
  | (apply ev_dinK; (tm_at "ev"); (tm_at "ev"); assumption)
  | (apply ev_dinT; (tm_at "ev"); (tm_at "ev"); assumption; assumption)
  | (apply ev_chain; (tm_at "ev"); (tm_at "ev"); (tm_at "rv"); (intro _; tm_at "ev"); (intro _; tm_at "rv"))
  | (apply ev_andV; (tm_at "ev"); (intro _; tm_at "ev"))
  | (apply ev_orV; (tm_at "ev"); (intro _; tm_at "ev"))
  | (apply ev_notV; tm_at "ev")))
local macro_rules | `(tactic| tm_at "et") => `(tactic| (first
  | assumption
  | (apply et_test; tm_at "ev")
  | (apply et_B; tm_at "ev")
  | (apply et_not; tm_at "et")
  | (apply et_and; (tm_at "et"); (intro _; tm_at "et"))
  | (apply et_or; (tm_at "et"); (intro _; tm_at "et"))))
/-- tests by sums -/
local macro_rules | `(tactic| tm_at "bf") => `(tactic| (simp only [Bool.not_true, Bool.not_false, Bool.false_or, Bool.true_and, Bool.and_true, Bool.or_false, Bool.or_eq_false_iff, Bool.and_eq_true, decide_eq_false_iff_not, decide_eq_true_eq, Bool.not_eq_false', Bool.not_eq_true']; omega))

section
variable {P : Program} {w : World} {K : PySem.W.Frag} {mg : Str → Option Value} {base : Heap} {H : Hp}
/-- words that are kept where they come right -/
structure Kept (c : Cd) (b : Bk) (ws : List W) : Prop where
  word : ∀ x ∈ ws, IsWord c x ∧ goodB c x = true
  ent : ∀ i, i + 1 < ws.length → (entOf b (numOf c (ws.getD i []))).isSome = true
def sp_got_across (K : PySem.W.Frag) : Sp := fun vs H Q _ => ∃ (bp wp fp : Addr) (c : Cd) (b : Bk) (ws : List W) (fs : List Fl), vs = [.ref bp, .ref wp, .ref fp] ∧ BookAt K H bp c b ∧ SqL K H wp (ws.map vS) ∧ ws.length ≤ 10000 ∧ Kept c b ws ∧ FaultsAt K H fp fs ∧ (∀ f ∈ fs, f.s < 60) ∧
  RetR (fun v H' => ∃ a ep sp T, v = .ref a ∧ H' a = some (.tup [.ref ep, .ref sp]) ∧ H' ep = some (.lst (ws.map vS)) ∧ SendAt H' sp c fs ws T ∧ asked c fs ws T = [] ∧ (∀ i, i < T → asked c fs ws i ≠ []) ∧ T ≤ 61) H Q
theorem c_got_across (T : Tx K mg) : Cal P w K mg base 6 "got_across" (sp_got_across K) [] := by
  refine cal_of T.d_got_across T.a_got_across sc_got_across (fun _ _ _ _ _ _ us hl => match us, hl with | [_, _, _], _ => rfl) (fun vs H Q E h => by (repeat (obtain ⟨_, h⟩ := h)); subst_vars; rfl) fun f cdv A outer s H vs Q E hr h => ?_
  obtain ⟨bp, wp, fp, c, b, ws, fs, rfl, hb, hw, hwl, hk, hf, hfs, q⟩ := h
  have ok : CdOk c := by
    obtain ⟨_, dx, cp, dn, de, r, h1, h2, _⟩ := hb
    exact h2.1
  refine ⟨_, (pss_cons (ps_set (i := 3) sc_got_across.nd rfl (Or.inl rfl) (pe_callTy call_list_of rfl T.f_list bt_list (pa_cons (pv 1) pa_nil)))
  (pss_cons (ps_set (i := 4) sc_got_across.nd rfl (Or.inl rfl) (pe_lst pa_nil))
  (pss_cons (ps_set (i := 5) sc_got_across.nd rfl (Or.inl rfl) (pe_listRg rfl rfl T.f_list (prg_1 rfl T.f_range (pe_callB call_len_seq rfl T.f_len bt_len (pa_cons (pv 1) pa_nil)))))
  (pss_cons (ps_while PassesOwn.never (pt_cmpR (op_neD hr.units) (pv 5) (pe_lst pa_nil) (nomark _))
    (pss_cons (ps_set (i := 7) sc_got_across.nd rfl (Or.inl rfl) (pe_c (c_garbled T) hr (by decide) rfl (pa_cons (pe_mt0 (m_Book_code T) hr (by decide) (pv 0)) (pa_cons (pe_lc (own := [("place", 6)]) (g := gName 6) (tt := tYes) rfl sc_got_across.nd (pi_list (pv 5)) (blkOk_by (N := nm_got_across) (sc := defScope s_got_across) (by decide +kernel)) (fun _ _ _ _ _ => (pg_name (i := 6) sc_got_across.nd rfl (Or.inl rfl))) (fun _ _ _ _ _ => pts_nil) (fun _ _ _ _ _ => (pe_ix (ixK_list (K := K) rfl) (pv 1) (pv 6) (fun _ _ => rfl)))) (pa_cons (pv 2) (pa_cons (pe_callB call_len_seq rfl T.f_len bt_len (pa_cons (pv 4) pa_nil)) pa_nil))))))
  (pss_cons (ps_expr (pe_bm PySem.F.plainAttrs_list PySem.F.slot_list_append PySem.F.type_list_append mt_append (pv 4) (pa_cons (pv 7) pa_nil)))
  (pss_cons (ps_set (i := 8) sc_got_across.nd rfl (Or.inl rfl) (pe_lst pa_nil))
  (pss_cons (ps_for PassesOwn.never rfl (pi_zip rfl T.f_zip (pa_cons (pv 5) (pa_cons (pv 7) pa_nil))) (pg_tup rfl (pgs_cons (pg_name (i := 6) sc_got_across.nd rfl (Or.inl rfl)) (pgs_cons (pg_name (i := 9) sc_got_across.nd rfl (Or.inl rfl)) pgs_nil)))
    (pss_one (ps_if (pt_val (pe_c (c_is_kept T) hr (by decide) rfl (pa_cons (pv 0) (pa_cons (pv 9) (pa_cons (pe_cmpR op_eq (pv 6) (pe_op op_sub (pe_callB call_len_seq rfl T.f_len bt_len (pa_cons (pv 1) pa_nil)) pe_int) (nomark _)) pa_nil)))))
    (pss_one (ps_asg (pv 9) (pg_sub (pv 3) (pv 6) set_list)))
    (pss_one (ps_expr (pe_bm PySem.F.plainAttrs_list PySem.F.slot_list_append PySem.F.type_list_append mt_append (pv 8) (pa_cons (pv 6) pa_nil)))))))
  (pss_one (ps_set (i := 5) sc_got_across.nd rfl (Or.inl rfl) (pv 8))))))))
  (pss_one (ps_ret (pe_tup (pa_cons (pv 3) (pa_cons (pv 4) pa_nil))))))))), ?_⟩
  refine q_asgL (el_listT (ev_var rfl) hw) fun ep H1 hep e1 h1 => ?_
  refine q_asgL (xs := []) (el_lst ea_nil (by decide)) fun sp H2 hsp e2 h2 => ?_
  have nes : ep ≠ sp := ne_of_none h1 hsp
  have hw2 := ex_l (e1.trans e2) hw
  refine q_asgL (el_listRg1 (n := ws.length) (ev_is (ev_len (ev_var rfl) hw2) (by rw [List.length_map])) (by omega)) fun ap0 H3 hap0 e3 h3 => ?_
  have e03 := (e1.trans e2).trans e3
  have hsp0 := fresh_back e1 hsp
  refine q_while (fun m σ' H' => ∃ t, m = 61 - t ∧ GaW H bp wp fp ep sp c fs ws t σ' H') 61 ⟨0, rfl, ap0, [], none, none, none, none, rfl, e03, (e2.trans e3) _ _ h1, e3 _ _ h2, rfl, (fun i a h => by simp at h), (ne_of_none h2 hap0).symm, h3, (fun i hi => absurd hi (Nat.not_lt_zero i)), by decide⟩ fun m σ' H' hW => ?_
  obtain ⟨t, rfl, ap, as, x6, x7, x8, x9, rfl, e, hep', hsp', hal, has, naps, hap, hask, ht⟩ := hW
  have hdp : Dp K H' (.ref ap) (.list ((((places c fs ws t).map fun p : Nat => (p : Int))).map PyData.int)) := dp_LI (sq_of hap)
  refine ⟨_, et_test (ev_neNil (ev_var rfl) hdp (fl_LI _)), fun hc1 H4 e4 => ?_, fun hc1 H4 e4 => ?_⟩
  · have hne : places c fs ws t ≠ [] := fun z => by
      rw [z] at hc1
      cases hc1
    have hasked : asked c fs ws t ≠ [] := fun z => by
      rw [← places_map] at z
      exact hne (List.map_eq_nil_iff.mp z)
    have ht60 : t ≤ 60 := by
      rcases Nat.lt_or_ge 60 t with h | h
      · have : t = 60 + 1 := by omega
        rw [this] at hasked
        exact absurd (asked_late (b := 60) fun f hf => hfs f hf) hasked
      · exact h
    have e04 := e.trans e4
    have hb4 := hb.ex e04
    have hw4 := ex_l e04 hw
    have hap4 := e4 _ _ hap
    have hsp4 := e4 _ _ hsp'
    have hpl := places_len c fs ws t
    refine ⟨fun σ2 H2 => ∃ t', t' = t + 1 ∧ GaW H bp wp fp ep sp c fs ws t' σ2 H2, fun σ2 H2 hN => ?_, ?_⟩
    · obtain ⟨t', rfl, hN⟩ := hN
      exact ⟨61 - (t + 1), by omega, t + 1, rfl, hN⟩
    refine q_asgL (xs := (garbL c (asked c fs ws t) fs (t : Int)).map vS) (el_callR (RA := fun vs H5 => ∃ cp lp, vs = [.ref cp, .ref lp, .ref fp, .int (t : Int)] ∧ CodeAt K H5 cp c ∧ H5 lp = some (.lst ((asked c fs ws t).map vS))) (ear_cons (evr_code (ev_var rfl) hb4) fun y H5 e5 r => ?_) fun vs H5 e5 r => ?_) fun cm H5 hcm e5 h5 => ?_
    · obtain ⟨cp, rfl, hcc⟩ := r
      refine ear_cons (EvL.r (xs := (asked c fs ws t).map vS) ?_) fun y H6 e6 r => ?_
      · have hap5 := sq_of (K := K) (e5 _ _ hap4)
        have hw5 := ex_l e5 hw4
        have := el_lcY (te := tOp (rIxL K) (tVar 1) (tVar 6)) (j := 6) (vs := [6]) (fun i => vS (ws.getD ((places c fs ws t).getD i 0) [])) (ei_n (ei_list (σ := [some (V.ref bp), some (V.ref wp), some (V.ref fp), some (V.ref ep), some (V.ref sp), some (V.ref ap), x6, x7, x8, x9]) (tl := tVar 5) (ev_var rfl) hap5) fun _ _ e => ex_l e) (by rw [List.length_map, List.length_map]; omega) (fun _ => rfl) fun i hi => by
          rw [List.length_map, List.length_map] at hi
          rw [getD_map (d := 0) (by rw [List.length_map]; exact hi)]
          have hi2 : ((places c fs ws t).map fun p : Nat => (p : Int)).getD i 0 = (((places c fs ws t).getD i 0 : Nat) : Int) := by
            rw [List.getD_eq_getElem?_getD, List.getElem?_map, List.getD_eq_getElem?_getD, List.getElem?_eq_getElem hi]
            rfl
          rw [hi2]
          have hlt : (places c fs ws t).getD i 0 < ws.length := places_lt (t := t) (c := c) (fs := fs) (getD_mem hi)
          have a1 : atI (ws.map vS) (((places c fs ws t).getD i 0 : Nat) : Int) = some (vS (ws.getD ((places c fs ws t).getD i 0) [])) := by
            refine atG rfl ?_
            rw [List.getElem?_map, getD_at hlt]
            rfl
          tm_at "ev"
        rw [List.length_map, List.length_map, map_range_getD (places c fs ws t) 0 (fun p => vS (ws.getD p []))] at this
        rw [← places_map, List.map_map]
        exact this
      · obtain ⟨lp, rfl, hlp⟩ := r
        have hsp6 := sq_of (K := K) (e6 _ _ (e5 _ _ hsp4))
        refine (EvA.r (vs := [.ref fp, .int (t : Int)]) (ea_cons (ev_var rfl) (ea_cons (ev_is (ev_len (ev_var rfl) hsp6) (by rw [List.length_map, hal])) ea_nil))).imp fun us H7 e7 hu => ?_
        exact ⟨cp, lp, by rw [hu], hcc.ex (e6.trans e7), e7 _ _ hlp⟩
    · obtain ⟨cp, lp, rfl, hcc, hlp⟩ := r
      refine l_garbled hcc (sq_of hlp) ?_ (fun x hx => (hk.word x (asked_mem hx)).1) (hf.ex (e04.trans e5))
      rw [← places_map, List.length_map]
      omega
    · have e05 := e04.trans e5
      have hsp5 := e5 _ _ hsp4
      have ncs : cm ≠ sp := (ne_of_none hsp4 hcm).symm
      refine q_app hsp5 (ev_var rfl) (ev_var rfl) (by rw [List.length_map, hal]; omega) fun H6 e6 => ?_
      have e06 := e05.trans e6
      have e46 := (e4.trans e5).trans e6
      -- what stands behind the append
      generalize hHb : upd H6 sp (.lst (as.map V.ref ++ [V.ref cm])) = Hb
      have exb : Ex H Hb := by
        rw [← hHb]
        exact Ex.mut e06 hsp0
      have hepb : Hb ep = some (.lst (ws.map vS)) := by
        rw [← hHb, upd_ne nes]
        exact e46 _ _ hep'
      have hspb : Hb sp = some (.lst ((as ++ [cm]).map V.ref)) := by
        rw [← hHb, upd_same, List.map_append]
        rfl
      have hapb : Hb ap = some (.lst (iN (places c fs ws t))) := by
        rw [← hHb, upd_ne naps]
        exact e46 _ _ hap
      have hcmb : Hb cm = some (.lst ((garbL c (asked c fs ws t) fs (t : Int)).map vS)) := by
        rw [← hHb, upd_ne ncs]
        exact e6 _ _ h5
      have hasb : ∀ (i : Nat) (a : Addr), (as ++ [cm])[i]? = some a → a ≠ sp ∧ Hb a = some (.lst ((garbL c (asked c fs ws i) fs (i : Int)).map vS)) := fun i a hia => by
        by_cases hi : i < as.length
        · rw [List.getElem?_append_left hi] at hia
          obtain ⟨n1, h1⟩ := has i a hia
          refine ⟨n1, ?_⟩
          rw [← hHb, upd_ne n1]
          exact e46 _ _ h1
        · rw [List.getElem?_append_right (by omega)] at hia
          have h0 : i - as.length = 0 := by
            have := (List.getElem?_eq_some_iff.mp hia).1
            simp at this
            omega
          rw [h0] at hia
          have : cm = a := Option.some.inj hia
          subst this
          have : i = t := by omega
          subst this
          exact ⟨ncs, hcmb⟩
      clear hHb
      refine q_asgL (xs := []) (el_lst ea_nil (by decide)) fun lp H7 hlp e7 h7 => ?_
      have lenG : (garbL c (asked c fs ws t) fs (t : Int)).length = (places c fs ws t).length := by
        rw [garbL_length, ← places_map, List.length_map]
      refine q_forP (ep_zip (by tm_at "ea") (sq_of (e7 _ _ hapb)) (sq_of (e7 _ _ hcmb))) (fun i σ' H' => ∃ y6 y9, σ' = [some (V.ref bp), some (V.ref wp), some (V.ref fp), some (V.ref ep), some (V.ref sp), some (V.ref ap), y6, some (V.ref cm), some (V.ref lp), y9] ∧ Ex Hb H' ∧ H' lp = some (.lst (iN (leftL (places c fs ws t) (garbL c (asked c fs ws t) fs (t : Int)) (fun p => ws.getD p []) i))))
        (fun H8 e8 _ => ⟨_, _, rfl, e7.trans e8, by rw [leftL_zero]; exact e8 _ _ h7⟩) (fun i σ' H' _ hP => by obtain ⟨y6, y9, rfl, eb, _⟩ := hP; exact ⟨sq_of (eb _ _ hapb), sq_of (eb _ _ hcmb)⟩) (fun i σ' H' hi hP H8 e8 => ?_) (fun σ' H' hP => ?_)
      · obtain ⟨y6, y9, rfl, eb, hl'⟩ := hP
        rw [List.length_map, List.length_map, List.length_map, lenG, Nat.min_self] at hi
        rw [getD_map (d := 0) (by rw [List.length_map]; exact hi), getD_map (d := []) (by rw [lenG]; exact hi)]
        have hi2 : ((places c fs ws t).map fun p : Nat => (p : Int)).getD i 0 = (((places c fs ws t).getD i 0 : Nat) : Int) := by
          rw [List.getD_eq_getElem?_getD, List.getElem?_map, List.getD_eq_getElem?_getD, List.getElem?_eq_getElem hi]
          rfl
        rw [hi2]
        have hlt : (places c fs ws t).getD i 0 < ws.length := places_lt (t := t) (c := c) (fs := fs) (getD_mem hi)
        have hsucc := leftL_succ (P := places c fs ws t) (G := garbL c (asked c fs ws t) fs (t : Int)) (wd := fun p => ws.getD p []) hi (by rw [lenG]; exact hi)
        have hlen := leftL_len (places c fs ws t) (garbL c (asked c fs ws t) fs (t : Int)) (fun p => ws.getD p []) i
        generalize hp : (places c fs ws t).getD i 0 = p at hlt hsucc ⊢
        have hwp := hk.word _ (getD_memW hlt)
        obtain ⟨f, hgf⟩ : ∃ f, (garbL c (asked c fs ws t) fs (t : Int)).getD i [] = garbW c f (ws.getD p []) := by
          refine ⟨firstF fs (t : Int) (i : Int), ?_⟩
          have hil : i < (asked c fs ws t).length := by rw [← places_map, List.length_map]; exact hi
          unfold garbL
          rw [List.getD_eq_getElem?_getD, List.getElem?_map, List.getElem?_range hil]
          show garbW c _ ((asked c fs ws t).getD i []) = _
          congr 1
          rw [← places_map, List.getD_eq_getElem?_getD, List.getElem?_map, getD_at (d := 0) hi, hp]
          rfl
        rw [hgf] at hsucc ⊢
        have hgw := (garbW_ok ok hwp.1 hwp.2 f).1
        have e08 := eb.trans e8
        have v1 := v_is_kept (K := K) (H := H8) (ck := decide (V.int (p : Int) = V.int (((ws.map vS).length : Int) - 1))) (hb.ex (exb.trans e08)) hgw
        have hkk : keptB c b (garbW c f (ws.getD p [])) (decide (V.int (p : Int) = V.int (((ws.map vS).length : Int) - 1))) = decide (ws.getD p [] = garbW c f (ws.getD p [])) := by
          refine kept_iff ok hwp.1 hwp.2 ?_
          rw [vint_eq, List.length_map]
          by_cases hlast : p + 1 < ws.length
          · exact .inr (hk.ent p hlast)
          · exact .inl (decide_eq_true (by omega))
        rw [hkk] at v1
        have hw8 := ex_l (exb.trans e08) hw
        refine s_if (et_B (ev_call (vs := [V.ref bp, V.str (S (garbW c f (ws.getD p []))), V.bl (decide (V.int (p : Int) = V.int (((ws.map vS).length : Int) - 1)))]) (by tm_at "ea") v1)) (fun hb1 H9 e9 => ?_) (fun hb1 H9 e9 => ?_)
        · have heq := of_decide_eq_true hb1
          rw [if_pos heq, List.append_nil] at hsucc
          refine s_setL (j := p) ((e08.trans e9) _ _ hepb) (ev_var rfl) (ev_var rfl) (ev_var rfl) (by rw [List.length_map]; exact hlt) fun H10 e10 => ?_
          have e010 := (e08.trans e9).trans e10
          rw [← heq, set_same, upd_id (e010 _ _ hepb), hsucc]
          exact ⟨_, _, rfl, e010, ((e8.trans e9).trans e10) _ _ hl'⟩
        · have hneq := of_decide_eq_false hb1
          rw [if_neg hneq] at hsucc
          refine s_app ((e8.trans e9) _ _ hl') (ev_var rfl) (ev_var rfl) (by rw [List.length_map, List.length_map]; omega) fun H10 e10 => ?_
          refine ⟨_, _, rfl, Ex.mut ((e08.trans e9).trans e10) hlp, ?_⟩
          rw [upd_same, hsucc]
          show _ = some (HO.lst (((_ ++ [p]).map fun p : Nat => (p : Int)).map V.int))
          rw [List.map_append, List.map_append]
          rfl
      · obtain ⟨y6, y9, rfl, eb, hl'⟩ := hP
        refine s_asg (ev_var rfl) fun H8 e8 => ?_
        refine ⟨t + 1, rfl, lp, as ++ [cm], y6, _, _, y9, rfl, exb.trans (eb.trans e8), (eb.trans e8) _ _ hepb, (eb.trans e8) _ _ hspb, by rw [List.length_append, hal]; rfl, (fun i a h => ⟨(hasb i a h).1, (eb.trans e8) _ _ (hasb i a h).2⟩), (ne_of_none hspb hlp).symm, ?_, (fun i hi => ?_), by omega⟩
        · have := e8 _ _ hl'
          rw [List.length_map, List.length_map, List.length_map, lenG, Nat.min_self] at this
          rw [this]
          have : leftL (places c fs ws t) (garbL c (asked c fs ws t) fs (t : Int)) (fun p => ws.getD p []) (places c fs ws t).length = places c fs ws (t + 1) := by
            show _ = nextP c fs (fun p => ws.getD p []) t (places c fs ws t)
            unfold leftL nextP
            rw [List.take_of_length_le (by rw [List.length_zip, lenG, Nat.min_self]; exact Nat.le_refl _), places_map]
          rw [this]
        · rcases Nat.lt_or_ge i t with h | h
          · exact hask i h
          · have : i = t := by omega
            rw [this]
            exact hasked
  · have hnil : places c fs ws t = [] := by
      cases hpl : places c fs ws t with
      | nil => rfl
      | cons a r =>
        rw [hpl] at hc1
        cases hc1
    refine s_retU (eu_tup (by tm_at "ea") (Nat.le_of_ble_eq_true rfl)) fun a H5 ha e5 h5 => ?_
    have e45 := e4.trans e5
    refine q _ H5 (e.trans e45) ⟨a, ep, sp, t, rfl, h5, e45 _ _ hep', ⟨as, e45 _ _ hsp', hal, fun i a h => e45 _ _ (has i a h).2⟩, ?_, hask, ht⟩
    rw [← places_map, hnil]
    rfl
end
end Cb
/-! K14: what groups say. -/
namespace Cb
open PySem PySem.Spec PyProof.Rows L2 Evl
open C8 (Cal Met Mak pe_c pe_mk pe_mt pe_mt0 pe_gc)

def spV : Option W → V
  | none => .non
  | some l => vS l
section
variable {K : PySem.W.Frag} {σ : L2.St} {H H' : Hp} {ta te : TE} {D : Ends} {tz : TS} {xs ys : List V} {x y z : V} {a C dx : Addr} {fs : List (Str × V)} {m : Str}
/-- a call that changes what is known: the rest is shown from what it promises -/
theorem q_asgM {sp : Sp} {dvs : List V} {E : XK} {ta : TA} {RA : List V → Hp → Prop} {i : Nat} (h : EvAR ta σ H RA) (k : ∀ vs H1, Ex H H1 → RA vs H1 → sp (vs ++ dvs) H1 (fun v H2 => tz D (σ.set i (some v)) H2) E) : tSeq (tAsg (tCall sp dvs E ta) (gName i)) tz D σ H := h H (Ex.refl H) _ fun vs H1 e r => k vs H1 e r
theorem s_ext {l b : Addr} {te : TE} (hl : H l = some (.lst xs)) (ha : Ev ta σ H (.ref l)) (h : Ev te σ H (.ref b)) (hb : H b = some (.lst ys)) (hz : xs.length + ys.length ≤ 100000) (k : ∀ H1, Ex H H1 → D.nx σ (upd H1 l (.lst (xs ++ ys)))) :
    tDrop (tBM K "list" rExtend ta (tCons te tNil)) D σ H := ha H (Ex.refl H) _ fun H1 e1 =>
  ⟨Or.inl ⟨rfl, xs, sq_of (e1 l _ hl)⟩, h H1 e1 _ fun H2 e2 => ⟨l, b, xs, ys, rfl, rfl, (e1.trans e2) l _ hl, (e1.trans e2) b _ hb, sz_of hz, k H2 (e1.trans e2)⟩⟩
theorem q_ext {l b : Addr} {te : TE} (hl : H l = some (.lst xs)) (ha : Ev ta σ H (.ref l)) (h : Ev te σ H (.ref b)) (hb : H b = some (.lst ys)) (hz : xs.length + ys.length ≤ 100000) (k : ∀ H1, Ex H H1 → tz D σ (upd H1 l (.lst (xs ++ ys)))) :
    tSeq (tDrop (tBM K "list" rExtend ta (tCons te tNil))) tz D σ H := s_ext (D := { D with nx := tz D }) hl ha h hb hz k
theorem ev_methU {sp : Sp} {E : XK} (ha : Ev ta σ H (.ref a)) (ho : H a = some (.ins C dx fs)) (hl : fs.lookup m = none) (h : EvU te σ H xs) (hs : ∀ p H1, Ex H H1 → H1 p = some (.tup xs) → SpV sp (.ref a :: ([.ref p] ++ [])) H1 z) : Ev (tMeth C m sp [] E ta (tCons te tNil)) σ H z := fun H1 e Q q =>
  ha H1 e _ fun H2 e2 => ⟨a, dx, fs, rfl, e2 a _ (e a _ ho), hl, h H2 (e.trans e2) _ fun p H3 _ e3 hp => hs p H3 ((e.trans e2).trans e3) hp H3 (Ex.refl H3) Q (fun H4 e4 => q H4 ((e2.trans e3).trans e4)) E⟩
end
theorem joinW_sum (ws : List W) (h : ∀ x ∈ ws, x.length ≤ 20) : (ws.map (·.length)).sum ≤ 20 * ws.length := by
  induction ws with
  | nil => exact Nat.le_refl _
  | cons x ws ih =>
    rw [List.map_cons, List.sum_cons, List.length_cons]
    have := ih fun y hy => h y (List.mem_cons_of_mem _ hy)
    have := h x (List.mem_cons_self ..)
    omega
local macro_rules | `(tactic| tm_at "side") => `(tactic| (first | assumption | omega | ((try simp only [List.length_append, List.length_cons, List.length_nil, List.length_map, List.length_range]); omega) | exact ⟨by omega, by omega⟩ | exact .inl ⟨by omega, by omega⟩ | exact .inr ⟨by omega, by omega⟩ | decide))
local macro_rules | `(tactic| tm_at "rv") => `(tactic| (first
  | exact rv_I0
  | exact rv_mod (by tm_at "side")
  | exact rv_I (by tm_at "side")
  | exact rv_eq rfl
  | exact rv_ne rfl
  | exact rv_addS (by tm_at "side")
  | exact rv_ixSS (by tm_at "side") (by assumption)
  | exact rv_ixL (by assumption) (by assumption)
  | exact rv_ixT (by assumption) (by assumption)
  | exact rv_inS
  | exact rv_isN
  | exact rv_notN
  | assumption))
local macro_rules | `(tactic| tm_at "eo") => `(tactic| (first | exact eo_none | (apply eo_some; tm_at "ev")))
local macro_rules | `(tactic| tm_at "ea") => `(tactic| (first | exact ea_nil | (apply ea_cons; (tm_at "ev"); (tm_at "ea"))))
local macro_rules | `(tactic| tm_at "sp") => `(tactic| assumption)
local macro_rules | `(tactic| tm_at "ev") => `(tactic| (first
  | exact ev_c
  | exact ev_var rfl
  | assumption
  | (apply ev_op; (tm_at "ev"); (tm_at "ev"); (tm_at "rv"))
  | (apply ev_un (hr := ru_neg); tm_at "ev")
  | (apply ev_fld; (tm_at "ev"); assumption; assumption; assumption; rfl)
  | (apply ev_lenStr; (tm_at "ev"); (tm_at "side"))
  | (apply ev_lenDT; (tm_at "ev"); assumption)
  | (apply ev_len; (tm_at "ev"); assumption)
  | (apply ev_lenT; (tm_at "ev"); assumption)
  | (apply ev_slS; (tm_at "ev"); (tm_at "eo"); (tm_at "eo"); (tm_at "side"))
  | (apply ev_call; (tm_at "ea"); (tm_at "sp"))
  | (apply ev_meth; (tm_at "ev"); assumption; rfl; (tm_at "ea"); (tm_at "sp"))
  | (apply ev_isStr; tm_at "ev")
  | (apply ev_isInt; tm_at "ev")
  | (apply ev_isBoolI; tm_at "ev")
  | (apply ev_isList; (tm_at "ev"); assumption)
  | (apply ev_isTuple; (tm_at "ev"); assumption)
  | (apply ev_abs; tm_at "ev")
  | (apply ev_int1; tm_at "ev")
  | (apply ev_max2; (tm_at "ev"); (tm_at "ev"))
  | (apply ev_sindex; (tm_at "ev"); (tm_at "ev"); assumption)
  | (apply ev_dinK; (tm_at "ev"); (tm_at "ev"); assumption)
  | (apply ev_dinT; (tm_at "ev"); (tm_at "ev"); assumption; assumption)
  | (apply ev_chain; (tm_at "ev"); (tm_at "ev"); (tm_at "rv"); (intro _; tm_at "ev"); (intro _; tm_at "rv"))
  | (apply ev_andV; (tm_at "ev"); (intro _; tm_at "ev"))
  | (apply ev_orV; (tm_at "ev"); (intro _; tm_at "ev"))
  | (apply ev_notV; tm_at "ev")))
local macro_rules | `(tactic| tm_at "et") => `(tactic| (first
  | assumption
  | (apply et_test; tm_at "ev")
  | (apply et_B; tm_at "ev")
  | (apply et_not; tm_at "et")
  | (apply et_and; (tm_at "et"); (intro _; tm_at "et"))
  | (apply et_or; (tm_at "et"); (intro _; tm_at "et"))))
/-- tests by sums -/
local macro_rules | `(tactic| tm_at "bf") => `(tactic| (simp only [Bool.not_true, Bool.not_false, Bool.false_or, Bool.true_and, Bool.and_true, Bool.or_false, Bool.or_eq_false_iff, Bool.and_eq_true, decide_eq_false_iff_not, decide_eq_true_eq, Bool.not_eq_false', Bool.not_eq_true']; omega))

section
variable {P : Program} {w : World} {K : PySem.W.Frag} {mg : Str → Option Value} {base : Heap} {H : Hp}
def sp_is_text (K : PySem.W.Frag) : Sp := fun vs H Q _ => ∃ ws : List W, vs = [.str (S (joinW ws))] ∧ ws ≠ [] ∧ ws.length ≤ 60 ∧ (∀ x ∈ ws, WordOk x) ∧ RetV (.bl true) H Q
theorem v_is_text {ws : List W} (h1 : ws ≠ []) (h2 : ws.length ≤ 60) (h4 : ∀ x ∈ ws, WordOk x) : SpV (sp_is_text K) [.str (S (joinW ws))] H (.bl true) := fun H1 e Q q E => ⟨ws, rfl, h1, h2, h4, q⟩
theorem c_is_text (T : Tx K mg) : Cal P w K mg base 3 "is_text" (sp_is_text K) [] := by
  refine cal_of T.d_is_text T.a_is_text sc_is_text (fun _ _ _ _ _ _ us hl => match us, hl with | [_], _ => rfl) (fun vs H Q E h => by (repeat (obtain ⟨_, h⟩ := h)); subst_vars; rfl) fun f cdv A outer s H vs Q E hr h => ?_
  obtain ⟨ws, rfl, h1, h2, h4, q⟩ := h
  refine ⟨_, (pss_one (ps_ret (pe_c (c_are_words T) hr (by decide) rfl (pa_cons (pv 0) (pa_cons (pe_gc rfl T.g_MOST_WORDS) pa_nil))))), ?_⟩
  have v1 := v_are_words (K := K) (H := H) (m := 60) h1 (by omega) (by omega) h4
  refine s_ret (by tm_at "ev") fun H1 e1 => ?_
  exact q H1 e1
def sp_said_on (K : PySem.W.Frag) : Sp := fun vs H Q _ => ∃ (wp a : Addr) (s s' : Say) (e : Ent), vs = [.ref wp, spV s.2, .ref a] ∧ H wp = some (.lst (s.1.map vS)) ∧ H a = some (.tup (eV e)) ∧ Step s e s' ∧ s.1.length ≤ 50000 ∧
  ∀ H', ExB wp H H' → H' wp = some (.lst (s'.1.map vS)) → Q (spV s'.2) H'
theorem c_said_on (T : Tx K mg) : Cal P w K mg base 1 "said_on" (sp_said_on K) [] := by
  refine cal_of T.d_said_on T.a_said_on sc_said_on (fun _ _ _ _ _ _ us hl => match us, hl with | [_, _, _], _ => rfl) (fun vs H Q E h => by (repeat (obtain ⟨_, h⟩ := h)); subst_vars; rfl) fun f cdv A outer s H vs Q E hr h => ?_
  obtain ⟨wp, a, s, s', e, rfl, hw, ha, st, hs, q⟩ := h
  refine ⟨_, (pss_cons (ps_if (pt_cmpR op_isN (pv 2) pe_non (nomark _))
    (pss_one (ps_ret (pe_un un_neg pe_int)))
    pss_nil)
  (pss_cons (ps_if (pt_cmpR op_eq (pe_ix ix_tup (pv 2) pe_int (fun _ _ => rfl)) pe_str (nomark _))
    (pss_cons (ps_set (i := 3) sc_said_on.nd rfl (Or.inl rfl) (pe_split (pe_ix ix_tup (pv 2) pe_int (fun _ _ => rfl)) pe_str))
  (pss_cons (ps_if (PW.pt (pw_or (pt_cmpR op_notN (pv 1) pe_non (nomark _)) (pw_or1 (pt_cmpR op_gt (pe_op op_add (pe_callB call_len_seq rfl T.f_len bt_len (pa_cons (pv 0) pa_nil)) (pe_callB call_len_seq rfl T.f_len bt_len (pa_cons (pv 3) pa_nil))) (pe_gc rfl T.g_MOST_WORDS) (nomark _)))))
    (pss_one (ps_ret (pe_un un_neg pe_int)))
    pss_nil)
  (pss_cons (ps_expr (pe_bm PySem.F.plainAttrs_list PySem.F.slot_list_extend PySem.F.type_list_extend mt_extend (pv 0) (pa_cons (pv 3) pa_nil)))
  (pss_one (ps_ret pe_non)))))
    pss_nil)
  (pss_cons (ps_if (pt_cmpR op_eq (pe_ix ix_tup (pv 2) pe_int (fun _ _ => rfl)) pe_str (nomark _))
    (pss_cons (ps_if (pt_cmpR op_isN (pv 1) pe_non (nomark _))
    (pss_one (ps_ret (pe_un un_neg pe_int)))
    pss_nil)
  (pss_cons (ps_expr (pe_bm PySem.F.plainAttrs_list PySem.F.slot_list_append PySem.F.type_list_append mt_append (pv 0) (pa_cons (pv 1) pa_nil)))
  (pss_one (ps_ret pe_non))))
    pss_nil)
  (pss_cons (ps_if (pt_cmpR op_isN (pv 1) pe_non (nomark _))
    (pss_cons (ps_if (pt_cmpR op_eq (pe_callB call_len_seq rfl T.f_len bt_len (pa_cons (pv 0) pa_nil)) (pe_gc rfl T.g_MOST_WORDS) (nomark _))
    (pss_one (ps_ret (pe_un un_neg pe_int)))
    pss_nil)
  (pss_one (ps_ret (pe_ix ix_tup (pv 2) pe_int (fun _ _ => rfl)))))
    pss_nil)
  (pss_cons (ps_if (pt_cmpR op_gt (pe_op op_add (pe_callB call_len_str rfl T.f_len bt_len (pa_cons (pv 1) pa_nil)) (pe_callB call_len_str rfl T.f_len bt_len (pa_cons (pe_ix ix_tup (pv 2) pe_int (fun _ _ => rfl)) pa_nil))) (pe_gc rfl T.g_MOST_LETTERS) (nomark _))
    (pss_one (ps_ret (pe_un un_neg pe_int)))
    pss_nil)
  (pss_one (ps_ret (pe_op op_add_str (pv 1) (pe_ix ix_tup (pv 2) pe_int (fun _ _ => rfl)))))))))), ?_⟩
  have c1 : ∀ x y : W, decide (V.str (S x) = V.str (S y)) = decide (x = y) := fun x y => vS_eq
  refine q_skip (et_is (by tm_at "et") (by rfl)) fun H1 e1 => ?_
  have hw1 := e1 _ _ hw
  cases st with
  | phrase us ws w1 wo w60 =>
    have ht := st_of (K := K) (e1 _ _ ha)
    have a0 : atI (eV [sPhrase, joinW ws]) 0 = some (vS sPhrase) := rfl
    have a1 : atI (eV [sPhrase, joinW ws]) 1 = some (vS (joinW ws)) := rfl
    refine q_when (b := true) (et_is (by tm_at "et") (by rw [ePh, c1]; rfl)) (fun _ H2 e2 => ?_) (fun z => by cases z)
    have ht2 := ex_t e2 ht
    have hl := joinW_len ws fun x hx => (wo x hx).2.1
    refine q_asgL (el_split (l := joinW ws) (ws := ws) (by tm_at "ev") (ev_is ev_c (by rw [eBl])) (by omega) rfl (fun z => by rw [z] at w1; simp at w1) fun x hx => word_no32 (wo x hx)) fun p H3 hp e3 h3 => ?_
    have hw3 := (e2.trans e3) _ _ hw1
    have hw3s := sq_of (K := K) hw3
    have h3s := sq_of (K := K) h3
    refine q_skip (et_is (by tm_at "et") ?_) fun H4 e4 => ?_
    · rw [List.length_map, List.length_map]
      show (!decide (V.non = V.non) || _) = false
      rw [decide_eq_true rfl]
      show decide _ = false
      exact decide_eq_false (by show ¬ ((60 : Int) < (us.length : Int) + (ws.length : Int)); omega)
    · refine q_ext (e4 _ _ hw3) (ev_var rfl) (ev_var rfl) (e4 _ _ h3) (by rw [List.length_map, List.length_map]; show us.length + ws.length ≤ _; omega) fun H5 e5 => ?_
      refine s_ret ev_c fun H6 e6 => ?_
      refine q H6 (((ExB.of (((e1.trans e2).trans e3).trans (e4.trans e5))).trans ExB.upd).trans (ExB.of e6)) (e6 _ _ ?_)
      rw [upd_same, List.map_append]
  | begin us l u60 l20 =>
    have ht := st_of (K := K) (e1 _ _ ha)
    have a0 : atI (eV [sPart, l]) 0 = some (vS sPart) := rfl
    have a1 : atI (eV [sPart, l]) 1 = some (vS l) := rfl
    refine q_skip (et_is (by tm_at "et") (by rw [ePh, c1]; rfl)) fun H2 e2 => ?_
    have ht2 := ex_t e2 ht
    refine q_skip (et_is (by tm_at "et") (by rw [eEn, c1]; rfl)) fun H3 e3 => ?_
    have ht3 := ex_t e3 ht2
    have hw3 := (e2.trans e3) _ _ hw1
    refine q_when (b := true) (et_is (by tm_at "et") (by rfl)) (fun _ H4 e4 => ?_) (fun z => by cases z)
    have hw4 := sq_of (K := K) (e4 _ _ hw3)
    refine q_skip (et_is (by tm_at "et") ?_) fun H5 e5 => ?_
    · rw [List.length_map, vint_eq]
      exact decide_eq_false (by show ¬ ((us.length : Int) = 60); omega)
    · have ht5 := ex_t (e4.trans e5) ht3
      refine s_ret (by tm_at "ev") fun H6 e6 => ?_
      have e06 := ((((e1.trans e2).trans e3).trans e4).trans e5).trans e6
      exact q H6 (ExB.of e06) (e06 _ _ hw)
  | more us p l pl20 =>
    have ht := st_of (K := K) (e1 _ _ ha)
    have a0 : atI (eV [sPart, l]) 0 = some (vS sPart) := rfl
    have a1 : atI (eV [sPart, l]) 1 = some (vS l) := rfl
    refine q_skip (et_is (by tm_at "et") (by rw [ePh, c1]; rfl)) fun H2 e2 => ?_
    have ht2 := ex_t e2 ht
    refine q_skip (et_is (by tm_at "et") (by rw [eEn, c1]; rfl)) fun H3 e3 => ?_
    have ht3 := ex_t e3 ht2
    refine q_skip (et_is (by tm_at "et") (by rfl)) fun H4 e4 => ?_
    have ht4 := ex_t e4 ht3
    refine q_skip (et_is (et_test (ev_op (ev_op (ev_lenStr (l := p) (ev_var rfl) (by omega)) (ev_lenStr (l := l) (by tm_at "ev") (by omega)) rv_I0) ev_c rv_I0)) (decide_eq_false (by omega))) fun H5 e5 => ?_
    have ht5 := ex_t e5 ht4
    refine s_ret (ev_op (x := vS p) (y := vS l) (ev_var rfl) (by tm_at "ev") (rv_addS (by omega))) fun H6 e6 => ?_
    have e06 := ((((e1.trans e2).trans e3).trans e4).trans e5).trans e6
    exact q H6 (ExB.of e06) (e06 _ _ hw)
  | fin us p p20 =>
    have ht := st_of (K := K) (e1 _ _ ha)
    have a0 : atI (eV [sEnd]) 0 = some (vS sEnd) := rfl
    refine q_skip (et_is (by tm_at "et") (by rw [ePh, c1]; rfl)) fun H2 e2 => ?_
    have ht2 := ex_t e2 ht
    refine q_when (b := true) (et_is (by tm_at "et") (by rw [eEn, c1]; rfl)) (fun _ H3 e3 => ?_) (fun z => by cases z)
    refine q_skip (et_is (by tm_at "et") (by rfl)) fun H4 e4 => ?_
    have hw4 := ((e2.trans e3).trans e4) _ _ hw1
    refine q_app (v := vS p) hw4 (ev_var rfl) (ev_var rfl) ?_ fun H5 e5 => ?_
    · rw [List.length_map]
      have : us.length ≤ 50000 := hs
      omega
    · refine s_ret ev_c fun H6 e6 => ?_
      refine q H6 (((ExB.of ((((e1.trans e2).trans e3).trans e4).trans e5)).trans ExB.upd).trans (ExB.of e6)) (e6 _ _ ?_)
      rw [upd_same, List.map_append]
      rfl
theorem says_cons {s s2 : Say} {e : Ent} {es : List Ent} (h : Says s (e :: es) s2) : ∃ s1, Step s e s1 ∧ Says s1 es s2 := by
  cases h with
  | cons st r => exact ⟨_, st, r⟩
theorem says_nil {s s2 : Say} (h : Says s [] s2) : s = s2 := by
  cases h
  rfl
theorem step_len {s s1 : Say} {e : Ent} (h : Step s e s1) : s1.1.length ≤ max 60 (s.1.length + 1) := by
  cases h with
  | phrase us ws w1 wo w60 =>
    show (us ++ ws).length ≤ _
    rw [List.length_append]
    omega
  | begin us l u60 l20 =>
    show us.length ≤ max 60 (us.length + 1)
    omega
  | more us p l pl20 =>
    show us.length ≤ max 60 (us.length + 1)
    omega
  | fin us p p20 =>
    show (us ++ [p]).length ≤ max 60 (us.length + 1)
    rw [List.length_append]
    show us.length + 1 ≤ _
    omega
def sp_said (K : PySem.W.Frag) : Sp := fun vs H Q _ => ∃ (bp gp : Addr) (c : Cd) (b : Bk) (gs : List Nat) (es : List Ent) (us : List W), vs = [.ref bp, .ref gp] ∧ BookAt K H bp c b ∧ SqL K H gp (iN gs) ∧ Grp b gs es ∧ gs.length ≤ 10000 ∧ Says ([], none) es (us, none) ∧ us ≠ [] ∧ us.length ≤ 60 ∧ (∀ x ∈ us, WordOk x) ∧ RetV (.str (S (joinW us))) H Q
theorem v_said {bp gp : Addr} {c : Cd} {b : Bk} {gs : List Nat} {es : List Ent} {us : List W} (h1 : BookAt K H bp c b) (h2 : SqL K H gp (iN gs)) (h3 : Grp b gs es) (h4 : gs.length ≤ 10000) (h5 : Says ([], none) es (us, none)) (h6 : us ≠ []) (h7 : us.length ≤ 60) (h8 : ∀ x ∈ us, WordOk x) : SpV (sp_said K) [.ref bp, .ref gp] H (.str (S (joinW us))) :=
  fun H1 e Q q E => ⟨bp, gp, c, b, gs, es, us, rfl, h1.ex e, ex_l e h2, h3, h4, h5, h6, h7, h8, q⟩
theorem iN_len (P : List Nat) : (iN P).length = P.length := by
  rw [List.length_map, List.length_map]
theorem iN_getD {P : List Nat} {i : Nat} (h : i < P.length) : (iN P).getD i .non = .int ((P.getD i 0 : Nat) : Int) := by
  rw [getD_map (d := 0) (by rw [List.length_map]; exact h), List.getD_eq_getElem?_getD, List.getElem?_map, List.getD_eq_getElem?_getD, List.getElem?_eq_getElem h]
  rfl
theorem c_said (T : Tx K mg) : Cal P w K mg base 3 "said" (sp_said K) [] := by
  refine cal_of T.d_said T.a_said sc_said (fun _ _ _ _ _ _ us hl => match us, hl with | [_, _], _ => rfl) (fun vs H Q E h => by (repeat (obtain ⟨_, h⟩ := h)); subst_vars; rfl) fun f cdv A outer s H vs Q E hr h => ?_
  obtain ⟨bp, gp, c, b, gs, es, us, rfl, hb, hg, hgr, hgl, hsay, hne, hul, hwo, q⟩ := h
  have bok : BkOk c b := hb.1
  refine ⟨_, (pss_cons (ps_set (i := 2) sc_said.nd rfl (Or.inl rfl) (pe_lst pa_nil))
  (pss_cons (ps_set (i := 3) sc_said.nd rfl (Or.inl rfl) pe_non)
  (pss_cons (ps_for PassesOwn.never rfl (pi_enum rfl T.f_enumerate (pa_cons (pv 1) pa_nil)) (pg_tup rfl (pgs_cons (pg_name (i := 4) sc_said.nd rfl (Or.inl rfl)) (pgs_cons (pg_name (i := 5) sc_said.nd rfl (Or.inl rfl)) pgs_nil)))
    (pss_cons (ps_set (i := 3) sc_said.nd rfl (Or.inl rfl) (pe_c (c_said_on T) hr (by decide) rfl (pa_cons (pv 2) (pa_cons (pv 3) (pa_cons (pe_mt (m_Book_entry T) hr (by decide) (pv 0) (pa_cons (pv 5) pa_nil)) pa_nil)))))
  (pss_one (ps_if (pt_cmpR op_eq (pv 3) (pe_un un_neg pe_int) (nomark _))
    (pss_one ps_never)
    pss_nil))))
  (pss_cons (ps_if (PW.pt (pw_or (pt_cmpR op_notN (pv 3) pe_non (nomark _)) (pw_or1 (pt_cmpR (op_eqD hr.units) (pv 2) (pe_lst pa_nil) (nomark _)))))
    (pss_one ps_never)
    pss_nil)
  (pss_one (ps_ret (pe_join pe_str (pv 2)))))))), ?_⟩
  refine q_asgL (xs := []) (el_lst ea_nil (by decide)) fun wl H1 hwl e1 h1 => ?_
  refine q_asg ev_c fun H2 e2 => ?_
  refine q_forP (ep_enum (by tm_at "ea") (ex_l (e1.trans e2) hg)) (fun i σ' H' => ∃ (s : Say) (x y : Option V), σ' = [some (V.ref bp), some (V.ref gp), some (V.ref wl), some (spV s.2), x, y] ∧ Ex H H' ∧ H' wl = some (.lst (s.1.map vS)) ∧ Says s (es.drop i) (us, none) ∧ s.1.length ≤ 60 + i)
    (fun H3 e3 _ => ⟨([], none), none, none, rfl, (e1.trans e2).trans e3, (e2.trans e3) _ _ h1, hsay, by show 0 ≤ _; omega⟩) (fun i σ' H' _ hP => by obtain ⟨s, x, y, rfl, e, _⟩ := hP; exact ex_l e hg) (fun i σ' H' hi hP H3 e3 => ?_) (fun σ' H' hP => ?_)
  · obtain ⟨s, x, y, rfl, e, hl, hs, hsl⟩ := hP
    rw [iN_len] at hi
    rw [iN_getD hi]
    obtain ⟨en, hen, hmem⟩ := hgr.2 i (gs.getD i 0) (getD_at hi)
    have hil := (List.getElem?_eq_some_iff.mp hen).1
    have hd : es.drop i = en :: es.drop (i + 1) := by
      rw [← (List.getElem?_eq_some_iff.mp hen).2]
      exact (List.getElem_cons_drop hil).symm
    rw [hd] at hs
    obtain ⟨s1, hst, hs1⟩ := says_cons hs
    have hlen1 := step_len hst
    have he03 := e.trans e3
    have hb3 := hb.ex he03
    have hb3' := hb3
    obtain ⟨_, dx, cp, dn, de, r, hp3, _⟩ := hb3'
    have heo := entOf_mem bok hmem
    refine q_asgM (RA := fun vs H4 => ∃ a, vs = [V.ref wl, spV s.2, V.ref a] ∧ H4 a = some (.tup (eV en))) ?_ fun vs H4 e4 hr => ?_
    · refine ear_cons (Ev.r (ev_var rfl)) fun y1 H4 e4 hy1 => ear_cons (Ev.r (ev_var rfl)) fun y2 H5 e5 hy2 => ear_cons (evr_meth (vs := [.int ((gs.getD i 0 : Nat) : Int)]) (ev_var rfl) ((e4.trans e5) _ _ hp3) rfl (by tm_at "ea") (r_Book_entry (n := ((gs.getD i 0 : Nat) : Int)) (hb3.ex (e4.trans e5)))) fun y3 H6 e6 hy3 => ?_
      rw [heo] at hy3
      obtain ⟨a, rfl, ha⟩ := hy3
      refine ear_nil.imp fun ys H7 e7 hys => ?_
      exact ⟨a, by rw [hy1, hy2, hys], e7 _ _ ha⟩
    · obtain ⟨a, rfl, ha⟩ := hr
      refine ⟨wl, a, s, s1, en, rfl, (e3.trans e4) _ _ hl, ha, hst, by omega, fun H5 b5 h5 => ?_⟩
      have ex5 : Ex H H5 := fun ad o had => b5 ad o (ne_of_none had hwl) (((e.trans e3).trans e4) _ _ had)
      refine s_skip (et_is (et_test (ev_op (z := .bl false) (ev_var rfl) (ev_un (hr := ru_neg) ev_c) ?_)) rfl) fun H6 e6 => ?_
      · cases hs2 : s1.2 with
        | none => exact rv_eq (x := V.non) (y := .int (-1)) rfl
        | some l => exact rv_eq (x := vS l) (y := .int (-1)) rfl
      · exact ⟨s1, _, _, rfl, ex5.trans e6, e6 _ _ h5, hs1, by omega⟩
  · obtain ⟨s, x, y, rfl, e, hl, hs, hsl⟩ := hP
    rw [iN_len, hgr.1, List.drop_length] at hs
    have := says_nil hs
    subst this
    have hdp : Dp K H' (.ref wl) (.list (us.map dS)) := dp_LS (sq_of hl)
    have hflat : Fl0 1 (.list (us.map dS)) := fl_LS fun x hx a ha => by
      have := (hwo x hx).2.2 a ha
      omega
    refine q_skip (et_is (et_or (a := false) (et_test (ev_op (ev_var rfl) ev_c rv_notN)) fun _ => et_test (ev_eqNil (ev_var rfl) hdp hflat)) ?_) fun H3 e3 => ?_
    · rw [Bool.false_or]
      cases us with
      | nil => exact absurd rfl hne
      | cons a r => rfl
    · have hj := joinW_sum us fun x hx => (hwo x hx).2.1
      refine s_ret (ev_joinK (s := [32]) (ws := us) (ev_is ev_c (by rw [eBl])) (ev_var rfl) (sq_of (e3 _ _ hl)) (by show _ + _ * 1 ≤ _; omega)) fun H4 e4 => ?_
      rw [joinW_eq]
      exact q H4 ((e.trans e3).trans e4)
end
end Cb
/-! K15: texts set in groups. -/
namespace Cb
open PySem PySem.Spec PyProof.Rows L2 Evl
open C8 (Cal Met Mak pe_c pe_mk pe_mt pe_mt0 pe_gc)

theorem take_mid {α : Type} (l : List α) {i j : Nat} (h : i ≤ j) : l.take i ++ (l.drop i).take (j - i) = l.take j := by
  have := List.take_add (l := l) (i := i) (j := j - i)
  rw [show i + (j - i) = j by omega] at this
  exact this.symm
theorem iN_snoc (gs : List Nat) (k : Nat) : iN gs ++ [V.int (k : Int)] = iN (gs ++ [k]) := by
  show _ = ((gs ++ [k]).map fun p : Nat => (p : Int)).map V.int
  rw [List.map_append, List.map_append]
  rfl
theorem iN_app (gs hs : List Nat) : iN gs ++ iN hs = iN (gs ++ hs) := by
  show _ = ((gs ++ hs).map fun p : Nat => (p : Int)).map V.int
  rw [List.map_append, List.map_append]
section
variable {K : PySem.W.Frag} {σ : L2.St} {H H' : Hp} {ta te : TE}
theorem evr_lst {ta : TA} {RA : List V → Hp → Prop} (h : EvAR ta σ H RA) (hl : ∀ vs H1, RA vs H1 → vs.length ≤ 100000) : EvR (tLst ta) σ H (fun v H2 => ∃ p vs H1, v = .ref p ∧ Ex H H1 ∧ H1 p = none ∧ RA vs H1 ∧ Ex H1 H2 ∧ H2 p = some (.lst vs)) := fun H1 e Q q =>
  h H1 e _ fun vs H2 e2 r => ⟨sz_of (hl vs H2 r), fun p hp => q _ _ (e2.trans (Ex.new hp)) ⟨p, vs, H2, rfl, e.trans e2, hp, r, Ex.new hp, upd_same⟩⟩
end
/-- parts that spell the first i letters -/
def PartR (b : Bk) (fl : Addr) (x : W) (i : Nat) (v : V) (H : Hp) : Prop := ∃ (p : Addr) (gs : List Nat) (ps : List W), v = .ref p ∧ p ≠ fl ∧ H p = some (.lst (iN gs)) ∧ Grp b gs (ps.map fun l => [sPart, l]) ∧ ps.flatten = x.take i ∧ (i ≠ 0 → ps ≠ []) ∧ gs.length ≤ i
theorem PartR.ex {b : Bk} {fl : Addr} {x : W} {i : Nat} {v : V} {H H' : Hp} (e : Ex H H') (h : PartR b fl x i v H) : PartR b fl x i v H' := by
  obtain ⟨p, gs, ps, h1, h2, h3, h4⟩ := h
  exact ⟨p, gs, ps, h1, h2, e _ _ h3, h4⟩
theorem PartR.upd {b : Bk} {fl : Addr} {x : W} {i : Nat} {v : V} {H : Hp} {o : HO} (h : PartR b fl x i v H) : PartR b fl x i v (upd H fl o) := by
  obtain ⟨p, gs, ps, h1, h2, h3, h4⟩ := h
  exact ⟨p, gs, ps, h1, h2, by rw [upd_ne h2]; exact h3, h4⟩
/-- groups that say the first i words -/
def SetR (b : Bk) (fl : Addr) (ws : List W) (i : Nat) (v : V) (H : Hp) : Prop := ∃ (p : Addr) (gs : List Nat) (es : List Ent), v = .ref p ∧ p ≠ fl ∧ H p = some (.lst (iN gs)) ∧ Grp b gs es ∧ Says ([], none) es (ws.take i, none) ∧ gs.length ≤ 22 * i
theorem SetR.ex {b : Bk} {fl : Addr} {x : List W} {i : Nat} {v : V} {H H' : Hp} (e : Ex H H') (h : SetR b fl x i v H) : SetR b fl x i v H' := by
  obtain ⟨p, gs, ps, h1, h2, h3, h4⟩ := h
  exact ⟨p, gs, ps, h1, h2, e _ _ h3, h4⟩
theorem SetR.upd {b : Bk} {fl : Addr} {x : List W} {i : Nat} {v : V} {H : Hp} {o : HO} (h : SetR b fl x i v H) : SetR b fl x i v (upd H fl o) := by
  obtain ⟨p, gs, ps, h1, h2, h3, h4⟩ := h
  exact ⟨p, gs, ps, h1, h2, by rw [upd_ne h2]; exact h3, h4⟩
local macro_rules | `(tactic| tm_at "side") => `(tactic| (first | assumption | omega | ((try simp only [List.length_append, List.length_cons, List.length_nil, List.length_map, List.length_range]); omega) | exact ⟨by omega, by omega⟩ | exact .inl ⟨by omega, by omega⟩ | exact .inr ⟨by omega, by omega⟩ | decide))
local macro_rules | `(tactic| tm_at "rv") => `(tactic| (first
  | exact rv_I0
  | exact rv_mod (by tm_at "side")
  | exact rv_I (by tm_at "side")
  | exact rv_eq rfl
  | exact rv_ne rfl
  | exact rv_addS (by tm_at "side")
  | exact rv_ixSS (by tm_at "side") (by assumption)
  | exact rv_ixL (by assumption) (by assumption)
  | exact rv_ixT (by assumption) (by assumption)
  | exact rv_inS
  | exact rv_isN
  | exact rv_notN
  | assumption))
local macro_rules | `(tactic| tm_at "eo") => `(tactic| (first | exact eo_none | (apply eo_some; tm_at "ev")))
local macro_rules | `(tactic| tm_at "ea") => `(tactic| (first | exact ea_nil | (apply ea_cons; (tm_at "ev"); (tm_at "ea"))))
local macro_rules | `(tactic| tm_at "sp") => `(tactic| assumption)
local macro_rules | `(tactic| tm_at "ev") => `(tactic| (first
  | exact ev_c
  | exact ev_var rfl
  | assumption
  | (apply ev_op; (tm_at "ev"); (tm_at "ev"); (tm_at "rv"))
  | (apply ev_un (hr := ru_neg); tm_at "ev")
  | (apply ev_fld; (tm_at "ev"); assumption; assumption; assumption; rfl)
  | (apply ev_lenStr; (tm_at "ev"); (tm_at "side"))
  | (apply ev_lenDT; (tm_at "ev"); assumption)
  | (apply ev_len; (tm_at "ev"); assumption)
  | (apply ev_lenT; (tm_at "ev"); assumption)
  | (apply ev_slS; (tm_at "ev"); (tm_at "eo"); (tm_at "eo"); (tm_at "side"))
  | (apply ev_call; (tm_at "ea"); (tm_at "sp"))
  | (apply ev_meth; (tm_at "ev"); assumption; rfl; (tm_at "ea"); (tm_at "sp"))
  | (apply ev_isStr; tm_at "ev")
  | (apply ev_isInt; tm_at "ev")
  | (apply ev_isBoolI; tm_at "ev")
  | (apply ev_isList; (tm_at "ev"); assumption)
  | (apply ev_isTuple; (tm_at "ev"); assumption)
  | (apply ev_abs; tm_at "ev")
  | (apply ev_int1; tm_at "ev")
  | (apply ev_max2; (tm_at "ev"); (tm_at "ev"))
  | (apply ev_sindex; (tm_at "ev"); (tm_at "ev"); assumption)
  | (apply ev_dinK; (tm_at "ev"); (tm_at "ev"); assumption)
  | (apply ev_dinT; (tm_at "ev"); (tm_at "ev"); assumption; assumption)
  | (apply ev_chain; (tm_at "ev"); (tm_at "ev"); (tm_at "rv"); (intro _; tm_at "ev"); (intro _; tm_at "rv"))
  | (apply ev_andV; (tm_at "ev"); (intro _; tm_at "ev"))
  | (apply ev_orV; (tm_at "ev"); (intro _; tm_at "ev"))
  | (apply ev_notV; tm_at "ev")))
local macro_rules | `(tactic| tm_at "et") => `(tactic| (first
  | assumption
  | (apply et_test; tm_at "ev")
  | (apply et_B; tm_at "ev")
  | (apply et_not; tm_at "et")
  | (apply et_and; (tm_at "et"); (intro _; tm_at "et"))
  | (apply et_or; (tm_at "et"); (intro _; tm_at "et"))))
/-- tests by sums -/
local macro_rules | `(tactic| tm_at "bf") => `(tactic| (simp only [Bool.not_true, Bool.not_false, Bool.false_or, Bool.true_and, Bool.and_true, Bool.or_false, Bool.or_eq_false_iff, Bool.and_eq_true, decide_eq_false_iff_not, decide_eq_true_eq, Bool.not_eq_false', Bool.not_eq_true']; omega))

section
variable {P : Program} {w : World} {K : PySem.W.Frag} {mg : Str → Option Value} {base : Heap} {H : Hp}
def sp_shorter (K : PySem.W.Frag) : Sp := fun vs H Q _ => ∃ (x : V) (p : Addr) (ys : List V), vs = [x, .ref p] ∧ SqL K H p ys ∧ (x = .non ∨ ∃ (q : Addr) (xs : List V), x = .ref q ∧ SqL K H q xs) ∧ RetR (fun v _ => v = .ref p ∨ (v = x ∧ x ≠ .non)) H Q
theorem r_shorter {x : V} {p : Addr} {ys : List V} (h1 : SqL K H p ys) (h2 : x = .non ∨ ∃ (q : Addr) (xs : List V), x = .ref q ∧ SqL K H q xs) : SpR (sp_shorter K) [x, .ref p] H (fun v _ => v = .ref p ∨ (v = x ∧ x ≠ .non)) := fun H1 e Q q E =>
  ⟨x, p, ys, rfl, ex_l e h1, h2.imp id fun ⟨q, xs, a, b⟩ => ⟨q, xs, a, ex_l e b⟩, q⟩
theorem c_shorter (T : Tx K mg) : Cal P w K mg base 1 "shorter" (sp_shorter K) [] := by
  refine cal_of T.d_shorter T.a_shorter sc_shorter (fun _ _ _ _ _ _ us hl => match us, hl with | [_, _], _ => rfl) (fun vs H Q E h => by (repeat (obtain ⟨_, h⟩ := h)); subst_vars; rfl) fun f cdv A outer s H vs Q E hr h => ?_
  obtain ⟨x, p, ys, rfl, hp, hx, q⟩ := h
  refine ⟨_, (pss_cons (ps_if (PW.pt (pw_or (pt_cmpR op_isN (pv 0) pe_non (nomark _)) (pw_or1 (PW.pt (pw_and (pt_cmpR op_notN (pv 1) pe_non (nomark _)) (pw_and1 (pt_cmpR op_lt (pe_callB call_len_seq rfl T.f_len bt_len (pa_cons (pv 1) pa_nil)) (pe_callB call_len_seq rfl T.f_len bt_len (pa_cons (pv 0) pa_nil)) (nomark _))))))))
    (pss_one (ps_ret (pv 1)))
    pss_nil)
  (pss_one (ps_ret (pv 0)))), ?_⟩
  rcases hx with rfl | ⟨p2, xs, rfl, hp2⟩
  · refine q_when (b := true) (et_is (et_or (a := true) (et_test (ev_op (ev_var rfl) ev_c rv_isN)) (b := true) fun z => by cases z) rfl) (fun _ H1 e1 => ?_) (fun z => by cases z)
    refine s_ret (ev_var rfl) fun H2 e2 => ?_
    exact q _ H2 (e1.trans e2) (.inl rfl)
  · refine q_when (b := decide (((ys.length : Nat) : Int) < ((xs.length : Nat) : Int))) (et_is (by tm_at "et") (by rw [decide_eq_false (fun z => by cases z)]; rfl)) (fun _ H1 e1 => ?_) (fun _ H1 e1 => ?_)
    · refine s_ret (ev_var rfl) fun H2 e2 => ?_
      exact q _ H2 (e1.trans e2) (.inl rfl)
    · refine s_ret (ev_var rfl) fun H2 e2 => ?_
      exact q _ H2 (e1.trans e2) (.inr ⟨rfl, fun z => by cases z⟩)
theorem evr_shorter {σ : L2.St} {E : XK} {ta te : TE} {best : V} {xs : List V} (hb : Ev ta σ H best) (hbest : best = .non ∨ ∃ (q : Addr) (ys : List V), best = .ref q ∧ SqL K H q ys) (hl : EvL te σ H xs) :
    EvR (tCall (sp_shorter K) [] E (tCons ta (tCons te tNil))) σ H (fun v H2 => (∃ p, v = .ref p ∧ H p = none ∧ H2 p = some (.lst xs)) ∨ (v = best ∧ best ≠ .non)) := fun H1 e Q q =>
  hb H1 e _ fun H2 e2 => hl H2 (e.trans e2) _ fun p H3 hp e3 h3 => ⟨best, p, xs, rfl, sq_of h3, hbest.imp id fun ⟨q, ys, a, d⟩ => ⟨q, ys, a, ex_l ((e.trans e2).trans e3) d⟩, fun v H4 e4 hr => q v H4 ((e2.trans e3).trans e4) (hr.imp (fun hv => ⟨p, hv, fresh_back (e.trans e2) hp, e4 _ _ h3⟩) id)⟩
def sp_spelled_groups (K : PySem.W.Frag) : Sp := fun vs H Q _ => ∃ (bp : Addr) (c : Cd) (b : Bk) (x : W), vs = [.ref bp, .str (S x)] ∧ BookAt K H bp c b ∧ WordOk x ∧ (∀ a ∈ x, ∃ n, (n, [sPart, [a]]) ∈ b) ∧ (∃ n, (n, [sEnd]) ∈ b) ∧
  RetR (fun v H' => ∃ (p : Addr) (gs : List Nat) (ps : List W), v = .ref p ∧ H' p = some (.lst (iN gs)) ∧ Grp b gs ((ps.map fun l => [sPart, l]) ++ [[sEnd]]) ∧ ps.flatten = x ∧ ps ≠ [] ∧ gs.length ≤ x.length + 1) H Q
theorem r_spelled_groups {bp : Addr} {c : Cd} {b : Bk} {x : W} (h1 : BookAt K H bp c b) (h2 : WordOk x) (h3 : ∀ a ∈ x, ∃ n, (n, [sPart, [a]]) ∈ b) (h4 : ∃ n, (n, [sEnd]) ∈ b) : SpR (sp_spelled_groups K) [.ref bp, .str (S x)] H
    (fun v H' => ∃ (p : Addr) (gs : List Nat) (ps : List W), v = .ref p ∧ H' p = some (.lst (iN gs)) ∧ Grp b gs ((ps.map fun l => [sPart, l]) ++ [[sEnd]]) ∧ ps.flatten = x ∧ ps ≠ [] ∧ gs.length ≤ x.length + 1) := fun H1 e Q q E => ⟨bp, c, b, x, rfl, h1.ex e, h2, h3, h4, q⟩
theorem max_nat (i k : Nat) : (if ((i : Int) - (k : Int)) > 0 then (i : Int) - (k : Int) else 0) = ((i - k : Nat) : Int) := by
  split <;> omega
theorem take_one {x : W} {i : Nat} (h : i < x.length) : (x.drop i).take 1 = [x.getD i 0] := by
  rw [List.getD_eq_getElem?_getD, List.getElem?_eq_getElem h, ← List.getElem_cons_drop h]
  rfl
theorem c_spelled_groups (T : Tx K mg) : Cal P w K mg base 5 "spelled_groups" (sp_spelled_groups K) [] := by
  refine cal_of T.d_spelled_groups T.a_spelled_groups sc_spelled_groups (fun _ _ _ _ _ _ us hl => match us, hl with | [_, _], _ => rfl) (fun vs H Q E h => by (repeat (obtain ⟨_, h⟩ := h)); subst_vars; rfl) fun f cdv A outer s H vs Q E hr h => ?_
  obtain ⟨bp, c, b, x, rfl, hb, hx, hlet, ⟨ln, hln⟩, q⟩ := h
  have bok : BkOk c b := hb.1
  have hxl := hx.2.1
  have hx1 := hx.1
  have hbf : ∀ {H'}, Ex H H' → ∃ dx fs, H' bp = some (.ins (He.ga K "Book") dx fs) ∧ fs.lookup ("number" : Str) = none := fun e => by
    obtain ⟨_, dx, cp, dn, de, r, hp3, _⟩ := hb.ex e
    exact ⟨_, _, hp3, rfl⟩
  refine ⟨_, (pss_cons (ps_set (i := 2) sc_spelled_groups.nd rfl (Or.inl rfl) (pe_mt (m_Book_number T) hr (by decide) (pv 0) (pa_cons (pe_tup (pa_cons pe_str pa_nil)) pa_nil)))
  (pss_cons (ps_if (pt_cmpR op_isN (pv 2) pe_non (nomark _))
    (pss_one (ps_ret pe_non))
    pss_nil)
  (pss_cons (ps_set (i := 3) sc_spelled_groups.nd rfl (Or.inl rfl) (pe_lst (pa_cons (pe_lst pa_nil) pa_nil)))
  (pss_cons (ps_for PassesOwn.never rfl (pi_range2 rfl T.f_range (pa_cons pe_int (pa_cons (pe_op op_add (pe_callB call_len_str rfl T.f_len bt_len (pa_cons (pv 1) pa_nil)) pe_int) pa_nil))) (pg_name (i := 4) sc_spelled_groups.nd rfl (Or.inl rfl))
    (pss_cons (ps_set (i := 5) sc_spelled_groups.nd rfl (Or.inl rfl) pe_non)
  (pss_cons (ps_for PassesOwn.never rfl (pi_range2 rfl T.f_range (pa_cons (pe_callB (call_max2 rfl) rfl T.f_max bt_max (pa_cons pe_int (pa_cons (pe_op op_sub (pv 4) (pe_gc rfl T.g_MOST_PART)) pa_nil))) (pa_cons (pv 4) pa_nil))) (pg_name (i := 6) sc_spelled_groups.nd rfl (Or.inl rfl))
    (pss_cons (ps_set (i := 7) sc_spelled_groups.nd rfl (Or.inl rfl) (pe_mt (m_Book_number T) hr (by decide) (pv 0) (pa_cons (pe_tup (pa_cons pe_str (pa_cons (pe_slice sl_str (pv 1) (po_some (pv 6)) (po_some (pv 4))) pa_nil))) pa_nil)))
  (pss_one (ps_if (PW.pt (pw_and (pt_cmpR op_notN (pv 7) pe_non (nomark _)) (pw_and1 (pt_cmpR op_notN (pe_ix ix_list (pv 3) (pv 6) (fun _ _ => rfl)) pe_non (nomark _)))))
    (pss_one (ps_set (i := 5) sc_spelled_groups.nd rfl (Or.inl rfl) (pe_c (c_shorter T) hr (by decide) rfl (pa_cons (pv 5) (pa_cons (pe_op op_cat (pe_ix ix_list (pv 3) (pv 6) (fun _ _ => rfl)) (pe_lst (pa_cons (pv 7) pa_nil))) pa_nil)))))
    pss_nil))))
  (pss_one (ps_expr (pe_bm PySem.F.plainAttrs_list PySem.F.slot_list_append PySem.F.type_list_append mt_append (pv 3) (pa_cons (pv 5) pa_nil)))))))
  (pss_cons (ps_if (pt_cmpR op_isN (pe_ix ix_list (pv 3) (pe_un un_neg pe_int) (fun _ _ => rfl)) pe_non (nomark _))
    (pss_one (ps_ret pe_non))
    pss_nil)
  (pss_one (ps_ret (pe_op op_cat (pe_ix ix_list (pv 3) (pe_un un_neg pe_int) (fun _ _ => rfl)) (pe_lst (pa_cons (pv 2) pa_nil)))))))))), ?_⟩
  obtain ⟨dx0, fs0, hp0, hl0⟩ := hbf (Ex.refl H)
  refine q_asg (ev_methU (xs := eV [sEnd]) (z := numV (numOfE b [sEnd])) (ev_var rfl) hp0 hl0 (eu_tup (ea_cons ev_c ea_nil) (Nat.le_of_ble_eq_true rfl)) fun p H1 e1 h1 => v_Book_number (hb.ex e1) h1 .fin) fun H1 e1 => ?_
  rw [numOfE_mem bok hln]
  refine q_skip (et_is (by tm_at "et") (by rfl)) fun H2 e2 => ?_
  have e02 := e1.trans e2
  refine q_asgR (evr_lst (RA := fun vs H1 => ∃ p0, vs = [V.ref p0] ∧ H1 p0 = some (.lst [])) (ear_cons (EvL.r (el_lst ea_nil (by decide))) fun y H3 e3 r => by
    obtain ⟨p0, rfl, hp0⟩ := r
    exact ear_nil.imp fun vs H4 e4 hv => ⟨p0, by rw [hv], e4 _ _ hp0⟩) fun vs H1 r => by obtain ⟨p0, rfl, _⟩ := r; exact Nat.le_of_ble_eq_true rfl) fun v H3 e3 r => ?_
  obtain ⟨fl, vs, H2', rfl, e2', hfl', ⟨p0, rfl, hp0⟩, e23, hfl⟩ := r
  have hflH : H fl = none := fresh_back (e02.trans e2') hfl'
  have e03 := e02.trans e3
  have hpfl : p0 ≠ fl := ne_of_none hp0 hfl'
  refine q_forN (ei_rng2 (lo := 1) (m := (x.length : Int) + 1) (by tm_at "ea") (by omega)) (fun i σ' H' => ∃ (its : List V) (x4 x5 x6 x7 : Option V), σ' = [some (.ref bp), some (vS x), some (.int (ln : Int)), some (.ref fl), x4, x5, x6, x7] ∧ Ex H H' ∧ H' fl = some (.lst its) ∧ its.length = i + 1 ∧ ∀ k v, its[k]? = some v → PartR b fl x k v H')
    (fun H4 e4 _ => ⟨[.ref p0], none, none, none, none, rfl, e03.trans e4, e4 _ _ hfl, rfl, fun k v hv => by
      have hk : k = 0 := by
        have := (List.getElem?_eq_some_iff.mp hv).1
        simp at this
        omega
      subst hk
      have : V.ref p0 = v := Option.some.inj hv
      subst this
      exact ⟨p0, [], [], rfl, hpfl, e4 _ _ (e23 _ _ hp0), Grp.nil b, rfl, fun z => absurd rfl z, Nat.zero_le _⟩⟩) (fun _ _ _ _ _ => trivial) (fun i σ' H' hi hP H4 e4 => ?_) (fun σ' H' hP => ?_)
  · obtain ⟨its, x4, x5, x6, x7, rfl, e, hf, hil, hits⟩ := hP
    have hi2 : i < x.length := by omega
    have to1 : (1 : Int) + (i : Int) = ((i + 1 : Nat) : Int) := by omega
    rw [to1]
    have hf4 := e4 _ _ hf
    have e04 := e.trans e4
    refine q_asg ev_c fun H5 e5 => ?_
    have e05 := e04.trans e5
    have hf5 := e5 _ _ hf4
    have hits5 : ∀ k v, its[k]? = some v → PartR b fl x k v H5 := fun k v hv => (hits k v hv).ex (e4.trans e5)
    -- from i + 1 - 6 on
    refine q_forN (ei_rng2 (lo := ((i + 1 - 6 : Nat) : Int)) (m := ((i + 1 : Nat) : Int)) (ea_cons (ev_is (by tm_at "ev") (by rw [show (6 : Int) = ((6 : Nat) : Int) from rfl, max_nat])) (by tm_at "ea")) (by omega)) (fun j σ' H' => ∃ (best : V) (y6 y7 : Option V), σ' = [some (.ref bp), some (vS x), some (.int (ln : Int)), some (.ref fl), some (.int ((i + 1 : Nat) : Int)), some best, y6, y7] ∧ Ex H5 H' ∧ (best = .non ∧ j ≤ i - (i + 1 - 6) ∨ PartR b fl x (i + 1) best H'))
      (fun H6 e6 _ => ⟨.non, _, _, rfl, e6, .inl ⟨rfl, Nat.zero_le _⟩⟩) (fun _ _ _ _ _ => trivial) (fun j σ' H' hj hP H6 e6 => ?_) (fun σ' H' hP => ?_)
    · obtain ⟨best, y6, y7, rfl, eb, hbest⟩ := hP
      have hj2 : (i + 1 - 6) + j ≤ i := by omega
      generalize hbg : (i + 1 - 6) + j = bg at hj2
      rw [show ((i + 1 - 6 : Nat) : Int) + (j : Int) = (bg : Int) by omega]
      have e56 := eb.trans e6
      have e06 := e05.trans e56
      have hf6 := e56 _ _ hf5
      obtain ⟨v, hv⟩ : ∃ v, its[bg]? = some v := ⟨_, List.getElem?_eq_getElem (by omega)⟩
      obtain ⟨pp, gs, ps, rfl, npf, hpp, hgr, hflat, hpsne, hgl⟩ := (hits5 bg v hv).ex e56
      obtain ⟨dx6, fs6, hp6, hl6⟩ := hbf e06
      have hll : ((x.drop bg).take (i + 1 - bg)).length = i + 1 - bg := by
        rw [List.length_take, List.length_drop]
        omega
      have haz : Az ((x.drop bg).take (i + 1 - bg)) := fun a ha => hx.2.2 a (List.drop_subset _ _ (List.take_subset _ _ ha))
      have hsl : Ev (tSl rSlS (tVar 1) (tPart (tVar 6)) (tPart (tVar 4))) [some (.ref bp), some (vS x), some (.int (ln : Int)), some (.ref fl), some (.int ((i + 1 : Nat) : Int)), some best, some (.int (bg : Int)), y7] H6 (vS ((x.drop bg).take (i + 1 - bg))) := by
        rw [← cutG_mid x bg (i + 1) (by omega) (by omega)]
        tm_at "ev"
      have hbest6 : best = .non ∧ j ≤ i - (i + 1 - 6) ∨ PartR b fl x (i + 1) best H6 := hbest.imp id fun h => h.ex e6
      refine q_asg (ev_methU (xs := eV [sPart, (x.drop bg).take (i + 1 - bg)]) (z := numV (numOfE b [sPart, (x.drop bg).take (i + 1 - bg)])) (ev_var rfl) hp6 hl6 (eu_tup (ea_cons ev_c (ea_cons hsl ea_nil)) (Nat.le_of_ble_eq_true rfl)) fun p H7 e7 h7 => v_Book_number (hb.ex (e06.trans e7)) h7 (.part _ (by omega) (by omega) haz)) fun H7 e7 => ?_
      cases hno : numOfE b [sPart, (x.drop bg).take (i + 1 - bg)] with
      | none =>
        refine s_skip (et_is (et_and (a := false) (b := false) (et_test (ev_op (ev_var rfl) ev_c rv_notN)) fun z => by cases z) rfl) fun H8 e8 => ?_
        refine ⟨best, _, _, rfl, (e56.trans e7).trans e8, ?_⟩
        rcases hbest6 with ⟨h1, h2⟩ | h
        · refine .inl ⟨h1, ?_⟩
          rcases Nat.lt_or_ge j (i - (i + 1 - 6)) with h3 | h3
          · omega
          · exfalso
            have hbi : bg = i := by omega
            subst hbi
            obtain ⟨n1, hn1⟩ := hlet _ (getD_mem hi2)
            have hm := numOfE_mem bok hn1
            rw [show bg + 1 - bg = 1 by omega, take_one hi2] at hno
            rw [hno] at hm
            cases hm
        · exact .inr (h.ex (e7.trans e8))
      | some k =>
        have hkm := mem_of_numOfE hno
        have hf7 := e7 _ _ hf6
        have hf7s := sq_of (K := K) hf7
        have a1 : atI its (bg : Int) = some (.ref pp) := atG rfl hv
        refine s_when (b := true) (et_is (by tm_at "et") (by rfl)) (fun _ H8 e8 => ?_) (fun z => by cases z)
        have hf8s := ex_l e8 hf7s
        have hpp8 := (e7.trans e8) _ _ hpp
        have e78 := e7.trans e8
        have hbq : best = .non ∨ ∃ (q : Addr) (ys : List V), best = .ref q ∧ SqL K H8 q ys := by
          rcases hbest6 with ⟨h1, _⟩ | h
          · exact .inl h1
          · obtain ⟨q, gs2, _, h1, _, h3, _⟩ := h.ex e78
            exact .inr ⟨q, _, h1, sq_of h3⟩
        refine s_asgR (evr_shorter (xs := iN (gs ++ [k])) (ev_var rfl) hbq ?_) fun v H9 e9 hr => ?_
        · rw [← iN_snoc]
          exact el_cat (by tm_at "ev") hpp8 (el_lst (by tm_at "ea") (Nat.le_of_ble_eq_true rfl)) (by rw [iN_len]; show _ + 1 ≤ _; omega)
        · refine ⟨v, _, _, rfl, ((e56.trans e7).trans e8).trans e9, .inr ?_⟩
          rcases hr with ⟨p2, rfl, hn2, h2⟩ | ⟨rfl, hnn⟩
          · refine ⟨p2, gs ++ [k], ps ++ [(x.drop bg).take (i + 1 - bg)], rfl, (ne_of_none ((e7.trans e8) _ _ hf6) hn2).symm, h2, ?_, ?_, fun _ z => by simp at z, by rw [List.length_append]; show gs.length + 1 ≤ _; omega⟩
            · rw [List.map_append]
              exact hgr.snoc hkm
            · rw [List.flatten_append, hflat, List.flatten_cons, List.flatten_nil, List.append_nil, take_mid x (by omega)]
          · rcases hbest6 with ⟨h1, _⟩ | h
            · exact absurd h1 hnn
            · exact h.ex ((e7.trans e8).trans e9)
    · obtain ⟨best, y6, y7, rfl, eb, hbest⟩ := hP
      have hgood : PartR b fl x (i + 1) best H' := by
        rcases hbest with ⟨_, h2⟩ | h
        · exfalso
          omega
        · exact h
      refine s_app (eb _ _ hf5) (ev_var rfl) (ev_var rfl) (by omega) fun H6 e6 => ?_
      have e06 := (e05.trans eb).trans e6
      refine ⟨its ++ [best], _, _, _, _, rfl, Ex.mut e06 hflH, upd_same, by rw [List.length_append, hil]; rfl, fun k v hv => ?_⟩
      refine PartR.upd ?_
      by_cases hk : k < its.length
      · rw [List.getElem?_append_left hk] at hv
        exact (hits5 k v hv).ex (eb.trans e6)
      · rw [List.getElem?_append_right (by omega)] at hv
        have h0 : k - its.length = 0 := by
          have := (List.getElem?_eq_some_iff.mp hv).1
          simp at this
          omega
        rw [h0] at hv
        have : best = v := Option.some.inj hv
        subst this
        have : k = i + 1 := by omega
        subst this
        exact hgood.ex e6
  · obtain ⟨its, x4, x5, x6, x7, rfl, e, hf, hil, hits⟩ := hP
    have hil2 : its.length = x.length + 1 := by omega
    obtain ⟨v, hv⟩ : ∃ v, its[x.length]? = some v := ⟨_, List.getElem?_eq_getElem (by omega)⟩
    obtain ⟨pp, gs, ps, rfl, npf, hpp, hgr, hflat, hpsne, hgl⟩ := hits x.length v hv
    have a1 : atI its (-1) = some (.ref pp) := atI_m1 (by rw [List.getLast?_eq_getElem?, hil2]; exact hv)
    have hfs := sq_of (K := K) hf
    refine q_skip (et_is (by tm_at "et") (by rfl)) fun H4 e4 => ?_
    have hfs4 := ex_l e4 hfs
    refine s_retL (xs := iN (gs ++ [ln])) ?_ fun p2 H5 hn5 e5 h5 => ?_
    · rw [← iN_snoc]
      exact el_cat (by tm_at "ev") (e4 _ _ hpp) (el_lst (by tm_at "ea") (Nat.le_of_ble_eq_true rfl)) (by rw [iN_len]; show _ + 1 ≤ _; omega)
    · refine q _ H5 ((e.trans e4).trans e5) ⟨p2, gs ++ [ln], ps, rfl, h5, hgr.snoc hln, by rw [hflat, List.take_length], hpsne (by omega), by rw [List.length_append]; show gs.length + 1 ≤ _; omega⟩
def sp_settings (K : PySem.W.Frag) : Sp := fun vs H Q _ => ∃ (bp wp : Addr) (c : Cd) (b : Bk) (ws : List W), vs = [.ref bp, .ref wp] ∧ BookAt K H bp c b ∧ SqL K H wp (ws.map vS) ∧ ws ≠ [] ∧ ws.length ≤ 60 ∧ (∀ x ∈ ws, WordOk x) ∧ (∀ x ∈ ws, ∀ a ∈ x, ∃ n, (n, [sPart, [a]]) ∈ b) ∧ (∃ n, (n, [sEnd]) ∈ b) ∧
  RetR (fun v H' => ∃ (fl p : Addr) (its : List V) (gs : List Nat) (es : List Ent), v = .ref fl ∧ H' fl = some (.lst its) ∧ its.getLast? = some (.ref p) ∧ H' p = some (.lst (iN gs)) ∧ Grp b gs es ∧ Says ([], none) es (ws, none) ∧ gs.length ≤ 22 * ws.length) H Q
theorem max_nat6 (i : Nat) : (if ((i : Int) - 6) > 0 then (i : Int) - 6 else 0) = ((i - 6 : Nat) : Int) := max_nat i 6
theorem c_settings (T : Tx K mg) : Cal P w K mg base 6 "settings" (sp_settings K) [] := by
  refine cal_of T.d_settings T.a_settings sc_settings (fun _ _ _ _ _ _ us hl => match us, hl with | [_, _], _ => rfl) (fun vs H Q E h => by (repeat (obtain ⟨_, h⟩ := h)); subst_vars; rfl) fun f cdv A outer s H vs Q E hr h => ?_
  obtain ⟨bp, wp, c, b, ws, rfl, hb, hw, hwne, hwl, hwo, hlet, hend, q⟩ := h
  have bok : BkOk c b := hb.1
  have hbf : ∀ {H'}, Ex H H' → ∃ dx fs, H' bp = some (.ins (He.ga K "Book") dx fs) ∧ fs.lookup ("number" : Str) = none := fun e => by
    obtain ⟨_, dx, cp, dn, de, r, hp3, _⟩ := hb.ex e
    exact ⟨_, _, hp3, rfl⟩
  refine ⟨_, (pss_cons (ps_set (i := 2) sc_settings.nd rfl (Or.inl rfl) (pe_lst (pa_cons (pe_lst pa_nil) pa_nil)))
  (pss_cons (ps_for PassesOwn.never rfl (pi_range2 rfl T.f_range (pa_cons pe_int (pa_cons (pe_op op_add (pe_callB call_len_seq rfl T.f_len bt_len (pa_cons (pv 1) pa_nil)) pe_int) pa_nil))) (pg_name (i := 3) sc_settings.nd rfl (Or.inl rfl))
    (pss_cons (ps_set (i := 4) sc_settings.nd rfl (Or.inl rfl) pe_non)
  (pss_cons (ps_for PassesOwn.never rfl (pi_range2 rfl T.f_range (pa_cons (pe_callB (call_max2 rfl) rfl T.f_max bt_max (pa_cons pe_int (pa_cons (pe_op op_sub (pv 3) (pe_gc rfl T.g_MOST_PHRASE)) pa_nil))) (pa_cons (pv 3) pa_nil))) (pg_name (i := 5) sc_settings.nd rfl (Or.inl rfl))
    (pss_cons (ps_set (i := 6) sc_settings.nd rfl (Or.inl rfl) (pe_mt (m_Book_number T) hr (by decide) (pv 0) (pa_cons (pe_tup (pa_cons pe_str (pa_cons (pe_join pe_str (pe_slice sl_list (pv 1) (po_some (pv 5)) (po_some (pv 3)))) pa_nil))) pa_nil)))
  (pss_one (ps_if (PW.pt (pw_and (pt_cmpR op_notN (pv 6) pe_non (nomark _)) (pw_and1 (pt_cmpR op_notN (pe_ix ix_list (pv 2) (pv 5) (fun _ _ => rfl)) pe_non (nomark _)))))
    (pss_one (ps_set (i := 4) sc_settings.nd rfl (Or.inl rfl) (pe_c (c_shorter T) hr (by decide) rfl (pa_cons (pv 4) (pa_cons (pe_op op_cat (pe_ix ix_list (pv 2) (pv 5) (fun _ _ => rfl)) (pe_lst (pa_cons (pv 6) pa_nil))) pa_nil)))))
    pss_nil))))
  (pss_cons (ps_if (pt_cmpR op_notN (pe_ix ix_list (pv 2) (pe_op op_sub (pv 3) pe_int) (fun _ _ => rfl)) pe_non (nomark _))
    (pss_cons (ps_set (i := 7) sc_settings.nd rfl (Or.inl rfl) (pe_c (c_spelled_groups T) hr (by decide) rfl (pa_cons (pv 0) (pa_cons (pe_ix ix_list (pv 1) (pe_op op_sub (pv 3) pe_int) (fun _ _ => rfl)) pa_nil))))
  (pss_one (ps_if (pt_cmpR op_notN (pv 7) pe_non (nomark _))
    (pss_one (ps_set (i := 4) sc_settings.nd rfl (Or.inl rfl) (pe_c (c_shorter T) hr (by decide) rfl (pa_cons (pv 4) (pa_cons (pe_op op_cat (pe_ix ix_list (pv 2) (pe_op op_sub (pv 3) pe_int) (fun _ _ => rfl)) (pv 7)) pa_nil)))))
    pss_nil)))
    pss_nil)
  (pss_one (ps_expr (pe_bm PySem.F.plainAttrs_list PySem.F.slot_list_append PySem.F.type_list_append mt_append (pv 2) (pa_cons (pv 4) pa_nil))))))))
  (pss_one (ps_ret (pv 2))))), ?_⟩
  refine q_asgR (evr_lst (RA := fun vs H1 => ∃ p0, vs = [V.ref p0] ∧ H1 p0 = some (.lst [])) (ear_cons (EvL.r (el_lst ea_nil (by decide))) fun y H3 e3 r => by
    obtain ⟨p0, rfl, hp0⟩ := r
    exact ear_nil.imp fun vs H4 e4 hv => ⟨p0, by rw [hv], e4 _ _ hp0⟩) fun vs H1 r => by obtain ⟨p0, rfl, _⟩ := r; exact Nat.le_of_ble_eq_true rfl) fun v H3 e03 r => ?_
  obtain ⟨fl, vs, H2', rfl, e2', hfl', ⟨p0, rfl, hp0⟩, e23, hfl⟩ := r
  have hflH : H fl = none := fresh_back e2' hfl'
  have hpfl : p0 ≠ fl := ne_of_none hp0 hfl'
  have hw3 := ex_l e03 hw
  refine q_forN (ei_rng2 (lo := 1) (m := (ws.length : Int) + 1) (ea_cons ev_c (ea_cons (ev_is (ev_op (ev_len (ev_var rfl) hw3) ev_c rv_I0) (by rw [List.length_map])) ea_nil)) (by omega)) (fun i σ' H' => ∃ (its : List V) (x3 x4 x5 x6 x7 : Option V), σ' = [some (.ref bp), some (.ref wp), some (.ref fl), x3, x4, x5, x6, x7] ∧ Ex H H' ∧ H' fl = some (.lst its) ∧ its.length = i + 1 ∧ ∀ k v, its[k]? = some v → SetR b fl ws k v H')
    (fun H4 e4 _ => ⟨[.ref p0], none, none, none, none, none, rfl, e03.trans e4, e4 _ _ hfl, rfl, fun k v hv => by
      have hk : k = 0 := by
        have := (List.getElem?_eq_some_iff.mp hv).1
        simp at this
        omega
      subst hk
      have : V.ref p0 = v := Option.some.inj hv
      subst this
      exact ⟨p0, [], [], rfl, hpfl, e4 _ _ (e23 _ _ hp0), Grp.nil b, .nil _, Nat.zero_le _⟩⟩) (fun _ _ _ _ _ => trivial) (fun i σ' H' hi hP H4 e4 => ?_) (fun σ' H' hP => ?_)
  · obtain ⟨its, x3, x4, x5, x6, x7, rfl, e, hf, hil, hits⟩ := hP
    have hi2 : i < ws.length := by omega
    have to1 : (1 : Int) + (i : Int) = ((i + 1 : Nat) : Int) := by omega
    rw [to1]
    have hf4 := e4 _ _ hf
    have e04 := e.trans e4
    refine q_asg ev_c fun H5 e5 => ?_
    have e05 := e04.trans e5
    have hf5 := e5 _ _ hf4
    have hits5 : ∀ k v, its[k]? = some v → SetR b fl ws k v H5 := fun k v hv => (hits k v hv).ex (e4.trans e5)
    refine q_forN (ei_rng2 (lo := ((i + 1 - 6 : Nat) : Int)) (m := ((i + 1 : Nat) : Int)) (ea_cons (ev_is (by tm_at "ev") (by rw [max_nat6])) (by tm_at "ea")) (by omega)) (fun j σ' H' => ∃ (best : V) (y5 y6 : Option V), σ' = [some (.ref bp), some (.ref wp), some (.ref fl), some (.int ((i + 1 : Nat) : Int)), some best, y5, y6, x7] ∧ Ex H5 H' ∧ (best = .non ∨ SetR b fl ws (i + 1) best H'))
      (fun H6 e6 _ => ⟨.non, _, _, rfl, e6, .inl rfl⟩) (fun _ _ _ _ _ => trivial) (fun j σ' H' hj hP H6 e6 => ?_) (fun σ' H' hP => ?_)
    · obtain ⟨best, y5, y6, rfl, eb, hbest⟩ := hP
      have hj2 : (i + 1 - 6) + j ≤ i := by omega
      generalize hbg : (i + 1 - 6) + j = bg at hj2
      rw [show ((i + 1 - 6 : Nat) : Int) + (j : Int) = (bg : Int) by omega]
      have e56 := eb.trans e6
      have e06 := e05.trans e56
      have hf6 := e56 _ _ hf5
      obtain ⟨v, hv⟩ : ∃ v, its[bg]? = some v := ⟨_, List.getElem?_eq_getElem (by omega)⟩
      obtain ⟨pp, gs, es, rfl, npf, hpp, hgr, hsay, hgl⟩ := (hits5 bg v hv).ex e56
      obtain ⟨dx6, fs6, hp6, hl6⟩ := hbf e06
      generalize hus : (ws.drop bg).take (i + 1 - bg) = us
      have hll : us.length = i + 1 - bg := by
        rw [← hus, List.length_take, List.length_drop]
        omega
      have huo : ∀ y ∈ us, WordOk y := fun y hy => hwo y (by rw [← hus] at hy; exact List.drop_subset _ _ (List.take_subset _ _ hy))
      have hw6 := ex_l e06 hw
      have hsl : EvL (tSl (rSlL K) (tVar 1) (tPart (tVar 5)) (tPart (tVar 3))) [some (.ref bp), some (.ref wp), some (.ref fl), some (.int ((i + 1 : Nat) : Int)), some best, some (.int (bg : Int)), y6, x7] H6 (us.map vS) := by
        have := el_sl (σ := [some (.ref bp), some (.ref wp), some (.ref fl), some (.int ((i + 1 : Nat) : Int)), some best, some (.int (bg : Int)), y6, x7]) (te := tVar 1) (tl := tPart (tVar 5)) (th := tPart (tVar 3)) (ev_var rfl) (eo_some (i := (bg : Int)) (ev_var rfl)) (eo_some (i := ((i + 1 : Nat) : Int)) (ev_var rfl)) hw6
        rw [cutV_map, cutG_mid ws bg (i + 1) (by omega) (by omega), hus] at this
        exact this
      have hj20 := joinW_sum us fun y hy => (huo y hy).2.1
      have hbest6 : best = .non ∨ SetR b fl ws (i + 1) best H6 := hbest.imp id fun h => h.ex e6
      refine q_asg (ev_methU (xs := eV [sPhrase, joinW us]) (z := numV (numOfE b [sPhrase, joinW us])) (ev_var rfl) hp6 hl6 (eu_tup (ea_cons ev_c (ea_cons (ev_is (ev_join (s := [32]) (ws := us) (ev_is ev_c (by rw [eBl])) hsl (by show _ + _ * 1 ≤ _; omega)) (by rw [joinW_eq])) ea_nil)) (Nat.le_of_ble_eq_true rfl)) fun p H7 e7 h7 => v_Book_number (hb.ex (e06.trans e7)) h7 (.phrase us (by omega) (by omega) huo)) fun H7 e7 => ?_
      cases hno : numOfE b [sPhrase, joinW us] with
      | none =>
        refine s_skip (et_is (et_and (a := false) (b := false) (et_test (ev_op (ev_var rfl) ev_c rv_notN)) fun z => by cases z) rfl) fun H8 e8 => ?_
        exact ⟨best, _, _, rfl, (e56.trans e7).trans e8, hbest6.imp id fun h => h.ex (e7.trans e8)⟩
      | some k =>
        have hkm := mem_of_numOfE hno
        have hf7 := e7 _ _ hf6
        have hf7s := sq_of (K := K) hf7
        have a1 : atI its (bg : Int) = some (.ref pp) := atG rfl hv
        refine s_when (b := true) (et_is (by tm_at "et") (by rfl)) (fun _ H8 e8 => ?_) (fun z => by cases z)
        have hf8s := ex_l e8 hf7s
        have hpp8 := (e7.trans e8) _ _ hpp
        have e78 := e7.trans e8
        have hbq : best = .non ∨ ∃ (q : Addr) (ys : List V), best = .ref q ∧ SqL K H8 q ys := by
          rcases hbest6 with h1 | h
          · exact .inl h1
          · obtain ⟨q, gs2, _, h1, _, h3, _⟩ := h.ex e78
            exact .inr ⟨q, _, h1, sq_of h3⟩
        refine s_asgR (evr_shorter (xs := iN (gs ++ [k])) (ev_var rfl) hbq ?_) fun v H9 e9 hr => ?_
        · rw [← iN_snoc]
          exact el_cat (by tm_at "ev") hpp8 (el_lst (by tm_at "ea") (Nat.le_of_ble_eq_true rfl)) (by rw [iN_len]; show _ + 1 ≤ _; omega)
        · refine ⟨v, _, _, rfl, ((e56.trans e7).trans e8).trans e9, .inr ?_⟩
          rcases hr with ⟨p2, rfl, hn2, h2⟩ | ⟨rfl, hnn⟩
          · refine ⟨p2, gs ++ [k], es ++ [[sPhrase, joinW us]], rfl, (ne_of_none (e78 _ _ hf6) hn2).symm, h2, hgr.snoc hkm, ?_, by rw [List.length_append]; show gs.length + 1 ≤ _; omega⟩
            have htk : ws.take bg ++ us = ws.take (i + 1) := by rw [← hus, take_mid ws (by omega)]
            have hlt : (ws.take bg).length ≤ bg := by rw [List.length_take]; exact Nat.min_le_left _ _
            refine hsay.append (.cons (s1 := (ws.take (i + 1), none)) ?_ (.nil _))
            rw [← htk]
            exact .phrase _ us (by omega) huo (by omega)
          · rcases hbest6 with h1 | h
            · exact absurd h1 hnn
            · exact h.ex (e78.trans e9)
    · obtain ⟨best, y5, y6, rfl, eb, hbest⟩ := hP
      have hfb := eb _ _ hf5
      have hfbs := sq_of (K := K) hfb
      obtain ⟨v, hv⟩ : ∃ v, its[i]? = some v := ⟨_, List.getElem?_eq_getElem (by omega)⟩
      obtain ⟨pp, gs, es, rfl, npf, hpp, hgr, hsay, hgl⟩ := (hits5 i v hv).ex eb
      have a1 : atI its (((i + 1 : Nat) : Int) - 1) = some (.ref pp) := atG (j := i) (by omega) hv
      have hwi := hwo _ (getD_memW (ws := ws) hi2)
      have a2 : atI (ws.map vS) (((i + 1 : Nat) : Int) - 1) = some (vS (ws.getD i [])) := by
        refine atG (j := i) (by omega) ?_
        rw [List.getElem?_map, getD_at (d := []) hi2]
        rfl
      refine q_when (b := true) (et_is (by tm_at "et") (by rfl)) (fun _ H6 e6 => ?_) (fun z => by cases z)
      have e06 := (e05.trans eb).trans e6
      have hw6 := ex_l e06 hw
      refine q_asgR (evr_callA (vs := [.ref bp, vS (ws.getD i [])]) (by tm_at "ea") (r_spelled_groups (hb.ex e06) hwi (hlet _ (getD_memW hi2)) hend)) fun v H7 e7 hr => ?_
      obtain ⟨sp, hs, ps, rfl, hsp, hsgr, hsflat, hpsne, hsl⟩ := hr
      refine s_when (b := true) (et_is (by tm_at "et") (by rfl)) (fun _ H8 e8 => ?_) (fun z => by cases z)
      have e78 := e7.trans e8
      have e68 := e6.trans e78
      have hfb8 := e68 _ _ hfb
      have hfb8s := sq_of (K := K) hfb8
      have hbq : best = .non ∨ ∃ (q : Addr) (ys : List V), best = .ref q ∧ SqL K H8 q ys := by
        rcases hbest with h1 | h
        · exact .inl h1
        · obtain ⟨q, gs2, _, h1, _, h3, _⟩ := h.ex e68
          exact .inr ⟨q, _, h1, sq_of h3⟩
      have hgood : ∀ H9 v, Ex H8 H9 → ((∃ p, v = V.ref p ∧ H8 p = none ∧ H9 p = some (.lst (iN (gs ++ hs)))) ∨ (v = best ∧ best ≠ .non)) → SetR b fl ws (i + 1) v H9 := fun H9 v e9 hr => by
        rcases hr with ⟨p2, rfl, hn2, h2⟩ | ⟨rfl, hnn⟩
        · refine ⟨p2, gs ++ hs, _, rfl, (ne_of_none hfb8 hn2).symm, h2, hgr.append hsgr, ?_, by rw [List.length_append]; have := hwi.2.1; omega⟩
          have hlt : (ws.take i).length ≤ i := by rw [List.length_take]; exact Nat.min_le_left _ _
          have hsay2 := says_word (us := ws.take i) (ps := ps) (by omega) hpsne (by rw [hsflat]; exact hwi.2.1)
          rw [hsflat] at hsay2
          have htk : ws.take i ++ [ws.getD i []] = ws.take (i + 1) := by
            rw [List.take_succ, getD_at (d := []) hi2]
            rfl
          rw [htk] at hsay2
          exact hsay.append hsay2
        · rcases hbest with h1 | h
          · exact absurd h1 hnn
          · exact h.ex (e68.trans e9)
      refine s_asgR (evr_shorter (xs := iN (gs ++ hs)) (ev_var rfl) hbq ?_) fun v H9 e9 hr => ?_
      · rw [← iN_app]
        exact el_cat2 (by tm_at "ev") (e68 _ _ hpp) (ev_var rfl) (e8 _ _ hsp) (by rw [iN_len, iN_len]; have := hwi.2.1; omega)
      · have hg9 := hgood H9 v e9 hr
        refine s_app (e9 _ _ hfb8) (ev_var rfl) (ev_var rfl) (by omega) fun H10 e10 => ?_
        have e010 := (((e05.trans eb).trans e68).trans e9).trans e10
        refine ⟨its ++ [v], _, _, _, _, _, rfl, Ex.mut e010 hflH, upd_same, by rw [List.length_append, hil]; rfl, fun k u hu => ?_⟩
        refine SetR.upd ?_
        by_cases hk : k < its.length
        · rw [List.getElem?_append_left hk] at hu
          exact (hits5 k u hu).ex (((eb.trans e68).trans e9).trans e10)
        · rw [List.getElem?_append_right (by omega)] at hu
          have h0 : k - its.length = 0 := by
            have := (List.getElem?_eq_some_iff.mp hu).1
            simp at this
            omega
          rw [h0] at hu
          have : v = u := Option.some.inj hu
          subst this
          have : k = i + 1 := by omega
          subst this
          exact hg9.ex e10
  · obtain ⟨its, x3, x4, x5, x6, x7, rfl, e, hf, hil, hits⟩ := hP
    have hil2 : its.length = ws.length + 1 := by omega
    obtain ⟨v, hv⟩ : ∃ v, its[ws.length]? = some v := ⟨_, List.getElem?_eq_getElem (by omega)⟩
    obtain ⟨pp, gs, es, rfl, npf, hpp, hgr, hsay, hgl⟩ := hits ws.length v hv
    rw [List.take_length] at hsay
    refine s_ret (ev_var rfl) fun H4 e4 => ?_
    exact q _ H4 (e.trans e4) ⟨fl, pp, its, gs, es, rfl, e4 _ _ hf, by rw [List.getLast?_eq_getElem?, hil2]; exact hv, e4 _ _ hpp, hgr, hsay, hgl⟩
end
end Cb
/-! K16: telegrams, readings. -/
namespace Cb
open PySem PySem.Spec PyProof.Rows L2 Evl
open C8 (Cal Met Mak pe_c pe_mk pe_mt pe_mt0 pe_gc)

def chk (c : Cd) (gs : List Nat) : Nat := (gs.sum + gs.length) % manyN c
def telW (c : Cd) (gs : List Nat) : List W := gs.map (wordOf c) ++ [wordOf c (chk c gs)]
theorem sum_iN : ∀ gs : List Nat, (gs.map fun p : Nat => (p : Int)).sum = ((gs.sum : Nat) : Int)
  | [] => rfl
  | g :: gs => by
    rw [List.map_cons, List.sum_cons, List.sum_cons, sum_iN gs]
    omega
theorem grp_lt {c : Cd} {b : Bk} {gs : List Nat} {es : List Ent} (ok : BkOk c b) (h : Grp b gs es) : ∀ g ∈ gs, g < manyN c := fun g hg => by
  obtain ⟨i, hi, rfl⟩ := List.mem_iff_getElem.mp hg
  obtain ⟨e, _, hm⟩ := h.2 i _ (List.getElem?_eq_getElem hi)
  exact ok.lt _ hm
theorem telW_kept {c : Cd} {b : Bk} {gs : List Nat} {es : List Ent} (ok : CdOk c) (bok : BkOk c b) (h : Grp b gs es) : Kept c b (telW c gs) where
  word := fun x hx => by
    rcases List.mem_append.mp hx with hx | hx
    · obtain ⟨g, _, rfl⟩ := List.mem_map.mp hx
      exact ⟨wordOf_isWord ok g, wordOf_good ok g⟩
    · rw [List.mem_singleton.mp hx]
      exact ⟨wordOf_isWord ok _, wordOf_good ok _⟩
  ent := fun i hi => by
    unfold telW at hi ⊢
    rw [List.length_append, List.length_map] at hi
    have hi2 : i < gs.length := by
      simp at hi
      omega
    rw [List.getD_eq_getElem?_getD, List.getElem?_append_left (by rw [List.length_map]; exact hi2), List.getElem?_map, List.getElem?_eq_getElem hi2]
    show (entOf b (numOf c (wordOf c gs[i]))).isSome = true
    obtain ⟨e, _, hm⟩ := h.2 i _ (List.getElem?_eq_getElem hi2)
    rw [numOf_wordOf ok (bok.lt _ hm), entOf_mem bok hm]
    rfl
section
variable {K : PySem.W.Frag} {σ : L2.St} {H H' : Hp} {ta te tv td ty : TE} {D : Ends} {tz : TS} {xs ys : List V} {x y z : V} {a C dx : Addr} {fs : List (Str × V)} {m : Str} {wi : TI} {n : Nat} {v : Nat → V} {j : Nat} {vs : List Nat}
/-- each a new list -/
def Cl (H : Hp) (u : Nat → List V) (D : Addr) (i : Nat) (H' : Hp) : Prop := H D = none ∧ Ex H H' ∧ ∃ rs : List Addr, rs.length = i ∧ H' D = some (.lst (rs.map V.ref)) ∧ ∀ k r, rs[k]? = some r → r ≠ D ∧ H r = none ∧ H' r = some (.lst (u k))
theorem er_lcL (u : Nat → List V) (hi : EvIN wi σ H n v) (hn : n ≤ 50000) (hw : ∀ x, wipe ((wipe σ vs).set j (some x)) vs = wipe σ vs)
    (he : ∀ i, i < n → EvL te ((wipe σ vs).set j (some (v i))) H (u i)) : EvR (tLc wi (gName j) tYes te vs) σ H (fun y H2 => ∃ (p : Addr) (rs : List Addr), y = .ref p ∧ H p = none ∧ H2 p = some (.lst (rs.map V.ref)) ∧ rs.length = n ∧ ∀ k r, rs[k]? = some r → r ≠ p ∧ H r = none ∧ H2 r = some (.lst (u k))) := fun H0 e Q q =>
  hi H0 e _ fun J H2 G e2 g2 mo w D hD => lc_it w (Cl H2 u D) ⟨hD, Ex.new hD, [], rfl, upd_same, fun k y h => by simp at h⟩ (fun i Ha _ p => mo H2 Ha p.2.1 g2) (fun i x Ha Hb hlt p y => by
    obtain ⟨eab, rfl⟩ := y
    obtain ⟨p1, p2, rs, p3, p4, p5⟩ := p
    refine ⟨hw _, ?_⟩
    show te _ Hb _
    refine he i hlt Hb (((e.trans e2).trans p2).trans eab) _ fun r H4 hr e4 ry => ⟨rs.map V.ref, e4 D _ (eab D _ p4), sz_lt (by rw [List.length_map]; omega), p1, Ex.mut ((p2.trans eab).trans e4) p1, rs ++ [r], by rw [List.length_append, p3]; rfl, by rw [upd_same, List.map_append]; rfl, fun k z hz => ?_⟩
    by_cases hk : k < rs.length
    · rw [List.getElem?_append_left hk] at hz
      obtain ⟨a1, a2, a3⟩ := p5 k z hz
      exact ⟨a1, a2, by rw [upd_ne a1]; exact (eab.trans e4) _ _ a3⟩
    · rw [List.getElem?_append_right (by omega)] at hz
      have h0 : k - rs.length = 0 := by
        have := (List.getElem?_eq_some_iff.mp hz).1
        simp at this
        omega
      rw [h0] at hz
      have : r = z := Option.some.inj hz
      subst this
      have : k = i := by omega
      subst this
      have nD : r ≠ D := (ne_of_none (eab D _ p4) hr).symm
      exact ⟨nD, fresh_back (p2.trans eab) hr, by rw [upd_ne nD]; exact ry⟩) (fun Ha p => by
        obtain ⟨p1, p2, acc, p3, p4, p5⟩ := p
        exact q _ Ha (e2.trans p2) ⟨D, acc, rfl, fresh_back (e.trans e2) hD, p4, p3, fun k r h => ⟨(p5 k r h).1, fresh_back (e.trans e2) (p5 k r h).2.1, (p5 k r h).2.2⟩⟩)
theorem s_extR {l : Addr} {te : TE} {R : V → Hp → Prop} (hl : H l = some (.lst xs)) (ha : Ev ta σ H (.ref l)) (h : EvR te σ H R)
    (k : ∀ v H1, Ex H H1 → R v H1 → ∃ b ys, v = .ref b ∧ H1 b = some (.lst ys) ∧ xs.length + ys.length ≤ 100000 ∧ D.nx σ (upd H1 l (.lst (xs ++ ys)))) :
    tDrop (tBM K "list" rExtend ta (tCons te tNil)) D σ H := ha H (Ex.refl H) _ fun H1 e1 =>
  ⟨Or.inl ⟨rfl, xs, sq_of (e1 l _ hl)⟩, h H1 e1 _ fun v H2 e2 r => by
    obtain ⟨b, ys, rfl, hb, hz, hn⟩ := k v H2 (e1.trans e2) r
    exact ⟨l, b, xs, ys, rfl, rfl, (e1.trans e2) l _ hl, hb, sz_of hz, hn⟩⟩
theorem s_dputS {kvs : List (Key × V)} {t : Str} (hv : Ev tv σ H x) (hd : Ev td σ H (.ref a)) (hy : Ev ty σ H (.str t)) (ha : H a = some (.dK kvs)) (hl : kvs.length < 10000) (k : ∀ H1, Ex H H1 → D.nx σ (upd H1 a (.dK (putK kvs (.inr t) x)))) : sDPut td ty tv D σ H :=
  hv H (Ex.refl H) _ fun H1 e1 => hd H1 e1 _ fun H2 e2 => hy H2 (e1.trans e2) _ fun H3 e3 => ⟨a, _, rfl, DPut.k (k := .inr t) (((e1.trans e2).trans e3) _ _ ha) (sz_lt (by omega)), k H3 ((e1.trans e2).trans e3)⟩
theorem el_sorted1 {ta : TE} {t : Str} {u : V} (h : Ev ta σ H (.ref a)) (ha : H a = some (.dK [(.inr t, u)])) : EvL (tCB (fun xs H Q => ∃ (a : Addr) (kvs : List (Key × V)) (ks : List Str), xs = [.ref a] ∧ Rd H a (.dK kvs) ∧ kvs.map (·.1) = ks.map Sum.inr ∧ ks.length < 64 ∧
    ∀ ys p, ys.Perm ks → sortedS ys = true → H p = none → Q (.ref p) (upd H p (.lst (ys.map V.str)))) (tCons ta tNil)) σ H [.str t] := fun H1 e Q q =>
  h H1 e _ fun H2 e2 => ⟨a, _, [t], rfl, .inl ((e.trans e2) _ _ ha), rfl, by show 1 < 64; decide, fun ys p hp _ hn => by
    rw [List.perm_singleton.mp hp]
    exact q p _ (fresh_back e2 hn) (e2.trans (Ex.new hn)) upd_same⟩
end
local macro_rules | `(tactic| tm_at "side") => `(tactic| (first | assumption | omega | ((try simp only [List.length_append, List.length_cons, List.length_nil, List.length_map, List.length_range]); omega) | exact ⟨by omega, by omega⟩ | exact .inl ⟨by omega, by omega⟩ | exact .inr ⟨by omega, by omega⟩ | decide))
local macro_rules | `(tactic| tm_at "rv") => `(tactic| (first
  | exact rv_I0
  | exact rv_mod (by tm_at "side")
  | exact rv_I (by tm_at "side")
  | exact rv_eq rfl
  | exact rv_ne rfl
  | exact rv_addS (by tm_at "side")
  | exact rv_ixSS (by tm_at "side") (by assumption)
  | exact rv_ixL (by assumption) (by assumption)
  | exact rv_ixT (by assumption) (by assumption)
  | exact rv_inS
  | exact rv_isN
  | exact rv_notN
  | assumption))
local macro_rules | `(tactic| tm_at "eo") => `(tactic| (first | exact eo_none | (apply eo_some; tm_at "ev")))
local macro_rules | `(tactic| tm_at "ea") => `(tactic| (first | exact ea_nil | (apply ea_cons; (tm_at "ev"); (tm_at "ea"))))
local macro_rules | `(tactic| tm_at "sp") => `(tactic| assumption)
local macro_rules | `(tactic| tm_at "ev") => `(tactic| (first
  | exact ev_c
  | exact ev_var rfl
  | assumption
  | (apply ev_op; (tm_at "ev"); (tm_at "ev"); (tm_at "rv"))
  | (apply ev_un (hr := ru_neg); tm_at "ev")
  | (apply ev_fld; (tm_at "ev"); assumption; assumption; assumption; rfl)
  | (apply ev_lenStr; (tm_at "ev"); (tm_at "side"))
  | (apply ev_lenDT; (tm_at "ev"); assumption)
  | (apply ev_len; (tm_at "ev"); assumption)
  | (apply ev_lenT; (tm_at "ev"); assumption)
  | (apply ev_slS; (tm_at "ev"); (tm_at "eo"); (tm_at "eo"); (tm_at "side"))
  | (apply ev_call; (tm_at "ea"); (tm_at "sp"))
  | (apply ev_meth; (tm_at "ev"); assumption; rfl; (tm_at "ea"); (tm_at "sp"))
  | (apply ev_isStr; tm_at "ev")
  | (apply ev_isInt; tm_at "ev")
  | (apply ev_isBoolI; tm_at "ev")
  | (apply ev_isList; (tm_at "ev"); assumption)
  | (apply ev_isTuple; (tm_at "ev"); assumption)
  | (apply ev_abs; tm_at "ev")
  | (apply ev_int1; tm_at "ev")
  | (apply ev_max2; (tm_at "ev"); (tm_at "ev"))
  | (apply ev_sindex; (tm_at "ev"); (tm_at "ev"); assumption)
  | (apply ev_dinK; (tm_at "ev"); (tm_at "ev"); assumption)
  | (apply ev_dinT; (tm_at "ev"); (tm_at "ev"); assumption; assumption)
  | (apply ev_chain; (tm_at "ev"); (tm_at "ev"); (tm_at "rv"); (intro _; tm_at "ev"); (intro _; tm_at "rv"))
  | (apply ev_andV; (tm_at "ev"); (intro _; tm_at "ev"))
  | (apply ev_orV; (tm_at "ev"); (intro _; tm_at "ev"))
  | (apply ev_notV; tm_at "ev")))
local macro_rules | `(tactic| tm_at "et") => `(tactic| (first
  | assumption
  | (apply et_test; tm_at "ev")
  | (apply et_B; tm_at "ev")
  | (apply et_not; tm_at "et")
  | (apply et_and; (tm_at "et"); (intro _; tm_at "et"))
  | (apply et_or; (tm_at "et"); (intro _; tm_at "et"))))
/-- tests by sums -/
local macro_rules | `(tactic| tm_at "bf") => `(tactic| (simp only [Bool.not_true, Bool.not_false, Bool.false_or, Bool.true_and, Bool.and_true, Bool.or_false, Bool.or_eq_false_iff, Bool.and_eq_true, decide_eq_false_iff_not, decide_eq_true_eq, Bool.not_eq_false', Bool.not_eq_true']; omega))

section
variable {P : Program} {w : World} {K : PySem.W.Frag} {mg : Str → Option Value} {base : Heap} {H : Hp}
/-- the text's words, and a book that can spell them -/
structure TxtOk (b : Bk) (ws : List W) : Prop where
  ne : ws ≠ []
  len : ws.length ≤ 60
  ok : ∀ x ∈ ws, WordOk x
  let_ : ∀ x ∈ ws, ∀ a ∈ x, ∃ n, (n, [sPart, [a]]) ∈ b
  end_ : ∃ n, (n, [sEnd]) ∈ b
def SetsR (b : Bk) (ws : List W) (v : V) (H' : Hp) : Prop := ∃ (fl p : Addr) (its : List V) (gs : List Nat) (es : List Ent), v = .ref fl ∧ H' fl = some (.lst its) ∧ its.getLast? = some (.ref p) ∧ H' p = some (.lst (iN gs)) ∧ Grp b gs es ∧ Says ([], none) es (ws, none) ∧ gs.length ≤ 22 * ws.length
def sp_settings_of (K : PySem.W.Frag) : Sp := fun vs H Q _ => ∃ (bp : Addr) (c : Cd) (b : Bk) (ws : List W), vs = [.ref bp, .str (S (joinW ws))] ∧ BookAt K H bp c b ∧ TxtOk b ws ∧
  RetR (SetsR b ws) H Q
theorem c_settings_of (T : Tx K mg) : Cal P w K mg base 7 "settings_of" (sp_settings_of K) [] := by
  refine cal_of T.d_settings_of T.a_settings_of sc_settings_of (fun _ _ _ _ _ _ us hl => match us, hl with | [_, _], _ => rfl) (fun vs H Q E h => by (repeat (obtain ⟨_, h⟩ := h)); subst_vars; rfl) fun f cdv A outer s H vs Q E hr h => ?_
  obtain ⟨bp, c, b, ws, rfl, hb, ht, q⟩ := h
  refine ⟨_, (pss_cons (ps_if (pt_not (pt_val (pe_c (c_is_text T) hr (by decide) rfl (pa_cons (pv 1) pa_nil))))
    (pss_one ps_never)
    pss_nil)
  (pss_one (ps_ret (pe_c (c_settings T) hr (by decide) rfl (pa_cons (pv 0) (pa_cons (pe_split (pv 1) pe_str) pa_nil)))))), ?_⟩
  have v1 := v_is_text (K := K) (H := H) ht.ne ht.len ht.ok
  refine q_skip (et_is (by tm_at "et") (by rfl)) fun H1 e1 => ?_
  have hl := joinW_len ws fun x hx => (ht.ok x hx).2.1
  have := ht.len
  refine s_retR (R := SetsR b ws) (evr_call (RA := fun vs H2 => ∃ wp, vs = [.ref bp, .ref wp] ∧ H2 wp = some (.lst (ws.map vS))) (ear_cons (Ev.r (ev_var rfl)) fun y1 H2 e2 hy1 => ear_cons (EvL.r (el_split (l := joinW ws) (ws := ws) (ev_var rfl) (ev_is ev_c (by rw [eBl])) (by omega) rfl ht.ne fun x hx => word_no32 (ht.ok x hx))) fun y2 H3 e3 hy2 => ear_nil.imp fun vs H4 e4 hvs => ?_) fun vs H2 e2 hr => ?_) fun v H2 e2 r => ?_
  · obtain ⟨wp, rfl, hwp⟩ := hy2
    exact ⟨wp, by rw [hy1, hvs], e4 _ _ hwp⟩
  · obtain ⟨wp, rfl, hwp⟩ := hr
    exact fun H3 e3 Q q E => ⟨bp, wp, c, b, ws, rfl, hb.ex ((e1.trans e2).trans e3), sq_of (e3 _ _ hwp), ht.ne, ht.len, ht.ok, ht.let_, ht.end_, q⟩
  · exact q v H2 (e1.trans e2) r
def sp_set_groups (K : PySem.W.Frag) : Sp := fun vs H Q _ => ∃ (bp : Addr) (c : Cd) (b : Bk) (ws : List W), vs = [.ref bp, .str (S (joinW ws))] ∧ BookAt K H bp c b ∧ TxtOk b ws ∧
  RetR (fun v H' => ∃ (p : Addr) (gs : List Nat) (es : List Ent), v = .ref p ∧ H' p = some (.lst (iN gs)) ∧ Grp b gs es ∧ Says ([], none) es (ws, none) ∧ gs.length ≤ 22 * ws.length) H Q
theorem r_set_groups {bp : Addr} {c : Cd} {b : Bk} {ws : List W} (h1 : BookAt K H bp c b) (h2 : TxtOk b ws) : SpR (sp_set_groups K) [.ref bp, .str (S (joinW ws))] H (fun v H' => ∃ (p : Addr) (gs : List Nat) (es : List Ent), v = .ref p ∧ H' p = some (.lst (iN gs)) ∧ Grp b gs es ∧ Says ([], none) es (ws, none) ∧ gs.length ≤ 22 * ws.length) :=
  fun H1 e Q q E => ⟨bp, c, b, ws, rfl, h1.ex e, h2, q⟩
theorem c_set_groups (T : Tx K mg) : Cal P w K mg base 8 "set_groups" (sp_set_groups K) [] := by
  refine cal_of T.d_set_groups T.a_set_groups sc_set_groups (fun _ _ _ _ _ _ us hl => match us, hl with | [_, _], _ => rfl) (fun vs H Q E h => by (repeat (obtain ⟨_, h⟩ := h)); subst_vars; rfl) fun f cdv A outer s H vs Q E hr h => ?_
  obtain ⟨bp, c, b, ws, rfl, hb, ht, q⟩ := h
  refine ⟨_, (pss_cons (ps_set (i := 2) sc_set_groups.nd rfl (Or.inr rfl) (pe_c (c_settings_of T) hr (by decide) rfl (pa_cons (pv 0) (pa_cons (pv 1) pa_nil))))
  (pss_cons (ps_if (pt_cmpR op_isN (pe_ix ix_list (pv 2) (pe_un un_neg pe_int) (fun _ _ => rfl)) pe_non (nomark _))
    (pss_one ps_never)
    pss_nil)
  (pss_one (ps_ret (pe_ix ix_list (pv 2) (pe_un un_neg pe_int) (fun _ _ => rfl)))))), ?_⟩
  refine q_asgR (evr_callA (vs := [.ref bp, vS (joinW ws)]) (R := SetsR b ws) (by tm_at "ea") fun H1 e1 Q q E => ⟨bp, c, b, ws, rfl, hb.ex e1, ht, q⟩) fun v H1 e1 r => ?_
  obtain ⟨fl, p, its, gs, es, rfl, hfl, hlast, hp, hgr, hsay, hgl⟩ := r
  have a1 := atI_m1 hlast
  have hfs := sq_of (K := K) hfl
  refine q_skip (et_is (by tm_at "et") (by rfl)) fun H2 e2 => ?_
  have hfs2 := ex_l e2 hfs
  refine s_ret (by tm_at "ev") fun H3 e3 => ?_
  exact q _ H3 ((e1.trans e2).trans e3) ⟨p, gs, es, rfl, (e2.trans e3) _ _ hp, hgr, hsay, hgl⟩
/-! ### telegrams -/
def sp_check_of (K : PySem.W.Frag) : Sp := fun vs H Q _ => ∃ (cp gp : Addr) (c : Cd) (gs : List Nat), vs = [.ref cp, .ref gp] ∧ CodeAt K H cp c ∧ SqL K H gp (iN gs) ∧ gs.length ≤ 10000 ∧ RetV (.str (S (wordOf c (chk c gs)))) H Q
theorem v_check_of {cp gp : Addr} {c : Cd} {gs : List Nat} (h1 : CodeAt K H cp c) (h2 : SqL K H gp (iN gs)) (h3 : gs.length ≤ 10000) : SpV (sp_check_of K) [.ref cp, .ref gp] H (.str (S (wordOf c (chk c gs)))) := fun H1 e Q q E => ⟨cp, gp, c, gs, rfl, h1.ex e, ex_l e h2, h3, q⟩
theorem chk_lt {c : Cd} (ok : CdOk c) (gs : List Nat) : chk c gs < manyN c := Nat.mod_lt _ (by have := manyN_ge ok; omega)
theorem c_check_of (T : Tx K mg) : Cal P w K mg base 3 "check_of" (sp_check_of K) [] := by
  refine cal_of T.d_check_of T.a_check_of sc_check_of (fun _ _ _ _ _ _ us hl => match us, hl with | [_, _], _ => rfl) (fun vs H Q E h => by (repeat (obtain ⟨_, h⟩ := h)); subst_vars; rfl) fun f cdv A outer s H vs Q E hr h => ?_
  obtain ⟨cp, gp, c, gs, rfl, hc, hg, hgl, q⟩ := h
  have ok := hc.1
  have hm := manyN_ge ok
  refine ⟨_, (pss_one (ps_ret (pe_mt (m_Code_word T) hr (by decide) (pv 0) (pa_cons (pe_op op_mod (pe_op op_add (pe_callB (cr_sum rfl) rfl T.f_sum bt_sum (pa_cons (pv 1) pa_nil)) (pe_callB call_len_seq rfl T.f_len bt_len (pa_cons (pv 1) pa_nil))) (pe_mt0 (m_Code_many T) hr (by decide) (pv 0))) pa_nil)))), ?_⟩
  have v1 := v_Code_many hc
  have v2 := v_Code_word hc (chk_lt ok gs)
  obtain ⟨_, dx, lp, hp, _⟩ := hc
  have hs := ev_sumK (K := K) (σ := [some (.ref cp), some (.ref gp)]) (tl := tVar 1) (ev_var rfl) hg
  rw [sum_iN] at hs
  have hlen : Ev (tCB (rLenS K) (tCons (tVar 1) tNil)) [some (.ref cp), some (.ref gp)] H (.int (gs.length : Nat)) := ev_is (ev_len (ev_var rfl) hg) (by rw [iN_len])
  refine s_ret (ev_meth (vs := [.int ((chk c gs : Nat) : Int)]) (ev_var rfl) hp rfl (ea_cons (ev_is (ev_op (ev_op hs hlen rv_I0) (ev_meth (vs := []) (ev_var rfl) hp rfl ea_nil v1) (rv_mod (by omega))) ?_) ea_nil) v2) fun H1 e1 => ?_
  · rfl
  · exact q H1 e1
def sp_telegram (K : PySem.W.Frag) : Sp := fun vs H Q _ => ∃ (bp gp : Addr) (c : Cd) (b : Bk) (gs : List Nat) (es : List Ent) (us : List W), vs = [.ref bp, .ref gp] ∧ BookAt K H bp c b ∧ SqL K H gp (iN gs) ∧ Grp b gs es ∧ gs.length ≤ 10000 ∧ Says ([], none) es (us, none) ∧ us ≠ [] ∧ us.length ≤ 60 ∧ (∀ x ∈ us, WordOk x) ∧ RetL ((telW c gs).map vS) H Q
theorem c_telegram (T : Tx K mg) : Cal P w K mg base 4 "telegram" (sp_telegram K) [] := by
  refine cal_of T.d_telegram T.a_telegram sc_telegram (fun _ _ _ _ _ _ us hl => match us, hl with | [_, _], _ => rfl) (fun vs H Q E h => by (repeat (obtain ⟨_, h⟩ := h)); subst_vars; rfl) fun f cdv A outer s H vs Q E hr h => ?_
  obtain ⟨bp, gp, c, b, gs, es, us, rfl, hb, hg, hgr, hgl, hsay, hne, hul, hwo, q⟩ := h
  have bok : BkOk c b := hb.1
  refine ⟨_, (pss_cons (ps_expr (pe_c (c_said T) hr (by decide) rfl (pa_cons (pv 0) (pa_cons (pv 1) pa_nil))))
  (pss_cons (ps_set (i := 2) sc_telegram.nd rfl (Or.inr rfl) (pe_mt0 (m_Book_code T) hr (by decide) (pv 0)))
  (pss_one (ps_ret (pe_op op_cat (pe_lc (own := [("group", 3)]) (g := gName 3) (tt := tYes) rfl sc_telegram.nd (pi_list (pv 1)) (blkOk_by (N := nm_telegram) (sc := defScope s_telegram) (by decide +kernel)) (fun _ _ _ _ _ => (pg_name (i := 3) sc_telegram.nd rfl (Or.inl rfl))) (fun _ _ _ _ _ => pts_nil) (fun _ _ _ _ _ => (pe_mt (m_Code_word T) hr (by decide) (pv 2) (pa_cons (pv 3) pa_nil)))) (pe_lst (pa_cons (pe_c (c_check_of T) hr (by decide) rfl (pa_cons (pv 2) (pa_cons (pv 1) pa_nil))) pa_nil))))))), ?_⟩
  have v1 := v_said hb hg hgr hgl hsay hne hul hwo
  refine q_drop (by tm_at "ev") fun H1 e1 => ?_
  refine q_asgR (evr_code (ev_var rfl) (hb.ex e1)) fun v H2 e2 r => ?_
  obtain ⟨cp, rfl, hc⟩ := r
  have ok := hc.1
  have hg2 := ex_l (e1.trans e2) hg
  have v2 := v_check_of hc hg2 hgl
  have hcp := hc
  obtain ⟨_, dx, lp, hp, _⟩ := hcp
  refine s_retL (xs := (telW c gs).map vS) ?_ fun p H3 hp3 e3 h3 => q p H3 (fresh_back (e1.trans e2) hp3) ((e1.trans e2).trans e3) h3
  unfold telW
  rw [List.map_append]
  refine el_catN ?_ (el_lst (by tm_at "ea") (Nat.le_of_ble_eq_true rfl)) (by rw [List.length_map, List.length_map]; show _ + 1 ≤ _; omega)
  have := el_lcY (te := tMeth (He.ga K "Code") "word" (sp_Code_word K) [] C8.E0 (tVar 2) (tCons (tVar 3) tNil)) (j := 3) (vs := [3]) (fun i => vS (wordOf c (gs.getD i 0))) (ei_n (ei_list (K := K) (σ := [some (.ref bp), some (.ref gp), some (.ref cp), none]) (tl := tVar 1) (ev_var rfl) hg2) fun _ _ e => ex_l e) (by rw [iN_len]; omega) (fun _ => rfl) fun i hi => by
    rw [iN_len] at hi
    rw [iN_getD hi]
    have v3 := v_Code_word hc (grp_lt bok hgr _ (getD_mem hi))
    exact ev_meth (vs := [.int ((gs.getD i 0 : Nat) : Int)]) (ev_var rfl) hp rfl (by tm_at "ea") v3
  rw [iN_len, map_range_getD gs 0 (fun g => vS (wordOf c g))] at this
  rw [List.map_map]
  exact this
end
end Cb
/-! K17: readings. -/
namespace Cb
open PySem PySem.Spec PyProof.Rows L2 Evl
open C8 (Cal Met Mak pe_c pe_mk pe_mt pe_mt0 pe_gc)

local macro_rules | `(tactic| tm_at "side") => `(tactic| (first | assumption | omega | ((try simp only [List.length_append, List.length_cons, List.length_nil, List.length_map, List.length_range]); omega) | exact ⟨by omega, by omega⟩ | exact .inl ⟨by omega, by omega⟩ | exact .inr ⟨by omega, by omega⟩ | decide))
local macro_rules | `(tactic| tm_at "rv") => `(tactic| (first
  | exact rv_I0
  | exact rv_mod (by tm_at "side")
  | exact rv_I (by tm_at "side")
  | exact rv_eq rfl
  | exact rv_ne rfl
  | exact rv_addS (by tm_at "side")
  | exact rv_ixSS (by tm_at "side") (by assumption)
  | exact rv_ixL (by assumption) (by assumption)
  | exact rv_ixT (by assumption) (by assumption)
  | exact rv_inS
  | exact rv_isN
  | exact rv_notN
  | assumption))
local macro_rules | `(tactic| tm_at "eo") => `(tactic| (first | exact eo_none | (apply eo_some; tm_at "ev")))
local macro_rules | `(tactic| tm_at "ea") => `(tactic| (first | exact ea_nil | (apply ea_cons; (tm_at "ev"); (tm_at "ea"))))
local macro_rules | `(tactic| tm_at "sp") => `(tactic| assumption)
local macro_rules | `(tactic| tm_at "ev") => `(tactic| (first
  | exact ev_c
  | exact ev_var rfl
  | assumption
  | (apply ev_op; (tm_at "ev"); (tm_at "ev"); (tm_at "rv"))
  | (apply ev_un (hr := ru_neg); tm_at "ev")
  | (apply ev_fld; (tm_at "ev"); assumption; assumption; assumption; rfl)
  | (apply ev_lenStr; (tm_at "ev"); (tm_at "side"))
  | (apply ev_lenDT; (tm_at "ev"); assumption)
  | (apply ev_len; (tm_at "ev"); assumption)
  | (apply ev_lenT; (tm_at "ev"); assumption)
  | (apply ev_slS; (tm_at "ev"); (tm_at "eo"); (tm_at "eo"); (tm_at "side"))
  | (apply ev_call; (tm_at "ea"); (tm_at "sp"))
  | (apply ev_meth; (tm_at "ev"); assumption; rfl; (tm_at "ea"); (tm_at "sp"))
  | (apply ev_isStr; tm_at "ev")
  | (apply ev_isInt; tm_at "ev")
  | (apply ev_isBoolI; tm_at "ev")
  | (apply ev_isList; (tm_at "ev"); assumption)
  | (apply ev_isTuple; (tm_at "ev"); assumption)
  | (apply ev_abs; tm_at "ev")
  | (apply ev_int1; tm_at "ev")
  | (apply ev_max2; (tm_at "ev"); (tm_at "ev"))
  | (apply ev_sindex; (tm_at "ev"); (tm_at "ev"); assumption)
  | (apply ev_dinK; (tm_at "ev"); (tm_at "ev"); assumption)
  | (apply ev_dinT; (tm_at "ev"); (tm_at "ev"); assumption; assumption)
  | (apply ev_chain; (tm_at "ev"); (tm_at "ev"); (tm_at "rv"); (intro _; tm_at "ev"); (intro _; tm_at "rv"))
  | (apply ev_andV; (tm_at "ev"); (intro _; tm_at "ev"))
  | (apply ev_orV; (tm_at "ev"); (intro _; tm_at "ev"))
  | (apply ev_notV; tm_at "ev")))
local macro_rules | `(tactic| tm_at "et") => `(tactic| (first
  | assumption
  | (apply et_test; tm_at "ev")
  | (apply et_B; tm_at "ev")
  | (apply et_not; tm_at "et")
  | (apply et_and; (tm_at "et"); (intro _; tm_at "et"))
  | (apply et_or; (tm_at "et"); (intro _; tm_at "et"))))
/-- tests by sums -/
local macro_rules | `(tactic| tm_at "bf") => `(tactic| (simp only [Bool.not_true, Bool.not_false, Bool.false_or, Bool.true_and, Bool.and_true, Bool.or_false, Bool.or_eq_false_iff, Bool.and_eq_true, decide_eq_false_iff_not, decide_eq_true_eq, Bool.not_eq_false', Bool.not_eq_true']; omega))

section
variable {P : Program} {w : World} {K : PySem.W.Frag} {mg : Str → Option Value} {base : Heap} {H : Hp}
def sp_is_word_of (K : PySem.W.Frag) : Sp := fun vs H Q _ => ∃ (cp : Addr) (c : Cd) (x : W), vs = [.ref cp, .str (S x)] ∧ CodeAt K H cp c ∧ IsWord c x ∧ RetV (.bl true) H Q
theorem v_is_word_of {cp : Addr} {c : Cd} {x : W} (h1 : CodeAt K H cp c) (h2 : IsWord c x) : SpV (sp_is_word_of K) [.ref cp, .str (S x)] H (.bl true) := fun H1 e Q q E => ⟨cp, c, x, rfl, h1.ex e, h2, q⟩
theorem c_is_word_of (T : Tx K mg) : Cal P w K mg base 2 "is_word_of" (sp_is_word_of K) [] := by
  refine cal_of T.d_is_word_of T.a_is_word_of sc_is_word_of (fun _ _ _ _ _ _ us hl => match us, hl with | [_, _], _ => rfl) (fun vs H Q E h => by (repeat (obtain ⟨_, h⟩ := h)); subst_vars; rfl) fun f cdv A outer s H vs Q E hr h => ?_
  obtain ⟨cp, c, x, rfl, hc, hx, q⟩ := h
  have ok := hc.1
  have := ok.n5
  have hxl : x.length = c.ws.length := hx.1
  refine ⟨_, (pss_cons (ps_if (PW.pt (pw_or (pt_not (pt_val (pe_callB call_isi rfl T.f_isinstance bt_isinstance (pa_cons (pv 1) (pa_cons (pe_bltn (v := .ty "str") rfl T.f_str bt_str rfl) pa_nil))))) (pw_or1 (pt_cmpR op_ne (pe_callB call_len_str rfl T.f_len bt_len (pa_cons (pv 1) pa_nil)) (pe_callB call_len_seq rfl T.f_len bt_len (pa_cons (pe_mt0 (m_Code_weights T) hr (by decide) (pv 0)) pa_nil)) (nomark _)))))
    (pss_one (ps_ret pe_bl))
    pss_nil)
  (pss_cons (ps_set (i := 2) sc_is_word_of.nd rfl (Or.inr rfl) (pe_mt0 (m_Code_alphabet T) hr (by decide) (pv 0)))
  (pss_one (ps_ret (pe_callB (cr_all rfl) rfl T.f_all bt_all (pa_cons (pe_lc (own := [("letter", 3)]) (g := gName 3) (tt := tYes) rfl sc_is_word_of.nd (pi_str (pv 1)) (blkOk_by (N := nm_is_word_of) (sc := defScope s_is_word_of) (by decide +kernel)) (fun _ _ _ _ _ => (pg_name (i := 3) sc_is_word_of.nd rfl (Or.inl rfl))) (fun _ _ _ _ _ => pts_nil) (fun _ _ _ _ _ => (pe_cmpR op_in_sign (pv 3) (pv 2) rfl))) pa_nil)))))), ?_⟩
  have v1 := l_Code_weights hc
  have hcp := hc
  obtain ⟨_, dx, lp, hp, _⟩ := hcp
  refine q_skip (et_is (et_or (et_not (et_B (by tm_at "ev"))) fun _ => et_test (ev_op (ev_lenStr (l := x) (ev_var rfl) (by omega)) (ev_lenN (el_meth (vs := []) (ev_var rfl) hp rfl ea_nil v1)) (rv_ne rfl))) ?_) fun H1 e1 => ?_
  · rw [List.length_map, hxl, decide_eq_true rfl]
    rfl
  have v2 := v_Code_alphabet (hc.ex e1)
  have hp1 := e1 _ _ hp
  refine q_asg (by tm_at "ev") fun H2 e2 => ?_
  refine s_ret (ev_allN (ei_n (ei_str (ev_var rfl)) (fun _ _ _ h => h)) (by omega) (fun _ => rfl) fun i hi => ev_is (ev_op (ev_var rfl) (ev_var rfl) rv_inS) (by rw [decide_eq_true (hx.2 _ (getD_mem hi))])) fun H3 e3 => ?_
  exact q H3 ((e1.trans e2).trans e3)
def sp_look_at_words (K : PySem.W.Frag) : Sp := fun vs H Q _ => ∃ (cp wp : Addr) (c : Cd) (ws : List W), vs = [.ref cp, .ref wp] ∧ CodeAt K H cp c ∧ SqL K H wp (ws.map vS) ∧ 2 ≤ ws.length ∧ ws.length ≤ 1400 ∧ (∀ x ∈ ws, IsWord c x) ∧ RetV .non H Q
theorem v_look_at_words {cp wp : Addr} {c : Cd} {ws : List W} (h1 : CodeAt K H cp c) (h2 : SqL K H wp (ws.map vS)) (h3 : 2 ≤ ws.length) (h4 : ws.length ≤ 1400) (h5 : ∀ x ∈ ws, IsWord c x) : SpV (sp_look_at_words K) [.ref cp, .ref wp] H .non := fun H1 e Q q E => ⟨cp, wp, c, ws, rfl, h1.ex e, ex_l e h2, h3, h4, h5, q⟩
theorem c_look_at_words (T : Tx K mg) : Cal P w K mg base 3 "look_at_words" (sp_look_at_words K) [] := by
  refine cal_of T.d_look_at_words T.a_look_at_words sc_look_at_words (fun _ _ _ _ _ _ us hl => match us, hl with | [_, _], _ => rfl) (fun vs H Q E h => by (repeat (obtain ⟨_, h⟩ := h)); subst_vars; rfl) fun f cdv A outer s H vs Q E hr h => ?_
  obtain ⟨cp, wp, c, ws, rfl, hc, hw, h2, h14, hws, q⟩ := h
  refine ⟨_, (pss_cons (ps_if (PW.pt (pw_or (pt_not (pt_val (pe_callB call_isi rfl T.f_isinstance bt_isinstance (pa_cons (pv 1) (pa_cons (pe_bltn (v := .ty "list") rfl T.f_list bt_list rfl) pa_nil))))) (pw_or (pt_cmpR op_lt (pe_callB call_len_seq rfl T.f_len bt_len (pa_cons (pv 1) pa_nil)) pe_int (nomark _)) (pw_or1 (pt_cmpR op_gt (pe_callB call_len_seq rfl T.f_len bt_len (pa_cons (pv 1) pa_nil)) (pe_gc rfl T.g_MOST_telegrams) (nomark _))))))
    (pss_one ps_never)
    pss_nil)
  (pss_one (ps_for PassesOwn.never rfl (pi_list (pv 1)) (pg_name (i := 2) sc_look_at_words.nd rfl (Or.inl rfl))
    (pss_one (ps_if (pt_not (pt_val (pe_c (c_is_word_of T) hr (by decide) rfl (pa_cons (pv 0) (pa_cons (pv 2) pa_nil)))))
    (pss_one ps_never)
    pss_nil))))), ?_⟩
  refine q_skip (et_is (by tm_at "et") (by rw [List.length_map]; tm_at "bf")) fun H1 e1 => ?_
  have hw1 := ex_l e1 hw
  refine s_forN (ei_list (ev_var rfl) hw1) (fun i σ' H' => ∃ x, σ' = [some (.ref cp), some (.ref wp), x] ∧ Ex H H') (fun H2 e2 _ => ⟨none, rfl, e1.trans e2⟩) (fun i σ' H' _ hP => by obtain ⟨x, rfl, e⟩ := hP; exact ex_l e hw) (fun i σ' H' hi hP H2 e2 => ?_) (fun σ' H' hP => ?_)
  · obtain ⟨x, rfl, e⟩ := hP
    rw [List.length_map] at hi
    rw [getD_map (d := []) hi]
    have v1 := v_is_word_of (hc.ex (e.trans e2)) (hws _ (getD_memW hi))
    refine s_skip (et_is (by tm_at "et") (by rfl)) fun H3 e3 => ?_
    exact ⟨_, rfl, (e.trans e2).trans e3⟩
  · obtain ⟨x, rfl, e⟩ := hP
    exact q H' e
def sp_is_group (K : PySem.W.Frag) : Sp := fun vs H Q _ => ∃ (p : Addr) (c : Cd) (b : Bk) (x : W), vs = [.ref p, .str (S x)] ∧ BookAt K H p c b ∧ IsWord c x ∧ goodB c x = true ∧ (entOf b (numOf c x)).isSome = true ∧ RetV (.bl true) H Q
theorem v_is_group {p : Addr} {c : Cd} {b : Bk} {x : W} (h : BookAt K H p c b) (hx : IsWord c x) (hg : goodB c x = true) (he : (entOf b (numOf c x)).isSome = true) : SpV (sp_is_group K) [.ref p, .str (S x)] H (.bl true) := fun H1 e Q q E => ⟨p, c, b, x, rfl, h.ex e, hx, hg, he, q⟩
theorem c_is_group (T : Tx K mg) : Cal P w K mg base 5 "is_group" (sp_is_group K) [] := by
  refine cal_of T.d_is_group T.a_is_group sc_is_group (fun _ _ _ _ _ _ us hl => match us, hl with | [_, _], _ => rfl) (fun vs H Q E h => by (repeat (obtain ⟨_, h⟩ := h)); subst_vars; rfl) fun f cdv A outer s H vs Q E hr h => ?_
  obtain ⟨p, c, b, x, rfl, hb, hx, hg, hent, q⟩ := h
  refine ⟨_, (pss_cons (ps_set (i := 2) sc_is_group.nd rfl (Or.inl rfl) (pe_mt0 (m_Book_code T) hr (by decide) (pv 0)))
  (pss_one (ps_ret (pe_and (pe_mt (m_Code_has_good T) hr (by decide) (pv 2) (pa_cons (pv 1) pa_nil)) (pe_one (pe_cmpR op_notN (pe_mt (m_Book_entry T) hr (by decide) (pv 0) (pa_cons (pe_mt (m_Code_number T) hr (by decide) (pv 2) (pa_cons (pv 1) pa_nil)) pa_nil)) pe_non (nomark _))))))), ?_⟩
  refine q_asgR (evr_code (ev_var rfl) hb) fun v H1 e1 r => ?_
  obtain ⟨cp, rfl, hc⟩ := r
  have v1 := v_Code_has_good hc hx
  rw [hg] at v1
  have v2 := v_Code_number hc hx hg
  have hcp := hc
  obtain ⟨_, dxc, lpc, hcp, _⟩ := hcp
  have hb2 := hb.ex e1
  have hb2' := hb2
  obtain ⟨_, dx, cp2, dn, de, r, hp2, _⟩ := hb2'
  refine s_ret (ev_andV (a := true) (b := (entOf b (numOf c x)).isSome) (by tm_at "ev") fun _ => ev_opR (evr_meth (vs := [.int (numOf c x)]) (ev_var rfl) hp2 rfl (by tm_at "ea") (r_Book_entry (n := numOf c x) hb2)) (fun _ _ => ev_c) fun y Ha Hb hr _ => rv_entN hr) fun H3 e3 => ?_
  have := q H3 (e1.trans e3)
  rw [hent]
  exact this
def sp_doubtful (K : PySem.W.Frag) : Sp := fun vs H Q _ => ∃ (bp wp : Addr) (c : Cd) (b : Bk) (ws : List W), vs = [.ref bp, .ref wp] ∧ BookAt K H bp c b ∧ SqL K H wp (ws.map vS) ∧ 2 ≤ ws.length ∧ ws.length ≤ 1400 ∧ Kept c b ws ∧ RetL [] H Q
theorem l_doubtful {bp wp : Addr} {c : Cd} {b : Bk} {ws : List W} (h1 : BookAt K H bp c b) (h2 : SqL K H wp (ws.map vS)) (h3 : 2 ≤ ws.length) (h4 : ws.length ≤ 1400) (h5 : Kept c b ws) : SpL (sp_doubtful K) [.ref bp, .ref wp] H [] := fun H1 e Q q E => ⟨bp, wp, c, b, ws, rfl, h1.ex e, ex_l e h2, h3, h4, h5, fun p H2 x y z => q p H2 x y z⟩
theorem el_is {σ : L2.St} {te : TE} {xs ys : List V} (h : EvL te σ H xs) (e : xs = ys) : EvL te σ H ys := e ▸ h
theorem given_false (n : Nat) (u : Nat → V) : given n (fun _ => false) u = [] := by
  unfold given
  rw [List.filter_eq_nil_iff.mpr (fun _ _ => by decide)]
  rfl
theorem c_doubtful (T : Tx K mg) : Cal P w K mg base 6 "doubtful" (sp_doubtful K) [] := by
  refine cal_of T.d_doubtful T.a_doubtful sc_doubtful (fun _ _ _ _ _ _ us hl => match us, hl with | [_, _], _ => rfl) (fun vs H Q E h => by (repeat (obtain ⟨_, h⟩ := h)); subst_vars; rfl) fun f cdv A outer s H vs Q E hr h => ?_
  obtain ⟨bp, wp, c, b, ws, rfl, hb, hw, h2, h14, hk, q⟩ := h
  refine ⟨_, (pss_cons (ps_set (i := 2) sc_doubtful.nd rfl (Or.inl rfl) (pe_mt0 (m_Book_code T) hr (by decide) (pv 0)))
  (pss_cons (ps_expr (pe_c (c_look_at_words T) hr (by decide) rfl (pa_cons (pv 2) (pa_cons (pv 1) pa_nil))))
  (pss_cons (ps_setLc (i := 3) (own := [("k", 4), ("word", 5)]) (g := gTup K 2 (gCons (gName 4) (gCons (gName 5) gNil))) rfl sc_doubtful.nd rfl rfl (sw_true rfl rfl rfl (by decide +kernel)) (pi_enum rfl T.f_enumerate (pa_cons (pe_slice sl_list (pv 1) po_none (po_some (pe_un un_neg pe_int))) pa_nil)) (blkOk_by (N := nm_doubtful) (sc := defScope s_doubtful) (by decide +kernel)) (fun _ _ _ _ _ => (pg_tup rfl (pgs_cons (pg_name (i := 4) sc_doubtful.nd rfl (Or.inl rfl)) (pgs_cons (pg_name (i := 5) sc_doubtful.nd rfl (Or.inl rfl)) pgs_nil)))) (fun _ _ _ _ _ => pts_one (pt_not (pt_val (pe_c (c_is_group T) hr (by decide) rfl (pa_cons (pv 0) (pa_cons (pv 5) pa_nil)))))) (fun _ _ _ _ _ => (pv 4)))
  (pss_cons (ps_if (pt_not (pt_val (pe_mt (m_Code_has_good T) hr (by decide) (pv 2) (pa_cons (pe_ix ix_list (pv 1) (pe_un un_neg pe_int) (fun _ _ => rfl)) pa_nil))))
    (pss_one (ps_expr (pe_bm PySem.F.plainAttrs_list PySem.F.slot_list_append PySem.F.type_list_append mt_append (pv 3) (pa_cons (pe_op op_sub (pe_callB call_len_seq rfl T.f_len bt_len (pa_cons (pv 1) pa_nil)) pe_int) pa_nil))))
    pss_nil)
  (pss_one (ps_ret (pv 3))))))), ?_⟩
  refine q_asgR (evr_code (ev_var rfl) hb) fun v H1 e1 r => ?_
  obtain ⟨cp, rfl, hc⟩ := r
  have v1 := v_look_at_words hc (ex_l e1 hw) h2 h14 (fun x hx => (hk.word x hx).1)
  refine q_drop (by tm_at "ev") fun H2 e2 => ?_
  have e02 := e1.trans e2
  have hw2 := ex_l e02 hw
  have hsl : EvL (tSl (rSlL K) (tVar 1) tNoPart (tPart (tUn (rU fun i => .int (-i)) (tC (.int 1))))) [some (.ref bp), some (.ref wp), some (.ref cp), none, none, none] H2 (ws.dropLast.map vS) := by
    have := el_sl (σ := [some (.ref bp), some (.ref wp), some (.ref cp), none, none, none]) (te := tVar 1) (tl := tNoPart) (th := tPart (tUn (rU fun i => .int (-i)) (tC (.int 1)))) (ev_var rfl) eo_none (eo_some (i := -1) (ev_un (hr := ru_neg) ev_c)) hw2
    rw [cutV_map, cutG_last] at this
    exact this
  refine q_asgL (xs := []) ?_ fun fl H3 hn3 e3 h3 => ?_
  · refine el_is (el_lcPN (K := K) (fun _ => false) (fun i => V.int (i : Int)) (epn_enum hsl) (by rw [List.length_map, List.length_dropLast]; omega) (fun _ _ => rfl) (fun i hi => ?_) (fun i hi z => by cases z)) (given_false _ _)
    rw [List.length_map, List.length_dropLast] at hi
    have e0 : (ws.dropLast.map vS).getD i .non = vS (ws.getD i []) := by
      rw [getD_map (d := []) (by rw [List.length_dropLast]; omega), List.getD_eq_getElem?_getD, List.getElem?_dropLast, if_pos hi, List.getD_eq_getElem?_getD]
    rw [e0]
    have hx := hk.word _ (getD_memW (ws := ws) (i := i) (by omega))
    have v2 := v_is_group (hb.ex e02) hx.1 hx.2 (hk.ent i (by omega))
    exact et_is (a := !true) (by tm_at "et") rfl
  · obtain ⟨x, hxl⟩ : ∃ x, ws.getLast? = some x := by
      cases hg : ws.getLast? with
      | none =>
        have := List.getLast?_eq_none_iff.mp hg
        rw [this] at h2
        exact absurd h2 (by decide)
      | some x => exact ⟨x, rfl⟩
    have a1 : atI (ws.map vS) (-1) = some (vS x) := atI_m1 (by rw [getLast_map, hxl]; rfl)
    have hx := hk.word x (List.mem_of_getLast? hxl)
    have hc3 := hc.ex (e2.trans e3)
    have v3 := v_Code_has_good hc3 hx.1
    rw [hx.2] at v3
    obtain ⟨_, dxc, lpc, hcp, _⟩ := hc3
    have hw3 := ex_l e3 hw2
    refine q_skip (et_is (by tm_at "et") (by rfl)) fun H4 e4 => ?_
    refine s_ret (ev_var rfl) fun H5 e5 => ?_
    exact q fl H5 (fresh_back e02 hn3) ((e02.trans e3).trans (e4.trans e5)) ((e4.trans e5) _ _ h3)
def sp_read_as (K : PySem.W.Frag) : Sp := fun vs H Q _ => ∃ (bp np : Addr) (c : Cd) (b : Bk) (gs : List Nat) (es : List Ent) (us : List W), vs = [.ref bp, .ref np] ∧ BookAt K H bp c b ∧ SqL K H np (iN (gs ++ [chk c gs])) ∧ Grp b gs es ∧ gs.length ≤ 10000 ∧ Says ([], none) es (us, none) ∧ us ≠ [] ∧ us.length ≤ 60 ∧ (∀ x ∈ us, WordOk x) ∧ RetV (.str (S (joinW us))) H Q
theorem v_read_as {bp gp : Addr} {c : Cd} {b : Bk} {gs : List Nat} {es : List Ent} {us : List W} (h1 : BookAt K H bp c b) (h2 : SqL K H gp (iN (gs ++ [chk c gs]))) (h3 : Grp b gs es) (h4 : gs.length ≤ 10000) (h5 : Says ([], none) es (us, none)) (h6 : us ≠ []) (h7 : us.length ≤ 60) (h8 : ∀ x ∈ us, WordOk x) : SpV (sp_read_as K) [.ref bp, .ref gp] H (.str (S (joinW us))) :=
  fun H1 e Q q E => ⟨bp, gp, c, b, gs, es, us, rfl, h1.ex e, ex_l e h2, h3, h4, h5, h6, h7, h8, q⟩
theorem c_read_as (T : Tx K mg) : Cal P w K mg base 4 "read_as" (sp_read_as K) [] := by
  refine cal_of T.d_read_as T.a_read_as sc_read_as (fun _ _ _ _ _ _ us hl => match us, hl with | [_, _], _ => rfl) (fun vs H Q E h => by (repeat (obtain ⟨_, h⟩ := h)); subst_vars; rfl) fun f cdv A outer s H vs Q E hr h => ?_
  obtain ⟨bp, np, c, b, gs, es, us, rfl, hb, hg, hgr, hgl, hsay, hne, hul, hwo, q⟩ := h
  refine ⟨_, (pss_cons (ps_set (i := 2) sc_read_as.nd rfl (Or.inl rfl) (pe_slice sl_list (pv 1) po_none (po_some (pe_un un_neg pe_int))))
  (pss_cons (ps_if (pt_cmpR op_ne (pe_op op_mod (pe_op op_sub (pe_op op_add (pe_callB (cr_sum rfl) rfl T.f_sum bt_sum (pa_cons (pv 2) pa_nil)) (pe_callB call_len_seq rfl T.f_len bt_len (pa_cons (pv 2) pa_nil))) (pe_ix ix_list (pv 1) (pe_un un_neg pe_int) (fun _ _ => rfl))) (pe_mt0 (m_Code_many T) hr (by decide) (pe_mt0 (m_Book_code T) hr (by decide) (pv 0)))) pe_int (nomark _))
    (pss_one (ps_ret pe_non))
    pss_nil)
  (pss_one (ps_try_thru0 (pss_one (ps_ret (pe_c (c_said T) hr (by decide) rfl (pa_cons (pv 0) (pa_cons (pv 2) pa_nil))))))))), ?_⟩
  refine q_asgL (xs := iN gs) ?_ fun gp H1 hn1 e1 h1 => ?_
  · have := el_sl (σ := [some (.ref bp), some (.ref np), none]) (te := tVar 1) (tl := tNoPart) (th := tPart (tUn (rU fun i => .int (-i)) (tC (.int 1)))) (ev_var rfl) eo_none (eo_some (i := -1) (ev_un (hr := ru_neg) ev_c)) hg
    rw [cutV_map, cutG_last, List.map_append, List.map_cons, List.map_nil, List.dropLast_concat] at this
    exact this
  · have h1s := sq_of (K := K) h1
    have hg1 := ex_l e1 hg
    have hs := ev_sumK (K := K) (σ := [some (.ref bp), some (.ref np), some (.ref gp)]) (tl := tVar 2) (ev_var rfl) h1s
    rw [sum_iN] at hs
    have hlen : Ev (tCB (rLenS K) (tCons (tVar 2) tNil)) [some (.ref bp), some (.ref np), some (.ref gp)] H1 (.int (gs.length : Nat)) := ev_is (ev_len (ev_var rfl) h1s) (by rw [iN_len])
    have a1 : atI (iN (gs ++ [chk c gs])) (-1) = some (.int (chk c gs : Nat)) := atI_m1 (by rw [← iN_snoc, List.getLast?_append]; rfl)
    have hb1 := hb.ex e1
    have okc : CdOk c := by
      obtain ⟨_, dx, cp, dn, de, r, _, h2, _⟩ := hb
      exact h2.1
    have hm := manyN_ge okc
    have hmany : Ev (tMeth (He.ga K "Code") "many" (sp_Code_many K) [] C8.E0 (tMeth (He.ga K "Book") "code" (sp_Book_code K) [] C8.E0 (tVar 0) tNil) tNil) [some (.ref bp), some (.ref np), some (.ref gp)] H1 (.int (manyN c : Nat)) := ev_methR (vs := []) (evr_code (ev_var rfl) hb1) fun y H2 e2 r => by
      obtain ⟨cp, rfl, hc⟩ := r
      have v1 := v_Code_many hc
      obtain ⟨_, dx, lp, hp, _⟩ := hc
      exact ⟨cp, dx, _, rfl, hp, rfl, ea_nil, v1⟩
    refine q_skip (et_is (et_test (ev_op (ev_op (ev_op (ev_op hs hlen rv_I0) (ev_op (ev_var rfl) (ev_un (hr := ru_neg) ev_c) (rv_ixL hg1 a1)) rv_I0) hmany (rv_mod (by omega))) ev_c (rv_ne rfl))) ?_) fun H2 e2 => ?_
    · rw [vint_eq]
      have : (((gs.sum : Nat) : Int) + (gs.length : Nat) - (chk c gs : Nat)) % ((manyN c : Nat) : Int) = 0 := by
        have h1 : ((chk c gs : Nat) : Int) = (((gs.sum : Nat) : Int) + (gs.length : Nat)) % ((manyN c : Nat) : Int) := rfl
        have h2 := Int.emod_add_mul_ediv (((gs.sum : Nat) : Int) + (gs.length : Nat)) ((manyN c : Nat) : Int)
        rw [h1, show ((gs.sum : Nat) : Int) + (gs.length : Nat) - (((gs.sum : Nat) : Int) + (gs.length : Nat)) % ((manyN c : Nat) : Int) = ((manyN c : Nat) : Int) * ((((gs.sum : Nat) : Int) + (gs.length : Nat)) / ((manyN c : Nat) : Int)) by omega]
        exact Int.mul_emod_right _ _
      rw [this]
      rfl
    · have v1 := v_said (hb1.ex e2) (ex_l e2 h1s) hgr hgl hsay hne hul hwo
      refine s_ret (by tm_at "ev") fun H3 e3 => ?_
      exact q H3 ((e1.trans e2).trans e3)
def sp_lengthened (K : PySem.W.Frag) : Sp := fun vs H Q _ => ∃ (rp sp r0 : Addr) (xs : List V) (x : V), vs = [.ref rp, .ref sp] ∧ H rp = some (.lst [.ref r0]) ∧ H r0 = some (.lst xs) ∧ H sp = some (.lst [x]) ∧ xs.length ≤ 10000 ∧ RetR (fun v H' => ∃ p r, v = .ref p ∧ H' p = some (.lst [.ref r]) ∧ H' r = some (.lst (xs ++ [x]))) H Q
theorem r_lengthened {rp sp r0 : Addr} {xs : List V} {x : V} (h1 : H rp = some (.lst [.ref r0])) (h2 : H r0 = some (.lst xs)) (h3 : H sp = some (.lst [x])) (h4 : xs.length ≤ 10000) : SpR (sp_lengthened K) [.ref rp, .ref sp] H (fun v H' => ∃ p r, v = .ref p ∧ H' p = some (.lst [.ref r]) ∧ H' r = some (.lst (xs ++ [x]))) :=
  fun H1 e Q q E => ⟨rp, sp, r0, xs, x, rfl, e _ _ h1, e _ _ h2, e _ _ h3, h4, q⟩
theorem c_lengthened (T : Tx K mg) : Cal P w K mg base 1 "lengthened" (sp_lengthened K) [] := by
  refine cal_of T.d_lengthened T.a_lengthened sc_lengthened (fun _ _ _ _ _ _ us hl => match us, hl with | [_, _], _ => rfl) (fun vs H Q E h => by (repeat (obtain ⟨_, h⟩ := h)); subst_vars; rfl) fun f cdv A outer s H vs Q E hr h => ?_
  obtain ⟨rp, sp, r0, xs, x, rfl, hr0, hxs, hsp, hl, q⟩ := h
  refine ⟨_, (pss_cons (ps_set (i := 2) sc_lengthened.nd rfl (Or.inl rfl) (pe_lst pa_nil))
  (pss_cons (ps_for PassesOwn.never rfl (pi_list (pv 0)) (pg_name (i := 3) sc_lengthened.nd rfl (Or.inr rfl))
    (pss_one (ps_expr (pe_bm PySem.F.plainAttrs_list PySem.F.slot_list_extend PySem.F.type_list_extend mt_extend (pv 2) (pa_cons (pe_lc (own := [("number", 4)]) (g := gName 4) (tt := tYes) rfl sc_lengthened.nd (pi_list (pv 1)) (blkOk_by (N := nm_lengthened) (sc := defScope s_lengthened) (by decide +kernel)) (fun _ _ _ _ _ => (pg_name (i := 4) sc_lengthened.nd rfl (Or.inl rfl))) (fun _ _ _ _ _ => pts_nil) (fun _ _ _ _ _ => (pe_op op_cat (pv 3) (pe_lst (pa_cons (pv 4) pa_nil))))) pa_nil)))))
  (pss_one (ps_ret (pv 2))))), ?_⟩
  refine q_asgL (xs := []) (el_lst ea_nil (by decide)) fun fl H1 hn1 e1 h1 => ?_
  refine q_forN (ei_list (ev_var rfl) (sq_of (e1 _ _ hr0))) (fun i σ' H' => ∃ x3 x4, σ' = [some (.ref rp), some (.ref sp), some (.ref fl), x3, x4] ∧ Ex H H' ∧ ((i = 0 ∧ H' fl = some (.lst [])) ∨ (i = 1 ∧ ∃ r, H' fl = some (.lst [.ref r]) ∧ H' r = some (.lst (xs ++ [x])))))
    (fun H2 e2 _ => ⟨none, none, rfl, e1.trans e2, .inl ⟨rfl, e2 _ _ h1⟩⟩) (fun i σ' H' _ hP => by obtain ⟨x3, x4, rfl, e, _⟩ := hP; exact sq_of (e _ _ hr0)) (fun i σ' H' hi hP H2 e2 => ?_) (fun σ' H' hP => ?_)
  · obtain ⟨x3, x4, rfl, e, hc⟩ := hP
    have hi0 : i = 0 := by
      simp at hi
      exact hi
    subst hi0
    rcases hc with ⟨_, hf⟩ | ⟨z, _⟩
    · have e02 := e.trans e2
      have hxs2 := e02 _ _ hxs
      have hsp2 := e02 _ _ hsp
      refine s_extR (e2 _ _ hf) (ev_var rfl) (er_lcL (fun _ => xs ++ [x]) (ei_n (ei_list (K := K) (ev_var rfl) (sq_of hsp2)) fun _ _ e => ex_l e) (Nat.le_of_ble_eq_true rfl) (fun _ => rfl) fun i hi => ?_) fun v H3 e3 r => ?_
      · have hi0 : i = 0 := by
          simp at hi
          exact hi
        subst hi0
        exact el_cat (ev_var rfl) hxs2 (el_lst (ea_cons (ev_var rfl) ea_nil) (Nat.le_of_ble_eq_true rfl)) (by show _ + 1 ≤ _; omega)
      · obtain ⟨p, rs, rfl, hpn, hp, hrl, hrs⟩ := r
        match rs, hrl with
        | [r], _ =>
          obtain ⟨a1, a2, a3⟩ := hrs 0 r rfl
          have nf : r ≠ fl := (ne_of_none (e2 _ _ hf) a2).symm
          refine ⟨p, [.ref r], rfl, hp, Nat.le_of_ble_eq_true rfl, some (.ref r0), x4, rfl, Ex.mut (e02.trans e3) hn1, .inr ⟨rfl, r, upd_same, ?_⟩⟩
          rw [upd_ne nf]
          exact a3
    · exact absurd z (by decide)
  · obtain ⟨x3, x4, rfl, e, hc⟩ := hP
    rcases hc with ⟨z, _⟩ | ⟨_, r, hf, hr⟩
    · exact absurd z (by simp)
    · refine s_ret (ev_var rfl) fun H2 e2 => ?_
      exact q _ H2 (e.trans e2) ⟨fl, r, rfl, e2 _ _ hf, e2 _ _ hr⟩
end
end Cb
/-! K18: readings. -/
namespace Cb
open PySem PySem.Spec PyProof.Rows L2 Evl
open C8 (Cal Met Mak pe_c pe_mk pe_mt pe_mt0 pe_gc)

theorem telW_map (c : Cd) (gs : List Nat) : telW c gs = (gs ++ [chk c gs]).map (wordOf c) := by
  unfold telW
  rw [List.map_append]
  rfl
theorem iN_take (ns : List Nat) {i : Nat} (h : i < ns.length) : iN (ns.take i) ++ [V.int ((ns.getD i 0 : Nat) : Int)] = iN (ns.take (i + 1)) := by
  rw [iN_snoc, List.take_succ, getD_at (d := 0) h]
  rfl
local macro_rules | `(tactic| tm_at "side") => `(tactic| (first | assumption | omega | ((try simp only [List.length_append, List.length_cons, List.length_nil, List.length_map, List.length_range]); omega) | exact ⟨by omega, by omega⟩ | exact .inl ⟨by omega, by omega⟩ | exact .inr ⟨by omega, by omega⟩ | decide))
local macro_rules | `(tactic| tm_at "rv") => `(tactic| (first
  | exact rv_I0
  | exact rv_mod (by tm_at "side")
  | exact rv_I (by tm_at "side")
  | exact rv_eq rfl
  | exact rv_ne rfl
  | exact rv_addS (by tm_at "side")
  | exact rv_ixSS (by tm_at "side") (by assumption)
  | exact rv_ixL (by assumption) (by assumption)
  | exact rv_ixT (by assumption) (by assumption)
  | exact rv_inS
  | exact rv_isN
  | exact rv_notN
  | assumption))
local macro_rules | `(tactic| tm_at "eo") => `(tactic| (first | exact eo_none | (apply eo_some; tm_at "ev")))
local macro_rules | `(tactic| tm_at "ea") => `(tactic| (first | exact ea_nil | (apply ea_cons; (tm_at "ev"); (tm_at "ea"))))
local macro_rules | `(tactic| tm_at "sp") => `(tactic| assumption)
local macro_rules | `(tactic| tm_at "ev") => `(tactic| (first
  | exact ev_c
  | exact ev_var rfl
  | assumption
  | (apply ev_op; (tm_at "ev"); (tm_at "ev"); (tm_at "rv"))
  | (apply ev_un (hr := ru_neg); tm_at "ev")
  | (apply ev_fld; (tm_at "ev"); assumption; assumption; assumption; rfl)
  | (apply ev_lenStr; (tm_at "ev"); (tm_at "side"))
  | (apply ev_lenDT; (tm_at "ev"); assumption)
  | (apply ev_len; (tm_at "ev"); assumption)
  | (apply ev_lenT; (tm_at "ev"); assumption)
  | (apply ev_slS; (tm_at "ev"); (tm_at "eo"); (tm_at "eo"); (tm_at "side"))
  | (apply ev_call; (tm_at "ea"); (tm_at "sp"))
  | (apply ev_meth; (tm_at "ev"); assumption; rfl; (tm_at "ea"); (tm_at "sp"))
  | (apply ev_isStr; tm_at "ev")
  | (apply ev_isInt; tm_at "ev")
  | (apply ev_isBoolI; tm_at "ev")
  | (apply ev_isList; (tm_at "ev"); assumption)
  | (apply ev_isTuple; (tm_at "ev"); assumption)
  | (apply ev_abs; tm_at "ev")
  | (apply ev_int1; tm_at "ev")
  | (apply ev_max2; (tm_at "ev"); (tm_at "ev"))
  | (apply ev_sindex; (tm_at "ev"); (tm_at "ev"); assumption)
  | (apply ev_dinK; (tm_at "ev"); (tm_at "ev"); assumption)
  | (apply ev_dinT; (tm_at "ev"); (tm_at "ev"); assumption; assumption)
  | (apply ev_chain; (tm_at "ev"); (tm_at "ev"); (tm_at "rv"); (intro _; tm_at "ev"); (intro _; tm_at "rv"))
  | (apply ev_andV; (tm_at "ev"); (intro _; tm_at "ev"))
  | (apply ev_orV; (tm_at "ev"); (intro _; tm_at "ev"))
  | (apply ev_notV; tm_at "ev")))
local macro_rules | `(tactic| tm_at "et") => `(tactic| (first
  | assumption
  | (apply et_test; tm_at "ev")
  | (apply et_B; tm_at "ev")
  | (apply et_not; tm_at "et")
  | (apply et_and; (tm_at "et"); (intro _; tm_at "et"))
  | (apply et_or; (tm_at "et"); (intro _; tm_at "et"))))
/-- tests by sums -/
local macro_rules | `(tactic| tm_at "bf") => `(tactic| (simp only [Bool.not_true, Bool.not_false, Bool.false_or, Bool.true_and, Bool.and_true, Bool.or_false, Bool.or_eq_false_iff, Bool.and_eq_true, decide_eq_false_iff_not, decide_eq_true_eq, Bool.not_eq_false', Bool.not_eq_true']; omega))

section
variable {P : Program} {w : World} {K : PySem.W.Frag} {mg : Str → Option Value} {base : Heap} {H : Hp}
def sp_readings (K : PySem.W.Frag) : Sp := fun vs H Q _ => ∃ (bp wp : Addr) (c : Cd) (b : Bk) (gs : List Nat) (es : List Ent) (us : List W), vs = [.ref bp, .ref wp] ∧ BookAt K H bp c b ∧ SqL K H wp ((telW c gs).map vS) ∧ Grp b gs es ∧ 1 ≤ gs.length ∧ gs.length ≤ 1320 ∧ Says ([], none) es (us, none) ∧ us ≠ [] ∧ us.length ≤ 60 ∧ (∀ x ∈ us, WordOk x) ∧ RetL [vS (joinW us)] H Q
theorem c_readings (T : Tx K mg) : Cal P w K mg base 7 "readings" (sp_readings K) [] := by
  refine cal_of T.d_readings T.a_readings sc_readings (fun _ _ _ _ _ _ us hl => match us, hl with | [_, _], _ => rfl) (fun vs H Q E h => by (repeat (obtain ⟨_, h⟩ := h)); subst_vars; rfl) fun f cdv A outer s H vs Q E hr h => ?_
  obtain ⟨bp, wp, c, b, gs, es, us, rfl, hb, hw, hgr, hg1, hgl, hsay, hne, hul, hwo, q⟩ := h
  have bok : BkOk c b := hb.1
  have ok : CdOk c := by
    obtain ⟨_, dx, cp, dn, de, r, _, h2, _⟩ := hb
    exact h2.1
  have hkept := telW_kept ok bok hgr
  refine ⟨_, (pss_cons (ps_set (i := 2) sc_readings.nd rfl (Or.inl rfl) (pe_c (c_doubtful T) hr (by decide) rfl (pa_cons (pv 0) (pa_cons (pv 1) pa_nil))))
  (pss_cons (ps_if (pt_cmpR op_gt (pe_callB call_len_seq rfl T.f_len bt_len (pa_cons (pv 2) pa_nil)) pe_int (nomark _))
    (pss_one ps_never)
    pss_nil)
  (pss_cons (ps_set (i := 3) sc_readings.nd rfl (Or.inl rfl) (pe_mt0 (m_Book_code T) hr (by decide) (pv 0)))
  (pss_cons (ps_set (i := 4) sc_readings.nd rfl (Or.inl rfl) (pe_lst (pa_cons (pe_lst pa_nil) pa_nil)))
  (pss_cons (ps_for PassesOwn.never rfl (pi_enum rfl T.f_enumerate (pa_cons (pv 1) pa_nil)) (pg_tup rfl (pgs_cons (pg_name (i := 5) sc_readings.nd rfl (Or.inl rfl)) (pgs_cons (pg_name (i := 6) sc_readings.nd rfl (Or.inl rfl)) pgs_nil)))
    (pss_cons (ps_set (i := 7) sc_readings.nd rfl (Or.inl rfl) (pe_lst pa_nil))
  (pss_cons (ps_if (pt_cmpR op_in_seq (pv 5) (pv 2) rfl)
    (pss_one ps_never)
    (pss_one (ps_expr (pe_bm PySem.F.plainAttrs_list PySem.F.slot_list_append PySem.F.type_list_append mt_append (pv 7) (pa_cons (pe_mt (m_Code_number T) hr (by decide) (pv 3) (pa_cons (pv 6) pa_nil)) pa_nil)))))
  (pss_one (ps_set (i := 4) sc_readings.nd rfl (Or.inl rfl) (pe_c (c_lengthened T) hr (by decide) rfl (pa_cons (pv 4) (pa_cons (pv 7) pa_nil))))))))
  (pss_cons (ps_set (i := 8) sc_readings.nd rfl (Or.inl rfl) pe_dnewK)
  (pss_cons (ps_for PassesOwn.never rfl (pi_list (pv 4)) (pg_name (i := 9) sc_readings.nd rfl (Or.inl rfl))
    (pss_cons (ps_set (i := 10) sc_readings.nd rfl (Or.inl rfl) (pe_c (c_read_as T) hr (by decide) rfl (pa_cons (pv 0) (pa_cons (pv 9) pa_nil))))
  (pss_one (ps_if (pt_cmpR op_notN (pv 10) pe_non (nomark _))
    (pss_one (ps_dput (hu_of hr) (pv 8) (pv 10) pe_bl rfl))
    pss_nil))))
  (pss_one (ps_ret (pe_callB (call_sortedD rfl) rfl T.f_sorted bt_sorted (pa_cons (pv 8) pa_nil))))))))))), ?_⟩
  have htl : (telW c gs).length = gs.length + 1 := by
    rw [telW_map, List.length_map, List.length_append]
    rfl
  generalize hns : gs ++ [chk c gs] = ns
  have hnl : ns.length = gs.length + 1 := by
    rw [← hns, List.length_append]
    rfl
  have htm : telW c gs = ns.map (wordOf c) := by rw [telW_map, hns]
  have hnlt : ∀ n ∈ ns, n < manyN c := fun n hn => by
    rw [← hns] at hn
    rcases List.mem_append.mp hn with h | h
    · exact grp_lt bok hgr n h
    · rw [List.mem_singleton.mp h]
      exact chk_lt ok gs
  refine q_asgL (el_callR (RA := fun vs _ => vs = [.ref bp, .ref wp]) (EvA.r (by tm_at "ea")) fun vs H1 e1 hr => by
    subst hr
    exact l_doubtful (hb.ex e1) (ex_l e1 hw) (by omega) (by omega) hkept) fun dl H1 hn1 e1 h1 => ?_
  have h1s := sq_of (K := K) h1
  refine q_skip (et_is (by tm_at "et") (by rfl)) fun H2 e2 => ?_
  refine q_asgR (evr_code (ev_var rfl) (hb.ex (e1.trans e2))) fun v H3 e3 r => ?_
  obtain ⟨cp, rfl, hc⟩ := r
  refine q_asgR (evr_lst (RA := fun vs H1 => ∃ p0, vs = [V.ref p0] ∧ H1 p0 = some (.lst [])) (ear_cons (EvL.r (el_lst ea_nil (by decide))) fun y H3 e3 r => by
    obtain ⟨p0, rfl, hp0⟩ := r
    exact ear_nil.imp fun vs H4 e4 hv => ⟨p0, by rw [hv], e4 _ _ hp0⟩) fun vs H1 r => by obtain ⟨p0, rfl, _⟩ := r; exact Nat.le_of_ble_eq_true rfl) fun v Hb e4 r => ?_
  obtain ⟨rp0, vs, H2', rfl, e2', hrp0', ⟨p0, rfl, hp0⟩, e23, hrp0⟩ := r
  have e0b := ((e1.trans e2).trans e3).trans e4
  have hcb := hc.ex e4
  have hdl := ((e2.trans e3).trans e4) _ _ h1
  have hbb := hb.ex e0b
  refine q_forP (ep_enum (by tm_at "ea") (ex_l e0b hw)) (fun i σ' H' => ∃ rp r0 x5 x6 x7, σ' = [some (.ref bp), some (.ref wp), some (.ref dl), some (.ref cp), some (.ref rp), x5, x6, x7, none, none, none] ∧ Ex Hb H' ∧ H' rp = some (.lst [.ref r0]) ∧ H' r0 = some (.lst (iN (ns.take i))))
    (fun H5 e5 _ => ⟨rp0, p0, none, none, none, rfl, e5, e5 _ _ hrp0, e5 _ _ (e23 _ _ hp0)⟩) (fun i σ' H' _ hP => by obtain ⟨rp, r0, x5, x6, x7, rfl, e, _⟩ := hP; exact ex_l (e0b.trans e) hw) (fun i σ' H' hi hP H5 e5 => ?_) (fun σ' H' hP => ?_)
  · obtain ⟨rp, r0, x5, x6, x7, rfl, e, hrp, hr0⟩ := hP
    rw [List.length_map, htl] at hi
    have hi2 : i < ns.length := by omega
    rw [getD_map (d := []) (by rw [htl]; exact hi)]
    have hwi : (telW c gs).getD i [] = wordOf c (ns.getD i 0) := by
      rw [htm, List.getD_eq_getElem?_getD, List.getElem?_map, getD_at (d := 0) hi2]
      rfl
    rw [hwi]
    have e05 := e.trans e5
    have hni := hnlt _ (getD_mem hi2)
    refine q_asgL (xs := []) (el_lst ea_nil (by decide)) fun sp H6 hn6 e6 h6 => ?_
    have e06 := e05.trans e6
    have hdl6 := sq_of (K := K) (e06 _ _ hdl)
    refine q_if (b := false) (et_test (ev_op (ev_var rfl) (ev_var rfl) (rv_isL hdl6 rfl rfl))) (fun z => by cases z) (fun _ H7 e7 => ?_)
    have hc7 := hcb.ex (e06.trans e7)
    have v1 := v_Code_number hc7 (wordOf_isWord ok (ns.getD i 0)) (wordOf_good ok _)
    rw [numOf_wordOf ok hni] at v1
    have hcp := hc7
    obtain ⟨_, dxc, lpc, hcp, _⟩ := hcp
    refine s_app (e7 _ _ h6) (ev_var rfl) (ev_meth (vs := [vS (wordOf c (ns.getD i 0))]) (ev_var rfl) hcp rfl (by tm_at "ea") v1) (by decide) fun H8 e8 => ?_
    have e58 := (e6.trans e7).trans e8
    have n1 : rp ≠ sp := ne_of_none (e5 _ _ hrp) hn6
    have n2 : r0 ≠ sp := ne_of_none (e5 _ _ hr0) hn6
    obtain ⟨Hm, hHm⟩ : ∃ Hm, upd H8 sp (.lst ([] ++ [V.int ((ns.getD i 0 : Nat) : Int)])) = Hm := ⟨_, rfl⟩
    have exm : Ex Hb Hm := by
      rw [← hHm]
      exact Ex.mut (e05.trans e58) (fresh_back e05 hn6)
    have g1 : Hm rp = some (.lst [.ref r0]) := by rw [← hHm, upd_ne n1]; exact (e5.trans e58) _ _ hrp
    have g2 : Hm r0 = some (.lst (iN (ns.take i))) := by rw [← hHm, upd_ne n2]; exact (e5.trans e58) _ _ hr0
    have g3 : Hm sp = some (.lst [V.int ((ns.getD i 0 : Nat) : Int)]) := by rw [← hHm, upd_same]; rfl
    have hlen : (iN (ns.take i)).length ≤ 10000 := by
      rw [iN_len, List.length_take]
      omega
    have rl := r_lengthened (K := K) g1 g2 g3 hlen
    subst hHm
    dsimp only
    refine s_asgR (evr_callA (vs := [.ref rp, .ref sp]) (by tm_at "ea") rl) fun v H9 e9 r => ?_
    obtain ⟨p, r, rfl, hp, hr⟩ := r
    rw [iN_take ns hi2] at hr
    exact ⟨p, r, _, _, _, rfl, exm.trans e9, hp, hr⟩
  · obtain ⟨rp, r0, x5, x6, x7, rfl, e, hrp, hr0⟩ := hP
    rw [List.length_map, htl, ← hnl, List.take_length] at hr0
    refine q_asgR evr_dnewK fun v H5 e5 r => ?_
    obtain ⟨dn, rfl, hn5, hdn⟩ := r
    have hrp5 := e5 _ _ hrp
    have hr05 := e5 _ _ hr0
    have e0H' := e0b.trans e
    refine q_forN (ei_list (ev_var rfl) (sq_of hrp5)) (fun i σ' H'' => ∃ x9 x10, σ' = [some (.ref bp), some (.ref wp), some (.ref dl), some (.ref cp), some (.ref rp), x5, x6, x7, some (.ref dn), x9, x10] ∧ Ex H' H'' ∧ ((i = 0 ∧ H'' dn = some (.dK [])) ∨ (i = 1 ∧ H'' dn = some (.dK [(.inr (S (joinW us)), .bl true)]))))
      (fun H6 e6 _ => ⟨none, none, rfl, e5.trans e6, .inl ⟨rfl, e6 _ _ hdn⟩⟩) (fun i σ' H'' _ hP => by obtain ⟨x9, x10, rfl, e6, _⟩ := hP; exact sq_of (e6 _ _ hrp)) (fun i σ' H'' hi hP H6 e6 => ?_) (fun σ' H'' hP => ?_)
    · obtain ⟨x9, x10, rfl, eH, hc⟩ := hP
      have hi0 : i = 0 := by
        simp at hi
        exact hi
      subst hi0
      rcases hc with ⟨_, hf⟩ | ⟨z, _⟩
      · have e06 := eH.trans e6
        have v1 := v_read_as (hb.ex (e0H'.trans e06)) (sq_of (by rw [hns]; exact e06 _ _ hr0)) hgr (by omega) hsay hne hul hwo
        refine q_asg (ev_call (vs := [.ref bp, .ref r0]) (by tm_at "ea") v1) fun H7 e7 => ?_
        refine s_when (b := true) (et_is (by tm_at "et") (by rfl)) (fun _ H8 e8 => ?_) (fun z => by cases z)
        refine s_dputS (kvs := []) ev_c (ev_var rfl) (ev_var rfl) (((e6.trans e7).trans e8) _ _ hf) (by decide) fun H9 e9 => ?_
        exact ⟨_, _, rfl, Ex.mut (((e06.trans e7).trans e8).trans e9) hn5, .inr ⟨rfl, upd_same⟩⟩
      · exact absurd z (by decide)
    · obtain ⟨x9, x10, rfl, eH, hc⟩ := hP
      rcases hc with ⟨z, _⟩ | ⟨_, hf⟩
      · exact absurd z (by simp)
      · refine s_retL (el_sorted1 (ev_var rfl) hf) fun p H6 hn6 e6 h6 => ?_
        have e0 := e0H'.trans eH
        exact q p H6 (fresh_back e0 hn6) (e0.trans e6) h6
end
end Cb
/-! K19: the law's own sums: cells, mixed numbers, alphabets, weights, codes. -/
namespace Cb
open PySem PySem.Spec PyProof.Rows L2 Evl
open C8 (Cal Met Mak pe_c pe_mk pe_mt pe_mt0 pe_gc)

def mixN (c : Int) : Int := (c % (10 : Int) ^ 60 * 314159265358979323846264338327950288419716939937510582097494 + 27182818284590452353602874713527) % ((10 : Int) ^ 60 + 7)
def mixI (c : Int) (k : Nat) : Int := mixN c / (10 : Int) ^ (12 * k) % (10 : Int) ^ 12
theorem mixI_rng (c : Int) (k : Nat) : 0 ≤ mixI c k ∧ mixI c k < 1000000000000 := by
  unfold mixI
  constructor
  · exact Int.emod_nonneg _ (by decide)
  · exact Int.emod_lt_of_pos _ (by decide)
theorem log2_small {n k : Nat} (h : n < 2 ^ k) (hk : 0 < k) : n.log2 < k := by
  by_cases h0 : n = 0
  · rw [h0, Nat.log2_zero]
    exact hk
  · exact (Nat.log2_lt h0).mpr h
def mixTens : List V := [.int 1, .int ((10 : Int) ^ (12 : Int).toNat), .int ((10 : Int) ^ (24 : Int).toNat), .int ((10 : Int) ^ (36 : Int).toNat), .int ((10 : Int) ^ (48 : Int).toNat)]
local macro_rules | `(tactic| tm_at "side") => `(tactic| (first | assumption | omega | ((try simp only [List.length_append, List.length_cons, List.length_nil, List.length_map, List.length_range]); omega) | exact ⟨by omega, by omega⟩ | exact .inl ⟨by omega, by omega⟩ | exact .inr ⟨by omega, by omega⟩ | decide))
local macro_rules | `(tactic| tm_at "rv") => `(tactic| (first
  | exact rv_I0
  | exact rv_mod (by tm_at "side")
  | exact rv_I (by tm_at "side")
  | exact rv_eq rfl
  | exact rv_ne rfl
  | exact rv_addS (by tm_at "side")
  | exact rv_ixSS (by tm_at "side") (by assumption)
  | exact rv_ixL (by assumption) (by assumption)
  | exact rv_ixT (by assumption) (by assumption)
  | exact rv_inS
  | exact rv_isN
  | exact rv_notN
  | assumption))
local macro_rules | `(tactic| tm_at "eo") => `(tactic| (first | exact eo_none | (apply eo_some; tm_at "ev")))
local macro_rules | `(tactic| tm_at "ea") => `(tactic| (first | exact ea_nil | (apply ea_cons; (tm_at "ev"); (tm_at "ea"))))
local macro_rules | `(tactic| tm_at "sp") => `(tactic| assumption)
local macro_rules | `(tactic| tm_at "ev") => `(tactic| (first
  | exact ev_c
  | exact ev_var rfl
  | assumption
  | (apply ev_op; (tm_at "ev"); (tm_at "ev"); (tm_at "rv"))
  | (apply ev_un (hr := ru_neg); tm_at "ev")
  | (apply ev_fld; (tm_at "ev"); assumption; assumption; assumption; rfl)
  | (apply ev_lenStr; (tm_at "ev"); (tm_at "side"))
  | (apply ev_lenDT; (tm_at "ev"); assumption)
  | (apply ev_len; (tm_at "ev"); assumption)
  | (apply ev_lenT; (tm_at "ev"); assumption)
  | (apply ev_slS; (tm_at "ev"); (tm_at "eo"); (tm_at "eo"); (tm_at "side"))
  | (apply ev_call; (tm_at "ea"); (tm_at "sp"))
  | (apply ev_meth; (tm_at "ev"); assumption; rfl; (tm_at "ea"); (tm_at "sp"))
  | (apply ev_isStr; tm_at "ev")
  | (apply ev_isInt; tm_at "ev")
  | (apply ev_isBoolI; tm_at "ev")
  | (apply ev_isList; (tm_at "ev"); assumption)
  | (apply ev_isTuple; (tm_at "ev"); assumption)
  | (apply ev_abs; tm_at "ev")
  | (apply ev_int1; tm_at "ev")
  | (apply ev_max2; (tm_at "ev"); (tm_at "ev"))
  | (apply ev_sindex; (tm_at "ev"); (tm_at "ev"); assumption)
  | (apply ev_dinK; (tm_at "ev"); (tm_at "ev"); assumption)
  | (apply ev_dinT; (tm_at "ev"); (tm_at "ev"); assumption; assumption)
  | (apply ev_chain; (tm_at "ev"); (tm_at "ev"); (tm_at "rv"); (intro _; tm_at "ev"); (intro _; tm_at "rv"))
  | (apply ev_andV; (tm_at "ev"); (intro _; tm_at "ev"))
  | (apply ev_orV; (tm_at "ev"); (intro _; tm_at "ev"))
  | (apply ev_notV; tm_at "ev")))
local macro_rules | `(tactic| tm_at "et") => `(tactic| (first
  | assumption
  | (apply et_test; tm_at "ev")
  | (apply et_B; tm_at "ev")
  | (apply et_not; tm_at "et")
  | (apply et_and; (tm_at "et"); (intro _; tm_at "et"))
  | (apply et_or; (tm_at "et"); (intro _; tm_at "et"))))
/-- tests by sums -/
local macro_rules | `(tactic| tm_at "bf") => `(tactic| (simp only [Bool.not_true, Bool.not_false, Bool.false_or, Bool.true_and, Bool.and_true, Bool.or_false, Bool.or_eq_false_iff, Bool.and_eq_true, decide_eq_false_iff_not, decide_eq_true_eq, Bool.not_eq_false', Bool.not_eq_true']; omega))

local macro_rules | `(tactic| tm_at "side") => `(tactic| (first | assumption | omega | ((try simp only [List.length_append, List.length_cons, List.length_nil, List.length_map, List.length_range]); omega) | exact ⟨by omega, by omega⟩ | exact .inl ⟨by omega, by omega⟩ | exact .inr ⟨by omega, by omega⟩ | exact ⟨by decide, by decide, by decide⟩ | decide))
section
variable {P : Program} {w : World} {K : PySem.W.Frag} {mg : Str → Option Value} {base : Heap} {H : Hp}
def sp_law_cell_at (K : PySem.W.Frag) : Sp := fun vs H Q _ => ∃ (p : Addr) (ns : List Int) (k : Nat), vs = [.ref p, .int (k : Int)] ∧ SqL K H p (ns.map V.int) ∧ RetV (.int (ns.getD k 0)) H Q
theorem v_law_cell_at {p : Addr} {ns : List Int} {k : Nat} (h1 : SqL K H p (ns.map V.int)) : SpV (sp_law_cell_at K) [.ref p, .int (k : Int)] H (.int (ns.getD k 0)) := fun H1 e Q q E => ⟨p, ns, k, rfl, ex_l e h1, q⟩
theorem c_law_cell_at (T : Tx K mg) : Cal P w K mg base 1 "_law_cell_at" (sp_law_cell_at K) [] := by
  refine cal_of T.d_law_cell_at T.a_law_cell_at sc_law_cell_at (fun _ _ _ _ _ _ us hl => match us, hl with | [_, _], _ => rfl) (fun vs H Q E h => by (repeat (obtain ⟨_, h⟩ := h)); subst_vars; rfl) fun f cdv A outer s H vs Q E hr h => ?_
  obtain ⟨p, ns, k, rfl, hp, q⟩ := h
  refine ⟨_, (pss_cons (ps_if (pt_cmpR op_lt (pv 1) (pe_callB call_len_seq rfl T.f_len bt_len (pa_cons (pv 0) pa_nil)) (nomark _))
    (pss_one (ps_ret (pe_ix ix_list (pv 0) (pv 1) (fun _ _ => rfl))))
    pss_nil)
  (pss_one (ps_ret pe_int))), ?_⟩
  refine q_when (b := decide (k < ns.length)) (et_is (by tm_at "et") (by rw [List.length_map, decide_eq_decide]; omega)) (fun hb H1 e1 => ?_) (fun hb H1 e1 => ?_)
  · have hk : k < ns.length := of_decide_eq_true hb
    have hp1 := ex_l e1 hp
    have a1 : atI (ns.map V.int) (k : Int) = some (.int (ns.getD k 0)) := by
      refine atG rfl ?_
      rw [List.getElem?_map, getD_at (d := 0) hk]
      rfl
    refine s_ret (by tm_at "ev") fun H2 e2 => ?_
    exact q H2 (e1.trans e2)
  · have hk : ¬ k < ns.length := of_decide_eq_false hb
    refine s_ret ev_c fun H2 e2 => ?_
    have := q H2 (e1.trans e2)
    rw [List.getD_eq_getElem?_getD, List.getElem?_eq_none (by omega)] at this
    exact this
def sp_law_mixed (K : PySem.W.Frag) : Sp := fun vs H Q _ => ∃ (c : Int) (k : Nat), vs = [.int c, .int (k : Int)] ∧ k < 5 ∧ RetV (.int (mixI c k)) H Q
theorem v_law_mixed {c : Int} {k : Nat} (h : k < 5) : SpV (sp_law_mixed K) [.int c, .int (k : Int)] H (.int (mixI c k)) := fun H1 e Q q E => ⟨c, k, rfl, h, q⟩
theorem c_law_mixed (T : Tx K mg) : Cal P w K mg base 1 "_law_mixed" (sp_law_mixed K) [] := by
  refine cal_of T.d_law_mixed T.a_law_mixed sc_law_mixed (fun _ _ _ _ _ _ us hl => match us, hl with | [_, _], _ => rfl) (fun vs H Q E h => by (repeat (obtain ⟨_, h⟩ := h)); subst_vars; rfl) fun f cdv A outer s H vs Q E hr h => ?_
  obtain ⟨c, k, rfl, hk, q⟩ := h
  refine ⟨_, (pss_cons (ps_set (i := 2) sc_law_mixed.nd rfl (Or.inl rfl) pe_int)
  (pss_cons (ps_set (i := 3) sc_law_mixed.nd rfl (Or.inl rfl) (pe_op op_mod (pe_op op_add (pe_op op_mulW (pe_op op_mod (pv 0) (pe_op op_pow pe_int pe_int)) (pv 2)) pe_int) (pe_op op_add (pe_op op_pow pe_int pe_int) pe_int)))
  (pss_one (ps_ret (pe_op op_mod (pe_op op_fdivW (pv 3) (pe_ix ix_list (pe_lst (pa_cons pe_int (pa_cons (pe_op op_pow pe_int pe_int) (pa_cons (pe_op op_pow pe_int pe_int) (pa_cons (pe_op op_pow pe_int pe_int) (pa_cons (pe_op op_pow pe_int pe_int) pa_nil)))))) (pv 1) (fun _ _ => rfl))) (pe_op op_pow pe_int pe_int)))))), ?_⟩
  have hp : CPow 10 60 := ⟨by decide, by decide, by decide⟩
  have h0 : (0 : Int) < (10 : Int) ^ (60 : Int).toNat := by decide
  have h1 : (0 : Int) < (10 : Int) ^ (60 : Int).toNat + 7 := by decide
  have hm : CMulW (c % (10 : Int) ^ (60 : Int).toNat) 314159265358979323846264338327950288419716939937510582097494 := by
    have b1 := Int.emod_nonneg c (show (10 : Int) ^ (60 : Int).toNat ≠ 0 by decide)
    have b2 := Int.emod_lt_of_pos c h0
    have e60 : (10 : Int) ^ (60 : Int).toNat = 1000000000000000000000000000000000000000000000000000000000000 := by decide
    rw [e60] at b1 b2 ⊢
    have l1 : (c % 1000000000000000000000000000000000000000000000000000000000000).natAbs.log2 < 200 := log2_small (Nat.lt_of_lt_of_le (m := 1000000000000000000000000000000000000000000000000000000000000) (by omega) (by decide)) (by decide)
    have l2 : (314159265358979323846264338327950288419716939937510582097494 : Int).natAbs.log2 < 200 := by decide +kernel
    show _ + _ < 1000000
    omega
  refine q_asg ev_c fun H1 e1 => ?_
  refine q_asg (ev_op (ev_op (ev_op (ev_op (ev_var rfl) (ev_op ev_c ev_c (rv_I hp)) (rv_mod h0)) (ev_var rfl) (rv_I hm)) ev_c rv_I0) (ev_op (ev_op ev_c ev_c (rv_I hp)) ev_c rv_I0) (rv_mod h1)) fun H2 e2 => ?_
  have p1 : CPow 10 12 := ⟨by decide, by decide, by decide⟩
  have p2 : CPow 10 24 := ⟨by decide, by decide, by decide⟩
  have p3 : CPow 10 36 := ⟨by decide, by decide, by decide⟩
  have p4 : CPow 10 48 := ⟨by decide, by decide, by decide⟩
  obtain ⟨t, ht, hc, ht2⟩ : ∃ t : Int, atI mixTens (k : Int) = some (.int t) ∧ CDivW (mixN c) t ∧ t = (10 : Int) ^ (12 * k) := by
    match k, hk with
    | 0, _ => exact ⟨1, rfl, ⟨by decide, by decide +kernel⟩, by decide⟩
    | 1, _ => exact ⟨_, rfl, ⟨by decide, by decide +kernel⟩, by decide⟩
    | 2, _ => exact ⟨_, rfl, ⟨by decide, by decide +kernel⟩, by decide⟩
    | 3, _ => exact ⟨_, rfl, ⟨by decide, by decide +kernel⟩, by decide⟩
    | 4, _ => exact ⟨_, rfl, ⟨by decide, by decide +kernel⟩, by decide⟩
  refine s_ret (ev_op (ev_op (ev_var rfl) (ev_ixN (xs := mixTens) (el_lst (ea_cons ev_c (ea_cons (ev_op ev_c ev_c (rv_I p1)) (ea_cons (ev_op ev_c ev_c (rv_I p2)) (ea_cons (ev_op ev_c ev_c (rv_I p3)) (ea_cons (ev_op ev_c ev_c (rv_I p4)) ea_nil))))) (by decide)) (ev_var rfl) ht) (rv_I hc)) (ev_op ev_c ev_c (rv_I p1)) (rv_mod (by decide))) fun H3 e3 => ?_
  have := q H3 ((e1.trans e2).trans e3)
  unfold mixI at this
  rw [← ht2] at this
  exact this
def sp_law_divisor (K : PySem.W.Frag) : Sp := fun vs H Q _ => ∃ a b : Int, vs = [.int a, .int b] ∧ 0 ≤ b ∧ RetV (.int ((Int.gcd a b : Nat) : Int)) H Q
theorem v_law_divisor {a b : Int} (hb : 0 ≤ b) : SpV (sp_law_divisor K) [.int a, .int b] H (.int ((Int.gcd a b : Nat) : Int)) := fun H1 e Q q E => ⟨a, b, rfl, hb, q⟩
theorem c_law_divisor (T : Tx K mg) : Cal P w K mg base 1 "_law_divisor" (sp_law_divisor K) [] := by
  refine cal_of T.d_law_divisor T.a_law_divisor sc_law_divisor (fun _ _ _ _ _ _ us hl => match us, hl with | [_, _], _ => rfl) (fun vs H Q E h => by (repeat (obtain ⟨_, h⟩ := h)); subst_vars; rfl) fun f cdv A outer s H vs Q E hr h => ?_
  obtain ⟨a, b, rfl, hb, q⟩ := h
  refine ⟨_, (pss_cons (ps_while PassesOwn.never (pt_cmpR op_ne (pv 1) pe_int (nomark _))
    (pss_one (ps_par (i := 0) (j := 1) (by rfl) sc_law_divisor.nd rfl rfl (by decide) rfl rfl (pa_cons (pv 1) (pa_cons (pe_op op_mod (pv 0) (pv 1)) pa_nil)) (by rfl))))
  (pss_one (ps_ret (pe_callB call_abs rfl T.f_abs bt_abs (pa_cons (pv 0) pa_nil))))), ?_⟩
  refine q_while (fun m σ' H' => ∃ a' b' : Int, σ' = [some (.int a'), some (.int b')] ∧ 0 ≤ b' ∧ m = b'.toNat ∧ Int.gcd a' b' = Int.gcd a b ∧ Ex H H') b.toNat ⟨a, b, rfl, hb, rfl, rfl, Ex.refl H⟩ fun m σ' H' hw => ?_
  obtain ⟨a', b', rfl, hb', rfl, hg, e⟩ := hw
  refine ⟨!decide (V.int b' = V.int 0), by tm_at "et", fun hc H1 e1 => ?_, fun hc H1 e1 => ?_⟩
  · have hb0 : b' ≠ 0 := fun z => by
      subst z
      simp at hc
    have hb1 : 0 < b' := by omega
    have h1 := Int.emod_nonneg a' hb0
    have h2 := Int.emod_lt_of_pos a' hb1
    refine ⟨_, fun σ2 H2 hN => hN, ?_⟩
    refine s_par (v := .int b') (w := .int (a' % b')) (by tm_at "ea") fun H2 e2 => ?_
    exact ⟨(a' % b').toNat, by omega, b', a' % b', rfl, h1, rfl, by rw [gcd_step, hg], (e.trans e1).trans e2⟩
  · have hb0 : b' = 0 := by simpa using hc
    subst hb0
    refine s_ret (by tm_at "ev") fun H2 e2 => ?_
    have := q H2 ((e.trans e1).trans e2)
    rw [← hg, ← abs_gcd0] at this
    exact this
end
/-! ### the alphabet -/
def abc : W := (List.range 26).map (· + 97)
theorem eAbc : (Str.ofString "abcdefghijklmnopqrstuvwxyz") = S abc := by rfl
def byL : List Int := [1, 3, 5, 7, 9, 11, 15, 17, 19, 21, 23, 25]
def mL : List Int := [5, 7, 9, 11, 13, 15, 25]
def alB (c : Int) : Int := byL.getD (c % 12).toNat 0
def alM (c : Int) : Int := mL.getD (c / 12 % 7).toNat 0
def alL (c : Int) : W := (List.range (alM c).toNat).map fun k : Nat => 97 + ((c / 84 + (k : Int) * alB c) % 26).toNat
theorem emod_lt7 (c : Int) : ∃ i : Nat, i < 7 ∧ c / 12 % 7 = (i : Int) := ⟨(c / 12 % 7).toNat, by omega, by omega⟩
theorem emod_lt12 (c : Int) : ∃ i : Nat, i < 12 ∧ c % 12 = (i : Int) := ⟨(c % 12).toNat, by omega, by omega⟩
theorem alM_mem (c : Int) : alM c ∈ mL := by
  obtain ⟨i, hi, e⟩ := emod_lt7 c
  unfold alM
  rw [e]
  exact getD_memI (us := mL) (i := i) hi
theorem alB_mem (c : Int) : alB c ∈ byL := by
  obtain ⟨i, hi, e⟩ := emod_lt12 c
  unfold alB
  rw [e]
  exact getD_memI (us := byL) (i := i) hi
theorem mL_rng {m : Int} (h : m ∈ mL) : 5 ≤ m ∧ m ≤ 25 := by
  revert m
  decide
theorem step_all : ∀ b ∈ byL, ∀ k : Fin 26, (k.val : Int) * b % 26 = 0 → k.val = 0 := by decide +kernel
theorem alL_nodup (c : Int) : (alL c).Nodup := by
  unfold alL
  have hm := mL_rng (alM_mem c)
  refine List.pairwise_map.mpr (List.Pairwise.imp_of_mem (fun {i j} hi hj hij => ?_) (List.pairwise_lt_range))
  intro z
  have hj' := List.mem_range.mp hj
  have b1 := Int.emod_nonneg (c / 84 + (i : Int) * alB c) (show (26 : Int) ≠ 0 by decide)
  have b2 := Int.emod_nonneg (c / 84 + (j : Int) * alB c) (show (26 : Int) ≠ 0 by decide)
  have e : (c / 84 + (i : Int) * alB c) % 26 = (c / 84 + (j : Int) * alB c) % 26 := by omega
  have d : (((j - i : Nat) : Int) * alB c) % 26 = 0 := by
    have h1 : ((j - i : Nat) : Int) * alB c = (c / 84 + (j : Int) * alB c) - (c / 84 + (i : Int) * alB c) := by
      rw [show ((j - i : Nat) : Int) = (j : Int) - (i : Int) by omega, Int.sub_mul]
      omega
    rw [h1, Int.sub_emod, e, Int.sub_self]
    rfl
  have := step_all _ (alB_mem c) ⟨j - i, by omega⟩ d
  have h0 : j - i = 0 := this
  omega
theorem alL_az (c : Int) : ∀ a ∈ alL c, 97 ≤ a ∧ a ≤ 122 := fun a ha => by
  obtain ⟨k, _, rfl⟩ := List.mem_map.mp ha
  have b2 := Int.emod_nonneg (c / 84 + (k : Int) * alB c) (show (26 : Int) ≠ 0 by decide)
  have b3 := Int.emod_lt_of_pos (c / 84 + (k : Int) * alB c) (show (0 : Int) < 26 by decide)
  omega
theorem alL_len (c : Int) : (alL c).length = (alM c).toNat := by
  unfold alL
  rw [List.length_map, List.length_range]
section
variable {P : Program} {w : World} {K : PySem.W.Frag} {mg : Str → Option Value} {base : Heap} {H : Hp}
def sp_law_alphabet (K : PySem.W.Frag) : Sp := fun vs H Q _ => ∃ c : Int, vs = [.int c] ∧ RetV (.str (S (alL c))) H Q
theorem v_law_alphabet {c : Int} : SpV (sp_law_alphabet K) [.int c] H (.str (S (alL c))) := fun H1 e Q q E => ⟨c, rfl, q⟩
theorem atI_getD {l : List Int} {i : Nat} {z : Int} (e : z = (i : Int)) (h : i < l.length) : atI (l.map V.int) z = some (.int (l.getD i 0)) := by
  refine atG e ?_
  rw [List.getElem?_map, getD_at (d := 0) h]
  rfl
theorem c_law_alphabet (T : Tx K mg) : Cal P w K mg base 1 "_law_alphabet" (sp_law_alphabet K) [] := by
  refine cal_of T.d_law_alphabet T.a_law_alphabet sc_law_alphabet (fun _ _ _ _ _ _ us hl => match us, hl with | [_], _ => rfl) (fun vs H Q E h => by (repeat (obtain ⟨_, h⟩ := h)); subst_vars; rfl) fun f cdv A outer s H vs Q E hr h => ?_
  obtain ⟨c, rfl, q⟩ := h
  refine ⟨_, (pss_cons (ps_set (i := 1) sc_law_alphabet.nd rfl (Or.inr rfl) pe_str)
  (pss_cons (ps_set (i := 2) sc_law_alphabet.nd rfl (Or.inr rfl) (pe_ix ix_list (pe_lst (pa_cons pe_int (pa_cons pe_int (pa_cons pe_int (pa_cons pe_int (pa_cons pe_int (pa_cons pe_int (pa_cons pe_int (pa_cons pe_int (pa_cons pe_int (pa_cons pe_int (pa_cons pe_int (pa_cons pe_int pa_nil))))))))))))) (pe_op op_mod (pv 0) pe_int) (fun _ _ => rfl)))
  (pss_cons (ps_set (i := 3) sc_law_alphabet.nd rfl (Or.inl rfl) (pe_ix ix_list (pe_lst (pa_cons pe_int (pa_cons pe_int (pa_cons pe_int (pa_cons pe_int (pa_cons pe_int (pa_cons pe_int (pa_cons pe_int pa_nil)))))))) (pe_op op_mod (pe_op op_fdiv (pv 0) pe_int) pe_int) (fun _ _ => rfl)))
  (pss_one (ps_ret (pe_join pe_str (pe_lc (own := [("_law_k", 4)]) (g := gName 4) (tt := tYes) rfl sc_law_alphabet.nd (pi_range1 rfl T.f_range (pa_cons (pv 3) pa_nil)) (blkOk_by (N := nm_law_alphabet) (sc := defScope s_law_alphabet) (by decide +kernel)) (fun _ _ _ _ _ => (pg_name (i := 4) sc_law_alphabet.nd rfl (Or.inl rfl))) (fun _ _ _ _ _ => pts_nil) (fun _ _ _ _ _ => (pe_ix ix_str (pv 1) (pe_op op_mod (pe_op op_add (pe_op op_fdiv (pv 0) pe_int) (pe_op op_mul (pv 4) (pv 2))) pe_int) (fun _ _ => rfl)))))))))), ?_⟩
  have hm := mL_rng (alM_mem c)
  refine q_asg (ev_is ev_c (w := vS abc) (by rw [eAbc])) fun H1 e1 => ?_
  obtain ⟨i, hi, ei⟩ := emod_lt12 c
  obtain ⟨j, hj, ej⟩ := emod_lt7 c
  refine q_asg (ev_ixN (xs := byL.map V.int) (x := .int (alB c)) (el_lst (by tm_at "ea") (by decide)) (by tm_at "ev") (by unfold alB; rw [ei]; exact atI_getD rfl hi)) fun H2 e2 => ?_
  refine q_asg (ev_ixN (xs := mL.map V.int) (x := .int (alM c)) (el_lst (by tm_at "ea") (by decide)) (by tm_at "ev") (by unfold alM; rw [ej]; exact atI_getD rfl hj)) fun H3 e3 => ?_
  refine s_ret (ev_join (s := []) (ws := (List.range (alM c).toNat).map fun k : Nat => [97 + ((c / 84 + (k : Int) * alB c) % 26).toNat]) (ev_is ev_c (by rfl)) ?_ ?_) fun H4 e4 => ?_
  · rw [List.map_map]
    refine el_lcY _ (ei_n (ei_rng1 (by tm_at "ea") (by omega)) fun _ _ _ h => h) (by omega) (fun _ => rfl) fun k hk => ?_
    have hkm : k < (alM c).toNat := hk
    have b2 := Int.emod_nonneg (c / 84 + (k : Int) * alB c) (show (26 : Int) ≠ 0 by decide)
    have b3 := Int.emod_lt_of_pos (c / 84 + (k : Int) * alB c) (show (0 : Int) < 26 by decide)
    have a1 : atI abc ((c / 84 + (k : Int) * alB c) % 26) = some (97 + ((c / 84 + (k : Int) * alB c) % 26).toNat) := by
      refine atG (j := ((c / 84 + (k : Int) * alB c) % 26).toNat) (by omega) ?_
      unfold abc
      rw [List.getElem?_map, List.getElem?_range (by omega)]
      show some (_ + 97) = some (97 + _)
      rw [Nat.add_comm]
    have hal : abc.length ≤ 100000 := by decide
    tm_at "ev"
  · rw [sum_ones _ (fun _ => rfl), List.length_map, List.length_range]
    show _ + _ * 0 ≤ _
    omega
  · rw [join_flat, flat_ones]
    exact q H4 (((e1.trans e2).trans e3).trans e4)
end
end Cb
/-! K20: the law's weights and codes. -/
namespace Cb
open PySem PySem.Spec PyProof.Rows L2 Evl
open C8 (Cal Met Mak pe_c pe_mk pe_mt pe_mt0 pe_gc)

def apartI (ws : List Int) (x : Int) : Int := match ws.getLast? with
  | none => 1
  | some u => x - u
def Cand (n : Nat) (ws : List Int) (x : Int) : Prop := Int.gcd x n = 1 ∧ Int.gcd (apartI ws x) n = 1
def WOk (n : Nat) (ws : List Int) : Prop := (∀ a ∈ ws, 0 ≤ a ∧ a < (n : Int)) ∧ Safe n ws
theorem wok_nil (n : Nat) : WOk n [] := ⟨(fun a h => nomatch h), (fun i a h => by simp at h), (fun i a b h => by simp at h)⟩
theorem wok_snoc {n : Nat} {ws : List Int} {x : Int} (h : WOk n ws) (h0 : 0 ≤ x) (h1 : x < (n : Int)) (hc : Cand n ws x) : WOk n (ws ++ [x]) := by
  obtain ⟨a, b, d⟩ := h
  refine ⟨fun y hy => ?_, fun i y hy => ?_, fun i y z hy hz => ?_⟩
  · rcases List.mem_append.mp hy with hy | hy
    · exact a y hy
    · rw [List.mem_singleton.mp hy]
      exact ⟨h0, h1⟩
  · by_cases hi : i < ws.length
    · rw [List.getElem?_append_left hi] at hy
      exact b i y hy
    · rw [List.getElem?_append_right (by omega)] at hy
      have h0 : i - ws.length = 0 := by
        have := (List.getElem?_eq_some_iff.mp hy).1
        simp at this
        omega
      rw [h0] at hy
      have : x = y := Option.some.inj hy
      rw [← this]
      exact hc.1
  · by_cases hi : i + 1 < ws.length
    · rw [List.getElem?_append_left hi] at hz
      rw [List.getElem?_append_left (by omega)] at hy
      exact d i y z hy hz
    · rw [List.getElem?_append_right (by omega)] at hz
      have hl := (List.getElem?_eq_some_iff.mp hz).1
      have hl2 : i + 1 - ws.length < 1 := hl
      have e : i + 1 = ws.length := by omega
      rw [e, Nat.sub_self] at hz
      have hxz : x = z := Option.some.inj hz
      rw [List.getElem?_append_left (by omega)] at hy
      have hlast : ws.getLast? = some y := by
        rw [List.getLast?_eq_getElem?, show ws.length - 1 = i by omega]
        exact hy
      have h2 := hc.2
      unfold apartI at h2
      rw [hlast] at h2
      rw [← hxz, show y - x = -(x - y) by omega, Int.neg_gcd]
      exact h2
theorem cand_ex : ∀ m ∈ mL, ∀ u : Fin 25, (u.val : Int) < m → Int.gcd (u.val : Int) m = 1 → ∃ x : Fin 25, (x.val : Int) < m ∧ Int.gcd (x.val : Int) m = 1 ∧ Int.gcd ((x.val : Int) - (u.val : Int)) m = 1 := by decide +kernel
theorem cand_one : ∀ m ∈ mL, Int.gcd 1 m = 1 ∧ 1 < m := by decide +kernel
theorem cand_some {n : Nat} {ws : List Int} (hm : (n : Int) ∈ mL) (h : WOk n ws) : ∃ x : Nat, x < n ∧ Cand n ws (x : Int) := by
  cases hl : ws.getLast? with
  | none =>
    obtain ⟨a, b⟩ := cand_one _ hm
    refine ⟨1, by omega, a, ?_⟩
    unfold apartI
    rw [hl]
    exact a
  | some u =>
    have hu := h.1 u (List.mem_of_getLast? hl)
    have hn := mL_rng hm
    have hg : Int.gcd u n = 1 := by
      rw [List.getLast?_eq_getElem?] at hl
      exact h.2.1 _ u hl
    obtain ⟨x, hx, h1, h2⟩ := cand_ex _ hm ⟨u.toNat, by omega⟩ (by show ((u.toNat : Nat) : Int) < _; omega) (by show Int.gcd ((u.toNat : Nat) : Int) _ = 1; rw [show ((u.toNat : Nat) : Int) = u by omega]; exact hg)
    refine ⟨x.val, by omega, h1, ?_⟩
    unfold apartI
    rw [hl]
    have h2' : Int.gcd ((x.val : Int) - ((u.toNat : Nat) : Int)) n = 1 := h2
    rw [show ((u.toNat : Nat) : Int) = u by omega] at h2'
    exact h2'
theorem cover {n x : Nat} {s : Int} (hs : 0 ≤ s ∧ s < (n : Int)) (hx : x < n) : ∃ j : Nat, j < n ∧ (s + (j : Int)) % (n : Int) = (x : Int) := by
  by_cases h : s ≤ (x : Int)
  · refine ⟨((x : Int) - s).toNat, by omega, ?_⟩
    rw [show s + ((((x : Int) - s).toNat : Nat) : Int) = (x : Int) by omega]
    exact Int.emod_eq_of_lt (by omega) (by omega)
  · refine ⟨((x : Int) - s + n).toNat, by omega, ?_⟩
    rw [show s + ((((x : Int) - s + n).toNat : Nat) : Int) = (x : Int) + n by omega, Int.add_emod_right]
    exact Int.emod_eq_of_lt (by omega) (by omega)
/-- (letters, weights, rest) -/
def CodeTup (H : Hp) (t : Addr) (c : Cd) : Prop := CdOk c ∧ ∃ wp : Addr, H t = some (.tup [.str (S c.al), .ref wp, .int c.rs]) ∧ H wp = some (.lst (c.ws.map V.int))
theorem CodeTup.ex {H H' : Hp} {t : Addr} {c : Cd} (e : Ex H H') (h : CodeTup H t c) : CodeTup H' t c := by
  obtain ⟨ok, wp, h1, h2⟩ := h
  exact ⟨ok, wp, e _ _ h1, e _ _ h2⟩
local macro_rules | `(tactic| tm_at "side") => `(tactic| (first | assumption | omega | ((try simp only [List.length_append, List.length_cons, List.length_nil, List.length_map, List.length_range]); omega) | exact ⟨by omega, by omega⟩ | exact .inl ⟨by omega, by omega⟩ | exact .inr ⟨by omega, by omega⟩ | decide))
local macro_rules | `(tactic| tm_at "rv") => `(tactic| (first
  | exact rv_I0
  | exact rv_mod (by tm_at "side")
  | exact rv_I (by tm_at "side")
  | exact rv_eq rfl
  | exact rv_ne rfl
  | exact rv_addS (by tm_at "side")
  | exact rv_ixSS (by tm_at "side") (by assumption)
  | exact rv_ixL (by assumption) (by assumption)
  | exact rv_ixT (by assumption) (by assumption)
  | exact rv_inS
  | exact rv_isN
  | exact rv_notN
  | assumption))
local macro_rules | `(tactic| tm_at "eo") => `(tactic| (first | exact eo_none | (apply eo_some; tm_at "ev")))
local macro_rules | `(tactic| tm_at "ea") => `(tactic| (first | exact ea_nil | (apply ea_cons; (tm_at "ev"); (tm_at "ea"))))
local macro_rules | `(tactic| tm_at "sp") => `(tactic| assumption)
local macro_rules | `(tactic| tm_at "ev") => `(tactic| (first
  | exact ev_c
  | exact ev_var rfl
  | assumption
  | (apply ev_op; (tm_at "ev"); (tm_at "ev"); (tm_at "rv"))
  | (apply ev_un (hr := ru_neg); tm_at "ev")
  | (apply ev_fld; (tm_at "ev"); assumption; assumption; assumption; rfl)
  | (apply ev_lenStr; (tm_at "ev"); (tm_at "side"))
  | (apply ev_lenDT; (tm_at "ev"); assumption)
  | (apply ev_len; (tm_at "ev"); assumption)
  | (apply ev_lenT; (tm_at "ev"); assumption)
  | (apply ev_slS; (tm_at "ev"); (tm_at "eo"); (tm_at "eo"); (tm_at "side"))
  | (apply ev_call; (tm_at "ea"); (tm_at "sp"))
  | (apply ev_meth; (tm_at "ev"); assumption; rfl; (tm_at "ea"); (tm_at "sp"))
  | (apply ev_isStr; tm_at "ev")
  | (apply ev_isInt; tm_at "ev")
  | (apply ev_isBoolI; tm_at "ev")
  | (apply ev_isList; (tm_at "ev"); assumption)
  | (apply ev_isTuple; (tm_at "ev"); assumption)
  | (apply ev_abs; tm_at "ev")
  | (apply ev_int1; tm_at "ev")
  | (apply ev_max2; (tm_at "ev"); (tm_at "ev"))
  | (apply ev_sindex; (tm_at "ev"); (tm_at "ev"); assumption)
  | (apply ev_dinK; (tm_at "ev"); (tm_at "ev"); assumption)
  | (apply ev_dinT; (tm_at "ev"); (tm_at "ev"); assumption; assumption)
  | (apply ev_chain; (tm_at "ev"); (tm_at "ev"); (tm_at "rv"); (intro _; tm_at "ev"); (intro _; tm_at "rv"))
  | (apply ev_andV; (tm_at "ev"); (intro _; tm_at "ev"))
  | (apply ev_orV; (tm_at "ev"); (intro _; tm_at "ev"))
  | (apply ev_notV; tm_at "ev")))
local macro_rules | `(tactic| tm_at "et") => `(tactic| (first
  | assumption
  | (apply et_test; tm_at "ev")
  | (apply et_B; tm_at "ev")
  | (apply et_not; tm_at "et")
  | (apply et_and; (tm_at "et"); (intro _; tm_at "et"))
  | (apply et_or; (tm_at "et"); (intro _; tm_at "et"))))
/-- tests by sums -/
local macro_rules | `(tactic| tm_at "bf") => `(tactic| (simp only [Bool.not_true, Bool.not_false, Bool.false_or, Bool.true_and, Bool.and_true, Bool.or_false, Bool.or_eq_false_iff, Bool.and_eq_true, decide_eq_false_iff_not, decide_eq_true_eq, Bool.not_eq_false', Bool.not_eq_true']; omega))

section
variable {P : Program} {w : World} {K : PySem.W.Frag} {mg : Str → Option Value} {base : Heap} {H : Hp}
def sp_law_weights (K : PySem.W.Frag) : Sp := fun vs H Q _ => ∃ (n : Nat) (c : Int) (L : Nat), vs = [.int (n : Int), .int c, .int (L : Int)] ∧ (n : Int) ∈ mL ∧ L ≤ 1000 ∧ RetR (fun v H' => ∃ p ws, v = .ref p ∧ H' p = some (.lst (ws.map V.int)) ∧ ws.length = L ∧ WOk n ws) H Q
theorem r_law_weights {n : Nat} {c : Int} {L : Nat} (h1 : (n : Int) ∈ mL) (h2 : L ≤ 1000) : SpR (sp_law_weights K) [.int (n : Int), .int c, .int (L : Int)] H (fun v H' => ∃ p ws, v = .ref p ∧ H' p = some (.lst (ws.map V.int)) ∧ ws.length = L ∧ WOk n ws) := fun H1 e Q q E => ⟨n, c, L, rfl, h1, h2, q⟩
theorem c_law_weights (T : Tx K mg) : Cal P w K mg base 2 "_law_weights" (sp_law_weights K) [] := by
  refine cal_of T.d_law_weights T.a_law_weights sc_law_weights (fun _ _ _ _ _ _ us hl => match us, hl with | [_, _, _], _ => rfl) (fun vs H Q E h => by (repeat (obtain ⟨_, h⟩ := h)); subst_vars; rfl) fun f cdv A outer s H vs Q E hr h => ?_
  obtain ⟨n, c, L, rfl, hm, hL, q⟩ := h
  have hn := mL_rng hm
  refine ⟨_, (pss_cons (ps_set (i := 3) sc_law_weights.nd rfl (Or.inl rfl) (pe_lst pa_nil))
  (pss_cons (ps_for PassesOwn.never rfl (pi_range1 rfl T.f_range (pa_cons (pv 2) pa_nil)) (pg_name (i := 4) sc_law_weights.nd rfl (Or.inl rfl))
    (pss_cons (ps_set (i := 5) sc_law_weights.nd rfl (Or.inl rfl) (pe_op op_mod (pe_op op_fdiv (pv 1) (pe_op op_add (pv 4) pe_int)) (pv 0)))
  (pss_one (ps_for PassesOwn.never rfl (pi_range1 rfl T.f_range (pa_cons (pv 0) pa_nil)) (pg_name (i := 6) sc_law_weights.nd rfl (Or.inl rfl))
    (pss_cons (ps_set (i := 7) sc_law_weights.nd rfl (Or.inl rfl) (pe_op op_mod (pe_op op_add (pv 5) (pv 6)) (pv 0)))
  (pss_cons (ps_set (i := 8) sc_law_weights.nd rfl (Or.inl rfl) pe_int)
  (pss_cons (ps_if (pt_cmpR op_gt (pv 4) pe_int (nomark _))
    (pss_one (ps_set (i := 8) sc_law_weights.nd rfl (Or.inl rfl) (pe_op op_sub (pv 7) (pe_ix ix_list (pv 3) (pe_op op_sub (pv 4) pe_int) (fun _ _ => rfl)))))
    pss_nil)
  (pss_one (ps_if (PW.pt (pw_and (pt_cmpR op_eq (pe_callB call_len_seq rfl T.f_len bt_len (pa_cons (pv 3) pa_nil)) (pv 4) (nomark _)) (pw_and (pt_cmpR op_eq (pe_c (c_law_divisor T) hr (by decide) rfl (pa_cons (pv 7) (pa_cons (pv 0) pa_nil))) pe_int (nomark _)) (pw_and1 (pt_cmpR op_eq (pe_c (c_law_divisor T) hr (by decide) rfl (pa_cons (pv 8) (pa_cons (pv 0) pa_nil))) pe_int (nomark _))))))
    (pss_one (ps_expr (pe_bm PySem.F.plainAttrs_list PySem.F.slot_list_append PySem.F.type_list_append mt_append (pv 3) (pa_cons (pv 7) pa_nil))))
    pss_nil)))))))))
  (pss_one (ps_ret (pv 3))))), ?_⟩
  refine q_asgL (xs := []) (el_lst ea_nil (by decide)) fun p H1 hp0 e1 h1 => ?_
  refine q_forN (ei_rng1 (m := (L : Int)) (by tm_at "ea") (by omega)) (fun k σ' H' => ∃ (ws : List Int) (x4 x5 x6 x7 x8 : Option V), σ' = [some (.int (n : Int)), some (.int c), some (.int (L : Int)), some (.ref p), x4, x5, x6, x7, x8] ∧ Ex H H' ∧ H' p = some (.lst (ws.map V.int)) ∧ ws.length = k ∧ WOk n ws)
    (fun H2 e2 _ => ⟨[], none, none, none, none, none, rfl, e1.trans e2, e2 _ _ h1, rfl, wok_nil n⟩) (fun _ _ _ _ _ => trivial) (fun k σ' H' hk hP H2 e2 => ?_) (fun σ' H' hP => ?_)
  · obtain ⟨ws, x4, x5, x6, x7, x8, rfl, e, hp, hl, hok⟩ := hP
    have hkL : k < L := hk
    have hp2 := e2 _ _ hp
    have ek : CDiv c ((k : Int) + 1) := ⟨by omega, by omega⟩
    have hs0 := Int.emod_nonneg (c / ((k : Int) + 1)) (show (n : Int) ≠ 0 by omega)
    have hs1 := Int.emod_lt_of_pos (c / ((k : Int) + 1)) (show (0 : Int) < (n : Int) by omega)
    refine q_asg (ev_op (ev_op (ev_var rfl) (ev_op (ev_var rfl) ev_c rv_I0) (rv_I ek)) (ev_var rfl) (rv_mod (by omega))) fun H3 e3 => ?_
    generalize hst : c / ((k : Int) + 1) % (n : Int) = st at hs0 hs1
    refine s_forN (ei_rng1 (m := (n : Int)) (by tm_at "ea") (by omega)) (fun j σ' H' => ∃ (us : List Int) (x6 x7 x8 : Option V), σ' = [some (.int (n : Int)), some (.int c), some (.int (L : Int)), some (.ref p), some (.int (k : Int)), some (.int st), x6, x7, x8] ∧ Ex H H' ∧ H' p = some (.lst (us.map V.int)) ∧
        ((us = ws ∧ ∀ s : Nat, s < j → ¬ Cand n ws ((st + (s : Int)) % (n : Int))) ∨ ∃ x, us = ws ++ [x] ∧ WOk n (ws ++ [x])))
      (fun H4 e4 _ => ⟨ws, x6, x7, x8, rfl, ((e.trans e2).trans e3).trans e4, (e3.trans e4) _ _ hp2, .inl ⟨rfl, fun s hs => absurd hs (Nat.not_lt_zero s)⟩⟩) (fun _ _ _ _ _ => trivial) (fun j σ' H' hj hP H4 e4 => ?_) (fun σ' H' hP => ?_)
    · obtain ⟨us, y6, y7, y8, rfl, eu, hpu, hus⟩ := hP
      have hpu4 := e4 _ _ hpu
      have hx0 := Int.emod_nonneg (st + (j : Int)) (show (n : Int) ≠ 0 by omega)
      have hx1 := Int.emod_lt_of_pos (st + (j : Int)) (show (0 : Int) < (n : Int) by omega)
      refine q_asg (ev_op (ev_op (ev_var rfl) (ev_var rfl) rv_I0) (ev_var rfl) (rv_mod (by omega))) fun H5 e5 => ?_
      generalize hxx : (st + (j : Int)) % (n : Int) = x at hx0 hx1
      have hpu5 := e5 _ _ hpu4
      have hpu5s := sq_of (K := K) hpu5
      have hk1 : 0 < k → ∃ u, ws.getLast? = some u ∧ us[k - 1]? = some u := fun hk0 => by
        have h1 : ws[k - 1]? = some (ws.getD (k - 1) 0) := getD_at (by omega)
        refine ⟨ws.getD (k - 1) 0, by rw [List.getLast?_eq_getElem?, hl]; exact h1, ?_⟩
        rcases hus with ⟨rfl, _⟩ | ⟨x, rfl, _⟩
        · exact h1
        · rw [List.getElem?_append_left (by omega)]
          exact h1
      refine q_asg ev_c fun H6 e6 => ?_
      have hpu6s := ex_l e6 hpu5s
      refine q_ifAsg (b := decide (0 < k)) (v := .int (apartI ws x)) (et_is (et_test (ev_op (ev_var rfl) ev_c rv_I0)) (by rw [decide_eq_decide]; omega)) (fun hb => ?_) (fun hb => ?_) fun H7 e7 => ?_
      · obtain ⟨u, hu1, hu2⟩ := hk1 (of_decide_eq_true hb)
        have hk0 := of_decide_eq_true hb
        have a1 : atI (us.map V.int) ((k : Int) - 1) = some (.int u) := by
          refine atG (j := k - 1) (by omega) ?_
          rw [List.getElem?_map, hu2]
          rfl
        have : apartI ws x = x - u := by
          unfold apartI
          rw [hu1]
        rw [this]
        tm_at "ev"
      · have hk0 : ws = [] := List.length_eq_zero_iff.mp (by have := of_decide_eq_false hb; omega)
        rw [hk0]
        rfl
      · have e67 := e6.trans e7
        have hpu7 := e67 _ _ hpu5
        have hpu7s := sq_of (K := K) hpu7
        have v1 := v_law_divisor (K := K) (H := H7) (a := x) (b := (n : Int)) (by omega)
        have v2 := v_law_divisor (K := K) (H := H7) (a := apartI ws x) (b := (n : Int)) (by omega)
        have e07 := ((eu.trans e4).trans e5).trans e67
        refine s_when (b := decide (us.length = k) && (decide (Int.gcd x n = 1) && decide (Int.gcd (apartI ws x) n = 1))) (et_is (by tm_at "et") ?_) (fun hb H8 e8 => ?_) (fun hb H8 e8 => ?_)
        · rw [vint_eq, vint_eq, vint_eq, List.length_map]
          congr 1
          · rw [decide_eq_decide]
            omega
          · congr 1 <;> (rw [decide_eq_decide]; omega)
        · rw [Bool.and_eq_true, Bool.and_eq_true] at hb
          obtain ⟨b1, b2, b3⟩ := hb
          have b1 := of_decide_eq_true b1
          have husws : us = ws := by
            rcases hus with ⟨h, _⟩ | ⟨x', h, _⟩
            · exact h
            · rw [h, List.length_append] at b1
              simp at b1
              omega
          subst husws
          refine s_app (e8 _ _ hpu7) (ev_var rfl) (ev_var rfl) (by rw [List.length_map]; omega) fun H9 e9 => ?_
          refine ⟨us ++ [x], _, _, _, rfl, Ex.mut ((e07.trans e8).trans e9) hp0, by rw [upd_same, List.map_append]; rfl, .inr ⟨x, rfl, wok_snoc hok hx0 hx1 ⟨of_decide_eq_true b2, of_decide_eq_true b3⟩⟩⟩
        · refine ⟨us, _, _, _, rfl, e07.trans e8, e8 _ _ hpu7, ?_⟩
          rcases hus with ⟨h, hno⟩ | h
          · refine .inl ⟨h, fun s hs hc => ?_⟩
            rcases Nat.lt_or_ge s j with h1 | h1
            · exact hno s h1 hc
            · have : s = j := by omega
              subst this
              rw [hxx] at hc
              rw [h, decide_eq_true hl, decide_eq_true hc.1, decide_eq_true hc.2] at hb
              cases hb
          · exact .inr h
    · obtain ⟨us, y6, y7, y8, rfl, eu, hpu, hus⟩ := hP
      have hpf : ∃ x, us = ws ++ [x] ∧ WOk n (ws ++ [x]) := by
        rcases hus with ⟨_, hno⟩ | h
        · obtain ⟨x, hx, hc⟩ := cand_some hm hok
          obtain ⟨j, hj, ej⟩ := cover ⟨hs0, hs1⟩ hx
          exact absurd (by rw [ej]; exact hc) (hno j hj)
        · exact h
      obtain ⟨x, rfl, hw⟩ := hpf
      exact ⟨_, _, _, _, _, _, rfl, eu, hpu, by rw [List.length_append, hl]; rfl, hw⟩
  · obtain ⟨ws, x4, x5, x6, x7, x8, rfl, e, hp, hl, hok⟩ := hP
    refine s_ret (ev_var rfl) fun H2 e2 => ?_
    exact q _ H2 (e.trans e2) ⟨p, ws, rfl, e2 _ _ hp, hl, hok⟩
def sp_law_code (K : PySem.W.Frag) : Sp := fun vs H Q _ => ∃ (p : Addr) (ns : List Int), vs = [.ref p] ∧ SqL K H p (ns.map V.int) ∧ RetR (fun v H' => ∃ t c, v = .ref t ∧ CodeTup H' t c) H Q
theorem r_law_code {p : Addr} {ns : List Int} (h1 : SqL K H p (ns.map V.int)) : SpR (sp_law_code K) [.ref p] H (fun v H' => ∃ t c, v = .ref t ∧ CodeTup H' t c) := fun H1 e Q q E => ⟨p, ns, rfl, ex_l e h1, q⟩
theorem cut5 (a : Int) : 3 + a % 2 + 0 ≤ 5 ∧ 3 ≤ 3 + a % 2 := by omega
theorem c_law_code (T : Tx K mg) : Cal P w K mg base 3 "_law_code" (sp_law_code K) [] := by
  refine cal_of T.d_law_code T.a_law_code sc_law_code (fun _ _ _ _ _ _ us hl => match us, hl with | [_], _ => rfl) (fun vs H Q E h => by (repeat (obtain ⟨_, h⟩ := h)); subst_vars; rfl) fun f cdv A outer s H vs Q E hr h => ?_
  obtain ⟨p, ns, rfl, hp, q⟩ := h
  refine ⟨_, (pss_cons (ps_set (i := 1) sc_law_code.nd rfl (Or.inl rfl) (pe_c (c_law_alphabet T) hr (by decide) rfl (pa_cons (pe_c (c_law_cell_at T) hr (by decide) rfl (pa_cons (pv 0) (pa_cons pe_int pa_nil))) pa_nil)))
  (pss_cons (ps_set (i := 2) sc_law_code.nd rfl (Or.inl rfl) (pe_callB call_len_str rfl T.f_len bt_len (pa_cons (pv 1) pa_nil)))
  (pss_cons (ps_set (i := 3) sc_law_code.nd rfl (Or.inl rfl) (pe_c (c_law_weights T) hr (by decide) rfl (pa_cons (pv 2) (pa_cons (pe_c (c_law_cell_at T) hr (by decide) rfl (pa_cons (pv 0) (pa_cons pe_int pa_nil))) (pa_cons (pe_op op_add (pe_op op_add pe_int (pe_op op_mod (pe_c (c_law_cell_at T) hr (by decide) rfl (pa_cons (pv 0) (pa_cons pe_int pa_nil))) pe_int)) (pe_callTy call_int1 rfl T.f_int bt_int (pa_cons (pe_cmpR op_eq (pv 2) pe_int (nomark _)) pa_nil))) pa_nil)))))
  (pss_one (ps_ret (pe_tup (pa_cons (pv 1) (pa_cons (pv 3) (pa_cons (pe_op op_mod (pe_c (c_law_cell_at T) hr (by decide) rfl (pa_cons (pv 0) (pa_cons pe_int pa_nil))) (pv 2)) pa_nil))))))))), ?_⟩
  have c0 := v_law_cell_at (k := 0) hp
  have va := v_law_alphabet (K := K) (H := H) (c := ns.getD 0 0)
  refine q_asg (ev_call (vs := [.int (ns.getD 0 0)]) (ea_cons (ev_call (vs := [.ref p, .int 0]) (by tm_at "ea") c0) ea_nil) va) fun H1 e1 => ?_
  have hal := alL_len (ns.getD 0 0)
  have hmm := alM_mem (ns.getD 0 0)
  have hmr := mL_rng hmm
  generalize hA : alL (ns.getD 0 0) = A at hal
  have hAl : (A.length : Int) ∈ mL := by
    rw [hal, show (((alM (ns.getD 0 0)).toNat : Nat) : Int) = alM (ns.getD 0 0) by omega]
    exact hmm
  have hAr := mL_rng hAl
  refine q_asg (by tm_at "ev") fun H2 e2 => ?_
  have e02 := e1.trans e2
  have c1 := v_law_cell_at (k := 1) (ex_l e02 hp)
  obtain ⟨L, hLe, hL3, hL5⟩ : ∃ L : Nat, (3 : Int) + ns.getD 1 0 % 2 + (if decide (V.int (A.length : Nat) = V.int 5) = true then 1 else 0) = (L : Int) ∧ 3 ≤ L ∧ L ≤ 5 := by
    refine ⟨((3 : Int) + ns.getD 1 0 % 2 + (if decide (V.int (A.length : Nat) = V.int 5) = true then 1 else 0)).toNat, ?_, ?_, ?_⟩ <;> split <;> omega
  have cc : Ev (tCall (sp_law_cell_at K) [] C8.E0 (tCons (tVar 0) (tCons (tC (.int 1)) tNil))) [some (.ref p), some (vS A), some (.int (A.length : Nat)), none] H2 (.int (ns.getD 1 0)) := ev_call (vs := [.ref p, .int 1]) (by tm_at "ea") c1
  refine q_asgR (evr_callA (vs := [.int (A.length : Nat), .int (ns.getD 1 0), .int (L : Int)]) (ea_cons (ev_var rfl) (ea_cons cc (ea_cons (ev_is (ev_op (ev_op ev_c (ev_op cc ev_c (rv_mod (by decide))) rv_I0) (ev_int1 (ev_op (ev_var rfl) ev_c (rv_eq rfl))) rv_I0) (by rw [hLe])) ea_nil))) (r_law_weights hAl (by omega))) fun v H3 e3 r => ?_
  obtain ⟨wp, ws, rfl, hwp, hwl, hwok⟩ := r
  have c2 := v_law_cell_at (k := 2) (ex_l (e02.trans e3) hp)
  refine s_retU (eu_tup (vs := [vS A, .ref wp, .int (ns.getD 2 0 % (A.length : Nat))]) (ea_cons (ev_var rfl) (ea_cons (ev_var rfl) (ea_cons (ev_op (ev_call (vs := [.ref p, .int 2]) (by tm_at "ea") c2) (ev_var rfl) (rv_mod (by omega))) ea_nil))) (Nat.le_of_ble_eq_true rfl)) fun t H4 hn4 e4 h4 => ?_
  refine q _ H4 ((e02.trans e3).trans e4) ⟨t, ⟨A, ws, ns.getD 2 0 % (A.length : Nat)⟩, rfl, ⟨by show 5 ≤ A.length; omega, by show A.length ≤ 25; omega, ?_, ?_, by show 3 ≤ ws.length; omega, by show ws.length ≤ 5; omega, hwok.1, hwok.2, Int.emod_nonneg _ (by show (A.length : Int) ≠ 0; omega), Int.emod_lt_of_pos _ (by show (0 : Int) < A.length; omega)⟩, wp, h4, e4 _ _ hwp⟩
  · rw [← hA]
    exact alL_nodup _
  · rw [← hA]
    exact alL_az _
end
end Cb
/-! K21: the law's words and entries. -/
namespace Cb
open PySem PySem.Spec PyProof.Rows L2 Evl
open C8 (Cal Met Mak pe_c pe_mk pe_mt pe_mt0 pe_gc)

def abno : W := [97, 98, 110, 111]
def abnox : W := [97, 98, 110, 111, 120]
theorem eAbno : (Str.ofString "abno") = S abno := by rfl
theorem eAbnox : (Str.ofString "abnox") = S abnox := by rfl
theorem eX : (Str.ofString "x") = S [120] := by rfl
theorem eMt : (Str.ofString "") = S [] := by rfl
/-- a word of the vocabulary -/
structure Voc (x : W) : Prop where
  l1 : 1 ≤ x.length
  l5 : x.length ≤ 5
  mem : ∀ a ∈ x, a ∈ abnox
theorem abnox_az {a : Nat} (h : a ∈ abnox) : 97 ≤ a ∧ a ≤ 122 := by
  revert a
  decide
theorem Voc.word {x : W} (h : Voc x) : WordOk x := ⟨h.l1, by have := h.l5; omega, fun a ha => abnox_az (h.mem a ha)⟩
theorem abno_sub {a : Nat} (h : a ∈ abno) : a ∈ abnox := by
  revert a
  decide
def tensL : List Int := [4, 16, 64, 256]
theorem tensL_rng {t : Int} (h : t ∈ tensL) : 0 < t ∧ t < 1073741824 := by
  revert t
  decide
section
variable {K : PySem.W.Frag} {σ : L2.St} {H H' : Hp} {ta te : TE}
theorem rv_repX {b : Bool} : RV rRepS (.str (S [120])) (.int (if b = true then 1 else 0)) H (.str (S (if b = true then [120] else []))) := fun H1 _ Q q => by
  refine ⟨S [120], _, rfl, rfl, ?_, by decide, ?_⟩
  · cases b
    · exact .inl rfl
    · exact .inr rfl
  · cases b
    · exact q H1 (Ex.refl H1)
    · exact q H1 (Ex.refl H1)
theorem flat_S (ws : List W) : (ws.map vS).all flatV = true := by
  rw [List.all_map]
  exact List.all_eq_true.mpr fun _ _ => rfl
end
local macro_rules | `(tactic| tm_at "side") => `(tactic| (first | assumption | omega | ((try simp only [List.length_append, List.length_cons, List.length_nil, List.length_map, List.length_range]); omega) | exact ⟨by omega, by omega⟩ | exact .inl ⟨by omega, by omega⟩ | exact .inr ⟨by omega, by omega⟩ | decide))
local macro_rules | `(tactic| tm_at "rv") => `(tactic| (first
  | exact rv_I0
  | exact rv_mod (by tm_at "side")
  | exact rv_I (by tm_at "side")
  | exact rv_eq rfl
  | exact rv_ne rfl
  | exact rv_addS (by tm_at "side")
  | exact rv_ixSS (by tm_at "side") (by assumption)
  | exact rv_ixL (by assumption) (by assumption)
  | exact rv_ixT (by assumption) (by assumption)
  | exact rv_inS
  | exact rv_isN
  | exact rv_notN
  | assumption))
local macro_rules | `(tactic| tm_at "eo") => `(tactic| (first | exact eo_none | (apply eo_some; tm_at "ev")))
local macro_rules | `(tactic| tm_at "ea") => `(tactic| (first | exact ea_nil | (apply ea_cons; (tm_at "ev"); (tm_at "ea"))))
local macro_rules | `(tactic| tm_at "sp") => `(tactic| assumption)
local macro_rules | `(tactic| tm_at "ev") => `(tactic| (first
  | exact ev_c
  | exact ev_var rfl
  | assumption
  | (apply ev_op; (tm_at "ev"); (tm_at "ev"); (tm_at "rv"))
  | (apply ev_un (hr := ru_neg); tm_at "ev")
  | (apply ev_fld; (tm_at "ev"); assumption; assumption; assumption; rfl)
  | (apply ev_lenStr; (tm_at "ev"); (tm_at "side"))
  | (apply ev_lenDT; (tm_at "ev"); assumption)
  | (apply ev_len; (tm_at "ev"); assumption)
  | (apply ev_lenT; (tm_at "ev"); assumption)
  | (apply ev_slS; (tm_at "ev"); (tm_at "eo"); (tm_at "eo"); (tm_at "side"))
  | (apply ev_call; (tm_at "ea"); (tm_at "sp"))
  | (apply ev_meth; (tm_at "ev"); assumption; rfl; (tm_at "ea"); (tm_at "sp"))
  | (apply ev_isStr; tm_at "ev")
  | (apply ev_isInt; tm_at "ev")
  | (apply ev_isBoolI; tm_at "ev")
  | (apply ev_isList; (tm_at "ev"); assumption)
  | (apply ev_isTuple; (tm_at "ev"); assumption)
  | (apply ev_abs; tm_at "ev")
  | (apply ev_int1; tm_at "ev")
  | (apply ev_max2; (tm_at "ev"); (tm_at "ev"))
  | (apply ev_sindex; (tm_at "ev"); (tm_at "ev"); assumption)
  | (apply ev_dinK; (tm_at "ev"); (tm_at "ev"); assumption)
  | (apply ev_dinT; (tm_at "ev"); (tm_at "ev"); assumption; assumption)
  | (apply ev_chain; (tm_at "ev"); (tm_at "ev"); (tm_at "rv"); (intro _; tm_at "ev"); (intro _; tm_at "rv"))
  | (apply ev_andV; (tm_at "ev"); (intro _; tm_at "ev"))
  | (apply ev_orV; (tm_at "ev"); (intro _; tm_at "ev"))
  | (apply ev_notV; tm_at "ev")))
local macro_rules | `(tactic| tm_at "et") => `(tactic| (first
  | assumption
  | (apply et_test; tm_at "ev")
  | (apply et_B; tm_at "ev")
  | (apply et_not; tm_at "et")
  | (apply et_and; (tm_at "et"); (intro _; tm_at "et"))
  | (apply et_or; (tm_at "et"); (intro _; tm_at "et"))))
/-- tests by sums -/
local macro_rules | `(tactic| tm_at "bf") => `(tactic| (simp only [Bool.not_true, Bool.not_false, Bool.false_or, Bool.true_and, Bool.and_true, Bool.or_false, Bool.or_eq_false_iff, Bool.and_eq_true, decide_eq_false_iff_not, decide_eq_true_eq, Bool.not_eq_false', Bool.not_eq_true']; omega))

section
variable {P : Program} {w : World} {K : PySem.W.Frag} {mg : Str → Option Value} {base : Heap} {H : Hp}
def sp_law_vocabulary (K : PySem.W.Frag) : Sp := fun vs H Q _ => ∃ c : Int, vs = [.int c] ∧ RetR (fun v H' => ∃ (p : Addr) (ws : List W), v = .ref p ∧ H' p = some (.lst (ws.map vS)) ∧ ws.length = 6 ∧ ∀ x ∈ ws, Voc x) H Q
theorem r_law_vocabulary {c : Int} : SpR (sp_law_vocabulary K) [.int c] H (fun v H' => ∃ (p : Addr) (ws : List W), v = .ref p ∧ H' p = some (.lst (ws.map vS)) ∧ ws.length = 6 ∧ ∀ x ∈ ws, Voc x) := fun H1 e Q q E => ⟨c, rfl, q⟩
theorem c_law_vocabulary (T : Tx K mg) : Cal P w K mg base 2 "_law_vocabulary" (sp_law_vocabulary K) [] := by
  refine cal_of T.d_law_vocabulary T.a_law_vocabulary sc_law_vocabulary (fun _ _ _ _ _ _ us hl => match us, hl with | [_], _ => rfl) (fun vs H Q E h => by (repeat (obtain ⟨_, h⟩ := h)); subst_vars; rfl) fun f cdv A outer s H vs Q E hr h => ?_
  obtain ⟨c, rfl, q⟩ := h
  refine ⟨_, (pss_cons (ps_set (i := 1) sc_law_vocabulary.nd rfl (Or.inl rfl) (pe_lst pa_nil))
  (pss_cons (ps_for PassesOwn.never rfl (pi_range1 rfl T.f_range (pa_cons pe_int pa_nil)) (pg_name (i := 2) sc_law_vocabulary.nd rfl (Or.inl rfl))
    (pss_cons (ps_set (i := 3) sc_law_vocabulary.nd rfl (Or.inl rfl) (pe_c (c_law_mixed T) hr (by decide) rfl (pa_cons (pe_op op_add (pv 0) (pv 2)) (pa_cons (pe_op op_mod (pv 2) pe_int) pa_nil))))
  (pss_cons (ps_set (i := 4) sc_law_vocabulary.nd rfl (Or.inl rfl) pe_str)
  (pss_cons (ps_for PassesOwn.never rfl (pi_range1 rfl T.f_range (pa_cons (pe_op op_add pe_int (pe_op op_mod (pv 3) pe_int)) pa_nil)) (pg_name (i := 5) sc_law_vocabulary.nd rfl (Or.inl rfl))
    (pss_one (ps_set (i := 4) sc_law_vocabulary.nd rfl (Or.inl rfl) (pe_op op_add_str (pv 4) (pe_ix ix_str pe_str (pe_op op_mod (pe_op op_fdiv (pv 3) (pe_ix ix_list (pe_lst (pa_cons pe_int (pa_cons pe_int (pa_cons pe_int (pa_cons pe_int pa_nil))))) (pv 5) (fun _ _ => rfl))) pe_int) (fun _ _ => rfl))))))
  (pss_one (ps_expr (pe_bm PySem.F.plainAttrs_list PySem.F.slot_list_append PySem.F.type_list_append mt_append (pv 1) (pa_cons (pe_op op_add_str (pv 4) (pe_op op_repS pe_str (pe_callTy call_int1 rfl T.f_int bt_int (pa_cons (pe_cmpR op_in_seq (pv 4) (pv 1) rfl) pa_nil)))) pa_nil))))))))
  (pss_one (ps_ret (pv 1))))), ?_⟩
  refine q_asgL (xs := []) (el_lst ea_nil (by decide)) fun p H1 hp0 e1 h1 => ?_
  refine q_forN (ei_rng1 (m := 6) (by tm_at "ea") (by decide)) (fun k σ' H' => ∃ (ws : List W) (x2 x3 x4 x5 : Option V), σ' = [some (.int c), some (.ref p), x2, x3, x4, x5] ∧ Ex H H' ∧ H' p = some (.lst (ws.map vS)) ∧ ws.length = k ∧ ∀ x ∈ ws, Voc x)
    (fun H2 e2 _ => ⟨[], none, none, none, none, rfl, e1.trans e2, e2 _ _ h1, rfl, fun x h => nomatch h⟩) (fun _ _ _ _ _ => trivial) (fun k σ' H' hk hP H2 e2 => ?_) (fun σ' H' hP => ?_)
  · obtain ⟨ws, x2, x3, x4, x5, rfl, e, hp, hl, hws⟩ := hP
    have hk6 : k < 6 := hk
    have hp2 := e2 _ _ hp
    have ek : (k : Int) % 4 = ((k % 4 : Nat) : Int) := by omega
    have vm := v_law_mixed (K := K) (H := H2) (c := c + (k : Int)) (k := k % 4) (by omega)
    refine q_asg (ev_call (vs := [.int (c + (k : Int)), .int ((k % 4 : Nat) : Int)]) (ea_cons (by tm_at "ev") (ea_cons (ev_is (ev_op (ev_var rfl) ev_c (rv_mod (by decide))) (by rw [ek])) ea_nil)) vm) fun H3 e3 => ?_
    have hmr := mixI_rng (c + (k : Int)) (k % 4)
    generalize mixI (c + (k : Int)) (k % 4) = mx at hmr
    refine q_asg (ev_is ev_c (w := vS []) (by rw [eMt])) fun H4 e4 => ?_
    have e04 := ((e.trans e2).trans e3).trans e4
    refine q_forN (ei_rng1 (m := 1 + mx % 4) (by tm_at "ea") (by omega)) (fun j σ' H' => ∃ (x : W) (y5 : Option V), σ' = [some (.int c), some (.ref p), some (.int (k : Int)), some (.int mx), some (vS x), y5] ∧ Ex H4 H' ∧ x.length = j ∧ ∀ a ∈ x, a ∈ abnox)
      (fun H5 e5 _ => ⟨[], x5, rfl, e5, rfl, fun x h => nomatch h⟩) (fun _ _ _ _ _ => trivial) (fun j σ' H' hj hP H5 e5 => ?_) (fun σ' H' hP => ?_)
    · obtain ⟨x, y5, rfl, ex, hxl, hxa⟩ := hP
      have hj4 : j < 4 := by omega
      have htm : tensL.getD j 0 ∈ tensL := getD_memI (us := tensL) (i := j) hj4
      have htr := tensL_rng htm
      have hi0 := Int.emod_nonneg (mx / tensL.getD j 0) (show (4 : Int) ≠ 0 by decide)
      have hi1 := Int.emod_lt_of_pos (mx / tensL.getD j 0) (show (0 : Int) < 4 by decide)
      generalize htt : tensL.getD j 0 = t at htr hi0 hi1
      have a1 : atI (tensL.map V.int) (j : Int) = some (.int t) := by rw [← htt]; exact atI_getD rfl hj4
      have cd : CDiv mx t := htr
      have hal : abno.getD (mx / t % 4).toNat 0 ∈ abno := getD_mem (by show _ < 4; omega)
      have a2 : atI abno (mx / t % 4) = some (abno.getD (mx / t % 4).toNat 0) := atD 0 (by omega) (by show _ < 4; omega)
      refine s_asg (ev_op (x := vS x) (y := vS [abno.getD (mx / t % 4).toNat 0]) (ev_var rfl) (ev_op (ev_is ev_c (w := vS abno) (by rw [eAbno])) (ev_op (ev_op (ev_var rfl) (ev_ixN (xs := tensL.map V.int) (el_lst (by tm_at "ea") (by decide)) (ev_var rfl) a1) (rv_I cd)) ev_c (rv_mod (by decide))) (rv_ixSS (by decide) a2)) (rv_addS (by show x.length + 1 ≤ _; omega))) fun H6 e6 => ?_
      refine ⟨x ++ [abno.getD (mx / t % 4).toNat 0], _, rfl, (ex.trans e5).trans e6, by rw [List.length_append, hxl]; rfl, fun a ha => ?_⟩
      rcases List.mem_append.mp ha with ha | ha
      · exact hxa a ha
      · rw [List.mem_singleton.mp ha]
        exact abno_sub hal
    · obtain ⟨x, y5, rfl, ex, hxl, hxa⟩ := hP
      have hpx := ((e3.trans e4).trans ex) _ _ hp2
      have hxl2 : 1 ≤ x.length ∧ x.length ≤ 4 := by omega
      refine s_app (v := vS (x ++ if inV (vS x) (ws.map vS) = true then [120] else [])) hpx (ev_var rfl) (ev_op (x := vS x) (y := vS (if inV (vS x) (ws.map vS) = true then [120] else [])) (ev_var rfl) (ev_op (ev_is ev_c (w := vS [120]) (by rw [eX])) (ev_int1 (ev_op (ev_var rfl) (ev_var rfl) (rv_isL (sq_of hpx) rfl (flat_S ws)))) rv_repX) (rv_addS (by split <;> simp <;> omega))) (by rw [List.length_map]; omega) fun H6 e6 => ?_
      refine ⟨ws ++ [x ++ if inV (vS x) (ws.map vS) = true then [120] else []], _, _, _, _, rfl, Ex.mut ((e04.trans ex).trans e6) hp0, by rw [upd_same, List.map_append]; rfl, by rw [List.length_append, hl]; rfl, fun y hy => ?_⟩
      rcases List.mem_append.mp hy with hy | hy
      · exact hws y hy
      · rw [List.mem_singleton.mp hy]
        split
        · refine ⟨by rw [List.length_append]; omega, by rw [List.length_append]; show x.length + 1 ≤ 5; omega, fun a ha => ?_⟩
          rcases List.mem_append.mp ha with ha | ha
          · exact hxa a ha
          · rw [List.mem_singleton.mp ha]
            decide
        · rw [List.append_nil]
          exact ⟨hxl2.1, by omega, hxa⟩
  · obtain ⟨ws, x2, x3, x4, x5, rfl, e, hp, hl, hws⟩ := hP
    refine s_ret (ev_var rfl) fun H2 e2 => ?_
    exact q _ H2 (e.trans e2) ⟨p, ws, rfl, e2 _ _ hp, hl, hws⟩
def sp_law_entry (K : PySem.W.Frag) : Sp := fun vs H Q _ => ∃ (c : Int) (p : Addr) (ws : List W), vs = [.int c, .ref p] ∧ SqL K H p (ws.map vS) ∧ ws.length = 6 ∧ (∀ x ∈ ws, Voc x) ∧ RetR (fun v H' => ∃ (a : Addr) (e : Ent), v = .ref a ∧ H' a = some (.tup (eV e)) ∧ EntOk e) H Q
theorem r_law_entry {c : Int} {p : Addr} {ws : List W} (h1 : SqL K H p (ws.map vS)) (h2 : ws.length = 6) (h3 : ∀ x ∈ ws, Voc x) : SpR (sp_law_entry K) [.int c, .ref p] H (fun v H' => ∃ (a : Addr) (e : Ent), v = .ref a ∧ H' a = some (.tup (eV e)) ∧ EntOk e) := fun H1 e Q q E => ⟨c, p, ws, rfl, ex_l e h1, h2, h3, q⟩
theorem atI_W {ws : List W} {z : Int} (h0 : 0 ≤ z) (h : z < (ws.length : Int)) : atI (ws.map vS) z = some (vS (ws.getD z.toNat [])) := by
  refine atG (j := z.toNat) (by omega) ?_
  rw [List.getElem?_map, getD_at (d := []) (by omega)]
  rfl
theorem c_law_entry (T : Tx K mg) : Cal P w K mg base 2 "_law_entry" (sp_law_entry K) [] := by
  refine cal_of T.d_law_entry T.a_law_entry sc_law_entry (fun _ _ _ _ _ _ us hl => match us, hl with | [_, _], _ => rfl) (fun vs H Q E h => by (repeat (obtain ⟨_, h⟩ := h)); subst_vars; rfl) fun f cdv A outer s H vs Q E hr h => ?_
  obtain ⟨c, p, ws, rfl, hp, hl, hws, q⟩ := h
  refine ⟨_, (pss_cons (ps_set (i := 2) sc_law_entry.nd rfl (Or.inl rfl) (pe_c (c_law_mixed T) hr (by decide) rfl (pa_cons (pv 0) (pa_cons pe_int pa_nil))))
  (pss_cons (ps_set (i := 3) sc_law_entry.nd rfl (Or.inl rfl) (pe_op op_mod (pe_c (c_law_mixed T) hr (by decide) rfl (pa_cons (pv 0) (pa_cons pe_int pa_nil))) pe_int))
  (pss_cons (ps_if (pt_cmpR op_lt (pv 3) pe_int (nomark _))
    (pss_one (ps_ret (pe_tup (pa_cons pe_str (pa_cons (pe_ix ix_list (pv 1) (pe_op op_mod (pv 2) pe_int) (fun _ _ => rfl)) pa_nil)))))
    pss_nil)
  (pss_cons (ps_if (pt_cmpR op_lt (pv 3) pe_int (nomark _))
    (pss_one (ps_ret (pe_tup (pa_cons pe_str (pa_cons (pe_op op_add_str (pe_op op_add_str (pe_ix ix_list (pv 1) (pe_op op_mod (pv 2) pe_int) (fun _ _ => rfl)) pe_str) (pe_ix ix_list (pv 1) (pe_op op_mod (pe_op op_fdiv (pv 2) pe_int) pe_int) (fun _ _ => rfl))) pa_nil)))))
    pss_nil)
  (pss_cons (ps_if (pt_cmpR op_eq (pv 3) pe_int (nomark _))
    (pss_one (ps_ret (pe_tup (pa_cons pe_str (pa_cons (pe_slice sl_str (pe_ix ix_list (pv 1) (pe_op op_mod (pv 2) pe_int) (fun _ _ => rfl)) po_none (po_some pe_int)) pa_nil)))))
    pss_nil)
  (pss_one (ps_ret (pe_tup (pa_cons pe_str (pa_cons (pe_ix ix_str pe_str (pe_op op_mod (pv 2) pe_int) (fun _ _ => rfl)) pa_nil)))))))))), ?_⟩
  have v1 := v_law_mixed (K := K) (H := H) (c := c) (k := 1) (by decide)
  refine q_asg (ev_call (vs := [.int c, .int 1]) (by tm_at "ea") v1) fun H1 e1 => ?_
  have v0 := v_law_mixed (K := K) (H := H1) (c := c) (k := 0) (by decide)
  refine q_asg (ev_op (ev_call (vs := [.int c, .int 0]) (by tm_at "ea") v0) ev_c (rv_mod (by decide))) fun H2 e2 => ?_
  have hm := mixI_rng c 1
  generalize mixI c 1 = mx at hm
  generalize mixI c 0 % 6 = kd
  have e02 := e1.trans e2
  have i0 := Int.emod_nonneg mx (show (6 : Int) ≠ 0 by decide)
  have i1 := Int.emod_lt_of_pos mx (show (0 : Int) < 6 by decide)
  have j0 := Int.emod_nonneg (mx / 6) (show (6 : Int) ≠ 0 by decide)
  have j1 := Int.emod_lt_of_pos (mx / 6) (show (0 : Int) < 6 by decide)
  have k0 := Int.emod_nonneg mx (show (5 : Int) ≠ 0 by decide)
  have k1 := Int.emod_lt_of_pos mx (show (0 : Int) < 5 by decide)
  have a1 : atI (ws.map vS) (mx % 6) = some (vS (ws.getD (mx % 6).toNat [])) := atI_W i0 (by omega)
  have a2 : atI (ws.map vS) (mx / 6 % 6) = some (vS (ws.getD (mx / 6 % 6).toNat [])) := atI_W j0 (by omega)
  have a3 : atI abnox (mx % 5) = some (abnox.getD (mx % 5).toNat 0) := atD 0 (by omega) (by show _ < 5; omega)
  have w1 := hws _ (getD_memW (ws := ws) (i := (mx % 6).toNat) (by omega))
  have w2 := hws _ (getD_memW (ws := ws) (i := (mx / 6 % 6).toNat) (by omega))
  have w3 : abnox.getD (mx % 5).toNat 0 ∈ abnox := getD_mem (by show _ < 5; omega)
  generalize ws.getD (mx % 6).toNat [] = wa at a1 w1
  generalize ws.getD (mx / 6 % 6).toNat [] = wb at a2 w2
  generalize abnox.getD (mx % 5).toNat 0 = la at a3 w3
  refine q_when (b := decide (kd < 2)) (by tm_at "et") (fun _ H3 e3 => ?_) (fun _ H3 e3 => ?_)
  · have hp3 := ex_l (e02.trans e3) hp
    refine s_retU (eu_tup (vs := eV [sPhrase, wa]) (ea_cons ev_c (ea_cons (by tm_at "ev") ea_nil)) (Nat.le_of_ble_eq_true rfl)) fun a H4 hn e4 h4 => ?_
    exact q _ H4 ((e02.trans e3).trans e4) ⟨a, [sPhrase, wa], rfl, h4, .phrase [wa] (Nat.le_of_ble_eq_true rfl) (Nat.le_of_ble_eq_true rfl) fun y hy => by rw [List.mem_singleton.mp hy]; exact w1.word⟩
  refine q_when (b := decide (kd < 4)) (by tm_at "et") (fun _ H4 e4 => ?_) (fun _ H4 e4 => ?_)
  · have hp4 := ex_l ((e02.trans e3).trans e4) hp
    have l1 := w1.l5
    have l2 := w2.l5
    refine s_retU (eu_tup (vs := eV [sPhrase, wa ++ [32] ++ wb]) (ea_cons ev_c (ea_cons (ev_op (x := vS (wa ++ [32])) (y := vS wb) (ev_op (x := vS wa) (y := vS [32]) (by tm_at "ev") (ev_is ev_c (by rw [eBl])) (rv_addS (by show _ + 1 ≤ _; omega))) (by tm_at "ev") (rv_addS (by rw [List.length_append]; show _ + 1 + _ ≤ _; omega))) ea_nil)) (Nat.le_of_ble_eq_true rfl)) fun a H5 hn e5 h5 => ?_
    refine q _ H5 (((e02.trans e3).trans e4).trans e5) ⟨a, _, rfl, h5, ?_⟩
    have : wa ++ [32] ++ wb = joinW [wa, wb] := by
      rw [List.append_assoc]
      rfl
    rw [this]
    refine .phrase [wa, wb] (Nat.le_of_ble_eq_true rfl) (Nat.le_of_ble_eq_true rfl) fun y hy => ?_
    rcases List.mem_cons.mp hy with rfl | hy
    · exact w1.word
    · rw [List.mem_singleton.mp hy]
      exact w2.word
  refine q_when (b := decide (V.int kd = V.int 4)) (by tm_at "et") (fun _ H5 e5 => ?_) (fun _ H5 e5 => ?_)
  · have hp5 := ex_l (((e02.trans e3).trans e4).trans e5) hp
    have l1 := w1.l5
    have ht : cutG wa none (some (6 : Int)) = wa := by
      have := cutG_to wa 6
      rw [List.take_of_length_le (by omega)] at this
      exact this
    have hsl := ev_slS (σ := [some (.int c), some (.ref p), some (.int mx), some (.int kd)]) (H := H5) (te := tOp (rIxL K) (tVar 1) (tOp (rI (fun _ j => 0 < j) fun i j => .int (i % j)) (tVar 2) (tC (.int 6)))) (tl := tNoPart) (th := tPart (tC (.int 6))) (l := wa) (lo := none) (hi := some 6) (by tm_at "ev") eo_none (eo_some ev_c) (by omega)
    rw [ht] at hsl
    refine s_retU (eu_tup (vs := eV [sPart, wa]) (ea_cons ev_c (ea_cons hsl ea_nil)) (Nat.le_of_ble_eq_true rfl)) fun a H6 hn e6 h6 => ?_
    exact q _ H6 ((((e02.trans e3).trans e4).trans e5).trans e6) ⟨a, _, rfl, h6, .part wa w1.l1 (by omega) w1.word.2.2⟩
  · refine s_retU (eu_tup (vs := eV [sPart, [la]]) (ea_cons ev_c (ea_cons (ev_op (ev_is ev_c (w := vS abnox) (by rw [eAbnox])) (ev_op (ev_var rfl) ev_c (rv_mod (by decide))) (rv_ixSS (by decide) a3)) ea_nil)) (Nat.le_of_ble_eq_true rfl)) fun a H6 hn e6 h6 => ?_
    refine q _ H6 ((((e02.trans e3).trans e4).trans e5).trans e6) ⟨a, _, rfl, h6, .part [la] (Nat.le_refl 1) (by show 1 ≤ 6; decide) fun b hb => ?_⟩
    rw [List.mem_singleton.mp hb]
    exact abnox_az w3
end
end Cb
/-! K22: the law's book is made. -/
namespace Cb
open PySem PySem.Spec PyProof.Rows L2 Evl
open C8 (Cal Met Mak pe_c pe_mk pe_mt pe_mt0 pe_gc)

section
variable {K : PySem.W.Frag} {σ : L2.St} {H H' : Hp} {D : Ends} {tu tz : TS}
/-- a loop over a dict's keys, the dict locked -/
theorem q_lockKeys {d : Addr} {kvs : List (Key × V)} {i j : Nat} (hd : H d = some (.dK kvs)) (hσ : σ[i]? = some (some (.ref d))) (Pv : Obj → Nat → L2.St → Hp → Prop) (h0 : ∀ od, Pv od 0 σ (upd H d (.frz od (.dK kvs)))) (hf : ∀ od i σ' H', i ≤ kvs.length → Pv od i σ' H' → H' d = some (.frz od (.dK kvs)))
    (hs : ∀ od i k v σ' H' D', kvs[i]? = some (k, v) → Pv od i σ' H' → tu { nx := Pv od (i + 1), rt := D', ct := Pv od (i + 1), bk := fun σ' H' => H' d = some (.frz od (.dK kvs)) ∧ tz D σ' (upd H' d (.dK kvs)) } (σ'.set j (some (kV k))) H')
    (he : ∀ od σ' H', Pv od kvs.length σ' H' → tz D σ' (upd H' d (.dK kvs))) : tSeq (tLock (tFor (iKeys (tVar i)) (gName j) tu)) tz D σ H := by
  refine ⟨d, .dK kvs, hd, trivial, fun od => ?_⟩
  refine ⟨.ref d, hσ, d, od, rfl, .inl ⟨kvs, upd_same, ?_⟩⟩
  refine for_it walk_keys (Pv od) (h0 od) (fun i σ' H' hi p => hf od i σ' H' hi p) (fun i x σ' Ha Hb hlt p y => ?_) (fun σ' H' p => ⟨hf od _ σ' H' (Nat.le_refl _) p, he od σ' H' p⟩)
  obtain ⟨rfl, k, v, hk, rfl⟩ := y
  exact hs od i k v σ' Hb _ hk p
end
theorem RowsAt.exD {H H' : Hp} {r : Rows} (e : ExD H H') (h : RowsAt H r) : RowsAt H' r := fun x hx => e.tup (h x hx)
theorem ExD.dict {H H' : Hp} (e : ExD H H') {d : Addr} {kvs : List (Key × V)} (hd : H d = some (.dK kvs)) {o : HO} : ExD H (upd H' d o) := fun a u ha x y => by
  rw [upd_ne (fun z => by
    subst z
    rw [hd] at ha
    exact x _ (Option.some.inj ha).symm)]
  exact e a u ha x y
theorem BookAt.unfrz {K : PySem.W.Frag} {H : Hp} {p d : Addr} {c : Cd} {b : Bk} {od : Obj} {u o : HO} (hd : H d = some (.frz od u)) (h : BookAt K H p c b) : BookAt K (upd H d o) p c b := by
  have key : ∀ (a : Addr) (v : HO), H a = some v → (∀ x y, v ≠ .frz x y) → (upd H d o) a = some v := fun a v ha hv => by
    rw [upd_ne (fun z => by
      subst z
      rw [hd] at ha
      exact hv _ _ (Option.some.inj ha).symm)]
    exact ha
  obtain ⟨ok, dx, cp, dn, de, r, h1, ⟨ok2, dx2, lp, h2, h3⟩, h4, h5, h6, h7⟩ := h
  exact ⟨ok, dx, cp, dn, de, r, key _ _ h1 (fun _ _ z => by cases z), ⟨ok2, dx2, lp, key _ _ h2 (fun _ _ z => by cases z), key _ _ h3 (fun _ _ z => by cases z)⟩, key _ _ h4 (fun _ _ z => by cases z), key _ _ h5 (fun _ _ z => by cases z), h6, fun x hx => key _ _ (h7 x hx) (fun _ _ z => by cases z)⟩
local macro_rules | `(tactic| tm_at "side") => `(tactic| (first | assumption | omega | ((try simp only [List.length_append, List.length_cons, List.length_nil, List.length_map, List.length_range]); omega) | exact ⟨by omega, by omega⟩ | exact .inl ⟨by omega, by omega⟩ | exact .inr ⟨by omega, by omega⟩ | decide))
local macro_rules | `(tactic| tm_at "rv") => `(tactic| (first
  | exact rv_I0
  | exact rv_mod (by tm_at "side")
  | exact rv_I (by tm_at "side")
  | exact rv_eq rfl
  | exact rv_ne rfl
  | exact rv_addS (by tm_at "side")
  | exact rv_ixSS (by tm_at "side") (by assumption)
  | exact rv_ixL (by assumption) (by assumption)
  | exact rv_ixT (by assumption) (by assumption)
  | exact rv_inS
  | exact rv_isN
  | exact rv_notN
  | assumption))
local macro_rules | `(tactic| tm_at "eo") => `(tactic| (first | exact eo_none | (apply eo_some; tm_at "ev")))
local macro_rules | `(tactic| tm_at "ea") => `(tactic| (first | exact ea_nil | (apply ea_cons; (tm_at "ev"); (tm_at "ea"))))
local macro_rules | `(tactic| tm_at "sp") => `(tactic| assumption)
local macro_rules | `(tactic| tm_at "ev") => `(tactic| (first
  | exact ev_c
  | exact ev_var rfl
  | assumption
  | (apply ev_op; (tm_at "ev"); (tm_at "ev"); (tm_at "rv"))
  | (apply ev_un (hr := ru_neg); tm_at "ev")
  | (apply ev_fld; (tm_at "ev"); assumption; assumption; assumption; rfl)
  | (apply ev_lenStr; (tm_at "ev"); (tm_at "side"))
  | (apply ev_lenDT; (tm_at "ev"); assumption)
  | (apply ev_len; (tm_at "ev"); assumption)
  | (apply ev_lenT; (tm_at "ev"); assumption)
  | (apply ev_slS; (tm_at "ev"); (tm_at "eo"); (tm_at "eo"); (tm_at "side"))
  | (apply ev_call; (tm_at "ea"); (tm_at "sp"))
  | (apply ev_meth; (tm_at "ev"); assumption; rfl; (tm_at "ea"); (tm_at "sp"))
  | (apply ev_isStr; tm_at "ev")
  | (apply ev_isInt; tm_at "ev")
  | (apply ev_isBoolI; tm_at "ev")
  | (apply ev_isList; (tm_at "ev"); assumption)
  | (apply ev_isTuple; (tm_at "ev"); assumption)
  | (apply ev_abs; tm_at "ev")
  | (apply ev_int1; tm_at "ev")
  | (apply ev_max2; (tm_at "ev"); (tm_at "ev"))
  | (apply ev_sindex; (tm_at "ev"); (tm_at "ev"); assumption)
  | (apply ev_dinK; (tm_at "ev"); (tm_at "ev"); assumption)
  | (apply ev_dinT; (tm_at "ev"); (tm_at "ev"); assumption; assumption)
  | (apply ev_chain; (tm_at "ev"); (tm_at "ev"); (tm_at "rv"); (intro _; tm_at "ev"); (intro _; tm_at "rv"))
  | (apply ev_andV; (tm_at "ev"); (intro _; tm_at "ev"))
  | (apply ev_orV; (tm_at "ev"); (intro _; tm_at "ev"))
  | (apply ev_notV; tm_at "ev")))
local macro_rules | `(tactic| tm_at "et") => `(tactic| (first
  | assumption
  | (apply et_test; tm_at "ev")
  | (apply et_B; tm_at "ev")
  | (apply et_not; tm_at "et")
  | (apply et_and; (tm_at "et"); (intro _; tm_at "et"))
  | (apply et_or; (tm_at "et"); (intro _; tm_at "et"))))
/-- tests by sums -/
local macro_rules | `(tactic| tm_at "bf") => `(tactic| (simp only [Bool.not_true, Bool.not_false, Bool.false_or, Bool.true_and, Bool.and_true, Bool.or_false, Bool.or_eq_false_iff, Bool.and_eq_true, decide_eq_false_iff_not, decide_eq_true_eq, Bool.not_eq_false', Bool.not_eq_true']; omega))

section
variable {P : Program} {w : World} {K : PySem.W.Frag} {mg : Str → Option Value} {base : Heap} {H : Hp}
def sp_law_made (K : PySem.W.Frag) : Sp := fun vs H Q _ => ∃ (t d : Addr) (c : Cd) (r : Rows), vs = [.ref t, .ref d] ∧ CodeTup H t c ∧ H d = some (.dK (rN r)) ∧ RowsAt H r ∧ BkOk c (rB r) ∧ 1 ≤ r.length ∧ r.length ≤ 100 ∧
  ∀ v H', ExD H H' → H' d = some (.dK (rN r)) → (∃ bp, v = .ref bp ∧ BookAt K H' bp c (rB r)) → Q v H'
theorem evr_ixT {σ : L2.St} {ta tb : TE} {t : Addr} {xs : List V} {i : Int} {v : V} (h1 : Ev ta σ H (.ref t)) (h2 : Ev tb σ H (.int i)) (ht : SqT K H t xs) (ha : atI xs i = some v) : Ev (tOp (rIxT K) ta tb) σ H v := ev_op h1 h2 (rv_ixT ht ha)
theorem rB_take (r : Rows) (i : Nat) (x : Nat × Ent × Addr) (h : r[i]? = some x) : rB (r.take (i + 1)) = rB (r.take i) ++ [(x.1, x.2.1)] := by
  unfold rB
  rw [List.take_succ, h, List.map_append]
  rfl
theorem bk_take {c : Cd} {r : Rows} (ok : BkOk c (rB r)) {i : Nat} {x : Nat × Ent × Addr} (h : r[i]? = some x) : (∀ y ∈ rB (r.take i), y.1 ≠ x.1) ∧ (∀ y ∈ rB (r.take i), y.2 ≠ x.2.1) ∧ EntOk x.2.1 ∧ x.1 < manyN c := by
  have hm : (x.1, x.2.1) ∈ rB r := List.mem_map.mpr ⟨x, List.mem_of_getElem? h, rfl⟩
  have hsplit : rB r = rB (r.take i) ++ (x.1, x.2.1) :: rB (r.drop (i + 1)) := by
    have hl := (List.getElem?_eq_some_iff.mp h).1
    have : r = r.take i ++ x :: r.drop (i + 1) := by
      rw [← (List.getElem?_eq_some_iff.mp h).2, List.getElem_cons_drop, List.take_append_drop]
    rw [this]
    unfold rB
    rw [List.map_append, List.map_cons, ← this]
  have n1 := ok.nums
  have n2 := ok.unl
  rw [hsplit, List.map_append, List.map_cons] at n1 n2
  refine ⟨fun y hy z => ?_, fun y hy z => ?_, ok.ents _ hm, ok.lt _ hm⟩
  · exact (List.nodup_append.mp n1).2.2 y.1 (List.mem_map.mpr ⟨y, hy, rfl⟩) x.1 (List.mem_cons_self ..) z
  · exact (List.nodup_append.mp n2).2.2 y.2 (List.mem_map.mpr ⟨y, hy, rfl⟩) x.2.1 (List.mem_cons_self ..) z
theorem c_law_made (T : Tx K mg) : Cal P w K mg base 6 "_law_made" (sp_law_made K) [] := by
  refine cal_of T.d_law_made T.a_law_made sc_law_made (fun _ _ _ _ _ _ us hl => match us, hl with | [_, _], _ => rfl) (fun vs H Q E h => by (repeat (obtain ⟨_, h⟩ := h)); subst_vars; rfl) fun f cdv A outer s H vs Q E hr h => ?_
  obtain ⟨t, d, c, r, rfl, hct, hd, hra, bok, hr1, hrl, q⟩ := h
  obtain ⟨ok, wp, ht, hwp⟩ := hct
  refine ⟨_, (pss_cons (ps_set (i := 2) sc_law_made.nd rfl (Or.inl rfl) (pe_mk (mk_Book T) hr (by decide) rfl (pa_cons (pe_mk (mk_Code T) hr (by decide) rfl (pa_cons (pe_ix ix_tup (pv 0) pe_int (fun _ _ => rfl)) (pa_cons (pe_callTy call_list_of rfl T.f_list bt_list (pa_cons (pe_ix ix_tup (pv 0) pe_int (fun _ _ => rfl)) pa_nil)) (pa_cons (pe_ix ix_tup (pv 0) pe_int (fun _ _ => rfl)) pa_nil)))) pa_nil)))
  (pss_cons (ps_lock (ps_for PassesOwn.never rfl (pi_keys (pv 1)) (pg_name (i := 3) sc_law_made.nd rfl (Or.inl rfl))
    (pss_one (ps_if (pt_cmpR op_ne (pe_mt (m_Book_put T) hr (by decide) (pv 2) (pa_cons (pe_dget (hu_of hr) (pv 1) (pv 3) (fun _ _ => rfl)) (pa_cons (pv 3) pa_nil))) (pv 3) (nomark _))
    (pss_one (ps_ret pe_non))
    pss_nil))))
  (pss_one (ps_ret (pv 2))))), ?_⟩
  have hts := st_of (K := K) ht
  have a0 : atI [V.str (S c.al), .ref wp, .int c.rs] 0 = some (.str (S c.al)) := rfl
  have a1 : atI [V.str (S c.al), .ref wp, .int c.rs] 1 = some (.ref wp) := rfl
  have a2 : atI [V.str (S c.al), .ref wp, .int c.rs] 2 = some (.int c.rs) := rfl
  refine q_asgR (R := fun v H2 => ∃ q, v = .ref q ∧ BookAt K H2 q c []) (evr_make (RA := fun vs H2 => ∃ cp, vs = [.ref cp] ∧ CodeAt K H2 cp c) (ear_cons (R := fun v H2 => ∃ q, v = .ref q ∧ CodeAt K H2 q c) (evr_make (RA := fun vs H2 => ∃ lp, vs = [.str (S c.al), .ref lp, .int c.rs] ∧ H2 lp = some (.lst (c.ws.map V.int))) ?_ fun vs H1 e1 hr => ?_) fun y H1 e1 hr => ?_) fun vs H1 e1 hr => ?_) fun v H1 e1 hr => ?_
  · refine ear_cons (Ev.r (by tm_at "ev")) fun y1 H1 e1 hy1 => ear_cons (EvL.r (xs := c.ws.map V.int) (el_listT ?_ (sq_of (e1 _ _ hwp)))) fun y2 H2 e2 hy2 => ?_
    · have hts1 := ex_t e1 hts
      tm_at "ev"
    · obtain ⟨lp, rfl, hlp⟩ := hy2
      have hts2 := ex_t (e1.trans e2) hts
      refine (EvA.r (vs := [.int c.rs]) (by tm_at "ea")).imp fun us H3 e3 hu => ?_
      exact ⟨lp, by rw [hy1, hu], e3 _ _ hlp⟩
  · obtain ⟨lp, rfl, hlp⟩ := hr
    exact fun x dx hx hdx hne Q q => spm_Code ok hlp x dx hx hdx hne Q q
  · obtain ⟨q, rfl, hc⟩ := hr
    exact ear_nil.imp fun us H2 e2 hu => ⟨q, by rw [hu], hc.ex e2⟩
  · obtain ⟨cp, rfl, hc⟩ := hr
    exact fun x dx hx hdx hne Q q => spm_Book hc x dx hx hdx hne Q q
  obtain ⟨bp, rfl, hb⟩ := hr
  have hd1 := e1 _ _ hd
  have rNl : (rN r).length = r.length := List.length_map ..
  refine q_lockKeys hd1 rfl (fun od i σ' H' => ∃ x3, σ' = [some (.ref t), some (.ref d), some (.ref bp), x3] ∧ ExD H H' ∧ H' d = some (.frz od (.dK (rN r))) ∧ BookAt K H' bp c (rB (r.take i))) (fun od => ?_) (fun od i σ' H' _ hP => by obtain ⟨x3, rfl, _, h, _⟩ := hP; exact h) (fun od i k v σ' H' D' hk hP => ?_) (fun od σ' H' hP => ?_)
  · refine ⟨none, rfl, (ExD.of e1).trans (ExD.updK hd1), upd_same, ?_⟩
    obtain ⟨bk0, dx, cp, dn, de, r0, h1, ⟨ok2, dx2, lp, h2, h3⟩, h4, h5, h6, h7⟩ := hb
    have hr0 : r0 = [] := List.map_eq_nil_iff.mp h6
    have nd : dn ≠ d := fun z => by
      subst z
      rw [hd1, hr0] at h4
      have : rN r = [] := by
        have := Option.some.inj h4
        injection this
      have : r = [] := List.map_eq_nil_iff.mp this
      rw [this] at hr1
      exact absurd hr1 (by decide)
    have key : ∀ (a : Addr) (v : HO), H1 a = some v → (∀ x, v ≠ .dK x) → (upd H1 d (.frz od (.dK (rN r)))) a = some v := fun a v ha hv => by
      rw [upd_ne (fun z => by
        subst z
        rw [hd1] at ha
        exact hv _ (Option.some.inj ha).symm)]
      exact ha
    exact ⟨bk0, dx, cp, dn, de, r0, key _ _ h1 (fun _ z => by cases z), ⟨ok2, dx2, lp, key _ _ h2 (fun _ z => by cases z), key _ _ h3 (fun _ z => by cases z)⟩, by rw [upd_ne nd]; exact h4, key _ _ h5 (fun _ z => by cases z), h6, fun x hx => key _ _ (h7 x hx) (fun _ z => by cases z)⟩
  · obtain ⟨x3, rfl, ed, hfz, hbk⟩ := hP
    obtain ⟨x, hx, hxe⟩ : ∃ x, r[i]? = some x ∧ (Sum.inl (x.1 : Int), V.ref x.2.2) = (k, v) := by
      unfold rN at hk
      rw [List.getElem?_map] at hk
      cases hri : r[i]? with
      | none =>
        rw [hri] at hk
        cases hk
      | some x =>
        rw [hri] at hk
        exact ⟨x, rfl, Option.some.inj hk⟩
    obtain rfl : Sum.inl (x.1 : Int) = k := (Prod.mk.inj hxe).1
    obtain ⟨b1, b2, b3, b4⟩ := bk_take bok hx
    have hxa := ed.tup (hra x (List.mem_of_getElem? hx))
    have hval : valV (rN r) (.inl (x.1 : Int)) = some (.ref x.2.2) := by
      rw [valV_rN]
      have hnd := bok.nums
      unfold rB at hnd
      rw [List.map_map] at hnd
      have := find_of_nodup (f := fun y : Nat × Ent × Addr => y.1) hnd (List.mem_of_getElem? hx)
      have e2 : (fun y : Nat × Ent × Addr => decide ((y.1 : Int) = (x.1 : Int))) = fun y => decide (y.1 = x.1) := by
        funext y
        rw [decide_eq_decide]
        omega
      rw [e2, this]
      rfl
    have hlen : (rB (r.take i)).length < 300 := by
      rw [rB_length, List.length_take]
      omega
    have hbk' := hbk
    obtain ⟨_, dx, cp, dn, de, r0, hbp, _⟩ := hbk'
    refine ⟨.ref bp, rfl, bp, dx, _, rfl, hbp, rfl, .ref d, rfl, .int (x.1 : Int), rfl, d, .ref x.2.2, rfl, ?_, .int (x.1 : Int), rfl, bp, x.2.2, c, rB (r.take i), x.2.1, x.1, rfl, hbk, hxa, b3, b1, b2, b4, hlen, fun H2 ed2 hb2 => ?_⟩
    · exact .inl ⟨rN r, .inl (x.1 : Int), .inr ⟨od, hfz⟩, rfl, hval.symm⟩
    · refine ⟨.int (x.1 : Int), rfl, rfl, false, by rw [decide_eq_true rfl]; rfl, ?_⟩
      rw [← rB_take r i x hx] at hb2
      exact ⟨_, rfl, ed.trans ed2, ed2 _ _ hfz (fun _ z => by cases z) (fun _ z => by cases z), hb2⟩
  · obtain ⟨x3, rfl, ed, hfz, hbk⟩ := hP
    rw [rNl, List.take_length] at hbk
    refine s_ret (ev_var rfl) fun H2 e2 => ?_
    refine q _ H2 ((ed.dict hd).trans (ExD.of e2)) (e2 _ _ upd_same) ⟨bp, rfl, (hbk.unfrz hfz).ex e2⟩
end
end Cb
/-! K23: the law's entries. -/
namespace Cb
open PySem PySem.Spec PyProof.Rows L2 Evl
open C8 (Cal Met Mak pe_c pe_mk pe_mt pe_mt0 pe_gc)

theorem entOk_asc {e : Ent} (h : EntOk e) : ∀ x ∈ e, Asc x := by
  have hp : Asc sPhrase := fun b hb => by revert b; decide
  have ha : Asc sPart := fun b hb => by revert b; decide
  have hn : Asc sEnd := fun b hb => by revert b; decide
  have hj : ∀ ws : List W, (∀ y ∈ ws, WordOk y) → Asc (joinW ws) := by
    intro ws
    induction ws with
    | nil => exact fun _ b hb => nomatch hb
    | cons y ws ih =>
      intro h b hb
      cases ws with
      | nil =>
        have := (h y (List.mem_cons_self ..)).2.2 b hb
        omega
      | cons z r =>
        rcases List.mem_append.mp (show b ∈ y ++ 32 :: joinW (z :: r) from hb) with hb | hb
        · have := (h y (List.mem_cons_self ..)).2.2 b hb
          omega
        · rcases List.mem_cons.mp hb with rfl | hb
          · decide
          · exact ih (fun u hu => h u (List.mem_cons_of_mem _ hu)) b hb
  cases h with
  | phrase ws w1 w6 wo =>
    intro x hx
    rcases List.mem_cons.mp hx with rfl | hx
    · exact hp
    · rw [List.mem_singleton.mp hx]
      exact hj ws wo
  | part l w1 w6 wo =>
    intro x hx
    rcases List.mem_cons.mp hx with rfl | hx
    · exact ha
    · rw [List.mem_singleton.mp hx]
      exact fun b hb => by
        have := wo b hb
        omega
  | fin =>
    intro x hx
    rw [List.mem_singleton.mp hx]
    exact hn
theorem fl_TS {e : Ent} (h : ∀ x ∈ e, Asc x) : Fl0 1 (.tuple (e.map dS)) := fl_tup fun d hd => by
  obtain ⟨x, hx, rfl⟩ := List.mem_map.mp hd
  exact fl_S (h x hx)
theorem nodup_sub_len {α : Type} [DecidableEq α] : ∀ {l m : List α}, l.Nodup → (∀ x ∈ l, x ∈ m) → l.length ≤ m.length
  | [], m, _, _ => Nat.zero_le _
  | x :: l, m, nd, h => by
    have hx := h x (List.mem_cons_self ..)
    have nd' := List.nodup_cons.mp nd
    have := nodup_sub_len (l := l) (m := m.erase x) nd'.2 fun y hy => by
      refine (List.mem_erase_of_ne (fun z => ?_)).mpr (h y (List.mem_cons_of_mem _ hy))
      subst z
      exact nd'.1 hy
    rw [List.length_erase_of_mem hx] at this
    have hm : 0 < m.length := List.length_pos_of_mem hx
    rw [List.length_cons]
    omega
theorem cutG_len {α : Type} (l : List α) (i j : Nat) : (cutG l (some (i : Int)) (some (j : Int))).length ≤ j - i := by
  unfold cutG
  rw [HT.sIx_nat, HT.sIx_nat, List.length_take]
  omega
/-- refs to tuples -/
def RefsTo (R : Ent → Prop) (xs : List V) (H : Hp) (as : List (Addr × Ent)) : Prop := xs = as.map (fun x => V.ref x.1) ∧ ∀ x ∈ as, H x.1 = some (.tup (eV x.2)) ∧ R x.2
theorem refs_pick {H : Hp} {R : Nat → Ent → Prop} {R2 : Ent → Prop} (hR : ∀ k e, R k e → R2 e) : ∀ {xs : List V}, (∀ k z, xs[k]? = some z → ∃ a e, z = .ref a ∧ H a = some (.tup (eV e)) ∧ R k e) → ∃ as, RefsTo R2 xs H as := by
  intro xs
  induction xs generalizing R with
  | nil => exact fun _ => ⟨[], rfl, fun x h => nomatch h⟩
  | cons x xs ih =>
    intro h
    obtain ⟨a, e, rfl, h1, h2⟩ := h 0 x rfl
    obtain ⟨as, h3, h4⟩ := ih (R := fun k e => R (k + 1) e) (fun k e h => hR _ e h) fun k z hz => h (k + 1) z (by simpa using hz)
    refine ⟨(a, e) :: as, by rw [h3]; rfl, fun y hy => ?_⟩
    rcases List.mem_cons.mp hy with rfl | hy
    · exact ⟨h1, hR _ _ h2⟩
    · exact h4 y hy
theorem RefsTo.ex {R : Ent → Prop} {xs : List V} {H H' : Hp} {as : List (Addr × Ent)} (e : Ex H H') (h : RefsTo R xs H as) : RefsTo R xs H' as := ⟨h.1, fun x hx => ⟨e _ _ (h.2 x hx).1, (h.2 x hx).2⟩⟩
theorem RefsTo.app {R : Ent → Prop} {xs ys : List V} {H : Hp} {as bs : List (Addr × Ent)} (h : RefsTo R xs H as) (h2 : RefsTo R ys H bs) : RefsTo R (xs ++ ys) H (as ++ bs) := ⟨by rw [h.1, h2.1, List.map_append], fun x hx => (List.mem_append.mp hx).elim (h.2 x) (h2.2 x)⟩
section
variable {K : PySem.W.Frag} {σ : L2.St} {H H' : Hp} {ta tb te td ty : TE} {xs ys : List V} {p d : Addr}
theorem evr_cat {R : V → Hp → Prop} (h1 : Ev ta σ H (.ref p)) (hp : H p = some (.lst xs)) (h2 : EvR tb σ H R) (hR : ∀ y H1, Ex H H1 → R y H1 → ∃ q ys, y = .ref q ∧ H1 q = some (.lst ys) ∧ xs.length + ys.length ≤ 100000) :
    EvR (tOp rCat ta tb) σ H (fun v H2 => ∃ (r q : Addr) (H1 : Hp) (ys : List V), v = .ref r ∧ H r = none ∧ Ex H H1 ∧ Ex H1 H2 ∧ R (.ref q) H1 ∧ H1 q = some (.lst ys) ∧ H2 r = some (.lst (xs ++ ys))) := fun H1 e Q k =>
  h1 H1 e _ fun H2 e2 => h2 H2 (e.trans e2) _ fun y H3 e3 ry => by
    obtain ⟨q, ys, rfl, hq, hz⟩ := hR y H3 ((e.trans e2).trans e3) ry
    exact ⟨p, q, xs, ys, rfl, rfl, ((e.trans e2).trans e3) p _ hp, hq, sz_of hz, fun r hr => k _ _ ((e2.trans e3).trans (Ex.new hr)) ⟨r, q, H3, ys, rfl, fresh_back ((e.trans e2).trans e3) hr, (e.trans e2).trans e3, Ex.new hr, ry, hq, upd_same⟩⟩
theorem still_tup {a : V} {R : Ent → Prop} : Still (fun H => ∃ (b : Addr) (e : Ent), a = .ref b ∧ H b = some (.tup (eV e)) ∧ R e) where
  ex := fun e ⟨b, en, h1, h2, h3⟩ => ⟨b, en, h1, e _ _ h2, h3⟩
  lst := fun {Ha D xs ys} hD ⟨b, en, h1, h2, h3⟩ => ⟨b, en, h1, by
    rw [upd_ne (fun z => by
      subst z
      rw [hD] at h2
      cases h2)]
    exact h2, h3⟩
/-- e not in d.values() -/
theorem ev_notVals {b : Addr} {e : Ent} {r : Rows} (h1 : Ev ty σ H (.ref b)) (h2 : Ev td σ H (.ref d)) (hb : H b = some (.tup (eV e))) (hd : H d = some (.dK (rN r))) (hr : RowsAt H r) (he : ∀ x ∈ e, Asc x) (hra : ∀ x ∈ r, ∀ y ∈ x.2.1, Asc y) :
    Ev (tNotVals K ty td) σ H (.bl (!(rB r).any fun x => decide (x.2 = e))) := fun H1 ex Q q => h1 H1 ex _ fun H2 e2 => h2 H2 (ex.trans e2) _ fun H3 e3 => by
  have e03 := (ex.trans e2).trans e3
  refine ⟨d, rN r, .tuple (e.map dS), r.map fun x => .tuple (x.2.1.map dS), rfl, .inl (e03 _ _ hd), dp_TS (st_of (e03 _ _ hb)), ?_, (fl_TS he).shaped, Nat.le_trans (fl_TS he).2 (by decide), ?_, ?_⟩
  · unfold rN
    rw [List.map_map]
    have : ∀ r : Rows, RowsAt H3 r → DpAll K H3 (r.map fun x => V.ref x.2.2) (r.map fun x => PyData.tuple (x.2.1.map dS)) := by
      intro r
      induction r with
      | nil => exact fun _ => .nil
      | cons x r ih => exact fun h => .cons (dp_TS (st_of (h x (List.mem_cons_self ..)))) (ih fun y hy => h y (List.mem_cons_of_mem _ hy))
    exact this r (hr.ex e03)
  · intro z hz
    obtain ⟨x, hx, rfl⟩ := List.mem_map.mp hz
    exact (fl_TS (hra x hx)).1
  · have : (!(r.map fun x => PyData.tuple (x.2.1.map dS)).any fun z => PyData.eqv z (.tuple (e.map dS))) = !(rB r).any fun x => decide (x.2 = e) := by
      unfold rB
      rw [List.any_map, List.any_map]
      congr 2
      funext x
      exact eqv_TS _ _
    rw [this]
    exact q H3 (e2.trans e3)
end
local macro_rules | `(tactic| tm_at "side") => `(tactic| (first | assumption | omega | ((try simp only [List.length_append, List.length_cons, List.length_nil, List.length_map, List.length_range]); omega) | exact ⟨by omega, by omega⟩ | exact .inl ⟨by omega, by omega⟩ | exact .inr ⟨by omega, by omega⟩ | decide))
local macro_rules | `(tactic| tm_at "rv") => `(tactic| (first
  | exact rv_I0
  | exact rv_mod (by tm_at "side")
  | exact rv_I (by tm_at "side")
  | exact rv_eq rfl
  | exact rv_ne rfl
  | exact rv_addS (by tm_at "side")
  | exact rv_ixSS (by tm_at "side") (by assumption)
  | exact rv_ixL (by assumption) (by assumption)
  | exact rv_ixT (by assumption) (by assumption)
  | exact rv_inS
  | exact rv_isN
  | exact rv_notN
  | assumption))
local macro_rules | `(tactic| tm_at "eo") => `(tactic| (first | exact eo_none | (apply eo_some; tm_at "ev")))
local macro_rules | `(tactic| tm_at "ea") => `(tactic| (first | exact ea_nil | (apply ea_cons; (tm_at "ev"); (tm_at "ea"))))
local macro_rules | `(tactic| tm_at "sp") => `(tactic| assumption)
local macro_rules | `(tactic| tm_at "ev") => `(tactic| (first
  | exact ev_c
  | exact ev_var rfl
  | assumption
  | (apply ev_op; (tm_at "ev"); (tm_at "ev"); (tm_at "rv"))
  | (apply ev_un (hr := ru_neg); tm_at "ev")
  | (apply ev_fld; (tm_at "ev"); assumption; assumption; assumption; rfl)
  | (apply ev_lenStr; (tm_at "ev"); (tm_at "side"))
  | (apply ev_lenDT; (tm_at "ev"); assumption)
  | (apply ev_len; (tm_at "ev"); assumption)
  | (apply ev_lenT; (tm_at "ev"); assumption)
  | (apply ev_slS; (tm_at "ev"); (tm_at "eo"); (tm_at "eo"); (tm_at "side"))
  | (apply ev_call; (tm_at "ea"); (tm_at "sp"))
  | (apply ev_meth; (tm_at "ev"); assumption; rfl; (tm_at "ea"); (tm_at "sp"))
  | (apply ev_isStr; tm_at "ev")
  | (apply ev_isInt; tm_at "ev")
  | (apply ev_isBoolI; tm_at "ev")
  | (apply ev_isList; (tm_at "ev"); assumption)
  | (apply ev_isTuple; (tm_at "ev"); assumption)
  | (apply ev_abs; tm_at "ev")
  | (apply ev_int1; tm_at "ev")
  | (apply ev_max2; (tm_at "ev"); (tm_at "ev"))
  | (apply ev_sindex; (tm_at "ev"); (tm_at "ev"); assumption)
  | (apply ev_dinK; (tm_at "ev"); (tm_at "ev"); assumption)
  | (apply ev_dinT; (tm_at "ev"); (tm_at "ev"); assumption; assumption)
  | (apply ev_chain; (tm_at "ev"); (tm_at "ev"); (tm_at "rv"); (intro _; tm_at "ev"); (intro _; tm_at "rv"))
  | (apply ev_andV; (tm_at "ev"); (intro _; tm_at "ev"))
  | (apply ev_orV; (tm_at "ev"); (intro _; tm_at "ev"))
  | (apply ev_notV; tm_at "ev")))
local macro_rules | `(tactic| tm_at "et") => `(tactic| (first
  | assumption
  | (apply et_test; tm_at "ev")
  | (apply et_B; tm_at "ev")
  | (apply et_not; tm_at "et")
  | (apply et_and; (tm_at "et"); (intro _; tm_at "et"))
  | (apply et_or; (tm_at "et"); (intro _; tm_at "et"))))
/-- tests by sums -/
local macro_rules | `(tactic| tm_at "bf") => `(tactic| (simp only [Bool.not_true, Bool.not_false, Bool.false_or, Bool.true_and, Bool.and_true, Bool.or_false, Bool.or_eq_false_iff, Bool.and_eq_true, decide_eq_false_iff_not, decide_eq_true_eq, Bool.not_eq_false', Bool.not_eq_true']; omega))

section
variable {P : Program} {w : World} {K : PySem.W.Frag} {mg : Str → Option Value} {base : Heap} {H : Hp}
theorem s_dputK {σ : L2.St} {tv td ty : TE} {D : Ends} {x : V} {a : Addr} {kvs : List (Key × V)} {m : Int} (hv : Ev tv σ H x) (hd : Ev td σ H (.ref a)) (hy : Ev ty σ H (.int m)) (ha : H a = some (.dK kvs)) (hl : kvs.length < 10000) (k : ∀ H1, Ex H H1 → D.nx σ (upd H1 a (.dK (putK kvs (.inl m) x)))) : sDPut td ty tv D σ H :=
  hv H (Ex.refl H) _ fun H1 e1 => hd H1 e1 _ fun H2 e2 => hy H2 (e1.trans e2) _ fun H3 e3 => ⟨a, _, rfl, DPut.k (k := .inl m) (((e1.trans e2).trans e3) _ _ ha) (sz_lt (by omega)), k H3 ((e1.trans e2).trans e3)⟩
theorem bk_snoc {c : Cd} {b : Bk} {n : Nat} {e : Ent} (ok : BkOk c b) (he : EntOk e) (h1 : ∀ x ∈ b, x.1 ≠ n) (h2 : ∀ x ∈ b, x.2 ≠ e) (hn : n < manyN c) (hl : b.length < 300) : BkOk c (b ++ [(n, e)]) := by
  refine ⟨?_, ?_, ?_, ?_, ?_⟩
  · intro x hx
    rcases List.mem_append.mp hx with h | h
    · exact ok.ents x h
    · rw [List.mem_singleton.mp h]
      exact he
  · rw [List.map_append]
    refine List.nodup_append.mpr ⟨ok.nums, List.nodup_cons.mpr ⟨(fun h => nomatch h), List.nodup_nil⟩, fun x hx y hy => ?_⟩
    obtain ⟨z, hz, rfl⟩ := List.mem_map.mp hx
    rw [List.mem_singleton.mp hy]
    exact h1 z hz
  · rw [List.map_append]
    refine List.nodup_append.mpr ⟨ok.unl, List.nodup_cons.mpr ⟨(fun h => nomatch h), List.nodup_nil⟩, fun x hx y hy => ?_⟩
    obtain ⟨z, hz, rfl⟩ := List.mem_map.mp hx
    rw [List.mem_singleton.mp hy]
    exact h2 z hz
  · intro x hx
    rcases List.mem_append.mp hx with h | h
    · exact ok.lt x h
    · rw [List.mem_singleton.mp h]
      exact hn
  · rw [List.length_append]
    show b.length + 1 ≤ 300
    omega
def EntsR (c : Cd) (v : V) (H' : Hp) : Prop := ∃ (t wp d : Addr) (ws : List W) (r : Rows), v = .ref t ∧ H' t = some (.tup [.ref wp, .ref d]) ∧ H' wp = some (.lst (ws.map vS)) ∧ ws.length = 6 ∧ (∀ x ∈ ws, Voc x) ∧ H' d = some (.dK (rN r)) ∧ RowsAt H' r ∧ BkOk c (rB r) ∧ r.length ≤ 16 ∧ ∃ n, (n, [sEnd]) ∈ rB r
def sp_law_entries (K : PySem.W.Frag) : Sp := fun vs H Q _ => ∃ (t p : Addr) (c : Cd) (ns : List Int), vs = [.ref t, .ref p, .bl true] ∧ CodeTup H t c ∧ SqL K H p (ns.map V.int) ∧ RetR (EntsR c) H Q
theorem r_law_entries {t p : Addr} {c : Cd} {ns : List Int} (h1 : CodeTup H t c) (h2 : SqL K H p (ns.map V.int)) : SpR (sp_law_entries K) [.ref t, .ref p, .bl true] H (EntsR c) := fun H1 e Q q E => ⟨t, p, c, ns, rfl, h1.ex e, ex_l e h2, q⟩
/-- numbers that are no more free, from n on -/
theorem all_taken {m n s : Nat} {ks : List Nat} (hm : 17 ≤ m) (hs : s ≤ 17) (h : ∀ i, i < s → (n + i) % m ∈ ks) : s ≤ ks.length := by
  have hl : ((List.range s).map fun i => (n + i) % m).length = s := by rw [List.length_map, List.length_range]
  rw [← hl]
  refine nodup_sub_len (List.pairwise_map.mpr (List.Pairwise.imp_of_mem (fun {i j} hi hj hij => ?_) List.pairwise_lt_range)) fun x hx => ?_
  · intro z
    have hj' := List.mem_range.mp hj
    have h1 := Nat.div_add_mod (n + i) m
    have h2 := Nat.div_add_mod (n + j) m
    have h3 : (n + i) / m ≤ (n + j) / m := Nat.div_le_div_right (by omega)
    rcases Nat.lt_or_ge ((n + i) / m) ((n + j) / m) with h4 | h4
    · have h5 : m * ((n + i) / m + 1) ≤ m * ((n + j) / m) := Nat.mul_le_mul_left m h4
      rw [Nat.mul_add] at h5
      omega
    · have h5 : (n + i) / m = (n + j) / m := by omega
      rw [h5] at h1
      omega
  · obtain ⟨i, hi, rfl⟩ := List.mem_map.mp hx
    exact h i (List.mem_range.mp hi)
theorem valV_some {r : Rows} {n : Nat} : (valV (rN r) (.inl (n : Int))).isSome = true ↔ n ∈ (rB r).map (·.1) := by
  rw [valV_rN, Option.isSome_map, List.find?_isSome]
  constructor
  · rintro ⟨x, hx, h⟩
    have := of_decide_eq_true h
    exact List.mem_map.mpr ⟨(x.1, x.2.1), List.mem_map.mpr ⟨x, hx, rfl⟩, by show x.1 = n; omega⟩
  · intro h
    obtain ⟨y, hy, rfl⟩ := List.mem_map.mp h
    obtain ⟨x, hx, rfl⟩ := List.mem_map.mp hy
    exact ⟨x, hx, decide_eq_true rfl⟩
theorem c_law_entries (T : Tx K mg) : Cal P w K mg base 3 "_law_entries" (sp_law_entries K) [] := by
  refine cal_of T.d_law_entries T.a_law_entries sc_law_entries (fun _ _ _ _ _ _ us hl => match us, hl with | [_, _, _], _ => rfl) (fun vs H Q E h => by (repeat (obtain ⟨_, h⟩ := h)); subst_vars; rfl) fun f cdv A outer s H vs Q E hr h => ?_
  obtain ⟨t, p, c, ns, rfl, hct, hp, q⟩ := h
  have ok := hct.1
  have hm25 := manyN_ge ok
  have hm39 := manyN_le ok
  have hn3 := ok.n3
  have hn5 := ok.n5
  have hmm5 := ok.m5
  have hmm25 := ok.m25
  obtain ⟨_, cwp, ht, hcwp⟩ := hct
  refine ⟨_, (pss_cons (ps_set (i := 3) sc_law_entries.nd rfl (Or.inr rfl) (pe_c (c_law_vocabulary T) hr (by decide) rfl (pa_cons (pe_c (c_law_cell_at T) hr (by decide) rfl (pa_cons (pv 1) (pa_cons pe_int pa_nil))) pa_nil)))
  (pss_cons (ps_set (i := 4) sc_law_entries.nd rfl (Or.inl rfl) pe_int)
  (pss_cons (ps_for PassesOwn.never rfl (pi_range1 rfl T.f_range (pa_cons (pe_op op_sub (pe_callB call_len_seq rfl T.f_len bt_len (pa_cons (pe_ix ix_tup (pv 0) pe_int (fun _ _ => rfl)) pa_nil)) pe_int) pa_nil)) (pg_name (i := 5) sc_law_entries.nd rfl (Or.inl rfl))
    (pss_one (ps_set (i := 4) sc_law_entries.nd rfl (Or.inl rfl) (pe_op op_mul (pv 4) (pe_callB call_len_str rfl T.f_len bt_len (pa_cons (pe_ix ix_tup (pv 0) pe_int (fun _ _ => rfl)) pa_nil))))))
  (pss_cons (ps_set (i := 6) sc_law_entries.nd rfl (Or.inl rfl) (pe_lst (pa_cons (pe_tup (pa_cons pe_str pa_nil)) pa_nil)))
  (pss_cons (ps_if (pt_val (pv 2))
    (pss_one (ps_set (i := 6) sc_law_entries.nd rfl (Or.inl rfl) (pe_op op_cat (pv 6) (pe_lc (own := [("_law_letter", 10)]) (g := gName 10) (tt := tYes) rfl sc_law_entries.nd (pi_str pe_str) (blkOk_by (N := nm_law_entries) (sc := defScope s_law_entries) (by decide +kernel)) (fun _ _ _ _ _ => (pg_name (i := 10) sc_law_entries.nd rfl (Or.inl rfl))) (fun _ _ _ _ _ => pts_nil) (fun _ _ _ _ _ => (pe_tup (pa_cons pe_str (pa_cons (pv 10) pa_nil))))))))
    pss_nil)
  (pss_cons (ps_set (i := 6) sc_law_entries.nd rfl (Or.inl rfl) (pe_op op_cat (pv 6) (pe_lc (own := [("_law_cell", 9)]) (g := gName 9) (tt := tYes) rfl sc_law_entries.nd (pi_list (pe_slice sl_list (pv 1) (po_some pe_int) (po_some pe_int))) (blkOk_by (N := nm_law_entries) (sc := defScope s_law_entries) (by decide +kernel)) (fun _ _ _ _ _ => (pg_name (i := 9) sc_law_entries.nd rfl (Or.inl rfl))) (fun _ _ _ _ _ => pts_nil) (fun _ _ _ _ _ => (pe_c (c_law_entry T) hr (by decide) rfl (pa_cons (pv 9) (pa_cons (pv 3) pa_nil)))))))
  (pss_cons (ps_set (i := 7) sc_law_entries.nd rfl (Or.inl rfl) pe_dnewK)
  (pss_cons (ps_for PassesOwn.never rfl (pi_range1 rfl T.f_range (pa_cons (pe_callB call_len_seq rfl T.f_len bt_len (pa_cons (pv 6) pa_nil)) pa_nil)) (pg_name (i := 5) sc_law_entries.nd rfl (Or.inl rfl))
    (pss_cons (ps_set (i := 8) sc_law_entries.nd rfl (Or.inl rfl) (pe_op op_mod (pe_c (c_law_mixed T) hr (by decide) rfl (pa_cons (pe_op op_add (pe_c (c_law_cell_at T) hr (by decide) rfl (pa_cons (pv 1) (pa_cons (pe_op op_add pe_int (pe_op op_mod (pv 5) pe_int)) pa_nil))) (pv 5)) (pa_cons pe_int pa_nil))) (pv 4)))
  (pss_cons (ps_while PassesOwn.never (pt_cmp (pc_din (hu_of hr) (pv 8) (pv 7)))
    (pss_one (ps_set (i := 8) sc_law_entries.nd rfl (Or.inl rfl) (pe_op op_mod (pe_op op_add (pv 8) pe_int) (pv 4)))))
  (pss_one (ps_if (pt_cmp (pc_notinVals hr.units (pe_ix ix_list (pv 6) (pv 5) (fun _ _ => rfl)) (pv 7)))
    (pss_one (ps_dput (hu_of hr) (pv 7) (pv 8) (pe_ix ix_list (pv 6) (pv 5) (fun _ _ => rfl)) rfl))
    pss_nil)))))
  (pss_one (ps_ret (pe_tup (pa_cons (pv 3) (pa_cons (pv 7) pa_nil))))))))))))), ?_⟩
  have c3 := v_law_cell_at (k := 3) hp
  refine q_asgR (evr_callA (vs := [.int (ns.getD 3 0)]) (ea_cons (ev_call (vs := [.ref p, .int 3]) (by tm_at "ea") c3) ea_nil) r_law_vocabulary) fun v H1 e1 hr => ?_
  obtain ⟨wp, ws, rfl, hwp, hwl, hws⟩ := hr
  refine q_asg ev_c fun H2 e2 => ?_
  have e02 := e1.trans e2
  have a0 : atI [V.str (S c.al), .ref cwp, .int c.rs] 0 = some (.str (S c.al)) := rfl
  have a1 : atI [V.str (S c.al), .ref cwp, .int c.rs] 1 = some (.ref cwp) := rfl
  have ht2 := st_of (K := K) (e02 _ _ ht)
  have hc2 := sq_of (K := K) (e02 _ _ hcwp)
  refine q_forN (ei_rng1 (m := ((c.ws.length - 1 : Nat) : Int)) (ea_cons (ev_is (by tm_at "ev") (by rw [List.length_map]; congr 1; omega)) ea_nil) (by omega)) (fun i σ' H' => ∃ x5, σ' = [some (.ref t), some (.ref p), some (.bl true), some (.ref wp), some (.int (c.al.length ^ i : Nat)), x5, none, none, none, none, none] ∧ Ex H2 H')
    (fun H3 e3 _ => ⟨none, rfl, e3⟩) (fun _ _ _ _ _ => trivial) (fun i σ' H' hi hP H3 e3 => ?_) (fun σ' H' hP => ?_)
  · obtain ⟨x5, rfl, e⟩ := hP
    have ht3 := ex_t (e.trans e3) ht2
    refine s_asg (by tm_at "ev") fun H4 e4 => ?_
    refine ⟨some (.int (i : Int)), ?_, (e.trans e3).trans e4⟩
    rw [pow_i]
    rfl
  obtain ⟨x5, rfl, e3⟩ := hP
  have hmany : c.al.length ^ (((c.ws.length - 1 : Nat) : Int)).toNat = manyN c := rfl
  rw [hmany]
  have e03 := e02.trans e3
  -- the end
  refine q_asgR (evr_lst (RA := fun vs H1 => ∃ a, vs = [V.ref a] ∧ H1 a = some (.tup (eV [sEnd]))) (ear_cons (EvU.r (xs := eV [sEnd]) (eu_tup (ea_cons ev_c ea_nil) (Nat.le_of_ble_eq_true rfl))) fun y H3 e3 r => by
    obtain ⟨p0, rfl, hp0⟩ := r
    exact ear_nil.imp fun vs H4 e4 hv => ⟨p0, by rw [hv], e4 _ _ hp0⟩) fun vs H1 r => by obtain ⟨p0, rfl, _⟩ := r; exact Nat.le_of_ble_eq_true rfl) fun v H4 e4 hr => ?_
  obtain ⟨l0, vs0, H4', rfl, e4', hl0n, ⟨ae, rfl, hae⟩, e44, hl0⟩ := hr
  have r0 : RefsTo EntOk [V.ref ae] H4 [(ae, [sEnd])] := ⟨rfl, fun x hx => by
    rw [List.mem_singleton.mp hx]
    exact ⟨e44 _ _ hae, .fin⟩⟩
  -- the parts
  refine q_when (b := true) (et_B (ev_var rfl)) (fun _ H5 e5 => ?_) (fun z => by cases z)
  refine s_asgR (evr_cat (ev_var rfl) (e5 _ _ hl0) (er_lcY (n := abnox.length) (fun i y H => ∃ (b : Addr) (e : Ent), y = .ref b ∧ H b = some (.tup (eV e)) ∧ EntOk e) (fun i y => still_tup) (ei_n (ei_str (l := abnox) (ev_is ev_c (by rw [eAbnox]))) fun _ _ _ h => h) (by decide) (fun _ => rfl) fun i hi => (EvU.r (xs := eV [sPart, [abnox.getD i 0]]) (eu_tup (ea_cons ev_c (ea_cons (ev_var rfl) ea_nil)) (Nat.le_of_ble_eq_true rfl))).imp fun y H6 e6 hy => ?_) fun y H6 e6 hy => ?_) fun v H6 e6 hr => ?_
  · obtain ⟨b, rfl, hb⟩ := hy
    exact ⟨b, _, rfl, hb, .part _ (Nat.le_refl 1) (by show 1 ≤ 6; decide) fun a ha => by rw [List.mem_singleton.mp ha]; exact abnox_az (getD_mem hi)⟩
  · obtain ⟨b, xs, rfl, _, hb, hl, _⟩ := hy
    exact ⟨b, xs, rfl, hb, by rw [hl]; exact Nat.le_of_ble_eq_true rfl⟩
  obtain ⟨l1, q1, H6', ys1, rfl, _, e66, e67, ⟨_, xs1, hq1e, _, hq1, hl1, hR1⟩, hq1', hl1v⟩ := hr
  obtain rfl : q1 = _ := V.ref.inj hq1e
  obtain rfl : xs1 = ys1 := by
    rw [hq1] at hq1'
    injection hq1' with h
    injection h
  obtain ⟨as1, hr1⟩ := refs_pick (R := fun _ => EntOk) (R2 := EntOk) (fun _ _ h => h) hR1
  have r1 := (r0.ex (e5.trans e6)).app (hr1.ex e67)
  have hl1a : as1.length = 5 := by
    have := congrArg List.length hr1.1
    rw [List.length_map, hl1] at this
    exact this.symm
  have e06 := ((e03.trans e4).trans e5).trans e6
  dsimp only
  -- the drawn ones
  have hsl := el_sl (σ := [some (.ref t), some (.ref p), some (.bl true), some (.ref wp), some (.int (manyN c : Nat)), x5, some (.ref l1), none, none, none, none]) (te := tVar 1) (tl := tPart (tC (.int 4))) (th := tPart (tC (.int 14))) (ev_var rfl) (eo_some (i := 4) ev_c) (eo_some (i := 14) ev_c) (ex_l e06 hp)
  rw [cutV_map] at hsl
  have hcl := cutG_len ns 4 14
  have hcl2 : (cutG ns (some 4) (some 14)).length ≤ 10 := hcl
  generalize cutG ns (some 4) (some 14) = cs at hsl hcl2
  have hwp6 := sq_of (K := K) ((((e2.trans e3).trans e4).trans (e5.trans e6)) _ _ hwp)
  refine q_asgR (evr_cat (ev_var rfl) hl1v (er_lcY (n := (cs.map V.int).length) (fun i y H => ∃ (b : Addr) (e : Ent), y = .ref b ∧ H b = some (.tup (eV e)) ∧ EntOk e) (fun i y => still_tup) (ein_list (K := K) hsl) (by rw [List.length_map]; omega) (fun _ => rfl) fun i hi => ?_) fun y H7 e7 hy => ?_) fun v H7 e7 hr => ?_
  · rw [List.length_map] at hi
    rw [getD_map (d := 0) hi]
    exact evr_callA (vs := [.int (cs.getD i 0), .ref wp]) (by tm_at "ea") (r_law_entry hwp6 hwl hws)
  · obtain ⟨b, xs, rfl, _, hb, hl, _⟩ := hy
    exact ⟨b, xs, rfl, hb, by rw [hl, List.length_append, List.length_map, hl1]; show 1 + 5 + cs.length ≤ _; omega⟩
  obtain ⟨l2, q2, H7', ys2, rfl, _, e77, e78, ⟨_, xs2, hq2e, _, hq2, hl2, hR2⟩, hq2', hl2v⟩ := hr
  obtain rfl : q2 = _ := V.ref.inj hq2e
  obtain rfl : xs2 = ys2 := by
    rw [hq2] at hq2'
    injection hq2' with h
    injection h
  obtain ⟨as2, hr2⟩ := refs_pick (R := fun _ => EntOk) (R2 := EntOk) (fun _ _ h => h) hR2
  have r2 := (r1.ex e7).app (hr2.ex e78)
  have hl2a : as2.length ≤ 10 := by
    have := congrArg List.length hr2.1
    rw [List.length_map, hl2, List.length_map] at this
    omega
  have e07 := e06.trans e7
  have hwp7 := (((((e2.trans e3).trans e4).trans (e5.trans e6))).trans e7) _ _ hwp
  have hall : ([(ae, [sEnd])] ++ as1 ++ as2).length ≤ 16 := by
    rw [List.length_append, List.length_append, hl1a]
    show 1 + 5 + as2.length ≤ 16
    omega
  have hhead : ([(ae, [sEnd])] ++ as1 ++ as2)[0]? = some (ae, [sEnd]) := rfl
  rw [r2.1] at hl2v
  have hra := r2.2
  generalize [(ae, [sEnd])] ++ as1 ++ as2 = as at hl2v hra hall hhead
  clear r0 r1 r2 hr1 hr2 hR1 hR2 hq2' hq1'
  refine q_asgR evr_dnewK fun v H8 e8 hr => ?_
  obtain ⟨d, rfl, hd7, hd8⟩ := hr
  have hd0 := fresh_back e07 hd7
  have hl2s := sq_of (K := K) (e8 _ _ hl2v)
  refine q_forN (ei_rng1 (m := (as.length : Nat)) (ea_cons (ev_is (ev_len (ev_var rfl) hl2s) (by rw [List.length_map])) ea_nil) (by omega)) (fun k σ' H' => ∃ (r : Rows) (x5 x8 : Option V), σ' = [some (.ref t), some (.ref p), some (.bl true), some (.ref wp), some (.int (manyN c : Nat)), x5, some (.ref l2), some (.ref d), x8, none, none] ∧ Ex H7 H' ∧ H' d = some (.dK (rN r)) ∧ RowsAt H7 r ∧ BkOk c (rB r) ∧ r.length ≤ k ∧ (k ≠ 0 → ∃ n, (n, [sEnd]) ∈ rB r))
    (fun H9 e9 _ => ⟨[], x5, none, rfl, e8.trans e9, e9 _ _ hd8, (fun x h => nomatch h), bkOk_nil c, Nat.zero_le _, fun z => absurd rfl z⟩) (fun _ _ _ _ _ => trivial) (fun k σ' H' hk hP H9 e9 => ?_) (fun σ' H' hP => ?_)
  · obtain ⟨r, x5, x8, rfl, eH, hdr, hra7, bok, hrk, hfin⟩ := hP
    have hk16 : k < as.length := hk
    have e79 := eH.trans e9
    have e09 := e07.trans e79
    have ck := v_law_cell_at (k := 4 + k % 10) (ex_l e09 hp)
    have vm := v_law_mixed (K := K) (H := H9) (c := ns.getD (4 + k % 10) 0 + (k : Int)) (k := 2) (by decide)
    have hmod0 := Int.emod_nonneg (mixI (ns.getD (4 + k % 10) 0 + (k : Int)) 2) (show ((manyN c : Nat) : Int) ≠ 0 by omega)
    have hmod1 := Int.emod_lt_of_pos (mixI (ns.getD (4 + k % 10) 0 + (k : Int)) 2) (show (0 : Int) < (manyN c : Nat) by omega)
    obtain ⟨n0, hn0⟩ : ∃ n0 : Nat, mixI (ns.getD (4 + k % 10) 0 + (k : Int)) 2 % ((manyN c : Nat) : Int) = (n0 : Int) := ⟨(mixI (ns.getD (4 + k % 10) 0 + (k : Int)) 2 % ((manyN c : Nat) : Int)).toNat, by omega⟩
    refine q_asg (v := .int (n0 : Int)) (ev_is (ev_op (ev_call (vs := [.int (ns.getD (4 + k % 10) 0 + (k : Int)), .int 2]) (ea_cons (ev_op (ev_call (vs := [.ref p, .int ((4 + k % 10 : Nat) : Int)]) (ea_cons (ev_var rfl) (ea_cons (ev_is (ev_op ev_c (ev_op (ev_var rfl) ev_c (rv_mod (by decide))) rv_I0) (by congr 1)) ea_nil)) ck) (ev_var rfl) rv_I0) (ea_cons ev_c ea_nil)) vm) (ev_var rfl) (rv_mod (by omega))) (by rw [hn0])) fun H10 e10 => ?_
    have hd10 := (e9.trans e10) _ _ hdr
    have hlt0 : n0 < manyN c := by omega
    refine q_while (fun m σ' H'' => ∃ s : Nat, m = 17 - s ∧ s ≤ 16 ∧ σ' = [some (.ref t), some (.ref p), some (.bl true), some (.ref wp), some (.int (manyN c : Nat)), some (.int (k : Int)), some (.ref l2), some (.ref d), some (.int (((n0 + s) % manyN c : Nat) : Int)), none, none] ∧ Ex H10 H'' ∧ ∀ i, i < s → (n0 + i) % manyN c ∈ (rB r).map (·.1)) 17 ⟨0, rfl, Nat.zero_le _, by rw [Nat.add_zero, Nat.mod_eq_of_lt hlt0]; rfl, Ex.refl _, fun i hi => absurd hi (Nat.not_lt_zero i)⟩ fun m σ' H'' hW => ?_
    obtain ⟨s, rfl, hs16, rfl, ew, htaken⟩ := hW
    have hd11 := ew _ _ hd10
    refine ⟨_, et_B (ev_dinK (ev_var rfl) (ev_var rfl) hd11), fun hb H12 e12 => ?_, fun hb H12 e12 => ?_⟩
    · rw [valV_some] at hb
      have htaken2 : ∀ i, i < s + 1 → (n0 + i) % manyN c ∈ (rB r).map (·.1) := fun i hi => by
        rcases Nat.lt_or_ge i s with h | h
        · exact htaken i h
        · have : i = s := by omega
          rw [this]
          exact hb
      have hle := all_taken (ks := (rB r).map (·.1)) (by omega) (by omega) htaken2
      rw [List.length_map, rB_length] at hle
      refine ⟨fun σ2 H2 => ∃ s' : Nat, s' = s + 1 ∧ σ2 = [some (.ref t), some (.ref p), some (.bl true), some (.ref wp), some (.int (manyN c : Nat)), some (.int (k : Int)), some (.ref l2), some (.ref d), some (.int (((n0 + s') % manyN c : Nat) : Int)), none, none] ∧ Ex H10 H2, fun σ2 H2 hN => ?_, ?_⟩
      · obtain ⟨s', rfl, h1, h2⟩ := hN
        exact ⟨17 - (s + 1), by omega, s + 1, rfl, by omega, h1, h2, htaken2⟩
      · refine s_asg (ev_is (ev_op (ev_op (ev_var rfl) ev_c rv_I0) (ev_var rfl) (rv_mod (by omega))) (w := .int (((n0 + (s + 1)) % manyN c : Nat) : Int)) ?_) fun H13 e13 => ⟨s + 1, rfl, rfl, (ew.trans e12).trans e13⟩
        exact congrArg (fun z : Nat => V.int (z : Int)) (Nat.mod_add_mod (n0 + s) (manyN c) 1)
    · have hnone : (n0 + s) % manyN c ∉ (rB r).map (·.1) := fun z => by
        rw [← valV_some] at z
        rw [z] at hb
        cases hb
      have hxlt : (n0 + s) % manyN c < manyN c := Nat.mod_lt _ (by omega)
      generalize (n0 + s) % manyN c = x at hnone hxlt hb
      have e712 := ((e79.trans e10).trans ew).trans e12
      obtain ⟨y, hy⟩ : ∃ y, as[k]? = some y := ⟨_, List.getElem?_eq_getElem hk16⟩
      obtain ⟨ya, ye⟩ := y
      obtain ⟨hya, hyo⟩ := hra _ (List.mem_of_getElem? hy)
      have hl12 := sq_of (K := K) (e712 _ _ hl2v)
      have al : atI (as.map fun x => V.ref x.1) (k : Int) = some (.ref ya) := by
        refine atG rfl ?_
        rw [List.getElem?_map, hy]
        rfl
      have hd12 := e12 _ _ hd11
      refine s_when (b := !(rB r).any fun z => decide (z.2 = ye)) (et_B (ev_notVals (ev_op (ev_var rfl) (ev_var rfl) (rv_ixL hl12 al)) (ev_var rfl) (e712 _ _ hya) hd12 (hra7.ex e712) (entOk_asc hyo) fun z hz => entOk_asc (bok.ents (z.1, z.2.1) (List.mem_map.mpr ⟨z, hz, rfl⟩)))) (fun hany H13 e13 => ?_) (fun hany H13 e13 => ?_)
      · have hl13 := ex_l e13 hl12
        have hne : ∀ z ∈ rB r, z.2 ≠ ye := fun z hz h => by
          have : (rB r).any (fun z => decide (z.2 = ye)) = true := List.any_eq_true.mpr ⟨z, hz, decide_eq_true h⟩
          rw [this] at hany
          cases hany
        have hnn : ∀ z ∈ rB r, z.1 ≠ x := fun z hz h => hnone (List.mem_map.mpr ⟨z, hz, h⟩)
        have hvn : valV (rN r) (.inl (x : Int)) = none := by
          cases hv : valV (rN r) (.inl (x : Int)) with
          | none => rfl
          | some u =>
            exact absurd (valV_some.mp (by rw [hv]; rfl)) hnone
        refine s_dputK (x := .ref ya) (ev_op (ev_var rfl) (ev_var rfl) (rv_ixL hl13 al)) (ev_var rfl) (ev_var rfl) (e13 _ _ hd12) (by unfold rN; rw [List.length_map]; omega) fun H14 e14 => ?_
        refine ⟨r ++ [(x, ye, ya)], _, _, rfl, Ex.mut ((e712.trans e13).trans e14) hd7, ?_, fun z hz => ?_, ?_, by rw [List.length_append]; show r.length + 1 ≤ _; omega, fun _ => ?_⟩
        · rw [upd_same, putK_new hvn]
          unfold rN
          rw [List.map_append]
          rfl
        · rcases List.mem_append.mp hz with h | h
          · exact hra7 z h
          · rw [List.mem_singleton.mp h]
            exact hya
        · have : rB (r ++ [(x, ye, ya)]) = rB r ++ [(x, ye)] := by
            unfold rB
            rw [List.map_append]
            rfl
          rw [this]
          exact bk_snoc bok hyo hnn hne hxlt (by rw [rB_length]; omega)
        · have hsplit : rB (r ++ [(x, ye, ya)]) = rB r ++ [(x, ye)] := by
            unfold rB
            rw [List.map_append]
            rfl
          rw [hsplit]
          by_cases hk0 : k = 0
          · subst hk0
            rw [hhead] at hy
            have := Option.some.inj hy
            have h2 : [sEnd] = ye := (Prod.mk.inj this).2
            exact ⟨x, List.mem_append.mpr (.inr (by rw [h2]; exact List.mem_singleton.mpr rfl))⟩
          · obtain ⟨n, hn⟩ := hfin hk0
            exact ⟨n, List.mem_append.mpr (.inl hn)⟩
      · have hk0 : k ≠ 0 := fun z => by
          subst z
          have : r = [] := List.length_eq_zero_iff.mp (by omega)
          rw [this] at hany
          cases hany
        exact ⟨r, _, _, rfl, e712.trans e13, e13 _ _ hd12, hra7, bok, by omega, fun _ => hfin hk0⟩
  · obtain ⟨r, x5, x8, rfl, eH, hdr, hra7, bok, hrk, hfin⟩ := hP
    have hne : as.length ≠ 0 := fun z => by
      rw [List.length_eq_zero_iff.mp z] at hhead
      cases hhead
    have hrk2 : r.length ≤ as.length := hrk
    refine s_retU (eu_tup (vs := [.ref wp, .ref d]) (by tm_at "ea") (Nat.le_of_ble_eq_true rfl)) fun tt H9 hn9 e9 h9 => ?_
    exact q _ H9 ((e07.trans eH).trans e9) ⟨tt, wp, d, ws, r, rfl, h9, (eH.trans e9) _ _ hwp7, hwl, hws, e9 _ _ hdr, hra7.ex (eH.trans e9), bok, by omega, hfin hne⟩
end
end Cb
/-! K24: the law's text; words by the faults. -/
namespace Cb
open PySem PySem.Spec PyProof.Rows L2 Evl
open C8 (Cal Met Mak pe_c pe_mk pe_mt pe_mt0 pe_gc)

theorem find_range {fs : List Fl} {g : Fl → Bool} {d : Fl} : fs.find? g = ((List.range fs.length).find? fun i => g (fs.getD i d)).map fun i => fs.getD i d := by
  have e : fs = (List.range fs.length).map fun i => fs.getD i d := by
    have := map_range_getD fs d id
    rw [List.map_id] at this
    exact this.symm
  conv => lhs; rw [e]
  rw [List.find?_map]
  rfl
theorem FlV_flat {K : PySem.W.Frag} {H : Hp} : ∀ {xs : List V}, (∀ x ∈ xs, ∃ a f, x = .ref a ∧ H a = some (.tup (FlV f))) → ∃ ds, DpAll K H xs ds ∧ ds.length = xs.length ∧ ∀ d ∈ ds, Fl0 1 d := by
  intro xs
  induction xs with
  | nil => exact fun _ => ⟨[], .nil, rfl, fun d h => nomatch h⟩
  | cons x xs ih =>
    intro h
    obtain ⟨a, f, rfl, ha⟩ := h x (List.mem_cons_self ..)
    obtain ⟨ds, h1, h2, h3⟩ := ih fun y hy => h y (List.mem_cons_of_mem _ hy)
    have asc : Asc (if f.letter = true then sLetter else sSwap) := by
      split
      · exact fun b hb => by revert b; decide
      · exact fun b hb => by revert b; decide
    refine ⟨.tuple [.int f.s, .int f.p, dS (if f.letter = true then sLetter else sSwap), .int f.n] :: ds, .cons (.tup (st_of ha) (.cons (.int _) (.cons (.int _) (.cons (.str _) (.cons (.int _) .nil))))) h1, by rw [List.length_cons, List.length_cons, h2], fun d hd => ?_⟩
    rcases List.mem_cons.mp hd with rfl | hd
    · refine fl_tup fun e he => ?_
      rcases List.mem_cons.mp he with rfl | he
      · exact fl_I _
      rcases List.mem_cons.mp he with rfl | he
      · exact fl_I _
      rcases List.mem_cons.mp he with rfl | he
      · exact fl_S asc
      · rw [List.mem_singleton.mp he]
        exact fl_I _
    · exact h3 d hd
theorem isWord_asc {c : Cd} (ok : CdOk c) {x : W} (h : IsWord c x) : Asc x := fun a ha => by
  have := ok.az a (h.2 a ha)
  omega
local macro_rules | `(tactic| tm_at "side") => `(tactic| (first | assumption | omega | ((try simp only [List.length_append, List.length_cons, List.length_nil, List.length_map, List.length_range]); omega) | exact ⟨by omega, by omega⟩ | exact .inl ⟨by omega, by omega⟩ | exact .inr ⟨by omega, by omega⟩ | decide))
local macro_rules | `(tactic| tm_at "rv") => `(tactic| (first
  | exact rv_I0
  | exact rv_mod (by tm_at "side")
  | exact rv_I (by tm_at "side")
  | exact rv_eq rfl
  | exact rv_ne rfl
  | exact rv_addS (by tm_at "side")
  | exact rv_ixSS (by tm_at "side") (by assumption)
  | exact rv_ixL (by assumption) (by assumption)
  | exact rv_ixT (by assumption) (by assumption)
  | exact rv_inS
  | exact rv_isN
  | exact rv_notN
  | assumption))
local macro_rules | `(tactic| tm_at "eo") => `(tactic| (first | exact eo_none | (apply eo_some; tm_at "ev")))
local macro_rules | `(tactic| tm_at "ea") => `(tactic| (first | exact ea_nil | (apply ea_cons; (tm_at "ev"); (tm_at "ea"))))
local macro_rules | `(tactic| tm_at "sp") => `(tactic| assumption)
local macro_rules | `(tactic| tm_at "ev") => `(tactic| (first
  | exact ev_c
  | exact ev_var rfl
  | assumption
  | (apply ev_op; (tm_at "ev"); (tm_at "ev"); (tm_at "rv"))
  | (apply ev_un (hr := ru_neg); tm_at "ev")
  | (apply ev_fld; (tm_at "ev"); assumption; assumption; assumption; rfl)
  | (apply ev_lenStr; (tm_at "ev"); (tm_at "side"))
  | (apply ev_lenDT; (tm_at "ev"); assumption)
  | (apply ev_len; (tm_at "ev"); assumption)
  | (apply ev_lenT; (tm_at "ev"); assumption)
  | (apply ev_slS; (tm_at "ev"); (tm_at "eo"); (tm_at "eo"); (tm_at "side"))
  | (apply ev_call; (tm_at "ea"); (tm_at "sp"))
  | (apply ev_meth; (tm_at "ev"); assumption; rfl; (tm_at "ea"); (tm_at "sp"))
  | (apply ev_isStr; tm_at "ev")
  | (apply ev_isInt; tm_at "ev")
  | (apply ev_isBoolI; tm_at "ev")
  | (apply ev_isList; (tm_at "ev"); assumption)
  | (apply ev_isTuple; (tm_at "ev"); assumption)
  | (apply ev_abs; tm_at "ev")
  | (apply ev_int1; tm_at "ev")
  | (apply ev_max2; (tm_at "ev"); (tm_at "ev"))
  | (apply ev_sindex; (tm_at "ev"); (tm_at "ev"); assumption)
  | (apply ev_dinK; (tm_at "ev"); (tm_at "ev"); assumption)
  | (apply ev_dinT; (tm_at "ev"); (tm_at "ev"); assumption; assumption)
  | (apply ev_chain; (tm_at "ev"); (tm_at "ev"); (tm_at "rv"); (intro _; tm_at "ev"); (intro _; tm_at "rv"))
  | (apply ev_andV; (tm_at "ev"); (intro _; tm_at "ev"))
  | (apply ev_orV; (tm_at "ev"); (intro _; tm_at "ev"))
  | (apply ev_notV; tm_at "ev")))
local macro_rules | `(tactic| tm_at "et") => `(tactic| (first
  | assumption
  | (apply et_test; tm_at "ev")
  | (apply et_B; tm_at "ev")
  | (apply et_not; tm_at "et")
  | (apply et_and; (tm_at "et"); (intro _; tm_at "et"))
  | (apply et_or; (tm_at "et"); (intro _; tm_at "et"))))
/-- tests by sums -/
local macro_rules | `(tactic| tm_at "bf") => `(tactic| (simp only [Bool.not_true, Bool.not_false, Bool.false_or, Bool.true_and, Bool.and_true, Bool.or_false, Bool.or_eq_false_iff, Bool.and_eq_true, decide_eq_false_iff_not, decide_eq_true_eq, Bool.not_eq_false', Bool.not_eq_true']; omega))

section
variable {P : Program} {w : World} {K : PySem.W.Frag} {mg : Str → Option Value} {base : Heap} {H : Hp}
def sp_law_text (K : PySem.W.Frag) : Sp := fun vs H Q _ => ∃ (p wp : Addr) (ns : List Int) (ws : List W) (f l : Nat), vs = [.ref p, .ref wp, .int (f : Int), .int (l : Int)] ∧ SqL K H p (ns.map V.int) ∧ SqL K H wp (ws.map vS) ∧ ws.length = 6 ∧ (∀ x ∈ ws, Voc x) ∧ f ≤ l ∧ l ≤ 100 ∧ RetR (fun v _ => ∃ ts : List W, v = .str (S (joinW ts)) ∧ ts.length = l - f ∧ ∀ x ∈ ts, Voc x) H Q
theorem r_law_text {p wp : Addr} {ns : List Int} {ws : List W} {f l : Nat} (h1 : SqL K H p (ns.map V.int)) (h2 : SqL K H wp (ws.map vS)) (h3 : ws.length = 6) (h4 : ∀ x ∈ ws, Voc x) (h5 : f ≤ l) (h6 : l ≤ 100) : SpR (sp_law_text K) [.ref p, .ref wp, .int (f : Int), .int (l : Int)] H (fun v _ => ∃ ts : List W, v = .str (S (joinW ts)) ∧ ts.length = l - f ∧ ∀ x ∈ ts, Voc x) := fun H1 e Q q E => ⟨p, wp, ns, ws, f, l, rfl, ex_l e h1, ex_l e h2, h3, h4, h5, h6, q⟩
theorem c_law_text (T : Tx K mg) : Cal P w K mg base 2 "_law_text" (sp_law_text K) [] := by
  refine cal_of T.d_law_text T.a_law_text sc_law_text (fun _ _ _ _ _ _ us hl => match us, hl with | [_, _, _, _], _ => rfl) (fun vs H Q E h => by (repeat (obtain ⟨_, h⟩ := h)); subst_vars; rfl) fun f cdv A outer s H vs Q E hr h => ?_
  obtain ⟨p, wp, ns, ws, f, l, rfl, hp, hw, hwl, hws, hfl, hl, q⟩ := h
  refine ⟨_, (pss_one (ps_ret (pe_join pe_str (pe_lc (own := [("_law_k", 4)]) (g := gName 4) (tt := tYes) rfl sc_law_text.nd (pi_range2 rfl T.f_range (pa_cons (pv 2) (pa_cons (pv 3) pa_nil))) (blkOk_by (N := nm_law_text) (sc := defScope s_law_text) (by decide +kernel)) (fun _ _ _ _ _ => (pg_name (i := 4) sc_law_text.nd rfl (Or.inl rfl))) (fun _ _ _ _ _ => pts_nil) (fun _ _ _ _ _ => (pe_ix (ixK_list (K := K) rfl) (pv 1) (pe_op op_mod (pe_c (c_law_mixed T) hr (by decide) rfl (pa_cons (pe_c (c_law_cell_at T) hr (by decide) rfl (pa_cons (pv 0) (pa_cons (pv 4) pa_nil))) (pa_cons pe_int pa_nil))) pe_int) (fun _ _ => rfl))))))), ?_⟩
  have hm : ∀ z : Int, ∃ j : Nat, j < 6 ∧ z % 6 = (j : Int) := fun z => ⟨(z % 6).toNat, by omega, by omega⟩
  have hvoc : ∀ x ∈ (List.range (l - f)).map fun i => ws.getD (mixI (ns.getD (f + i) 0) 3 % 6).toNat [], Voc x := fun x hx => by
    obtain ⟨i, _, rfl⟩ := List.mem_map.mp hx
    obtain ⟨j, hj, ej⟩ := hm (mixI (ns.getD (f + i) 0) 3)
    rw [ej]
    exact hws _ (getD_memW (ws := ws) (i := j) (by omega))
  have hsum := joinW_sum ((List.range (l - f)).map fun i => ws.getD (mixI (ns.getD (f + i) 0) 3 % 6).toNat []) fun x hx => by
    have := (hvoc x hx).l5
    omega
  rw [List.length_map, List.length_range] at hsum
  refine s_ret (ev_join (s := [32]) (ws := (List.range (l - f)).map fun i => ws.getD (mixI (ns.getD (f + i) 0) 3 % 6).toNat []) (ev_is ev_c (by rw [eBl])) ?_ (by rw [List.length_map, List.length_range]; show _ + _ * 1 ≤ _; omega)) fun H1 e1 => ?_
  · rw [List.map_map]
    have := el_lcY (te := tOp (rIxL K) (tVar 1) (tOp (rI (fun _ j => 0 < j) fun i j => .int (i % j)) (tCall (sp_law_mixed K) [] C8.E0 (tCons (tCall (sp_law_cell_at K) [] C8.E0 (tCons (tVar 0) (tCons (tVar 4) tNil))) (tCons (tC (.int 3)) tNil))) (tC (.int 6)))) (j := 4) (vs := [4]) (fun i => vS (ws.getD (mixI (ns.getD (f + i) 0) 3 % 6).toNat [])) (ei_n (ei_rng2 (σ := [some (.ref p), some (.ref wp), some (.int (f : Int)), some (.int (l : Int)), none]) (H := H) (ta := tCons (tVar 2) (tCons (tVar 3) tNil)) (lo := (f : Int)) (m := (l : Int)) (by tm_at "ea") (by omega)) fun _ _ _ h => h) (by omega) (fun _ => rfl) fun i hi => by
      have ck := v_law_cell_at (k := f + i) hp
      have vm := v_law_mixed (K := K) (H := H) (c := ns.getD (f + i) 0) (k := 3) (by decide)
      obtain ⟨j, hj, ej⟩ := hm (mixI (ns.getD (f + i) 0) 3)
      have a1 := atI_W (ws := ws) (z := mixI (ns.getD (f + i) 0) 3 % 6) (by omega) (by omega)
      exact ev_op (ev_var rfl) (ev_op (ev_call (vs := [.int (ns.getD (f + i) 0), .int 3]) (ea_cons (ev_call (vs := [.ref p, .int ((f + i : Nat) : Int)]) (ea_cons (ev_var rfl) (ea_cons (ev_var rfl) ea_nil)) ck) (ea_cons ev_c ea_nil)) vm) ev_c (rv_mod (by decide))) (rv_ixL hw a1)
    rw [show ((l : Int) - (f : Int)).toNat = l - f by omega] at this
    exact this
  · rw [joinW_eq]
    exact q _ H1 e1 ⟨_, rfl, by rw [List.length_map, List.length_range], hvoc⟩
def sp_law_made_another (K : PySem.W.Frag) : Sp := fun vs H Q _ => ∃ (t a : Addr) (c : Cd) (x : W) (f : Fl), vs = [.ref t, .str (S x), .ref a] ∧ CodeTup H t c ∧ IsWord c x ∧ H a = some (.tup (FlV f)) ∧ RetV (.str (S (garbW c (some f) x))) H Q
theorem v_law_made_another {t a : Addr} {c : Cd} {x : W} {f : Fl} (h1 : CodeTup H t c) (h2 : IsWord c x) (h3 : H a = some (.tup (FlV f))) : SpV (sp_law_made_another K) [.ref t, .str (S x), .ref a] H (.str (S (garbW c (some f) x))) := fun H1 e Q q E => ⟨t, a, c, x, f, rfl, h1.ex e, h2, e _ _ h3, q⟩
theorem c_law_made_another (T : Tx K mg) : Cal P w K mg base 1 "_law_made_another" (sp_law_made_another K) [] := by
  refine cal_of T.d_law_made_another T.a_law_made_another sc_law_made_another (fun _ _ _ _ _ _ us hl => match us, hl with | [_, _, _], _ => rfl) (fun vs H Q E h => by (repeat (obtain ⟨_, h⟩ := h)); subst_vars; rfl) fun f cdv A outer s H vs Q E hr h => ?_
  obtain ⟨t, a, c, x, f, rfl, ⟨ok, wp, ht, _⟩, hx, ha, q⟩ := h
  have := ok.n3
  have := ok.n5
  have := ok.m5
  have := ok.m25
  have hxl : x.length = c.ws.length := hx.1
  refine ⟨_, (pss_cons (ps_set (i := 3) sc_law_made_another.nd rfl (Or.inl rfl) (pe_ix ix_tup (pv 0) pe_int (fun _ _ => rfl)))
  (pss_cons (ps_set (i := 4) sc_law_made_another.nd rfl (Or.inl rfl) (pe_callB call_len_str rfl T.f_len bt_len (pa_cons (pv 3) pa_nil)))
  (pss_cons (ps_if (pt_cmpR op_eq (pe_ix ix_tup (pv 2) pe_int (fun _ _ => rfl)) pe_str (nomark _))
    (pss_cons (ps_set (i := 5) sc_law_made_another.nd rfl (Or.inl rfl) (pe_op op_fdiv (pe_ix ix_tup (pv 2) pe_int (fun _ _ => rfl)) (pe_callB call_len_str rfl T.f_len bt_len (pa_cons (pv 1) pa_nil))))
  (pss_cons (ps_set (i := 6) sc_law_made_another.nd rfl (Or.inl rfl) (pe_op op_mod (pe_ix ix_tup (pv 2) pe_int (fun _ _ => rfl)) (pe_callB call_len_str rfl T.f_len bt_len (pa_cons (pv 1) pa_nil))))
  (pss_cons (ps_set (i := 7) sc_law_made_another.nd rfl (Or.inl rfl) (pe_op op_mod (pe_op op_add (pe_op op_add (pe_bm PySem.F.plainAttrs_str PySem.F.slot_str_index PySem.F.type_str_index mt_sindex (pv 3) (pa_cons (pe_ix ix_str (pv 1) (pv 6) (fun _ _ => rfl)) pa_nil)) pe_int) (pe_op op_mod (pv 5) (pe_op op_sub (pv 4) pe_int))) (pv 4)))
  (pss_one (ps_ret (pe_op op_add_str (pe_op op_add_str (pe_slice sl_str (pv 1) po_none (po_some (pv 6))) (pe_ix ix_str (pv 3) (pv 7) (fun _ _ => rfl))) (pe_slice sl_str (pv 1) (po_some (pe_op op_add (pv 6) pe_int)) po_none)))))))
    pss_nil)
  (pss_cons (ps_set (i := 6) sc_law_made_another.nd rfl (Or.inl rfl) (pe_op op_mod (pe_ix ix_tup (pv 2) pe_int (fun _ _ => rfl)) (pe_op op_sub (pe_callB call_len_str rfl T.f_len bt_len (pa_cons (pv 1) pa_nil)) pe_int)))
  (pss_one (ps_ret (pe_op op_add_str (pe_op op_add_str (pe_op op_add_str (pe_slice sl_str (pv 1) po_none (po_some (pv 6))) (pe_ix ix_str (pv 1) (pe_op op_add (pv 6) pe_int) (fun _ _ => rfl))) (pe_ix ix_str (pv 1) (pv 6) (fun _ _ => rfl))) (pe_slice sl_str (pv 1) (po_some (pe_op op_add (pv 6) pe_int)) po_none)))))))), ?_⟩
  have hts := st_of (K := K) ht
  have t0 : atI [V.str (S c.al), .ref wp, .int c.rs] 0 = some (.str (S c.al)) := rfl
  refine q_asg (by tm_at "ev") fun H1 e1 => ?_
  refine q_asg (by tm_at "ev") fun H2 e2 => ?_
  have e02 := e1.trans e2
  have has2 := st_of (K := K) (e02 _ _ ha)
  have a2 : atI (FlV f) 2 = some (.str (S (if f.letter = true then sLetter else sSwap))) := rfl
  have a3 : atI (FlV f) 3 = some (.int f.n) := rfl
  refine q_when (b := f.letter) (et_is (by tm_at "et") ?_) (fun hb H3 e3 => ?_) (fun hb H3 e3 => ?_)
  · rw [eLe]
    cases f.letter
    · exact vS_eq.trans (by decide)
    · exact decide_eq_true rfl
  · have has3 := ex_t e3 has2
    have cd : CDiv f.n (x.length : Nat) := ⟨by omega, by omega⟩
    refine q_asg (by tm_at "ev") fun H4 e4 => ?_
    have has4 := ex_t e4 has3
    refine q_asg (by tm_at "ev") fun H5 e5 => ?_
    obtain ⟨hk0, hk1⟩ := kN (n := f.n) (l := x.length) (by omega)
    obtain ⟨k, hk⟩ : ∃ k : Nat, f.n % (x.length : Int) = (k : Int) := ⟨_, hk0.symm⟩
    rw [hk] at hk1 ⊢
    have hk2 : k < x.length := hk1
    have b1 : atI x (k : Int) = some (x.getD k 0) := atD 0 rfl hk2
    have hm : x.getD k 0 ∈ c.al := hx.2 _ (getD_mem hk2)
    obtain ⟨hj0, hj1⟩ := newP_rng ok x f.n
    obtain ⟨j, hj⟩ : ∃ j : Nat, newP c x f.n = (j : Int) := ⟨(newP c x f.n).toNat, by omega⟩
    have hne : 0 < (c.al.length : Int) - 1 := by omega
    have en : (((c.al.idxOf (x.getD k 0) : Nat) : Int) + 1 + f.n / (x.length : Int) % ((c.al.length : Int) - 1)) % (c.al.length : Int) = (j : Int) := by
      rw [← hj]
      unfold newP
      rw [hk]
      rfl
    refine q_asg (by tm_at "ev") fun H6 e6 => ?_
    rw [en]
    have b2 : atI c.al (j : Int) = some (c.al.getD j 0) := atD 0 rfl (by omega)
    have l1 : (cutG x none (some (k : Int))).length ≤ 1000 := by rw [cutG_to, List.length_take]; omega
    have l2 : (cutG x (some ((k : Int) + 1)) none).length ≤ 1000 := by rw [show (k : Int) + 1 = ((k + 1 : Nat) : Int) by omega, cutG_from, List.length_drop]; omega
    refine s_ret (by tm_at "ev") fun H7 e7 => ?_
    show Q (.str (S _)) H7
    rw [exch_cut hk hj]
    have := q H7 ((((e02.trans e3).trans e4).trans (e5.trans e6)).trans e7)
    rw [show garbW c (some f) x = exchW c x f.n from if_pos hb] at this
    exact this
  · have has3 := ex_t e3 has2
    obtain ⟨k, hk⟩ : ∃ k : Nat, f.n % ((x.length : Int) - 1) = (k : Int) := ⟨(f.n % ((x.length : Int) - 1)).toNat, by have := Int.emod_nonneg f.n (show (x.length : Int) - 1 ≠ 0 by omega); omega⟩
    have hk1 : k + 1 < x.length := by
      have := Int.emod_lt_of_pos f.n (show 0 < (x.length : Int) - 1 by omega)
      omega
    have h1 : 0 < (x.length : Int) - 1 := by omega
    refine q_asg (by tm_at "ev") fun H4 e4 => ?_
    rw [hk]
    have b1 : atI x ((k : Int) + 1) = some (x.getD (k + 1) 0) := atD 0 (by omega) hk1
    have b2 : atI x (k : Int) = some (x.getD k 0) := atD 0 rfl (by omega)
    have l1 : (cutG x none (some (k : Int))).length ≤ 1000 := by rw [cutG_to, List.length_take]; omega
    have l2 : (cutG x (some ((k : Int) + 2)) none).length ≤ 1000 := by rw [show (k : Int) + 2 = ((k + 2 : Nat) : Int) by omega, cutG_from, List.length_drop]; omega
    refine s_ret (by tm_at "ev") fun H5 e5 => ?_
    show Q (.str (S _)) H5
    rw [swap_cut hk]
    have := q H5 (((e02.trans e3).trans e4).trans e5)
    rw [show garbW c (some f) x = swapW x f.n from if_neg (by rw [hb]; decide)] at this
    exact this
def sp_law_came (K : PySem.W.Frag) : Sp := fun vs H Q _ => ∃ (t wp fp : Addr) (c : Cd) (ws : List W) (fs : List Fl) (s : Int), vs = [.ref t, .ref wp, .ref fp, .int s] ∧ CodeTup H t c ∧ SqL K H wp (ws.map vS) ∧ ws.length ≤ 10000 ∧ (∀ x ∈ ws, IsWord c x) ∧ FaultsAt K H fp fs ∧ RetL ((garbL c ws fs s).map vS) H Q
theorem l_law_came {t wp fp : Addr} {c : Cd} {ws : List W} {fs : List Fl} {s : Int} (h1 : CodeTup H t c) (h2 : SqL K H wp (ws.map vS)) (h3 : ws.length ≤ 10000) (h4 : ∀ x ∈ ws, IsWord c x) (h5 : FaultsAt K H fp fs) : SpL (sp_law_came K) [.ref t, .ref wp, .ref fp, .int s] H ((garbL c ws fs s).map vS) :=
  fun H1 e Q q E => ⟨t, wp, fp, c, ws, fs, s, rfl, h1.ex e, ex_l e h2, h3, h4, h5.ex e, fun p H2 a b d => q p H2 a b d⟩
theorem c_law_came (T : Tx K mg) : Cal P w K mg base 2 "_law_came" (sp_law_came K) [] := by
  refine cal_of T.d_law_came T.a_law_came sc_law_came (fun _ _ _ _ _ _ us hl => match us, hl with | [_, _, _, _], _ => rfl) (fun vs H Q E h => by (repeat (obtain ⟨_, h⟩ := h)); subst_vars; rfl) fun f cdv A outer s H vs Q E hr h => ?_
  obtain ⟨t, wp, fp, c, ws, fs, s, rfl, hct, hw, hwl, hws, hf, q⟩ := h
  refine ⟨_, (pss_cons (ps_set (i := 4) sc_law_came.nd rfl (Or.inl rfl) (pe_lst pa_nil))
  (pss_cons (ps_for PassesOwn.never rfl (pi_range1 rfl T.f_range (pa_cons (pe_callB call_len_seq rfl T.f_len bt_len (pa_cons (pv 1) pa_nil)) pa_nil)) (pg_name (i := 5) sc_law_came.nd rfl (Or.inr rfl))
    (pss_cons (ps_setLc (i := 6) (own := [("_law_fault", 7)]) (g := gName 7) rfl sc_law_came.nd rfl rfl (sw_true rfl rfl rfl (by decide +kernel)) (pi_list (pv 2)) (blkOk_by (N := nm_law_came) (sc := defScope s_law_came) (by decide +kernel)) (fun _ _ _ _ _ => (pg_name (i := 7) sc_law_came.nd rfl (Or.inl rfl))) (fun _ _ _ _ _ => pts_one (PW.pt (pw_and (pt_cmpR op_eq (pe_ix (ixK_tup (K := K) rfl) (pv 7) pe_int (fun _ _ => rfl)) (pv 3) (nomark _)) (pw_and1 (pt_cmpR op_eq (pe_ix (ixK_tup (K := K) rfl) (pv 7) pe_int (fun _ _ => rfl)) (pv 5) (nomark _)))))) (fun _ _ _ _ _ => (pv 7)))
  (pss_one (ps_if (pt_cmpR (op_eqD hr.units) (pv 6) (pe_lst pa_nil) (nomark _))
    (pss_one (ps_expr (pe_bm PySem.F.plainAttrs_list PySem.F.slot_list_append PySem.F.type_list_append mt_append (pv 4) (pa_cons (pe_ix ix_list (pv 1) (pv 5) (fun _ _ => rfl)) pa_nil))))
    (pss_one (ps_expr (pe_bm PySem.F.plainAttrs_list PySem.F.slot_list_append PySem.F.type_list_append mt_append (pv 4) (pa_cons (pe_c (c_law_made_another T) hr (by decide) rfl (pa_cons (pv 0) (pa_cons (pe_ix ix_list (pv 1) (pv 5) (fun _ _ => rfl)) (pa_cons (pe_ix ix_list (pv 6) pe_int (fun _ _ => rfl)) pa_nil)))) pa_nil))))))))
  (pss_one (ps_ret (pv 4))))), ?_⟩
  refine q_asgL (xs := []) (el_lst ea_nil (by decide)) fun l H1 hl e1 h1 => ?_
  have hw1 := ex_l e1 hw
  refine q_forN (ei_rng1 (m := (ws.length : Nat)) (ea_cons (ev_is (ev_len (ev_var rfl) hw1) (by rw [List.length_map])) ea_nil) (by omega)) (fun i σ' H' => ∃ x5 x6, σ' = [some (.ref t), some (.ref wp), some (.ref fp), some (.int s), some (.ref l), x5, x6, none] ∧ Ex H H' ∧ H' l = some (.lst (((List.range i).map fun i : Nat => garbW c (firstF fs s (i : Int)) (ws.getD i [])).map vS)))
    (fun H2 e2 _ => ⟨none, none, rfl, e1.trans e2, e2 _ _ h1⟩) (fun _ _ _ _ _ => trivial) (fun i σ' H' hi hP H2 e2 => ?_) (fun σ' H' hP => ?_)
  · obtain ⟨x5, x6, rfl, e, hacc⟩ := hP
    have hi2 : i < ws.length := hi
    have hx := hws _ (getD_memW hi2)
    have e02 := e.trans e2
    obtain ⟨as, ha, hal, hf3, hat⟩ := hf.ex e02
    have hl2 := e2 _ _ hacc
    have hz : (((List.range i).map fun i : Nat => garbW c (firstF fs s (i : Int)) (ws.getD i [])).map vS).length < 100000 := by
      rw [List.length_map, List.length_map, List.length_range]
      omega
    -- the faults of this place
    have d0 : Fl := ⟨0, 0, true, 0⟩
    refine q_asgL (el_lcN (fun k => decide ((fs.getD k d0).s = s) && decide ((fs.getD k d0).p = (i : Int))) (fun k => (as.map V.ref).getD k .non) (ei_n (ei_list (K := K) (ev_var rfl) ha) fun _ _ e => ex_l e) (by rw [List.length_map]; omega) (fun _ => rfl) (fun k hk => ?_) (fun k hk _ => ev_var rfl)) fun sp H3 hs3 e3 h3 => ?_
    · rw [List.length_map] at hk
      obtain ⟨a, haa⟩ : ∃ a, as[k]? = some a := ⟨_, List.getElem?_eq_getElem hk⟩
      have hff : fs[k]? = some (fs.getD k d0) := getD_at (by omega)
      have hxa : (as.map V.ref).getD k .non = .ref a := by
        rw [List.getD_eq_getElem?_getD, List.getElem?_map, haa]
        rfl
      rw [hxa]
      have htt := st_of (K := K) (hat k a _ haa hff)
      have a0 : atI (FlV (fs.getD k d0)) 0 = some (.int (fs.getD k d0).s) := rfl
      have a1 : atI (FlV (fs.getD k d0)) 1 = some (.int (fs.getD k d0).p) := rfl
      exact et_is (by tm_at "et") (by rw [vint_eq, vint_eq])
    · rw [List.length_map, hal] at h3
      have e03 := e02.trans e3
      have hl3 := e3 _ _ hl2
      have hfirst : firstF fs s (i : Int) = ((List.range fs.length).find? fun k => decide ((fs.getD k d0).s = s) && decide ((fs.getD k d0).p = (i : Int))).map fun k => fs.getD k d0 := find_range
      obtain ⟨ds, hds, hdl, hdf⟩ := FlV_flat (K := K) (H := H3) (xs := given fs.length (fun k => decide ((fs.getD k d0).s = s) && decide ((fs.getD k d0).p = (i : Int))) (fun k => (as.map V.ref).getD k .non)) fun x hx => by
        obtain ⟨k, hk, rfl⟩ := List.mem_map.mp hx
        have hk2 := List.mem_range.mp (List.mem_filter.mp hk).1
        obtain ⟨a, haa⟩ : ∃ a, as[k]? = some a := ⟨_, List.getElem?_eq_getElem (by omega)⟩
        refine ⟨a, fs.getD k d0, ?_, e3 _ _ (hat k a _ haa (getD_at hk2))⟩
        rw [List.getD_eq_getElem?_getD, List.getElem?_map, haa]
        rfl
      have hev := ev_eqNil (K := K) (σ := [some (.ref t), some (.ref wp), some (.ref fp), some (.int s), some (.ref l), some (.int (i : Int)), some (.ref sp), none]) (ta := tVar 6) (ev_var rfl) (.lst (sq_of h3) hds) (fl_list hdf)
      have hw3 := ex_l e03 hw
      have a1 := atI_W (ws := ws) (z := (i : Int)) (by omega) (by omega)
      rw [show ((i : Int)).toNat = i by omega] at a1
      cases hfd : (List.range fs.length).find? fun k => decide ((fs.getD k d0).s = s) && decide ((fs.getD k d0).p = (i : Int)) with
      | none =>
        have hnil : given fs.length (fun k => decide ((fs.getD k d0).s = s) && decide ((fs.getD k d0).p = (i : Int))) (fun k => (as.map V.ref).getD k .non) = [] := by
          unfold given
          rw [← List.head?_filter, List.head?_eq_none_iff] at hfd
          rw [hfd]
          rfl
        have hemp : ds.isEmpty = true := by
          rw [hnil] at hdl
          rw [List.length_eq_zero_iff.mp hdl]
          rfl
        rw [hemp] at hev
        rw [hfd] at hfirst
        refine s_if (et_test hev) (fun _ H4 e4 => ?_) (fun z => by cases z)
        have hw4 := ex_l e4 hw3
        refine s_app (v := vS (ws.getD i [])) (e4 _ _ hl3) (ev_var rfl) (ev_op (ev_var rfl) (ev_var rfl) (rv_ixL hw4 a1)) hz fun H5 e5 => ?_
        refine ⟨_, _, rfl, Ex.mut ((e03.trans e4).trans e5) hl, ?_⟩
        rw [upd_same, range_snoc (fun i : Nat => garbW c (firstF fs s (i : Int)) (ws.getD i [])), List.map_append, hfirst]
        rfl
      | some k =>
        have hcons : ∃ rest, given fs.length (fun k => decide ((fs.getD k d0).s = s) && decide ((fs.getD k d0).p = (i : Int))) (fun k => (as.map V.ref).getD k .non) = (as.map V.ref).getD k .non :: rest := by
          unfold given
          rw [← List.head?_filter] at hfd
          cases hl : (List.range fs.length).filter fun k => decide ((fs.getD k d0).s = s) && decide ((fs.getD k d0).p = (i : Int)) with
          | nil =>
            rw [hl] at hfd
            cases hfd
          | cons k' r =>
            rw [hl] at hfd
            have : k' = k := Option.some.inj hfd
            rw [this]
            exact ⟨_, rfl⟩
        obtain ⟨rest, hcons⟩ := hcons
        have hemp : ds.isEmpty = false := by
          rw [hcons] at hdl
          cases ds with
          | nil => cases hdl
          | cons d r => rfl
        rw [hemp] at hev
        rw [hfd] at hfirst
        have hk2 := List.mem_range.mp (List.mem_of_find?_eq_some hfd)
        obtain ⟨a, haa⟩ : ∃ a, as[k]? = some a := ⟨_, List.getElem?_eq_getElem (by omega)⟩
        have hka : (as.map V.ref).getD k .non = .ref a := by
          rw [List.getD_eq_getElem?_getD, List.getElem?_map, haa]
          rfl
        have hta := e3 _ _ (hat k a _ haa (getD_at (d := d0) hk2))
        rw [hcons, hka] at h3
        refine s_if (et_test hev) (fun z => by cases z) (fun _ H4 e4 => ?_)
        have hw4 := ex_l e4 hw3
        have v1 := v_law_made_another (K := K) (hct.ex (e03.trans e4)) hx (e4 _ _ hta)
        have h4 := sq_of (K := K) (e4 _ _ h3)
        refine s_app (v := vS (garbW c (some (fs.getD k d0)) (ws.getD i []))) (e4 _ _ hl3) (ev_var rfl) (ev_call (vs := [.ref t, vS (ws.getD i []), .ref a]) (ea_cons (ev_var rfl) (ea_cons (ev_op (ev_var rfl) (ev_var rfl) (rv_ixL hw4 a1)) (ea_cons (ev_op (ev_var rfl) ev_c (rv_ixL h4 (atG (j := 0) rfl rfl))) ea_nil))) v1) hz fun H5 e5 => ?_
        refine ⟨_, _, rfl, Ex.mut ((e03.trans e4).trans e5) hl, ?_⟩
        rw [upd_same, range_snoc (fun i : Nat => garbW c (firstF fs s (i : Int)) (ws.getD i [])), List.map_append, hfirst]
        rfl
  · obtain ⟨x5, x6, rfl, e, hacc⟩ := hP
    refine s_ret (ev_var rfl) fun H2 e2 => ?_
    exact q l H2 hl (e.trans e2) (e2 _ _ hacc)
end
end Cb
/-! K25: the law's faults. -/
namespace Cb
open PySem PySem.Spec PyProof.Rows L2 Evl
open C8 (Cal Met Mak pe_c pe_mk pe_mt pe_mt0 pe_gc)

theorem rg2 : ∀ l : Fin 25, RgC 0 ((l.val : Int) - 1) 2 (l.val / 2) := by
  intro l
  refine ⟨by decide, by decide, ?_, ?_⟩
  · revert l
    decide +kernel
  · revert l
    decide +kernel
def FInv (H : Hp) (l : Addr) (ps : List (Addr × Fl)) : Prop := H l = some (.lst (ps.map fun x => V.ref x.1)) ∧ ∀ x ∈ ps, H x.1 = some (.tup (FlV x.2)) ∧ x.2.s < 60
theorem FInv.ex {H H' : Hp} {l : Addr} {ps : List (Addr × Fl)} (e : Ex H H') (h : FInv H l ps) : FInv H' l ps := ⟨e _ _ h.1, fun x hx => ⟨e _ _ (h.2 x hx).1, (h.2 x hx).2⟩⟩
theorem FInv.app {H : Hp} {l q : Addr} {ps : List (Addr × Fl)} {f : Fl} (h : FInv H l ps) (hq : H q = some (.tup (FlV f))) (hf : f.s < 60) : FInv (upd H l (.lst ((ps.map fun x => V.ref x.1) ++ [.ref q]))) l (ps ++ [(q, f)]) := by
  have key : ∀ (a : Addr) (u : List V), H a = some (.tup u) → ∀ o, (upd H l o) a = some (.tup u) := fun a u ha o => by
    rw [upd_ne (fun z => by
      subst z
      rw [h.1] at ha
      cases ha)]
    exact ha
  refine ⟨by rw [upd_same, List.map_append]; rfl, fun x hx => ?_⟩
  rcases List.mem_append.mp hx with hx | hx
  · exact ⟨key _ _ (h.2 x hx).1 _, (h.2 x hx).2⟩
  · rw [List.mem_singleton.mp hx]
    exact ⟨key _ _ hq _, hf⟩
theorem FInv.faults {K : PySem.W.Frag} {H : Hp} {l : Addr} {ps : List (Addr × Fl)} (h : FInv H l ps) (hl : ps.length ≤ 1000) : FaultsAt K H l (ps.map (·.2)) := by
  refine ⟨ps.map (·.1), sq_of (by rw [List.map_map]; exact h.1), by rw [List.length_map, List.length_map], by rw [List.length_map]; exact hl, fun i a f h1 h2 => ?_⟩
  rw [List.getElem?_map] at h1 h2
  cases hp : ps[i]? with
  | none =>
    rw [hp] at h1
    cases h1
  | some x =>
    rw [hp] at h1 h2
    obtain rfl : x.1 = a := Option.some.inj h1
    obtain rfl : x.2 = f := Option.some.inj h2
    exact (h.2 x (List.mem_of_getElem? hp)).1
local macro_rules | `(tactic| tm_at "side") => `(tactic| (first | assumption | omega | ((try simp only [List.length_append, List.length_cons, List.length_nil, List.length_map, List.length_range]); omega) | exact ⟨by omega, by omega⟩ | exact .inl ⟨by omega, by omega⟩ | exact .inr ⟨by omega, by omega⟩ | decide))
local macro_rules | `(tactic| tm_at "rv") => `(tactic| (first
  | exact rv_I0
  | exact rv_mod (by tm_at "side")
  | exact rv_I (by tm_at "side")
  | exact rv_eq rfl
  | exact rv_ne rfl
  | exact rv_addS (by tm_at "side")
  | exact rv_ixSS (by tm_at "side") (by assumption)
  | exact rv_ixL (by assumption) (by assumption)
  | exact rv_ixT (by assumption) (by assumption)
  | exact rv_inS
  | exact rv_isN
  | exact rv_notN
  | assumption))
local macro_rules | `(tactic| tm_at "eo") => `(tactic| (first | exact eo_none | (apply eo_some; tm_at "ev")))
local macro_rules | `(tactic| tm_at "ea") => `(tactic| (first | exact ea_nil | (apply ea_cons; (tm_at "ev"); (tm_at "ea"))))
local macro_rules | `(tactic| tm_at "sp") => `(tactic| assumption)
local macro_rules | `(tactic| tm_at "ev") => `(tactic| (first
  | exact ev_c
  | exact ev_var rfl
  | assumption
  | (apply ev_op; (tm_at "ev"); (tm_at "ev"); (tm_at "rv"))
  | (apply ev_un (hr := ru_neg); tm_at "ev")
  | (apply ev_fld; (tm_at "ev"); assumption; assumption; assumption; rfl)
  | (apply ev_lenStr; (tm_at "ev"); (tm_at "side"))
  | (apply ev_lenDT; (tm_at "ev"); assumption)
  | (apply ev_len; (tm_at "ev"); assumption)
  | (apply ev_lenT; (tm_at "ev"); assumption)
  | (apply ev_slS; (tm_at "ev"); (tm_at "eo"); (tm_at "eo"); (tm_at "side"))
  | (apply ev_call; (tm_at "ea"); (tm_at "sp"))
  | (apply ev_meth; (tm_at "ev"); assumption; rfl; (tm_at "ea"); (tm_at "sp"))
  | (apply ev_isStr; tm_at "ev")
  | (apply ev_isInt; tm_at "ev")
  | (apply ev_isBoolI; tm_at "ev")
  | (apply ev_isList; (tm_at "ev"); assumption)
  | (apply ev_isTuple; (tm_at "ev"); assumption)
  | (apply ev_abs; tm_at "ev")
  | (apply ev_int1; tm_at "ev")
  | (apply ev_max2; (tm_at "ev"); (tm_at "ev"))
  | (apply ev_sindex; (tm_at "ev"); (tm_at "ev"); assumption)
  | (apply ev_dinK; (tm_at "ev"); (tm_at "ev"); assumption)
  | (apply ev_dinT; (tm_at "ev"); (tm_at "ev"); assumption; assumption)
  | (apply ev_chain; (tm_at "ev"); (tm_at "ev"); (tm_at "rv"); (intro _; tm_at "ev"); (intro _; tm_at "rv"))
  | (apply ev_andV; (tm_at "ev"); (intro _; tm_at "ev"))
  | (apply ev_orV; (tm_at "ev"); (intro _; tm_at "ev"))
  | (apply ev_notV; tm_at "ev")))
local macro_rules | `(tactic| tm_at "et") => `(tactic| (first
  | assumption
  | (apply et_test; tm_at "ev")
  | (apply et_B; tm_at "ev")
  | (apply et_not; tm_at "et")
  | (apply et_and; (tm_at "et"); (intro _; tm_at "et"))
  | (apply et_or; (tm_at "et"); (intro _; tm_at "et"))))
/-- tests by sums -/
local macro_rules | `(tactic| tm_at "bf") => `(tactic| (simp only [Bool.not_true, Bool.not_false, Bool.false_or, Bool.true_and, Bool.and_true, Bool.or_false, Bool.or_eq_false_iff, Bool.and_eq_true, decide_eq_false_iff_not, decide_eq_true_eq, Bool.not_eq_false', Bool.not_eq_true']; omega))

section
variable {P : Program} {w : World} {K : PySem.W.Frag} {mg : Str → Option Value} {base : Heap} {H : Hp}
def sp_law_faults (K : PySem.W.Frag) : Sp := fun vs H Q _ => ∃ (p : Addr) (ns : List Int) (m : Nat), vs = [.ref p, .int (m : Int)] ∧ SqL K H p (ns.map V.int) ∧ RetR (fun v H' => ∃ (l : Addr) (ps : List (Addr × Fl)), v = .ref l ∧ FInv H' l ps ∧ ps.length ≤ 200) H Q
theorem r_law_faults {p : Addr} {ns : List Int} {m : Nat} (h1 : SqL K H p (ns.map V.int)) : SpR (sp_law_faults K) [.ref p, .int (m : Int)] H (fun v H' => ∃ (l : Addr) (ps : List (Addr × Fl)), v = .ref l ∧ FInv H' l ps ∧ ps.length ≤ 200) := fun H1 e Q q E => ⟨p, ns, m, rfl, ex_l e h1, q⟩
theorem c_law_faults (T : Tx K mg) : Cal P w K mg base 2 "_law_faults" (sp_law_faults K) [] := by
  refine cal_of T.d_law_faults T.a_law_faults sc_law_faults (fun _ _ _ _ _ _ us hl => match us, hl with | [_, _], _ => rfl) (fun vs H Q E h => by (repeat (obtain ⟨_, h⟩ := h)); subst_vars; rfl) fun f cdv A outer s H vs Q E hr h => ?_
  obtain ⟨p, ns, m, rfl, hp, q⟩ := h
  refine ⟨_, (pss_cons (ps_set (i := 2) sc_law_faults.nd rfl (Or.inl rfl) (pe_lst pa_nil))
  (pss_cons (ps_set (i := 3) sc_law_faults.nd rfl (Or.inl rfl) (pe_slice sl_list (pv 0) (po_some pe_int) (po_some pe_int)))
  (pss_cons (ps_for PassesOwn.never rfl (pi_range3 rfl T.f_range (pa_cons pe_int (pa_cons (pe_op op_sub (pe_callB call_len_seq rfl T.f_len bt_len (pa_cons (pv 3) pa_nil)) pe_int) (pa_cons pe_int pa_nil)))) (pg_name (i := 4) sc_law_faults.nd rfl (Or.inl rfl))
    (pss_cons (ps_set (i := 5) sc_law_faults.nd rfl (Or.inl rfl) (pe_op op_mod (pe_c (c_law_mixed T) hr (by decide) rfl (pa_cons (pe_ix ix_list (pv 3) (pv 4) (fun _ _ => rfl)) (pa_cons pe_int pa_nil))) (pe_op op_add (pv 1) pe_int)))
  (pss_cons (ps_set (i := 6) sc_law_faults.nd rfl (Or.inl rfl) (pe_ix ix_list (pe_lst (pa_cons pe_str (pa_cons pe_str pa_nil))) (pe_op op_mod (pe_c (c_law_mixed T) hr (by decide) rfl (pa_cons (pe_ix ix_list (pv 3) (pv 4) (fun _ _ => rfl)) (pa_cons pe_int pa_nil))) pe_int) (fun _ _ => rfl)))
  (pss_cons (ps_expr (pe_bm PySem.F.plainAttrs_list PySem.F.slot_list_append PySem.F.type_list_append mt_append (pv 2) (pa_cons (pe_tup (pa_cons (pe_op op_mod (pe_c (c_law_mixed T) hr (by decide) rfl (pa_cons (pe_ix ix_list (pv 3) (pe_op op_add (pv 4) pe_int) (fun _ _ => rfl)) (pa_cons pe_int pa_nil))) pe_int) (pa_cons (pv 5) (pa_cons (pv 6) (pa_cons (pe_op op_mod (pe_callB call_abs rfl T.f_abs bt_abs (pa_cons (pe_ix ix_list (pv 3) (pe_op op_add (pv 4) pe_int) (fun _ _ => rfl)) pa_nil)) (pe_op op_pow pe_int pe_int)) pa_nil))))) pa_nil)))
  (pss_one (ps_if (pt_cmpR op_eq (pe_op op_mod (pe_ix ix_list (pv 3) (pv 4) (fun _ _ => rfl)) pe_int) pe_int (nomark _))
    (pss_one (ps_expr (pe_bm PySem.F.plainAttrs_list PySem.F.slot_list_append PySem.F.type_list_append mt_append (pv 2) (pa_cons (pe_tup (pa_cons (pe_ix ix_tup (pe_ix ix_list (pv 2) (pe_un un_neg pe_int) (fun _ _ => rfl)) pe_int (fun _ _ => rfl)) (pa_cons (pv 5) (pa_cons (pv 6) (pa_cons (pe_op op_mod (pe_callB call_abs rfl T.f_abs bt_abs (pa_cons (pe_ix ix_list (pv 3) (pv 4) (fun _ _ => rfl)) pa_nil)) (pe_op op_pow pe_int pe_int)) pa_nil))))) pa_nil))))
    pss_nil))))))
  (pss_cons (ps_set (i := 7) sc_law_faults.nd rfl (Or.inl rfl) (pe_op op_fdiv (pe_c (c_law_cell_at T) hr (by decide) rfl (pa_cons (pv 0) (pa_cons pe_int pa_nil))) pe_int))
  (pss_cons (ps_if (pt_cmpR op_eq (pe_op op_mod (pv 7) pe_int) pe_int (nomark _))
    (pss_one (ps_for PassesOwn.never rfl (pi_range1 rfl T.f_range (pa_cons (pe_op op_mod (pe_op op_fdiv (pv 7) pe_int) pe_int) pa_nil)) (pg_name (i := 8) sc_law_faults.nd rfl (Or.inl rfl))
    (pss_one (ps_expr (pe_bm PySem.F.plainAttrs_list PySem.F.slot_list_append PySem.F.type_list_append mt_append (pv 2) (pa_cons (pe_tup (pa_cons (pv 8) (pa_cons pe_int (pa_cons pe_str (pa_cons (pe_op op_add (pe_op op_mod (pe_op op_fdiv (pv 7) pe_int) pe_int) (pe_op op_mul pe_int (pv 8))) pa_nil))))) pa_nil))))))
    pss_nil)
  (pss_one (ps_ret (pv 2)))))))), ?_⟩
  have hpw : CPow 10 60 := ⟨by decide, by decide, by decide⟩
  have h60 : (0 : Int) < (10 : Int) ^ (60 : Int).toNat := by decide
  refine q_asgL (xs := []) (el_lst ea_nil (by decide)) fun l H1 hl e1 h1 => ?_
  have hsl := el_sl (σ := [some (.ref p), some (.int (m : Int)), some (.ref l), none, none, none, none, none, none]) (te := tVar 0) (tl := tPart (tC (.int 20))) (th := tPart (tC (.int 44))) (ev_var rfl) (eo_some (i := 20) ev_c) (eo_some (i := 44) ev_c) (ex_l e1 hp)
  rw [cutV_map] at hsl
  have hcl : (cutG ns (some 20) (some 44)).length ≤ 24 := cutG_len ns 20 44
  generalize cutG ns (some 20) (some 44) = cs at hsl hcl
  refine q_asgL hsl fun cp H2 hcp0 e2 hcp => ?_
  have ncl : cp ≠ l := (ne_of_none h1 hcp0).symm
  have hcps := sq_of (K := K) hcp
  have fin : ∀ (H' : Hp) (ps : List (Addr × Fl)) (D : Ends) (x3 x4 x5 x6 x7 x8 : Option V), D.rt = Q → Ex H H' → FInv H' l ps → ps.length ≤ 200 → tRet (tVar 2) D [some (.ref p), some (.int (m : Int)), some (.ref l), x3, x4, x5, x6, x7, x8] H' := fun H' ps D x3 x4 x5 x6 x7 x8 hD e hF hps => by
    refine s_ret (ev_var rfl) fun H2 e2 => ?_
    rw [hD]
    exact q _ H2 (e.trans e2) ⟨l, ps, rfl, hF.ex e2, hps⟩
  refine q_forN (ei_rng3 (lo := 0) (m := ((cs.length : Nat) : Int) - 1) (c := 2) (k := cs.length / 2) (ea_cons ev_c (ea_cons (ev_is (ev_op (ev_len (ev_var rfl) hcps) ev_c rv_I0) (by rw [List.length_map])) (ea_cons ev_c ea_nil))) (rg2 ⟨cs.length, by omega⟩)) (fun i σ' H' => ∃ (ps : List (Addr × Fl)) (x4 x5 x6 : Option V), σ' = [some (.ref p), some (.int (m : Int)), some (.ref l), some (.ref cp), x4, x5, x6, none, none] ∧ Ex H H' ∧ H' cp = some (.lst (cs.map V.int)) ∧ FInv H' l ps ∧ ps.length ≤ 2 * i)
    (fun H3 e3 _ => ⟨[], none, none, none, rfl, (e1.trans e2).trans e3, e3 _ _ hcp, ⟨(e2.trans e3) _ _ h1, fun x h => nomatch h⟩, Nat.zero_le _⟩) (fun _ _ _ _ _ => trivial) (fun i σ' H' hi hP H3 e3 => ?_) (fun σ' H' hP => ?_)
  · obtain ⟨ps, x4, x5, x6, rfl, e, hc, hF, hps⟩ := hP
    have e03 := e.trans e3
    have hc3 := sq_of (K := K) (e3 _ _ hc)
    have hi2 : i * 2 + 1 < cs.length := by omega
    have a0 : atI (cs.map V.int) (0 + (i : Int) * 2) = some (.int (cs.getD (i * 2) 0)) := atI_getD (by omega) (by omega)
    have a1 : atI (cs.map V.int) (0 + (i : Int) * 2 + 1) = some (.int (cs.getD (i * 2 + 1) 0)) := atI_getD (by omega) hi2
    generalize hz0 : (0 : Int) + (i : Int) * 2 = z0 at a0 a1 ⊢
    generalize cs.getD (i * 2) 0 = c0 at a0
    generalize cs.getD (i * 2 + 1) 0 = c1 at a1
    have vm0 := v_law_mixed (K := K) (H := H3) (c := c0) (k := 0) (by decide)
    have vm1 := v_law_mixed (K := K) (H := H3) (c := c0) (k := 1) (by decide)
    have vm2 := v_law_mixed (K := K) (H := H3) (c := c1) (k := 2) (by decide)
    refine q_asg (ev_op (ev_call (vs := [.int c0, .int 0]) (ea_cons (ev_op (ev_var rfl) (ev_var rfl) (rv_ixL hc3 a0)) (ea_cons ev_c ea_nil)) vm0) (ev_op (ev_var rfl) ev_c rv_I0) (rv_mod (by omega))) fun H4 e4 => ?_
    generalize mixI c0 0 % ((m : Int) + 1) = pl
    have hc4 := ex_l e4 hc3
    have k0 := Int.emod_nonneg (mixI c0 1) (show (2 : Int) ≠ 0 by decide)
    have k1 := Int.emod_lt_of_pos (mixI c0 1) (show (0 : Int) < 2 by decide)
    have ak : atI [vS sLetter, vS sSwap] (mixI c0 1 % 2) = some (.str (S (if decide (mixI c0 1 % 2 = 0) = true then sLetter else sSwap))) := by
      by_cases hz : mixI c0 1 % 2 = 0
      · rw [decide_eq_true hz, hz]
        exact atG (j := 0) rfl rfl
      · rw [decide_eq_false hz, show mixI c0 1 % 2 = 1 by omega]
        exact atG (j := 1) rfl rfl
    refine q_asg (ev_ixN (xs := [vS sLetter, vS sSwap]) (el_lst (ea_cons (ev_is ev_c (by rw [eLe]; rfl)) (ea_cons (ev_is ev_c (by rw [eSw]; rfl)) ea_nil)) (Nat.le_of_ble_eq_true rfl)) (ev_op (ev_call (vs := [.int c0, .int 1]) (ea_cons (ev_op (ev_var rfl) (ev_var rfl) (rv_ixL hc4 a0)) (ea_cons ev_c ea_nil)) (fun H5 e5 => vm1 H5 (e4.trans e5))) ev_c (rv_mod (by decide))) ak) fun H5 e5 => ?_
    generalize decide (mixI c0 1 % 2 = 0) = lt
    have hc5 := ex_l e5 hc4
    have s0 := Int.emod_nonneg (mixI c1 2) (show (4 : Int) ≠ 0 by decide)
    have s1 := Int.emod_lt_of_pos (mixI c1 2) (show (0 : Int) < 4 by decide)
    have e35 := e4.trans e5
    have hF5 := hF.ex (e3.trans e35)
    refine q_appU (ys := FlV ⟨mixI c1 2 % 4, pl, lt, (if c1 < 0 then -c1 else c1) % (10 : Int) ^ (60 : Int).toNat⟩) hF5.1 (ev_var rfl) (eu_tup (ea_cons (ev_op (ev_call (vs := [.int c1, .int 2]) (ea_cons (ev_op (ev_var rfl) (ev_op (ev_var rfl) ev_c rv_I0) (rv_ixL hc5 a1)) (ea_cons ev_c ea_nil)) (fun H6 e6 => vm2 H6 (e35.trans e6))) ev_c (rv_mod (by decide))) (ea_cons (ev_var rfl) (ea_cons (ev_var rfl) (ea_cons (ev_op (ev_abs (ev_op (ev_var rfl) (ev_op (ev_var rfl) ev_c rv_I0) (rv_ixL hc5 a1))) (ev_op ev_c ev_c (rv_I hpw)) (rv_mod h60)) ea_nil)))) (Nat.le_of_ble_eq_true rfl)) (by rw [List.length_map]; omega) fun q1 H6 hq1 e6 h6 => ?_
    have hF6 := (hF5.ex e6).app h6 (by show mixI c1 2 % 4 < 60; omega)
    have e06 := ((e03.trans e35).trans e6)
    have hc6 : (upd H6 l (.lst ((ps.map fun x => V.ref x.1) ++ [.ref q1]))) cp = some (.lst (cs.map V.int)) := by
      rw [upd_ne ncl]
      exact ((e3.trans e35).trans e6) _ _ hc
    have ex6 : Ex H (upd H6 l (.lst ((ps.map fun x => V.ref x.1) ++ [.ref q1]))) := Ex.mut e06 hl
    have h6' : (upd H6 l (.lst ((ps.map fun x => V.ref x.1) ++ [.ref q1]))) q1 = some (.tup (FlV ⟨mixI c1 2 % 4, pl, lt, (if c1 < 0 then -c1 else c1) % (10 : Int) ^ (60 : Int).toNat⟩)) := (hF6.2 _ (List.mem_append.mpr (.inr (List.mem_singleton.mpr rfl)))).1
    have hl6 := hF6.1
    have hc6s := sq_of (K := K) hc6
    refine s_when (b := decide (V.int (c0 % 5) = V.int 0)) (et_test (ev_op (ev_op (ev_op (ev_var rfl) (ev_var rfl) (rv_ixL hc6s a0)) ev_c (rv_mod (by decide))) ev_c (rv_eq rfl))) (fun _ H7 e7 => ?_) (fun _ H7 e7 => ?_)
    · have hF7 := hF6.ex e7
      have hl7 := sq_of (K := K) hF7.1
      have hq7 := st_of (K := K) (e7 _ _ h6')
      have hc7 := ex_l e7 hc6s
      have al : atI (((ps ++ [(q1, (⟨mixI c1 2 % 4, pl, lt, (if c1 < 0 then -c1 else c1) % (10 : Int) ^ (60 : Int).toNat⟩ : Fl))]).map fun x => V.ref x.1)) (-1) = some (.ref q1) := atI_m1 (by rw [getLast_map, List.getLast?_append]; rfl)
      refine s_appU (ys := FlV ⟨mixI c1 2 % 4, pl, lt, (if c0 < 0 then -c0 else c0) % (10 : Int) ^ (60 : Int).toNat⟩) hF7.1 (ev_var rfl) (eu_tup (ea_cons (ev_op (ev_op (ev_var rfl) (ev_un (hr := ru_neg) ev_c) (rv_ixL hl7 al)) ev_c (rv_ixT hq7 (atG (j := 0) rfl rfl))) (ea_cons (ev_var rfl) (ea_cons (ev_var rfl) (ea_cons (ev_op (ev_abs (ev_op (ev_var rfl) (ev_var rfl) (rv_ixL hc7 a0))) (ev_op ev_c ev_c (rv_I hpw)) (rv_mod h60)) ea_nil)))) (Nat.le_of_ble_eq_true rfl)) (by rw [List.length_map, List.length_append]; show ps.length + 1 < _; omega) fun q2 H8 hq2 e8 h8 => ?_
      refine ⟨_, _, _, _, rfl, Ex.mut ((ex6.trans e7).trans e8) hl, ?_, (hF7.ex e8).app h8 (by show mixI c1 2 % 4 < 60; omega), ?_⟩
      · rw [upd_ne ncl]
        exact (e7.trans e8) _ _ hc6
      · rw [List.length_append, List.length_append]
        show ps.length + 1 + 1 ≤ _
        omega
    · refine ⟨_, _, _, _, rfl, ex6.trans e7, e7 _ _ hc6, hF6.ex e7, ?_⟩
      rw [List.length_append]
      show ps.length + 1 ≤ _
      omega
  · obtain ⟨ps, x4, x5, x6, rfl, e, hc, hF, hps⟩ := hP
    have ck := v_law_cell_at (k := 2) (ex_l e hp)
    have cd : CDiv (ns.getD 2 0) 30 := ⟨by decide, by decide⟩
    refine q_asg (ev_op (ev_call (vs := [.ref p, .int 2]) (by tm_at "ea") ck) ev_c (rv_I cd)) fun H3 e3 => ?_
    generalize ns.getD 2 0 / 30 = cl
    have e03 := e.trans e3
    refine q_when (b := decide (V.int (cl % 4) = V.int 1)) (by tm_at "et") (fun _ H4 e4 => ?_) (fun _ H4 e4 => ?_)
    · have j0 := Int.emod_nonneg (cl / 4) (show (60 : Int) ≠ 0 by decide)
      have j1 := Int.emod_lt_of_pos (cl / 4) (show (0 : Int) < 60 by decide)
      have c4 : CDiv cl 4 := ⟨by decide, by decide⟩
      have c240 : CDiv cl 240 := ⟨by decide, by decide⟩
      refine s_forN (ei_rng1 (m := cl / 4 % 60) (ea_cons (ev_op (ev_op (ev_var rfl) ev_c (rv_I c4)) ev_c (rv_mod (by decide))) ea_nil) (by omega)) (fun j σ' H' => ∃ (ps' : List (Addr × Fl)) (x8 : Option V), σ' = [some (.ref p), some (.int (m : Int)), some (.ref l), some (.ref cp), x4, x5, x6, some (.int cl), x8] ∧ Ex H H' ∧ FInv H' l ps' ∧ ps'.length ≤ 50 + j)
        (fun H5 e5 _ => ⟨ps, none, rfl, (e03.trans e4).trans e5, hF.ex ((e3.trans e4).trans e5), by omega⟩) (fun _ _ _ _ _ => trivial) (fun j σ' H' hj hP H5 e5 => ?_) (fun σ' H' hP => ?_)
      · obtain ⟨ps', x8, rfl, eH, hF', hps'⟩ := hP
        have hF5 := hF'.ex e5
        have cm : CMul 7 (j : Int) := .inl ⟨by decide, by decide⟩
        refine s_appU (ys := FlV ⟨(j : Int), 0, true, cl / 240 % 1000 + 7 * (j : Int)⟩) hF5.1 (ev_var rfl) (eu_tup (ea_cons (ev_var rfl) (ea_cons ev_c (ea_cons (ev_is ev_c (by rw [eLe]; rfl)) (ea_cons (ev_op (ev_op (ev_op (ev_var rfl) ev_c (rv_I c240)) ev_c (rv_mod (by decide))) (ev_op ev_c (ev_var rfl) (rv_I cm)) rv_I0) ea_nil)))) (Nat.le_of_ble_eq_true rfl)) (by rw [List.length_map]; omega) fun q2 H6 hq2 e6 h6 => ?_
        refine ⟨_, _, rfl, Ex.mut ((eH.trans e5).trans e6) hl, (hF5.ex e6).app h6 (by show (j : Int) < 60; omega), ?_⟩
        rw [List.length_append]
        show ps'.length + 1 ≤ _
        omega
      · obtain ⟨ps', x8, rfl, eH, hF', hps'⟩ := hP
        exact fin H' ps' _ _ _ _ _ _ _ rfl eH hF' (by omega)
    · exact fin H4 ps _ _ _ _ _ _ _ rfl (e03.trans e4) (hF.ex (e3.trans e4)) (by omega)
end
end Cb
/-! K26: the law's look at the sendings. -/
namespace Cb
open PySem PySem.Spec PyProof.Rows L2 Evl
open C8 (Cal Met Mak pe_c pe_mk pe_mt pe_mt0 pe_gc)

def flD (f : Fl) : PyData := .tuple [.int f.s, .int f.p, dS (if f.letter = true then sLetter else sSwap), .int f.n]
theorem flD_fl (f : Fl) : Fl0 1 (flD f) := by
  have asc : Asc (if f.letter = true then sLetter else sSwap) := by
    split
    · exact fun b hb => by revert b; decide
    · exact fun b hb => by revert b; decide
  refine fl_tup fun e he => ?_
  rcases List.mem_cons.mp he with rfl | he
  · exact fl_I _
  rcases List.mem_cons.mp he with rfl | he
  · exact fl_I _
  rcases List.mem_cons.mp he with rfl | he
  · exact fl_S asc
  · rw [List.mem_singleton.mp he]
    exact fl_I _
theorem eqvAll_self : ∀ {ds : List PyData}, (∀ d ∈ ds, PyData.eqv d d = true) → PyData.eqvAll ds ds = true
  | [], _ => by simp [PyData.eqvAll]
  | d :: ds, h => by
    simp only [PyData.eqvAll]
    rw [h d (List.mem_cons_self ..), eqvAll_self fun e he => h e (List.mem_cons_of_mem _ he)]
    rfl
theorem eqv_int (i : Int) : PyData.eqv (.int i) (.int i) = true := by simp [PyData.eqv]
theorem flD_self (f : Fl) : PyData.eqv (flD f) (flD f) = true := by
  unfold flD
  simp only [PyData.eqv]
  refine eqvAll_self fun d hd => ?_
  rcases List.mem_cons.mp hd with rfl | hd
  · exact eqv_int _
  rcases List.mem_cons.mp hd with rfl | hd
  · exact eqv_int _
  rcases List.mem_cons.mp hd with rfl | hd
  · rw [eqv_S]
    exact decide_eq_true rfl
  · rw [List.mem_singleton.mp hd]
    exact eqv_int _
theorem dp_faults {K : PySem.W.Frag} {H : Hp} : ∀ {as : List Addr} {fs : List Fl}, as.length = fs.length → (∀ (i : Nat) (a : Addr) (f : Fl), as[i]? = some a → fs[i]? = some f → H a = some (.tup (FlV f))) → DpAll K H (as.map V.ref) (fs.map flD)
  | [], [], _, _ => .nil
  | a :: as, f :: fs, hl, h => .cons (.tup (st_of (h 0 a f rfl rfl)) (.cons (.int _) (.cons (.int _) (.cons (.str _) (.cons (.int _) .nil))))) (dp_faults (Nat.succ.inj hl) fun i b g x y => h (i + 1) b g (by simpa using x) (by simpa using y))
theorem zip_pairs {A G : List W} (h : A.length = G.length) : A.zip G = (List.range A.length).map fun i => (A.getD i [], G.getD i []) := by
  apply List.ext_getElem?
  intro i
  by_cases hi : i < A.length
  · rw [List.getElem?_map, List.getElem?_range hi]
    rw [show (A.zip G)[i]? = some (A.getD i [], G.getD i []) from (List.getElem?_zip_eq_some).mpr ⟨getD_at (d := []) hi, getD_at (d := []) (by omega)⟩]
    rfl
  · rw [List.getElem?_eq_none (by rw [List.length_zip]; omega), List.getElem?_eq_none (by rw [List.length_map, List.length_range]; omega)]
theorem next_given {A G : List W} (h : A.length = G.length) : given A.length (fun i => !decide (vS (A.getD i []) = vS (G.getD i []))) (fun i => vS (A.getD i [])) = (((A.zip G).filter fun x => decide (x.1 ≠ x.2)).map (·.1)).map vS := by
  rw [zip_pairs h, List.filter_map, List.map_map, List.map_map]
  unfold given
  congr 1
  apply List.filter_congr
  intro i _
  show (!decide (vS (A.getD i []) = vS (G.getD i []))) = decide (A.getD i [] ≠ G.getD i [])
  rw [vS_eq]
  simp
local macro_rules | `(tactic| tm_at "side") => `(tactic| (first | assumption | omega | ((try simp only [List.length_append, List.length_cons, List.length_nil, List.length_map, List.length_range]); omega) | exact ⟨by omega, by omega⟩ | exact .inl ⟨by omega, by omega⟩ | exact .inr ⟨by omega, by omega⟩ | decide))
local macro_rules | `(tactic| tm_at "rv") => `(tactic| (first
  | exact rv_I0
  | exact rv_mod (by tm_at "side")
  | exact rv_I (by tm_at "side")
  | exact rv_eq rfl
  | exact rv_ne rfl
  | exact rv_addS (by tm_at "side")
  | exact rv_ixSS (by tm_at "side") (by assumption)
  | exact rv_ixL (by assumption) (by assumption)
  | exact rv_ixT (by assumption) (by assumption)
  | exact rv_inS
  | exact rv_isN
  | exact rv_notN
  | assumption))
local macro_rules | `(tactic| tm_at "eo") => `(tactic| (first | exact eo_none | (apply eo_some; tm_at "ev")))
local macro_rules | `(tactic| tm_at "ea") => `(tactic| (first | exact ea_nil | (apply ea_cons; (tm_at "ev"); (tm_at "ea"))))
local macro_rules | `(tactic| tm_at "sp") => `(tactic| assumption)
local macro_rules | `(tactic| tm_at "ev") => `(tactic| (first
  | exact ev_c
  | exact ev_var rfl
  | assumption
  | (apply ev_op; (tm_at "ev"); (tm_at "ev"); (tm_at "rv"))
  | (apply ev_un (hr := ru_neg); tm_at "ev")
  | (apply ev_fld; (tm_at "ev"); assumption; assumption; assumption; rfl)
  | (apply ev_lenStr; (tm_at "ev"); (tm_at "side"))
  | (apply ev_lenDT; (tm_at "ev"); assumption)
  | (apply ev_len; (tm_at "ev"); assumption)
  | (apply ev_lenT; (tm_at "ev"); assumption)
  | (apply ev_slS; (tm_at "ev"); (tm_at "eo"); (tm_at "eo"); (tm_at "side"))
  | (apply ev_call; (tm_at "ea"); (tm_at "sp"))
  | (apply ev_meth; (tm_at "ev"); assumption; rfl; (tm_at "ea"); (tm_at "sp"))
  | (apply ev_isStr; tm_at "ev")
  | (apply ev_isInt; tm_at "ev")
  | (apply ev_isBoolI; tm_at "ev")
  | (apply ev_isList; (tm_at "ev"); assumption)
  | (apply ev_isTuple; (tm_at "ev"); assumption)
  | (apply ev_abs; tm_at "ev")
  | (apply ev_int1; tm_at "ev")
  | (apply ev_max2; (tm_at "ev"); (tm_at "ev"))
  | (apply ev_sindex; (tm_at "ev"); (tm_at "ev"); assumption)
  | (apply ev_dinK; (tm_at "ev"); (tm_at "ev"); assumption)
  | (apply ev_dinT; (tm_at "ev"); (tm_at "ev"); assumption; assumption)
  | (apply ev_chain; (tm_at "ev"); (tm_at "ev"); (tm_at "rv"); (intro _; tm_at "ev"); (intro _; tm_at "rv"))
  | (apply ev_andV; (tm_at "ev"); (intro _; tm_at "ev"))
  | (apply ev_orV; (tm_at "ev"); (intro _; tm_at "ev"))
  | (apply ev_notV; tm_at "ev")))
local macro_rules | `(tactic| tm_at "et") => `(tactic| (first
  | assumption
  | (apply et_test; tm_at "ev")
  | (apply et_B; tm_at "ev")
  | (apply et_not; tm_at "et")
  | (apply et_and; (tm_at "et"); (intro _; tm_at "et"))
  | (apply et_or; (tm_at "et"); (intro _; tm_at "et"))))
/-- tests by sums -/
local macro_rules | `(tactic| tm_at "bf") => `(tactic| (simp only [Bool.not_true, Bool.not_false, Bool.false_or, Bool.true_and, Bool.and_true, Bool.or_false, Bool.or_eq_false_iff, Bool.and_eq_true, decide_eq_false_iff_not, decide_eq_true_eq, Bool.not_eq_false', Bool.not_eq_true']; omega))

section
variable {P : Program} {w : World} {K : PySem.W.Frag} {mg : Str → Option Value} {base : Heap} {H : Hp}
def sp_law_sendings_right (K : PySem.W.Frag) : Sp := fun vs H Q _ => ∃ (t wp fp sp : Addr) (c : Cd) (ws : List W) (fs : List Fl) (T : Nat), vs = [.ref t, .ref wp, .ref fp, .ref sp] ∧ CodeTup H t c ∧ SqL K H wp (ws.map vS) ∧ ws.length ≤ 10000 ∧ (∀ x ∈ ws, IsWord c x ∧ goodB c x = true) ∧ FaultsAt K H fp fs ∧ SendAt H sp c fs ws T ∧ asked c fs ws T = [] ∧ (∀ i, i < T → asked c fs ws i ≠ []) ∧ T ≤ 61 ∧ RetV (.bl true) H Q
theorem v_law_sendings_right {t wp fp sp : Addr} {c : Cd} {ws : List W} {fs : List Fl} {T : Nat} (h1 : CodeTup H t c) (h2 : SqL K H wp (ws.map vS)) (h3 : ws.length ≤ 10000) (h4 : ∀ x ∈ ws, IsWord c x ∧ goodB c x = true) (h5 : FaultsAt K H fp fs) (h6 : SendAt H sp c fs ws T) (h7 : asked c fs ws T = []) (h8 : ∀ i, i < T → asked c fs ws i ≠ []) (h9 : T ≤ 61) : SpV (sp_law_sendings_right K) [.ref t, .ref wp, .ref fp, .ref sp] H (.bl true) := fun H1 e Q q E =>
  ⟨t, wp, fp, sp, c, ws, fs, T, rfl, h1.ex e, ex_l e h2, h3, h4, h5.ex e, by
    obtain ⟨as, a1, a2, a3⟩ := h6
    exact ⟨as, e _ _ a1, a2, fun i a h => e _ _ (a3 i a h)⟩, h7, h8, h9, q⟩
theorem asked_len (c : Cd) (fs : List Fl) (ws : List W) (t : Nat) : (asked c fs ws t).length ≤ ws.length := by
  rw [← places_map, List.length_map]
  exact places_len c fs ws t
theorem c_law_sendings_right (T : Tx K mg) : Cal P w K mg base 6 "_law_sendings_right" (sp_law_sendings_right K) [] := by
  refine cal_of T.d_law_sendings_right T.a_law_sendings_right sc_law_sendings_right (fun _ _ _ _ _ _ us hl => match us, hl with | [_, _, _, _], _ => rfl) (fun vs H Q E h => by (repeat (obtain ⟨_, h⟩ := h)); subst_vars; rfl) fun f cdv A outer s H vs Q E hr h => ?_
  obtain ⟨t, wp, fp, sp, c, ws, fs, N, rfl, hct, hw, hwl, hws, hf, ⟨sas, hsp, hsl, hsa⟩, hT, hask, hT61, q⟩ := h
  obtain ⟨ok, cwp, ht, hcwp⟩ := hct
  refine ⟨_, (pss_cons (ps_set (i := 4) sc_law_sendings_right.nd rfl (Or.inl rfl) (pe_callTy call_list_of rfl T.f_list bt_list (pa_cons (pv 1) pa_nil)))
  (pss_cons (ps_for PassesOwn.never rfl (pi_range1 rfl T.f_range (pa_cons (pe_callB call_len_seq rfl T.f_len bt_len (pa_cons (pv 3) pa_nil)) pa_nil)) (pg_name (i := 5) sc_law_sendings_right.nd rfl (Or.inl rfl))
    (pss_cons (ps_set (i := 6) sc_law_sendings_right.nd rfl (Or.inl rfl) (pe_c (c_law_came T) hr (by decide) rfl (pa_cons (pv 0) (pa_cons (pv 4) (pa_cons (pv 2) (pa_cons (pv 5) pa_nil))))))
  (pss_cons (ps_if (PW.pt (pw_or (pt_cmpR (op_eqD hr.units) (pv 4) (pe_lst pa_nil) (nomark _)) (pw_or1 (pt_cmpR (op_neD hr.units) (pe_ix ix_list (pv 3) (pv 5) (fun _ _ => rfl)) (pv 6) (nomark _)))))
    (pss_one (ps_ret pe_bl))
    pss_nil)
  (pss_cons (ps_if (pt_cmpR (op_neD hr.units) (pe_c (c_garbled T) hr (by decide) rfl (pa_cons (pe_mk (mk_Code T) hr (by decide) rfl (pa_cons (pe_ix ix_tup (pv 0) pe_int (fun _ _ => rfl)) (pa_cons (pe_callTy call_list_of rfl T.f_list bt_list (pa_cons (pe_ix ix_tup (pv 0) pe_int (fun _ _ => rfl)) pa_nil)) (pa_cons (pe_ix ix_tup (pv 0) pe_int (fun _ _ => rfl)) pa_nil)))) (pa_cons (pe_callTy call_list_of rfl T.f_list bt_list (pa_cons (pv 4) pa_nil)) (pa_cons (pe_callTy call_list_of rfl T.f_list bt_list (pa_cons (pv 2) pa_nil)) (pa_cons (pv 5) pa_nil))))) (pv 6) (nomark _))
    (pss_one (ps_ret pe_bl))
    pss_nil)
  (pss_one (ps_setLc (i := 4) (own := [("_law_one", 7), ("_law_other", 8)]) (g := gTup K 2 (gCons (gName 7) (gCons (gName 8) gNil))) rfl sc_law_sendings_right.nd rfl rfl (sw_true rfl rfl rfl (by decide +kernel)) (pi_zip rfl T.f_zip (pa_cons (pv 4) (pa_cons (pv 6) pa_nil))) (blkOk_by (N := nm_law_sendings_right) (sc := defScope s_law_sendings_right) (by decide +kernel)) (fun _ _ _ _ _ => (pg_tup rfl (pgs_cons (pg_name (i := 7) sc_law_sendings_right.nd rfl (Or.inl rfl)) (pgs_cons (pg_name (i := 8) sc_law_sendings_right.nd rfl (Or.inl rfl)) pgs_nil)))) (fun _ _ _ _ _ => pts_one (pt_cmpR op_ne (pv 7) (pv 8) (nomark _))) (fun _ _ _ _ _ => (pv 7))))))))
  (pss_one (ps_ret (pe_cmpR (op_eqD hr.units) (pv 4) (pe_lst pa_nil) (nomark _)))))), ?_⟩
  have t0 : atI [V.str (S c.al), .ref cwp, .int c.rs] 0 = some (.str (S c.al)) := rfl
  have t1 : atI [V.str (S c.al), .ref cwp, .int c.rs] 1 = some (.ref cwp) := rfl
  have t2 : atI [V.str (S c.al), .ref cwp, .int c.rs] 2 = some (.int c.rs) := rfl
  have haw : ∀ i, ∀ x ∈ asked c fs ws i, IsWord c x ∧ goodB c x = true := fun i x hx => hws x (asked_mem hx)
  have hasc : ∀ i, ∀ x ∈ asked c fs ws i, Asc x := fun i x hx => isWord_asc ok (haw i x hx).1
  have hgasc : ∀ i, ∀ x ∈ garbL c (asked c fs ws i) fs (i : Int), Asc x := fun i x hx => by
    obtain ⟨j, hj, rfl⟩ := List.mem_map.mp hx
    have hj2 := List.mem_range.mp hj
    have := haw i _ (getD_memW hj2)
    exact isWord_asc ok (garbW_ok ok this.1 this.2 _).1
  refine q_asgL (el_listT (ev_var rfl) hw) fun ap0 H1 hap0 e1 h1 => ?_
  have hsp1 := sq_of (K := K) (e1 _ _ hsp)
  refine q_forN (ei_rng1 (m := (N : Nat)) (ea_cons (ev_is (ev_len (ev_var rfl) hsp1) (by rw [List.length_map, hsl])) ea_nil) (by omega)) (fun i σ' H' => ∃ (ap : Addr) (x5 x6 : Option V), σ' = [some (.ref t), some (.ref wp), some (.ref fp), some (.ref sp), some (.ref ap), x5, x6, none, none] ∧ Ex H H' ∧ H' ap = some (.lst ((asked c fs ws i).map vS)))
    (fun H2 e2 _ => ⟨ap0, none, none, rfl, e1.trans e2, e2 _ _ h1⟩) (fun _ _ _ _ _ => trivial) (fun i σ' H' hi hP H2 e2 => ?_) (fun σ' H' hP => ?_)
  · obtain ⟨ap, x5, x6, rfl, e, hap⟩ := hP
    have hiT : i < N := hi
    have e02 := e.trans e2
    have hap2 := sq_of (K := K) (e2 _ _ hap)
    have hlen := asked_len c fs ws i
    refine q_asgL (xs := (garbL c (asked c fs ws i) fs (i : Int)).map vS) (el_callR (RA := fun vs _ => vs = [.ref t, .ref ap, .ref fp, .int (i : Int)]) (EvA.r (by tm_at "ea")) fun vs H3 e3 hr => by
      subst hr
      exact l_law_came ⟨ok, cwp, (e02.trans e3) _ _ ht, (e02.trans e3) _ _ hcwp⟩ (ex_l e3 hap2) (by omega) (fun x hx => (haw i x hx).1) (hf.ex (e02.trans e3))) fun cm H3 hcm3 e3 hcm => ?_
    have e03 := e02.trans e3
    have hap3 := (e2.trans e3) _ _ hap
    have hap3s := sq_of (K := K) hap3
    have hcms := sq_of (K := K) hcm
    obtain ⟨sa, hsai⟩ : ∃ a, sas[i]? = some a := ⟨_, List.getElem?_eq_getElem (by omega)⟩
    have hsa3 := sq_of (K := K) (e03 _ _ (hsa i sa hsai))
    have hsp3 := sq_of (K := K) (e03 _ _ hsp)
    have as1 : atI (sas.map V.ref) (i : Int) = some (.ref sa) := by
      refine atG rfl ?_
      rw [List.getElem?_map, hsai]
      rfl
    have hne : (((asked c fs ws i).map dS).isEmpty) = false := by
      cases ha : asked c fs ws i with
      | nil => exact absurd ha (hask i hiT)
      | cons x r => rfl
    have flA : Fl0 1 (.list ((asked c fs ws i).map dS)) := fl_LS (hasc i)
    have flG : Fl0 1 (.list ((garbL c (asked c fs ws i) fs (i : Int)).map dS)) := fl_LS (hgasc i)
    refine q_skip (et_is (et_or (a := false) (b := false) (et_is (et_test (ev_eqNil (ev_var rfl) (dp_LS hap3s) flA)) hne) fun _ => et_is (et_test (ev_op (ev_op (ev_var rfl) (ev_var rfl) (rv_ixL hsp3 as1)) (ev_var rfl) (rv_neD (dp_LS hsa3) (dp_LS hcms) flG.shaped flG.shaped))) ?_) rfl) fun H4 e4 => ?_
    · rw [eqv_LS, decide_eq_true rfl]
      rfl
    have e04 := e03.trans e4
    obtain ⟨as, ha1, ha2, ha3, ha4⟩ := hf.ex e04
    have hts4 := st_of (K := K) (e04 _ _ ht)
    have hcw4 := sq_of (K := K) (e04 _ _ hcwp)
    have hap4s := ex_l e4 hap3s
    refine q_skip (et_is (et_test (ev_opL1 (xs := (garbL c (asked c fs ws i) fs (i : Int)).map vS) (el_callR (RA := fun vs H5 => ∃ cp ap' fp', vs = [.ref cp, .ref ap', .ref fp', .int (i : Int)] ∧ CodeAt K H5 cp c ∧ H5 ap' = some (.lst ((asked c fs ws i).map vS)) ∧ FaultsAt K H5 fp' fs) (ear_cons (R := fun v H2 => ∃ q, v = .ref q ∧ CodeAt K H2 q c) (evr_make (RA := fun vs H2 => ∃ lp, vs = [.str (S c.al), .ref lp, .int c.rs] ∧ H2 lp = some (.lst (c.ws.map V.int))) ?_ fun vs H5 e5 hr => ?_) fun y H5 e5 hr => ?_) fun vs H5 e5 hr => ?_) (fun H5 e5 => ev_var rfl) fun p H5 hp5 e5 => rv_neD (dp_LS (sq_of hp5)) (dp_LS (ex_l (e4.trans e5) hcms)) flG.shaped flG.shaped)) ?_) fun H5 e5 => ?_
    · refine ear_cons (Ev.r (by tm_at "ev")) fun y1 H5 e5 hy1 => ear_cons (EvL.r (xs := c.ws.map V.int) (el_listT ?_ (ex_l e5 hcw4))) fun y2 H6 e6 hy2 => ?_
      · have hts5 := ex_t e5 hts4
        tm_at "ev"
      · obtain ⟨lp, rfl, hlp⟩ := hy2
        have hts6 := ex_t (e5.trans e6) hts4
        refine (EvA.r (vs := [.int c.rs]) (by tm_at "ea")).imp fun us H7 e7 hu => ?_
        exact ⟨lp, by rw [hy1, hu], e7 _ _ hlp⟩
    · obtain ⟨lp, rfl, hlp⟩ := hr
      exact fun x dx hx hdx hne Q q => spm_Code ok hlp x dx hx hdx hne Q q
    · obtain ⟨cp, rfl, hc⟩ := hr
      refine ear_cons (EvL.r (xs := (asked c fs ws i).map vS) (el_listT (ev_var rfl) (ex_l e5 hap4s))) fun y2 H6 e6 hy2 => ear_cons (EvL.r (xs := as.map V.ref) (el_listT (ev_var rfl) (ex_l (e5.trans e6) ha1))) fun y3 H7 e7 hy3 => ?_
      obtain ⟨ap', rfl, hap'⟩ := hy2
      obtain ⟨fp', rfl, hfp'⟩ := hy3
      refine (EvA.r (vs := [.int (i : Int)]) (by tm_at "ea")).imp fun us H8 e8 hu => ?_
      exact ⟨cp, ap', fp', by rw [hu], hc.ex ((e6.trans e7).trans e8), (e7.trans e8) _ _ hap', as, sq_of (e8 _ _ hfp'), ha2, ha3, fun j a f x y => (((e5.trans e6).trans e7).trans e8) _ _ (ha4 j a f x y)⟩
    · obtain ⟨cp, ap', fp', rfl, hc, hap', hf'⟩ := hr
      exact l_garbled hc (sq_of hap') (by omega) (fun x hx => (haw i x hx).1) hf'
    · rw [eqv_LS, decide_eq_true rfl]
      rfl
    · have hap5s := ex_l (e4.trans e5) hap3s
      have hcm5s := ex_l (e4.trans e5) hcms
      have hgl : (asked c fs ws i).length = (garbL c (asked c fs ws i) fs (i : Int)).length := (garbL_length _ _ _ _).symm
      refine s_asgL (el_lcPN (K := K) (fun k => !decide (vS ((asked c fs ws i).getD k []) = vS ((garbL c (asked c fs ws i) fs (i : Int)).getD k []))) (fun k => vS ((asked c fs ws i).getD k [])) (ep_n (ep_zip (by tm_at "ea") hap5s hcm5s) fun _ _ e g => ⟨ex_l e g.1, ex_l e g.2⟩) (by rw [List.length_map, List.length_map]; omega) (fun _ _ => rfl) (fun k hk => ?_) (fun k hk _ => ?_)) fun ap' H6 hn6 e6 h6 => ?_
      · rw [List.length_map, List.length_map] at hk
        rw [getD_map (d := []) (by omega), getD_map (d := []) (by omega)]
        tm_at "et"
      · rw [List.length_map, List.length_map] at hk
        rw [getD_map (d := []) (by omega)]
        exact ev_var rfl
      · refine ⟨ap', _, _, rfl, (e04.trans e5).trans e6, ?_⟩
        rw [List.length_map, List.length_map, ← hgl, Nat.min_self, next_given hgl] at h6
        exact h6
  · obtain ⟨ap, x5, x6, rfl, e, hap⟩ := hP
    have hap' : H' ap = some (.lst ((asked c fs ws N).map vS)) := hap
    rw [hT] at hap'
    refine s_ret (ev_eqNil (ds := []) (ev_var rfl) (dp_LS (ws := []) (sq_of hap')) (fl_LS (ws := []) fun x h => nomatch h)) fun H2 e2 => ?_
    exact q H2 (e.trans e2)
end
end Cb
/-! K27: the law. -/
namespace Cb
open PySem PySem.Spec PyProof.Rows L2 Evl
open C8 (Cal Met Mak pe_c pe_mk pe_mt pe_mt0 pe_gc)

section
variable {K : PySem.W.Frag} {σ : L2.St} {H H' : Hp} {ta tb te td ty : TE} {d : Addr}
theorem ev_notValsU {e : Ent} {r : Rows} (h1 : EvU ty σ H (eV e)) (h2 : Ev td σ H (.ref d)) (hd : H d = some (.dK (rN r))) (hr : RowsAt H r) (he : ∀ x ∈ e, Asc x) (hra : ∀ x ∈ r, ∀ y ∈ x.2.1, Asc y) :
    Ev (tNotVals K ty td) σ H (.bl (!(rB r).any fun x => decide (x.2 = e))) := fun H1 ex Q q => h1 H1 ex _ fun b H2 _ e2 hb => h2 H2 (ex.trans e2) _ fun H3 e3 => by
  have e03 := (ex.trans e2).trans e3
  refine ⟨d, rN r, .tuple (e.map dS), r.map fun x => .tuple (x.2.1.map dS), rfl, .inl (e03 _ _ hd), dp_TS (st_of (e3 _ _ hb)), ?_, (fl_TS he).shaped, Nat.le_trans (fl_TS he).2 (by decide), ?_, ?_⟩
  · unfold rN
    rw [List.map_map]
    have : ∀ r : Rows, RowsAt H3 r → DpAll K H3 (r.map fun x => V.ref x.2.2) (r.map fun x => PyData.tuple (x.2.1.map dS)) := by
      intro r
      induction r with
      | nil => exact fun _ => .nil
      | cons x r ih => exact fun h => .cons (dp_TS (st_of (h x (List.mem_cons_self ..)))) (ih fun y hy => h y (List.mem_cons_of_mem _ hy))
    exact this r (hr.ex e03)
  · intro z hz
    obtain ⟨x, hx, rfl⟩ := List.mem_map.mp hz
    exact (fl_TS (hra x hx)).1
  · have : (!(r.map fun x => PyData.tuple (x.2.1.map dS)).any fun z => PyData.eqv z (.tuple (e.map dS))) = !(rB r).any fun x => decide (x.2 = e) := by
      unfold rB
      rw [List.any_map, List.any_map]
      congr 2
      funext x
      exact eqv_TS _ _
    rw [this]
    exact q H3 (e2.trans e3)
end
theorem SqL.exD {K : PySem.W.Frag} {H H' : Hp} {p : Addr} {xs : List V} (e : ExD H H') (h : SqL K H p xs) : SqL K H' p xs := by
  rcases h with (h | ⟨o, h⟩) | h
  · exact .inl (.inl (e.lst h))
  · exact .inl (.inr ⟨o, e _ _ h (fun _ z => by cases z) (fun _ z => by cases z)⟩)
  · exact .inr h
theorem CodeTup.exD {H H' : Hp} {t : Addr} {c : Cd} (e : ExD H H') (h : CodeTup H t c) : CodeTup H' t c := by
  obtain ⟨ok, wp, h1, h2⟩ := h
  exact ⟨ok, wp, e.tup h1, e.lst h2⟩
theorem says_ne {us : List W} {es : List Ent} (h : Says ([], none) es (us, none)) (hu : us ≠ []) : es ≠ [] := fun z => by
  subst z
  have := says_nil h
  exact hu (congrArg Prod.fst this).symm
local macro_rules | `(tactic| tm_at "side") => `(tactic| (first | assumption | omega | ((try simp only [List.length_append, List.length_cons, List.length_nil, List.length_map, List.length_range]); omega) | exact ⟨by omega, by omega⟩ | exact .inl ⟨by omega, by omega⟩ | exact .inr ⟨by omega, by omega⟩ | decide))
local macro_rules | `(tactic| tm_at "rv") => `(tactic| (first
  | exact rv_I0
  | exact rv_mod (by tm_at "side")
  | exact rv_I (by tm_at "side")
  | exact rv_eq rfl
  | exact rv_ne rfl
  | exact rv_addS (by tm_at "side")
  | exact rv_ixSS (by tm_at "side") (by assumption)
  | exact rv_ixL (by assumption) (by assumption)
  | exact rv_ixT (by assumption) (by assumption)
  | exact rv_inS
  | exact rv_isN
  | exact rv_notN
  | assumption))
local macro_rules | `(tactic| tm_at "eo") => `(tactic| (first | exact eo_none | (apply eo_some; tm_at "ev")))
local macro_rules | `(tactic| tm_at "ea") => `(tactic| (first | exact ea_nil | (apply ea_cons; (tm_at "ev"); (tm_at "ea"))))
local macro_rules | `(tactic| tm_at "sp") => `(tactic| assumption)
local macro_rules | `(tactic| tm_at "ev") => `(tactic| (first
  | exact ev_c
  | exact ev_var rfl
  | assumption
  | (apply ev_op; (tm_at "ev"); (tm_at "ev"); (tm_at "rv"))
  | (apply ev_un (hr := ru_neg); tm_at "ev")
  | (apply ev_fld; (tm_at "ev"); assumption; assumption; assumption; rfl)
  | (apply ev_lenStr; (tm_at "ev"); (tm_at "side"))
  | (apply ev_lenDT; (tm_at "ev"); assumption)
  | (apply ev_len; (tm_at "ev"); assumption)
  | (apply ev_lenT; (tm_at "ev"); assumption)
  | (apply ev_slS; (tm_at "ev"); (tm_at "eo"); (tm_at "eo"); (tm_at "side"))
  | (apply ev_call; (tm_at "ea"); (tm_at "sp"))
  | (apply ev_meth; (tm_at "ev"); assumption; rfl; (tm_at "ea"); (tm_at "sp"))
  | (apply ev_isStr; tm_at "ev")
  | (apply ev_isInt; tm_at "ev")
  | (apply ev_isBoolI; tm_at "ev")
  | (apply ev_isList; (tm_at "ev"); assumption)
  | (apply ev_isTuple; (tm_at "ev"); assumption)
  | (apply ev_abs; tm_at "ev")
  | (apply ev_int1; tm_at "ev")
  | (apply ev_max2; (tm_at "ev"); (tm_at "ev"))
  | (apply ev_sindex; (tm_at "ev"); (tm_at "ev"); assumption)
  | (apply ev_dinK; (tm_at "ev"); (tm_at "ev"); assumption)
  | (apply ev_dinT; (tm_at "ev"); (tm_at "ev"); assumption; assumption)
  | (apply ev_chain; (tm_at "ev"); (tm_at "ev"); (tm_at "rv"); (intro _; tm_at "ev"); (intro _; tm_at "rv"))
  | (apply ev_andV; (tm_at "ev"); (intro _; tm_at "ev"))
  | (apply ev_orV; (tm_at "ev"); (intro _; tm_at "ev"))
  | (apply ev_notV; tm_at "ev")))
local macro_rules | `(tactic| tm_at "et") => `(tactic| (first
  | assumption
  | (apply et_test; tm_at "ev")
  | (apply et_B; tm_at "ev")
  | (apply et_not; tm_at "et")
  | (apply et_and; (tm_at "et"); (intro _; tm_at "et"))
  | (apply et_or; (tm_at "et"); (intro _; tm_at "et"))))
/-- tests by sums -/
local macro_rules | `(tactic| tm_at "bf") => `(tactic| (simp only [Bool.not_true, Bool.not_false, Bool.false_or, Bool.true_and, Bool.and_true, Bool.or_false, Bool.or_eq_false_iff, Bool.and_eq_true, decide_eq_false_iff_not, decide_eq_true_eq, Bool.not_eq_false', Bool.not_eq_true']; omega))

section
variable {P : Program} {w : World} {K : PySem.W.Frag} {mg : Str → Option Value} {base : Heap} {H : Hp}
def sp_law (K : PySem.W.Frag) : Sp := fun vs H Q _ => ∃ (p : Addr) (ns : List Int), vs = [.ref p] ∧ SqL K H p (ns.map V.int) ∧ ∀ H', Q (.bl true) H'
theorem law_body (T : Tx K mg) (f : Addr) (cdv : Value) (A : Around) (outer : List Env) (s : Shared) (H : Hp) (vs : List V) (Q : VK) (E : XK) (hr : Room 8 (A.deeper (envOfC "law" (defScope s_law) s.heap.objs.size f cdv))) (h : sp_law K vs H Q E) :
    ∃ t, PSs (cxOf CX0 P w K mg base nm_law "law" (defScope s_law) f cdv A outer s H E).nox (defBody s_law) t ∧ t { nx := fun _ H' => Q .non H', rt := Q } (start nm_law vs) H := by
  obtain ⟨p, ns, rfl, hp, q⟩ := h
  refine ⟨_, (pss_cons (ps_set (i := 1) sc_law.nd rfl (Or.inl rfl) (pe_c (c_law_code T) hr (by decide) rfl (pa_cons (pv 0) pa_nil)))
  (pss_cons (ps_asg (pe_c (c_law_entries T) hr (by decide) rfl (pa_cons (pv 1) (pa_cons (pv 0) (pa_cons pe_bl pa_nil)))) (pg_tup rfl (pgs_cons (pg_name (i := 2) sc_law.nd rfl (Or.inl rfl)) (pgs_cons (pg_name (i := 3) sc_law.nd rfl (Or.inr rfl)) pgs_nil))))
  (pss_cons (ps_set (i := 4) sc_law.nd rfl (Or.inl rfl) (pe_c (c_law_made T) hr (by decide) rfl (pa_cons (pv 1) (pa_cons (pv 3) pa_nil))))
  (pss_cons (ps_if (pt_cmpR op_isN (pv 4) pe_non (nomark _))
    (pss_one (ps_ret pe_bl))
    pss_nil)
  (pss_cons (ps_if (pt_cmpR (op_neD hr.units) (pe_lc (own := [("_law_letter", 10)]) (g := gName 10) rfl sc_law.nd (pi_str pe_str) (blkOk_by (N := nm_law) (sc := defScope s_law) (by decide +kernel)) (fun _ _ _ _ _ => (pg_name (i := 10) sc_law.nd rfl (Or.inl rfl))) (fun _ _ _ _ _ => pts_one (pt_cmp (pc_notinValsK (K := K) rfl hr.units (pe_tup (pa_cons pe_str (pa_cons (pv 10) pa_nil))) (pv 3)))) (fun _ _ _ _ _ => (pv 10))) (pe_lst pa_nil) (nomark _))
    (pss_one (ps_ret pe_bl))
    pss_nil)
  (pss_cons (ps_set (i := 5) sc_law.nd rfl (Or.inl rfl) (pe_c (c_law_text T) hr (by decide) rfl (pa_cons (pv 0) (pa_cons (pv 2) (pa_cons pe_int (pa_cons (pe_op op_add pe_int (pe_op op_mod (pe_c (c_law_cell_at T) hr (by decide) rfl (pa_cons (pv 0) (pa_cons pe_int pa_nil))) pe_int)) pa_nil))))))
  (pss_cons (ps_set (i := 6) sc_law.nd rfl (Or.inl rfl) (pe_c (c_telegram T) hr (by decide) rfl (pa_cons (pv 4) (pa_cons (pe_c (c_set_groups T) hr (by decide) rfl (pa_cons (pv 4) (pa_cons (pv 5) pa_nil))) pa_nil))))
  (pss_cons (ps_set (i := 7) sc_law.nd rfl (Or.inl rfl) (pe_c (c_law_faults T) hr (by decide) rfl (pa_cons (pv 0) (pa_cons (pe_callB call_len_seq rfl T.f_len bt_len (pa_cons (pv 6) pa_nil)) pa_nil))))
  (pss_cons (ps_set (i := 8) sc_law.nd rfl (Or.inl rfl) (pe_lst (pa_cons (pe_callTy call_list_of rfl T.f_list bt_list (pa_cons (pv 6) pa_nil)) (pa_cons (pe_callTy call_list_of rfl T.f_list bt_list (pa_cons (pv 7) pa_nil)) pa_nil))))
  (pss_cons (ps_set (i := 9) sc_law.nd rfl (Or.inl rfl) (pe_c (c_got_across T) hr (by decide) rfl (pa_cons (pv 4) (pa_cons (pe_ix ix_list (pv 8) pe_int (fun _ _ => rfl)) (pa_cons (pe_ix ix_list (pv 8) pe_int (fun _ _ => rfl)) pa_nil)))))
  (pss_cons (ps_if (PW.pt (pw_or (pt_cmpR (op_neD hr.units) (pv 8) (pe_lst (pa_cons (pv 6) (pa_cons (pv 7) pa_nil))) (nomark _)) (pw_or (pt_not (pt_val (pe_callB call_isi rfl T.f_isinstance bt_isinstance (pa_cons (pv 9) (pa_cons (pe_bltn (v := .ty "tuple") rfl T.f_tuple bt_tuple rfl) pa_nil))))) (pw_or (pt_cmpR op_ne (pe_callB call_len_seq rfl T.f_len bt_len (pa_cons (pv 9) pa_nil)) pe_int (nomark _)) (pw_or1 (pt_cmpR (op_neD hr.units) (pe_ix ix_tup (pv 9) pe_int (fun _ _ => rfl)) (pv 6) (nomark _)))))))
    (pss_one (ps_ret pe_bl))
    pss_nil)
  (pss_cons (ps_if (PW.pt (pw_or (pt_not (pt_val (pe_callB call_isi rfl T.f_isinstance bt_isinstance (pa_cons (pe_ix ix_tup (pv 9) pe_int (fun _ _ => rfl)) (pa_cons (pe_bltn (v := .ty "list") rfl T.f_list bt_list rfl) pa_nil))))) (pw_or1 (pt_not (pt_val (pe_c (c_law_sendings_right T) hr (by decide) rfl (pa_cons (pv 1) (pa_cons (pv 6) (pa_cons (pv 7) (pa_cons (pe_ix ix_tup (pv 9) pe_int (fun _ _ => rfl)) pa_nil))))))))))
    (pss_one (ps_ret pe_bl))
    pss_nil)
  (pss_one (ps_ret (pe_cmpR (op_eqD hr.units) (pe_c (c_readings T) hr (by decide) rfl (pa_cons (pv 4) (pa_cons (pe_ix ix_tup (pv 9) pe_int (fun _ _ => rfl)) pa_nil))) (pe_lst (pa_cons (pv 5) pa_nil)) (nomark _)))))))))))))))), ?_⟩
  refine q_asgR (evr_callA (vs := [.ref p]) (by tm_at "ea") (r_law_code hp)) fun v H1 e1 hr1 => ?_
  obtain ⟨t, c, rfl, hct⟩ := hr1
  have ok := hct.1
  refine q_unpack (Rt := fun y1 y2 H2 => ∃ (wp d : Addr) (ws : List W) (r : Rows), y1 = .ref wp ∧ y2 = .ref d ∧ H2 wp = some (.lst (ws.map vS)) ∧ ws.length = 6 ∧ (∀ x ∈ ws, Voc x) ∧ H2 d = some (.dK (rN r)) ∧ RowsAt H2 r ∧ BkOk c (rB r) ∧ r.length ≤ 16 ∧ ∃ n, (n, [sEnd]) ∈ rB r) (evr_callA (vs := [.ref t, .ref p, .bl true]) (by tm_at "ea") (r_law_entries hct (ex_l e1 hp))) (fun v H2 hv => ?_) fun y1 y2 H2 e2 hr2 => ?_
  · obtain ⟨tt, wp, d, ws, r, rfl, h1, h2⟩ := hv
    exact ⟨tt, .ref wp, .ref d, rfl, st_of h1, wp, d, ws, r, rfl, rfl, h2⟩
  obtain ⟨wp, d, ws, r, rfl, rfl, hwp, hwl, hws, hd, hra, bok, hrl, nend, hend⟩ := hr2
  have hr1 : 1 ≤ r.length := by
    rw [← rB_length]
    exact List.length_pos_of_mem hend
  refine q_asgM (RA := fun vs _ => vs = [.ref t, .ref d]) (EvA.r (by tm_at "ea")) fun vs H3 e3 hvs => ?_
  subst hvs
  refine ⟨t, d, c, r, rfl, hct.ex (e2.trans e3), e3 _ _ hd, hra.ex e3, bok, hr1, by omega, fun v H4 ed hd4 hbp => ?_⟩
  obtain ⟨bp, rfl, hb⟩ := hbp
  have hp4 := SqL.exD ed (ex_l ((e1.trans e2).trans e3) hp)
  have hct4 := (hct.ex (e2.trans e3)).exD ed
  have hwp4 := ed.lst (e3 _ _ hwp)
  have hra4 := (hra.ex e3).exD ed
  clear hp hct hwp hra hd
  refine q_skip (et_is (by tm_at "et") (by rfl)) fun H5 e5 => ?_
  -- the letters that are no parts
  refine q_when (et_test (ev_opLL (xs := (((List.range 5).filter fun i => !(rB r).any fun x => decide (x.2 = [sPart, [abnox.getD i 0]])).map fun i => [abnox.getD i 0]).map vS) (ys := []) (z := .bl (!(((List.range 5).filter fun i => !(rB r).any fun x => decide (x.2 = [sPart, [abnox.getD i 0]])).map fun i => [abnox.getD i 0]).isEmpty)) ?_ (el_lst ea_nil (by decide)) fun p1 q1 H6 hp6 hq6 e6 => ?_)) (fun hb1 H6 e6 => ?_) (fun hb1 H6 e6 => ?_)
  · rw [List.map_map]
    refine el_lcN (n := abnox.length) (fun i => !(rB r).any fun x => decide (x.2 = [sPart, [abnox.getD i 0]])) (fun i => vS [abnox.getD i 0]) (ei_n (ei_str (l := abnox) (ev_is ev_c (by rw [eAbnox]))) fun _ _ _ h => h) (by decide) (fun _ => rfl) (fun i hi => ?_) (fun i hi _ => ev_var rfl)
    refine et_B (ev_notValsU (eu_tup (ea_cons ev_c (ea_cons (ev_var rfl) ea_nil)) (Nat.le_of_ble_eq_true rfl)) (ev_var rfl) (e5 _ _ hd4) (hra4.ex e5) (fun x hx => ?_) fun z hz => entOk_asc (bok.ents (z.1, z.2.1) (List.mem_map.mpr ⟨z, hz, rfl⟩)))
    refine entOk_asc (e := [sPart, [abnox.getD i 0]]) (.part _ (Nat.le_refl 1) (by show 1 ≤ 6; decide) fun a ha => ?_) x hx
    rw [List.mem_singleton.mp ha]
    exact abnox_az (getD_mem hi)
  · have flA : Fl0 1 (.list ((((List.range 5).filter fun i => !(rB r).any fun x => decide (x.2 = [sPart, [abnox.getD i 0]])).map fun i => [abnox.getD i 0]).map dS)) := fl_LS fun x hx a ha => by
      obtain ⟨i, hi, rfl⟩ := List.mem_map.mp hx
      rw [List.mem_singleton.mp ha]
      have := abnox_az (getD_mem (l := abnox) (k := i) (List.mem_range.mp (List.mem_filter.mp hi).1))
      omega
    have h := rv_neD (K := K) (dp_LS (sq_of hp6)) (dp_nil hq6) flA.shaped (Fl0.shaped (fl_list (k := 0) fun d hd => by cases hd) (by decide))
    rw [eqv_nil, List.isEmpty_map] at h
    exact h
  · refine s_ret ev_c fun H7 e7 => ?_
    exact q H7
  -- all letters are parts
  have hlet : ∀ a ∈ abnox, ∃ n, (n, [sPart, [a]]) ∈ rB r := fun a ha => by
    obtain ⟨i, hi, hia⟩ := List.mem_iff_getElem.mp ha
    have hi5 : i < 5 := hi
    have he : ((List.range 5).filter fun i => !(rB r).any fun x => decide (x.2 = [sPart, [abnox.getD i 0]])) = [] := by
      cases hl : ((List.range 5).filter fun i => !(rB r).any fun x => decide (x.2 = [sPart, [abnox.getD i 0]])) with
      | nil => rfl
      | cons x y =>
        rw [hl] at hb1
        cases hb1
    have h1 := List.filter_eq_nil_iff.mp he i (List.mem_range.mpr hi5)
    have h2 : (rB r).any (fun x => decide (x.2 = [sPart, [abnox.getD i 0]])) = true := by
      cases h3 : (rB r).any (fun x => decide (x.2 = [sPart, [abnox.getD i 0]])) with
      | true => rfl
      | false =>
        rw [h3] at h1
        exact absurd rfl h1
    obtain ⟨x, hx, hxe⟩ := List.any_eq_true.mp h2
    have hxe := of_decide_eq_true hxe
    refine ⟨x.1, ?_⟩
    have e1 : abnox.getD i 0 = a := by
      rw [List.getD_eq_getElem?_getD, List.getElem?_eq_getElem hi]
      exact hia
    rw [← e1, ← hxe]
    exact hx
  have e46 := e5.trans e6
  have hp6 := ex_l e46 hp4
  have hw6 := sq_of (K := K) (e46 _ _ hwp4)
  -- the text
  have c14 := v_law_cell_at (k := 14) hp6
  obtain ⟨j, hj, ej⟩ : ∃ j : Nat, j < 6 ∧ ns.getD 14 0 % 6 = (j : Int) := ⟨(ns.getD 14 0 % 6).toNat, by omega, by omega⟩
  refine q_asgR (evr_callA (vs := [.ref p, .ref wp, .int ((14 : Nat) : Int), .int ((15 + j : Nat) : Int)]) (ea_cons (ev_var rfl) (ea_cons (ev_var rfl) (ea_cons ev_c (ea_cons (ev_is (ev_op ev_c (ev_op (ev_call (vs := [.ref p, .int 14]) (by tm_at "ea") c14) ev_c (rv_mod (by decide))) rv_I0) (by rw [ej]; rfl)) ea_nil)))) (r_law_text (f := 14) (l := 15 + j) hp6 hw6 hwl hws (by omega) (by omega))) fun v H7 e7 hr7 => ?_
  obtain ⟨ts, rfl, htl, htv⟩ := hr7
  have htne : ts ≠ [] := fun z => by
    rw [z] at htl
    have : 0 = 15 + j - 14 := htl
    omega
  have htl6 : ts.length ≤ 6 := by omega
  have hto : TxtOk (rB r) ts := ⟨htne, by omega, fun x hx => (htv x hx).word, fun x hx a ha => hlet a ((htv x hx).mem a ha), nend, hend⟩
  have e47 := e46.trans e7
  have hb7 := hb.ex e47
  -- the telegram
  refine q_asgR (R := fun v H8 => ∃ (sp : Addr) (gs : List Nat) (es : List Ent), v = .ref sp ∧ H8 sp = some (.lst ((telW c gs).map vS)) ∧ Grp (rB r) gs es ∧ Says ([], none) es (ts, none) ∧ gs.length ≤ 22 * ts.length) (evr_call (RA := fun vs H8 => ∃ (gp : Addr) (gs : List Nat) (es : List Ent), vs = [.ref bp, .ref gp] ∧ H8 gp = some (.lst (iN gs)) ∧ Grp (rB r) gs es ∧ Says ([], none) es (ts, none) ∧ gs.length ≤ 22 * ts.length)
      (ear_cons (Ev.r (ev_var rfl)) fun y1 H8 e8 hy1 => ear_cons (evr_callA (vs := [.ref bp, .str (S (joinW ts))]) (by tm_at "ea") (r_set_groups (hb7.ex e8) hto)) fun y2 H9 e9 hy2 => ear_nil.imp fun vs H10 e10 hvs => ?_) fun vs H8 e8 hr8 => ?_) fun v H8 e8 hr8 => ?_
  · obtain ⟨gp, gs, es, rfl, hgp, hg⟩ := hy2
    exact ⟨gp, gs, es, by rw [hy1, hvs], e10 _ _ hgp, hg⟩
  · obtain ⟨gp, gs, es, rfl, hgp, hgr, hsay, hgl⟩ := hr8
    exact fun H9 e9 Q1 q1 E1 => ⟨bp, gp, c, rB r, gs, es, ts, rfl, hb7.ex (e8.trans e9), sq_of (e9 _ _ hgp), hgr, by omega, hsay, htne, by omega, fun x hx => (htv x hx).word, fun p1 H10 hp10 e10 h10 => q1 _ H10 e10 ⟨p1, gs, es, rfl, h10, hgr, hsay, hgl⟩⟩
  obtain ⟨sp, gs, es, rfl, hsp, hgr, hsay, hgl⟩ := hr8
  have hgl1 : 1 ≤ gs.length := by
    rw [hgr.1]
    exact List.length_pos_iff.mpr (says_ne hsay htne)
  have htw : (telW c gs).length = gs.length + 1 := by
    rw [telW_map, List.length_map, List.length_append]
    rfl
  have hkept := telW_kept ok bok hgr
  have e48 := e47.trans e8
  have hsps := sq_of (K := K) hsp
  -- the faults
  refine q_asgR (evr_callA (vs := [.ref p, .int (((telW c gs).length : Nat) : Int)]) (ea_cons (ev_var rfl) (ea_cons (ev_is (ev_len (ev_var rfl) hsps) (by rw [List.length_map])) ea_nil)) (r_law_faults (ex_l e48 hp4))) fun v H9 e9 hr9 => ?_
  obtain ⟨fl, ps, rfl, hF, hpsl⟩ := hr9
  have e49 := e48.trans e9
  obtain ⟨fas, hfa1, hfa2, hfa3, hfa4⟩ := hF.faults (K := K) (by omega)
  generalize hfs : ps.map (·.2) = fs at hfa2 hfa3 hfa4
  have hf60 : ∀ f ∈ fs, f.s < 60 := fun f hf => by
    rw [← hfs] at hf
    obtain ⟨x, hx, rfl⟩ := List.mem_map.mp hf
    exact (hF.2 x hx).2
  have hsp9 := sq_of (K := K) (e9 _ _ hsp)
  -- what is handed in
  refine q_asgR (evr_lst (RA := fun vs H1 => ∃ a b : Addr, vs = [.ref a, .ref b] ∧ H1 a = some (.lst ((telW c gs).map vS)) ∧ H1 b = some (.lst (fas.map V.ref))) (ear_cons (EvL.r (el_listT (ev_var rfl) hsp9)) fun y1 H10 e10 hy1 => ear_cons (EvL.r (el_listT (ev_var rfl) (ex_l e10 hfa1))) fun y2 H11 e11 hy2 => ear_nil.imp fun vs H12 e12 hvs => ?_) fun vs H1 hr => ?_) fun v H10 e10 hr10 => ?_
  · obtain ⟨a, rfl, ha⟩ := hy1
    obtain ⟨b, rfl, hb'⟩ := hy2
    exact ⟨a, b, by rw [hvs], (e11.trans e12) _ _ ha, e12 _ _ hb'⟩
  · obtain ⟨a, b, rfl, _⟩ := hr
    exact Nat.le_of_ble_eq_true rfl
  obtain ⟨hh, vs, H9', rfl, _, _, ⟨ha, hbf, rfl, hha, hhb⟩, e910, hhh⟩ := hr10
  have hha := sq_of (K := K) (e910 _ _ hha)
  have hhb := sq_of (K := K) (e910 _ _ hhb)
  have hhhs := sq_of (K := K) hhh
  have e410 := e49.trans e10
  have hfat : FaultsAt K H10 hbf fs := ⟨fas, hhb, hfa2, hfa3, fun i a f x y => e10 _ _ (hfa4 i a f x y)⟩
  have hfat0 : FaultsAt K H10 fl fs := ⟨fas, ex_l e10 hfa1, hfa2, hfa3, fun i a f x y => e10 _ _ (hfa4 i a f x y)⟩
  have hb10 := hb.ex e410
  -- got across
  refine q_asgR (R := fun v H' => ∃ a ep sp T, v = .ref a ∧ H' a = some (.tup [.ref ep, .ref sp]) ∧ H' ep = some (.lst ((telW c gs).map vS)) ∧ SendAt H' sp c fs (telW c gs) T ∧ asked c fs (telW c gs) T = [] ∧ (∀ i, i < T → asked c fs (telW c gs) i ≠ []) ∧ T ≤ 61) (evr_callA (vs := [.ref bp, .ref ha, .ref hbf]) (ea_cons (ev_var rfl) (ea_cons (ev_op (ev_var rfl) ev_c (rv_ixL hhhs (atG (j := 0) rfl rfl))) (ea_cons (ev_op (ev_var rfl) ev_c (rv_ixL hhhs (atG (j := 1) rfl rfl))) ea_nil))) fun H11 e11 Q1 q1 E1 => ⟨bp, ha, hbf, c, rB r, telW c gs, fs, rfl, hb10.ex e11, ex_l e11 hha, by omega, hkept, hfat.ex e11, hf60, q1⟩) fun v H11 e11 hr11 => ?_
  obtain ⟨ga, ep, sd, N, rfl, hga, hep, hsend, hN, hNi, hN61⟩ := hr11
  have hgas := st_of (K := K) hga
  have heps := sq_of (K := K) hep
  have e411 := e410.trans e11
  have hsp11 := ex_l (e10.trans e11) hsp9
  have flW : Fl0 1 (.list ((telW c gs).map dS)) := fl_LS fun x hx => isWord_asc ok (hkept.word x hx).1
  have flF : Fl0 2 (.list (fs.map flD)) := fl_list fun d hd => by
    obtain ⟨f, _, rfl⟩ := List.mem_map.mp hd
    exact flD_fl f
  have flH : Fl0 3 (.list [.list ((telW c gs).map dS), .list (fs.map flD)]) := fl_list fun d hd => by
    rcases List.mem_cons.mp hd with rfl | hd
    · exact flW.mono (by decide)
    · rw [List.mem_singleton.mp hd]
      exact flF
  have hself : PyData.eqv (.list [.list ((telW c gs).map dS), .list (fs.map flD)]) (.list [.list ((telW c gs).map dS), .list (fs.map flD)]) = true := by
    simp only [PyData.eqv]
    refine eqvAll_self fun d hd => ?_
    rcases List.mem_cons.mp hd with rfl | hd
    · rw [eqv_LS]
      exact decide_eq_true rfl
    · rw [List.mem_singleton.mp hd]
      simp only [PyData.eqv]
      refine eqvAll_self fun d hd => ?_
      obtain ⟨f, _, rfl⟩ := List.mem_map.mp hd
      exact flD_self f
  obtain ⟨fas2, hb1', hb2', hb3', hb4'⟩ := hfat
  obtain ⟨fas3, hc1', hc2', hc3', hc4'⟩ := hfat0
  have dH : Dp K H11 (.ref hh) (.list [.list ((telW c gs).map dS), .list (fs.map flD)]) := .lst (ex_l e11 hhhs) (.cons (dp_LS (ex_l e11 hha)) (.cons (.lst (ex_l e11 hb1') (dp_faults hb2' fun i a f x y => e11 _ _ (hb4' i a f x y))) .nil))
  refine q_skip (et_is (et_or (a := false) (b := false) (et_is (et_test (ev_opL (xs := [.ref sp, .ref fl]) (ev_var rfl) (el_lst (by tm_at "ea") (Nat.le_of_ble_eq_true rfl)) fun p1 H12 hp12 e12 => rv_neD (dp_ex e12 _ _ dH) (.lst (sq_of hp12) (.cons (dp_LS (ex_l e12 hsp11)) (.cons (.lst (ex_l (e11.trans e12) hc1') (dp_faults hc2' fun i a f x y => (e11.trans e12) _ _ (hc4' i a f x y))) .nil))) flH.shaped flH.shaped)) (by rw [hself]; rfl)) fun _ => et_or (a := false) (b := false) (et_is (et_not (et_B (by tm_at "ev"))) rfl) fun _ => et_or (a := false) (b := false) (et_is (et_test (ev_op (ev_lenT (ev_var rfl) hgas) ev_c (rv_ne rfl))) (by rfl)) fun _ => et_is (et_test (ev_op (ev_op (ev_var rfl) ev_c (rv_ixT hgas (atG (j := 0) rfl rfl))) (ev_var rfl) (rv_neD (dp_LS heps) (dp_LS hsp11) flW.shaped flW.shaped))) (by rw [eqv_LS, decide_eq_true rfl]; rfl)) rfl) fun H12 e12 => ?_
  have hgas12 := ex_t e12 hgas
  have e412 := e411.trans e12
  obtain ⟨sas, hs1, hs2, hs3⟩ := hsend
  have hfat12 : FaultsAt K H12 fl fs := ⟨fas3, ex_l (e11.trans e12) hc1', hc2', hc3', fun i a f x y => (e11.trans e12) _ _ (hc4' i a f x y)⟩
  have v1 := v_law_sendings_right (K := K) (hct4.ex e412) (ex_l e12 hsp11) (by omega) (fun x hx => hkept.word x hx) hfat12 ⟨sas, e12 _ _ hs1, hs2, fun i a h => e12 _ _ (hs3 i a h)⟩ hN hNi hN61
  have hsd12 := sq_of (K := K) (e12 _ _ hs1)
  refine q_skip (et_is (et_or (a := false) (b := false) (et_is (et_not (et_B (ev_isList (ev_op (ev_var rfl) ev_c (rv_ixT hgas12 (atG (j := 1) rfl rfl))) hsd12))) rfl) fun _ => et_is (et_not (et_B (ev_call (vs := [.ref t, .ref sp, .ref fl, .ref sd]) (ea_cons (ev_var rfl) (ea_cons (ev_var rfl) (ea_cons (ev_var rfl) (ea_cons (ev_op (ev_var rfl) ev_c (rv_ixT hgas12 (atG (j := 1) rfl rfl))) ea_nil)))) v1))) rfl) rfl) fun H13 e13 => ?_
  have hgas13 := ex_t e13 hgas12
  have flT : Fl0 1 (.list ([joinW ts].map dS)) := fl_LS fun x hx a ha => by
    rw [List.mem_singleton.mp hx] at ha
    exact entOk_asc (e := [sPhrase, joinW ts]) (.phrase ts (by omega) htl6 fun y hy => (htv y hy).word) _ (List.mem_cons_of_mem _ (List.mem_singleton.mpr rfl)) a ha
  refine s_ret (ev_opLL (xs := [joinW ts].map vS) (ys := [joinW ts].map vS) (el_callR (RA := fun vs _ => vs = [.ref bp, .ref ep]) (EvA.r (ea_cons (ev_var rfl) (ea_cons (ev_op (ev_var rfl) ev_c (rv_ixT hgas13 (atG (j := 0) rfl rfl))) ea_nil))) fun vs H14 e14 hvs => ?_) (el_lst (ea_cons (ev_var rfl) ea_nil) (Nat.le_of_ble_eq_true rfl)) fun p1 q1 H14 hp14 hq14 e14 => rv_eqD (dp_LS (sq_of hp14)) (dp_LS (sq_of hq14)) flT.shaped flT.shaped) fun H14 e14 => ?_
  · subst hvs
    exact fun H15 e15 Q1 q1 E1 => ⟨bp, ep, c, rB r, gs, es, ts, rfl, hb.ex (((e412.trans e13).trans e14).trans e15), ex_l (((e12.trans e13).trans e14).trans e15) heps, hgr, hgl1, by omega, hsay, htne, by omega, fun x hx => (htv x hx).word, fun p2 H16 a1 a2 a3 => q1 p2 H16 a1 a2 a3⟩
  · rw [eqv_LS, decide_eq_true rfl]
    exact q H14
theorem law_ok (T : Tx K mg) {f : Addr} {fd : FuncData} (F : FunD K "law" "law" (defArgs s_law) (defBody s_law) (defScope s_law) [] [] f fd) : FnOk P w K mg base CX0 9 f fd ["_law_script"] (sp_law K) := by
  refine F.ok sc_law (fun vs H Q E h => by (repeat (obtain ⟨_, h⟩ := h)); subst_vars; rfl) fun cdv A outer s H vs Q E hr h => ?_
  obtain ⟨t, h1, h2⟩ := law_body T f cdv A outer s H vs Q E hr h
  exact ⟨t, h1.nox, h2⟩
end
end Cb
open PySem PySem.W PySem.Calls PyProof.Rows
theorem PySem.Challenge.cw_cablehouse_k51_whole_asked_again_holds : PySem.Challenge.rw_cablehouse_k51_whole_asked_again.Holds := by
  w_on; o_law
  refine HandSHeadRun.head_any (r := OpenLaw.row PySem.Challenge.rw_cablehouse_k51_whole_asked_again) (q := view (OpenLaw.row PySem.Challenge.rw_cablehouse_k51_whole_asked_again).prog [88]) (H := Cb.hk) (ob := Cb.ob) (M := 12000) (loose := Cb.loose) (d := HandSHeadRun.topDef (OpenLaw.row PySem.Challenge.rw_cablehouse_k51_whole_asked_again).prog 88) (kwd := []) Cb.ob_eq
    (by kernel_rfl) (fun s => by kernel_rfl) Cb.run (by kernel_rfl) (by kernel_rfl) (by kernel_rfl) (by rfl) (by first | assumption | decide +kernel) (by decide +kernel) ⟨rfl, rfl, rfl, rfl, rfl, by decide +kernel⟩ ?hw ?hc
  case hw => w_witness2
  case hc =>
    refine L2.walk_ofE (l := PySem.Challenge.rw_cablehouse_k51_whole_asked_again) (n := 63) (k := 9) (x := "_law_script") (CX := C8.CX0) rfl (by decide) (by kernel_rfl) ⟨rfl, by decide, by decide⟩ ?F (fun _ _ _ _ z => z)
    intro w mg fa h Y G hmg0
    obtain ⟨K, KX, c⟩ := Y
    have hmg : mg ("law" : PySem.Str) = some (.ref fa) := by
      have e : (HandSHeadRun.topDef (OpenLaw.row PySem.Challenge.rw_cablehouse_k51_whole_asked_again).prog 88).name = ("law" : PySem.Str) := by kernel_rfl
      rw [← e]
      exact hmg0
    have T := Cb.tx_of KX G c
    obtain ⟨fd, F⟩ := T.d_law
    have e := hmg.symm.trans T.a_law
    cases e
    have b := L2.FunD.bindsA (ps := ["_law_script"]) F fun _ _ _ _ _ _ us hl => match us, hl with | [_], _ => rfl
    exact ⟨K, fd, Cb.sp_law K, KX, fun s v => b s [v] rfl, fun H a ns hl _ hS => ⟨a, ns, rfl, hS, fun _ => rfl⟩, fun base _ _ => Cb.law_ok T F⟩
