import PyProof.Rows.All
import Wide.All
import OpenK.AllK
import Wide.FinOn
import HandS.Words
import KE.KStateDown
import Lean
import HandS.Base
import HandS.Call
import HandS.Ends
import HandS.More
import HandS.WordsExc
import HandS.Defaults
import HandS.EndBits
import HandS.Head0
import HandS.Head1
import HandS.Head2
import HandS.HeadEnd
import HandS.HeadHook1
import HandS.HeadHook2
import HandS.HeadHook3
import HandS.HeadHook4
import PyProof.EqAt
import PyProof.EqKinds
import PyProof.TupleCall
import HandS.ForMost
import HandS.Codes
import HandS.StrMore
import HandS.NoneIn
import HandS.Evl
import HandS.IsInst
import HandS.Wide
import HandS.Steps
import HandS.ReplaceList
import HandS.ReplaceLit
import HandS.SortKw
import PyProof.StrBlock2
import HandS.Exc
import KE.DataMinMax
import PySem.Challenge.RW_foldletter_k23_whole_addresses_however_s
set_option Elab.async false
set_option linter.all false
set_option maxRecDepth 100000
set_option maxHeartbeats 4000000
/-! The text's defs, by name (printed by gen_head.py) -/
namespace Fk
open PySem PySem.Spec PyProof.Rows L2
def top (i : Nat) : Stmt := PySem.Challenge.pw_foldletter_k23_whole_addresses_however_s.main.body.getD i (.Pass ⟨0, 0, 0, 0⟩)
abbrev s_is_whole : Stmt := top 6
abbrev s_is_between : Stmt := top 7
abbrev s_is_line : Stmt := top 8
abbrev s_is_of : Stmt := top 9
abbrev s_is_name : Stmt := top 10
abbrev s_is_value : Stmt := top 11
abbrev s_is_head : Stmt := top 12
abbrev s_sign_of : Stmt := top 22
abbrev s_is_sign : Stmt := top 23
abbrev s_number_of : Stmt := top 24
abbrev s_six_bits : Stmt := top 25
abbrev s_two_figures : Stmt := top 26
abbrev s_is_saying : Stmt := top 32
abbrev s_sign_octets : Stmt := top 33
abbrev s_sign_at : Stmt := top 34
abbrev s_signs_told : Stmt := top 35
abbrev s_marked : Stmt := top 36
abbrev s_coded_word : Stmt := top 37
abbrev s_words_by : Stmt := top 38
abbrev s_plain_of : Stmt := top 39
abbrev s_coded_in : Stmt := top 40
abbrev s_six_octets : Stmt := top 41
abbrev s_mark_octets : Stmt := top 42
abbrev s_word_saying : Stmt := top 43
abbrev s_atom_end : Stmt := top 47
abbrev s_quoted_word : Stmt := top 48
abbrev s_remark_word : Stmt := top 49
abbrev s_word_at : Stmt := top 50
abbrev s_words_in : Stmt := top 51
abbrev s_words : Stmt := top 52
abbrev s_is_atom : Stmt := top 53
abbrev s_quoted_in : Stmt := top 54
abbrev s_is_local : Stmt := top 59
abbrev s_is_label : Stmt := top 60
abbrev s_is_house : Stmt := top 61
abbrev s_is_one : Stmt := top 62
abbrev s_is_group : Stmt := top 63
abbrev s_phrase_of : Stmt := top 64
abbrev s_show_one : Stmt := top 65
abbrev s_show_address : Stmt := top 66
abbrev s_show_addresses : Stmt := top 67
abbrev s_phrase_saying : Stmt := top 68
abbrev s_read_words : Stmt := top 70
abbrev s_read_addresses : Stmt := top 71
abbrev s_fold_places : Stmt := top 74
abbrev s_folded_lines : Stmt := top 75
abbrev s_head_text : Stmt := top 76
abbrev s_fold : Stmt := top 77
abbrev s_begins_head : Stmt := top 78
abbrev s_head_of : Stmt := top 79
abbrev s_read_heads : Stmt := top 80
abbrev s__law_cell_at : Stmt := top 82
abbrev s__law_mixed : Stmt := top 83
abbrev s__law_source : Stmt := top 84
abbrev s__law_next : Stmt := top 85
abbrev s__law_signs : Stmt := top 86
abbrev s__law_table : Stmt := top 87
abbrev s__law_numbers : Stmt := top 88
abbrev s__law_octets : Stmt := top 89
abbrev s__law_coded_word : Stmt := top 90
abbrev s__law_is_atom : Stmt := top 91
abbrev s__law_quoted : Stmt := top 92
abbrev s__law_plain : Stmt := top 93
abbrev s__law_remark_end : Stmt := top 94
abbrev s__law_word_at : Stmt := top 95
abbrev s__law_cut : Stmt := top 96
abbrev s__law_signs_told : Stmt := top 97
abbrev s__law_inner : Stmt := top 98
abbrev s__law_uncoded : Stmt := top 99
abbrev s__law_phrase_told : Stmt := top 100
abbrev s__law_saying : Stmt := top 101
abbrev s__law_house : Stmt := top 102
abbrev s__law_one : Stmt := top 103
abbrev s__law_gap : Stmt := top 104
abbrev s__law_words : Stmt := top 105
abbrev s__law_spelled_one : Stmt := top 106
abbrev s__law_spelled : Stmt := top 107
abbrev s__law_read_phrase : Stmt := top 108
abbrev s__law_apart : Stmt := top 109
abbrev s_law : Stmt := top 110
abbrev m___init__ : Stmt := inClass (top 69) 0
abbrev m_takes : Stmt := inClass (top 69) 1
abbrev m_takes_begin : Stmt := inClass (top 69) 2
abbrev m_takes_phrase : Stmt := inClass (top 69) 3
abbrev m_takes_local : Stmt := inClass (top 69) 4
abbrev m_takes_house : Stmt := inClass (top 69) 5
abbrev m_takes_one : Stmt := inClass (top 69) 6
abbrev m_takes_group : Stmt := inClass (top 69) 7
abbrev m_takes_behind : Stmt := inClass (top 69) 8
abbrev m_is_done : Stmt := inClass (top 69) 9
end Fk
set_option maxHeartbeats 0
/-! The head: the top's run, by the kernel, and its facts by names (printed by gen_head.py) -/
namespace Fk
open PySem PySem.Spec PyProof.Rows L2
def d_is_whole : He.DefD := ⟨("is_whole", none), "is_whole", "is_whole", defArgs s_is_whole, defBody s_is_whole, defScope s_is_whole, [], []⟩
def d_is_between : He.DefD := ⟨("is_between", none), "is_between", "is_between", defArgs s_is_between, defBody s_is_between, defScope s_is_between, [], []⟩
def d_is_line : He.DefD := ⟨("is_line", none), "is_line", "is_line", defArgs s_is_line, defBody s_is_line, defScope s_is_line, [], []⟩
def d_is_of : He.DefD := ⟨("is_of", none), "is_of", "is_of", defArgs s_is_of, defBody s_is_of, defScope s_is_of, [], []⟩
def d_is_name : He.DefD := ⟨("is_name", none), "is_name", "is_name", defArgs s_is_name, defBody s_is_name, defScope s_is_name, [], []⟩
def d_is_value : He.DefD := ⟨("is_value", none), "is_value", "is_value", defArgs s_is_value, defBody s_is_value, defScope s_is_value, [], []⟩
def d_is_head : He.DefD := ⟨("is_head", none), "is_head", "is_head", defArgs s_is_head, defBody s_is_head, defScope s_is_head, [], []⟩
def d_sign_of : He.DefD := ⟨("sign_of", none), "sign_of", "sign_of", defArgs s_sign_of, defBody s_sign_of, defScope s_sign_of, [], []⟩
def d_is_sign : He.DefD := ⟨("is_sign", none), "is_sign", "is_sign", defArgs s_is_sign, defBody s_is_sign, defScope s_is_sign, [], []⟩
def d_number_of : He.DefD := ⟨("number_of", none), "number_of", "number_of", defArgs s_number_of, defBody s_number_of, defScope s_number_of, [], []⟩
def d_six_bits : He.DefD := ⟨("six_bits", none), "six_bits", "six_bits", defArgs s_six_bits, defBody s_six_bits, defScope s_six_bits, [], []⟩
def d_two_figures : He.DefD := ⟨("two_figures", none), "two_figures", "two_figures", defArgs s_two_figures, defBody s_two_figures, defScope s_two_figures, [], []⟩
def d_is_saying : He.DefD := ⟨("is_saying", none), "is_saying", "is_saying", defArgs s_is_saying, defBody s_is_saying, defScope s_is_saying, [], []⟩
def d_sign_octets : He.DefD := ⟨("sign_octets", none), "sign_octets", "sign_octets", defArgs s_sign_octets, defBody s_sign_octets, defScope s_sign_octets, [], []⟩
def d_sign_at : He.DefD := ⟨("sign_at", none), "sign_at", "sign_at", defArgs s_sign_at, defBody s_sign_at, defScope s_sign_at, [], []⟩
def d_signs_told : He.DefD := ⟨("signs_told", none), "signs_told", "signs_told", defArgs s_signs_told, defBody s_signs_told, defScope s_signs_told, [], []⟩
def d_marked : He.DefD := ⟨("marked", none), "marked", "marked", defArgs s_marked, defBody s_marked, defScope s_marked, [], []⟩
def d_coded_word : He.DefD := ⟨("coded_word", none), "coded_word", "coded_word", defArgs s_coded_word, defBody s_coded_word, defScope s_coded_word, [], []⟩
def d_words_by : He.DefD := ⟨("words_by", none), "words_by", "words_by", defArgs s_words_by, defBody s_words_by, defScope s_words_by, [], []⟩
def d_plain_of : He.DefD := ⟨("plain_of", none), "plain_of", "plain_of", defArgs s_plain_of, defBody s_plain_of, defScope s_plain_of, [], []⟩
def d_coded_in : He.DefD := ⟨("coded_in", none), "coded_in", "coded_in", defArgs s_coded_in, defBody s_coded_in, defScope s_coded_in, [], []⟩
def d_six_octets : He.DefD := ⟨("six_octets", none), "six_octets", "six_octets", defArgs s_six_octets, defBody s_six_octets, defScope s_six_octets, [], []⟩
def d_mark_octets : He.DefD := ⟨("mark_octets", none), "mark_octets", "mark_octets", defArgs s_mark_octets, defBody s_mark_octets, defScope s_mark_octets, [], []⟩
def d_word_saying : He.DefD := ⟨("word_saying", none), "word_saying", "word_saying", defArgs s_word_saying, defBody s_word_saying, defScope s_word_saying, [], []⟩
def d_atom_end : He.DefD := ⟨("atom_end", none), "atom_end", "atom_end", defArgs s_atom_end, defBody s_atom_end, defScope s_atom_end, [], []⟩
def d_quoted_word : He.DefD := ⟨("quoted_word", none), "quoted_word", "quoted_word", defArgs s_quoted_word, defBody s_quoted_word, defScope s_quoted_word, [], []⟩
def d_remark_word : He.DefD := ⟨("remark_word", none), "remark_word", "remark_word", defArgs s_remark_word, defBody s_remark_word, defScope s_remark_word, [], []⟩
def d_word_at : He.DefD := ⟨("word_at", none), "word_at", "word_at", defArgs s_word_at, defBody s_word_at, defScope s_word_at, [], []⟩
def d_words_in : He.DefD := ⟨("words_in", none), "words_in", "words_in", defArgs s_words_in, defBody s_words_in, defScope s_words_in, [], []⟩
def d_words : He.DefD := ⟨("words", none), "words", "words", defArgs s_words, defBody s_words, defScope s_words, [], []⟩
def d_is_atom : He.DefD := ⟨("is_atom", none), "is_atom", "is_atom", defArgs s_is_atom, defBody s_is_atom, defScope s_is_atom, [], []⟩
def d_quoted_in : He.DefD := ⟨("quoted_in", none), "quoted_in", "quoted_in", defArgs s_quoted_in, defBody s_quoted_in, defScope s_quoted_in, [], []⟩
def d_is_local : He.DefD := ⟨("is_local", none), "is_local", "is_local", defArgs s_is_local, defBody s_is_local, defScope s_is_local, [], []⟩
def d_is_label : He.DefD := ⟨("is_label", none), "is_label", "is_label", defArgs s_is_label, defBody s_is_label, defScope s_is_label, [], []⟩
def d_is_house : He.DefD := ⟨("is_house", none), "is_house", "is_house", defArgs s_is_house, defBody s_is_house, defScope s_is_house, [], []⟩
def d_is_one : He.DefD := ⟨("is_one", none), "is_one", "is_one", defArgs s_is_one, defBody s_is_one, defScope s_is_one, [], []⟩
def d_is_group : He.DefD := ⟨("is_group", none), "is_group", "is_group", defArgs s_is_group, defBody s_is_group, defScope s_is_group, [], []⟩
def d_phrase_of : He.DefD := ⟨("phrase_of", none), "phrase_of", "phrase_of", defArgs s_phrase_of, defBody s_phrase_of, defScope s_phrase_of, [], []⟩
def d_show_one : He.DefD := ⟨("show_one", none), "show_one", "show_one", defArgs s_show_one, defBody s_show_one, defScope s_show_one, [], []⟩
def d_show_address : He.DefD := ⟨("show_address", none), "show_address", "show_address", defArgs s_show_address, defBody s_show_address, defScope s_show_address, [], []⟩
def d_show_addresses : He.DefD := ⟨("show_addresses", none), "show_addresses", "show_addresses", defArgs s_show_addresses, defBody s_show_addresses, defScope s_show_addresses, [], []⟩
def d_phrase_saying : He.DefD := ⟨("phrase_saying", none), "phrase_saying", "phrase_saying", defArgs s_phrase_saying, defBody s_phrase_saying, defScope s_phrase_saying, [], []⟩
def d_read_words : He.DefD := ⟨("read_words", none), "read_words", "read_words", defArgs s_read_words, defBody s_read_words, defScope s_read_words, [], []⟩
def d_read_addresses : He.DefD := ⟨("read_addresses", none), "read_addresses", "read_addresses", defArgs s_read_addresses, defBody s_read_addresses, defScope s_read_addresses, [], []⟩
def d_fold_places : He.DefD := ⟨("fold_places", none), "fold_places", "fold_places", defArgs s_fold_places, defBody s_fold_places, defScope s_fold_places, [], []⟩
def d_folded_lines : He.DefD := ⟨("folded_lines", none), "folded_lines", "folded_lines", defArgs s_folded_lines, defBody s_folded_lines, defScope s_folded_lines, [], []⟩
def d_head_text : He.DefD := ⟨("head_text", none), "head_text", "head_text", defArgs s_head_text, defBody s_head_text, defScope s_head_text, [], []⟩
def d_fold : He.DefD := ⟨("fold", none), "fold", "fold", defArgs s_fold, defBody s_fold, defScope s_fold, [], []⟩
def d_begins_head : He.DefD := ⟨("begins_head", none), "begins_head", "begins_head", defArgs s_begins_head, defBody s_begins_head, defScope s_begins_head, [], []⟩
def d_head_of : He.DefD := ⟨("head_of", none), "head_of", "head_of", defArgs s_head_of, defBody s_head_of, defScope s_head_of, [], []⟩
def d_read_heads : He.DefD := ⟨("read_heads", none), "read_heads", "read_heads", defArgs s_read_heads, defBody s_read_heads, defScope s_read_heads, [], []⟩
def d__law_cell_at : He.DefD := ⟨("_law_cell_at", none), "_law_cell_at", "_law_cell_at", defArgs s__law_cell_at, defBody s__law_cell_at, defScope s__law_cell_at, [], []⟩
def d__law_mixed : He.DefD := ⟨("_law_mixed", none), "_law_mixed", "_law_mixed", defArgs s__law_mixed, defBody s__law_mixed, defScope s__law_mixed, [], []⟩
def d__law_source : He.DefD := ⟨("_law_source", none), "_law_source", "_law_source", defArgs s__law_source, defBody s__law_source, defScope s__law_source, [], []⟩
def d__law_next : He.DefD := ⟨("_law_next", none), "_law_next", "_law_next", defArgs s__law_next, defBody s__law_next, defScope s__law_next, [], []⟩
def d__law_signs : He.DefD := ⟨("_law_signs", none), "_law_signs", "_law_signs", defArgs s__law_signs, defBody s__law_signs, defScope s__law_signs, [], []⟩
def d__law_table : He.DefD := ⟨("_law_table", none), "_law_table", "_law_table", defArgs s__law_table, defBody s__law_table, defScope s__law_table, [], []⟩
def d__law_numbers : He.DefD := ⟨("_law_numbers", none), "_law_numbers", "_law_numbers", defArgs s__law_numbers, defBody s__law_numbers, defScope s__law_numbers, [], []⟩
def d__law_octets : He.DefD := ⟨("_law_octets", none), "_law_octets", "_law_octets", defArgs s__law_octets, defBody s__law_octets, defScope s__law_octets, [], []⟩
def d__law_coded_word : He.DefD := ⟨("_law_coded_word", none), "_law_coded_word", "_law_coded_word", defArgs s__law_coded_word, defBody s__law_coded_word, defScope s__law_coded_word, [], []⟩
def d__law_is_atom : He.DefD := ⟨("_law_is_atom", none), "_law_is_atom", "_law_is_atom", defArgs s__law_is_atom, defBody s__law_is_atom, defScope s__law_is_atom, [], []⟩
def d__law_quoted : He.DefD := ⟨("_law_quoted", none), "_law_quoted", "_law_quoted", defArgs s__law_quoted, defBody s__law_quoted, defScope s__law_quoted, [], []⟩
def d__law_plain : He.DefD := ⟨("_law_plain", none), "_law_plain", "_law_plain", defArgs s__law_plain, defBody s__law_plain, defScope s__law_plain, [], []⟩
def d__law_remark_end : He.DefD := ⟨("_law_remark_end", none), "_law_remark_end", "_law_remark_end", defArgs s__law_remark_end, defBody s__law_remark_end, defScope s__law_remark_end, [], []⟩
def d__law_word_at : He.DefD := ⟨("_law_word_at", none), "_law_word_at", "_law_word_at", defArgs s__law_word_at, defBody s__law_word_at, defScope s__law_word_at, [], []⟩
def d__law_cut : He.DefD := ⟨("_law_cut", none), "_law_cut", "_law_cut", defArgs s__law_cut, defBody s__law_cut, defScope s__law_cut, [], []⟩
def d__law_signs_told : He.DefD := ⟨("_law_signs_told", none), "_law_signs_told", "_law_signs_told", defArgs s__law_signs_told, defBody s__law_signs_told, defScope s__law_signs_told, [], []⟩
def d__law_inner : He.DefD := ⟨("_law_inner", none), "_law_inner", "_law_inner", defArgs s__law_inner, defBody s__law_inner, defScope s__law_inner, [], []⟩
def d__law_uncoded : He.DefD := ⟨("_law_uncoded", none), "_law_uncoded", "_law_uncoded", defArgs s__law_uncoded, defBody s__law_uncoded, defScope s__law_uncoded, [], []⟩
def d__law_phrase_told : He.DefD := ⟨("_law_phrase_told", none), "_law_phrase_told", "_law_phrase_told", defArgs s__law_phrase_told, defBody s__law_phrase_told, defScope s__law_phrase_told, [], []⟩
def d__law_saying : He.DefD := ⟨("_law_saying", none), "_law_saying", "_law_saying", defArgs s__law_saying, defBody s__law_saying, defScope s__law_saying, [], []⟩
def d__law_house : He.DefD := ⟨("_law_house", none), "_law_house", "_law_house", defArgs s__law_house, defBody s__law_house, defScope s__law_house, [], []⟩
def d__law_one : He.DefD := ⟨("_law_one", none), "_law_one", "_law_one", defArgs s__law_one, defBody s__law_one, defScope s__law_one, [], []⟩
def d__law_gap : He.DefD := ⟨("_law_gap", none), "_law_gap", "_law_gap", defArgs s__law_gap, defBody s__law_gap, defScope s__law_gap, [], []⟩
def d__law_words : He.DefD := ⟨("_law_words", none), "_law_words", "_law_words", defArgs s__law_words, defBody s__law_words, defScope s__law_words, [], []⟩
def d__law_spelled_one : He.DefD := ⟨("_law_spelled_one", none), "_law_spelled_one", "_law_spelled_one", defArgs s__law_spelled_one, defBody s__law_spelled_one, defScope s__law_spelled_one, [], []⟩
def d__law_spelled : He.DefD := ⟨("_law_spelled", none), "_law_spelled", "_law_spelled", defArgs s__law_spelled, defBody s__law_spelled, defScope s__law_spelled, [], []⟩
def d__law_read_phrase : He.DefD := ⟨("_law_read_phrase", none), "_law_read_phrase", "_law_read_phrase", defArgs s__law_read_phrase, defBody s__law_read_phrase, defScope s__law_read_phrase, [], []⟩
def d__law_apart : He.DefD := ⟨("_law_apart", none), "_law_apart", "_law_apart", defArgs s__law_apart, defBody s__law_apart, defScope s__law_apart, [], []⟩
def d_law : He.DefD := ⟨("law", none), "law", "law", defArgs s_law, defBody s_law, defScope s_law, [], []⟩
def dm___init__ : He.DefD := ⟨("Reading", some "__init__"), "__init__", "Reading.__init__", defArgs m___init__, defBody m___init__, defScope m___init__, [], []⟩
def dm_takes : He.DefD := ⟨("Reading", some "takes"), "takes", "Reading.takes", defArgs m_takes, defBody m_takes, defScope m_takes, [], []⟩
def dm_takes_begin : He.DefD := ⟨("Reading", some "takes_begin"), "takes_begin", "Reading.takes_begin", defArgs m_takes_begin, defBody m_takes_begin, defScope m_takes_begin, [], []⟩
def dm_takes_phrase : He.DefD := ⟨("Reading", some "takes_phrase"), "takes_phrase", "Reading.takes_phrase", defArgs m_takes_phrase, defBody m_takes_phrase, defScope m_takes_phrase, [], []⟩
def dm_takes_local : He.DefD := ⟨("Reading", some "takes_local"), "takes_local", "Reading.takes_local", defArgs m_takes_local, defBody m_takes_local, defScope m_takes_local, [], []⟩
def dm_takes_house : He.DefD := ⟨("Reading", some "takes_house"), "takes_house", "Reading.takes_house", defArgs m_takes_house, defBody m_takes_house, defScope m_takes_house, [], []⟩
def dm_takes_one : He.DefD := ⟨("Reading", some "takes_one"), "takes_one", "Reading.takes_one", defArgs m_takes_one, defBody m_takes_one, defScope m_takes_one, [], []⟩
def dm_takes_group : He.DefD := ⟨("Reading", some "takes_group"), "takes_group", "Reading.takes_group", defArgs m_takes_group, defBody m_takes_group, defScope m_takes_group, [], []⟩
def dm_takes_behind : He.DefD := ⟨("Reading", some "takes_behind"), "takes_behind", "Reading.takes_behind", defArgs m_takes_behind, defBody m_takes_behind, defScope m_takes_behind, [], []⟩
def dm_is_done : He.DefD := ⟨("Reading", some "is_done"), "is_done", "Reading.is_done", defArgs m_is_done, defBody m_is_done, defScope m_is_done, [], []⟩
def fn0 : List He.DefD := [d_is_whole, d_is_between, d_is_line, d_is_of, d_is_name, d_is_value, d_is_head, d_sign_of, d_is_sign, d_number_of, d_six_bits, d_two_figures, d_is_saying, d_sign_octets, d_sign_at, d_signs_told, d_marked, d_coded_word, d_words_by, d_plain_of, d_coded_in, d_six_octets, d_mark_octets, d_word_saying, d_atom_end, d_quoted_word, d_remark_word, d_word_at, d_words_in, d_words]
def fn1 : List He.DefD := [d_is_atom, d_quoted_in, d_is_local, d_is_label, d_is_house, d_is_one, d_is_group, d_phrase_of, d_show_one, d_show_address, d_show_addresses, d_phrase_saying, d_read_words, d_read_addresses, d_fold_places, d_folded_lines, d_head_text, d_fold, d_begins_head, d_head_of, d_read_heads, d__law_cell_at, d__law_mixed, d__law_source, d__law_next, d__law_signs, d__law_table, d__law_numbers, d__law_octets, d__law_coded_word]
def fn2 : List He.DefD := [d__law_is_atom, d__law_quoted, d__law_plain, d__law_remark_end, d__law_word_at, d__law_cut, d__law_signs_told, d__law_inner, d__law_uncoded, d__law_phrase_told, d__law_saying, d__law_house, d__law_one, d__law_gap, d__law_words, d__law_spelled_one, d__law_spelled, d__law_read_phrase, d__law_apart, d_law, dm___init__, dm_takes, dm_takes_begin, dm_takes_phrase, dm_takes_local, dm_takes_house, dm_takes_one, dm_takes_group, dm_takes_behind, dm_is_done]
def fn : List He.DefD := fn0 ++ fn1 ++ fn2
def fa0 : List He.Fa := [.glo "is_whole", .glo "is_between", .glo "is_line", .glo "is_of", .glo "is_name", .glo "is_value", .glo "is_head", .glo "sign_of", .glo "is_sign", .glo "number_of", .glo "six_bits", .glo "two_figures", .glo "is_saying", .glo "sign_octets", .glo "sign_at", .glo "signs_told", .glo "marked", .glo "coded_word", .glo "words_by", .glo "plain_of", .glo "coded_in", .glo "six_octets", .glo "mark_octets", .glo "word_saying", .glo "atom_end", .glo "quoted_word", .glo "remark_word", .glo "word_at", .glo "words_in", .glo "words"]
def fa1 : List He.Fa := [.glo "is_atom", .glo "quoted_in", .glo "is_local", .glo "is_label", .glo "is_house", .glo "is_one", .glo "is_group", .glo "phrase_of", .glo "show_one", .glo "show_address", .glo "show_addresses", .glo "phrase_saying", .glo "read_words", .glo "read_addresses", .glo "fold_places", .glo "folded_lines", .glo "head_text", .glo "fold", .glo "begins_head", .glo "head_of", .glo "read_heads", .glo "_law_cell_at", .glo "_law_mixed", .glo "_law_source", .glo "_law_next", .glo "_law_signs", .glo "_law_table", .glo "_law_numbers", .glo "_law_octets", .glo "_law_coded_word"]
def fa2 : List He.Fa := [.glo "_law_is_atom", .glo "_law_quoted", .glo "_law_plain", .glo "_law_remark_end", .glo "_law_word_at", .glo "_law_cut", .glo "_law_signs_told", .glo "_law_inner", .glo "_law_uncoded", .glo "_law_phrase_told", .glo "_law_saying", .glo "_law_house", .glo "_law_one", .glo "_law_gap", .glo "_law_words", .glo "_law_spelled_one", .glo "_law_spelled", .glo "_law_read_phrase", .glo "_law_apart", .glo "law", .glo "Reading", .glo "SORTS", .free "isinstance", .free "int", .free "bool", .free "str", .free "tuple", .free "list", .free "all", .free "len"]
def fa3 : List He.Fa := [.free "range", .free "max", .free "min", .free "enumerate", .str "FIGURES" "0123456789", .str "SMALL" "abcdefghijklmnopqrstuvwxyz", .str "LETTERS" "abcdefghijklmnopqrstuvwxyzABCDEFGHIJKLMNOPQRSTUVWXYZ", .str "NAME_SIGNS" "abcdefghijklmnopqrstuvwxyzABCDEFGHIJKLMNOPQRSTUVWXYZ0123456789-", .int "MOST_OF_NAME" 30, .str "SIGNS" " !\"#$&'()*+,-./0123456789:;<=>?@ABCDEFGHIJKLMNOPQRSTUVWXYZ[\\]^_`abcdefghijklmnopqrstuvwxyz{|}~", .str "SIX" "ABCDEFGHIJKLMNOPQRSTUVWXYZabcdefghijklmnopqrstuvwxyz0123456789+/", .str "SIXTEEN" "0123456789ABCDEF", .int "LEAST_SIGN" 32, .int "MOST_SIGN" 65535, .int "MOST_OF_WORD" 60, .str "ATOM_SIGNS" "abcdefghijklmnopqrstuvwxyzABCDEFGHIJKLMNOPQRSTUVWXYZ0123456789!#$&'*+-./=?^_`{|}~", .str "MARKS" "<>@,;:[]", .int "MOST_OF_LOCAL" 40, .int "MOST_OF_LABEL" 20, .str "HOUSE_SIGNS" "abcdefghijklmnopqrstuvwxyz0123456789-", .int "WIDTH" 72, .cls "Reading", .mkr "Reading", .noat "Reading" "stand", .noat "Reading" "phrase", .noat "Reading" "local", .noat "Reading" "house", .noat "Reading" "is_angled", .noat "Reading" "leader", .noat "Reading" "members"]
def fa4 : List He.Fa := [.noat "Reading" "is_opened", .noat "Reading" "listed", .meth "Reading" "__init__", .meth "Reading" "takes", .meth "Reading" "takes_begin", .meth "Reading" "takes_phrase", .meth "Reading" "takes_local", .meth "Reading" "takes_house", .meth "Reading" "takes_one", .meth "Reading" "takes_group", .meth "Reading" "takes_behind", .meth "Reading" "is_done"]
def fa : List He.Fa := fa0 ++ fa1 ++ fa2 ++ fa3 ++ fa4
def names0 : List PySem.Str := ["FIGURES", "SMALL", "LETTERS", "NAME_SIGNS", "MOST_OF_NAME", "SIGNS", "SIX", "SIXTEEN", "LEAST_SIGN", "MOST_SIGN", "MOST_OF_WORD", "SORTS", "ATOM_SIGNS", "MARKS", "MOST_OF_LOCAL", "MOST_OF_LABEL", "HOUSE_SIGNS", "WIDTH", "LetterError", "NoHead", "NoWords", "NoAddress", "Reading", "is_whole", "is_between", "is_line", "is_of", "is_name", "is_value", "is_head"]
def names1 : List PySem.Str := ["sign_of", "is_sign", "number_of", "six_bits", "two_figures", "is_saying", "sign_octets", "sign_at", "signs_told", "marked", "coded_word", "words_by", "plain_of", "coded_in", "six_octets", "mark_octets", "word_saying", "atom_end", "quoted_word", "remark_word", "word_at", "words_in", "words", "is_atom", "quoted_in", "is_local", "is_label", "is_house", "is_one", "is_group"]
def names2 : List PySem.Str := ["phrase_of", "show_one", "show_address", "show_addresses", "phrase_saying", "read_words", "read_addresses", "fold_places", "folded_lines", "head_text", "fold", "begins_head", "head_of", "read_heads", "_law_cell_at", "_law_mixed", "_law_source", "_law_next", "_law_signs", "_law_table", "_law_numbers", "_law_octets", "_law_coded_word", "_law_is_atom", "_law_quoted", "_law_plain", "_law_remark_end", "_law_word_at", "_law_cut", "_law_signs_told"]
def names3 : List PySem.Str := ["_law_inner", "_law_uncoded", "_law_phrase_told", "_law_saying", "_law_house", "_law_one", "_law_gap", "_law_words", "_law_spelled_one", "_law_spelled", "_law_read_phrase", "_law_apart"]
def names : List PySem.Str := names0 ++ names1 ++ names2 ++ names3
def ex (K : PySem.W.Frag) : Bool := He.tupB K "SORTS" [.str "s", .str "m"]
/-! the hook: what is looked at are the module's names' objects, their codes, Reading's own dict, its methods and their codes -/
def refs1 (o : Obj) : List Addr := match o.data with
  | .dict es _ => es.toList.flatMap fun e => He.refV e.val
  | _ => []
def refs2 (o : Obj) : List Addr := match o.data with
  | .func fd => He.refV fd.code
  | .cls cd => cd.ns :: cd.mro.flatMap He.refV
  | _ => []
def at1 (f : Obj → List Addr) (g : Addr → Option Obj) (a : Addr) : List Addr := match g a with
  | some o => f o
  | none => []
def asR (g : Addr → Option Obj) : List Addr :=
  let l1 := at1 refs1 g mainGlobals
  let l2 := l1.flatMap (at1 refs2 g)
  let l3 := l2.flatMap (at1 refs1 g)
  let l4 := l3.flatMap (at1 refs2 g)
  mainGlobals :: (l1 ++ (l2 ++ (l3 ++ l4)))
abbrev AlM : Type := He.AlD × Bool
def obsM (g : Addr → Option Obj) : AlM := (He.obsD fa fn (He.frG g (asR g)), ex (He.frG g (asR g)))
def SaysM (K : PySem.W.Frag) : Prop := He.SaysD fa fn K ∧ ex K = true
def hookM : PySem.W.Hook where
  α := AlM
  obs := fun s => obsM s.heap.get?
  val := fun _ => (He.valD fn, true)
  says := fun _ h => ∃ K : PySem.W.Frag, K.In h ∧ SaysM K
  of := fun _ _ e => ⟨_, He.frG_in, ⟨congrArg (fun z : AlM => z.1) e, congrArg (fun z : AlM => z.2) e⟩⟩
  keeps := fun _ _ _ ⟨K, hK, c⟩ k => ⟨K, PySem.W.Frag.In.keeps hK k, c⟩
theorem obsM_eq {g : Addr → Option Obj} {s : Shared} (h : ∀ a, g a = s.heap.get? a) : obsM g = hookM.obs s := by
  have e : g = s.heap.get? := funext h
  rw [e] <;> rfl
abbrev R : PySem.W.OpenRow := PySem.W.OpenLaw.row PySem.Challenge.rw_foldletter_k23_whole_addresses_however_s
def ob (s : PySem.W.SharedT) : AlM := obsM (HandSHeadRun.getT s)
theorem ob_eq (s : PySem.W.SharedT) : ob s = hookM.obs s.abs := obsM_eq (HandSHeadRun.getT_eq s)
theorem run (w : World) : HandSHeadRun.RunEq R (PySem.W.view R.prog [110]) hookM ob 20000 names w := by
  intro os
  kernel_rfl
end Fk
set_option maxHeartbeats 4000000
/-! A calculus of data over the hand layer: what expressions and statements do, told of plain data (no addresses). -/
namespace Dl
open PySem L2 Evl
abbrev Sx (l : List Nat) : Str := ⟨l.toArray⟩
inductive D where
  | non | bl (b : Bool) | int (i : Int) | str (s : List Nat) | lst (xs : List D) | tup (xs : List D)
mutual
/-- the value v bears the data d in the part G of the heap that stands still -/
inductive Rp (G : Hp) : V → D → Prop
  | non : Rp G .non .non
  | bl (b : Bool) : Rp G (.bl b) (.bl b)
  | int (i : Int) : Rp G (.int i) (.int i)
  | str (s : List Nat) : Rp G (.str (Sx s)) (.str s)
  | lst {a : Addr} {vs : List V} {ds : List D} : G a = some (.lst vs) → RpL G vs ds → Rp G (.ref a) (.lst ds)
  | tup {a : Addr} {vs : List V} {ds : List D} : G a = some (.tup vs) → RpL G vs ds → Rp G (.ref a) (.tup ds)
inductive RpL (G : Hp) : List V → List D → Prop
  | nil : RpL G [] []
  | cons {v : V} {vs : List V} {d : D} {ds : List D} : Rp G v d → RpL G vs ds → RpL G (v :: vs) (d :: ds)
end
mutual
theorem Rp.mono {G G' : Hp} (e : Ex G G') : ∀ {v : V} {d : D}, Rp G v d → Rp G' v d
  | _, _, .non => .non
  | _, _, .bl b => .bl b
  | _, _, .int i => .int i
  | _, _, .str s => .str s
  | _, _, .lst h r => .lst (e _ _ h) (RpL.mono e r)
  | _, _, .tup h r => .tup (e _ _ h) (RpL.mono e r)
theorem RpL.mono {G G' : Hp} (e : Ex G G') : ∀ {vs : List V} {ds : List D}, RpL G vs ds → RpL G' vs ds
  | _, _, .nil => .nil
  | _, _, .cons h r => .cons (Rp.mono e h) (RpL.mono e r)
end
theorem RpL.length {G : Hp} : ∀ {vs : List V} {ds : List D}, RpL G vs ds → vs.length = ds.length
  | _, _, .nil => rfl
  | _, _, .cons _ r => congrArg Nat.succ (RpL.length r)
theorem RpL.get {G : Hp} : ∀ {vs : List V} {ds : List D} {i : Nat} {d : D}, RpL G vs ds → ds[i]? = some d → ∃ v, vs[i]? = some v ∧ Rp G v d
  | _, _, _, _, .nil, e => by simp at e
  | _, _, 0, _, .cons h _, e => by
    rw [List.getElem?_cons_zero] at e
    cases e
    exact ⟨_, rfl, h⟩
  | _, _, i + 1, _, .cons _ r, e => by
    rw [List.getElem?_cons_succ] at e
    obtain ⟨v, h1, h2⟩ := RpL.get r e
    exact ⟨v, by rw [List.getElem?_cons_succ]; exact h1, h2⟩
theorem RpL.append {G : Hp} : ∀ {vs ws : List V} {ds es : List D}, RpL G vs ds → RpL G ws es → RpL G (vs ++ ws) (ds ++ es)
  | _, _, _, _, .nil, s => s
  | _, _, _, _, .cons h r, s => .cons h (RpL.append r s)
theorem RpL.take {G : Hp} : ∀ {vs : List V} {ds : List D} (n : Nat), RpL G vs ds → RpL G (vs.take n) (ds.take n)
  | _, _, 0, _ => .nil
  | _, _, _ + 1, .nil => .nil
  | _, _, n + 1, .cons h r => .cons h (RpL.take n r)
theorem RpL.drop {G : Hp} : ∀ {vs : List V} {ds : List D} (n : Nat), RpL G vs ds → RpL G (vs.drop n) (ds.drop n)
  | _, _, 0, r => r
  | _, _, _ + 1, .nil => .nil
  | _, _, n + 1, .cons _ r => RpL.drop n r
theorem RpL.one {G : Hp} {v : V} {d : D} (h : Rp G v d) : RpL G [v] [d] := .cons h .nil
theorem RpL.rep {G : Hp} {v : V} {d : D} (h : Rp G v d) : ∀ n : Nat, RpL G (List.replicate n v) (List.replicate n d)
  | 0 => .nil
  | n + 1 => .cons h (RpL.rep h n)
theorem RpL.ints {G : Hp} : ∀ ns : List Int, RpL G (ns.map V.int) (ns.map D.int)
  | [] => .nil
  | n :: r => .cons (.int n) (RpL.ints r)
theorem RpL.int_inv {G : Hp} : ∀ {ns : List Int} {vs : List V}, RpL G vs (ns.map D.int) → vs = ns.map V.int
  | [], _, .nil => rfl
  | n :: r, _, .cons h t => by
    cases h
    rw [RpL.int_inv t]
    rfl
theorem RpL.bl_inv {G : Hp} : ∀ {bs : List Bool} {vs : List V}, RpL G vs (bs.map D.bl) → vs = bs.map V.bl
  | [], _, .nil => rfl
  | n :: r, _, .cons h t => by
    cases h
    rw [RpL.bl_inv t]
    rfl
theorem RpL.str_inv {G : Hp} : ∀ {ss : List (List Nat)} {vs : List V}, RpL G vs (ss.map D.str) → vs = (ss.map Sx).map V.str
  | [], _, .nil => rfl
  | n :: r, _, .cons h t => by
    cases h
    rw [RpL.str_inv t]
    rfl
theorem RpL.strs {G : Hp} : ∀ ss : List (List Nat), RpL G ((ss.map Sx).map V.str) (ss.map D.str)
  | [] => .nil
  | n :: r => .cons (.str n) (RpL.strs r)

/-! ### the source: a list of three ints that its callees may change -/
def SrcOk (H : Hp) (p : Addr) : Prop := ∃ a b c : Int, H p = some (.lst [.int a, .int b, .int c])
/-- G: what stands still; H: what is tracked; S: the sources -/
structure Base (S : Addr → Prop) (G H : Hp) : Prop where
  ext : Ex G H
  src : ∀ p, S p → G p = none ∧ SrcOk H p
/-- from (G, H) to (G', H'): new things come, what was mutable stays so and as it was (but the sources) -/
structure Go (S : Addr → Prop) (G H G' H' : Hp) : Prop where
  g : Ex G G'
  gh : Ex G' H'
  h : ∀ p o, ¬ S p → H p = some o → H' p = some o
  nw : ∀ p, H p ≠ none → G p = none → G' p = none
  s : ∀ p, S p → SrcOk H' p
section
variable {S : Addr → Prop} {G H G' H' G2 H2 : Hp}
theorem Base.refl (b : Base S G H) : Go S G H G H := ⟨Ex.refl G, b.ext, fun _ _ _ e => e, fun _ _ e => e, fun p hp => (b.src p hp).2⟩
theorem SrcOk.ne {p : Addr} (h : SrcOk H p) : H p ≠ none := by
  obtain ⟨a, b, c, e⟩ := h
  rw [e]
  exact fun z => nomatch z
theorem Go.kept (b : Base S G H) (g : Go S G H G' H') {p : Addr} (hp : H p ≠ none) : H' p ≠ none := by
  by_cases hs : S p
  · exact (g.s p hs).ne
  · cases e : H p with
    | none => exact absurd e hp
    | some o =>
      rw [g.h p o hs e]
      exact fun z => nomatch z
theorem Go.base (b : Base S G H) (g : Go S G H G' H') : Base S G' H' := ⟨g.gh, fun p hp => ⟨g.nw p (b.src p hp).2.ne (b.src p hp).1, g.s p hp⟩⟩
theorem Go.trans (b : Base S G H) (x : Go S G H G' H') (y : Go S G' H' G2 H2) : Go S G H G2 H2 :=
  ⟨x.g.trans y.g, y.gh, fun p o hs e => y.h p o hs (x.h p o hs e), fun p hp e => y.nw p (x.kept b hp) (x.nw p hp e), y.s⟩
/-- a new object is laid, and stands still from now on -/
theorem Go.new (b : Base S G H) {p : Addr} {o : HO} (hp : H p = none) : Go S G H (upd G p o) (upd H p o) := by
  have gp : G p = none := by
    cases e : G p with
    | none => rfl
    | some u =>
      rw [b.ext p u e] at hp
      cases hp
  refine ⟨Ex.new gp, fun a u e => ?_, fun q u _ e => Ex.new hp q u e, fun q hq e => ?_, fun q hq => ?_⟩
  · by_cases ha : a = p
    · rw [ha, upd_same] at e ⊢
      exact e
    · rw [upd_ne ha] at e ⊢
      exact b.ext a u e
  · rw [upd_ne (fun z => hq (by rw [z]; exact hp))]
    exact e
  · obtain ⟨x, y, z, e⟩ := (b.src q hq).2
    exact ⟨x, y, z, Ex.new hp q _ e⟩
/-- a new object is laid that may change -/
theorem Go.mut (b : Base S G H) {p : Addr} {o : HO} (hp : H p = none) : Go S G H G (upd H p o) :=
  ⟨Ex.refl G, b.ext.trans (Ex.new hp), fun q u _ e => Ex.new hp q u e, fun _ _ e => e, fun q hq => by
    obtain ⟨x, y, z, e⟩ := (b.src q hq).2
    exact ⟨x, y, z, Ex.new hp q _ e⟩⟩
theorem Go.fresh (b : Base S G H) (g : Go S G H G' H') {p : Addr} (hp : H' p = none) : H p = none := by
  cases e : H p with
  | none => rfl
  | some o => exact absurd hp (g.kept b (by rw [e]; exact fun z => nomatch z))
/-- what was laid behind is taken to stand still -/
theorem Go.freeze {p : Addr} {o : HO} (g : Go S G H G' H') (hn : H p = none) (hp : H' p = some o) (hg : G' p = none) : Go S G H (upd G' p o) H' := by
  refine ⟨fun a u e => ?_, fun a u e => ?_, g.h, fun q hq e => ?_, g.s⟩
  · rw [upd_ne (ne_of_none (g.g a u e) hg)]
    exact g.g a u e
  · by_cases ha : a = p
    · rw [ha, upd_same] at e
      cases e
      rw [ha]
      exact hp
    · rw [upd_ne ha] at e
      exact g.gh a u e
  · rw [upd_ne (fun z => hq (by rw [z]; exact hn))]
    exact g.nw q hq e
end

/-! ### the slots -/
inductive Sl where
  | no | dat (d : D) | own (ds : List D) | src | raw (v : V) (P : Hp → Prop)
def SlAt (F S : Addr → Prop) (G H : Hp) : Option V → Sl → Prop
  | _, .no => True
  | o, .dat d => ∃ v, o = some v ∧ Rp G v d
  | o, .own ds => ∃ p vs, o = some (.ref p) ∧ H p = some (.lst vs) ∧ G p = none ∧ ¬ F p ∧ RpL G vs ds
  | o, .src => ∃ p, o = some (.ref p) ∧ S p
  | o, .raw v P => o = some v ∧ ∀ G1, Ex G G1 → P G1
/-- F: what is mutable and not this def's -/
structure Cfg (F S : Addr → Prop) (G H : Hp) (σ : St) (ρ : List Sl) : Prop where
  ext : Ex G H
  fr : ∀ p, F p → H p ≠ none ∧ G p = none
  src : ∀ p, S p → F p ∧ SrcOk H p
  len : σ.length = ρ.length
  at_ : ∀ (i : Nat) (o : Option V) (s : Sl), σ[i]? = some o → ρ[i]? = some s → SlAt F S G H o s
  dis : ∀ (i j : Nat) (p : Addr) (a b : List D), ρ[i]? = some (.own a) → ρ[j]? = some (.own b) → σ[i]? = some (some (.ref p)) → σ[j]? = some (some (.ref p)) → i = j
section
variable {F S : Addr → Prop} {G H G' H' : Hp} {σ : St} {ρ : List Sl}
theorem Cfg.base (c : Cfg F S G H σ ρ) : Base S G H := ⟨c.ext, fun p hp => ⟨(c.fr p (c.src p hp).1).2, (c.src p hp).2⟩⟩
theorem Cfg.get (c : Cfg F S G H σ ρ) {i : Nat} {s : Sl} (h : ρ[i]? = some s) : ∃ o, σ[i]? = some o ∧ SlAt F S G H o s := by
  have hi : i < σ.length := by
    rw [c.len]
    exact (List.getElem?_eq_some_iff.mp h).1
  exact ⟨σ[i], List.getElem?_eq_getElem hi, c.at_ i _ s (List.getElem?_eq_getElem hi) h⟩
theorem Cfg.dat (c : Cfg F S G H σ ρ) {i : Nat} {d : D} (h : ρ[i]? = some (.dat d)) : ∃ v, σ[i]? = some (some v) ∧ Rp G v d := by
  obtain ⟨o, e, v, rfl, r⟩ := c.get h
  exact ⟨v, e, r⟩
theorem Cfg.own (c : Cfg F S G H σ ρ) {i : Nat} {ds : List D} (h : ρ[i]? = some (.own ds)) : ∃ p vs, σ[i]? = some (some (.ref p)) ∧ H p = some (.lst vs) ∧ G p = none ∧ ¬ F p ∧ RpL G vs ds := by
  obtain ⟨o, e, p, vs, rfl, r⟩ := c.get h
  exact ⟨p, vs, e, r⟩
theorem Cfg.srcAt (c : Cfg F S G H σ ρ) {i : Nat} (h : ρ[i]? = some .src) : ∃ p, σ[i]? = some (some (.ref p)) ∧ S p := by
  obtain ⟨o, e, p, rfl, r⟩ := c.get h
  exact ⟨p, e, r⟩
theorem Cfg.go (c : Cfg F S G H σ ρ) (g : Go S G H G' H') : Cfg F S G' H' σ ρ := by
  refine ⟨g.gh, fun p hp => ⟨g.kept c.base (c.fr p hp).1, g.nw p (c.fr p hp).1 (c.fr p hp).2⟩, fun p hp => ⟨(c.src p hp).1, g.s p hp⟩, c.len, fun i o s h1 h2 => ?_, c.dis⟩
  have q := c.at_ i o s h1 h2
  cases s with
  | no => trivial
  | dat d =>
    obtain ⟨v, e, r⟩ := q
    exact ⟨v, e, r.mono g.g⟩
  | own ds =>
    obtain ⟨p, vs, e, r1, r2, r3, r4⟩ := q
    have hne : H p ≠ none := by
      rw [r1]
      exact fun z => nomatch z
    exact ⟨p, vs, e, g.h p _ (fun z => r3 (c.src p z).1) r1, g.nw p hne r2, r3, r4.mono g.g⟩
  | src => exact q
  | raw v P => exact ⟨q.1, fun G2 e => q.2 G2 (g.g.trans e)⟩
end
end Dl
/-! Expressions, told of data. -/
namespace Dl
open PySem L2 Evl
/-- te comes to some data of P -/
def EvD (S : Addr → Prop) (te : TE) (ρ : List Sl) (P : D → Prop) : Prop := ∀ (F : Addr → Prop) (G H : Hp) (σ : St), Cfg F S G H σ ρ → ∀ Q : VK, (∀ v d G' H', P d → Go S G H G' H' → Rp G' v d → Q v H') → te σ H Q
abbrev EvV (S : Addr → Prop) (te : TE) (ρ : List Sl) (d : D) : Prop := EvD S te ρ (fun x => x = d)
/-- te makes a new list of P -/
def EvF (S : Addr → Prop) (te : TE) (ρ : List Sl) (P : List D → Prop) : Prop := ∀ (F : Addr → Prop) (G H : Hp) (σ : St), Cfg F S G H σ ρ → ∀ Q : VK,
  (∀ p vs ds G' H', P ds → Go S G H G' H' → H p = none → H' p = some (.lst vs) → G' p = none → RpL G' vs ds → Q (.ref p) H') → te σ H Q
def EvT (S : Addr → Prop) (t : TT) (ρ : List Sl) (P : Bool → Prop) : Prop := ∀ (F : Addr → Prop) (G H : Hp) (σ : St), Cfg F S G H σ ρ → ∀ Q : Bool → Hp → Prop, (∀ b G' H', P b → Go S G H G' H' → Q b H') → t σ H Q
abbrev EvB (S : Addr → Prop) (t : TT) (ρ : List Sl) (b : Bool) : Prop := EvT S t ρ (fun x => x = b)
def EvA (S : Addr → Prop) (ta : TA) (ρ : List Sl) (P : List D → Prop) : Prop := ∀ (F : Addr → Prop) (G H : Hp) (σ : St), Cfg F S G H σ ρ → ∀ Q : List V → Hp → Prop, (∀ vs ds G' H', P ds → Go S G H G' H' → RpL G' vs ds → Q vs H') → ta σ H Q
abbrev EvAV (S : Addr → Prop) (ta : TA) (ρ : List Sl) (ds : List D) : Prop := EvA S ta ρ (fun x => x = ds)
def EvO (S : Addr → Prop) (t : TO) (ρ : List Sl) (o : Option Int) : Prop := ∀ (F : Addr → Prop) (G H : Hp) (σ : St), Cfg F S G H σ ρ → ∀ Q : Option Int → Hp → Prop, (∀ G' H', Go S G H G' H' → Q o H') → t σ H Q
/-- a two-place operation on data -/
def OpD (S : Addr → Prop) (r : R2) (x y : D) (P : D → Prop) : Prop := ∀ (G H : Hp), Base S G H → ∀ (v w : V) (Q : VK), Rp G v x → Rp G w y → (∀ u d G' H', P d → Go S G H G' H' → Rp G' u d → Q u H') → r v w H Q
abbrev OpV (S : Addr → Prop) (r : R2) (x y z : D) : Prop := OpD S r x y (fun d => d = z)
def OpF (S : Addr → Prop) (r : R2) (x y : D) (zs : List D) : Prop := ∀ (G H : Hp), Base S G H → ∀ (v w : V) (Q : VK), Rp G v x → Rp G w y → (∀ p vs G' H', Go S G H G' H' → H p = none → H' p = some (.lst vs) → G' p = none → RpL G' vs zs → Q (.ref p) H') → r v w H Q
/-- a call on data -/
def ClD (S : Addr → Prop) (r : List V → Hp → VK → Prop) (xs : List D) (P : D → Prop) : Prop := ∀ (G H : Hp), Base S G H → ∀ (vs : List V) (Q : VK), RpL G vs xs → (∀ u d G' H', P d → Go S G H G' H' → Rp G' u d → Q u H') → r vs H Q
abbrev ClV (S : Addr → Prop) (r : List V → Hp → VK → Prop) (xs : List D) (z : D) : Prop := ClD S r xs (fun d => d = z)
/-- a built-in's method on data -/
def MtD (S : Addr → Prop) (r : V → List V → Hp → VK → Prop) (x : D) (ys : List D) (z : D) : Prop := ∀ (G H : Hp), Base S G H → ∀ (v : V) (vs : List V) (Q : VK), Rp G v x → RpL G vs ys → (∀ u G' H', Go S G H G' H' → Rp G' u z → Q u H') → r v vs H Q
section
variable {S : Addr → Prop} {ρ : List Sl} {te ta tb tc : TE} {t u : TT} {x y z d : D} {P : D → Prop} {K : PySem.W.Frag}
theorem EvD.imp {P' : D → Prop} (h : EvD S te ρ P) (f : ∀ d, P d → P' d) : EvD S te ρ P' := fun F G H σ c Q q => h F G H σ c Q fun v d G' H' hp => q v d G' H' (f d hp)
theorem EvV.cast (h : EvV S te ρ x) (e : x = y) : EvV S te ρ y := e ▸ h
theorem EvB.cast {a b : Bool} (h : EvB S t ρ a) (e : a = b) : EvB S t ρ b := e ▸ h
theorem EvV.at (h : EvV S te ρ x) (hp : P x) : EvD S te ρ P := EvD.imp h fun d e => e ▸ hp
theorem EvD.ex {α : Type} {Pa : α → D → Prop} (h : EvD S te ρ fun d => ∃ a, Pa a d) : EvD S te ρ fun d => ∃ a, Pa a d := h
theorem EvF.frz {P : List D → Prop} (h : EvF S te ρ P) : EvD S te ρ (fun d => ∃ ds, P ds ∧ d = .lst ds) := fun F G H σ c Q q =>
  h F G H σ c Q fun p vs ds G' H' hp g hn hh hg r => q _ (.lst ds) (upd G' p (.lst vs)) H' ⟨ds, hp, rfl⟩ (g.freeze hn hh hg) (.lst upd_same (r.mono (Ex.new hg)))
theorem EvF.v {ds : List D} (h : EvF S te ρ (fun x => x = ds)) : EvV S te ρ (.lst ds) := EvD.imp (EvF.frz h) fun d ⟨_, e1, e2⟩ => by rw [e2, e1]
theorem ev_dat {i : Nat} (h : ρ[i]? = some (.dat d)) : EvV S (tVar i) ρ d := fun F G H σ c Q q => by
  obtain ⟨v, e, r⟩ := c.dat h
  exact ⟨v, e, q v d G H rfl c.base.refl r⟩
theorem ev_int {i : Int} : EvV S (tC (.int i)) ρ (.int i) := fun F G H σ c Q q => q _ _ G H rfl c.base.refl (.int i)
theorem ev_bl {b : Bool} : EvV S (tC (.bl b)) ρ (.bl b) := fun F G H σ c Q q => q _ _ G H rfl c.base.refl (.bl b)
theorem ev_non : EvV S (tC .non) ρ .non := fun F G H σ c Q q => q _ _ G H rfl c.base.refl .non
theorem ev_str {s : Str} : EvV S (tC (.str s)) ρ (.str s.cps.toList) := fun F G H σ c Q q => q _ _ G H rfl c.base.refl (.str s.cps.toList)
theorem ev_strL {s : Str} {l : List Nat} (h : s.cps.toList = l) : EvV S (tC (.str s)) ρ (.str l) := EvV.cast ev_str (congrArg D.str h)
theorem ed_op {r : R2} {Pa : D → Prop} {Pb : D → D → Prop} (ha : EvD S ta ρ Pa) (hb : ∀ x, Pa x → EvD S tb ρ (Pb x)) (hr : ∀ x y, Pa x → Pb x y → OpD S r x y P) : EvD S (tOp r ta tb) ρ P := fun F G H σ c Q q =>
  ha F G H σ c _ fun v x G1 H1 px g1 r1 => hb x px F G1 H1 σ (c.go g1) _ fun w y G2 H2 py g2 r2 =>
    hr x y px py G2 H2 ((c.go g1).go g2).base v w Q (r1.mono g2.g) r2 fun u d G3 H3 pd g3 r3 => q u d G3 H3 pd ((g1.trans c.base g2).trans c.base g3) r3
theorem ev_op {r : R2} (ha : EvV S ta ρ x) (hb : EvV S tb ρ y) (hr : OpD S r x y P) : EvD S (tOp r ta tb) ρ P := ed_op ha (fun _ _ => hb) fun _ _ e1 e2 => by rw [e1, e2]; exact hr
theorem ef_op {r : R2} {zs : List D} (ha : EvV S ta ρ x) (hb : EvV S tb ρ y) (hr : OpF S r x y zs) : EvF S (tOp r ta tb) ρ (fun l => l = zs) := fun F G H σ c Q q =>
  ha F G H σ c _ fun v x' G1 H1 ex g1 r1 => hb F G1 H1 σ (c.go g1) _ fun w y' G2 H2 ey g2 r2 => by
    subst ex ey
    refine hr G2 H2 ((c.go g1).go g2).base v w Q (r1.mono g2.g) r2 fun p vs G3 H3 g3 hn hh hg rr => ?_
    exact q p vs zs G3 H3 rfl ((g1.trans c.base g2).trans c.base g3) ((g1.trans c.base g2).fresh c.base hn) hh hg rr
theorem ev_un {r : V → Hp → VK → Prop} (ha : EvV S ta ρ x) (hr : ∀ (G H : Hp), Base S G H → ∀ (v : V) (Q : VK), Rp G v x → (∀ u G' H', Go S G H G' H' → Rp G' u z → Q u H') → r v H Q) : EvV S (tUn r ta) ρ z := fun F G H σ c Q q =>
  ha F G H σ c _ fun v x' G1 H1 ex g1 r1 => by
    subst ex
    exact hr G1 H1 (c.go g1).base v Q r1 fun u G2 H2 g2 r2 => q u z G2 H2 rfl (g1.trans c.base g2) r2
theorem ev_neg {i : Int} (ha : EvV S ta ρ (.int i)) : EvV S (tUn (rU fun i => .int (-i)) ta) ρ (.int (-i)) := ev_un ha fun G H b v Q r q => by
  cases r
  exact ⟨i, rfl, q _ G H b.refl (.int _)⟩
/-! ### operators -/
theorem op_I0 {g : Int → Int → V} {i j : Int} {z : D} (hz : ∀ G, Rp G (g i j) z) : OpV S (rI0 g) (.int i) (.int j) z := fun G H b v w Q r1 r2 q => by
  cases r1; cases r2
  exact ⟨i, j, rfl, rfl, q _ _ G H rfl b.refl (hz G)⟩
theorem op_I {C : Int → Int → Prop} {g : Int → Int → V} {i j : Int} {z : D} (hc : C i j) (hz : ∀ G, Rp G (g i j) z) : OpV S (rI C g) (.int i) (.int j) z := fun G H b v w Q r1 r2 q => by
  cases r1; cases r2
  exact ⟨i, j, rfl, rfl, hc, q _ _ G H rfl b.refl (hz G)⟩
theorem o_add {i j : Int} : OpV S (rI0 fun i j => .int (i + j)) (.int i) (.int j) (.int (i + j)) := op_I0 fun _ => .int _
theorem o_sub {i j : Int} : OpV S (rI0 fun i j => .int (i - j)) (.int i) (.int j) (.int (i - j)) := op_I0 fun _ => .int _
theorem o_mul {i j : Int} (h : CMul i j) : OpV S (rI CMul fun i j => .int (i * j)) (.int i) (.int j) (.int (i * j)) := op_I h fun _ => .int _
theorem o_fdiv {i j : Int} (h : CDiv i j) : OpV S (rI CDiv fun i j => .int (i / j)) (.int i) (.int j) (.int (i / j)) := op_I h fun _ => .int _
theorem o_fdivW {i j : Int} (h : CDivW i j) : OpV S (rI CDivW fun i j => .int (i / j)) (.int i) (.int j) (.int (i / j)) := op_I h fun _ => .int _
theorem o_mod {i j : Int} (h : 0 < j) : OpV S (rI (fun _ j => 0 < j) fun i j => .int (i % j)) (.int i) (.int j) (.int (i % j)) := op_I h fun _ => .int _
theorem o_pow {i j : Int} (h : CPow i j) : OpV S (rI CPow fun i j => .int (i ^ j.toNat)) (.int i) (.int j) (.int (i ^ j.toNat)) := op_I h fun _ => .int _
theorem o_lt {i j : Int} : OpV S (rI0 fun i j => .bl (decide (i < j))) (.int i) (.int j) (.bl (decide (i < j))) := op_I0 fun _ => .bl _
theorem o_le {i j : Int} : OpV S (rI0 fun i j => .bl (decide (i ≤ j))) (.int i) (.int j) (.bl (decide (i ≤ j))) := op_I0 fun _ => .bl _
theorem o_gt {i j : Int} : OpV S (rI0 fun i j => .bl (decide (j < i))) (.int i) (.int j) (.bl (decide (j < i))) := op_I0 fun _ => .bl _
theorem o_ge {i j : Int} : OpV S (rI0 fun i j => .bl (decide (j ≤ i))) (.int i) (.int j) (.bl (decide (j ≤ i))) := op_I0 fun _ => .bl _
theorem Sx_inj {a b : List Nat} : Sx a = Sx b ↔ a = b := ⟨fun e => by
  have h : a.toArray = b.toArray := congrArg Str.cps e
  simpa using h, fun e => by rw [e]⟩
theorem o_eqI {i j : Int} : OpV S rEq (.int i) (.int j) (.bl (decide (i = j))) := fun G H b v w Q r1 r2 q => by
  cases r1; cases r2
  have e : decide (V.int i = V.int j) = decide (i = j) := by simp
  exact ⟨rfl, q _ _ G H rfl b.refl (by rw [e]; exact .bl _)⟩
theorem o_neI {i j : Int} : OpV S rNe (.int i) (.int j) (.bl (!decide (i = j))) := fun G H b v w Q r1 r2 q => by
  cases r1; cases r2
  have e : decide (V.int i = V.int j) = decide (i = j) := by simp
  exact ⟨rfl, q _ _ G H rfl b.refl (by rw [e]; exact .bl _)⟩
theorem o_eqS {a c : List Nat} : OpV S rEq (.str a) (.str c) (.bl (decide (a = c))) := fun G H b v w Q r1 r2 q => by
  cases r1; cases r2
  have e : decide (V.str (Sx a) = V.str (Sx c)) = decide (a = c) := by simp
  exact ⟨rfl, q _ _ G H rfl b.refl (by rw [e]; exact .bl _)⟩
theorem o_neS {a c : List Nat} : OpV S rNe (.str a) (.str c) (.bl (!decide (a = c))) := fun G H b v w Q r1 r2 q => by
  cases r1; cases r2
  have e : decide (V.str (Sx a) = V.str (Sx c)) = decide (a = c) := by simp
  exact ⟨rfl, q _ _ G H rfl b.refl (by rw [e]; exact .bl _)⟩
theorem Sx_app (a c : List Nat) : Sx a ++ Sx c = Sx (a ++ c) := by
  show (⟨a.toArray ++ c.toArray⟩ : Str) = _
  simp
theorem Sx_len (a : List Nat) : (Sx a).length = a.length := by
  show a.toArray.size = _
  simp
def rAddS : R2 := fun x y H Q => ∃ i j, x = .str i ∧ y = .str j ∧ i.length + j.length ≤ sizeLine ∧ Q (.str (i ++ j)) H
theorem op_addS {X : Cx} : OpR X (binaryOp .Add) rAddS := op_add_str
theorem ip_addS {X : Cx} : PIp X .Add rAddS := iop_add_str
theorem o_addS {a c : List Nat} (h : a.length + c.length ≤ sizeLine) : OpV S rAddS (.str a) (.str c) (.str (a ++ c)) := fun G H b v w Q r1 r2 q => by
  cases r1; cases r2
  exact ⟨_, _, rfl, rfl, by rw [Sx_len, Sx_len]; exact h, q _ _ G H rfl b.refl (by rw [Sx_app]; exact .str _)⟩
/-- a list that stands, however it stands -/
theorem Rp.lst_inv {G : Hp} {v : V} {ds : List D} (r : Rp G v (.lst ds)) : ∃ a vs, v = .ref a ∧ G a = some (.lst vs) ∧ RpL G vs ds := by
  cases r with
  | lst h r => exact ⟨_, _, rfl, h, r⟩
theorem Rp.tup_inv {G : Hp} {v : V} {ds : List D} (r : Rp G v (.tup ds)) : ∃ a vs, v = .ref a ∧ G a = some (.tup vs) ∧ RpL G vs ds := by
  cases r with
  | tup h r => exact ⟨_, _, rfl, h, r⟩
theorem o_cat {xs ys : List D} (h : xs.length + ys.length ≤ sizeLine) : OpF S rCat (.lst xs) (.lst ys) (xs ++ ys) := fun G H b v w Q r1 r2 q => by
  obtain ⟨p, vs, rfl, h1, e1⟩ := r1.lst_inv
  obtain ⟨p', ws, rfl, h2, e2⟩ := r2.lst_inv
  refine ⟨p, p', vs, ws, rfl, rfl, b.ext _ _ h1, b.ext _ _ h2, by rw [e1.length, e2.length]; exact h, fun n hn => ?_⟩
  have gn : G n = none := by
    cases e : G n with
    | none => rfl
    | some o => rw [b.ext _ _ e] at hn; cases hn
  exact q n (vs ++ ws) G _ (Go.mut b hn) hn upd_same gn (e1.append e2)
theorem flat_rep {α : Type} (x : α) : ∀ n : Nat, (List.replicate n [x]).flatten = List.replicate n x
  | 0 => rfl
  | n + 1 => by
    rw [List.replicate_succ, List.flatten_cons, flat_rep x n, List.replicate_succ]
    rfl
theorem o_rep {x : D} {k : Int} (h0 : -(2 ^ 63) ≤ k) (h : k.toNat ≤ sizeLine) (h1 : k < 2 ^ 63) : OpF S rRep (.lst [x]) (.int k) (List.replicate k.toNat x) := fun G H b v w Q r1 r2 q => by
  obtain ⟨p, vs, rfl, e, r⟩ := r1.lst_inv
  cases r2
  cases r with
  | cons rx rn =>
    cases rn
    refine ⟨p, k, _, rfl, rfl, b.ext _ _ e, h0, h1, by rw [List.length_singleton, Nat.one_mul]; exact h, fun n hn => ?_⟩
    have gn : G n = none := by
      cases e : G n with
      | none => rfl
      | some o => rw [b.ext _ _ e] at hn; cases hn
    rw [flat_rep]
    exact q n _ G _ (Go.mut b hn) hn upd_same gn (RpL.rep rx _)
theorem sq_l {G H : Hp} {S : Addr → Prop} (b : Base S G H) {a : Addr} {vs : List V} (h : G a = some (.lst vs)) : SqL K H a vs := SqL.of (b.ext _ _ h)
theorem sq_t {G H : Hp} {S : Addr → Prop} (b : Base S G H) {a : Addr} {vs : List V} (h : G a = some (.tup vs)) : SqT K H a vs := SqT.of (b.ext _ _ h)
theorem atI_of {G : Hp} {vs : List V} {ds : List D} {i : Int} {d : D} (r : RpL G vs ds) (h : atI ds i = some d) : ∃ v, atI vs i = some v ∧ Rp G v d := by
  unfold atI at h ⊢
  rw [← r.length] at h
  cases e : ixN vs.length i with
  | none => rw [e] at h; cases h
  | some j =>
    rw [e] at h
    exact r.get h
theorem o_ixL {xs : List D} {i : Int} (h : atI xs i = some z) : OpV S (rIxL K) (.lst xs) (.int i) z := fun G H b v w Q r1 r2 q => by
  obtain ⟨p, vs, rfl, h1, e1⟩ := r1.lst_inv
  cases r2
  obtain ⟨y, hy, ry⟩ := atI_of e1 h
  exact ⟨p, vs, i, y, rfl, rfl, sq_l b h1, hy, q _ _ G H rfl b.refl ry⟩
theorem o_ixT {xs : List D} {i : Int} (h : atI xs i = some z) : OpV S (rIxT K) (.tup xs) (.int i) z := fun G H b v w Q r1 r2 q => by
  obtain ⟨p, vs, rfl, h1, e1⟩ := r1.tup_inv
  cases r2
  obtain ⟨y, hy, ry⟩ := atI_of e1 h
  exact ⟨p, vs, i, y, rfl, rfl, sq_t b h1, hy, q _ _ G H rfl b.refl ry⟩
theorem o_ixS {l : List Nat} {i : Int} {c : Nat} (h : atI l i = some c) (hl : l.length ≤ sizeLine) : OpV S rIxS (.str l) (.int i) (.str [c]) := fun G H b v w Q r1 r2 q => by
  cases r1; cases r2
  exact ⟨_, i, c, rfl, rfl, by rw [Sx_len]; exact hl, h, q _ _ G H rfl b.refl (.str [c])⟩
/-! ### tests, chains, and, or -/
theorem et_test {P : Bool → Prop} (h : EvD S te ρ (fun d => ∃ b, P b ∧ d = .bl b)) : EvT S (tTest te) ρ P := fun F G H σ c Q q => h F G H σ c _ fun v d G' H' ⟨b, pb, e⟩ g r => by
  subst e
  cases r
  exact ⟨b, rfl, q b G' H' pb g⟩
theorem eb_test {b : Bool} (h : EvV S te ρ (.bl b)) : EvB S (tTest te) ρ b := et_test (EvV.at h ⟨b, rfl, rfl⟩)
theorem eb_B {b : Bool} (h : EvV S te ρ (.bl b)) : EvB S (tB te) ρ b := fun F G H σ c Q q => h F G H σ c _ fun v d G' H' e g r => by
  subst e
  cases r
  exact ⟨b, rfl, q b G' H' rfl g⟩
theorem eb_not {b : Bool} (h : EvB S t ρ b) : EvB S (tNot t) ρ (!b) := fun F G H σ c Q q => h F G H σ c _ fun b' G' H' e g => by
  subst e
  exact q _ G' H' rfl g
theorem eb_and {a b : Bool} (h1 : EvB S t ρ a) (h2 : a = true → EvB S u ρ b) : EvB S (tAnd t u) ρ (a && b) := fun F G H σ c Q q => h1 F G H σ c _ fun a' G1 H1 e g => by
  subst e
  cases a' with
  | true =>
    rw [if_pos rfl]
    exact h2 rfl F G1 H1 σ (c.go g) Q fun b' G2 H2 e2 g2 => by
      subst e2
      exact q _ G2 H2 rfl (g.trans c.base g2)
  | false =>
    rw [if_neg Bool.false_ne_true]
    exact q _ G1 H1 rfl g
theorem eb_or {a b : Bool} (h1 : EvB S t ρ a) (h2 : a = false → EvB S u ρ b) : EvB S (tOr t u) ρ (a || b) := fun F G H σ c Q q => h1 F G H σ c _ fun a' G1 H1 e g => by
  subst e
  cases a' with
  | false =>
    rw [if_neg Bool.false_ne_true]
    exact h2 rfl F G1 H1 σ (c.go g) Q fun b' G2 H2 e2 g2 => by
      subst e2
      exact q _ G2 H2 rfl (g.trans c.base g2)
  | true =>
    rw [if_pos rfl]
    exact q _ G1 H1 rfl g
theorem ev_andV {a b : Bool} (h1 : EvV S ta ρ (.bl a)) (h2 : a = true → EvV S tb ρ (.bl b)) : EvV S (tAndV ta tb) ρ (.bl (a && b)) := fun F G H σ c Q q => h1 F G H σ c _ fun v d G1 H1 e g r => by
  subst e
  cases r
  refine ⟨a, rfl, ?_⟩
  cases a with
  | true =>
    rw [if_pos rfl]
    exact h2 rfl F G1 H1 σ (c.go g) Q fun v' d' G2 H2 e2 g2 r2 => q v' d' G2 H2 e2 (g.trans c.base g2) r2
  | false =>
    rw [if_neg Bool.false_ne_true]
    exact q _ _ G1 H1 rfl g (.bl _)
theorem ev_orV {a b : Bool} (h1 : EvV S ta ρ (.bl a)) (h2 : a = false → EvV S tb ρ (.bl b)) : EvV S (tOrV ta tb) ρ (.bl (a || b)) := fun F G H σ c Q q => h1 F G H σ c _ fun v d G1 H1 e g r => by
  subst e
  cases r
  refine ⟨a, rfl, ?_⟩
  cases a with
  | false =>
    rw [if_neg Bool.false_ne_true]
    exact h2 rfl F G1 H1 σ (c.go g) Q fun v' d' G2 H2 e2 g2 r2 => q v' d' G2 H2 e2 (g.trans c.base g2) r2
  | true =>
    rw [if_pos rfl]
    exact q _ _ G1 H1 rfl g (.bl _)
theorem ev_notV {a : Bool} (h1 : EvV S ta ρ (.bl a)) : EvV S (tNotV ta) ρ (.bl (!a)) := fun F G H σ c Q q => h1 F G H σ c _ fun v d G1 H1 e g r => by
  subst e
  cases r
  exact ⟨a, rfl, q _ _ G1 H1 rfl g (.bl _)⟩
theorem ev_chain {r r' : R2} {a b : Bool} (h1 : EvV S ta ρ x) (h2 : EvV S tb ρ y) (o1 : OpV S r x y (.bl a)) (h3 : a = true → EvV S tc ρ z) (o2 : a = true → OpV S r' y z (.bl b)) : EvV S (tChain r r' ta tb tc) ρ (.bl (a && b)) := fun F G H σ c Q q =>
  h1 F G H σ c _ fun v x' G1 H1 ex g1 r1 => h2 F G1 H1 σ (c.go g1) _ fun w y' G2 H2 ey g2 r2 => by
    subst ex ey
    have g12 := g1.trans c.base g2
    refine o1 G2 H2 (c.go g12).base v w _ (r1.mono g2.g) r2 fun k d G3 H3 ed g3 r3 => ?_
    subst ed
    cases r3
    refine ⟨a, rfl, ?_⟩
    have g13 := g12.trans c.base g3
    cases a with
    | true =>
      rw [if_pos rfl]
      refine h3 rfl F G3 H3 σ (c.go g13) _ fun k z' G4 H4 ez g4 r4 => ?_
      subst ez
      have g14 := g13.trans c.base g4
      exact o2 rfl G4 H4 (c.go g14).base w k Q ((r2.mono g3.g).mono g4.g) r4 fun k2 d2 G5 H5 e5 g5 r5 => q k2 d2 G5 H5 e5 (g14.trans c.base g5) r5
    | false =>
      rw [if_neg Bool.false_ne_true]
      exact q _ _ G3 H3 rfl g13 (.bl _)
theorem ed_if {b : Bool} (h : EvB S t ρ b) (h1 : b = true → EvD S ta ρ P) (h2 : b = false → EvD S tb ρ P) : EvD S (tIf t ta tb) ρ P := fun F G H σ c Q q => h F G H σ c _ fun b' G1 H1 e g => by
  subst e
  cases b' with
  | true =>
    rw [if_pos rfl]
    exact h1 rfl F G1 H1 σ (c.go g) Q fun v d G2 H2 pd g2 r => q v d G2 H2 pd (g.trans c.base g2) r
  | false =>
    rw [if_neg Bool.false_ne_true]
    exact h2 rfl F G1 H1 σ (c.go g) Q fun v d G2 H2 pd g2 r => q v d G2 H2 pd (g.trans c.base g2) r
/-! ### arguments, displays, calls -/
theorem ea_nil : EvAV S tNil ρ [] := fun F G H σ c Q q => q _ _ G H rfl c.base.refl .nil
theorem eda_cons {tr : TA} {Pa : D → Prop} {Pr : D → List D → Prop} (h : EvD S te ρ Pa) (hr : ∀ d, Pa d → EvA S tr ρ (Pr d)) : EvA S (tCons te tr) ρ (fun l => ∃ d ds, Pa d ∧ Pr d ds ∧ l = d :: ds) := fun F G H σ c Q q =>
  h F G H σ c _ fun v d G1 H1 pd g1 r1 => hr d pd F G1 H1 σ (c.go g1) _ fun vs ds G2 H2 pr g2 r2 => q _ _ G2 H2 ⟨d, ds, pd, pr, rfl⟩ (g1.trans c.base g2) (.cons (r1.mono g2.g) r2)
theorem EvA.imp {ta : TA} {P P' : List D → Prop} (h : EvA S ta ρ P) (f : ∀ d, P d → P' d) : EvA S ta ρ P' := fun F G H σ c Q q => h F G H σ c Q fun v d G' H' hp => q v d G' H' (f d hp)
theorem ea_cons {tr : TA} {ds : List D} (h : EvV S te ρ d) (hr : EvAV S tr ρ ds) : EvAV S (tCons te tr) ρ (d :: ds) := EvA.imp (eda_cons h fun _ _ => hr) fun l ⟨a, b, e1, e2, e3⟩ => by rw [e3, e1, e2]
theorem ed_cb {r : List V → Hp → VK → Prop} {ta : TA} {Pa : List D → Prop} (h : EvA S ta ρ Pa) (hr : ∀ xs, Pa xs → ClD S r xs P) : EvD S (tCB r ta) ρ P := fun F G H σ c Q q =>
  h F G H σ c _ fun vs ds G1 H1 pa g1 r1 => hr ds pa G1 H1 (c.go g1).base vs Q r1 fun u d G2 H2 pd g2 r2 => q u d G2 H2 pd (g1.trans c.base g2) r2
theorem ev_cb {r : List V → Hp → VK → Prop} {ta : TA} {xs : List D} (h : EvAV S ta ρ xs) (hr : ClD S r xs P) : EvD S (tCB r ta) ρ P := ed_cb h fun _ e => e ▸ hr
theorem ef_lst {ta : TA} {P : List D → Prop} (h : EvA S ta ρ P) (hl : ∀ ds, P ds → ds.length ≤ sizeLine) : EvF S (tLst ta) ρ P := fun F G H σ c Q q =>
  h F G H σ c _ fun vs ds G1 H1 pd g1 r1 => ⟨by rw [r1.length]; exact hl ds pd, fun p hp => by
    have b1 := (c.go g1).base
    have gn : G1 p = none := by
      cases e : G1 p with
      | none => rfl
      | some o => rw [b1.ext _ _ e] at hp; cases hp
    exact q p vs ds G1 _ pd (g1.trans c.base (Go.mut b1 hp)) (g1.fresh c.base hp) upd_same gn r1⟩
theorem ed_tup {ta : TA} {P : List D → Prop} (h : EvA S ta ρ P) (hl : ∀ ds, P ds → ds.length ≤ sizeLine) : EvD S (tTup ta) ρ (fun d => ∃ ds, P ds ∧ d = .tup ds) := fun F G H σ c Q q =>
  h F G H σ c _ fun vs ds G1 H1 pd g1 r1 => ⟨by rw [r1.length]; exact hl ds pd, fun p hp => by
    have b1 := (c.go g1).base
    have gn : G1 p = none := by
      cases e : G1 p with
      | none => rfl
      | some o => rw [b1.ext _ _ e] at hp; cases hp
    exact q _ (.tup ds) (upd G1 p (.tup vs)) _ ⟨ds, pd, rfl⟩ (g1.trans c.base (Go.new b1 hp)) (.tup upd_same (r1.mono (Ex.new gn)))⟩
theorem small_sz {n : Nat} (h : n ≤ 1000000) : n ≤ sizeLine := Nat.le_trans h (by decide)
theorem ef_lstV {ta : TA} {ds : List D} (h : EvAV S ta ρ ds) (hl : ds.length ≤ sizeLine) : EvF S (tLst ta) ρ (fun x => x = ds) := ef_lst h fun _ e => e ▸ hl
theorem ev_lst {ta : TA} {ds : List D} (h : EvAV S ta ρ ds) (hl : ds.length ≤ sizeLine) : EvV S (tLst ta) ρ (.lst ds) := EvF.v (ef_lstV h hl)
theorem ev_tup {ta : TA} {ds : List D} (h : EvAV S ta ρ ds) (hl : ds.length ≤ sizeLine) : EvV S (tTup ta) ρ (.tup ds) := EvD.imp (ed_tup h fun _ e => e ▸ hl) fun d ⟨l, e1, e2⟩ => by rw [e2, e1]
/-! ### slices -/
theorem eo_none : EvO S tNoPart ρ none := fun F G H σ c Q q => q G H c.base.refl
theorem eo_some {i : Int} (h : EvV S te ρ (.int i)) : EvO S (tPart te) ρ (some i) := fun F G H σ c Q q => h F G H σ c _ fun v d G' H' e g r => by
  subst e
  cases r
  exact ⟨i, rfl, q G' H' g⟩
def cut {α : Type} (l : List α) (lo hi : Option Int) : List α := (l.drop (HT.sIx l.length 0 lo)).take (HT.sIx l.length l.length hi - HT.sIx l.length 0 lo)
theorem ev_slS {tl th : TO} {l : List Nat} {lo hi : Option Int} (h : EvV S te ρ (.str l)) (h1 : EvO S tl ρ lo) (h2 : EvO S th ρ hi) (hl : l.length ≤ sizeLine) : EvV S (tSl rSlS te tl th) ρ (.str (cut l lo hi)) := fun F G H σ c Q q =>
  h F G H σ c _ fun v d G1 H1 e g1 r1 => h1 F G1 H1 σ (c.go g1) _ fun G2 H2 g2 => h2 F G2 H2 σ ((c.go g1).go g2) _ fun G3 H3 g3 => by
    subst e
    cases r1
    refine ⟨_, rfl, by rw [Sx_len]; exact hl, q _ _ G3 H3 rfl ((g1.trans c.base g2).trans c.base g3) ?_⟩
    have e : cutS (Sx l) lo hi = Sx (cut l lo hi) := by
      unfold cutS cut
      rw [Sx_len]
    rw [e]
    exact .str _
theorem ef_slL {tl th : TO} {xs : List D} {lo hi : Option Int} (h : EvV S te ρ (.lst xs)) (h1 : EvO S tl ρ lo) (h2 : EvO S th ρ hi) : EvF S (tSl (rSlL K) te tl th) ρ (fun l => l = cut xs lo hi) := fun F G H σ c Q q =>
  h F G H σ c _ fun v d G1 H1 e g1 r1 => h1 F G1 H1 σ (c.go g1) _ fun G2 H2 g2 => h2 F G2 H2 σ ((c.go g1).go g2) _ fun G3 H3 g3 => by
    subst e
    obtain ⟨p, vs, rfl, hp, rr⟩ := r1.lst_inv
    have g13 := (g1.trans c.base g2).trans c.base g3
    have b3 := (c.go g13).base
    have hp3 : G3 p = some (.lst vs) := g3.g _ _ (g2.g _ _ hp)
    refine ⟨p, vs, rfl, sq_l b3 hp3, fun n hn => ?_⟩
    have gn : G3 n = none := by
      cases e : G3 n with
      | none => rfl
      | some o => rw [b3.ext _ _ e] at hn; cases hn
    refine q n _ _ G3 _ rfl (g13.trans c.base (Go.mut b3 hn)) (g13.fresh c.base hn) upd_same gn ?_
    have rr3 := (rr.mono g2.g).mono g3.g
    unfold cutV cut
    rw [rr3.length]
    exact (rr3.drop _).take _
theorem ev_slL {tl th : TO} {xs : List D} {lo hi : Option Int} (h : EvV S te ρ (.lst xs)) (h1 : EvO S tl ρ lo) (h2 : EvO S th ρ hi) : EvV S (tSl (rSlL K) te tl th) ρ (.lst (cut xs lo hi)) := EvF.v (ef_slL h h1 h2)
end
end Dl
/-! Statements, loops, comprehensions, defs, told of data. -/
namespace Dl
open PySem L2 Evl
/-- from (G, H) to (G', H'), seen from outside the def: what is not its own stays -/
structure GoS (F S : Addr → Prop) (G H G' H' : Hp) : Prop where
  g : Ex G G'
  gh : Ex G' H'
  f : ∀ p, F p → ¬ S p → H' p = H p
  nw : ∀ p, F p → G' p = none
  s : ∀ p, S p → SrcOk H' p
section
variable {F S : Addr → Prop} {G H G' H' G2 H2 : Hp} {σ : St} {ρ : List Sl}
theorem Go.toS (c : Cfg F S G H σ ρ) (g : Go S G H G' H') : GoS F S G H G' H' := by
  refine ⟨g.g, g.gh, fun p hp hs => ?_, fun p hp => g.nw p (c.fr p hp).1 (c.fr p hp).2, g.s⟩
  cases e : H p with
  | none => exact absurd e (c.fr p hp).1
  | some o => exact g.h p o hs e
theorem GoS.refl (c : Cfg F S G H σ ρ) : GoS F S G H G H := c.base.refl.toS c
theorem GoS.trans (a : GoS F S G H G' H') (b : GoS F S G' H' G2 H2) : GoS F S G H G2 H2 := ⟨a.g.trans b.g, b.gh, fun p hp hs => (b.f p hp hs).trans (a.f p hp hs), b.nw, b.s⟩
end
/-- ts goes on in N, or hands back data of R -/
def Run (S : Addr → Prop) (ts : TS) (ρ : List Sl) (N : List Sl → Prop) (R : D → Prop) : Prop := ∀ (F : Addr → Prop) (G H : Hp) (σ : St) (E : Ends), Cfg F S G H σ ρ →
  (∀ ρ' G' H' σ', N ρ' → GoS F S G H G' H' → Cfg F S G' H' σ' ρ' → E.nx σ' H') → (∀ v d G' H', R d → GoS F S G H G' H' → Rp G' v d → E.rt v H') → ts E σ H
/-- a target given data -/
def TgD (g : TG) (S : Addr → Prop) (d : D) (ρ ρ' : List Sl) : Prop := ∀ (F : Addr → Prop) (G H : Hp) (σ : St), Cfg F S G H σ ρ → ∀ (v : V) (Q : St → Hp → Prop), Rp G v d → (∀ σ', Cfg F S G H σ' ρ' → Q σ' H) → g v σ H Q
/-- fewer slots are told -/
inductive Le : List Sl → List Sl → Prop
  | nil : Le [] []
  | same {s : Sl} {a b : List Sl} : Le a b → Le (s :: a) (s :: b)
  | no {s : Sl} {a b : List Sl} : Le a b → Le (s :: a) (.no :: b)
theorem Le.refl : ∀ ρ : List Sl, Le ρ ρ
  | [] => .nil
  | _ :: r => .same (Le.refl r)
theorem Le.len : ∀ {a b : List Sl}, Le a b → a.length = b.length
  | _, _, .nil => rfl
  | _, _, .same h => congrArg Nat.succ h.len
  | _, _, .no h => congrArg Nat.succ h.len
theorem Le.get : ∀ {a b : List Sl} {i : Nat} {s : Sl}, Le a b → b[i]? = some s → s = .no ∨ a[i]? = some s
  | _, _, _, _, .nil, e => by simp at e
  | _, _, 0, _, .same h, e => .inr e
  | _, _, i + 1, _, .same h, e => h.get (i := i) e
  | _, _, 0, _, .no h, e => by
    rw [List.getElem?_cons_zero] at e
    cases e
    exact .inl rfl
  | _, _, i + 1, _, .no h, e => h.get (i := i) e
theorem Le.trans : ∀ {a b c : List Sl}, Le a b → Le b c → Le a c
  | _, _, _, .nil, .nil => .nil
  | _, _, _, .same h, .same k => .same (h.trans k)
  | _, _, _, .same h, .no k => .no (h.trans k)
  | _, _, _, .no h, .same k => .no (h.trans k)
  | _, _, _, .no h, .no k => .no (h.trans k)
section
variable {F S : Addr → Prop} {G H G' H' : Hp} {σ : St} {ρ ρ' : List Sl}
theorem Cfg.weak (c : Cfg F S G H σ ρ) (l : Le ρ ρ') : Cfg F S G H σ ρ' := by
  refine ⟨c.ext, c.fr, c.src, c.len.trans l.len, fun i o s h1 h2 => ?_, fun i j p a b h1 h2 h3 h4 => ?_⟩
  · rcases l.get h2 with e | e
    · rw [e]
      trivial
    · exact c.at_ i o s h1 e
  · rcases l.get h1 with e | e
    · cases e
    · rcases l.get h2 with e' | e'
      · cases e'
      · exact c.dis i j p a b e e' h3 h4
theorem Cfg.set (c : Cfg F S G H σ ρ) (i : Nat) {v : V} {d : D} (r : Rp G v d) : Cfg F S G H (σ.set i (some v)) (ρ.set i (.dat d)) := by
  refine ⟨c.ext, c.fr, c.src, by rw [List.length_set, List.length_set]; exact c.len, fun j o s h1 h2 => ?_, fun j k p a b h1 h2 h3 h4 => ?_⟩
  · by_cases e : i = j
    · subst e
      have hi : i < ρ.length := by
        have := (List.getElem?_eq_some_iff.mp h2).1
        simpa using this
      rw [List.getElem?_set_self hi] at h2
      rw [List.getElem?_set_self (by rw [c.len]; exact hi)] at h1
      cases h1; cases h2
      exact ⟨v, rfl, r⟩
    · rw [List.getElem?_set_ne e] at h1 h2
      exact c.at_ j o s h1 h2
  · have ne : ∀ {m : Nat} {l : List D}, (ρ.set i (.dat d))[m]? = some (.own l) → i ≠ m ∧ ρ[m]? = some (.own l) := fun {m l} h => by
      by_cases e : i = m
      · subst e
        have hi : i < ρ.length := by
          have := (List.getElem?_eq_some_iff.mp h).1
          simpa using this
        rw [List.getElem?_set_self hi] at h
        cases h
      · rw [List.getElem?_set_ne e] at h
        exact ⟨e, h⟩
    obtain ⟨n1, h1⟩ := ne h1
    obtain ⟨n2, h2⟩ := ne h2
    rw [List.getElem?_set_ne n1] at h3
    rw [List.getElem?_set_ne n2] at h4
    exact c.dis j k p a b h1 h2 h3 h4
/-- a new list in a slot -/
theorem Cfg.put (c : Cfg F S G H σ ρ) (g : Go S G H G' H') (i : Nat) {p : Addr} {vs : List V} {ds : List D} (hn : H p = none) (hp : H' p = some (.lst vs)) (hg : G' p = none) (r : RpL G' vs ds) : Cfg F S G' H' (σ.set i (some (.ref p))) (ρ.set i (.own ds)) := by
  have c' := c.go g
  refine ⟨c'.ext, c'.fr, c'.src, by rw [List.length_set, List.length_set]; exact c.len, fun j o s h1 h2 => ?_, fun j k q a b h1 h2 h3 h4 => ?_⟩
  · by_cases e : i = j
    · subst e
      have hi : i < ρ.length := by
        have := (List.getElem?_eq_some_iff.mp h2).1
        simpa using this
      rw [List.getElem?_set_self hi] at h2
      rw [List.getElem?_set_self (by rw [c.len]; exact hi)] at h1
      cases h1; cases h2
      exact ⟨p, vs, rfl, hp, hg, fun z => (c.fr p z).1 hn, r⟩
    · rw [List.getElem?_set_ne e] at h1 h2
      exact c'.at_ j o s h1 h2
  · have old : ∀ {m : Nat} {l : List D}, i ≠ m → (ρ.set i (.own ds))[m]? = some (.own l) → (σ.set i (some (.ref p)))[m]? = some (some (.ref q)) → ρ[m]? = some (.own l) ∧ σ[m]? = some (some (.ref q)) ∧ q ≠ p := fun {m l} e h1 h3 => by
      rw [List.getElem?_set_ne e] at h1 h3
      refine ⟨h1, h3, fun z => ?_⟩
      obtain ⟨q', ws, e1, e2, _⟩ := c.at_ m _ _ h3 h1
      cases e1
      rw [z, hn] at e2
      cases e2
    have here : ∀ {m : Nat} {l : List D}, i = m → (ρ.set i (.own ds))[m]? = some (.own l) → (σ.set i (some (.ref p)))[m]? = some (some (.ref q)) → q = p := fun {m l} e h1 h3 => by
      subst e
      have hi : i < ρ.length := by
        have := (List.getElem?_eq_some_iff.mp h1).1
        simpa using this
      rw [List.getElem?_set_self (by rw [c.len]; exact hi)] at h3
      cases h3
      rfl
    by_cases e1 : i = j
    · by_cases e2 : i = k
      · exact e1.symm.trans e2
      · exact absurd (here e1 h1 h3) (old e2 h2 h4).2.2
    · by_cases e2 : i = k
      · exact absurd (here e2 h2 h4) (old e1 h1 h3).2.2
      · obtain ⟨a1, a2, _⟩ := old e1 h1 h3
        obtain ⟨b1, b2, _⟩ := old e2 h2 h4
        exact c.dis j k q a b a1 b1 a2 b2
/-- the own list of a slot is changed -/
theorem Cfg.change (c : Cfg F S G H σ ρ) {i : Nat} {p : Addr} {ds es : List D} {ws : List V} (hi : ρ[i]? = some (.own ds)) (hs : σ[i]? = some (some (.ref p))) (r : RpL G ws es) : Cfg F S G (upd H p (.lst ws)) σ (ρ.set i (.own es)) ∧ GoS F S G H G (upd H p (.lst ws)) := by
  obtain ⟨q, vs, e, h1, h2, h3, h4⟩ := c.at_ i _ _ hs hi
  cases e
  have nf : ∀ q, F q → q ≠ p := fun q hq z => h3 (z ▸ hq)
  have ext : Ex G (upd H p (.lst ws)) := fun a o e => by
    rw [upd_ne (ne_of_none e h2)]
    exact c.ext a o e
  have src : ∀ q, S q → SrcOk (upd H p (.lst ws)) q := fun q hq => by
    obtain ⟨x, y, z, e⟩ := (c.src q hq).2
    exact ⟨x, y, z, by rw [upd_ne (nf q (c.src q hq).1)]; exact e⟩
  have lt : i < ρ.length := (List.getElem?_eq_some_iff.mp hi).1
  refine ⟨⟨ext, fun q hq => ⟨by rw [upd_ne (nf q hq)]; exact (c.fr q hq).1, (c.fr q hq).2⟩, fun q hq => ⟨(c.src q hq).1, src q hq⟩, by rw [List.length_set]; exact c.len, fun j o s k1 k2 => ?_, fun j k q a b k1 k2 k3 k4 => ?_⟩, ⟨Ex.refl G, ext, fun q hq _ => upd_ne (nf q hq), fun q hq => (c.fr q hq).2, src⟩⟩
  · by_cases e : i = j
    · subst e
      rw [List.getElem?_set_self lt] at k2
      rw [hs] at k1
      cases k1; cases k2
      exact ⟨p, ws, rfl, upd_same, h2, h3, r⟩
    · rw [List.getElem?_set_ne e] at k2
      have z := c.at_ j o s k1 k2
      cases s with
      | no => trivial
      | dat d => exact z
      | own l =>
        obtain ⟨q, us, e1, e2, e3⟩ := z
        subst e1
        have hq : q ≠ p := fun z => e (c.dis i j p ds l hi k2 hs (by rw [← z]; exact k1))
        exact ⟨q, us, rfl, by rw [upd_ne hq]; exact e2, e3⟩
      | src => exact z
      | raw v P => exact z
  · have old : ∀ {m : Nat} {l : List D}, (ρ.set i (.own es))[m]? = some (.own l) → ∃ l', ρ[m]? = some (.own l') := fun {m l} h => by
      by_cases e : i = m
      · subst e
        exact ⟨ds, hi⟩
      · rw [List.getElem?_set_ne e] at h
        exact ⟨l, h⟩
    obtain ⟨a', z1⟩ := old k1
    obtain ⟨b', z2⟩ := old k2
    exact c.dis j k q a' b' z1 z2 k3 k4
/-- the own list of a slot is taken to stand still -/
theorem Cfg.freeze (c : Cfg F S G H σ ρ) {i : Nat} {p : Addr} {ds : List D} {vs : List V} (hi : ρ[i]? = some (.own ds)) (hs : σ[i]? = some (some (.ref p))) (h1 : H p = some (.lst vs)) (r : RpL G vs ds) : Cfg F S (upd G p (.lst vs)) H σ (ρ.set i (.dat (.lst ds))) ∧ GoS F S G H (upd G p (.lst vs)) H := by
  obtain ⟨q, vs', e, h1', h2, h3, _⟩ := c.at_ i _ _ hs hi
  cases e
  have nf : ∀ q, F q → q ≠ p := fun q hq z => h3 (z ▸ hq)
  have eg : Ex G (upd G p (.lst vs)) := Ex.new h2
  have egh : Ex (upd G p (.lst vs)) H := fun a o e => by
    by_cases ha : a = p
    · rw [ha, upd_same] at e
      cases e
      rw [ha]
      exact h1
    · rw [upd_ne ha] at e
      exact c.ext a o e
  have lt : i < ρ.length := (List.getElem?_eq_some_iff.mp hi).1
  refine ⟨⟨egh, fun q hq => ⟨(c.fr q hq).1, by rw [upd_ne (nf q hq)]; exact (c.fr q hq).2⟩, c.src, by rw [List.length_set]; exact c.len, fun j o s k1 k2 => ?_, fun j k q a b k1 k2 k3 k4 => ?_⟩, ⟨eg, egh, fun _ _ _ => rfl, fun q hq => by rw [upd_ne (nf q hq)]; exact (c.fr q hq).2, fun q hq => (c.src q hq).2⟩⟩
  · by_cases e : i = j
    · subst e
      rw [List.getElem?_set_self lt] at k2
      rw [hs] at k1
      cases k1; cases k2
      exact ⟨_, rfl, .lst upd_same (r.mono eg)⟩
    · rw [List.getElem?_set_ne e] at k2
      have z := c.at_ j o s k1 k2
      cases s with
      | no => trivial
      | dat d =>
        obtain ⟨v, e1, e2⟩ := z
        exact ⟨v, e1, e2.mono eg⟩
      | own l =>
        obtain ⟨q, us, e1, e2, e3, e4, e5⟩ := z
        subst e1
        have hq : q ≠ p := fun z => e (c.dis i j p ds l hi k2 hs (by rw [← z]; exact k1))
        exact ⟨q, us, rfl, e2, by rw [upd_ne hq]; exact e3, e4, e5.mono eg⟩
      | src => exact z
      | raw v P => exact ⟨z.1, fun G2 e => z.2 G2 (eg.trans e)⟩
  · have old : ∀ {m : Nat} {l : List D}, (ρ.set i (.dat (.lst ds)))[m]? = some (.own l) → ρ[m]? = some (.own l) := fun {m l} h => by
      by_cases e : i = m
      · subst e
        rw [List.getElem?_set_self lt] at h
        cases h
      · rw [List.getElem?_set_ne e] at h
        exact h
    exact c.dis j k q a b (old k1) (old k2) k3 k4
end
/-! ### statements -/
section
variable {S : Addr → Prop} {ρ ρ' : List Sl} {te : TE} {t : TT} {t1 t2 a b : TS} {N N1 : List Sl → Prop} {R : D → Prop} {P : D → Prop} {K : PySem.W.Frag} {i : Nat}
theorem run_weak (l : Le ρ ρ') (h : Run S t1 ρ' N R) : Run S t1 ρ N R := fun F G H σ E c => h F G H σ E (c.weak l)
theorem run_next (h : N ρ) : Run S tNext ρ N R := fun F G H σ E c kn _ => kn ρ G H σ h (.refl c) c
theorem run_seq (h1 : Run S t1 ρ N1 R) (h2 : ∀ ρ', N1 ρ' → Run S t2 ρ' N R) : Run S (tSeq t1 t2) ρ N R := fun F G H σ E c kn kr =>
  h1 F G H σ { E with nx := t2 E } c (fun ρ' G' H' σ' n1 g c' => h2 ρ' n1 F G' H' σ' E c' (fun ρ2 G2 H2 σ2 n2 g2 c2 => kn ρ2 G2 H2 σ2 n2 (g.trans g2) c2) fun v d G2 H2 r g2 rr => kr v d G2 H2 r (g.trans g2) rr) kr
theorem run_skip (h : Run S t2 ρ N R) : Run S (tSeq tNext t2) ρ N R := h
theorem run_flat {x y : TS} (h : Run S (tSeq x (tSeq y t2)) ρ N R) : Run S (tSeq (tSeq x y) t2) ρ N R := h
theorem run_setD (h : EvD S te ρ P) (h2 : ∀ d, P d → Run S t2 (ρ.set i (.dat d)) N R) : Run S (tSeq (tAsg te (gName i)) t2) ρ N R := fun F G H σ E c kn kr =>
  h F G H σ c _ fun v d G' H' pd g r => h2 d pd F G' H' _ E ((c.go g).set i r) (fun ρ2 G2 H2 σ2 n2 g2 c2 => kn ρ2 G2 H2 σ2 n2 ((g.toS c).trans g2) c2) fun v d G2 H2 rd g2 rr => kr v d G2 H2 rd ((g.toS c).trans g2) rr
theorem run_set {d : D} (h : EvV S te ρ d) (h2 : Run S t2 (ρ.set i (.dat d)) N R) : Run S (tSeq (tAsg te (gName i)) t2) ρ N R := run_setD h fun _ e => e ▸ h2
theorem run_setF {P : List D → Prop} (h : EvF S te ρ P) (h2 : ∀ ds, P ds → Run S t2 (ρ.set i (.own ds)) N R) : Run S (tSeq (tAsg te (gName i)) t2) ρ N R := fun F G H σ E c kn kr =>
  h F G H σ c _ fun p vs ds G' H' pd g hn hp hg r => h2 ds pd F G' H' _ E (c.put g i hn hp hg r) (fun ρ2 G2 H2 σ2 n2 g2 c2 => kn ρ2 G2 H2 σ2 n2 ((g.toS c).trans g2) c2) fun v d G2 H2 rd g2 rr => kr v d G2 H2 rd ((g.toS c).trans g2) rr
theorem run_asg {g : TG} (h : EvD S te ρ P) (h2 : ∀ d, P d → ∃ ρ', TgD g S d ρ ρ' ∧ Run S t2 ρ' N R) : Run S (tSeq (tAsg te g) t2) ρ N R := fun F G H σ E c kn kr =>
  h F G H σ c _ fun v d G' H' pd go r => by
    obtain ⟨ρ', tg, h2⟩ := h2 d pd
    exact tg F G' H' σ (c.go go) v _ r fun σ' c' => h2 F G' H' σ' E c' (fun ρ2 G2 H2 σ2 n2 g2 c2 => kn ρ2 G2 H2 σ2 n2 ((go.toS c).trans g2) c2) fun v d G2 H2 rd g2 rr => kr v d G2 H2 rd ((go.toS c).trans g2) rr
theorem run_ret (h : EvD S te ρ P) (h2 : ∀ d, P d → R d) : Run S (tSeq (tRet te) t2) ρ N R := fun F G H σ E c kn kr =>
  h F G H σ c _ fun v d G' H' pd g r => kr v d G' H' (h2 d pd) (g.toS c) r
theorem run_retV {d : D} (h : EvV S te ρ d) (h2 : R d) : Run S (tSeq (tRet te) t2) ρ N R := run_ret h fun _ e => e ▸ h2
theorem run_ifT {P : Bool → Prop} (h : EvT S t ρ P) (h1 : P true → Run S (tSeq a t2) ρ N R) (h2 : P false → Run S (tSeq b t2) ρ N R) : Run S (tSeq (tIfS t a b) t2) ρ N R := fun F G H σ E c kn kr =>
  h F G H σ c _ fun bb G' H' pb g => by
    have k1 := fun ρ2 G2 H2 σ2 n2 (g2 : GoS F S G' H' G2 H2) c2 => kn ρ2 G2 H2 σ2 n2 ((g.toS c).trans g2) c2
    have k2 := fun v d G2 H2 rd (g2 : GoS F S G' H' G2 H2) rr => kr v d G2 H2 rd ((g.toS c).trans g2) rr
    cases bb with
    | true =>
      rw [if_pos rfl]
      exact h1 pb F G' H' σ E (c.go g) k1 k2
    | false =>
      rw [if_neg Bool.false_ne_true]
      exact h2 pb F G' H' σ E (c.go g) k1 k2
theorem run_if {bb : Bool} (h : EvB S t ρ bb) (h1 : bb = true → Run S (tSeq a t2) ρ N R) (h2 : bb = false → Run S (tSeq b t2) ρ N R) : Run S (tSeq (tIfS t a b) t2) ρ N R := run_ifT h (fun e => h1 e.symm) fun e => h2 e.symm
/-- both branches meet -/
theorem run_ifJ {bb : Bool} (h : EvB S t ρ bb) (h1 : bb = true → Run S a ρ N1 R) (h2 : bb = false → Run S b ρ N1 R) (h3 : ∀ ρ', N1 ρ' → Run S t2 ρ' N R) : Run S (tSeq (tIfS t a b) t2) ρ N R :=
  run_if h (fun e => run_seq (h1 e) h3) fun e => run_seq (h2 e) h3
theorem run_never (h : False) : Run S t1 ρ N R := h.elim
theorem run_imp {N' : List Sl → Prop} {R' : D → Prop} (h : Run S t1 ρ N R) (n : ∀ r, N r → N' r) (r : ∀ d, R d → R' d) : Run S t1 ρ N' R' := fun F G H σ E c kn kr =>
  h F G H σ E c (fun ρ' G' H' σ' n1 => kn ρ' G' H' σ' (n ρ' n1)) fun v d G' H' rd => kr v d G' H' (r d rd)
/-- a slot's own list is from here on only read -/
theorem run_freeze (i : Nat) {ds : List D} (hi : ρ[i]? = some (.own ds)) (h : Run S t1 (ρ.set i (.dat (.lst ds))) N R) : Run S t1 ρ N R := fun F G H σ E c kn kr => by
  obtain ⟨p, vs, e, h1, h2, h3, h4⟩ := c.own hi
  obtain ⟨c', g⟩ := c.freeze hi e h1 h4
  exact h F _ H σ E c' (fun ρ2 G2 H2 σ2 n2 g2 c2 => kn ρ2 G2 H2 σ2 n2 (g.trans g2) c2) fun v d G2 H2 rd g2 rr => kr v d G2 H2 rd (g.trans g2) rr
/-- name op= e -/
theorem run_aug {d : D} {ti : TIp} {x y : D} (hi : ρ[i]? = some (.dat x)) (h : EvV S te ρ y) (ho : OpV S ti x y d) (h2 : Run S t2 (ρ.set i (.dat d)) N R) : Run S (tSeq (tAug i te ti) t2) ρ N R := fun F G H σ E c kn kr => by
  obtain ⟨v, e, r⟩ := c.dat hi
  refine ⟨v, e, h F G H σ c _ fun w y' G1 H1 ey g1 r1 => ?_⟩
  subst ey
  refine ho G1 H1 (c.go g1).base v w _ (r.mono g1.g) r1 fun u d' G2 H2 ed g2 r2 => ?_
  subst ed
  have g := g1.trans c.base g2
  exact h2 F G2 H2 _ E ((c.go g).set i r2) (fun ρ2 G2 H2 σ2 n2 g2 c2 => kn ρ2 G2 H2 σ2 n2 ((g.toS c).trans g2) c2) fun v d G2 H2 rd g2 rr => kr v d G2 H2 rd ((g.toS c).trans g2) rr
theorem o_ipAdd {S : Addr → Prop} {i j : Int} : OpV S (ipI fun i j => i + j) (.int i) (.int j) (.int (i + j)) := fun G H b v w Q r1 r2 q => by
  cases r1; cases r2
  exact ⟨i, j, rfl, rfl, q _ _ G H rfl b.refl (.int _)⟩
theorem o_ipSub {S : Addr → Prop} {i j : Int} : OpV S (ipI fun i j => i - j) (.int i) (.int j) (.int (i - j)) := fun G H b v w Q r1 r2 q => by
  cases r1; cases r2
  exact ⟨i, j, rfl, rfl, q _ _ G H rfl b.refl (.int _)⟩
/-- xs.append(e), xs a slot's own list -/
theorem run_append {ds : List D} (hi : ρ[i]? = some (.own ds)) (h : EvD S te ρ P) (hl : ds.length < sizeLine) (h2 : ∀ d, P d → Run S t2 (ρ.set i (.own (ds ++ [d]))) N R) : Run S (tSeq (tDrop (tBM K "list" rAppend (tVar i) (tCons te tNil))) t2) ρ N R := fun F G H σ E c kn kr => by
  obtain ⟨p, vs, e, h1, _, _, h4⟩ := c.own hi
  refine ⟨.ref p, e, .inl ⟨rfl, vs, SqL.of h1⟩, h F G H σ c _ fun w d G1 H1 pd g r => ?_⟩
  have c1 := c.go g
  obtain ⟨p', vs', e', h1', h2', h3', h4'⟩ := c1.own hi
  rw [e] at e'
  cases e'
  obtain ⟨c2, g2⟩ := c1.change hi e (RpL.append h4' (RpL.one r))
  refine ⟨p, vs', w, rfl, rfl, h1', by rw [h4'.length]; exact hl, ?_⟩
  have gg := (g.toS c).trans g2
  exact h2 d pd F G1 _ σ E c2 (fun ρ2 G2 H2 σ2 n2 g2 c2 => kn ρ2 G2 H2 σ2 n2 (gg.trans g2) c2) fun v d G2 H2 rd g2 rr => kr v d G2 H2 rd (gg.trans g2) rr
theorem run_appendV {ds : List D} {d : D} (hi : ρ[i]? = some (.own ds)) (h : EvV S te ρ d) (hl : ds.length < sizeLine) (h2 : Run S t2 (ρ.set i (.own (ds ++ [d]))) N R) : Run S (tSeq (tDrop (tBM K "list" rAppend (tVar i) (tCons te tNil))) t2) ρ N R := run_append hi h hl fun _ e => e ▸ h2
/-- xs.extend(ys) -/
theorem run_extend {ds es : List D} (hi : ρ[i]? = some (.own ds)) (h : EvV S te ρ (.lst es)) (hl : ds.length + es.length ≤ sizeLine) (h2 : Run S t2 (ρ.set i (.own (ds ++ es))) N R) : Run S (tSeq (tDrop (tBM K "list" rExtend (tVar i) (tCons te tNil))) t2) ρ N R := fun F G H σ E c kn kr => by
  obtain ⟨p, vs, e, h1, _, _, h4⟩ := c.own hi
  refine ⟨.ref p, e, .inl ⟨rfl, vs, SqL.of h1⟩, h F G H σ c _ fun w d G1 H1 pd g r => ?_⟩
  subst pd
  have c1 := c.go g
  obtain ⟨p', vs', e', h1', h2', h3', h4'⟩ := c1.own hi
  rw [e] at e'
  cases e'
  obtain ⟨q, ws, rfl, hq, rq⟩ := r.lst_inv
  obtain ⟨c2, g2⟩ := c1.change hi e (RpL.append h4' rq)
  refine ⟨p, q, vs', ws, rfl, rfl, h1', c1.ext _ _ hq, by rw [h4'.length, rq.length]; exact hl, ?_⟩
  have gg := (g.toS c).trans g2
  exact h2 F G1 _ σ E c2 (fun ρ2 G2 H2 σ2 n2 g2 c2 => kn ρ2 G2 H2 σ2 n2 (gg.trans g2) c2) fun v d G2 H2 rd g2 rr => kr v d G2 H2 rd (gg.trans g2) rr
/-! ### targets -/
theorem tg_name {i : Nat} {d : D} : TgD (gName i) S d ρ (ρ.set i (.dat d)) := fun F G H σ c v Q r q => q _ (c.set i r)
def TgsD (u : TGs) (S : Addr → Prop) (ds : List D) (ρ ρ' : List Sl) : Prop := ∀ (F : Addr → Prop) (G H : Hp) (σ : St), Cfg F S G H σ ρ → ∀ (vs : List V) (Q : St → Hp → Prop), RpL G vs ds → (∀ σ', Cfg F S G H σ' ρ' → Q σ' H) → u vs σ H Q
theorem tgs_nil : TgsD gNil S [] ρ ρ := fun F G H σ c vs Q r q => by
  cases r
  exact ⟨rfl, q σ c⟩
theorem tgs_cons {g : TG} {u : TGs} {d : D} {ds : List D} {ρ1 : List Sl} (h : TgD g S d ρ ρ1) (h2 : TgsD u S ds ρ1 ρ') : TgsD (gCons g u) S (d :: ds) ρ ρ' := fun F G H σ c vs Q r q => by
  cases r with
  | cons r rr => exact ⟨_, _, rfl, h F G H σ c _ _ r fun σ1 c1 => h2 F G H σ1 c1 _ Q rr q⟩
theorem tg_tup {u : TGs} {ds : List D} {n : Nat} (h : TgsD u S ds ρ ρ') (hn : ds.length = n) : TgD (gTup K n u) S (.tup ds) ρ ρ' := fun F G H σ c v Q r q => by
  obtain ⟨p, vs, rfl, hp, rr⟩ := r.tup_inv
  exact ⟨p, vs, rfl, SqT.of (c.ext _ _ hp), rr.length.trans hn, h F G H σ c vs Q rr q⟩
theorem tg_lst {u : TGs} {ds : List D} {n : Nat} (h : TgsD u S ds ρ ρ') (hn : ds.length = n) : TgD (gUnl K n u) S (.lst ds) ρ ρ' := fun F G H σ c v Q r q => by
  obtain ⟨p, vs, rfl, hp, rr⟩ := r.lst_inv
  exact ⟨p, vs, rfl, SqL.of (c.ext _ _ hp), rr.length.trans hn, h F G H σ c vs Q rr q⟩
/-! ### what is walked -/
/-- from (G, H) on, J gives the data ys, one by one -/
def Yl (S : Addr → Prop) (J : It) (G : Hp) (ys : List D) : Prop := ∀ G1 H1, Ex G G1 → Base S G1 H1 → ∀ n : Nat,
  (∀ d, ys[n]? = some d → J.go n H1 ∧ ∀ x H2, J.yld n H1 x H2 → ∃ G2, Go S G1 H1 G2 H2 ∧ Rp G2 x d) ∧ (ys[n]? = none → J.stop n H1)
def EvI (S : Addr → Prop) (wi : TI) (ρ : List Sl) (ys : List D) : Prop := ∀ (F : Addr → Prop) (G H : Hp) (σ : St), Cfg F S G H σ ρ → ∀ R : It → Hp → Prop, (∀ J G' H', Go S G H G' H' → Yl S J G' ys → R J H') → wi σ H R
theorem ei_list {ys : List D} (h : EvV S te ρ (.lst ys)) : EvI S (iList K te) ρ ys := fun F G H σ c R q => h F G H σ c _ fun v d G1 H1 e g r => by
  subst e
  obtain ⟨p, vs, rfl, hp, rr⟩ := r.lst_inv
  refine ⟨p, rfl, ⟨vs, SqL.of (g.gh _ _ hp)⟩, q _ G1 H1 g fun G2 H2 e2 b2 n => ?_⟩
  have h2 : SqL K H2 p vs := SqL.of (b2.ext _ _ (e2 _ _ hp))
  refine ⟨fun d hd => ?_, fun hd => ⟨vs, h2, by rw [rr.length]; exact List.getElem?_eq_none_iff.mp hd⟩⟩
  obtain ⟨x, hx, rx⟩ := rr.get hd
  refine ⟨⟨vs, x, h2, hx⟩, fun x' H3 ⟨e3, f⟩ => ?_⟩
  subst e3
  have ex := Option.some.inj ((f vs h2).symm.trans hx)
  subst ex
  exact ⟨G2, b2.refl, rx.mono e2⟩
theorem ei_str {l : List Nat} (h : EvV S te ρ (.str l)) : EvI S (iStr te) ρ (l.map fun c => .str [c]) := fun F G H σ c R q => h F G H σ c _ fun v d G1 H1 e g r => by
  subst e
  cases r
  refine ⟨_, rfl, q _ G1 H1 g fun G2 H2 e2 b2 n => ?_⟩
  refine ⟨fun d hd => ?_, fun hd => ?_⟩
  · rw [List.getElem?_map] at hd
    cases hc : l[n]? with
    | none => rw [hc] at hd; cases hd
    | some ch =>
      rw [hc] at hd
      cases hd
      have hlt := (List.getElem?_eq_some_iff.mp hc).1
      refine ⟨?_, fun x H3 ⟨e3, ch', h3, h4⟩ => ?_⟩
      · show n < l.toArray.size
        simpa using hlt
      · subst e3 h4
        have h5 : l[n]? = some ch' := by simpa using h3
        rw [hc] at h5
        cases h5
        exact ⟨G2, b2.refl, .str [ch]⟩
  · rw [List.getElem?_map] at hd
    show l.toArray.size ≤ n
    cases hc : l[n]? with
    | none => simpa using List.getElem?_eq_none_iff.mp hc
    | some ch => rw [hc] at hd; cases hd
/-- lo, lo + c, .. -/
def rg (lo c : Int) (n : Nat) : List D := (List.range n).map fun (k : Nat) => D.int (lo + (k : Int) * c)
theorem yl_rg {lo : Int} {n : Nat} {G : Hp} : Yl S (Itr lo n) G (rg lo 1 n) := fun G1 H1 _ b k => by
  unfold rg
  rw [List.getElem?_map]
  by_cases hk : k < n
  · rw [List.getElem?_range hk]
    refine ⟨fun d hd => ?_, fun hd => by cases hd⟩
    cases hd
    refine ⟨hk, fun x H2 ⟨e1, e2⟩ => ?_⟩
    subst e1 e2
    exact ⟨G1, b.refl, by show Rp G1 (V.int (lo + (k : Int))) (D.int (lo + (k : Int) * 1)); rw [Int.mul_one]; exact .int _⟩
  · rw [List.getElem?_eq_none (by rw [List.length_range]; omega)]
    exact ⟨fun d hd => (by cases hd), fun _ => by show n ≤ k; omega⟩
theorem yl_rgc {lo c : Int} {n : Nat} {G : Hp} : Yl S (Itc lo c n) G (rg lo c n) := fun G1 H1 _ b k => by
  unfold rg
  rw [List.getElem?_map]
  by_cases hk : k < n
  · rw [List.getElem?_range hk]
    refine ⟨fun d hd => ?_, fun hd => by cases hd⟩
    cases hd
    refine ⟨hk, fun x H2 ⟨e1, e2⟩ => ?_⟩
    subst e1 e2
    exact ⟨G1, b.refl, .int _⟩
  · rw [List.getElem?_eq_none (by rw [List.length_range]; omega)]
    exact ⟨fun d hd => (by cases hd), fun _ => by show n ≤ k; omega⟩
theorem ei_rng1 {j : Int} (h : EvV S te ρ (.int j)) (h0 : -(2 ^ 62) ≤ j) (h1 : j < 2 ^ 62) : EvI S (iRng1 (tCons te tNil)) ρ (rg 0 1 j.toNat) := fun F G H σ c R q =>
  ea_cons h ea_nil F G H σ c _ fun vs ds G1 H1 e g r => by
    subst e
    cases r with
    | cons r rr =>
      cases r; cases rr
      exact ⟨j, rfl, h0, h1, q _ G1 H1 g yl_rg⟩
theorem ei_rng2 {ta tb : TE} {i j : Int} (ha : EvV S ta ρ (.int i)) (hb : EvV S tb ρ (.int j)) (h0 : -(2 ^ 62) ≤ i ∧ i < 2 ^ 62 ∧ -(2 ^ 62) ≤ j ∧ j < 2 ^ 62) : EvI S (iRng2 (tCons ta (tCons tb tNil))) ρ (rg i 1 (j - i).toNat) := fun F G H σ c R q =>
  ea_cons ha (ea_cons hb ea_nil) F G H σ c _ fun vs ds G1 H1 e g r => by
    subst e
    cases r with
    | cons r rr =>
      cases rr with
      | cons r' rr =>
        cases r; cases r'; cases rr
        exact ⟨i, j, rfl, h0, q _ G1 H1 g yl_rg⟩
theorem ei_rng3 {ta tb tc : TE} {i j k : Int} {n : Nat} (ha : EvV S ta ρ (.int i)) (hb : EvV S tb ρ (.int j)) (hc : EvV S tc ρ (.int k)) (h0 : RgC i j k n) : EvI S (iRng3 (tCons ta (tCons tb (tCons tc tNil)))) ρ (rg i k n) := fun F G H σ c R q =>
  ea_cons ha (ea_cons hb (ea_cons hc ea_nil)) F G H σ c _ fun vs ds G1 H1 e g r => by
    subst e
    cases r with
    | cons r rr =>
      cases rr with
      | cons r' rr =>
        cases rr with
        | cons r'' rr =>
          cases r; cases r'; cases r''; cases rr
          exact ⟨i, j, k, n, rfl, h0, q _ G1 H1 g yl_rgc⟩
/-- enumerate: pairs of place and item -/
def enm (ys : List D) : List D := (List.range ys.length).map fun (k : Nat) => D.tup [.int (k : Int), ys.getD k .non]
theorem ei_enum {ys : List D} (h : EvV S te ρ (.lst ys)) : EvI S (iEnum K (tCons te tNil)) ρ (enm ys) := fun F G H σ c R q =>
  ea_cons h ea_nil F G H σ c _ fun vs ds G1 H1 e g r => by
    subst e
    cases r with
    | cons r rr =>
      cases rr
      obtain ⟨p, vs, rfl, hp, rr⟩ := r.lst_inv
      refine ⟨p, vs, rfl, SqL.of (g.gh _ _ hp), q _ G1 H1 g fun G2 H2 e2 b2 n => ?_⟩
      have h2 : SqL K H2 p vs := SqL.of (b2.ext _ _ (e2 _ _ hp))
      unfold enm
      rw [List.getElem?_map]
      by_cases hn : n < ys.length
      · rw [List.getElem?_range hn]
        refine ⟨fun d hd => ?_, fun hd => by cases hd⟩
        cases hd
        obtain ⟨x, hx, rx⟩ := rr.get (List.getElem?_eq_getElem hn)
        refine ⟨⟨vs, x, h2, hx⟩, fun v H3 ⟨T, y, e3, hT, e4, f⟩ => ?_⟩
        subst e3 e4
        have ex := Option.some.inj ((f vs h2).symm.trans hx)
        subst ex
        have gT : G2 T = none := by
          cases e : G2 T with
          | none => rfl
          | some o => rw [b2.ext _ _ e] at hT; cases hT
        refine ⟨_, Go.new b2 hT, .tup upd_same (.cons (.int _) (.cons ?_ .nil))⟩
        rw [List.getD_eq_getElem?_getD, List.getElem?_eq_getElem hn]
        exact (rx.mono e2).mono (Ex.new gT)
      · rw [List.getElem?_eq_none (by rw [List.length_range]; omega)]
        exact ⟨fun d hd => (by cases hd), fun _ => ⟨vs, h2, by rw [rr.length]; omega⟩⟩
/-! ### for -/
/-- over ys; I k ρ: behind k turns -/
theorem run_for {wi : TI} {g : TG} {tb : TS} {ys : List D} (I : Nat → List Sl → Prop) (hi : EvI S wi ρ ys) (h0 : ∃ ρ0, Le ρ ρ0 ∧ I 0 ρ0)
    (hb : ∀ k d r, ys[k]? = some d → I k r → ∃ r2, TgD g S d r r2 ∧ Run S tb r2 (fun r3 => ∃ r4, Le r3 r4 ∧ I (k + 1) r4) R) (h2 : ∀ r, I ys.length r → Run S t2 r N R) : Run S (tSeq (tFor wi g tb) t2) ρ N R := fun F G H σ E c kn kr => by
  refine hi F G H σ c _ fun J G1 H1 g1 yl => ?_
  obtain ⟨ρ0, l0, i0⟩ := h0
  have c1 := (c.go g1).weak l0
  refine ⟨fun k m σ' H' => ∃ r G', k + m = ys.length ∧ I k r ∧ GoS F S G H G' H' ∧ Ex G1 G' ∧ Cfg F S G' H' σ' r, ⟨ys.length, ρ0, G1, Nat.zero_add _, i0, g1.toS c, Ex.refl G1, c1⟩, ?_⟩
  rintro k m σ2 H2 ⟨r, G2, hk, ik, g2, e2, c2⟩
  obtain ⟨y1, y2⟩ := yl G2 H2 e2 c2.base k
  cases hd : ys[k]? with
  | none =>
    have hlen : k = ys.length := by
      have := List.getElem?_eq_none_iff.mp hd
      omega
    refine .inl ⟨y2 hd, ?_⟩
    subst hlen
    exact h2 r ik F G2 H2 σ2 E c2 (fun ρ3 G3 H3 σ3 n3 g3 c3 => kn ρ3 G3 H3 σ3 n3 (g2.trans g3) c3) fun v d G3 H3 rd g3 rr => kr v d G3 H3 rd (g2.trans g3) rr
  | some d =>
    obtain ⟨z1, z2⟩ := y1 d hd
    have hlt : k < ys.length := (List.getElem?_eq_some_iff.mp hd).1
    refine .inr ⟨z1, _, fun σ' H' n => n, fun x H3 hy => ?_⟩
    obtain ⟨G3, g3, rx⟩ := z2 x H3 hy
    have c3 := c2.go g3
    obtain ⟨r2, tg, body⟩ := hb k d r hd ik
    refine tg F G3 H3 σ2 c3 x _ rx fun σ4 c4 => ?_
    have g23 := g2.trans (g3.toS c2)
    refine body F G3 H3 σ4 _ c4 (fun r3 G5 H5 σ5 n5 g5 c5 => ?_) fun v d G5 H5 rd g5 rr => kr v d G5 H5 rd (g23.trans g5) rr
    obtain ⟨r4, l4, i4⟩ := n5
    exact ⟨m - 1, by omega, r4, G5, by omega, i4, g23.trans g5, (e2.trans g3.g).trans g5.g, c5.weak l4⟩
/-! ### while -/
theorem run_while {α : Type} {tb : TS} (st : α → List Sl) (I : α → Prop) (μ : α → Nat) (bb : α → Bool) (a0 : α) (h0 : Le ρ (st a0)) (i0 : I a0) (ht : ∀ a, I a → EvB S t (st a) (bb a))
    (hb : ∀ a, I a → bb a = true → Run S tb (st a) (fun r => ∃ a', Le r (st a') ∧ I a' ∧ μ a' < μ a) R) (h2 : ∀ a, I a → bb a = false → Run S t2 (st a) N R) : Run S (tSeq (tWhile t tb) t2) ρ N R := fun F G H σ E c kn kr => by
  refine ⟨fun m σ' H' => ∃ a G', m = μ a ∧ I a ∧ GoS F S G H G' H' ∧ Cfg F S G' H' σ' (st a), ⟨_, a0, G, rfl, i0, .refl c, c.weak h0⟩, ?_⟩
  rintro m σ1 H1 ⟨a, G1, rfl, ia, g1, c1⟩
  refine ht a ia F G1 H1 σ1 c1 _ fun b G2 H2 eb g2 => ?_
  have g12 := g1.trans (g2.toS c1)
  have c2 := c1.go g2
  cases b with
  | true =>
    rw [if_pos rfl]
    refine ⟨_, fun σ' H' n => n, ?_⟩
    refine hb a ia eb.symm F G2 H2 σ1 _ c2 (fun r G3 H3 σ3 n3 g3 c3 => ?_) fun v d G3 H3 rd g3 rr => kr v d G3 H3 rd (g12.trans g3) rr
    obtain ⟨a', l, ia', lt⟩ := n3
    exact ⟨μ a', lt, a', G3, rfl, ia', g12.trans g3, c3.weak l⟩
  | false =>
    rw [if_neg Bool.false_ne_true]
    exact h2 a ia eb.symm F G2 H2 σ1 E c2 (fun ρ3 G3 H3 σ3 n3 g3 c3 => kn ρ3 G3 H3 σ3 n3 (g12.trans g3) c3) fun v d G3 H3 rd g3 rr => kr v d G3 H3 rd (g12.trans g3) rr
end
end Dl
/-! Comprehensions, calls, defs, told of data. -/
namespace Dl
open PySem L2 Evl
inductive Fa2 {α β : Type} (P : α → β → Prop) : List α → List β → Prop
  | nil : Fa2 P [] []
  | cons {a : α} {b : β} {l : List α} {m : List β} : P a b → Fa2 P l m → Fa2 P (a :: l) (b :: m)
theorem Fa2.append {α β : Type} {P : α → β → Prop} : ∀ {l l' : List α} {m m' : List β}, Fa2 P l m → Fa2 P l' m' → Fa2 P (l ++ l') (m ++ m')
  | _, _, _, _, .nil, k => k
  | _, _, _, _, .cons h r, k => .cons h (Fa2.append r k)
theorem Fa2.length {α β : Type} {P : α → β → Prop} : ∀ {l : List α} {m : List β}, Fa2 P l m → m.length = l.length
  | _, _, .nil => rfl
  | _, _, .cons _ r => congrArg Nat.succ r.length
theorem Fa2.map_eq {α β : Type} {f : α → β} : ∀ {l : List α} {m : List β}, Fa2 (fun a b => b = f a) l m → m = l.map f
  | _, _, .nil => rfl
  | _, _, .cons h r => by rw [h, Fa2.map_eq r]; rfl
theorem Fa2.imp {α β : Type} {P Q : α → β → Prop} (f : ∀ a b, P a b → Q a b) : ∀ {l : List α} {m : List β}, Fa2 P l m → Fa2 Q l m
  | _, _, .nil => .nil
  | _, _, .cons h r => .cons (f _ _ h) (Fa2.imp f r)
theorem Fa2.all {α β : Type} {P : β → Prop} : ∀ {l : List α} {m : List β}, Fa2 (fun _ b => P b) l m → ∀ b ∈ m, P b
  | _, _, .nil, _, h => by cases h
  | _, _, .cons h r, b, hb => by
    rcases List.mem_cons.mp hb with e | e
    · rw [e]; exact h
    · exact Fa2.all r b e
section
variable {S : Addr → Prop} {ρ ρ' : List Sl} {te to : TE} {t : TT} {K : PySem.W.Frag} {P : D → Prop} {i : Nat}
theorem take_next {α : Type} {l : List α} {k : Nat} {x : α} (h : l[k]? = some x) : l.take (k + 1) = l.take k ++ [x] := by
  rw [List.take_add_one, h] <;> rfl
/-- [e for x in .. if t]: slot i is x -/
theorem ef_lc {α : Type} {vs : List Nat} {wi : TI} {Pe : α → D → Prop} (xs : List α) (g : α → D) (bb : α → Bool) (hi : EvI S wi ρ (xs.map g)) (ht : ∀ x, x ∈ xs → EvB S t (ρ.set i (.dat (g x))) (bb x))
    (he : ∀ x, x ∈ xs → bb x = true → EvD S te (ρ.set i (.dat (g x))) (Pe x)) (hl : xs.length ≤ sizeLine) (hv : vs = [i] := by rfl) : EvF S (tLc wi (gName i) t te vs) ρ (fun ds => Fa2 Pe (xs.filter bb) ds) := fun F G H σ c Q q => by
  subst hv
  refine hi F G H σ c _ fun J G1 H1 g1 yl => ?_
  intro Dd hD
  have b1 := (c.go g1).base
  have nS : ¬ S Dd := fun z => (b1.src Dd z).2.ne hD
  have gD : G1 Dd = none := by
    cases e : G1 Dd with
    | none => rfl
    | some o => rw [b1.ext _ _ e] at hD; cases hD
  refine ⟨fun k m H' => ∃ G' acc ds, k + m = xs.length ∧ Go S G1 H1 G' H' ∧ G' Dd = none ∧ H' Dd = some (.lst acc) ∧ RpL G' acc ds ∧ Fa2 Pe ((xs.take k).filter bb) ds, ⟨xs.length, G1, [], [], Nat.zero_add _, Go.mut b1 hD, gD, upd_same, .nil, .nil⟩, ?_⟩
  rintro k m H2 ⟨G2, acc, ds, hk, g2, d2, a2, r2, f2⟩
  have b2 := g2.base b1
  obtain ⟨y1, y2⟩ := yl G2 H2 g2.g b2 k
  have gg2 := g1.trans c.base g2
  rw [List.getElem?_map] at y1 y2
  cases hd : xs[k]? with
  | none =>
    rw [hd] at y2
    have hlen : k = xs.length := by
      have := List.getElem?_eq_none_iff.mp hd
      omega
    refine .inl ⟨y2 rfl, ?_⟩
    subst hlen
    rw [List.take_length] at f2
    exact q Dd acc ds G2 H2 f2 gg2 (g1.fresh c.base hD) a2 d2 r2
  | some d =>
    have hm := List.mem_of_getElem? hd
    rw [hd] at y1
    obtain ⟨z1, z2⟩ := y1 (g d) rfl
    have hlt : k < xs.length := (List.getElem?_eq_some_iff.mp hd).1
    refine .inr ⟨z1, _, fun H' n => n, fun x H3 hy => ?_⟩
    obtain ⟨G3, g3, rx⟩ := z2 x H3 hy
    have gg3 := gg2.trans c.base g3
    have c3 := (c.go gg3).set i rx
    have nH2 : H2 Dd ≠ none := by rw [a2]; exact fun z => nomatch z
    show wipe ((wipe σ [i]).set i (some x)) [i] = wipe σ [i] ∧ t ((wipe σ [i]).set i (some x)) H3 _
    have ew : (wipe σ [i]).set i (some x) = σ.set i (some x) := by
      show (σ.set i none).set i (some x) = _
      rw [List.set_set]
    rw [ew]
    refine ⟨by show (σ.set i (some x)).set i none = σ.set i none; rw [List.set_set], ?_⟩
    refine ht d hm F G3 H3 _ c3 _ fun b G4 H4 eb g4 => ?_
    have g24 := g3.trans b2 g4
    have et := take_next hd
    cases b with
    | true =>
      rw [if_pos rfl]
      refine he d hm eb.symm F G4 H4 _ (c3.go g4) _ fun y dy G5 H5 py g5 ry => ?_
      have g25 := g24.trans b2 g5
      have a5 : H5 Dd = some (.lst acc) := g25.h Dd _ nS a2
      have d5 : G5 Dd = none := g25.nw Dd nH2 d2
      have r5 := r2.mono g25.g
      have hlen := f2.length
      refine ⟨acc, a5, ?_, m - 1, by omega, G5, acc ++ [y], ds ++ [dy], by omega, ?_, d5, upd_same, r5.append (RpL.one ry), ?_⟩
      · have h1 : acc.length = ds.length := r5.length
        have h2 : ((xs.take k).filter bb).length ≤ (xs.take k).length := List.length_filter_le _ _
        rw [List.length_take] at h2
        omega
      · have g15 := g2.trans b1 g25
        refine ⟨g15.g, fun a o e => ?_, fun p o hs e => ?_, g15.nw, fun p hp => ?_⟩
        · rw [upd_ne (ne_of_none e d5)]
          exact g15.gh a o e
        · rw [upd_ne (ne_of_none e hD)]
          exact g15.h p o hs e
        · obtain ⟨u, v, z, e⟩ := g15.s p hp
          have ne : p ≠ Dd := fun z => nS (z ▸ hp)
          exact ⟨u, v, z, by rw [upd_ne ne]; exact e⟩
      · rw [et, List.filter_append]
        refine f2.append ?_
        have : List.filter bb [d] = [d] := by simp [← eb]
        rw [this]
        exact .cons py .nil
    | false =>
      rw [if_neg Bool.false_ne_true]
      have a4 : H4 Dd = some (.lst acc) := g24.h Dd _ nS a2
      have d4 : G4 Dd = none := g24.nw Dd nH2 d2
      refine ⟨m - 1, by omega, G4, acc, ds, by omega, g2.trans b1 g24, d4, a4, r2.mono g24.g, ?_⟩
      rw [et, List.filter_append]
      have : List.filter bb [d] = [] := by simp [← eb]
      rw [this, List.append_nil]
      exact f2
theorem eb_yes : EvB S tYes ρ true := fun F G H σ c Q q => q _ G H rfl c.base.refl
theorem EvF.imp {P P' : List D → Prop} (h : EvF S te ρ P) (f : ∀ d, P d → P' d) : EvF S te ρ P' := fun F G H σ c Q q => h F G H σ c Q fun p vs ds G' H' hp => q p vs ds G' H' (f ds hp)
/-- every item -/
theorem ef_lcMD {α : Type} {vs : List Nat} {wi : TI} {Pe : α → D → Prop} (xs : List α) (g : α → D) (hi : EvI S wi ρ (xs.map g)) (he : ∀ x, x ∈ xs → EvD S te (ρ.set i (.dat (g x))) (Pe x)) (hl : xs.length ≤ sizeLine) (hv : vs = [i] := by rfl) : EvF S (tLc wi (gName i) tYes te vs) ρ (fun ds => Fa2 Pe xs ds) :=
  EvF.imp (ef_lc xs g (fun _ => true) hi (fun _ _ => eb_yes) (fun x h _ => he x h) hl hv) fun ds f => by
    have e : xs.filter (fun _ => true) = xs := by simp
    rw [e] at f
    exact f
/-- every item by a function -/
theorem ef_lcM {α : Type} {vs : List Nat} {wi : TI} (xs : List α) (g f : α → D) (hi : EvI S wi ρ (xs.map g)) (he : ∀ x, x ∈ xs → EvV S te (ρ.set i (.dat (g x))) (f x)) (hl : xs.length ≤ sizeLine) (hv : vs = [i] := by rfl) : EvF S (tLc wi (gName i) tYes te vs) ρ (fun ds => ds = xs.map f) :=
  EvF.imp (ef_lcMD (Pe := fun a b => b = f a) xs g hi he hl hv) fun _ h => h.map_eq
/-- with a test -/
theorem ef_lcMF {α : Type} {vs : List Nat} {wi : TI} (xs : List α) (g : α → D) (bb : α → Bool) (f : α → D) (hi : EvI S wi ρ (xs.map g)) (ht : ∀ x, x ∈ xs → EvB S t (ρ.set i (.dat (g x))) (bb x)) (he : ∀ x, x ∈ xs → bb x = true → EvV S te (ρ.set i (.dat (g x))) (f x)) (hl : xs.length ≤ sizeLine) (hv : vs = [i] := by rfl) :
    EvF S (tLc wi (gName i) t te vs) ρ (fun ds => ds = (xs.filter bb).map f) :=
  EvF.imp (ef_lc (Pe := fun a b => b = f a) xs g bb hi ht he hl hv) fun _ h => h.map_eq
/-! ### peeking at an own list -/
def Sca : D → Prop
  | .lst _ => False
  | .tup _ => False
  | _ => True
theorem Sca.rp {G G' : Hp} {v : V} {d : D} (h : Sca d) (r : Rp G v d) : Rp G' v d := by
  cases r with
  | non => exact .non
  | bl b => exact .bl b
  | int j => exact .int j
  | str s => exact .str s
  | lst _ _ => exact h.elim
  | tup _ _ => exact h.elim
theorem Go.unfreeze {G H G' H' : Hp} {p : Addr} {o : HO} (b : Base S G H) (hg : G p = none) (hp : H p = some o) (g : Go S (upd G p o) H G' H') : Go S G H (fun a => if a = p then none else G' a) H' := by
  refine ⟨fun a u e => ?_, fun a u e => ?_, g.h, fun q hq e => ?_, g.s⟩
  · have ne := ne_of_none e hg
    rw [if_neg ne]
    exact g.g a u (by rw [upd_ne ne]; exact e)
  · by_cases ha : a = p
    · rw [if_pos ha] at e
      cases e
    · rw [if_neg ha] at e
      exact g.gh a u e
  · by_cases ha : q = p
    · rw [if_pos ha]
    · rw [if_neg ha]
      exact g.nw q hq (by rw [upd_ne ha]; exact e)
theorem ev_peek {ds : List D} {d : D} (i : Nat) (hi : ρ[i]? = some (.own ds)) (h : EvV S te (ρ.set i (.dat (.lst ds))) d) (hs : Sca d) : EvV S te ρ d := fun F G H σ c Q q => by
  obtain ⟨p, vs, e, h1, h2, h3, h4⟩ := c.own hi
  obtain ⟨c', g⟩ := c.freeze hi e h1 h4
  refine h F _ H σ c' Q fun v d' G' H' ed g' r => ?_
  subst ed
  exact q v d' _ H' rfl (Go.unfreeze c.base h2 h1 g') (hs.rp r)
theorem eb_peek {ds : List D} {b : Bool} (i : Nat) (hi : ρ[i]? = some (.own ds)) (h : EvB S t (ρ.set i (.dat (.lst ds))) b) : EvB S t ρ b := fun F G H σ c Q q => by
  obtain ⟨p, vs, e, h1, h2, h3, h4⟩ := c.own hi
  obtain ⟨c', g⟩ := c.freeze hi e h1 h4
  exact h F _ H σ c' Q fun b' G' H' eb g' => q b' _ H' eb (Go.unfreeze c.base h2 h1 g')
/-! ### promises of defs -/
abbrev No : Addr → Prop := fun _ => False
/-- called with data args a, under pre a, it hands back data of post a; what stood stands -/
def spP {α : Type} (args : α → List D) (pre : α → Prop) (post : α → D → Prop) : Sp := fun vs H Q _ => ∃ (a : α) (G : Hp), Ex G H ∧ RpL G vs (args a) ∧ pre a ∧ ∀ v d G' H', post a d → Go No G H G' H' → Rp G' v d → Q v H'
/-- .. its first argument a source -/
def spS {α : Type} (args : α → List D) (pre : α → Prop) (post : α → D → Prop) : Sp := fun vs H Q _ => ∃ (a : α) (G : Hp) (p : Addr) (ws : List V), vs = .ref p :: ws ∧ Ex G H ∧ G p = none ∧ SrcOk H p ∧ RpL G ws (args a) ∧ pre a ∧ ∀ v d G' H', post a d → Go (fun q => q = p) G H G' H' → Rp G' v d → Q v H'
theorem Go.up {G H G' H' : Hp} (b : Base S G H) (g : Go No G H G' H') : Go S G H G' H' := ⟨g.g, g.gh, fun p o _ e => g.h p o (fun z => z) e, g.nw, fun p hp => by
  obtain ⟨x, y, z, e⟩ := (b.src p hp).2
  exact ⟨x, y, z, g.h p _ (fun z => z) e⟩⟩
theorem ed_call {α : Type} {args : α → List D} {pre : α → Prop} {post : α → D → Prop} {ta : TA} {E : XK} (a : α) (ha : EvAV S ta ρ (args a)) (hp : pre a) : EvD S (tCall (spP args pre post) [] E ta) ρ (post a) := fun F G H σ c Q q =>
  ha F G H σ c _ fun vs ds G1 H1 e g1 r => by
    subst e
    rw [List.append_nil]
    exact ⟨a, G1, g1.gh, r, hp, fun v d G' H' po g2 rv => q v d G' H' po (g1.trans c.base (g2.up (c.go g1).base)) rv⟩
theorem eds_call {α : Type} {args : α → List D} {pre : α → Prop} {post : α → D → Prop} {ta : TA} {E : XK} (a : α) (hi : ρ[i]? = some .src) (ha : EvAV S ta ρ (args a)) (hp : pre a) : EvD S (tCall (spS args pre post) [] E (tCons (tVar i) ta)) ρ (post a) := fun F G H σ c Q q => by
  obtain ⟨p, e, sp⟩ := c.srcAt hi
  refine ⟨.ref p, e, ha F G H σ c _ fun vs ds G1 H1 e g1 r => ?_⟩
  subst e
  rw [List.append_nil]
  have b1 := (c.go g1).base
  obtain ⟨s1, s2⟩ := b1.src p sp
  refine ⟨a, G1, p, vs, rfl, g1.gh, s1, s2, r, hp, fun v d G' H' po g2 rv => q v d G' H' po (g1.trans c.base ⟨g2.g, g2.gh, fun x o hs e => g2.h x o (fun z => hs (z ▸ sp)) e, g2.nw, fun x hx => ?_⟩) rv⟩
  by_cases hxp : x = p
  · exact g2.s x hxp
  · obtain ⟨u, v, w, e⟩ := (b1.src x hx).2
    exact ⟨u, v, w, g2.h x _ hxp e⟩
/-- the slots at a def's start -/
def ini (n : Nat) (ds : List D) : List Sl := ds.map .dat ++ List.replicate (n - ds.length) .no
theorem start_len {N : List PySem.Str} {vs : List V} (h : vs.length ≤ N.length) : (L2.start N vs).length = N.length := by
  unfold L2.start
  rw [List.length_append, List.length_map, List.length_replicate]
  omega
theorem rp_at {F : Addr → Prop} {G H : Hp} : ∀ {vs : List V} {ds : List D} {k : Nat} {i : Nat} {o : Option V} {s : Sl}, RpL G vs ds → (vs.map some ++ List.replicate k none)[i]? = some o → (ds.map Sl.dat ++ List.replicate k .no)[i]? = some s → SlAt F S G H o s
  | _, _, k, i, o, s, .nil, h1, h2 => by
    have h2' : (List.replicate k Sl.no)[i]? = some s := h2
    have := List.mem_of_getElem? h2'
    rw [List.eq_of_mem_replicate this]
    trivial
  | _, _, k, 0, o, s, .cons r _, h1, h2 => by
    have e1 := Option.some.inj h1
    have e2 := Option.some.inj h2
    subst e1 e2
    exact ⟨_, rfl, r⟩
  | _, _, k, i + 1, o, s, .cons _ r, h1, h2 => rp_at (k := k) (i := i) r h1 h2
theorem no_own : ∀ {ds : List D} {k i : Nat} {l : List D}, (ds.map Sl.dat ++ List.replicate k Sl.no)[i]? = some (.own l) → False
  | [], k, i, l, h => by
    have h2 : (List.replicate k Sl.no)[i]? = some (.own l) := h
    have := List.eq_of_mem_replicate (List.mem_of_getElem? h2)
    cases this
  | _ :: _, k, 0, l, h => by cases Option.some.inj h
  | _ :: ds, k, i + 1, l, h => no_own (ds := ds) (k := k) (i := i) h
theorem pure_P {α : Type} {args : α → List D} {pre : α → Prop} {post : α → D → Prop} {ts : TS} {N : List PySem.Str} (hn : ∀ a, (args a).length ≤ N.length) (h : ∀ a, pre a → Run No ts (ini N.length (args a)) (fun _ => False) (post a)) {vs : List V} {H : Hp} {Q : VK} {E : XK} (hs : spP args pre post vs H Q E) :
    ts { nx := fun _ H' => Q .non H', rt := Q } (L2.start N vs) H := by
  obtain ⟨a, G, eg, r, hp, k⟩ := hs
  have hl := r.length
  refine h a hp (fun p => H p ≠ none ∧ G p = none) G H _ _ ⟨eg, fun p hp => hp, fun p z => z.elim, ?_, fun i o s h1 h2 => ?_, fun i j p x y h1 _ _ _ => (no_own h1).elim⟩ (fun _ _ _ _ z => z.elim) fun v d G' H' pd g rv => ?_
  · rw [start_len (by rw [hl]; exact hn a)]
    unfold ini
    rw [List.length_append, List.length_map, List.length_replicate]
    have := hn a
    omega
  · unfold L2.start at h1
    unfold ini at h2
    rw [hl] at h1
    exact rp_at r h1 h2
  · refine k v d G' H' pd ⟨g.g, g.gh, fun p o _ e => ?_, fun p h1 h2 => g.nw p ⟨h1, h2⟩, fun p z => z.elim⟩ rv
    cases eG : G p with
    | none =>
      rw [g.f p ⟨(by rw [e]; exact fun z => nomatch z), eG⟩ (fun z => z)]
      exact e
    | some u =>
      have e2 := eg p u eG
      rw [e] at e2
      cases e2
      exact g.gh p _ (g.g p _ eG)
def iniS (n : Nat) (ds : List D) : List Sl := .src :: (ds.map .dat ++ List.replicate (n - 1 - ds.length) .no)
theorem pure_S {α : Type} {args : α → List D} {pre : α → Prop} {post : α → D → Prop} {ts : TS} {N : List PySem.Str} (hn : ∀ a, (args a).length + 1 ≤ N.length) (h : ∀ a p, pre a → Run (fun q => q = p) ts (iniS N.length (args a)) (fun _ => False) (post a)) {vs : List V} {H : Hp} {Q : VK} {E : XK} (hs : spS args pre post vs H Q E) :
    ts { nx := fun _ H' => Q .non H', rt := Q } (L2.start N vs) H := by
  obtain ⟨a, G, p, ws, rfl, eg, gp, so, r, hp, k⟩ := hs
  have hl := r.length
  have hna := hn a
  refine h a p hp (fun p => H p ≠ none ∧ G p = none) G H _ _ ⟨eg, fun p hp => hp, fun q z => ?_, ?_, fun i o s h1 h2 => ?_, fun i j q x y h1 _ _ _ => ?_⟩ (fun _ _ _ _ z => z.elim) fun v d G' H' pd g rv => ?_
  · subst z
    exact ⟨⟨so.ne, gp⟩, so⟩
  · rw [start_len (by rw [List.length_cons, hl]; exact hn a)]
    unfold iniS
    rw [List.length_cons, List.length_append, List.length_map, List.length_replicate]
    omega
  · have es : L2.start N (.ref p :: ws) = some (.ref p) :: (ws.map some ++ List.replicate (N.length - 1 - (args a).length) none) := by
      unfold L2.start
      rw [List.map_cons, List.cons_append, List.length_cons, hl]
      have : N.length - ((args a).length + 1) = N.length - 1 - (args a).length := by omega
      rw [this]
    rw [es] at h1
    unfold iniS at h2
    cases i with
    | zero =>
      have e1 := Option.some.inj h1
      have e2 := Option.some.inj h2
      subst e1 e2
      exact ⟨p, rfl, rfl⟩
    | succ i => exact rp_at (i := i) r h1 h2
  · unfold iniS at h1
    cases i with
    | zero => cases Option.some.inj h1
    | succ i => exact (no_own (i := i) h1).elim
  · refine k v d G' H' pd ⟨g.g, g.gh, fun q o hq e => ?_, fun q h1 h2 => g.nw q ⟨h1, h2⟩, g.s⟩ rv
    cases eG : G q with
    | none =>
      rw [g.f q ⟨(by rw [e]; exact fun z => nomatch z), eG⟩ hq]
      exact e
    | some u =>
      have e2 := eg q u eG
      rw [e] at e2
      cases e2
      exact g.gh q _ (g.g q _ eG)
end
/-! ### a def of the text keeps its promise -/
section
variable {P : Program} {w : World} {K : PySem.W.Frag} {mg : PySem.Str → Option Value} {base : Heap} {x : PySem.Str} {st : Stmt} {f : Addr} {fd : FuncData} {N ps : List PySem.Str} {k : Nat}
/-- a def as the head tells it: where it stands, its binding -/
structure DefAt (K : PySem.W.Frag) (mg : PySem.Str → Option Value) (x : PySem.Str) (st : Stmt) : Prop where
  ex : ∃ f fd, FunD K x x (defArgs st) (defBody st) (defScope st) [] [] f fd ∧ mg x = some (.ref f)
abbrev Xof (P : Program) (w : World) (K : PySem.W.Frag) (mg : PySem.Str → Option Value) (base : Heap) (N : List PySem.Str) (x : PySem.Str) (st : Stmt) (f : Addr) (cdv : Value) (A : Around) (outer : List Env) (s : Shared) (H : Hp) (E : XK) : Cx := (cxOf C8.CX0 P w K mg base N x (defScope st) f cdv A outer s H E).nox
theorem cal_P {α : Type} {args : α → List D} {pre : α → Prop} {post : α → D → Prop} (F : DefAt K mg x st) (S : FnScope N ps (defScope st)) (hps : ∀ a, (args a).length = ps.length) (hN : ps.length ≤ N.length)
    (hb : ∀ (kV doc pm : Value) (an : Option Addr) (cdv ct : Value) (us : List Value), us.length = ps.length → bindArgs (PySem.W.fnOf x x (defArgs st) (defBody st) (defScope st) .none kV doc pm an cdv ct) ⟨us, []⟩ = pure (ps.zip us))
    (body : ∀ (f : Addr) (cdv : Value) (A : Around) (outer : List Env) (s : Shared) (H : Hp) (E : XK), Room k (Xof P w K mg base N x st f cdv A outer s H E).A → ∃ ts, PSs (Xof P w K mg base N x st f cdv A outer s H E) (defBody st) ts ∧ ∀ a, pre a → Run No ts (ini N.length (args a)) (fun _ => False) (post a)) :
    C8.Cal P w K mg base (k + 1) x (spP args pre post) [] := by
  obtain ⟨f, fd, F, hm⟩ := F.ex
  refine ⟨f, fd, ps, [], F.ok S (fun vs H Q E h => ?_) (fun cdv A outer s H vs Q E hr h => (body f cdv A outer s H E hr).elim fun ts z => ⟨ts, z.1.nox, pure_P (fun a => by rw [hps a]; exact hN) z.2 h⟩), hm, F.kp, F.bindsN hb, .nil⟩
  obtain ⟨a, G, _, r, _⟩ := h
  exact r.length.trans (hps a)
theorem cal_S {α : Type} {args : α → List D} {pre : α → Prop} {post : α → D → Prop} (F : DefAt K mg x st) (S : FnScope N ps (defScope st)) (hps : ∀ a, (args a).length + 1 = ps.length) (hN : ps.length ≤ N.length)
    (hb : ∀ (kV doc pm : Value) (an : Option Addr) (cdv ct : Value) (us : List Value), us.length = ps.length → bindArgs (PySem.W.fnOf x x (defArgs st) (defBody st) (defScope st) .none kV doc pm an cdv ct) ⟨us, []⟩ = pure (ps.zip us))
    (body : ∀ (f : Addr) (cdv : Value) (A : Around) (outer : List Env) (s : Shared) (H : Hp) (E : XK), Room k (Xof P w K mg base N x st f cdv A outer s H E).A → ∃ ts, PSs (Xof P w K mg base N x st f cdv A outer s H E) (defBody st) ts ∧ ∀ a p, pre a → Run (fun q => q = p) ts (iniS N.length (args a)) (fun _ => False) (post a)) :
    C8.Cal P w K mg base (k + 1) x (spS args pre post) [] := by
  obtain ⟨f, fd, F, hm⟩ := F.ex
  refine ⟨f, fd, ps, [], F.ok S (fun vs H Q E h => ?_) (fun cdv A outer s H vs Q E hr h => (body f cdv A outer s H E hr).elim fun ts z => ⟨ts, z.1.nox, pure_S (fun a => by rw [hps a]; exact hN) z.2 h⟩), hm, F.kp, F.bindsN hb, .nil⟩
  obtain ⟨a, G, p, ws, rfl, _, _, _, r, _⟩ := h
  rw [List.length_cons, r.length]
  exact hps a
end
end Dl
/-! The module's texts as lists of signs (printed by gen_tx.py) -/
namespace Fk
def l_FIGURES : List Nat := [48, 49, 50, 51, 52, 53, 54, 55, 56, 57]
def l_SMALL : List Nat := [97, 98, 99, 100, 101, 102, 103, 104, 105, 106, 107, 108, 109, 110, 111, 112, 113, 114, 115, 116, 117, 118, 119, 120, 121, 122]
def l_LETTERS : List Nat := [97, 98, 99, 100, 101, 102, 103, 104, 105, 106, 107, 108, 109, 110, 111, 112, 113, 114, 115, 116, 117, 118, 119, 120, 121, 122, 65, 66, 67, 68, 69, 70, 71, 72, 73, 74, 75, 76, 77, 78, 79, 80, 81, 82, 83, 84, 85, 86, 87, 88, 89, 90]
def l_NAME_SIGNS : List Nat := [97, 98, 99, 100, 101, 102, 103, 104, 105, 106, 107, 108, 109, 110, 111, 112, 113, 114, 115, 116, 117, 118, 119, 120, 121, 122, 65, 66, 67, 68, 69, 70, 71, 72, 73, 74, 75, 76, 77, 78, 79, 80, 81, 82, 83, 84, 85, 86, 87, 88, 89, 90, 48, 49, 50, 51, 52, 53, 54, 55, 56, 57, 45]
def l_SIGNS : List Nat := [32, 33, 34, 35, 36, 38, 39, 40, 41, 42, 43, 44, 45, 46, 47, 48, 49, 50, 51, 52, 53, 54, 55, 56, 57, 58, 59, 60, 61, 62, 63, 64, 65, 66, 67, 68, 69, 70, 71, 72, 73, 74, 75, 76, 77, 78, 79, 80, 81, 82, 83, 84, 85, 86, 87, 88, 89, 90, 91, 92, 93, 94, 95, 96, 97, 98, 99, 100, 101, 102, 103, 104, 105, 106, 107, 108, 109, 110, 111, 112, 113, 114, 115, 116, 117, 118, 119, 120, 121, 122, 123, 124, 125, 126]
def l_SIX : List Nat := [65, 66, 67, 68, 69, 70, 71, 72, 73, 74, 75, 76, 77, 78, 79, 80, 81, 82, 83, 84, 85, 86, 87, 88, 89, 90, 97, 98, 99, 100, 101, 102, 103, 104, 105, 106, 107, 108, 109, 110, 111, 112, 113, 114, 115, 116, 117, 118, 119, 120, 121, 122, 48, 49, 50, 51, 52, 53, 54, 55, 56, 57, 43, 47]
def l_SIXTEEN : List Nat := [48, 49, 50, 51, 52, 53, 54, 55, 56, 57, 65, 66, 67, 68, 69, 70]
def l_ATOM_SIGNS : List Nat := [97, 98, 99, 100, 101, 102, 103, 104, 105, 106, 107, 108, 109, 110, 111, 112, 113, 114, 115, 116, 117, 118, 119, 120, 121, 122, 65, 66, 67, 68, 69, 70, 71, 72, 73, 74, 75, 76, 77, 78, 79, 80, 81, 82, 83, 84, 85, 86, 87, 88, 89, 90, 48, 49, 50, 51, 52, 53, 54, 55, 56, 57, 33, 35, 36, 38, 39, 42, 43, 45, 46, 47, 61, 63, 94, 95, 96, 123, 124, 125, 126]
def l_MARKS : List Nat := [60, 62, 64, 44, 59, 58, 91, 93]
def l_HOUSE_SIGNS : List Nat := [97, 98, 99, 100, 101, 102, 103, 104, 105, 106, 107, 108, 109, 110, 111, 112, 113, 114, 115, 116, 117, 118, 119, 120, 121, 122, 48, 49, 50, 51, 52, 53, 54, 55, 56, 57, 45]
end Fk
/-! The program's defs as plain functions over lists of signs and numbers. -/
namespace Mr
open Fk
/-- a text's signs: from the blank to ~, but not the percent sign -/
abbrev okc (c : Nat) : Prop := c ∈ l_SIGNS
def lstripC (c : Nat) (l : List Nat) : List Nat := l.dropWhile (· == c)
def rstripC (c : Nat) (l : List Nat) : List Nat := (l.reverse.dropWhile (· == c)).reverse
def stripC (c : Nat) (l : List Nat) : List Nat := rstripC c (lstripC c l)
/-! ### codes -/
def sixCh (n : Int) : Nat := l_SIX.getD n.toNat 0
def hexCh (n : Int) : Nat := l_SIXTEEN.getD n.toNat 0
def sixNum (g : List Int) : Int := 65536 * g.getD 0 0 + 256 * g.getD 1 0 + g.getD 2 0
/-- one to three octets as four signs, filled up -/
def sixGroup (g : List Int) : List Nat := (([sixNum g / 262144, sixNum g / 4096 % 64, sixNum g / 64 % 64, sixNum g % 64].take (g.length + 1)).map sixCh) ++ List.replicate (3 - g.length) 61
def sixBits (os : List Int) : List Nat := (List.range ((os.length + 2) / 3)).flatMap fun k => sixGroup ((os.drop (3 * k)).take 3)
def twoFigures (n : Int) : List Nat := [61, hexCh (n / 16), hexCh (n % 16)]
/-! ### sayings -/
def signOctets (n : Int) : List Int := if n < 128 then [n] else if n < 2048 then [192 + n / 64, 128 + n % 64] else [224 + n / 4096, 128 + n / 64 % 64, 128 + n % 64]
def allOctets (s : List Int) : List Int := s.flatMap signOctets
def manyOf (one : Int) : Nat := 1 + (if 192 ≤ one then 1 else 0) + (if 224 ≤ one then 1 else 0)
def signVal (one : Int) (more : List Int) : Int := more.foldl (fun s o => 64 * s + o - 128) (one - (if 224 ≤ one then 224 else if 192 ≤ one then 192 else 0))
/-- the sign that octets begin with -/
def signAt : List Int → Option Int
  | [] => none
  | one :: r => if 32 ≤ signVal one (r.take (manyOf one - 1)) ∧ signVal one (r.take (manyOf one - 1)) ≤ 65535 ∧ signOctets (signVal one (r.take (manyOf one - 1))) = one :: r.take (manyOf one - 1) then some (signVal one (r.take (manyOf one - 1))) else none
theorem signOctets_pos (n : Int) : 0 < (signOctets n).length := by
  unfold signOctets
  split
  · exact Nat.succ_pos _
  · split <;> exact Nat.succ_pos _
def signsTold (os : List Int) : List Int × Nat :=
  match h : signAt os with
  | none => ([], 0)
  | some s => (s :: (signsTold (os.drop (signOctets s).length)).1, (signOctets s).length + (signsTold (os.drop (signOctets s).length)).2)
termination_by os.length
decreasing_by
  all_goals
    have := signOctets_pos s
    cases os with
    | nil => simp [signAt] at h
    | cons a r => simp only [List.length_drop, List.length_cons]; omega
def isSign (n : Int) : Bool := decide (32 ≤ n) && decide (n ≤ 126) && !decide (n = 37)
def markOf (n : Int) : List Nat := if isSign n = true ∧ n = 32 then [95] else if isSign n = true ∧ n.toNat ∈ l_LETTERS ++ l_FIGURES then [n.toNat] else twoFigures n
def marked (os : List Int) : List Nat := os.flatMap markOf
def codedWord (os : List Int) (sort : Nat) : List Nat := [61, 63] ++ [sort] ++ [63] ++ (if sort = 115 then sixBits os else marked os) ++ [63, 61]
def wordsGo (sort : Nat) : List Int → List Int → List (List Nat)
  | g, [] => [codedWord g sort]
  | g, s :: r => if g ≠ [] ∧ (codedWord (g ++ signOctets s) sort).length > 60 then codedWord g sort :: wordsGo sort (signOctets s) r else wordsGo sort (g ++ signOctets s) r
/-- the parts with y between -/
def joinL (y : List Nat) : List (List Nat) → List Nat
  | [] => []
  | [p] => p
  | p :: q :: r => p ++ (y ++ joinL y (q :: r))
def wordsBy (s : List Int) (sort : Nat) : List Nat := joinL [32] (wordsGo sort [] s)
/-- y stands somewhere in l -/
def inL (y : List Nat) : List Nat → Bool
  | [] => ([] : List Nat).take y.length == y
  | c :: r => (c :: r).take y.length == y || inL y r
def plainOf (s : List Int) : Option (List Nat) :=
  if s.all isSign = true then (if s.map (·.toNat) ≠ stripC 32 (s.map (·.toNat)) ∨ inL [61, 63] (s.map (·.toNat)) = true then none else some (s.map (·.toNat))) else none
def codedIn (s : List Int) : List Nat := match plainOf s with
  | some t => t
  | none => if (wordsBy s 109).length ≤ (wordsBy s 115).length then wordsBy s 109 else wordsBy s 115
def ixOf (l : List Nat) (c : Nat) : Int := if c ∈ l then (l.idxOf c : Int) else 0
def sixPart (g : List Nat) : List Int :=
  [(g ++ List.replicate (4 - g.length) 65).foldl (fun n c => 64 * n + ixOf l_SIX c) 0 / 65536, (g ++ List.replicate (4 - g.length) 65).foldl (fun n c => 64 * n + ixOf l_SIX c) 0 / 256 % 256, (g ++ List.replicate (4 - g.length) 65).foldl (fun n c => 64 * n + ixOf l_SIX c) 0 % 256].take (g.length - 1)
def sixOctets (inner : List Nat) : List Int := (List.range (((rstripC 61 inner).length + 3) / 4)).flatMap fun k => sixPart (((rstripC 61 inner).drop (4 * k)).take 4)
def hexPair (r : List Nat) : Int := 16 * ixOf l_SIXTEEN ((r.take 2 ++ [48, 48]).getD 0 48) + ixOf l_SIXTEEN ((r.take 2 ++ [48, 48]).getD 1 48)
def markOctets (l : List Nat) : List Int := match l with
  | [] => []
  | c :: r => if c = 61 then hexPair r :: markOctets (r.drop 2) else (if c = 95 then 32 else (c : Int)) :: markOctets r
termination_by l.length
decreasing_by
  · simp only [List.length_drop, List.length_cons]; omega
  · simp only [List.length_cons]; omega
def innerOf (a : List Nat) : List Nat := (a.drop 4).take (a.length - 6)
def decodeBy (sort : Nat) (inner : List Nat) : List Int := if sort = 115 then sixOctets inner else markOctets inner
def wsort (a : List Nat) : List Nat := (a.drop 2).take 1
def wordSaying (a : List Nat) : Option (List Int) :=
  if (wsort a = [115] ∨ wsort a = [109]) ∧ innerOf a ≠ [] ∧ a = [61, 63] ++ wsort a ++ [63] ++ innerOf a ++ [63, 61] then
    (if codedWord (decodeBy ((wsort a).headD 0) (innerOf a)) ((wsort a).headD 0) = a ∧ (signsTold (decodeBy ((wsort a).headD 0) (innerOf a))).2 = (decodeBy ((wsort a).headD 0) (innerOf a)).length then some (signsTold (decodeBy ((wsort a).headD 0) (innerOf a))).1 else none)
  else none
/-! ### words -/
/-- the quoted word behind its first sign: its text, how many signs -/
def qw : List Nat → Option (List Nat × Nat)
  | [] => none
  | c :: r => if c = 34 then some ([], 1) else if c = 92 then (match r with
    | [] => none
    | d :: r' => (qw r').map fun q => (d :: q.1, q.2 + 2)) else (qw r).map fun q => (c :: q.1, q.2 + 1)
/-- the remark behind its first sign: how many signs -/
def rm : Nat → List Nat → Option Nat
  | _, [] => none
  | d, c :: r => if c = 40 then (rm (d + 1) r).map (· + 1) else if c = 41 then (if d = 1 then some 1 else (rm (d - 1) r).map (· + 1)) else if c = 92 then (match r with
    | [] => none
    | _ :: r' => (rm d r').map (· + 2)) else (rm d r).map (· + 1)
/-- sort, text, begin, end -/
structure Wd where
  sort : List Nat
  text : List Nat
  b : Nat
  e : Nat
def sAtom : List Nat := [97, 116, 111, 109]
def sQuoted : List Nat := [113, 117, 111, 116, 101, 100]
def sRemark : List Nat := [114, 101, 109, 97, 114, 107]
def sMark : List Nat := [109, 97, 114, 107]
/-- the word with which a text begins: sort, text, size -/
def word1 : List Nat → Option (List Nat × List Nat × Nat)
  | [] => none
  | c :: r => if c = 34 then (qw r).map fun q => (sQuoted, q.1, q.2 + 1) else if c = 40 then (rm 1 r).map fun n => (sRemark, r.take (n - 1), n + 1) else if c ∈ l_MARKS then some (sMark, [c], 1)
    else if c ∈ l_ATOM_SIGNS then some (sAtom, (c :: r).takeWhile (fun x => decide (x ∈ l_ATOM_SIGNS)), ((c :: r).takeWhile (fun x => decide (x ∈ l_ATOM_SIGNS))).length) else none
/-- a text, from a place on, is cut to these words -/
inductive Lex : Nat → List Nat → List Wd → Prop
  | nil {p : Nat} : Lex p [] []
  | blank {p : Nat} {r : List Nat} {ws : List Wd} : Lex (p + 1) r ws → Lex p (32 :: r) ws
  | word {p n : Nat} {l s t : List Nat} {ws : List Wd} : l.head? ≠ some 32 → word1 l = some (s, t, n) → Lex (p + n) (l.drop n) ws → Lex p l (⟨s, t, p, p + n⟩ :: ws)
def isAtom (l : List Nat) : Bool := !decide (l = []) && l.all fun c => decide (c ∈ l_ATOM_SIGNS)
def escQ (l : List Nat) : List Nat := l.flatMap fun c => if c = 34 ∨ c = 92 then [92, c] else [c]
def quotedIn (l : List Nat) : List Nat := if isAtom l = true then l else 34 :: escQ l ++ [34]
/-! ### phrases -/
def numbersOf (t : List Nat) : List Int := t.map fun (c : Nat) => (c : Int)
def phraseGo : Bool → Bool → List Wd → List Int
  | _, _, [] => []
  | first, was, w :: r =>
    let s := if w.sort = sAtom then wordSaying w.text else none
    (if first = false ∧ ¬ (was = true ∧ s.isSome = true) then [32] else []) ++ (s.getD (numbersOf w.text)) ++ phraseGo false s.isSome r
def phraseSaying (ws : List Wd) : List Int := phraseGo true true ws
end Mr
/-! Texts, and lists compared, told of data. -/
namespace Dl
open PySem L2 Evl
open Mr (stripC rstripC lstripC inL)
/-! ### texts as lists of signs -/
theorem drop_takeWhile {α : Type} (p : α → Bool) : ∀ l : List α, l.drop (l.takeWhile p).length = l.dropWhile p
  | [] => rfl
  | a :: r => by
    rw [List.takeWhile_cons, List.dropWhile_cons]
    by_cases h : p a = true
    · rw [if_pos h, if_pos h, List.length_cons, List.drop_succ_cons, drop_takeWhile p r]
    · rw [if_neg h, if_neg h] <;> rfl
theorem take_rev {α : Type} (p : α → Bool) (l : List α) : l.take (l.length - (l.reverse.takeWhile p).length) = (l.reverse.dropWhile p).reverse := by
  have h := drop_takeWhile p l.reverse
  rw [← h, List.drop_reverse, List.reverse_reverse]
theorem goes1 (c : Nat) : (Sx [c]).cps.contains = fun x => x == c := by
  funext x
  show (#[c] : Array Nat).contains x = _
  simp [Array.contains, Bool.beq_comm]
theorem strip_eq (l : List Nat) (c : Nat) : Txt.stripChars (Sx l) (Sx [c]) = Sx (stripC c l) := by
  refine TL.ext_tl ?_
  unfold Txt.stripChars
  rw [goes1, PyProof.Rows.stripBy_eq, TL.tl_strSub]
  have e0 : TL.tl (Sx l) = l := rfl
  have e1 : stripLo (fun x => x == c) true (Sx l) = (l.takeWhile (fun x => x == c)).length := rfl
  have e2 : stripHi (fun x => x == c) true (Sx l) (l.takeWhile (fun x => x == c)).length = l.length - ((l.drop (l.takeWhile (fun x => x == c)).length).reverse.takeWhile (fun x => x == c)).length := by
    show (Sx l).length - _ = _
    rw [Sx_len]
  rw [e0, e1, e2]
  generalize hk : (l.takeWhile (fun x => x == c)).length = k
  have e3 : l.drop k = l.dropWhile (fun x => x == c) := by rw [← hk, drop_takeWhile]
  have e4 : l.length - ((l.drop k).reverse.takeWhile (fun x => x == c)).length - k = (l.drop k).length - ((l.drop k).reverse.takeWhile (fun x => x == c)).length := by
    rw [List.length_drop]
    omega
  rw [e4, take_rev, e3]
  rfl
theorem rstrip_eq (l : List Nat) (c : Nat) : Txt.rstripChars (Sx l) (Sx [c]) = Sx (rstripC c l) := by
  refine TL.ext_tl ?_
  unfold Txt.rstripChars
  rw [goes1, PyProof.Rows.stripBy_eq, TL.tl_strSub]
  have e0 : TL.tl (Sx l) = l := rfl
  have e1 : stripLo (fun x => x == c) false (Sx l) = 0 := rfl
  have e2 : stripHi (fun x => x == c) true (Sx l) 0 = l.length - (l.reverse.takeWhile (fun x => x == c)).length := by
    show (Sx l).length - _ = _
    rw [Sx_len]
    rfl
  rw [e0, e1, e2, List.drop_zero, Nat.sub_zero, take_rev]
  rfl
theorem inL_iff (y : List Nat) : ∀ l : List Nat, inL y l = true ↔ ∃ i, i ≤ l.length ∧ TL.pre y (l.drop i) = true
  | [] => ⟨fun h => ⟨0, Nat.zero_le _, h⟩, fun ⟨i, _, h⟩ => by
    rw [List.drop_nil] at h
    exact h⟩
  | c :: r => by
    show (TL.pre y (c :: r) || inL y r) = true ↔ _
    rw [Bool.or_eq_true]
    constructor
    · rintro (h | h)
      · exact ⟨0, Nat.zero_le _, h⟩
      · obtain ⟨i, h1, h2⟩ := (inL_iff y r).mp h
        exact ⟨i + 1, Nat.succ_le_succ h1, h2⟩
    · rintro ⟨i, h1, h2⟩
      cases i with
      | zero => exact .inl h2
      | succ i => exact .inr ((inL_iff y r).mpr ⟨i, Nat.le_of_succ_le_succ h1, h2⟩)
theorem at_pre {x y : Str} {i : Nat} : StrLaws.At x y x.length i ↔ (i + y.length ≤ x.length ∧ TL.pre (TL.tl y) ((TL.tl x).drop i) = true) := by
  unfold StrLaws.At
  rw [StrLaws.subAt_eq, TL.len_tl y]
  exact Iff.rfl
theorem occ_in (x y : Str) : (!(Builtin.Str.occurrences x y 0 x.length 1).isEmpty) = inL (TL.tl y) (TL.tl x) := by
  rcases StrLaws.occ_head x y 1 (Nat.le_refl _) with ⟨h, hn⟩ | ⟨i, r, h, ha, _⟩
  · rw [h]
    symm
    show inL _ _ = false
    rw [Bool.eq_false_iff]
    intro hc
    obtain ⟨i, h1, h2⟩ := (inL_iff _ _).mp hc
    refine hn i (at_pre.mpr ⟨?_, h2⟩)
    have e : ((TL.tl x).drop i).take (TL.tl y).length = TL.tl y := eq_of_beq h2
    have e1 := congrArg List.length e
    rw [List.length_take, List.length_drop] at e1
    have hx := TL.len_tl x
    have hl := TL.len_tl y
    omega
  · rw [h]
    symm
    show inL _ _ = true
    have hh := at_pre.mp ha
    have hx := TL.len_tl x
    exact (inL_iff _ _).mpr ⟨i, by omega, hh.2⟩
theorem pre_one {c : Nat} {l : List Nat} : TL.pre [c] l = true ↔ l.head? = some c := by
  unfold TL.pre
  cases l with
  | nil => simp
  | cons a r => simp
/-- the place of the first c -/
theorem occ_one {l : List Nat} {c : Nat} : (c ∉ l ∧ Builtin.Str.occurrences (Sx l) (Sx [c]) 0 (Sx l).length 1 = []) ∨ (c ∈ l ∧ ∃ r, Builtin.Str.occurrences (Sx l) (Sx [c]) 0 (Sx l).length 1 = l.idxOf c :: r) := by
  have at1 : ∀ i, StrLaws.At (Sx l) (Sx [c]) (Sx l).length i ↔ l[i]? = some c := fun i => by
    rw [at_pre, Sx_len, Sx_len]
    show i + 1 ≤ l.length ∧ TL.pre [c] (l.drop i) = true ↔ _
    rw [pre_one, List.head?_drop]
    constructor
    · exact fun h => h.2
    · intro h
      have := (List.getElem?_eq_some_iff.mp h).1
      exact ⟨this, h⟩
  rcases StrLaws.occ_head (Sx l) (Sx [c]) 1 (Nat.le_refl _) with ⟨h, hn⟩ | ⟨i, r, h, ha, hb⟩
  · refine .inl ⟨fun hc => ?_, h⟩
    obtain ⟨i, hi, e⟩ := List.mem_iff_getElem.mp hc
    exact hn i ((at1 i).mpr (by rw [List.getElem?_eq_getElem hi, e]))
  · have hi := (at1 i).mp ha
    have hlt := (List.getElem?_eq_some_iff.mp hi).1
    have hm : c ∈ l := List.mem_of_getElem? hi
    refine .inr ⟨hm, r, ?_⟩
    rw [h]
    have e : i = l.idxOf c := by
      have h1 : l.idxOf c < l.length := List.idxOf_lt_length_of_mem hm
      have h2 : l[l.idxOf c]? = some c := by
        rw [List.getElem?_eq_getElem h1, List.getElem_idxOf h1]
      rcases Nat.lt_trichotomy i (l.idxOf c) with q | q | q
      · have := List.not_of_lt_findIdx (p := (· == c)) (xs := l) (i := i) q
        have e3 : l[i] = c := (List.getElem?_eq_some_iff.mp hi).2
        simp [e3] at this
      · exact q
      · exact absurd ((at1 _).mpr h2) (hb _ q)
    rw [e]
section
variable {S : Addr → Prop} {ρ ρ' : List Sl} {te to ta tb : TE} {t : TT} {K : PySem.W.Frag} {P : D → Prop} {i : Nat} {X : Cx}
/-! ### operators -/
theorem o_in1 {c : Nat} {l : List Nat} : OpV S rInS (.str [c]) (.str l) (.bl (decide (c ∈ l))) := fun G H b v w Q r1 r2 q => by
  cases r1; cases r2
  exact ⟨c, _, rfl, rfl, q _ _ G H rfl b.refl (.bl _)⟩
theorem o_ni1 {c : Nat} {l : List Nat} : OpV S rNotInS (.str [c]) (.str l) (.bl (!decide (c ∈ l))) := fun G H b v w Q r1 r2 q => by
  cases r1; cases r2
  exact ⟨c, _, rfl, rfl, q _ _ G H rfl b.refl (.bl _)⟩
def rInSS : R2 := fun x y H Q => ∃ i j, x = .str i ∧ y = .str j ∧ Q (.bl (!(Builtin.Str.occurrences j i 0 j.length 1).isEmpty)) H
theorem op_inSS : OpR X (compareOp .In) rInSS := op_in_str
theorem o_inS {y l : List Nat} : OpV S rInSS (.str y) (.str l) (.bl (inL y l)) := fun G H b v w Q r1 r2 q => by
  cases r1; cases r2
  exact ⟨_, _, rfl, rfl, q _ _ G H rfl b.refl (by rw [occ_in]; exact .bl _)⟩
theorem o_isN {x : D} (h : ∀ G v, Rp G v x → decide (v = V.non) = b) : OpV S rIsN x .non (.bl b) := fun G H bb v w Q r1 r2 q => by
  cases r2
  exact ⟨rfl, q _ _ G H rfl bb.refl (by rw [h G v r1]; exact .bl _)⟩
theorem o_notN {x : D} (h : ∀ G v, Rp G v x → decide (v = V.non) = b) : OpV S rNotN x .non (.bl (!b)) := fun G H bb v w Q r1 r2 q => by
  cases r2
  exact ⟨rfl, q _ _ G H rfl bb.refl (by rw [h G v r1]; exact .bl _)⟩
theorem isN_non {G : Hp} {v : V} (r : Rp G v .non) : decide (v = V.non) = true := by cases r; rfl
theorem isN_lst {G : Hp} {v : V} {ds : List D} (r : Rp G v (.lst ds)) : decide (v = V.non) = false := by cases r; rfl
theorem isN_str {G : Hp} {v : V} {s : List Nat} (r : Rp G v (.str s)) : decide (v = V.non) = false := by cases r; rfl
theorem isN_int {G : Hp} {v : V} {s : Int} (r : Rp G v (.int s)) : decide (v = V.non) = false := by cases r; rfl
/-! lists compared -/
mutual
def D.py : D → PyData
  | .non => .none
  | .bl b => .bool b
  | .int i => .int i
  | .str s => .str (Sx s)
  | .lst xs => .list (D.pys xs)
  | .tup xs => .tuple (D.pys xs)
def D.pys : List D → List PyData
  | [] => []
  | d :: r => d.py :: D.pys r
end
mutual
theorem Rp.dp {G H : Hp} (e : Ex G H) : ∀ {v : V} {d : D}, Rp G v d → Dp K H v d.py
  | _, _, .non => .non
  | _, _, .bl b => .bl b
  | _, _, .int i => .int i
  | _, _, .str s => .str _
  | _, _, .lst h r => .lst (SqL.of (e _ _ h)) (RpL.dp e r)
  | _, _, .tup h r => .tup (SqT.of (e _ _ h)) (RpL.dp e r)
theorem RpL.dp {G H : Hp} (e : Ex G H) : ∀ {vs : List V} {ds : List D}, RpL G vs ds → DpAll K H vs (D.pys ds)
  | _, _, .nil => .nil
  | _, _, .cons h r => .cons (Rp.dp e h) (RpL.dp e r)
end
theorem o_neD {x y : D} {b : Bool} (h1 : SeqAt.shaped x.py = true) (h2 : SeqAt.shaped y.py = true) (e : PyData.eqv x.py y.py = b) : OpV S (rNeD K) x y (.bl (!b)) := fun G H bb v w Q r1 r2 q =>
  ⟨_, _, r1.dp bb.ext, r2.dp bb.ext, h1, h2, q _ _ G H rfl bb.refl (by rw [e]; exact .bl _)⟩
theorem o_eqD {x y : D} {b : Bool} (h1 : SeqAt.shaped x.py = true) (h2 : SeqAt.shaped y.py = true) (e : PyData.eqv x.py y.py = b) : OpV S (rEqD K) x y (.bl b) := fun G H bb v w Q r1 r2 q =>
  ⟨_, _, r1.dp bb.ext, r2.dp bb.ext, h1, h2, q _ _ G H rfl bb.refl (by rw [e]; exact .bl _)⟩
/-! texts times a number -/
def rMulS : R2 := fun x y H Q => ∃ (a : Str) (n : Int), x = .str a ∧ y = .int n ∧ MulOk a n ∧ Q (.str (Txt.mul a n)) H
theorem op_mulS : OpR X (binaryOp .Mult) rMulS := by
  intro pins s σ H x y v u Q I rx ry h
  obtain ⟨a, n, rfl, rfl, hok, q⟩ := h
  obtain ⟨t, rfl⟩ := rx
  obtain ⟨t', rfl⟩ := ry
  exact SB.mul hok fun t'' k => ⟨.str _, H, I.tok k, ⟨t'', rfl⟩, q⟩
def timesL (l : List Nat) (n : Int) : List Nat := (List.replicate n.toNat l).flatten
theorem foldl_app (a : Array Nat) : ∀ (n : Nat) (acc : Array Nat), ((List.replicate n a).foldl (· ++ ·) acc).toList = acc.toList ++ (List.replicate n a.toList).flatten
  | 0, acc => by simp
  | n + 1, acc => by
    rw [List.replicate_succ, List.foldl_cons, foldl_app a n, List.replicate_succ, List.flatten_cons, Array.toList_append, List.append_assoc]
theorem mul_eq (l : List Nat) (n : Int) : Txt.mul (Sx l) n = Sx (timesL l n) := by
  refine TL.ext_tl ?_
  unfold Txt.mul timesL
  by_cases h1 : n < 1
  · rw [if_pos h1]
    have : n.toNat = 0 := by omega
    rw [this]
    rfl
  · rw [if_neg h1]
    by_cases h2 : (n == 1 || (Sx l).length == 0) = true
    · rw [if_pos h2]
      rw [Bool.or_eq_true, beq_iff_eq, beq_iff_eq, Sx_len] at h2
      show l = (List.replicate n.toNat l).flatten
      rcases h2 with e | e
      · rw [e]
        simp
      · have : l = [] := List.length_eq_zero_iff.mp e
        rw [this]
        symm
        simp
    · rw [if_neg h2]
      show ((List.replicate n.toNat l.toArray).foldl (· ++ ·) #[]).toList = (List.replicate n.toNat l).flatten
      rw [foldl_app]
      simp
theorem mulOk {l : List Nat} {n : Int} (h0 : -1000 ≤ n) (h1 : n ≤ 1000) (h2 : l.length ≤ 1000) : MulOk (Sx l) n := by
  refine ⟨?_, fun _ _ => ?_, fun _ _ => ?_⟩
  · rw [decide_eq_false (by omega), decide_eq_false (by omega)] <;> rfl
  · rw [Sx_len]
    intro hc
    have h3 : (2 ^ 63 - 1) / n ≥ 1000 := by
      rename_i h4 _
      have h5 : (1000 : Int) * n ≤ 2 ^ 63 - 1 := by omega
      exact (Int.le_ediv_iff_mul_le (by omega)).mpr h5
    omega
  · rw [Sx_len]
    have h5 : l.length * n.toNat ≤ 1000 * 1000 := Nat.mul_le_mul h2 (by omega)
    show decide (_ > _) = false
    refine decide_eq_false ?_
    show ¬ l.length * n.toNat > sizeLine
    rw [sizeLine_eq]
    omega
theorem o_mulS {l : List Nat} {n : Int} (h0 : -1000 ≤ n) (h1 : n ≤ 1000) (h2 : l.length ≤ 1000) : OpV S rMulS (.str l) (.int n) (.str (timesL l n)) := fun G H b v w Q r1 r2 q => by
  cases r1; cases r2
  exact ⟨_, n, rfl, rfl, mulOk h0 h1 h2, q _ _ G H rfl b.refl (by rw [mul_eq]; exact .str _)⟩
end
end Dl
/-! Calls of built-ins, methods of texts, told of data. -/
namespace Dl
open PySem L2 Evl
open Mr (stripC rstripC lstripC inL)
def rLenT : List V → Hp → VK → Prop := fun xs H Q => ∃ z, xs = [.str z] ∧ z.length ≤ sizeLine ∧ Q (.int z.length) H
def rLenL (K : PySem.W.Frag) : List V → Hp → VK → Prop := fun xs H Q => ∃ p ys, xs = [.ref p] ∧ (SqL K H p ys ∨ SqT K H p ys) ∧ Q (.int ys.length) H
def rInt1 : List V → Hp → VK → Prop := fun xs H Q => (∃ i, xs = [.int i] ∧ Q (.int i) H) ∨ ∃ k, xs = [.bl k] ∧ Q (.int (if k then 1 else 0)) H
def rMax2 : List V → Hp → VK → Prop := fun xs H Q => ∃ i j, xs = [.int i, .int j] ∧ Q (.int (if j > i then j else i)) H
def rMin2 : List V → Hp → VK → Prop := fun xs H Q => ∃ i j, xs = [.int i, .int j] ∧ Q (.int (if j < i then j else i)) H
def rStrip : V → List V → Hp → VK → Prop := fun x xs H Q => ∃ a b, x = .str a ∧ xs = [.str b] ∧ a.length ≤ sizeLine ∧ Q (.str (Txt.stripChars a b)) H
def rRstrip : V → List V → Hp → VK → Prop := fun x xs H Q => ∃ a b, x = .str a ∧ xs = [.str b] ∧ a.length ≤ sizeLine ∧ Q (.str (Txt.rstripChars a b)) H
def rSplit : V → List V → Hp → VK → Prop := fun x xs H Q => ∃ a b, x = .str a ∧ xs = [.str b] ∧ (b.length == 0) = false ∧ a.length + 2 ≤ sizeLine ∧ rNewStrs (Txt.split a b) H Q
def rPart : V → List V → Hp → VK → Prop := fun x xs H Q => ∃ a b, x = .str a ∧ xs = [.str b] ∧ (b.length == 0) = false ∧ a.length ≤ sizeLine ∧ ∀ p, H p = none → Q (.ref p) (upd H p (.tup [.str (Txt.partition a b).1, .str (Txt.partition a b).2.1, .str (Txt.partition a b).2.2]))
def rJoin (K : PySem.W.Frag) : V → List V → Hp → VK → Prop := fun x xs H Q => ∃ a p, ∃ ys : List PySem.Str, x = .str a ∧ xs = [.ref p] ∧ (SqL K H p (ys.map V.str) ∨ SqT K H p (ys.map V.str)) ∧ (ys.map (·.length)).sum + ys.length * a.length ≤ 16777216 ∧ Q (.str (Txt.join a ys)) H
def rFind : V → List V → Hp → VK → Prop := fun x xs H Q => ∃ a b, x = .str a ∧ xs = [.str b] ∧ Q (.int (Txt.find a b)) H
def rIndex : V → List V → Hp → VK → Prop := fun x xs H Q => ∃ a b i rest, x = .str a ∧ xs = [.str b] ∧ Builtin.Str.occurrences a b 0 a.length 1 = i :: rest ∧ Q (.int (i : Nat)) H
def rStarts : V → List V → Hp → VK → Prop := fun x xs H Q => ∃ a b, x = .str a ∧ xs = [.str b] ∧ Q (.bl (Txt.startswith a b)) H
def rLower : V → List V → Hp → VK → Prop := fun x xs H Q => ∃ a, x = .str a ∧ xs = [] ∧ a.length ≤ 5592405 ∧ Q (.str (Txt.lower a)) H
def rUpper : V → List V → Hp → VK → Prop := fun x xs H Q => ∃ a, x = .str a ∧ xs = [] ∧ a.length ≤ 5592405 ∧ Q (.str (Txt.upper a)) H
section
variable {X : Cx}
theorem cl_lenT : CallR X (.builtin "len") rLenT := call_len_str
theorem cl_lenL : CallR X (.builtin "len") (rLenL X.K) := call_len_seq
theorem cl_int1 : CallR X (.type "int") rInt1 := call_int1
theorem cl_max2 (h : X.calm = true) : CallR X (.builtin "max") rMax2 := call_max2 h
theorem cl_min2 (h : X.calm = true) : CallR X (.builtin "min") rMin2 := call_min2 h
theorem m_strip : MtR X "str.strip" rStrip := mt_stripChars
theorem m_rstrip : MtR X "str.rstrip" rRstrip := mt_rstripChars
theorem m_split : MtR X "str.split" rSplit := mt_split
theorem m_part : MtR X "str.partition" rPart := mt_partition
theorem m_join : MtR X "str.join" (rJoin X.K) := mt_join
theorem m_find : MtR X "str.find" rFind := mt_find
theorem m_index : MtR X "str.index" rIndex := mt_sindex
theorem m_starts : MtR X "str.startswith" rStarts := mt_startswith
theorem m_lower : MtR X "str.lower" rLower := mt_lower
theorem m_upper : MtR X "str.upper" rUpper := mt_upper
end
section
variable {S : Addr → Prop} {ρ ρ' : List Sl} {te to ta tb : TE} {t : TT} {K : PySem.W.Frag} {P : D → Prop} {i : Nat}
theorem cd_lenT {l : List Nat} (h : l.length ≤ sizeLine) : ClV S rLenT [.str l] (.int l.length) := fun G H b vs Q r q => by
  cases r with
  | cons r rr =>
    cases r; cases rr
    exact ⟨_, rfl, by rw [Sx_len]; exact h, q _ _ G H rfl b.refl (by rw [Sx_len]; exact .int _)⟩
theorem cd_lenL {xs : List D} : ClV S (rLenL K) [.lst xs] (.int xs.length) := fun G H b vs Q r q => by
  cases r with
  | cons r rr =>
    cases rr
    obtain ⟨p, vs, rfl, hp, r2⟩ := r.lst_inv
    exact ⟨p, vs, rfl, .inl (sq_l b hp), q _ _ G H rfl b.refl (by rw [r2.length]; exact .int _)⟩
theorem cd_lenU {xs : List D} : ClV S (rLenL K) [.tup xs] (.int xs.length) := fun G H b vs Q r q => by
  cases r with
  | cons r rr =>
    cases rr
    obtain ⟨p, vs, rfl, hp, r2⟩ := r.tup_inv
    exact ⟨p, vs, rfl, .inr (sq_t b hp), q _ _ G H rfl b.refl (by rw [r2.length]; exact .int _)⟩
theorem cd_int {k : Bool} : ClV S rInt1 [.bl k] (.int (if k then 1 else 0)) := fun G H b vs Q r q => by
  cases r with
  | cons r rr =>
    cases r; cases rr
    exact .inr ⟨k, rfl, q _ _ G H rfl b.refl (.int _)⟩
theorem cd_max {i j : Int} : ClV S rMax2 [.int i, .int j] (.int (if j > i then j else i)) := fun G H b vs Q r q => by
  cases r with
  | cons r rr =>
    cases rr with
    | cons r' rr =>
      cases r; cases r'; cases rr
      exact ⟨i, j, rfl, q _ _ G H rfl b.refl (.int _)⟩
theorem cd_min {i j : Int} : ClV S rMin2 [.int i, .int j] (.int (if j < i then j else i)) := fun G H b vs Q r q => by
  cases r with
  | cons r rr =>
    cases rr with
    | cons r' rr =>
      cases r; cases r'; cases rr
      exact ⟨i, j, rfl, q _ _ G H rfl b.refl (.int _)⟩
theorem cd_all {bs : List Bool} : ClV S (rAll K) [.lst (bs.map D.bl)] (.bl (bs.all id)) := fun G H b vs Q r q => by
  cases r with
  | cons r rr =>
    cases rr
    obtain ⟨p, vs, rfl, hp, r2⟩ := r.lst_inv
    exact ⟨p, bs, rfl, by rw [← r2.bl_inv]; exact sq_l b hp, q _ _ G H rfl b.refl (.bl _)⟩
/-- isinstance -/
def tyn : D → String
  | .non => "NoneType"
  | .bl _ => "bool"
  | .int _ => "int"
  | .str _ => "str"
  | .lst _ => "list"
  | .tup _ => "tuple"
theorem ev_isi {d : D} {T : String} {b : Bool} (h : EvV S te ρ d) (hd : d ≠ .non) (hk : kitB (tyn d) T = some b) : EvV S (tCB (rIsi K) (tCons te (tCons (tC (.ty T)) tNil))) ρ (.bl b) := fun F G H σ c Q q =>
  h F G H σ c _ fun v d' G1 H1 e g r => by
    subst e
    refine ⟨v, .ty T, .type (tyn d'), .type T, b, rfl, .ty T, ?_, kit_ty hk, q _ _ G1 H1 rfl g (.bl b)⟩
    cases r with
    | non => exact absurd rfl hd
    | bl b => exact .base (.bl b)
    | int i => exact .base (.int i)
    | str s => exact .base (.str _)
    | lst h1 _ => exact .base (.lst (g.gh _ _ h1))
    | tup h1 _ => exact .base (.tup (g.gh _ _ h1))
/-! ### methods of texts -/
theorem ev_bm {r : V → List V → Hp → VK → Prop} {ta : TA} {l : List Nat} {ys : List D} {z : D} (ho : EvV S to ρ (.str l)) (ha : EvAV S ta ρ ys) (hm : MtD S r (.str l) ys z) : EvV S (tBM K "str" r to ta) ρ z := fun F G H σ c Q q =>
  ho F G H σ c _ fun v d G1 H1 e g1 r1 => by
    subst e
    cases r1
    refine ⟨rfl, ha F G1 H1 σ (c.go g1) _ fun vs ds G2 H2 e2 g2 r2 => ?_⟩
    subst e2
    have g12 := g1.trans c.base g2
    exact hm G2 H2 (c.go g12).base _ vs Q (.str l) r2 fun u G3 H3 g3 r3 => q u z G3 H3 rfl (g12.trans c.base g3) r3
theorem ev_bm0 {r : V → List V → Hp → VK → Prop} {l : List Nat} {z : D} (ho : EvV S to ρ (.str l)) (hm : MtD S r (.str l) [] z) : EvV S (tBM0 K "str" r to) ρ z := fun F G H σ c Q q =>
  ho F G H σ c _ fun v d G1 H1 e g1 r1 => by
    subst e
    cases r1
    exact ⟨rfl, hm G1 H1 (c.go g1).base _ [] Q (.str l) .nil fun u G3 H3 g3 r3 => q u z G3 H3 rfl (g1.trans c.base g3) r3⟩
theorem md_strip {l : List Nat} {c : Nat} (h : l.length ≤ sizeLine) : MtD S rStrip (.str l) [.str [c]] (.str (stripC c l)) := fun G H b v vs Q r rs q => by
  cases rs with
  | cons r1 rr =>
    cases r; cases r1; cases rr
    exact ⟨_, _, rfl, rfl, by rw [Sx_len]; exact h, q _ G H b.refl (by rw [strip_eq]; exact .str _)⟩
theorem md_rstrip {l : List Nat} {c : Nat} (h : l.length ≤ sizeLine) : MtD S rRstrip (.str l) [.str [c]] (.str (rstripC c l)) := fun G H b v vs Q r rs q => by
  cases rs with
  | cons r1 rr =>
    cases r; cases r1; cases rr
    exact ⟨_, _, rfl, rfl, by rw [Sx_len]; exact h, q _ G H b.refl (by rw [rstrip_eq]; exact .str _)⟩
theorem md_find {l : List Nat} {c : Nat} : MtD S rFind (.str l) [.str [c]] (.int (if c ∈ l then (l.idxOf c : Int) else -1)) := fun G H b v vs Q r rs q => by
  cases rs with
  | cons r1 rr =>
    cases r; cases r1; cases rr
    refine ⟨_, _, rfl, rfl, q _ G H b.refl ?_⟩
    unfold Txt.find
    rcases occ_one (l := l) (c := c) with ⟨h1, h2⟩ | ⟨h1, rest, h2⟩
    · rw [h2, if_neg h1]
      exact .int _
    · rw [h2, if_pos h1]
      exact .int _
theorem md_index {l : List Nat} {c : Nat} (h : c ∈ l) : MtD S rIndex (.str l) [.str [c]] (.int (l.idxOf c : Nat)) := fun G H b v vs Q r rs q => by
  cases rs with
  | cons r1 rr =>
    cases r; cases r1; cases rr
    rcases occ_one (l := l) (c := c) with ⟨h1, _⟩ | ⟨h1, rest, h2⟩
    · exact absurd h h1
    · exact ⟨_, _, _, rest, rfl, rfl, h2, q _ G H b.refl (.int _)⟩
theorem md_starts {l : List Nat} {c : Nat} : MtD S rStarts (.str l) [.str [c]] (.bl (TL.pre [c] l)) := fun G H b v vs Q r rs q => by
  cases rs with
  | cons r1 rr =>
    cases r; cases r1; cases rr
    refine ⟨_, _, rfl, rfl, q _ G H b.refl ?_⟩
    have e : Txt.startswith (Sx l) (Sx [c]) = TL.pre [c] l := by
      unfold Txt.startswith
      rw [StrLaws.subAt_eq, List.drop_zero, Sx_len, Sx_len]
      show (decide (0 + 1 ≤ l.length) && (l.take 1 == [c])) = (l.take 1 == [c])
      cases l with
      | nil => rfl
      | cons a r => simp
    rw [e]
    exact .bl _
theorem Sx_lt {l : List Nat} (h : ∀ c ∈ l, c < 128) : ∀ c ∈ (Sx l).cps.toList, c < 128 := h
theorem md_lower {l : List Nat} (h : ∀ c ∈ l, c < 128) (hl : l.length ≤ 5592405) : MtD S rLower (.str l) [] (.str (l.map PyProof.Rows.lo1)) := fun G H b v vs Q r rs q => by
  cases r; cases rs
  refine ⟨_, rfl, rfl, by rw [Sx_len]; exact hl, q _ G H b.refl ?_⟩
  rw [PyProof.Rows.lower_ascii (Sx_lt h)]
  have e : (⟨(Sx l).cps.map PyProof.Rows.lo1⟩ : PySem.Str) = Sx (l.map PyProof.Rows.lo1) := by
    show (⟨l.toArray.map PyProof.Rows.lo1⟩ : PySem.Str) = _
    simp
  rw [e]
  exact .str _
theorem md_upper {l : List Nat} (h : ∀ c ∈ l, c < 128) (hl : l.length ≤ 5592405) : MtD S rUpper (.str l) [] (.str (l.map PyProof.Rows.up1)) := fun G H b v vs Q r rs q => by
  cases r; cases rs
  refine ⟨_, rfl, rfl, by rw [Sx_len]; exact hl, q _ G H b.refl ?_⟩
  rw [PyProof.Rows.upper_ascii (Sx_lt h)]
  have e : (⟨(Sx l).cps.map PyProof.Rows.up1⟩ : PySem.Str) = Sx (l.map PyProof.Rows.up1) := by
    show (⟨l.toArray.map PyProof.Rows.up1⟩ : PySem.Str) = _
    simp
  rw [e]
  exact .str _
def lens (ss : List (List Nat)) : Nat := (ss.map (·.length)).sum
theorem lens_Sx : ∀ ss : List (List Nat), ((ss.map Sx).map (·.length)).sum = lens ss
  | [] => rfl
  | s :: r => by
    show (Sx s).length + ((r.map Sx).map (·.length)).sum = s.length + lens r
    rw [Sx_len, lens_Sx r]
theorem joinL_eq (y : List Nat) : ∀ ss : List (List Nat), TL.joinL y ss = Mr.joinL y ss
  | [] => rfl
  | [_] => rfl
  | p :: q :: r => by
    show p ++ (y ++ TL.joinL y (q :: r)) = p ++ (y ++ Mr.joinL y (q :: r))
    rw [joinL_eq y (q :: r)]
theorem join_eq (y : List Nat) (ss : List (List Nat)) : Txt.join (Sx y) (ss.map Sx) = Sx (Mr.joinL y ss) := by
  refine TL.ext_tl ?_
  rw [TL.join_eq, TL.tl_join, List.map_map, ← joinL_eq]
  have e : (TL.tl ∘ Sx) = id := by funext l; rfl
  rw [e, List.map_id]
theorem md_join {y : List Nat} {ss : List (List Nat)} (h : lens ss + ss.length * y.length ≤ 16777216) : MtD S (rJoin K) (.str y) [.lst (ss.map D.str)] (.str (Mr.joinL y ss)) := fun G H b v vs Q r rs q => by
  cases rs with
  | cons r1 rr =>
    cases r; cases rr
    obtain ⟨p, vs, rfl, hp, r2⟩ := r1.lst_inv
    refine ⟨_, p, ss.map Sx, rfl, rfl, .inl (by rw [← r2.str_inv]; exact sq_l b hp), ?_, q _ G H b.refl (by rw [join_eq]; exact .str _)⟩
    rw [lens_Sx, List.length_map, Sx_len]
    exact h
/-- split at a sign below 256 -/
theorem ef_split {ta : TA} {l : List Nat} {c : Nat} (ho : EvV S to ρ (.str l)) (ha : EvAV S ta ρ [.str [c]]) (hc : c < 256) (hl : l.length + 2 ≤ sizeLine) : EvF S (tBM K "str" rSplit to ta) ρ (fun x => x = (TL.spl [c] 0 [] l).map D.str) := fun F G H σ c0 Q q =>
  ho F G H σ c0 _ fun v d G1 H1 e g1 r1 => by
    subst e
    cases r1
    refine ⟨rfl, ha F G1 H1 σ (c0.go g1) _ fun vs ds G2 H2 e2 g2 r2 => ?_⟩
    subst e2
    cases r2 with
    | cons r2 rr =>
      cases r2; cases rr
      have g12 := g1.trans c0.base g2
      refine ⟨_, _, rfl, rfl, by rw [Sx_len] <;> rfl, by rw [Sx_len]; exact hl, fun p hp => ?_⟩
      have b2 := (c0.go g12).base
      have gn : G2 p = none := by
        cases e : G2 p with
        | none => rfl
        | some o => rw [b2.ext _ _ e] at hp; cases hp
      have hs : Txt.split (Sx l) (Sx [c]) = (TL.spl [c] 0 [] l).map Sx := by
        refine TL.map_tl_inj ?_
        rw [TL.split_spl _ _ (by show [c] ≠ []; simp) (TL.kind_ok (by show (#[c] : Array Nat).all (· < 256) = true; simp [hc])), List.map_map]
        have e : (TL.tl ∘ Sx) = id := by funext l; rfl
        rw [e, List.map_id]
      rw [hs]
      exact q p _ _ G2 _ rfl (g12.trans c0.base (Go.mut b2 hp)) (g12.fresh c0.base hp) upd_same gn (RpL.strs _)
/-- what stands ahead of the first c, c, what stands behind -/
def partC (c : Nat) (l : List Nat) : List D := match TL.par [c] [] l with
  | some (a, b) => [.str a, .str [c], .str b]
  | none => [.str l, .str [], .str []]
theorem ev_part {ta : TA} {l : List Nat} {c : Nat} (ho : EvV S to ρ (.str l)) (ha : EvAV S ta ρ [.str [c]]) (hl : l.length ≤ sizeLine) : EvV S (tBM K "str" rPart to ta) ρ (.tup (partC c l)) := fun F G H σ c0 Q q =>
  ho F G H σ c0 _ fun v d G1 H1 e g1 r1 => by
    subst e
    cases r1
    refine ⟨rfl, ha F G1 H1 σ (c0.go g1) _ fun vs ds G2 H2 e2 g2 r2 => ?_⟩
    subst e2
    cases r2 with
    | cons r2 rr =>
      cases r2; cases rr
      have g12 := g1.trans c0.base g2
      refine ⟨_, _, rfl, rfl, by rw [Sx_len] <;> rfl, by rw [Sx_len]; exact hl, fun p hp => ?_⟩
      have b2 := (c0.go g12).base
      rw [TL.partition_par _ _ (by show [c] ≠ []; simp)]
      unfold partC at q
      show Q _ _
      have e1 : TL.tl (Sx [c]) = [c] := rfl
      have e2 : TL.tl (Sx l) = l := rfl
      rw [e1, e2]
      cases hp2 : TL.par [c] [] l with
      | none =>
        rw [hp2] at q
        exact q _ _ (upd G2 p (.tup [.str (Sx l), .str (Sx []), .str (Sx [])])) _ rfl (g12.trans c0.base (Go.new b2 hp)) (.tup upd_same (.cons (.str _) (.cons (.str _) (.cons (.str _) .nil))))
      | some ab =>
        obtain ⟨a, b⟩ := ab
        rw [hp2] at q
        exact q _ _ (upd G2 p (.tup [.str (Sx a), .str (Sx [c]), .str (Sx b)])) _ rfl (g12.trans c0.base (Go.new b2 hp)) (.tup upd_same (.cons (.str _) (.cons (.str _) (.cons (.str _) .nil))))
/-- replace of a written sign by written ones -/
theorem ev_repl {l : List Nat} {c : Nat} {z : List Nat} (ho : EvV S to ρ (.str l)) (h : l.length + (l.length + 1) * z.length ≤ 16777216) : EvV S (CwR.tReplC to (Sx [c]) (Sx z)) ρ (.str (StrLaws.replL [c] z l)) := fun F G H σ c0 Q q =>
  ho F G H σ c0 _ fun v d G1 H1 e g1 r1 => by
    subst e
    cases r1
    refine ⟨_, rfl, by rw [Sx_len, Sx_len]; exact h, q _ _ G1 H1 rfl g1 ?_⟩
    have e : Txt.replace (Sx l) (Sx [c]) (Sx z) = Sx (StrLaws.replL [c] z l) := TL.ext_tl (StrLaws.replace_list (by rw [Sx_len] <;> exact Nat.le_refl 1))
    rw [e]
    exact .str _
end
end Dl
/-! Handy forms. -/
namespace Dl
open PySem L2 Evl
theorem sz1 {n : Nat} (h : Nat.ble n 1000000 = true) : n ≤ sizeLine := small_sz (Nat.le_of_ble_eq_true h)
theorem sz {n : Nat} (h : n ≤ 1000000) : n ≤ sizeLine := small_sz h
theorem sz' {n : Nat} (h : n < 1000000) : n < sizeLine := Nat.lt_of_lt_of_le h (by decide)
theorem cmulL {i j : Int} (h : -(2 ^ 64) < i ∧ i < 2 ^ 64) : CMul i j := .inl h
theorem cmulR {i j : Int} (h : -(2 ^ 64) < j ∧ j < 2 ^ 64) : CMul i j := .inr h
theorem rg_get {lo c : Int} {n k : Nat} {d : D} (h : (rg lo c n)[k]? = some d) : k < n ∧ d = .int (lo + (k : Int) * c) := by
  unfold rg at h
  rw [List.getElem?_map] at h
  by_cases hk : k < n
  · rw [List.getElem?_range hk] at h
    exact ⟨hk, (Option.some.inj h).symm⟩
  · rw [List.getElem?_eq_none (by rw [List.length_range]; omega)] at h
    cases h
theorem rg_len {lo c : Int} {n : Nat} : (rg lo c n).length = n := by simp [rg]
theorem OpD.cast {S : Addr → Prop} {r : R2} {x y z z' : D} (h : OpV S r x y z) (e : z = z') : OpV S r x y z' := e ▸ h
theorem cdiv {i j : Int} (h : 0 < j ∧ j < 1073741824) : CDiv i j := h
theorem cdivW {i j : Int} (h : 0 < j ∧ j.natAbs.log2 < 9000) : CDivW i j := h
theorem ClV.cast {S : Addr → Prop} {r : List V → Hp → VK → Prop} {xs ys : List D} {z : D} (h : ClV S r xs z) (e : xs = ys) : ClV S r ys z := e ▸ h
/-! slices -/
theorem cut_to {α : Type} (l : List α) (n : Nat) : cut l none (some (n : Int)) = l.take n := by
  unfold cut
  rw [HT.sIx_none, HT.sIx_nat, List.drop_zero, Nat.sub_zero]
  rcases Nat.le_total n l.length with h | h
  · rw [Nat.min_eq_left h]
  · rw [Nat.min_eq_right h, List.take_length, List.take_of_length_le h]
theorem cut_from {α : Type} (l : List α) (n : Nat) : cut l (some (n : Int)) none = l.drop n := by
  unfold cut
  rw [HT.sIx_none, HT.sIx_nat]
  rcases Nat.le_total n l.length with h | h
  · rw [Nat.min_eq_left h, List.take_of_length_le (by rw [List.length_drop]; exact Nat.le_refl _)]
  · rw [Nat.min_eq_right h, List.drop_length, List.drop_eq_nil_of_le h, List.take_nil]
theorem cut_mid {α : Type} (l : List α) (a b : Nat) : cut l (some (a : Int)) (some (b : Int)) = (l.drop a).take (b - a) := by
  unfold cut
  rw [HT.sIx_nat, HT.sIx_nat]
  rcases Nat.le_total a l.length with h | h
  · rw [Nat.min_eq_left h]
    rcases Nat.le_total b l.length with h2 | h2
    · rw [Nat.min_eq_left h2]
    · rw [Nat.min_eq_right h2, List.take_of_length_le (by rw [List.length_drop]; exact Nat.le_refl _), List.take_of_length_le (by rw [List.length_drop]; omega)]
  · rw [Nat.min_eq_right h, List.drop_length, List.drop_eq_nil_of_le h, List.take_nil, List.take_nil]
theorem cut_neg {α : Type} (l : List α) (a b : Nat) (hb : 0 < b) : cut l (some (a : Int)) (some (-(b : Int))) = (l.drop a).take (l.length - b - a) := by
  unfold cut
  rw [HT.sIx_nat]
  have e : HT.sIx l.length l.length (some (-(b : Int))) = l.length - b := by
    show (if -(b : Int) < 0 then (-(b : Int) + (l.length : Int)).toNat else min (-(b : Int)).toNat l.length) = _
    rw [if_pos (by omega)]
    omega
  rw [e]
  rcases Nat.le_total a l.length with h | h
  · rw [Nat.min_eq_left h]
  · rw [Nat.min_eq_right h, List.drop_length, List.drop_eq_nil_of_le h, List.take_nil, List.take_nil]
theorem cut_map {α β : Type} (f : α → β) (l : List α) (lo hi : Option Int) : cut (l.map f) lo hi = (cut l lo hi).map f := by
  unfold cut
  rw [List.length_map, ← List.map_drop, ← List.map_take]
/-! items -/
theorem atI_nat {α : Type} {l : List α} {k : Nat} {x : α} (h : l[k]? = some x) : atI l (k : Int) = some x := by
  unfold atI ixN
  have := (List.getElem?_eq_some_iff.mp h).1
  rw [if_pos (by omega), if_pos (by omega)]
  exact h
theorem atI_int {α : Type} {l : List α} {i : Int} {x : α} (h0 : 0 ≤ i) (h : l[i.toNat]? = some x) : atI l i = some x := by
  have e : i = (i.toNat : Int) := by omega
  rw [e]
  exact atI_nat h
theorem atI_last {α : Type} {l : List α} {x : α} (h : l.getLast? = some x) : atI l (-1) = some x := by
  unfold atI ixN
  cases l with
  | nil => cases h
  | cons a r =>
    rw [if_neg (by omega), if_pos (by simp; omega)]
    rw [List.getLast?_eq_getElem?] at h
    show (a :: r)[(-1 + ((a :: r).length : Int)).toNat]? = _
    rw [← h]
    congr 1
    simp
    omega
theorem rgC3 {n : Nat} {c : Nat} (hc : 0 < c) (hc2 : c < 1000) (hn : n ≤ 1000000) : RgC 0 (n : Int) (c : Int) ((n + (c - 1)) / c) := by
  refine ⟨by omega, by omega, ?_, ?_⟩
  · have h1 : 0 ≤ ((n : Int) + (c : Int) - 1) / (c : Int) := Int.ediv_nonneg (by omega) (by omega)
    have h2 : ((n : Int) + (c : Int) - 1) / (c : Int) ≤ (n : Int) + (c : Int) - 1 := Int.ediv_le_self _ (by omega)
    unfold Builtin.Range.small
    rw [PyProof.Rows.rangeSize_pos (by omega) (by omega)]
    generalize ((n : Int) + (c : Int) - 1) / (c : Int) = q at h1 h2
    simp only [Builtin.Range.rangeFitsLong, Bool.and_eq_true, Bool.or_eq_true, decide_eq_true_eq, beq_iff_eq]
    have hc0 : (0 : Int) < (c : Int) := by omega
    rw [if_pos hc0]
    refine ⟨by omega, ?_⟩
    right
    rw [Bool.and_eq_true, decide_eq_true_eq, decide_eq_true_eq]
    omega
  · rw [PyProof.Rows.rangeSize_pos (by omega) (by omega)]
    have : ((n : Int) + (c : Int) - 1) = ((n + (c - 1) : Nat) : Int) := by omega
    rw [this]
    exact (Int.natCast_ediv _ _).symm
theorem decI {p q : Prop} [Decidable p] [Decidable q] (h : p ↔ q) : decide p = decide q := decide_eq_decide.mpr h
theorem blI {p q : Prop} [Decidable p] [Decidable q] (h : p ↔ q) : D.bl (decide p) = D.bl (decide q) := congrArg D.bl (decI h)
section
variable {S : Addr → Prop} {ρ ρ' : List Sl} {te to ta tb : TE} {t : TT} {K : PySem.W.Frag} {P : D → Prop} {i : Nat} {a b t2 : TS} {N : List Sl → Prop} {R : D → Prop}
theorem run_ifD {p : Prop} [Decidable p] (h : EvB S t ρ (decide p)) (h1 : p → Run S (tSeq a t2) ρ N R) (h2 : ¬ p → Run S (tSeq b t2) ρ N R) : Run S (tSeq (tIfS t a b) t2) ρ N R :=
  run_if h (fun e => h1 (of_decide_eq_true e)) fun e => h2 (of_decide_eq_false e)
theorem run_ifN {p : Prop} [Decidable p] (h : EvB S t ρ (!decide p)) (h1 : ¬ p → Run S (tSeq a t2) ρ N R) (h2 : p → Run S (tSeq b t2) ρ N R) : Run S (tSeq (tIfS t a b) t2) ρ N R :=
  run_if h (fun e => h1 (by simpa using e)) fun e => h2 (by simpa using e)
/-- a test whose outcome is known -/
theorem run_yes (h : EvB S t ρ true) (h1 : Run S (tSeq a t2) ρ N R) : Run S (tSeq (tIfS t a b) t2) ρ N R := run_if h (fun _ => h1) fun e => by cases e
theorem run_no (h : EvB S t ρ false) (h1 : Run S (tSeq b t2) ρ N R) : Run S (tSeq (tIfS t a b) t2) ρ N R := run_if h (fun e => by cases e) fun _ => h1
end
end Dl
/-! What the head tells (printed by gen_tx.py) -/
namespace Fk
open PySem L2 Dl
structure Tx (K : PySem.W.Frag) (mg : PySem.Str → Option Value) : Prop where
  d_is_whole : DefAt K mg "is_whole" s_is_whole
  d_is_between : DefAt K mg "is_between" s_is_between
  d_is_line : DefAt K mg "is_line" s_is_line
  d_is_of : DefAt K mg "is_of" s_is_of
  d_is_name : DefAt K mg "is_name" s_is_name
  d_is_value : DefAt K mg "is_value" s_is_value
  d_is_head : DefAt K mg "is_head" s_is_head
  d_sign_of : DefAt K mg "sign_of" s_sign_of
  d_is_sign : DefAt K mg "is_sign" s_is_sign
  d_number_of : DefAt K mg "number_of" s_number_of
  d_six_bits : DefAt K mg "six_bits" s_six_bits
  d_two_figures : DefAt K mg "two_figures" s_two_figures
  d_is_saying : DefAt K mg "is_saying" s_is_saying
  d_sign_octets : DefAt K mg "sign_octets" s_sign_octets
  d_sign_at : DefAt K mg "sign_at" s_sign_at
  d_signs_told : DefAt K mg "signs_told" s_signs_told
  d_marked : DefAt K mg "marked" s_marked
  d_coded_word : DefAt K mg "coded_word" s_coded_word
  d_words_by : DefAt K mg "words_by" s_words_by
  d_plain_of : DefAt K mg "plain_of" s_plain_of
  d_coded_in : DefAt K mg "coded_in" s_coded_in
  d_six_octets : DefAt K mg "six_octets" s_six_octets
  d_mark_octets : DefAt K mg "mark_octets" s_mark_octets
  d_word_saying : DefAt K mg "word_saying" s_word_saying
  d_atom_end : DefAt K mg "atom_end" s_atom_end
  d_quoted_word : DefAt K mg "quoted_word" s_quoted_word
  d_remark_word : DefAt K mg "remark_word" s_remark_word
  d_word_at : DefAt K mg "word_at" s_word_at
  d_words_in : DefAt K mg "words_in" s_words_in
  d_words : DefAt K mg "words" s_words
  d_is_atom : DefAt K mg "is_atom" s_is_atom
  d_quoted_in : DefAt K mg "quoted_in" s_quoted_in
  d_is_local : DefAt K mg "is_local" s_is_local
  d_is_label : DefAt K mg "is_label" s_is_label
  d_is_house : DefAt K mg "is_house" s_is_house
  d_is_one : DefAt K mg "is_one" s_is_one
  d_is_group : DefAt K mg "is_group" s_is_group
  d_phrase_of : DefAt K mg "phrase_of" s_phrase_of
  d_show_one : DefAt K mg "show_one" s_show_one
  d_show_address : DefAt K mg "show_address" s_show_address
  d_show_addresses : DefAt K mg "show_addresses" s_show_addresses
  d_phrase_saying : DefAt K mg "phrase_saying" s_phrase_saying
  d_read_words : DefAt K mg "read_words" s_read_words
  d_read_addresses : DefAt K mg "read_addresses" s_read_addresses
  d_fold_places : DefAt K mg "fold_places" s_fold_places
  d_folded_lines : DefAt K mg "folded_lines" s_folded_lines
  d_head_text : DefAt K mg "head_text" s_head_text
  d_fold : DefAt K mg "fold" s_fold
  d_begins_head : DefAt K mg "begins_head" s_begins_head
  d_head_of : DefAt K mg "head_of" s_head_of
  d_read_heads : DefAt K mg "read_heads" s_read_heads
  d__law_cell_at : DefAt K mg "_law_cell_at" s__law_cell_at
  d__law_mixed : DefAt K mg "_law_mixed" s__law_mixed
  d__law_source : DefAt K mg "_law_source" s__law_source
  d__law_next : DefAt K mg "_law_next" s__law_next
  d__law_signs : DefAt K mg "_law_signs" s__law_signs
  d__law_table : DefAt K mg "_law_table" s__law_table
  d__law_numbers : DefAt K mg "_law_numbers" s__law_numbers
  d__law_octets : DefAt K mg "_law_octets" s__law_octets
  d__law_coded_word : DefAt K mg "_law_coded_word" s__law_coded_word
  d__law_is_atom : DefAt K mg "_law_is_atom" s__law_is_atom
  d__law_quoted : DefAt K mg "_law_quoted" s__law_quoted
  d__law_plain : DefAt K mg "_law_plain" s__law_plain
  d__law_remark_end : DefAt K mg "_law_remark_end" s__law_remark_end
  d__law_word_at : DefAt K mg "_law_word_at" s__law_word_at
  d__law_cut : DefAt K mg "_law_cut" s__law_cut
  d__law_signs_told : DefAt K mg "_law_signs_told" s__law_signs_told
  d__law_inner : DefAt K mg "_law_inner" s__law_inner
  d__law_uncoded : DefAt K mg "_law_uncoded" s__law_uncoded
  d__law_phrase_told : DefAt K mg "_law_phrase_told" s__law_phrase_told
  d__law_saying : DefAt K mg "_law_saying" s__law_saying
  d__law_house : DefAt K mg "_law_house" s__law_house
  d__law_one : DefAt K mg "_law_one" s__law_one
  d__law_gap : DefAt K mg "_law_gap" s__law_gap
  d__law_words : DefAt K mg "_law_words" s__law_words
  d__law_spelled_one : DefAt K mg "_law_spelled_one" s__law_spelled_one
  d__law_spelled : DefAt K mg "_law_spelled" s__law_spelled
  d__law_read_phrase : DefAt K mg "_law_read_phrase" s__law_read_phrase
  d__law_apart : DefAt K mg "_law_apart" s__law_apart
  d_law : DefAt K mg "law" s_law
  n_all : mg "all" = none
  n_bool : mg "bool" = none
  n_enumerate : mg "enumerate" = none
  n_int : mg "int" = none
  n_isinstance : mg "isinstance" = none
  n_len : mg "len" = none
  n_list : mg "list" = none
  n_max : mg "max" = none
  n_min : mg "min" = none
  n_range : mg "range" = none
  n_str : mg "str" = none
  n_tuple : mg "tuple" = none
  k_FIGURES : ∃ u, mg "FIGURES" = some u ∧ RelV (.str "0123456789") u
  k_SMALL : ∃ u, mg "SMALL" = some u ∧ RelV (.str "abcdefghijklmnopqrstuvwxyz") u
  k_LETTERS : ∃ u, mg "LETTERS" = some u ∧ RelV (.str "abcdefghijklmnopqrstuvwxyzABCDEFGHIJKLMNOPQRSTUVWXYZ") u
  k_NAME_SIGNS : ∃ u, mg "NAME_SIGNS" = some u ∧ RelV (.str "abcdefghijklmnopqrstuvwxyzABCDEFGHIJKLMNOPQRSTUVWXYZ0123456789-") u
  k_MOST_OF_NAME : ∃ u, mg "MOST_OF_NAME" = some u ∧ RelV (.int 30) u
  k_SIGNS : ∃ u, mg "SIGNS" = some u ∧ RelV (.str " !\"#$&'()*+,-./0123456789:;<=>?@ABCDEFGHIJKLMNOPQRSTUVWXYZ[\\]^_`abcdefghijklmnopqrstuvwxyz{|}~") u
  k_SIX : ∃ u, mg "SIX" = some u ∧ RelV (.str "ABCDEFGHIJKLMNOPQRSTUVWXYZabcdefghijklmnopqrstuvwxyz0123456789+/") u
  k_SIXTEEN : ∃ u, mg "SIXTEEN" = some u ∧ RelV (.str "0123456789ABCDEF") u
  k_LEAST_SIGN : ∃ u, mg "LEAST_SIGN" = some u ∧ RelV (.int 32) u
  k_MOST_SIGN : ∃ u, mg "MOST_SIGN" = some u ∧ RelV (.int 65535) u
  k_MOST_OF_WORD : ∃ u, mg "MOST_OF_WORD" = some u ∧ RelV (.int 60) u
  k_ATOM_SIGNS : ∃ u, mg "ATOM_SIGNS" = some u ∧ RelV (.str "abcdefghijklmnopqrstuvwxyzABCDEFGHIJKLMNOPQRSTUVWXYZ0123456789!#$&'*+-./=?^_`{|}~") u
  k_MARKS : ∃ u, mg "MARKS" = some u ∧ RelV (.str "<>@,;:[]") u
  k_MOST_OF_LOCAL : ∃ u, mg "MOST_OF_LOCAL" = some u ∧ RelV (.int 40) u
  k_MOST_OF_LABEL : ∃ u, mg "MOST_OF_LABEL" = some u ∧ RelV (.int 20) u
  k_HOUSE_SIGNS : ∃ u, mg "HOUSE_SIGNS" = some u ∧ RelV (.str "abcdefghijklmnopqrstuvwxyz0123456789-") u
  k_WIDTH : ∃ u, mg "WIDTH" = some u ∧ RelV (.int 72) u
  a_SORTS : ∃ a, mg "SORTS" = some (.ref a) ∧ ∀ H, SqT K H a [.str "s", .str "m"]
theorem l_FIGURES_eq : (Str.ofString "0123456789").cps.toList = l_FIGURES := by decide +kernel
theorem l_SMALL_eq : (Str.ofString "abcdefghijklmnopqrstuvwxyz").cps.toList = l_SMALL := by decide +kernel
theorem l_LETTERS_eq : (Str.ofString "abcdefghijklmnopqrstuvwxyzABCDEFGHIJKLMNOPQRSTUVWXYZ").cps.toList = l_LETTERS := by decide +kernel
theorem l_NAME_SIGNS_eq : (Str.ofString "abcdefghijklmnopqrstuvwxyzABCDEFGHIJKLMNOPQRSTUVWXYZ0123456789-").cps.toList = l_NAME_SIGNS := by decide +kernel
theorem l_SIGNS_eq : (Str.ofString " !\"#$&'()*+,-./0123456789:;<=>?@ABCDEFGHIJKLMNOPQRSTUVWXYZ[\\]^_`abcdefghijklmnopqrstuvwxyz{|}~").cps.toList = l_SIGNS := by decide +kernel
theorem l_SIX_eq : (Str.ofString "ABCDEFGHIJKLMNOPQRSTUVWXYZabcdefghijklmnopqrstuvwxyz0123456789+/").cps.toList = l_SIX := by decide +kernel
theorem l_SIXTEEN_eq : (Str.ofString "0123456789ABCDEF").cps.toList = l_SIXTEEN := by decide +kernel
theorem l_ATOM_SIGNS_eq : (Str.ofString "abcdefghijklmnopqrstuvwxyzABCDEFGHIJKLMNOPQRSTUVWXYZ0123456789!#$&'*+-./=?^_`{|}~").cps.toList = l_ATOM_SIGNS := by decide +kernel
theorem l_MARKS_eq : (Str.ofString "<>@,;:[]").cps.toList = l_MARKS := by decide +kernel
theorem l_HOUSE_SIGNS_eq : (Str.ofString "abcdefghijklmnopqrstuvwxyz0123456789-").cps.toList = l_HOUSE_SIGNS := by decide +kernel
theorem lit_0a : (Str.ofString "\n").cps.toList = [10] := by decide +kernel
theorem lit_20 : (Str.ofString " ").cps.toList = [32] := by decide +kernel
theorem lit_nil : (Str.ofString "").cps.toList = [] := by decide +kernel
theorem lit_3d : (Str.ofString "=").cps.toList = [61] := by decide +kernel
theorem lit_5f : (Str.ofString "_").cps.toList = [95] := by decide +kernel
theorem lit_3f3d : (Str.ofString "?=").cps.toList = [63, 61] := by decide +kernel
theorem lit_3f : (Str.ofString "?").cps.toList = [63] := by decide +kernel
theorem lit_3d3f : (Str.ofString "=?").cps.toList = [61, 63] := by decide +kernel
theorem lit_73 : (Str.ofString "s").cps.toList = [115] := by decide +kernel
theorem lit_6d : (Str.ofString "m").cps.toList = [109] := by decide +kernel
theorem lit_41 : (Str.ofString "A").cps.toList = [65] := by decide +kernel
theorem lit_3030 : (Str.ofString "00").cps.toList = [48, 48] := by decide +kernel
theorem lit_71756f746564 : (Str.ofString "quoted").cps.toList = [113, 117, 111, 116, 101, 100] := by decide +kernel
theorem lit_22 : (Str.ofString "\"").cps.toList = [34] := by decide +kernel
theorem lit_5c : (Str.ofString "\\").cps.toList = [92] := by decide +kernel
theorem lit_612071756f74656420776f72_31 : (Str.ofString "a quoted word that isn't closed").cps.toList = [97, 32, 113, 117, 111, 116, 101, 100, 32, 119, 111, 114, 100, 32, 116, 104, 97, 116, 32, 105, 115, 110, 39, 116, 32, 99, 108, 111, 115, 101, 100] := by decide +kernel
theorem lit_612072656d61726b20746861_26 : (Str.ofString "a remark that isn't closed").cps.toList = [97, 32, 114, 101, 109, 97, 114, 107, 32, 116, 104, 97, 116, 32, 105, 115, 110, 39, 116, 32, 99, 108, 111, 115, 101, 100] := by decide +kernel
theorem lit_28 : (Str.ofString "(").cps.toList = [40] := by decide +kernel
theorem lit_29 : (Str.ofString ")").cps.toList = [41] := by decide +kernel
theorem lit_72656d61726b : (Str.ofString "remark").cps.toList = [114, 101, 109, 97, 114, 107] := by decide +kernel
theorem lit_61746f6d : (Str.ofString "atom").cps.toList = [97, 116, 111, 109] := by decide +kernel
theorem lit_6d61726b : (Str.ofString "mark").cps.toList = [109, 97, 114, 107] := by decide +kernel
theorem lit_61207369676e207468617420_26 : (Str.ofString "a sign that begins no word").cps.toList = [97, 32, 115, 105, 103, 110, 32, 116, 104, 97, 116, 32, 98, 101, 103, 105, 110, 115, 32, 110, 111, 32, 119, 111, 114, 100] := by decide +kernel
theorem lit_6e6f20746578742077697468_26 : (Str.ofString "no text without line feeds").cps.toList = [110, 111, 32, 116, 101, 120, 116, 32, 119, 105, 116, 104, 111, 117, 116, 32, 108, 105, 110, 101, 32, 102, 101, 101, 100, 115] := by decide +kernel
theorem lit_5c22 : (Str.ofString "\\\"").cps.toList = [92, 34] := by decide +kernel
theorem lit_5c5c : (Str.ofString "\\\\").cps.toList = [92, 92] := by decide +kernel
theorem lit_2d : (Str.ofString "-").cps.toList = [45] := by decide +kernel
theorem lit_2e : (Str.ofString ".").cps.toList = [46] := by decide +kernel
theorem lit_6f6e65 : (Str.ofString "one").cps.toList = [111, 110, 101] := by decide +kernel
theorem lit_67726f7570 : (Str.ofString "group").cps.toList = [103, 114, 111, 117, 112] := by decide +kernel
theorem lit_3e : (Str.ofString ">").cps.toList = [62] := by decide +kernel
theorem lit_40 : (Str.ofString "@").cps.toList = [64] := by decide +kernel
theorem lit_203c : (Str.ofString " <").cps.toList = [32, 60] := by decide +kernel
theorem lit_3b : (Str.ofString ";").cps.toList = [59] := by decide +kernel
theorem lit_2c20 : (Str.ofString ", ").cps.toList = [44, 32] := by decide +kernel
theorem lit_3a : (Str.ofString ":").cps.toList = [58] := by decide +kernel
theorem lit_6e6f20616464726573736573 : (Str.ofString "no addresses").cps.toList = [110, 111, 32, 97, 100, 100, 114, 101, 115, 115, 101, 115] := by decide +kernel
theorem lit_6e6f20776f726473 : (Str.ofString "no words").cps.toList = [110, 111, 32, 119, 111, 114, 100, 115] := by decide +kernel
theorem lit_656e647320746f6f20736f6f6e : (Str.ofString "ends too soon").cps.toList = [101, 110, 100, 115, 32, 116, 111, 111, 32, 115, 111, 111, 110] := by decide +kernel
theorem lit_6e6f20616464726573732067_21 : (Str.ofString "no address goes on so").cps.toList = [110, 111, 32, 97, 100, 100, 114, 101, 115, 115, 32, 103, 111, 101, 115, 32, 111, 110, 32, 115, 111] := by decide +kernel
theorem lit_3a0a : (Str.ofString ":\n").cps.toList = [58, 10] := by decide +kernel
theorem lit_3a20 : (Str.ofString ": ").cps.toList = [58, 32] := by decide +kernel
theorem lit_6e6f2068656164 : (Str.ofString "no head").cps.toList = [110, 111, 32, 104, 101, 97, 100] := by decide +kernel
theorem lit_6e6f206c696e6573 : (Str.ofString "no lines").cps.toList = [110, 111, 32, 108, 105, 110, 101, 115] := by decide +kernel
theorem lit_2021222324262728292a2b2c_94 : (Str.ofString " !\"#$&'()*+,-./0123456789:;<=>?@ABCDEFGHIJKLMNOPQRSTUVWXYZ[\\]^_`abcdefghijklmnopqrstuvwxyz{|}~").cps.toList = [32, 33, 34, 35, 36, 38, 39, 40, 41, 42, 43, 44, 45, 46, 47, 48, 49, 50, 51, 52, 53, 54, 55, 56, 57, 58, 59, 60, 61, 62, 63, 64, 65, 66, 67, 68, 69, 70, 71, 72, 73, 74, 75, 76, 77, 78, 79, 80, 81, 82, 83, 84, 85, 86, 87, 88, 89, 90, 91, 92, 93, 94, 95, 96, 97, 98, 99, 100, 101, 102, 103, 104, 105, 106, 107, 108, 109, 110, 111, 112, 113, 114, 115, 116, 117, 118, 119, 120, 121, 122, 123, 124, 125, 126] := by decide +kernel
theorem lit_4142434445464748494a4b4c_64 : (Str.ofString "ABCDEFGHIJKLMNOPQRSTUVWXYZabcdefghijklmnopqrstuvwxyz0123456789+/").cps.toList = [65, 66, 67, 68, 69, 70, 71, 72, 73, 74, 75, 76, 77, 78, 79, 80, 81, 82, 83, 84, 85, 86, 87, 88, 89, 90, 97, 98, 99, 100, 101, 102, 103, 104, 105, 106, 107, 108, 109, 110, 111, 112, 113, 114, 115, 116, 117, 118, 119, 120, 121, 122, 48, 49, 50, 51, 52, 53, 54, 55, 56, 57, 43, 47] := by decide +kernel
theorem lit_30313233343536373839414243444546 : (Str.ofString "0123456789ABCDEF").cps.toList = [48, 49, 50, 51, 52, 53, 54, 55, 56, 57, 65, 66, 67, 68, 69, 70] := by decide +kernel
theorem lit_21232426272a2b2d2e2f3d3f_81 : (Str.ofString "!#$&'*+-./=?^_`{|}~0123456789abcdefghijklmnopqrstuvwxyzABCDEFGHIJKLMNOPQRSTUVWXYZ").cps.toList = [33, 35, 36, 38, 39, 42, 43, 45, 46, 47, 61, 63, 94, 95, 96, 123, 124, 125, 126, 48, 49, 50, 51, 52, 53, 54, 55, 56, 57, 97, 98, 99, 100, 101, 102, 103, 104, 105, 106, 107, 108, 109, 110, 111, 112, 113, 114, 115, 116, 117, 118, 119, 120, 121, 122, 65, 66, 67, 68, 69, 70, 71, 72, 73, 74, 75, 76, 77, 78, 79, 80, 81, 82, 83, 84, 85, 86, 87, 88, 89, 90] := by decide +kernel
theorem lit_225c : (Str.ofString "\"\\").cps.toList = [34, 92] := by decide +kernel
theorem lit_3c3e402c3b3a5b5d : (Str.ofString "<>@,;:[]").cps.toList = [60, 62, 64, 44, 59, 58, 91, 93] := by decide +kernel
theorem lit_626c616e6b : (Str.ofString "blank").cps.toList = [98, 108, 97, 110, 107] := by decide +kernel
theorem lit_656e64 : (Str.ofString "end").cps.toList = [101, 110, 100] := by decide +kernel
theorem lit_3d3f3f3f3d : (Str.ofString "=???=").cps.toList = [61, 63, 63, 63, 61] := by decide +kernel
theorem lit_61626358595a303139202e2c_29 : (Str.ofString "abcXYZ019 .,@<>()[]:;\"\\-_=?!'").cps.toList = [97, 98, 99, 88, 89, 90, 48, 49, 57, 32, 46, 44, 64, 60, 62, 40, 41, 91, 93, 58, 59, 34, 92, 45, 95, 61, 63, 33, 39] := by decide +kernel
theorem lit_3d3f6d3f613f3d : (Str.ofString "=?m?a?=").cps.toList = [61, 63, 109, 63, 97, 63, 61] := by decide +kernel
theorem lit_61203d3f733f59513d3d3f3d2062 : (Str.ofString "a =?s?YQ==?= b").cps.toList = [97, 32, 61, 63, 115, 63, 89, 81, 61, 61, 63, 61, 32, 98] := by decide +kernel
theorem lit_416e6e204c6565 : (Str.ofString "Ann Lee").cps.toList = [65, 110, 110, 32, 76, 101, 101] := by decide +kernel
theorem lit_616e6e : (Str.ofString "ann").cps.toList = [97, 110, 110] := by decide +kernel
theorem lit_61202062 : (Str.ofString "a  b").cps.toList = [97, 32, 32, 98] := by decide +kernel
theorem lit_61627a30392d : (Str.ofString "abz09-").cps.toList = [97, 98, 122, 48, 57, 45] := by decide +kernel
theorem lit_787937 : (Str.ofString "xy7").cps.toList = [120, 121, 55] := by decide +kernel
theorem lit_61627a3039 : (Str.ofString "abz09").cps.toList = [97, 98, 122, 48, 57] := by decide +kernel
theorem lit_61625a392e5f2d : (Str.ofString "abZ9._-").cps.toList = [97, 98, 90, 57, 46, 95, 45] := by decide +kernel
theorem lit_61622040225c3c3e28292c3b3a3d3f5b5d : (Str.ofString "ab @\"\\<>(),;:=?[]").cps.toList = [97, 98, 32, 64, 34, 92, 60, 62, 40, 41, 44, 59, 58, 61, 63, 91, 93] := by decide +kernel
theorem lit_616221232426272a2b2f3d3f5e5f607b7c7d7e : (Str.ofString "ab!#$&'*+/=?^_`{|}~").cps.toList = [97, 98, 33, 35, 36, 38, 39, 42, 43, 47, 61, 63, 94, 95, 96, 123, 124, 125, 126] := by decide +kernel
theorem lit_2020 : (Str.ofString "  ").cps.toList = [32, 32] := by decide +kernel
theorem lit_287829 : (Str.ofString "(x)").cps.toList = [40, 120, 41] := by decide +kernel
theorem lit_202861202862406329205c2920222920 : (Str.ofString " (a (b@c) \\) \") ").cps.toList = [32, 40, 97, 32, 40, 98, 64, 99, 41, 32, 92, 41, 32, 34, 41, 32] := by decide +kernel
theorem lit_282029202829 : (Str.ofString "( ) ()").cps.toList = [40, 32, 41, 32, 40, 41] := by decide +kernel
theorem lit_3d3f6d3f3d36313f3d : (Str.ofString "=?m?=61?=").cps.toList = [61, 63, 109, 63, 61, 54, 49, 63, 61] := by decide +kernel
theorem lit_3d3f733f59523d3d3f3d : (Str.ofString "=?s?YR==?=").cps.toList = [61, 63, 115, 63, 89, 82, 61, 61, 63, 61] := by decide +kernel
theorem lit_3d3f783f613f3d : (Str.ofString "=?x?a?=").cps.toList = [61, 63, 120, 63, 97, 63, 61] := by decide +kernel
theorem lit_3d3f6d3f3f3d : (Str.ofString "=?m??=").cps.toList = [61, 63, 109, 63, 63, 61] := by decide +kernel
theorem lit_3d3f4d3f613f3d : (Str.ofString "=?M?a?=").cps.toList = [61, 63, 77, 63, 97, 63, 61] := by decide +kernel
theorem lit_3d3f6d3f613f3d78 : (Str.ofString "=?m?a?=x").cps.toList = [61, 63, 109, 63, 97, 63, 61, 120] := by decide +kernel
theorem lit_613d3f6d3f613f3d : (Str.ofString "a=?m?a?=").cps.toList = [97, 61, 63, 109, 63, 97, 63, 61] := by decide +kernel
theorem lit_3d3f6d3f3d3f3d : (Str.ofString "=?m?=?=").cps.toList = [61, 63, 109, 63, 61, 63, 61] := by decide +kernel
theorem lit_61625a392e2d27 : (Str.ofString "abZ9.-'").cps.toList = [97, 98, 90, 57, 46, 45, 39] := by decide +kernel
theorem lit_616220225c403c282c3b3a3d3f : (Str.ofString "ab \"\\@<(,;:=?").cps.toList = [97, 98, 32, 34, 92, 64, 60, 40, 44, 59, 58, 61, 63] := by decide +kernel
theorem lit_736d : (Str.ofString "sm").cps.toList = [115, 109] := by decide +kernel
theorem lit_3c : (Str.ofString "<").cps.toList = [60] := by decide +kernel
theorem lit_2c : (Str.ofString ",").cps.toList = [44] := by decide +kernel
theorem lit_67 : (Str.ofString "g").cps.toList = [103] := by decide +kernel
theorem lit_5265706c792d546f : (Str.ofString "Reply-To").cps.toList = [82, 101, 112, 108, 121, 45, 84, 111] := by decide +kernel
theorem lit_626567696e : (Str.ofString "begin").cps.toList = [98, 101, 103, 105, 110] := by decide +kernel
theorem lit_706872617365 : (Str.ofString "phrase").cps.toList = [112, 104, 114, 97, 115, 101] := by decide +kernel
theorem lit_6c6f63616c : (Str.ofString "local").cps.toList = [108, 111, 99, 97, 108] := by decide +kernel
theorem lit_6174 : (Str.ofString "at").cps.toList = [97, 116] := by decide +kernel
theorem lit_686f757365 : (Str.ofString "house").cps.toList = [104, 111, 117, 115, 101] := by decide +kernel
theorem lit_616e676c65 : (Str.ofString "angle").cps.toList = [97, 110, 103, 108, 101] := by decide +kernel
theorem lit_626568696e64 : (Str.ofString "behind").cps.toList = [98, 101, 104, 105, 110, 100] := by decide +kernel
end Fk
namespace Fk
open PySem PySem.Spec PyProof.Rows L2 Dl Mr
local macro_rules | `(tactic| walk_at "ev") => `(tactic| first
  | (with_reducible apply ev_dat) <;> rfl
  | with_reducible apply ev_int
  | with_reducible apply ev_bl
  | with_reducible apply ev_non
  | walk_at "lit"
  | with_reducible apply ev_str
  | with_reducible apply eb_test
  | with_reducible apply eb_B
  | with_reducible apply ev_op
  | with_reducible apply o_add
  | with_reducible apply o_sub
  | with_reducible apply o_mul
  | with_reducible apply o_fdiv
  | with_reducible apply o_fdivW
  | with_reducible apply o_mod
  | with_reducible apply o_lt
  | with_reducible apply o_le
  | with_reducible apply o_gt
  | with_reducible apply o_ge
  | with_reducible apply o_eqI
  | with_reducible apply o_neI
  | with_reducible apply o_eqS
  | with_reducible apply o_neS
  | with_reducible apply o_neInts
  | with_reducible apply o_neNil
  | with_reducible apply o_eqNil
  | with_reducible apply o_eqInts
  | with_reducible apply o_addS
  | with_reducible apply o_in1
  | with_reducible apply o_ni1
  | with_reducible apply o_inS
  | with_reducible apply o_mulS
  | with_reducible apply ea_nil
  | with_reducible apply ea_cons
  | with_reducible apply ev_tup
  | with_reducible apply ev_lst
  | with_reducible apply eb_not
  | with_reducible apply eb_and
  | with_reducible apply eb_or
  | with_reducible apply ev_andV
  | with_reducible apply ev_orV
  | with_reducible apply ev_notV
  | with_reducible apply ev_chain
  | with_reducible apply ev_neg
  | with_reducible apply ev_slS
  | with_reducible apply ev_slL
  | with_reducible apply eo_none
  | with_reducible apply eo_some
  | with_reducible apply ev_cb
  | with_reducible apply cd_lenT
  | with_reducible apply cd_lenL
  | with_reducible apply cd_int
  | with_reducible apply cd_max
  | with_reducible apply cd_min
  | with_reducible apply ev_bm
  | with_reducible apply ev_bm0
  | with_reducible apply md_strip
  | with_reducible apply md_rstrip
  | with_reducible apply md_find
  | with_reducible apply md_index
  | with_reducible apply md_starts
  | with_reducible apply md_lower
  | with_reducible apply md_upper
  | with_reducible apply ei_str
  | with_reducible apply ei_list
  | with_reducible exact sz1 rfl
  | with_reducible exact Nat.le_of_ble_eq_true rfl
  | ((with_reducible apply cmulL) <;> decide)
  | ((with_reducible apply cmulR) <;> decide)
  | ((with_reducible apply cdiv) <;> decide)
  | ((with_reducible show (0 : Int) < _) <;> decide)
  | (with_reducible intro _hyp))

section
variable {P : Program} {w : World} {K : PySem.W.Frag} {mg : PySem.Str → Option Value} {base : Heap}
abbrev N_is_whole : List PySem.Str := ["thing"]
theorem sc_is_whole : FnScope N_is_whole ["thing"] (defScope s_is_whole) := ⟨rfl, rfl, rfl, by decide +kernel, rfl, by decide +kernel, by decide +kernel⟩

theorem c_is_whole (T : Tx K mg) : C8.Cal P w K mg base 1 "is_whole" (spP (α := Int) (fun a => [.int a]) (fun _ => True) (fun _ d => d = .bl true)) [] :=
  cal_P T.d_is_whole sc_is_whole (fun _ => rfl) (by decide) (fun _ _ _ _ _ _ us hl => match us, hl with | [_], _ => rfl) (fun f cdv A outer s H E hr => ⟨_, (pss_cons (ps_ret (pe_and (pe_callB (id := "isinstance") call_isi (by rfl) T.n_isinstance (by decide +kernel) (pa_cons (pv 0) (pa_cons (pe_bltn (v := V.ty "int") (u := Value.type "int") (by rfl) T.n_int (by decide +kernel) rfl) pa_nil))) (pe_one (pe_not (pe_callB (id := "isinstance") call_isi (by rfl) T.n_isinstance (by decide +kernel) (pa_cons (pv 0) (pa_cons (pe_bltn (v := V.ty "bool") (u := Value.type "bool") (by rfl) T.n_bool (by decide +kernel) rfl) pa_nil)))))))
    pss_nil), fun a _ => by
    show Dl.Run No _ [.dat (.int a)] _ _
    exact run_retV (ev_andV (a := true) (b := true) (ev_isi (ev_dat rfl) (fun z => nomatch z) rfl) (fun _ => ev_notV (a := false) (ev_isi (ev_dat rfl) (fun z => nomatch z) rfl))) rfl⟩)
abbrev N_is_between : List PySem.Str := ["thing", "least", "most"]
theorem sc_is_between : FnScope N_is_between ["thing", "least", "most"] (defScope s_is_between) := ⟨rfl, rfl, rfl, by decide +kernel, rfl, by decide +kernel, by decide +kernel⟩

theorem c_is_between (T : Tx K mg) : C8.Cal P w K mg base 2 "is_between" (spP (α := Int × Int × Int) (fun a => [.int a.1, .int a.2.1, .int a.2.2]) (fun _ => True) (fun a d => d = .bl (decide (a.2.1 ≤ a.1) && decide (a.1 ≤ a.2.2)))) [] :=
  have c_is_whole := c_is_whole (P := P) (w := w) (base := base) T
  cal_P T.d_is_between sc_is_between (fun _ => rfl) (by decide) (fun _ _ _ _ _ _ us hl => match us, hl with | [_, _, _], _ => rfl) (fun f cdv A outer s H E hr => ⟨_, (pss_cons (ps_ret (pe_and (C8.pe_c c_is_whole hr (by decide) rfl (pa_cons (pv 0) pa_nil)) (pe_one (pe_chain op_le op_le (pv 1) (pv 0) (pv 2)))))
    pss_nil), fun a _ => by
    show Dl.Run No _ [.dat (.int a.1), .dat (.int a.2.1), .dat (.int a.2.2)] _ _
    exact run_retV (ev_andV (a := true) (ed_call a.1 (by repeat' walk_at "ev") trivial) (fun _ => by repeat' walk_at "ev")) (by simp)⟩)
abbrev N_is_line : List PySem.Str := ["thing"]
theorem sc_is_line : FnScope N_is_line ["thing"] (defScope s_is_line) := ⟨rfl, rfl, rfl, by decide +kernel, rfl, by decide +kernel, by decide +kernel⟩
local macro_rules | `(tactic| walk_at "lit") => `(tactic| first
  | with_reducible exact ev_strL lit_0a)
theorem c_is_line (T : Tx K mg) : C8.Cal P w K mg base 1 "is_line" (spP (α := List Nat) (fun a => [.str a]) (fun _ => True) (fun a d => d = .bl (!decide (10 ∈ a)))) [] :=
  cal_P T.d_is_line sc_is_line (fun _ => rfl) (by decide) (fun _ _ _ _ _ _ us hl => match us, hl with | [_], _ => rfl) (fun f cdv A outer s H E hr => ⟨_, (pss_cons (ps_ret (pe_and (pe_callB (id := "isinstance") call_isi (by rfl) T.n_isinstance (by decide +kernel) (pa_cons (pv 0) (pa_cons (pe_bltn (v := V.ty "str") (u := Value.type "str") (by rfl) T.n_str (by decide +kernel) rfl) pa_nil))) (pe_one (pe_cmpR op_notInS pe_str (pv 0) (by rfl)))))
    pss_nil), fun a _ => by
    show Dl.Run No _ [.dat (.str a)] _ _
    exact run_retV (ev_andV (a := true) (ev_isi (ev_dat rfl) (fun z => nomatch z) rfl) (fun _ => by repeat' walk_at "ev")) (by simp)⟩)
abbrev N_is_of : List PySem.Str := ["text", "signs", "sign"]
theorem sc_is_of : FnScope N_is_of ["text", "signs"] (defScope s_is_of) := ⟨rfl, rfl, rfl, by decide +kernel, rfl, by decide +kernel, by decide +kernel⟩
theorem c_is_of (T : Tx K mg) : C8.Cal P w K mg base 1 "is_of" (spP (α := List Nat × List Nat) (fun a => [.str a.1, .str a.2]) (fun a => a.1.length ≤ sizeLine) (fun a d => d = .bl (a.1.all fun c => decide (c ∈ a.2)))) [] :=
  cal_P T.d_is_of sc_is_of (fun _ => rfl) (by decide) (fun _ _ _ _ _ _ us hl => match us, hl with | [_, _], _ => rfl) (fun f cdv A outer s H E hr => ⟨_, (pss_cons (ps_ret (pe_callB (id := "all") (cr_all rfl) (by rfl) T.n_all (by decide +kernel) (pa_cons (pe_lc (own := [("sign", 2)]) (g := gName 2) rfl sc_is_of.nd (pi_str (pv 0)) (blkOk_by (own := [("sign", 2)]) (N := N_is_of) (sc := defScope s_is_of) (by decide +kernel)) (fun _ _ _ _ _ => pg_name (i := 2) sc_is_of.nd rfl (Or.inl rfl)) (fun _ _ _ _ _ => pts_nil) (fun _ _ _ _ _ => (pe_cmpR op_inS (pv 2) (pv 1) (by rfl)))) pa_nil)))
    pss_nil), fun a ha => by
    show Dl.Run No _ [.dat (.str a.1), .dat (.str a.2), .no] _ _
    refine run_retV (ev_cb (ea_cons (EvF.v (ef_lcM a.1 _ (fun c => .bl (decide (c ∈ a.2))) (by repeat' walk_at "ev") (fun c _ => by repeat' walk_at "ev") ha)) ea_nil) (ClV.cast cd_all (by rw [List.map_map] <;> rfl))) (by simp [List.all_map])⟩)
/-- Reply-To -/
def replyTo : List Nat := [82, 101, 112, 108, 121, 45, 84, 111]
abbrev N_is_name : List PySem.Str := ["thing"]
theorem sc_is_name : FnScope N_is_name ["thing"] (defScope s_is_name) := ⟨rfl, rfl, rfl, by decide +kernel, rfl, by decide +kernel, by decide +kernel⟩
local macro_rules | `(tactic| walk_at "lit") => `(tactic| first
  | with_reducible exact ev_strL l_LETTERS_eq
  | with_reducible exact ev_strL l_NAME_SIGNS_eq)
theorem c_is_name (T : Tx K mg) : C8.Cal P w K mg base 2 "is_name" (spP (α := Unit) (fun _ => [.str replyTo]) (fun _ => True) (fun a d => d = .bl true)) [] :=
  have c_is_of := c_is_of (P := P) (w := w) (base := base) T
  cal_P T.d_is_name sc_is_name (fun _ => rfl) (by decide) (fun _ _ _ _ _ _ us hl => match us, hl with | [_], _ => rfl) (fun f cdv A outer s H E hr => ⟨_, (pss_cons (ps_if (PW.pt (pw_or (pt_not (pt_val (pe_callB (id := "isinstance") call_isi (by rfl) T.n_isinstance (by decide +kernel) (pa_cons (pv 0) (pa_cons (pe_bltn (v := V.ty "str") (u := Value.type "str") (by rfl) T.n_str (by decide +kernel) rfl) pa_nil))))) (pw_or1 (pt_not (pt_chain op_le op_le pe_int (pe_callB cl_lenT (by rfl) T.n_len boot_len (pa_cons (pv 0) pa_nil)) (C8.pe_gc rfl T.k_MOST_OF_NAME))))))
    (pss_cons (ps_ret pe_bl)
    pss_nil)
    pss_nil)
    (pss_cons (ps_ret (pe_and (pe_cmpR op_inS (pe_ix ix_str (pv 0) pe_int (fun _ _ => rfl)) (C8.pe_gc rfl T.k_LETTERS) (by rfl)) (pe_one (C8.pe_c c_is_of hr (by decide) rfl (pa_cons (pv 0) (pa_cons (C8.pe_gc rfl T.k_NAME_SIGNS) pa_nil))))))
    pss_nil)), fun a ha => by
    show Dl.Run No _ [.dat (.str replyTo)] _ _
    refine run_no (EvB.cast (eb_or (eb_not (b := true) (eb_B (ev_isi (ev_dat rfl) (fun z => nomatch z) rfl))) (fun _ => eb_not (by repeat' walk_at "ev"))) (by decide)) (run_skip ?_)
    refine run_retV (ev_andV (a := true) (b := true) (EvV.cast (by
      repeat' walk_at "ev"
      exact o_ixS (c := 82) rfl (sz1 rfl)) (congrArg D.bl (by decide))) (fun _ => EvV.cast (ed_call (replyTo, l_NAME_SIGNS) (by repeat' walk_at "ev") (sz1 rfl)) (congrArg D.bl (by decide)))) rfl⟩)
def isValue (l : List Nat) : Bool := !decide (10 ∈ l) && decide (l = stripC 32 l)
abbrev N_is_value : List PySem.Str := ["thing"]
theorem sc_is_value : FnScope N_is_value ["thing"] (defScope s_is_value) := ⟨rfl, rfl, rfl, by decide +kernel, rfl, by decide +kernel, by decide +kernel⟩
local macro_rules | `(tactic| walk_at "lit") => `(tactic| first
  | with_reducible exact ev_strL lit_20)
theorem c_is_value (T : Tx K mg) : C8.Cal P w K mg base 2 "is_value" (spP (α := List Nat) (fun a => [.str a]) (fun a => a.length ≤ sizeLine) (fun a d => d = .bl (isValue a))) [] :=
  have c_is_line := c_is_line (P := P) (w := w) (base := base) T
  cal_P T.d_is_value sc_is_value (fun _ => rfl) (by decide) (fun _ _ _ _ _ _ us hl => match us, hl with | [_], _ => rfl) (fun f cdv A outer s H E hr => ⟨_, (pss_cons (ps_ret (pe_and (C8.pe_c c_is_line hr (by decide) rfl (pa_cons (pv 0) pa_nil)) (pe_one (pe_cmpR op_eq (pv 0) (pe_bm PySem.F.plainAttrs_str PySem.F.slot_str_strip PySem.F.type_str_strip m_strip (pv 0) (pa_cons pe_str pa_nil)) (by rfl)))))
    pss_nil), fun a ha => by
    show Dl.Run No _ [.dat (.str a)] _ _
    exact run_retV (ev_andV (ed_call a (by repeat' walk_at "ev") trivial) (fun _ => by
      repeat' walk_at "ev"
      exact ha)) rfl⟩)
abbrev N_is_head : List PySem.Str := ["thing"]
theorem sc_is_head : FnScope N_is_head ["thing"] (defScope s_is_head) := ⟨rfl, rfl, rfl, by decide +kernel, rfl, by decide +kernel, by decide +kernel⟩

theorem c_is_head (T : Tx K mg) : C8.Cal P w K mg base 3 "is_head" (spP (α := List Nat) (fun a => [.tup [.str replyTo, .str a]]) (fun a => a.length ≤ sizeLine ∧ isValue a = true) (fun a d => d = .bl true)) [] :=
  have c_is_name := c_is_name (P := P) (w := w) (base := base) T
  have c_is_value := c_is_value (P := P) (w := w) (base := base) T
  cal_P T.d_is_head sc_is_head (fun _ => rfl) (by decide) (fun _ _ _ _ _ _ us hl => match us, hl with | [_], _ => rfl) (fun f cdv A outer s H E hr => ⟨_, (pss_cons (ps_ret (pe_and (pe_callB (id := "isinstance") call_isi (by rfl) T.n_isinstance (by decide +kernel) (pa_cons (pv 0) (pa_cons (pe_bltn (v := V.ty "tuple") (u := Value.type "tuple") (by rfl) T.n_tuple (by decide +kernel) rfl) pa_nil))) (pe_and (pe_cmpR op_eq (pe_callB cl_lenL (by rfl) T.n_len boot_len (pa_cons (pv 0) pa_nil)) pe_int (by rfl)) (pe_and (C8.pe_c c_is_name hr (by decide) rfl (pa_cons (pe_ix ix_tup (pv 0) pe_int (fun _ _ => rfl)) pa_nil)) (pe_one (C8.pe_c c_is_value hr (by decide) rfl (pa_cons (pe_ix ix_tup (pv 0) pe_int (fun _ _ => rfl)) pa_nil)))))))
    pss_nil), fun a ha => by
    show Dl.Run No _ [.dat (.tup [.str replyTo, .str a])] _ _
    refine run_retV (ev_andV (a := true) (b := true) (ev_isi (ev_dat rfl) (fun z => nomatch z) rfl) (fun _ => ev_andV (a := true) (b := true) (ev_op (ev_cb (ea_cons (ev_dat rfl) ea_nil) cd_lenU) ev_int o_eqI) (fun _ => ev_andV (a := true) (b := true) (ed_call () (ea_cons (ev_op (ev_dat rfl) ev_int (o_ixT rfl)) ea_nil) trivial) (fun _ => EvV.cast (ed_call a (ea_cons (ev_op (ev_dat rfl) ev_int (o_ixT rfl)) ea_nil) ha.1) (by rw [ha.2]))))) rfl⟩)
end
end Fk
namespace Fk
open PySem PySem.Spec PyProof.Rows L2 Dl Mr
local macro_rules | `(tactic| walk_at "ev") => `(tactic| first
  | (with_reducible apply ev_dat) <;> rfl
  | with_reducible apply ev_int
  | with_reducible apply ev_bl
  | with_reducible apply ev_non
  | walk_at "lit"
  | with_reducible apply ev_str
  | with_reducible apply eb_test
  | with_reducible apply eb_B
  | with_reducible apply ev_op
  | with_reducible apply o_add
  | with_reducible apply o_sub
  | with_reducible apply o_mul
  | with_reducible apply o_fdiv
  | with_reducible apply o_fdivW
  | with_reducible apply o_mod
  | with_reducible apply o_lt
  | with_reducible apply o_le
  | with_reducible apply o_gt
  | with_reducible apply o_ge
  | with_reducible apply o_eqI
  | with_reducible apply o_neI
  | with_reducible apply o_eqS
  | with_reducible apply o_neS
  | with_reducible apply o_neInts
  | with_reducible apply o_neNil
  | with_reducible apply o_eqNil
  | with_reducible apply o_eqInts
  | with_reducible apply o_addS
  | with_reducible apply o_in1
  | with_reducible apply o_ni1
  | with_reducible apply o_inS
  | with_reducible apply o_mulS
  | with_reducible apply ea_nil
  | with_reducible apply ea_cons
  | with_reducible apply ev_tup
  | with_reducible apply ev_lst
  | with_reducible apply eb_not
  | with_reducible apply eb_and
  | with_reducible apply eb_or
  | with_reducible apply ev_andV
  | with_reducible apply ev_orV
  | with_reducible apply ev_notV
  | with_reducible apply ev_chain
  | with_reducible apply ev_neg
  | with_reducible apply ev_slS
  | with_reducible apply ev_slL
  | with_reducible apply eo_none
  | with_reducible apply eo_some
  | with_reducible apply ev_cb
  | with_reducible apply cd_lenT
  | with_reducible apply cd_lenL
  | with_reducible apply cd_int
  | with_reducible apply cd_max
  | with_reducible apply cd_min
  | with_reducible apply ev_bm
  | with_reducible apply ev_bm0
  | with_reducible apply md_strip
  | with_reducible apply md_rstrip
  | with_reducible apply md_find
  | with_reducible apply md_index
  | with_reducible apply md_starts
  | with_reducible apply md_lower
  | with_reducible apply md_upper
  | with_reducible apply ei_str
  | with_reducible apply ei_list
  | with_reducible exact sz1 rfl
  | with_reducible exact Nat.le_of_ble_eq_true rfl
  | ((with_reducible apply cmulL) <;> decide)
  | ((with_reducible apply cmulR) <;> decide)
  | ((with_reducible apply cdiv) <;> decide)
  | ((with_reducible show (0 : Int) < _) <;> decide)
  | (with_reducible intro _hyp))

section
variable {P : Program} {w : World} {K : PySem.W.Frag} {mg : PySem.Str → Option Value} {base : Heap}
theorem signs_at : ∀ k : Nat, k < 127 → 32 ≤ k → k ≠ 37 → atI l_SIGNS ((k : Int) - 32 - (if decide ((37 : Int) < (k : Int)) = true then 1 else 0)) = some k := by decide +kernel
theorem signs_ix : ∀ c, c ∈ l_SIGNS → 32 + ((l_SIGNS.idxOf c : Nat) : Int) + (if decide ((4 : Int) < ((l_SIGNS.idxOf c : Nat) : Int)) = true then 1 else 0) = (c : Int) := by decide +kernel
theorem six_at : ∀ k : Nat, k < 64 → atI l_SIX (k : Int) = some (l_SIX.getD k 0) := by decide +kernel
theorem hex_at : ∀ k : Nat, k < 16 → atI l_SIXTEEN (k : Int) = some (l_SIXTEEN.getD k 0) := by decide +kernel
theorem sixAt {n : Int} (h0 : 0 ≤ n) (h : n < 64) : atI l_SIX n = some (sixCh n) := by
  have e : n = (n.toNat : Int) := by omega
  rw [e]
  exact six_at _ (by omega)
theorem hexAt {n : Int} (h0 : 0 ≤ n) (h : n < 16) : atI l_SIXTEEN n = some (hexCh n) := by
  have e : n = (n.toNat : Int) := by omega
  rw [e]
  exact hex_at _ (by omega)
abbrev N_sign_of : List PySem.Str := ["number"]
theorem sc_sign_of : FnScope N_sign_of ["number"] (defScope s_sign_of) := ⟨rfl, rfl, rfl, by decide +kernel, rfl, by decide +kernel, by decide +kernel⟩
local macro_rules | `(tactic| walk_at "lit") => `(tactic| first
  | with_reducible exact ev_strL l_SIGNS_eq)
theorem c_sign_of (T : Tx K mg) : C8.Cal P w K mg base 1 "sign_of" (spP (α := Int) (fun a => [.int a]) (fun a => isSign a = true) (fun a d => d = .str [a.toNat])) [] :=
  cal_P T.d_sign_of sc_sign_of (fun _ => rfl) (by decide) (fun _ _ _ _ _ _ us hl => match us, hl with | [_], _ => rfl) (fun f cdv A outer s H E hr => ⟨_, (pss_cons (ps_ret (pe_ix ix_str (C8.pe_gc rfl T.k_SIGNS) (pe_op op_sub (pe_op op_sub (pv 0) pe_int) (pe_callTy (T := "int") cl_int1 (by rfl) T.n_int (by decide +kernel) (pa_cons (pe_cmpR op_gt (pv 0) pe_int (by rfl)) pa_nil))) (fun _ _ => rfl)))
    pss_nil), fun a ha => by
    show Dl.Run No _ [.dat (.int a)] _ _
    have h : (32 ≤ a ∧ a ≤ 126) ∧ a ≠ 37 := by simpa [isSign] using ha
    refine run_retV (by
      repeat' walk_at "ev"
      · refine o_ixS ?_ (sz1 rfl)
        have e : a = (a.toNat : Int) := by omega
        have := signs_at a.toNat (by omega) (by omega) (by omega)
        rw [← e] at this
        exact this) rfl⟩)
abbrev N_is_sign : List PySem.Str := ["number"]
theorem sc_is_sign : FnScope N_is_sign ["number"] (defScope s_is_sign) := ⟨rfl, rfl, rfl, by decide +kernel, rfl, by decide +kernel, by decide +kernel⟩
theorem c_is_sign (T : Tx K mg) : C8.Cal P w K mg base 1 "is_sign" (spP (α := Int) (fun a => [.int a]) (fun a => True) (fun a d => d = .bl (isSign a))) [] :=
  cal_P T.d_is_sign sc_is_sign (fun _ => rfl) (by decide) (fun _ _ _ _ _ _ us hl => match us, hl with | [_], _ => rfl) (fun f cdv A outer s H E hr => ⟨_, (pss_cons (ps_ret (pe_and (pe_chain op_le op_le pe_int (pv 0) pe_int) (pe_one (pe_cmpR op_ne (pv 0) pe_int (by rfl)))))
    pss_nil), fun a ha => by
    show Dl.Run No _ [.dat (.int a)] _ _
    exact run_retV (EvV.cast (by repeat' walk_at "ev") (by rfl)) rfl⟩)
abbrev N_number_of : List PySem.Str := ["sign", "at"]
theorem sc_number_of : FnScope N_number_of ["sign"] (defScope s_number_of) := ⟨rfl, rfl, rfl, by decide +kernel, rfl, by decide +kernel, by decide +kernel⟩
local macro_rules | `(tactic| walk_at "lit") => `(tactic| first
  | with_reducible exact ev_strL l_SIGNS_eq
  | with_reducible exact ev_strL lit_0a)
theorem c_number_of (T : Tx K mg) : C8.Cal P w K mg base 1 "number_of" (spP (α := Nat) (fun a => [.str [a]]) (fun a => okc a) (fun a d => d = .int (a : Int))) [] :=
  cal_P T.d_number_of sc_number_of (fun _ => rfl) (by decide) (fun _ _ _ _ _ _ us hl => match us, hl with | [_], _ => rfl) (fun f cdv A outer s H E hr => ⟨_, (pss_cons (ps_if (pt_cmpR op_eq (pv 0) pe_str (by rfl))
    (pss_cons (ps_ret pe_int)
    pss_nil)
    pss_nil)
    (pss_cons (ps_set (i := 1) sc_number_of.nd rfl (Or.inl rfl) (pe_bm PySem.F.plainAttrs_str PySem.F.slot_str_index PySem.F.type_str_index m_index (C8.pe_gc rfl T.k_SIGNS) (pa_cons (pv 0) pa_nil)))
    (pss_cons (ps_ret (pe_op op_add (pe_op op_add pe_int (pv 1)) (pe_callTy (T := "int") cl_int1 (by rfl) T.n_int (by decide +kernel) (pa_cons (pe_cmpR op_gt (pv 1) pe_int (by rfl)) pa_nil))))
    pss_nil))), fun a ha => by
    show Dl.Run No _ [.dat (.str [a]), .no] _ _
    have h10 : a ≠ 10 := fun e => by rw [e] at ha; revert ha; decide
    refine run_no (EvB.cast (by repeat' walk_at "ev") (decide_eq_false (by simpa using h10))) (run_skip ?_)
    refine run_set (by
      repeat' walk_at "ev"
      · exact ha) ?_
    exact run_retV (by repeat' walk_at "ev") (congrArg D.int (signs_ix a ha))⟩)
abbrev N_two_figures : List PySem.Str := ["octet"]
theorem sc_two_figures : FnScope N_two_figures ["octet"] (defScope s_two_figures) := ⟨rfl, rfl, rfl, by decide +kernel, rfl, by decide +kernel, by decide +kernel⟩
local macro_rules | `(tactic| walk_at "lit") => `(tactic| first
  | with_reducible exact ev_strL l_SIXTEEN_eq
  | with_reducible exact ev_strL lit_3d)
theorem c_two_figures (T : Tx K mg) : C8.Cal P w K mg base 1 "two_figures" (spP (α := Int) (fun a => [.int a]) (fun a => 0 ≤ a ∧ a < 256) (fun a d => d = .str (twoFigures a))) [] :=
  cal_P T.d_two_figures sc_two_figures (fun _ => rfl) (by decide) (fun _ _ _ _ _ _ us hl => match us, hl with | [_], _ => rfl) (fun f cdv A outer s H E hr => ⟨_, (pss_cons (ps_ret (pe_op op_addS (pe_op op_addS pe_str (pe_ix ix_str (C8.pe_gc rfl T.k_SIXTEEN) (pe_op op_fdiv (pv 0) pe_int) (fun _ _ => rfl))) (pe_ix ix_str (C8.pe_gc rfl T.k_SIXTEEN) (pe_op op_mod (pv 0) pe_int) (fun _ _ => rfl))))
    pss_nil), fun a ha => by
    show Dl.Run No _ [.dat (.int a)] _ _
    refine run_retV (EvV.cast (by repeat' (first | walk_at "ev" | exact o_ixS (hexAt (by omega) (by omega)) (sz1 rfl))) (by rfl)) rfl⟩)
def sixPre (a : List Int) (k : Nat) : List Nat := (List.range k).flatMap fun k => sixGroup ((a.drop (3 * k)).take 3)
theorem joinL_nil : ∀ ss : List (List Nat), Mr.joinL [] ss = ss.flatten
  | [] => rfl
  | [a] => by rw [List.flatten_cons, List.flatten_nil, List.append_nil] <;> rfl
  | a :: b :: r => by
    show a ++ ([] ++ Mr.joinL [] (b :: r)) = _
    rw [joinL_nil (b :: r), List.nil_append, List.flatten_cons, List.flatten_cons, List.flatten_cons]
theorem sixGroup_join {g : List Int} {four : List Int} (h : [sixNum g / 262144, sixNum g / 4096 % 64, sixNum g / 64 % 64, sixNum g % 64] = four) : Mr.joinL [] ((four.take (g.length + 1)).map fun p => [sixCh p]) ++ timesL [61] (3 - (g.length : Int)) = sixGroup g := by
  unfold sixGroup timesL
  rw [h]
  congr 1
  · rw [joinL_nil]
    generalize four.take (g.length + 1) = q
    induction q with
    | nil => rfl
    | cons x r ih => rw [List.map_cons, List.map_cons, List.flatten_cons, ih] <;> rfl
  · rw [show (3 - (g.length : Int)).toNat = 3 - g.length by omega, Dl.flat_rep]
theorem sixGroup_len (g : List Int) : (sixGroup g).length ≤ 10 := by
  unfold sixGroup
  rw [List.length_append, List.length_map, List.length_take, List.length_replicate]
  show min (g.length + 1) 4 + (3 - g.length) ≤ 10
  omega
theorem sixPre_len (a : List Int) : ∀ k : Nat, (sixPre a k).length ≤ 10 * k
  | 0 => Nat.le_refl 0
  | k + 1 => by
    have h := sixPre_len a k
    unfold sixPre at h ⊢
    rw [List.range_succ, List.flatMap_append, List.length_append]
    have := sixGroup_len ((a.drop (3 * k)).take 3)
    simp only [List.flatMap_cons, List.flatMap_nil, List.append_nil]
    omega
abbrev N_six_bits : List PySem.Str := ["octets", "found", "at", "some", "one", "two", "three", "number", "four", "part"]
theorem sc_six_bits : FnScope N_six_bits ["octets"] (defScope s_six_bits) := ⟨rfl, rfl, rfl, by decide +kernel, rfl, by decide +kernel, by decide +kernel⟩
local macro_rules | `(tactic| walk_at "lit") => `(tactic| first
  | with_reducible exact ev_strL l_SIX_eq
  | with_reducible exact ev_strL lit_nil
  | with_reducible exact ev_strL lit_3d)
theorem c_six_bits (T : Tx K mg) : C8.Cal P w K mg base 1 "six_bits" (spP (α := List Int) (fun a => [.lst (a.map .int)]) (fun a => a.length ≤ 10000 ∧ ∀ o ∈ a, 0 ≤ o ∧ o < 256) (fun a d => d = .str (sixBits a))) [] :=
  cal_P T.d_six_bits sc_six_bits (fun _ => rfl) (by decide) (fun _ _ _ _ _ _ us hl => match us, hl with | [_], _ => rfl) (fun f cdv A outer s H E hr => ⟨_, (pss_cons (ps_set (i := 1) sc_six_bits.nd rfl (Or.inl rfl) pe_str)
    (pss_cons (ps_for PassesOwn.never rfl (pi_range3 (by rfl) T.n_range (pa_cons pe_int (pa_cons (pe_callB cl_lenL (by rfl) T.n_len boot_len (pa_cons (pv 0) pa_nil)) (pa_cons pe_int pa_nil)))) (pg_name (i := 2) sc_six_bits.nd rfl (Or.inl rfl))
    (pss_cons (ps_set (i := 3) sc_six_bits.nd rfl (Or.inl rfl) (pe_slice sl_list (pv 0) (po_some (pv 2)) (po_some (pe_op op_add (pv 2) pe_int))))
    (pss_cons (ps_asg (pe_op op_cat (pv 3) (pe_op op_rep (pe_lst (pa_cons pe_int pa_nil)) (pe_op op_sub pe_int (pe_callB cl_lenL (by rfl) T.n_len boot_len (pa_cons (pv 3) pa_nil))))) (pg_unl rfl (pgs_cons (pg_name (i := 4) sc_six_bits.nd rfl (Or.inl rfl)) (pgs_cons (pg_name (i := 5) sc_six_bits.nd rfl (Or.inl rfl)) (pgs_cons (pg_name (i := 6) sc_six_bits.nd rfl (Or.inl rfl)) pgs_nil)))))
    (pss_cons (ps_set (i := 7) sc_six_bits.nd rfl (Or.inl rfl) (pe_op op_add (pe_op op_add (pe_op op_mul pe_int (pv 4)) (pe_op op_mul pe_int (pv 5))) (pv 6)))
    (pss_cons (ps_set (i := 8) sc_six_bits.nd rfl (Or.inl rfl) (pe_lst (pa_cons (pe_op op_fdiv (pv 7) pe_int) (pa_cons (pe_op op_mod (pe_op op_fdiv (pv 7) pe_int) pe_int) (pa_cons (pe_op op_mod (pe_op op_fdiv (pv 7) pe_int) pe_int) (pa_cons (pe_op op_mod (pv 7) pe_int) pa_nil))))))
    (pss_cons (ps_aug (i := 1) sc_six_bits.nd rfl (Or.inl rfl) (pe_op op_addS (pe_bm PySem.F.plainAttrs_str PySem.F.slot_str_join PySem.F.type_str_join m_join pe_str (pa_cons (pe_lc (own := [("part", 9)]) (g := gName 9) rfl sc_six_bits.nd (pi_list (pe_slice sl_list (pv 8) po_none (po_some (pe_op op_add (pe_callB cl_lenL (by rfl) T.n_len boot_len (pa_cons (pv 3) pa_nil)) pe_int)))) (blkOk_by (own := [("part", 9)]) (N := N_six_bits) (sc := defScope s_six_bits) (by decide +kernel)) (fun _ _ _ _ _ => pg_name (i := 9) sc_six_bits.nd rfl (Or.inl rfl)) (fun _ _ _ _ _ => pts_nil) (fun _ _ _ _ _ => (pe_ix ix_str (C8.pe_gc rfl T.k_SIX) (pv 9) (fun _ _ => rfl)))) pa_nil)) (pe_op op_mulS pe_str (pe_op op_sub pe_int (pe_callB cl_lenL (by rfl) T.n_len boot_len (pa_cons (pv 3) pa_nil))))) ip_addS)
    pss_nil))))))
    (pss_cons (ps_ret (pv 1))
    pss_nil))), fun a ha => by
    show Dl.Run No _ [.dat (.lst (a.map .int)), .no, .no, .no, .no, .no, .no, .no, .no, .no] _ _
    have hlen : ((a.map D.int).length : Int) = (a.length : Int) := by rw [List.length_map]
    refine run_set (by repeat' walk_at "ev") ?_
    refine run_for (fun k r => r = [.dat (.lst (a.map .int)), .dat (.str (sixPre a k)), .no, .no, .no, .no, .no, .no, .no, .no]) (ei_rng3 ev_int (EvV.cast (by repeat' walk_at "ev") (congrArg D.int hlen)) ev_int (rgC3 (c := 3) (by decide) (by decide) (by omega))) ⟨_, Le.refl _, rfl⟩ (fun k d r hd hr => ?_) (fun r hr => ?_)
    · obtain ⟨hk, rfl⟩ := rg_get hd
      subst hr
      have eat : (0 + (k : Int) * 3) = ((3 * k : Nat) : Int) := by omega
      have eat3 : ((3 * k : Nat) : Int) + 3 = ((3 * k + 3 : Nat) : Int) := by omega
      rw [eat]
      refine ⟨_, tg_name, ?_⟩
      show Dl.Run No _ [.dat (.lst (a.map .int)), .dat (.str (sixPre a k)), .dat (.int ((3 * k : Nat) : Int)), .no, .no, .no, .no, .no, .no, .no] _ _
      generalize hg : (a.drop (3 * k)).take 3 = g
      have hgl : 1 ≤ g.length ∧ g.length ≤ 3 := by
        rw [← hg, List.length_take, List.length_drop]
        omega
      have hgo : ∀ o ∈ g, 0 ≤ o ∧ o < 256 := fun o ho => ha.2 o (List.mem_of_mem_drop (List.mem_of_mem_take (hg ▸ ho)))
      have hgg : ∀ i, 0 ≤ g.getD i 0 ∧ g.getD i 0 < 256 := fun i => by
        rw [List.getD_eq_getElem?_getD]
        cases e : g[i]? with
        | none => exact ⟨by decide, by decide⟩
        | some x => exact hgo x (List.mem_of_getElem? e)
      have hn : 0 ≤ sixNum g ∧ sixNum g < 16777216 := by
        have h0 := hgg 0
        have h1 := hgg 1
        have h2 := hgg 2
        unfold sixNum
        omega
      have hgl2 : ((g.map D.int).length : Int) = (g.length : Int) := by rw [List.length_map]
      refine run_set (d := .lst (g.map .int)) (EvV.cast (by repeat' walk_at "ev") (by rw [eat3, cut_map, cut_mid, Nat.add_sub_cancel_left, hg])) ?_
      show Dl.Run No _ [.dat (.lst (a.map .int)), .dat (.str (sixPre a k)), .dat (.int ((3 * k : Nat) : Int)), .dat (.lst (g.map .int)), .no, .no, .no, .no, .no, .no] _ _
      refine run_asg (P := fun d => d = .lst [.int (g.getD 0 0), .int (g.getD 1 0), .int (g.getD 2 0)]) (EvV.cast (EvF.v (ef_op (ev_dat rfl) (EvF.v (ef_op (by repeat' walk_at "ev") (by repeat' walk_at "ev") (o_rep (by rw [hgl2]; omega) (sz (by omega)) (by rw [hgl2]; omega)))) (o_cat (sz (by rw [List.length_map, List.length_replicate]; omega))))) ?_) (fun d hd => ?_)
      · rw [hgl2]
        match g, hgl with
        | [x], _ => rfl
        | [x, y], _ => rfl
        | [x, y, z], _ => rfl
        | [], h => exact absurd h.1 (by decide)
        | _ :: _ :: _ :: _ :: _, h => exact absurd h.2 (by simp)
      subst hd
      refine ⟨_, tg_lst (tgs_cons tg_name (tgs_cons tg_name (tgs_cons tg_name tgs_nil))) rfl, ?_⟩
      show Dl.Run No _ [.dat (.lst (a.map .int)), .dat (.str (sixPre a k)), .dat (.int ((3 * k : Nat) : Int)), .dat (.lst (g.map .int)), .dat (.int (g.getD 0 0)), .dat (.int (g.getD 1 0)), .dat (.int (g.getD 2 0)), .no, .no, .no] _ _
      refine run_set (d := .int (sixNum g)) (EvV.cast (by repeat' walk_at "ev") (by rfl)) ?_
      refine run_set (d := .lst ([sixNum g / 262144, sixNum g / 4096 % 64, sixNum g / 64 % 64, sixNum g % 64].map D.int)) (EvV.cast (by repeat' walk_at "ev") (by rfl)) ?_
      show Dl.Run No _ [.dat (.lst (a.map .int)), .dat (.str (sixPre a k)), .dat (.int ((3 * k : Nat) : Int)), .dat (.lst (g.map .int)), .dat (.int (g.getD 0 0)), .dat (.int (g.getD 1 0)), .dat (.int (g.getD 2 0)), .dat (.int (sixNum g)), .dat (.lst ([sixNum g / 262144, sixNum g / 4096 % 64, sixNum g / 64 % 64, sixNum g % 64].map D.int)), .no] _ _
      have hall : ∀ p ∈ [sixNum g / 262144, sixNum g / 4096 % 64, sixNum g / 64 % 64, sixNum g % 64], 0 ≤ p ∧ p < 64 := by
        intro p hp
        simp only [List.mem_cons, List.not_mem_nil, or_false] at hp
        omega
      generalize hfour : [sixNum g / 262144, sixNum g / 4096 % 64, sixNum g / 64 % 64, sixNum g % 64] = four at hall ⊢
      have hfl : four.length = 4 := by rw [← hfour]; rfl
      have ecut : D.lst (cut (four.map D.int) none (some (((g.map D.int).length : Int) + 1))) = D.lst ((four.take (g.length + 1)).map D.int) := by
        rw [hgl2, show (g.length : Int) + 1 = ((g.length + 1 : Nat) : Int) by omega, cut_map, cut_to]
      have hgr : (sixGroup g).length ≤ 10 := by
        unfold sixGroup
        rw [hfour, List.length_append, List.length_map, List.length_take, List.length_replicate, hfl]
        omega
      have hpre := sixPre_len a k
      have hsl : (four.take (g.length + 1)).length ≤ 4 := by rw [List.length_take, hfl]; omega
      refine run_aug (d := .str (sixPre a (k + 1))) (y := .str (sixGroup g)) (x := .str (sixPre a k)) rfl ?_ ?_ ?_
      · refine EvV.cast (ev_op (y := .str (timesL [61] (3 - (g.length : Int)))) (ev_bm (ys := [.lst (((four.take (g.length + 1)).map fun p => [sixCh p]).map D.str)]) (by repeat' walk_at "ev") (ea_cons ?_ ea_nil) (md_join ?_)) ?_ (o_addS ?_)) ?_
        · refine EvV.cast (EvF.v (ef_lcM (four.take (g.length + 1)) D.int (fun p => .str [sixCh p]) (ei_list (EvV.cast (by repeat' walk_at "ev") ecut)) (fun p hp => ?_) ?_)) (by rw [List.map_map] <;> rfl)
          · have hp2 := hall p (List.mem_of_mem_take hp)
            exact ev_op (ev_strL l_SIX_eq) (ev_dat rfl) (o_ixS (sixAt hp2.1 hp2.2) (sz1 (by decide)))
          · exact sz (by omega)
        · rw [List.length_map]
          have : lens ((four.take (g.length + 1)).map fun p => [sixCh p]) = (four.take (g.length + 1)).length := by
            generalize four.take (g.length + 1) = q
            induction q with
            | nil => rfl
            | cons x r ih => simp only [lens, List.map_cons, List.sum_cons] at ih ⊢; simp at ih ⊢; omega
          simp at this ⊢
          omega
        · refine EvV.cast (by
            repeat' walk_at "ev"
            all_goals omega) (by rw [hgl2])
        · rw [← List.length_append, sixGroup_join hfour]
          exact sz (by omega)
        · exact congrArg D.str (sixGroup_join hfour)
      · refine OpD.cast (o_addS (sz (by omega))) (congrArg D.str ?_)
        show sixPre a k ++ sixGroup g = sixPre a (k + 1)
        unfold sixPre
        rw [List.range_succ, List.flatMap_append, List.flatMap_cons, List.flatMap_nil, List.append_nil, hg]
      · exact run_next ⟨_, .same (.same (.no (.no (.no (.no (.no (.no (.no (.no .nil))))))))), rfl⟩
    · subst hr
      rw [rg_len]
      exact run_retV (ev_dat rfl) rfl⟩)
end
end Fk
/-! Equal data. -/
namespace Dl
open PySem L2 Evl
/-- depth at most n, the signs of its texts are signs -/
def D.ok : Nat → D → Bool
  | _, .str s => s.all fun c => decide (c < 1114112)
  | 0, .lst xs => xs.isEmpty
  | 0, .tup xs => xs.isEmpty
  | n + 1, .lst xs => xs.all (D.ok n)
  | n + 1, .tup xs => xs.all (D.ok n)
  | _, _ => true
theorem pys_can {n : Nat} (ih : ∀ d : D, D.ok n d = true → d.py.canLay0 = true ∧ d.py.depth ≤ n + 1) : ∀ xs : List D, xs.all (D.ok n) = true → PyData.canLayAll0 (D.pys xs) = true ∧ PyData.depthAll (D.pys xs) ≤ n + 1
  | [], _ => ⟨rfl, Nat.zero_le _⟩
  | x :: r, h => by
    rw [List.all_cons, Bool.and_eq_true] at h
    obtain ⟨h1, h2⟩ := ih x h.1
    obtain ⟨h3, h4⟩ := pys_can ih r h.2
    refine ⟨?_, ?_⟩
    · show (x.py.canLay0 && PyData.canLayAll0 (D.pys r)) = true
      rw [h1, h3] <;> rfl
    · show max x.py.depth (PyData.depthAll (D.pys r)) ≤ n + 1
      omega
theorem strOk_of {s : List Nat} (h : (s.all fun c => decide (c < 1114112)) = true) : PyData.canLay0 (.str (Sx s)) = true := by
  simp only [PyData.canLay0, PyData.strOk]
  simp only [List.all_eq_true, decide_eq_true_eq] at h
  simp
  intro i hi
  first | exact h _ hi | exact h _ (List.getElem_mem hi)
theorem ok_py : ∀ (n : Nat) (d : D), D.ok n d = true → d.py.canLay0 = true ∧ d.py.depth ≤ n + 1
  | 0, .non, _ | 0, .bl _, _ | 0, .int _, _ => ⟨rfl, Nat.zero_le _⟩
  | n + 1, .non, _ | n + 1, .bl _, _ | n + 1, .int _, _ => ⟨rfl, Nat.zero_le _⟩
  | 0, .str s, h => ⟨strOk_of h, Nat.zero_le _⟩
  | n + 1, .str s, h => ⟨strOk_of h, Nat.zero_le _⟩
  | 0, .lst [], _ => ⟨rfl, Nat.le_refl _⟩
  | 0, .lst (_ :: _), h => by cases h
  | 0, .tup [], _ => ⟨rfl, Nat.le_refl _⟩
  | 0, .tup (_ :: _), h => by cases h
  | n + 1, .lst xs, h => by
    obtain ⟨h3, h4⟩ := pys_can (ok_py n) xs h
    exact ⟨h3, Nat.succ_le_succ h4⟩
  | n + 1, .tup xs, h => by
    obtain ⟨h3, h4⟩ := pys_can (ok_py n) xs h
    exact ⟨h3, Nat.succ_le_succ h4⟩
theorem ok_shaped {n : Nat} {d : D} (h : D.ok n d = true) (hn : n ≤ 63) : SeqAt.shaped d.py = true := by
  obtain ⟨h1, h2⟩ := ok_py n d h
  unfold SeqAt.shaped
  rw [h1, Bool.true_and, decide_eq_true_eq]
  omega
theorem ok_ints (a : List Int) : D.ok 1 (.lst (a.map .int)) = true := by
  show (a.map D.int).all (D.ok 0) = true
  rw [List.all_eq_true]
  intro d hd
  obtain ⟨i, _, rfl⟩ := List.mem_map.mp hd
  rfl
theorem eqv_ints : ∀ a b : List Int, PyData.eqvAll (D.pys (a.map .int)) (D.pys (b.map .int)) = decide (a = b)
  | [], [] => by simp [D.pys, PyData.eqvAll]
  | [], y :: s => by simp [D.pys, PyData.eqvAll]
  | x :: r, [] => by simp [D.pys, PyData.eqvAll]
  | x :: r, y :: s => by
    show (PyData.eqv (.int x) (.int y) && PyData.eqvAll (D.pys (r.map .int)) (D.pys (s.map .int))) = _
    rw [eqv_ints r s]
    show ((x == y) && _) = _
    by_cases h1 : x = y <;> by_cases h2 : r = s <;> simp [h1, h2]
section
variable {S : Addr → Prop} {K : PySem.W.Frag} {a b : List Int} {x : D}
theorem o_neInts : OpV S (rNeD K) (.lst (a.map .int)) (.lst (b.map .int)) (.bl (!decide (a = b))) := o_neD (ok_shaped (ok_ints a) (by decide)) (ok_shaped (ok_ints b) (by decide)) (eqv_ints a b)
theorem o_eqInts : OpV S (rEqD K) (.lst (a.map .int)) (.lst (b.map .int)) (.bl (decide (a = b))) := o_eqD (ok_shaped (ok_ints a) (by decide)) (ok_shaped (ok_ints b) (by decide)) (eqv_ints a b)
theorem o_neNil : OpV S (rNeD K) (.lst (a.map .int)) (.lst []) (.bl (!decide (a = []))) := o_neInts (b := [])
theorem o_eqNil : OpV S (rEqD K) (.lst (a.map .int)) (.lst []) (.bl (decide (a = []))) := o_eqInts (b := [])
theorem o_eqSame {n : Nat} (h : D.ok n x = true) (hn : n ≤ 63) : OpV S (rEqD K) x x (.bl true) := o_eqD (ok_shaped h hn) (ok_shaped h hn) (SeqAt.eqv_refl _ (ok_py n x h).1)
theorem o_neSame {n : Nat} (h : D.ok n x = true) (hn : n ≤ 63) : OpV S (rNeD K) x x (.bl false) := o_neD (ok_shaped h hn) (ok_shaped h hn) (SeqAt.eqv_refl _ (ok_py n x h).1)
/-- a list of anything against [] -/
theorem o_neNil' {xs : List D} {n : Nat} (h : D.ok n (.lst xs) = true) (hn : n ≤ 63) : OpV S (rNeD K) (.lst xs) (.lst []) (.bl (!decide (xs = []))) := o_neD (ok_shaped h hn) (ok_shaped (n := 1) (d := .lst []) rfl (by decide)) (by
  cases xs with
  | nil => rfl
  | cons x r => simp [D.py, D.pys, PyData.eqv, PyData.eqvAll])
theorem o_eqNil' {xs : List D} {n : Nat} (h : D.ok n (.lst xs) = true) (hn : n ≤ 63) : OpV S (rEqD K) (.lst xs) (.lst []) (.bl (decide (xs = []))) := o_eqD (ok_shaped h hn) (ok_shaped (n := 1) (d := .lst []) rfl (by decide)) (by
  cases xs with
  | nil => rfl
  | cons x r => simp [D.py, D.pys, PyData.eqv, PyData.eqvAll])
end
theorem map_get {α β : Type} {f : α → β} {l : List α} {k : Nat} {d : β} (h : (l.map f)[k]? = some d) : ∃ x, l[k]? = some x ∧ d = f x := by
  rw [List.getElem?_map] at h
  cases e : l[k]? with
  | none => rw [e] at h; cases h
  | some x => rw [e] at h; exact ⟨x, rfl, (Option.some.inj h).symm⟩
theorem get_map {α β : Type} {f : α → β} {l : List α} {k : Nat} {x : α} (h : l[k]? = some x) : (l.map f)[k]? = some (f x) := by rw [List.getElem?_map, h] <;> rfl
theorem drop_get {α : Type} {l : List α} {k : Nat} {x : α} (h : l[k]? = some x) : l.drop k = x :: l.drop (k + 1) := by
  obtain ⟨hk, e⟩ := List.getElem?_eq_some_iff.mp h
  rw [List.drop_eq_getElem_cons hk, e]
theorem enm_get {ys : List D} {k : Nat} {d : D} (h : (enm ys)[k]? = some d) : ∃ y, ys[k]? = some y ∧ d = .tup [.int (k : Int), y] := by
  unfold enm at h
  obtain ⟨j, hj, rfl⟩ := map_get h
  obtain ⟨hk, e⟩ := List.getElem?_eq_some_iff.mp hj
  rw [List.length_range] at hk
  rw [List.getElem_range] at e
  subst e
  exact ⟨ys[k], List.getElem?_eq_getElem hk, by rw [List.getD_eq_getElem?_getD, List.getElem?_eq_getElem hk] <;> rfl⟩
theorem run_setFV {S : Addr → Prop} {te : TE} {ρ : List Sl} {t2 : TS} {i : Nat} {N : List Sl → Prop} {R : D → Prop} {ds : List D} (h : EvF S te ρ (fun x => x = ds)) (h2 : Run S t2 (ρ.set i (.own ds)) N R) : Run S (tSeq (tAsg te (gName i)) t2) ρ N R := run_setF h fun _ e => by rw [e]; exact h2
theorem run_ifP {S : Addr → Prop} {ρ : List Sl} {t : TT} {a b t2 : TS} {N : List Sl → Prop} {R : D → Prop} (p : Prop) [Decidable p] {bb : Bool} (h : EvB S t ρ bb) (e : bb = decide p) (h1 : p → Run S (tSeq a t2) ρ N R) (h2 : ¬ p → Run S (tSeq b t2) ρ N R) : Run S (tSeq (tIfS t a b) t2) ρ N R := run_ifD (EvB.cast h e) h1 h2
theorem enm_len {ys : List D} : (enm ys).length = ys.length := by simp [enm]
end Dl
namespace Fk
open PySem PySem.Spec PyProof.Rows L2 Dl Mr
local macro_rules | `(tactic| walk_at "ev") => `(tactic| first
  | (with_reducible apply ev_dat) <;> rfl
  | with_reducible apply ev_int
  | with_reducible apply ev_bl
  | with_reducible apply ev_non
  | walk_at "lit"
  | with_reducible apply ev_str
  | with_reducible apply eb_test
  | with_reducible apply eb_B
  | with_reducible apply ev_op
  | with_reducible apply o_add
  | with_reducible apply o_sub
  | with_reducible apply o_mul
  | with_reducible apply o_fdiv
  | with_reducible apply o_fdivW
  | with_reducible apply o_mod
  | with_reducible apply o_lt
  | with_reducible apply o_le
  | with_reducible apply o_gt
  | with_reducible apply o_ge
  | with_reducible apply o_eqI
  | with_reducible apply o_neI
  | with_reducible apply o_eqS
  | with_reducible apply o_neS
  | with_reducible apply o_neInts
  | with_reducible apply o_neNil
  | with_reducible apply o_eqNil
  | with_reducible apply o_eqInts
  | with_reducible apply o_addS
  | with_reducible apply o_in1
  | with_reducible apply o_ni1
  | with_reducible apply o_inS
  | with_reducible apply o_mulS
  | with_reducible apply ea_nil
  | with_reducible apply ea_cons
  | with_reducible apply ev_tup
  | with_reducible apply ev_lst
  | with_reducible apply eb_not
  | with_reducible apply eb_and
  | with_reducible apply eb_or
  | with_reducible apply ev_andV
  | with_reducible apply ev_orV
  | with_reducible apply ev_notV
  | with_reducible apply ev_chain
  | with_reducible apply ev_neg
  | with_reducible apply ev_slS
  | with_reducible apply ev_slL
  | with_reducible apply eo_none
  | with_reducible apply eo_some
  | with_reducible apply ev_cb
  | with_reducible apply cd_lenT
  | with_reducible apply cd_lenL
  | with_reducible apply cd_int
  | with_reducible apply cd_max
  | with_reducible apply cd_min
  | with_reducible apply ev_bm
  | with_reducible apply ev_bm0
  | with_reducible apply md_strip
  | with_reducible apply md_rstrip
  | with_reducible apply md_find
  | with_reducible apply md_index
  | with_reducible apply md_starts
  | with_reducible apply md_lower
  | with_reducible apply md_upper
  | with_reducible apply ei_str
  | with_reducible apply ei_list
  | with_reducible exact sz1 rfl
  | with_reducible exact Nat.le_of_ble_eq_true rfl
  | ((with_reducible apply cmulL) <;> decide)
  | ((with_reducible apply cmulR) <;> decide)
  | ((with_reducible apply cdiv) <;> decide)
  | ((with_reducible show (0 : Int) < _) <;> decide)
  | (with_reducible intro _hyp))

section
variable {P : Program} {w : World} {K : PySem.W.Frag} {mg : PySem.Str → Option Value} {base : Heap}
def isSay (a : List Int) : Bool := a.all fun n => decide (32 ≤ n) && decide (n ≤ 65535)
abbrev N_is_saying : List PySem.Str := ["thing", "one"]
theorem sc_is_saying : FnScope N_is_saying ["thing"] (defScope s_is_saying) := ⟨rfl, rfl, rfl, by decide +kernel, rfl, by decide +kernel, by decide +kernel⟩
theorem c_is_saying (T : Tx K mg) : C8.Cal P w K mg base 3 "is_saying" (spP (α := List Int) (fun a => [.lst (a.map .int)]) (fun a => a.length ≤ 10000) (fun a d => d = .bl (isSay a))) [] :=
  have c_is_between := c_is_between (P := P) (w := w) (base := base) T
  cal_P T.d_is_saying sc_is_saying (fun _ => rfl) (by decide) (fun _ _ _ _ _ _ us hl => match us, hl with | [_], _ => rfl) (fun f cdv A outer s H E hr => ⟨_, (pss_cons (ps_ret (pe_and (pe_callB (id := "isinstance") call_isi (by rfl) T.n_isinstance (by decide +kernel) (pa_cons (pv 0) (pa_cons (pe_bltn (v := V.ty "list") (u := Value.type "list") (by rfl) T.n_list (by decide +kernel) rfl) pa_nil))) (pe_one (pe_callB (id := "all") (cr_all rfl) (by rfl) T.n_all (by decide +kernel) (pa_cons (pe_lc (own := [("one", 1)]) (g := gName 1) rfl sc_is_saying.nd (pi_list (pv 0)) (blkOk_by (own := [("one", 1)]) (N := N_is_saying) (sc := defScope s_is_saying) (by decide +kernel)) (fun _ _ _ _ _ => pg_name (i := 1) sc_is_saying.nd rfl (Or.inl rfl)) (fun _ _ _ _ _ => pts_nil) (fun _ _ _ _ _ => (C8.pe_c c_is_between hr (by decide) rfl (pa_cons (pv 1) (pa_cons (C8.pe_gc rfl T.k_LEAST_SIGN) (pa_cons (C8.pe_gc rfl T.k_MOST_SIGN) pa_nil)))))) pa_nil)))))
    pss_nil), fun a ha => by
    show Dl.Run No _ [.dat (.lst (a.map .int)), .no] _ _
    refine run_retV (ev_andV (a := true) (ev_isi (ev_dat rfl) (fun z => nomatch z) rfl) (fun _ => ev_cb (ea_cons (EvF.v (ef_lcM a .int (fun n => .bl (decide (32 ≤ n) && decide (n ≤ 65535))) (by repeat' walk_at "ev") (fun n _ => ed_call (n, 32, 65535) (by repeat' walk_at "ev") trivial) (sz (by omega)))) ea_nil) (ClV.cast cd_all (by rw [List.map_map] <;> rfl)))) (by simp [isSay, List.all_map, Function.comp_def])⟩)
abbrev N_sign_octets : List PySem.Str := ["sign"]
theorem sc_sign_octets : FnScope N_sign_octets ["sign"] (defScope s_sign_octets) := ⟨rfl, rfl, rfl, by decide +kernel, rfl, by decide +kernel, by decide +kernel⟩
theorem c_sign_octets (T : Tx K mg) : C8.Cal P w K mg base 1 "sign_octets" (spP (α := Int) (fun a => [.int a]) (fun _ => True) (fun a d => d = .lst ((signOctets a).map .int))) [] :=
  cal_P T.d_sign_octets sc_sign_octets (fun _ => rfl) (by decide) (fun _ _ _ _ _ _ us hl => match us, hl with | [_], _ => rfl) (fun f cdv A outer s H E hr => ⟨_, (pss_cons (ps_if (pt_cmpR op_lt (pv 0) pe_int (by rfl))
    (pss_cons (ps_ret (pe_lst (pa_cons (pv 0) pa_nil)))
    pss_nil)
    pss_nil)
    (pss_cons (ps_if (pt_cmpR op_lt (pv 0) pe_int (by rfl))
    (pss_cons (ps_ret (pe_lst (pa_cons (pe_op op_add pe_int (pe_op op_fdiv (pv 0) pe_int)) (pa_cons (pe_op op_add pe_int (pe_op op_mod (pv 0) pe_int)) pa_nil))))
    pss_nil)
    pss_nil)
    (pss_cons (ps_ret (pe_lst (pa_cons (pe_op op_add pe_int (pe_op op_fdiv (pv 0) pe_int)) (pa_cons (pe_op op_add pe_int (pe_op op_mod (pe_op op_fdiv (pv 0) pe_int) pe_int)) (pa_cons (pe_op op_add pe_int (pe_op op_mod (pv 0) pe_int)) pa_nil)))))
    pss_nil))), fun a _ => by
    show Dl.Run No _ [.dat (.int a)] _ _
    refine run_ifD (by repeat' walk_at "ev") (fun h => ?_) (fun h => run_skip (run_ifD (by repeat' walk_at "ev") (fun h2 => ?_) (fun h2 => run_skip ?_)))
    · refine run_retV (by repeat' walk_at "ev") (by simp [signOctets, h])
    · refine run_retV (by repeat' walk_at "ev") (by simp [signOctets, h, h2])
    · refine run_retV (by repeat' walk_at "ev") (by simp [signOctets, h, h2])⟩)
def optI : Option Int → D
  | none => .non
  | some i => .int i
theorem manyOf_eq (one : Int) : (1 + (if decide (192 ≤ one) = true then 1 else 0) + (if decide (224 ≤ one) = true then 1 else 0) : Int) = (manyOf one : Nat) := by
  unfold manyOf
  by_cases h1 : 192 ≤ one <;> by_cases h2 : 224 ≤ one <;> simp [h1, h2]
theorem manyOf_le (one : Int) : 1 ≤ manyOf one ∧ manyOf one ≤ 3 := by
  unfold manyOf
  split <;> split <;> omega
abbrev N_sign_at : List PySem.Str := ["octets", "at", "one", "many", "some", "sign", "octet"]
theorem sc_sign_at : FnScope N_sign_at ["octets", "at"] (defScope s_sign_at) := ⟨rfl, rfl, rfl, by decide +kernel, rfl, by decide +kernel, by decide +kernel⟩
theorem c_sign_at (T : Tx K mg) : C8.Cal P w K mg base 2 "sign_at" (spP (α := List Int × Nat) (fun a => [.lst (a.1.map .int), .int (a.2 : Int)]) (fun a => a.1.length ≤ 10000 ∧ a.2 < a.1.length) (fun a d => d = optI (signAt (a.1.drop a.2)))) [] :=
  have c_sign_octets := c_sign_octets (P := P) (w := w) (base := base) T
  cal_P T.d_sign_at sc_sign_at (fun _ => rfl) (by decide) (fun _ _ _ _ _ _ us hl => match us, hl with | [_, _], _ => rfl) (fun f cdv A outer s H E hr => ⟨_, (pss_cons (ps_set (i := 2) sc_sign_at.nd rfl (Or.inl rfl) (pe_ix ix_list (pv 0) (pv 1) (fun _ _ => rfl)))
    (pss_cons (ps_set (i := 3) sc_sign_at.nd rfl (Or.inl rfl) (pe_op op_add (pe_op op_add pe_int (pe_callTy (T := "int") cl_int1 (by rfl) T.n_int (by decide +kernel) (pa_cons (pe_cmpR op_ge (pv 2) pe_int (by rfl)) pa_nil))) (pe_callTy (T := "int") cl_int1 (by rfl) T.n_int (by decide +kernel) (pa_cons (pe_cmpR op_ge (pv 2) pe_int (by rfl)) pa_nil))))
    (pss_cons (ps_set (i := 4) sc_sign_at.nd rfl (Or.inl rfl) (pe_slice sl_list (pv 0) (po_some (pv 1)) (po_some (pe_op op_add (pv 1) (pv 3)))))
    (pss_cons (ps_set (i := 5) sc_sign_at.nd rfl (Or.inl rfl) (pe_ix ix_list (pe_lst (pa_cons (pv 2) (pa_cons (pe_op op_sub (pv 2) pe_int) (pa_cons (pe_op op_sub (pv 2) pe_int) pa_nil)))) (pe_op op_sub (pv 3) pe_int) (fun _ _ => rfl)))
    (pss_cons (ps_for PassesOwn.never rfl (pi_list (pe_slice sl_list (pv 4) (po_some pe_int) po_none)) (pg_name (i := 6) sc_sign_at.nd rfl (Or.inl rfl))
    (pss_cons (ps_set (i := 5) sc_sign_at.nd rfl (Or.inl rfl) (pe_op op_sub (pe_op op_add (pe_op op_mul pe_int (pv 5)) (pv 6)) pe_int))
    pss_nil))
    (pss_cons (ps_if (PW.pt (pw_or (pt_not (pt_chain op_le op_le (C8.pe_gc rfl T.k_LEAST_SIGN) (pv 5) (C8.pe_gc rfl T.k_MOST_SIGN))) (pw_or1 (pt_cmpR (op_neD hr.units) (C8.pe_c c_sign_octets hr (by decide) rfl (pa_cons (pv 5) pa_nil)) (pv 4) (by rfl)))))
    (pss_cons (ps_ret pe_non)
    pss_nil)
    pss_nil)
    (pss_cons (ps_ret (pv 5))
    pss_nil))))))), fun a ha => by
    obtain ⟨os, at'⟩ := a
    show Dl.Run No _ [.dat (.lst (os.map .int)), .dat (.int (at' : Int)), .no, .no, .no, .no, .no] _ _
    obtain ⟨h1, h2⟩ := ha
    have hg : os[at']? = some os[at'] := List.getElem?_eq_getElem h2
    generalize hone : os[at'] = one at hg
    have hd := drop_get hg
    generalize hr' : os.drop (at' + 1) = r at hd
    refine run_set (d := .int one) (ev_op (ev_dat rfl) (ev_dat rfl) (o_ixL (Dl.atI_nat (get_map hg)))) ?_
    refine run_set (d := .int (manyOf one : Nat)) (EvV.cast (by repeat' walk_at "ev") (congrArg D.int (manyOf_eq one))) ?_
    refine run_set (d := .lst ((one :: r.take (manyOf one - 1)).map .int)) (EvV.cast (by repeat' walk_at "ev") ?_) ?_
    · have e : ((at' : Int) + (manyOf one : Nat)) = ((at' + manyOf one : Nat) : Int) := by omega
      rw [e, cut_map, cut_mid, hd, show at' + manyOf one - at' = (manyOf one - 1) + 1 by have := manyOf_le one; omega, List.take_succ_cons]
    show Dl.Run No _ [.dat (.lst (os.map .int)), .dat (.int (at' : Int)), .dat (.int one), .dat (.int (manyOf one : Nat)), .dat (.lst ((one :: r.take (manyOf one - 1)).map .int)), .no, .no] _ _
    refine run_set (d := .int (one - (if 224 ≤ one then 224 else if 192 ≤ one then 192 else 0))) (ev_op (ev_lst (by repeat' walk_at "ev") (sz1 rfl)) (by repeat' walk_at "ev") (o_ixL ?_)) ?_
    · unfold manyOf
      by_cases h3 : 224 ≤ one
      · have h4 : 192 ≤ one := by omega
        simp only [h3, h4, if_true]; rfl
      · by_cases h4 : 192 ≤ one
        · simp only [h3, h4, if_true, if_false]; rfl
        · simp only [h3, h4, if_false]
          show some (D.int one) = some (.int (one - 0))
          rw [Int.sub_zero]
    generalize hs0 : one - (if 224 ≤ one then 224 else if 192 ≤ one then 192 else 0) = s0
    generalize hm : r.take (manyOf one - 1) = m
    show Dl.Run No _ [.dat (.lst (os.map .int)), .dat (.int (at' : Int)), .dat (.int one), .dat (.int (manyOf one : Nat)), .dat (.lst ((one :: m).map .int)), .dat (.int s0), .no] _ _
    refine run_for (fun k r => r = [.dat (.lst (os.map .int)), .dat (.int (at' : Int)), .dat (.int one), .dat (.int (manyOf one : Nat)), .dat (.lst ((one :: m).map .int)), .dat (.int ((m.take k).foldl (fun s o => 64 * s + o - 128) s0)), .no]) (ys := m.map .int) (ei_list (EvV.cast (by repeat' walk_at "ev") (by rw [show (1 : Int) = ((1 : Nat) : Int) from rfl, cut_from] <;> rfl))) ⟨_, Le.refl _, by rw [List.take_zero] <;> rfl⟩ (fun k d r hd hr => ?_) (fun r hr => ?_)
    · obtain ⟨x, hx, rfl⟩ := map_get hd
      subst hr
      refine ⟨_, tg_name, ?_⟩
      refine run_set (by repeat' walk_at "ev") (run_next ⟨_, .same (.same (.same (.same (.same (.same (.no .nil)))))), ?_⟩)
      rw [take_next hx, List.foldl_append] <;> rfl
    · subst hr
      rw [List.length_map, List.take_length]
      have hsv : m.foldl (fun s o => 64 * s + o - 128) s0 = signVal one m := by unfold signVal; rw [hs0]
      rw [hsv]
      have hsa : signAt (os.drop at') = if 32 ≤ signVal one m ∧ signVal one m ≤ 65535 ∧ signOctets (signVal one m) = one :: m then some (signVal one m) else none := by
        rw [hd]
        simp only [signAt, hm]
      show Run No _ _ _ fun d => d = optI (signAt (os.drop at'))
      rw [hsa]
      generalize signVal one m = sv
      refine run_ifP (¬ (32 ≤ sv ∧ sv ≤ 65535 ∧ signOctets sv = one :: m)) (eb_or (eb_not (by repeat' walk_at "ev")) (fun _ => eb_B (ev_op (ed_call sv (by repeat' walk_at "ev") trivial) (ev_dat rfl) o_neInts))) ?_ (fun h => ?_) (fun h => run_skip ?_)
      · by_cases x1 : 32 ≤ sv <;> by_cases x2 : sv ≤ 65535 <;> by_cases x3 : signOctets sv = one :: m <;> simp [x1, x2, x3]
      · refine run_retV ev_non ?_
        rw [if_neg h] <;> rfl
      · refine run_retV (ev_dat rfl) ?_
        rw [if_pos (Classical.not_not.mp h)] <;> rfl⟩)
theorem signsTold_len : ∀ (n : Nat) (os : List Int), os.length ≤ n → (signsTold os).1.length ≤ (signsTold os).2 ∧ (signsTold os).2 ≤ os.length
  | n, os, hn => by
    unfold signsTold
    split
    · exact ⟨Nat.le_refl _, Nat.zero_le _⟩
    · next s hs =>
      have hp := signOctets_pos s
      cases os with
      | nil => simp [signAt] at hs
      | cons a r =>
        have hl : (signOctets s).length ≤ (a :: r).length := by
          simp only [signAt] at hs
          split at hs
          · next hh =>
            have := Option.some.inj hs
            rw [this] at hh
            rw [hh.2.2]
            simp only [List.length_cons, List.length_take]
            omega
          · cases hs
        cases n with
        | zero => simp at hn
        | succ n =>
          obtain ⟨i1, i2⟩ := signsTold_len n ((a :: r).drop (signOctets s).length) (by rw [List.length_drop]; omega)
          rw [List.length_drop] at i2
          refine ⟨?_, ?_⟩
          · show (signsTold _).1.length + 1 ≤ _
            omega
          · omega
abbrev N_signs_told : List PySem.Str := ["octets", "found", "at", "sign"]
theorem sc_signs_told : FnScope N_signs_told ["octets"] (defScope s_signs_told) := ⟨rfl, rfl, rfl, by decide +kernel, rfl, by decide +kernel, by decide +kernel⟩
theorem c_signs_told (T : Tx K mg) : C8.Cal P w K mg base 3 "signs_told" (spP (α := List Int) (fun a => [.lst (a.map .int)]) (fun a => a.length ≤ 10000) (fun a d => d = .tup [.lst ((signsTold a).1.map .int), .int ((signsTold a).2 : Nat)])) [] :=
  have c_sign_octets := c_sign_octets (P := P) (w := w) (base := base) T
  have c_sign_at := c_sign_at (P := P) (w := w) (base := base) T
  cal_P T.d_signs_told sc_signs_told (fun _ => rfl) (by decide) (fun _ _ _ _ _ _ us hl => match us, hl with | [_], _ => rfl) (fun f cdv A outer s H E hr => ⟨_, (pss_cons (ps_set (i := 1) sc_signs_told.nd rfl (Or.inl rfl) (pe_lst pa_nil))
    (pss_cons (ps_set (i := 2) sc_signs_told.nd rfl (Or.inl rfl) pe_int)
    (pss_cons (ps_while PassesOwn.never (pt_cmpR op_lt (pv 2) (pe_callB cl_lenL (by rfl) T.n_len boot_len (pa_cons (pv 0) pa_nil)) (by rfl))
    (pss_cons (ps_set (i := 3) sc_signs_told.nd rfl (Or.inl rfl) (C8.pe_c c_sign_at hr (by decide) rfl (pa_cons (pv 0) (pa_cons (pv 2) pa_nil))))
    (pss_cons (ps_if (pt_cmpR op_isN1 (pv 3) pe_non (by rfl))
    (pss_cons (ps_ret (pe_tup (pa_cons (pv 1) (pa_cons (pv 2) pa_nil))))
    pss_nil)
    pss_nil)
    (pss_cons (ps_expr (pe_bm PySem.F.plainAttrs_list PySem.F.slot_list_append PySem.F.type_list_append mt_append (pv 1) (pa_cons (pv 3) pa_nil)))
    (pss_cons (ps_aug (i := 2) sc_signs_told.nd rfl (Or.inl rfl) (pe_callB cl_lenL (by rfl) T.n_len boot_len (pa_cons (C8.pe_c c_sign_octets hr (by decide) rfl (pa_cons (pv 3) pa_nil)) pa_nil)) ip_add)
    pss_nil)))))
    (pss_cons (ps_ret (pe_tup (pa_cons (pv 1) (pa_cons (pv 2) pa_nil))))
    pss_nil)))), fun a ha => by
    show Dl.Run No _ [.dat (.lst (a.map .int)), .no, .no, .no] _ _
    refine run_setFV (ef_lstV ea_nil (sz1 rfl)) (run_set ev_int ?_)
    refine run_while (α := Nat × List Int) (fun x => [.dat (.lst (a.map .int)), .own (x.2.map .int), .dat (.int (x.1 : Nat)), .no]) (fun x => x.1 ≤ a.length ∧ x.2.length ≤ x.1 ∧ (signsTold a).1 = x.2 ++ (signsTold (a.drop x.1)).1 ∧ (signsTold a).2 = x.1 + (signsTold (a.drop x.1)).2) (fun x => a.length - x.1) (fun x => decide (x.1 < a.length)) (0, []) (Le.refl _) ⟨Nat.zero_le _, Nat.zero_le _, rfl, by rw [List.drop_zero, Nat.zero_add]⟩ (fun x hx => EvB.cast (by repeat' walk_at "ev") (by rw [List.length_map]; exact decI (by omega))) (fun x hx hb => ?_) (fun x hx hb => ?_)
    · obtain ⟨k, fd⟩ := x
      have hk : k < a.length := of_decide_eq_true hb
      obtain ⟨h1, h2, h3, h4⟩ := hx
      simp only at h1 h2 h3 h4
      show Dl.Run No _ [.dat (.lst (a.map .int)), .own (fd.map .int), .dat (.int (k : Nat)), .no] _ _
      refine run_set (ed_call (a, k) (by repeat' walk_at "ev") ⟨ha, hk⟩) ?_
      show Dl.Run No _ [.dat (.lst (a.map .int)), .own (fd.map .int), .dat (.int (k : Nat)), .dat (optI (signAt (a.drop k)))] _ _
      cases hs : signAt (a.drop k) with
      | none =>
        have e0 : signsTold (a.drop k) = ([], 0) := by
          rw [signsTold]
          split
          · rfl
          · next h => rw [hs] at h; cases h
        rw [e0, List.append_nil] at h3
        rw [e0, Nat.add_zero] at h4
        refine run_yes (eb_B (ev_op (ev_dat rfl) ev_non (o_isN fun _ _ r => isN_non r))) ?_
        refine run_flat (run_freeze 1 rfl (run_retV (ev_tup (ea_cons (ev_dat rfl) (ea_cons (ev_dat rfl) ea_nil)) (sz1 rfl)) ?_))
        rw [h3, h4]
      | some sg =>
        have e0 : signsTold (a.drop k) = (sg :: (signsTold ((a.drop k).drop (signOctets sg).length)).1, (signOctets sg).length + (signsTold ((a.drop k).drop (signOctets sg).length)).2) := by
          rw [signsTold]
          split
          · next h => rw [hs] at h; cases h
          · next h =>
            rw [hs] at h
            cases h
            rfl
        rw [List.drop_drop] at e0
        have hb' := (signsTold_len _ (a.drop k) (Nat.le_refl _)).2
        rw [e0, List.length_drop] at hb'
        rw [e0] at h3 h4
        simp only at h3 h4 hb'
        refine run_no (eb_B (ev_op (ev_dat rfl) ev_non (o_isN fun _ _ r => isN_int r))) (run_skip ?_)
        refine run_appendV rfl (ev_dat rfl) (sz' (by rw [List.length_map]; omega)) ?_
        refine run_aug rfl (ev_cb (ea_cons (ed_call sg (by repeat' walk_at "ev") trivial) ea_nil) cd_lenL) o_ipAdd ?_
        have hp := signOctets_pos sg
        refine run_next ⟨(k + (signOctets sg).length, fd ++ [sg]), ?_, ⟨by simp only; omega, ?_, ?_, ?_⟩, ?_⟩
        · have e1 : D.int ((k : Int) + (((signOctets sg).map D.int).length : Int)) = .int ((k + (signOctets sg).length : Nat) : Int) := by
            rw [List.length_map]; congr 1
          rw [e1]
          show Le [_, .own (fd.map D.int ++ [.int sg]), _, _] [_, .own ((fd ++ [sg]).map D.int), _, _]
          rw [List.map_append]
          exact .same (.same (.same (.no .nil)))
        · simp only [List.length_append, List.length_cons, List.length_nil]; omega
        · rw [h3, List.append_assoc] <;> rfl
        · rw [h4, Nat.add_assoc]
        · show a.length - (k + (signOctets sg).length) < a.length - k
          omega
    · obtain ⟨k, fd⟩ := x
      obtain ⟨h1, h2, h3, h4⟩ := hx
      have hk : k = a.length := by
        have := of_decide_eq_false hb
        simp only at h1 this
        omega
      subst hk
      simp only at h3 h4
      have e0 : signsTold (a.drop a.length) = ([], 0) := by
        rw [List.drop_length, signsTold]
        rfl
      rw [e0, List.append_nil] at h3
      rw [e0, Nat.add_zero] at h4
      refine run_freeze 1 rfl (run_retV (ev_tup (ea_cons (ev_dat rfl) (ea_cons (ev_dat rfl) ea_nil)) (sz1 rfl)) ?_)
      rw [h3, h4]⟩)
end
end Fk
namespace Fk
open PySem PySem.Spec PyProof.Rows L2 Dl Mr
local macro_rules | `(tactic| walk_at "ev") => `(tactic| first
  | (with_reducible apply ev_dat) <;> rfl
  | with_reducible apply ev_int
  | with_reducible apply ev_bl
  | with_reducible apply ev_non
  | walk_at "lit"
  | with_reducible apply ev_str
  | with_reducible apply eb_test
  | with_reducible apply eb_B
  | with_reducible apply ev_op
  | with_reducible apply o_add
  | with_reducible apply o_sub
  | with_reducible apply o_mul
  | with_reducible apply o_fdiv
  | with_reducible apply o_fdivW
  | with_reducible apply o_mod
  | with_reducible apply o_lt
  | with_reducible apply o_le
  | with_reducible apply o_gt
  | with_reducible apply o_ge
  | with_reducible apply o_eqI
  | with_reducible apply o_neI
  | with_reducible apply o_eqS
  | with_reducible apply o_neS
  | with_reducible apply o_neInts
  | with_reducible apply o_neNil
  | with_reducible apply o_eqNil
  | with_reducible apply o_eqInts
  | with_reducible apply o_addS
  | with_reducible apply o_in1
  | with_reducible apply o_ni1
  | with_reducible apply o_inS
  | with_reducible apply o_mulS
  | with_reducible apply ea_nil
  | with_reducible apply ea_cons
  | with_reducible apply ev_tup
  | with_reducible apply ev_lst
  | with_reducible apply eb_not
  | with_reducible apply eb_and
  | with_reducible apply eb_or
  | with_reducible apply ev_andV
  | with_reducible apply ev_orV
  | with_reducible apply ev_notV
  | with_reducible apply ev_chain
  | with_reducible apply ev_neg
  | with_reducible apply ev_slS
  | with_reducible apply ev_slL
  | with_reducible apply eo_none
  | with_reducible apply eo_some
  | with_reducible apply ev_cb
  | with_reducible apply cd_lenT
  | with_reducible apply cd_lenL
  | with_reducible apply cd_int
  | with_reducible apply cd_max
  | with_reducible apply cd_min
  | with_reducible apply ev_bm
  | with_reducible apply ev_bm0
  | with_reducible apply md_strip
  | with_reducible apply md_rstrip
  | with_reducible apply md_find
  | with_reducible apply md_index
  | with_reducible apply md_starts
  | with_reducible apply md_lower
  | with_reducible apply md_upper
  | with_reducible apply ei_str
  | with_reducible apply ei_list
  | with_reducible exact sz1 rfl
  | with_reducible exact Nat.le_of_ble_eq_true rfl
  | ((with_reducible apply cmulL) <;> decide)
  | ((with_reducible apply cmulR) <;> decide)
  | ((with_reducible apply cdiv) <;> decide)
  | ((with_reducible show (0 : Int) < _) <;> decide)
  | (with_reducible intro _hyp))

section
variable {P : Program} {w : World} {K : PySem.W.Frag} {mg : PySem.Str → Option Value} {base : Heap}
theorem marked_len (a : List Int) : (Mr.marked a).length ≤ 3 * a.length := by
  induction a with
  | nil => exact Nat.zero_le _
  | cons x r ih =>
    show (markOf x ++ Mr.marked r).length ≤ _
    have : (markOf x).length ≤ 3 := by
      unfold markOf twoFigures
      split
      · decide
      · split <;> simp
    rw [List.length_append, List.length_cons]
    omega
theorem octet_signs : ∀ k : Nat, k < 127 → (32 ≤ k → (isSign (k : Int) = true → k < 128)) := by
  intro k hk _ _
  omega
abbrev N_marked : List PySem.Str := ["octets", "found", "octet", "sign"]
theorem sc_marked : FnScope N_marked ["octets"] (defScope s_marked) := ⟨rfl, rfl, rfl, by decide +kernel, rfl, by decide +kernel, by decide +kernel⟩
local macro_rules | `(tactic| walk_at "lit") => `(tactic| first
  | with_reducible exact ev_strL l_LETTERS_eq
  | with_reducible exact ev_strL l_FIGURES_eq
  | with_reducible exact ev_strL lit_nil
  | with_reducible exact ev_strL lit_20
  | with_reducible exact ev_strL lit_5f)
theorem c_marked (T : Tx K mg) : C8.Cal P w K mg base 2 "marked" (spP (α := List Int) (fun a => [.lst (a.map .int)]) (fun a => a.length ≤ 10000 ∧ ∀ o ∈ a, 0 ≤ o ∧ o < 256) (fun a d => d = .str (Mr.marked a))) [] :=
  have c_is_sign := c_is_sign (P := P) (w := w) (base := base) T
  have c_sign_of := c_sign_of (P := P) (w := w) (base := base) T
  have c_two_figures := c_two_figures (P := P) (w := w) (base := base) T
  cal_P T.d_marked sc_marked (fun _ => rfl) (by decide) (fun _ _ _ _ _ _ us hl => match us, hl with | [_], _ => rfl) (fun f cdv A outer s H E hr => ⟨_, (pss_cons (ps_set (i := 1) sc_marked.nd rfl (Or.inl rfl) pe_str)
    (pss_cons (ps_for PassesOwn.never rfl (pi_list (pv 0)) (pg_name (i := 2) sc_marked.nd rfl (Or.inl rfl))
    (pss_cons (ps_set (i := 3) sc_marked.nd rfl (Or.inl rfl) (pe_ifExp (pt_val (C8.pe_c c_is_sign hr (by decide) rfl (pa_cons (pv 2) pa_nil))) (C8.pe_c c_sign_of hr (by decide) rfl (pa_cons (pv 2) pa_nil)) pe_str))
    (pss_cons (ps_if (pt_cmpR op_eq (pv 3) pe_str (by rfl))
    (pss_cons (ps_aug (i := 1) sc_marked.nd rfl (Or.inl rfl) pe_str ip_addS)
    pss_nil)
    (pss_cons (ps_if (PW.pt (pw_and (pt_cmpR op_ne (pv 3) pe_str (by rfl)) (pw_and1 (pt_cmpR op_inS (pv 3) (pe_op op_addS (C8.pe_gc rfl T.k_LETTERS) (C8.pe_gc rfl T.k_FIGURES)) (by rfl)))))
    (pss_cons (ps_aug (i := 1) sc_marked.nd rfl (Or.inl rfl) (pv 3) ip_addS)
    pss_nil)
    (pss_cons (ps_aug (i := 1) sc_marked.nd rfl (Or.inl rfl) (C8.pe_c c_two_figures hr (by decide) rfl (pa_cons (pv 2) pa_nil)) ip_addS)
    pss_nil))
    pss_nil))
    pss_nil)))
    (pss_cons (ps_ret (pv 1))
    pss_nil))), fun a ha => by
    show Dl.Run No _ [.dat (.lst (a.map .int)), .no, .no, .no] _ _
    refine run_set (by repeat' walk_at "ev") ?_
    refine run_for (fun k r => r = [.dat (.lst (a.map .int)), .dat (.str (Mr.marked (a.take k))), .no, .no]) (ei_list (ev_dat rfl)) ⟨_, Le.refl _, rfl⟩ (fun k d r hd hr => ?_) (fun r hr => ?_)
    · obtain ⟨x, hx, rfl⟩ := map_get hd
      subst hr
      refine ⟨_, tg_name, ?_⟩
      have hxr := ha.2 x (List.mem_of_getElem? hx)
      have e1 : Mr.marked (a.take (k + 1)) = Mr.marked (a.take k) ++ markOf x := by
        rw [take_next hx]
        simp [Mr.marked]
      have hl : (Mr.marked (a.take k)).length ≤ 30000 := by
        have := marked_len (a.take k)
        rw [List.length_take] at this
        omega
      generalize Mr.marked (a.take k) = m at e1 hl
      show Dl.Run No _ [.dat (.lst (a.map .int)), .dat (.str m), .dat (.int x), .no] _ _
      refine run_set (d := .str (if isSign x = true then [x.toNat] else [])) (ed_if (eb_test (ed_call x (by repeat' walk_at "ev") trivial)) (fun h => EvV.cast (ed_call x (by repeat' walk_at "ev") h) (by rw [if_pos h])) (fun h => EvV.cast (by repeat' walk_at "ev") (by rw [if_neg (by rw [h]; decide)]))) ?_
      show Dl.Run No _ [.dat (.lst (a.map .int)), .dat (.str m), .dat (.int x), .dat (.str (if isSign x = true then [x.toNat] else []))] _ _
      have fin : ∀ q : List Nat, q = markOf x → Dl.Run No tNext [.dat (.lst (a.map .int)), .dat (.str (m ++ q)), .dat (.int x), .dat (.str (if isSign x = true then [x.toNat] else []))] (fun r3 => ∃ r4, Le r3 r4 ∧ r4 = [.dat (.lst (a.map .int)), .dat (.str (Mr.marked (a.take (k + 1)))), .no, .no]) (fun d => d = .str (Mr.marked a)) := fun q hq => run_next ⟨_, .same (.same (.no (.no .nil))), by rw [e1, hq]⟩
      refine run_ifP (isSign x = true ∧ x = 32) (by repeat' walk_at "ev") ?_ (fun h => ?_) (fun h => ?_)
      · by_cases h1 : isSign x = true
        · rw [if_pos h1]
          refine decI ?_
          have : [x.toNat] = [32] ↔ x = 32 := by simp; omega
          rw [this]
          exact ⟨fun e => ⟨h1, e⟩, fun e => e.2⟩
        · rw [if_neg h1]
          simp [h1]
      · refine run_flat (run_aug (i := 1) rfl (by repeat' walk_at "ev") (o_addS (sz (by simp; omega))) (run_skip (fin _ ?_)))
        unfold markOf
        rw [if_pos h]
      · refine run_flat (run_ifP (isSign x = true ∧ x.toNat ∈ l_LETTERS ++ l_FIGURES) (bb := decide (isSign x = true) && decide (x.toNat ∈ l_LETTERS ++ l_FIGURES)) ?_ ?_ (fun h2 => ?_) (fun h2 => ?_))
        · by_cases h1 : isSign x = true
          · refine eb_and (EvB.cast (by repeat' walk_at "ev") ?_) (fun _ => eb_B (ev_op (EvV.cast (ev_dat rfl) (by rw [if_pos h1])) (by
              repeat' walk_at "ev"
              ) o_in1))
            rw [if_pos h1]
            simp [h1]
          · refine eb_and (EvB.cast (by repeat' walk_at "ev") ?_) (fun h => absurd (of_decide_eq_true h) h1)
            rw [if_neg h1]
            simp [h1]
        · simp [Bool.decide_and]
        · refine run_flat (run_aug (i := 1) (y := .str [x.toNat]) rfl (EvV.cast (ev_dat rfl) (by rw [if_pos h2.1])) (o_addS (sz (by simp; omega))) (run_skip (run_skip (fin _ ?_))))
          unfold markOf
          rw [if_neg h, if_pos h2]
        · refine run_flat (run_aug (i := 1) rfl (ed_call x (by repeat' walk_at "ev") hxr) (o_addS (sz (by simp [twoFigures]; omega))) (run_skip (run_skip (fin _ ?_))))
          unfold markOf
          rw [if_neg h, if_neg h2]
    · subst hr
      rw [List.length_map, List.take_length]
      exact run_retV (ev_dat rfl) rfl⟩)
theorem sixBits_len (a : List Int) : (sixBits a).length ≤ 10 * a.length + 20 := by
  have h := sixPre_len a ((a.length + 2) / 3)
  unfold sixPre at h
  unfold sixBits
  omega
theorem codedWord_len (a : List Int) (c : Nat) : (codedWord a c).length ≤ 10 * a.length + 30 := by
  unfold codedWord
  have h1 := sixBits_len a
  have h2 := marked_len a
  split <;> simp <;> omega
def octs (a : List Int) : Prop := a.length ≤ 10000 ∧ ∀ o ∈ a, 0 ≤ o ∧ o < 256
def isSort (c : Nat) : Prop := c = 115 ∨ c = 109
abbrev N_coded_word : List PySem.Str := ["octets", "sort"]
theorem sc_coded_word : FnScope N_coded_word ["octets", "sort"] (defScope s_coded_word) := ⟨rfl, rfl, rfl, by decide +kernel, rfl, by decide +kernel, by decide +kernel⟩
local macro_rules | `(tactic| walk_at "lit") => `(tactic| first
  | with_reducible exact ev_strL lit_3f3d
  | with_reducible exact ev_strL lit_3f
  | with_reducible exact ev_strL lit_3d3f
  | with_reducible exact ev_strL lit_73)
theorem c_coded_word (T : Tx K mg) : C8.Cal P w K mg base 3 "coded_word" (spP (α := List Int × Nat) (fun a => [.lst (a.1.map .int), .str [a.2]]) (fun a => octs a.1) (fun a d => d = .str (codedWord a.1 a.2))) [] :=
  have c_six_bits := c_six_bits (P := P) (w := w) (base := base) T
  have c_marked := c_marked (P := P) (w := w) (base := base) T
  cal_P T.d_coded_word sc_coded_word (fun _ => rfl) (by decide) (fun _ _ _ _ _ _ us hl => match us, hl with | [_, _], _ => rfl) (fun f cdv A outer s H E hr => ⟨_, (pss_cons (ps_ret (pe_op op_addS (pe_op op_addS (pe_op op_addS (pe_op op_addS pe_str (pv 1)) pe_str) (pe_ifExp (pt_cmpR op_eq (pv 1) pe_str (by rfl)) (C8.pe_c c_six_bits hr (by decide) rfl (pa_cons (pv 0) pa_nil)) (C8.pe_c c_marked hr (by decide) rfl (pa_cons (pv 0) pa_nil)))) pe_str))
    pss_nil), fun a ha => by
    obtain ⟨a, c⟩ := a
    show Dl.Run No _ [.dat (.lst (a.map .int)), .dat (.str [c])] _ _
    have h1 := sixBits_len a
    have h2 := marked_len a
    have h3 : a.length ≤ 10000 := ha.1
    have h4 : (if c = 115 then sixBits a else Mr.marked a).length ≤ 100020 := by split <;> omega
    refine run_retV (ev_op (ev_op (by repeat' walk_at "ev") (ed_if (P := fun d => d = .str (if c = 115 then sixBits a else Mr.marked a)) (b := decide (c = 115)) (EvB.cast (by repeat' walk_at "ev") (decI (by simp))) (fun h => EvV.cast (ed_call a (by repeat' walk_at "ev") ha) ?_) (fun h => EvV.cast (ed_call a (by repeat' walk_at "ev") ha) ?_)) (o_addS ?_)) (by repeat' walk_at "ev") (o_addS ?_)) rfl
    · rw [if_pos (of_decide_eq_true h)]
    · rw [if_neg (of_decide_eq_false h)]
    · exact sz (by simp; omega)
    · exact sz (by simp; omega)⟩)
theorem octs_signOctets {n : Int} (h : 0 ≤ n ∧ n ≤ 65535) : (signOctets n).length ≤ 3 ∧ ∀ o ∈ signOctets n, 0 ≤ o ∧ o < 256 := by
  unfold signOctets
  split
  · exact ⟨by simp, by simp; omega⟩
  · split
    · refine ⟨by simp, ?_⟩
      intro o ho
      simp at ho
      omega
    · refine ⟨by simp, ?_⟩
      intro o ho
      simp at ho
      omega
end
end Fk
/-! In sequences of texts. -/
namespace Dl
open PySem L2 Evl
theorem inV_strs (l : List Nat) : ∀ ss : List (List Nat), inV (.str (Sx l)) ((ss.map Sx).map V.str) = decide (l ∈ ss)
  | [] => by simp [inV]
  | s :: r => by
    have ih := inV_strs l r
    unfold inV at ih ⊢
    rw [List.map_cons, List.map_cons, List.any_cons, ih]
    show ((Sx s == Sx l) || _) = _
    have e : (Sx s == Sx l) = decide (l = s) := by
      by_cases h : l = s
      · subst h; simp
      · rw [decide_eq_false h]
        exact beq_false_of_ne fun z => h (Sx_inj.mp z).symm
    rw [e]
    by_cases h : l = s <;> by_cases h2 : l ∈ r <;> simp [h, h2]
theorem flat_strs (ss : List (List Nat)) : ((ss.map Sx).map V.str).all flatV = true := by
  rw [List.all_eq_true]
  intro v hv
  obtain ⟨x, _, rfl⟩ := List.mem_map.mp hv
  rfl
section
variable {S : Addr → Prop} {K : PySem.W.Frag} {ρ : List Sl} {te : TE} {l : List Nat} {ss : List (List Nat)}
theorem o_inTs : OpV S (rIn K false) (.str l) (.tup (ss.map .str)) (.bl (decide (l ∈ ss))) := fun G H bb v w Q r1 r2 q => by
  cases r1
  obtain ⟨a, vs, rfl, h1, h2⟩ := r2.tup_inv
  rw [h2.str_inv] at h1
  refine ⟨a, _, rfl, .inr (SqT.of (bb.ext _ _ h1)), rfl, flat_strs ss, q _ _ G H rfl bb.refl ?_⟩
  rw [if_neg Bool.false_ne_true, inV_strs]
  exact .bl _
theorem o_niTs : OpV S (rIn K true) (.str l) (.tup (ss.map .str)) (.bl (!decide (l ∈ ss))) := fun G H bb v w Q r1 r2 q => by
  cases r1
  obtain ⟨a, vs, rfl, h1, h2⟩ := r2.tup_inv
  rw [h2.str_inv] at h1
  refine ⟨a, _, rfl, .inr (SqT.of (bb.ext _ _ h1)), rfl, flat_strs ss, q _ _ G H rfl bb.refl ?_⟩
  rw [if_pos rfl, inV_strs]
  exact .bl _
/-- not in a tuple that a name of the module holds -/
theorem ev_niG {a : Addr} (hq : ∀ H, SqT K H a ((ss.map Sx).map V.str)) (h : EvV S te ρ (.str l)) : EvV S (tOp (rIn K true) te (tC (.ref a))) ρ (.bl (!decide (l ∈ ss))) := fun F G H σ c Q q =>
  h F G H σ c _ fun v x G1 H1 px g1 r1 => by
    subst px
    cases r1
    refine ⟨a, _, rfl, .inr (hq H1), rfl, flat_strs ss, ?_⟩
    rw [if_pos rfl, inV_strs]
    exact q _ _ G1 H1 rfl g1 (.bl _)
theorem run_par {i j : Nat} {ta : TA} {t2 : TS} {d e : D} {N : List Sl → Prop} {R : D → Prop} (h : EvAV S ta ρ [d, e]) (h2 : Run S t2 ((ρ.set i (.dat d)).set j (.dat e)) N R) : Run S (tSeq (tPar i j ta) t2) ρ N R := fun F G H σ E c kn kr =>
  h F G H σ c _ fun vs ds G1 H1 ed g1 r1 => by
    subst ed
    cases r1 with
    | cons ra rb => cases rb with
      | cons rb rn =>
        cases rn
        refine ⟨_, _, rfl, ?_⟩
        exact h2 F G1 H1 _ E (((c.go g1).set i ra).set j rb) (fun ρ3 G3 H3 σ3 n3 g3 c3 => kn ρ3 G3 H3 σ3 n3 ((g1.toS c).trans g3) c3) fun v d G3 H3 rd g3 rr => kr v d G3 H3 rd ((g1.toS c).trans g3) rr
end
end Dl
namespace Fk
open PySem PySem.Spec PyProof.Rows L2 Dl Mr
local macro_rules | `(tactic| walk_at "ev") => `(tactic| first
  | (with_reducible apply ev_dat) <;> rfl
  | with_reducible apply ev_int
  | with_reducible apply ev_bl
  | with_reducible apply ev_non
  | walk_at "lit"
  | with_reducible apply ev_str
  | with_reducible apply eb_test
  | with_reducible apply eb_B
  | with_reducible apply ev_op
  | with_reducible apply o_add
  | with_reducible apply o_sub
  | with_reducible apply o_mul
  | with_reducible apply o_fdiv
  | with_reducible apply o_fdivW
  | with_reducible apply o_mod
  | with_reducible apply o_lt
  | with_reducible apply o_le
  | with_reducible apply o_gt
  | with_reducible apply o_ge
  | with_reducible apply o_eqI
  | with_reducible apply o_neI
  | with_reducible apply o_eqS
  | with_reducible apply o_neS
  | with_reducible apply o_neInts
  | with_reducible apply o_neNil
  | with_reducible apply o_eqNil
  | with_reducible apply o_eqInts
  | with_reducible apply o_addS
  | with_reducible apply o_in1
  | with_reducible apply o_ni1
  | with_reducible apply o_inS
  | with_reducible apply o_mulS
  | with_reducible apply ea_nil
  | with_reducible apply ea_cons
  | with_reducible apply ev_tup
  | with_reducible apply ev_lst
  | with_reducible apply eb_not
  | with_reducible apply eb_and
  | with_reducible apply eb_or
  | with_reducible apply ev_andV
  | with_reducible apply ev_orV
  | with_reducible apply ev_notV
  | with_reducible apply ev_chain
  | with_reducible apply ev_neg
  | with_reducible apply ev_slS
  | with_reducible apply ev_slL
  | with_reducible apply eo_none
  | with_reducible apply eo_some
  | with_reducible apply ev_cb
  | with_reducible apply cd_lenT
  | with_reducible apply cd_lenL
  | with_reducible apply cd_int
  | with_reducible apply cd_max
  | with_reducible apply cd_min
  | with_reducible apply ev_bm
  | with_reducible apply ev_bm0
  | with_reducible apply md_strip
  | with_reducible apply md_rstrip
  | with_reducible apply md_find
  | with_reducible apply md_index
  | with_reducible apply md_starts
  | with_reducible apply md_lower
  | with_reducible apply md_upper
  | with_reducible apply ei_str
  | with_reducible apply ei_list
  | with_reducible exact sz1 rfl
  | with_reducible exact Nat.le_of_ble_eq_true rfl
  | ((with_reducible apply cmulL) <;> decide)
  | ((with_reducible apply cmulR) <;> decide)
  | ((with_reducible apply cdiv) <;> decide)
  | ((with_reducible show (0 : Int) < _) <;> decide)
  | (with_reducible intro _hyp))

section
variable {P : Program} {w : World} {K : PySem.W.Frag} {mg : PySem.Str → Option Value} {base : Heap}
def saysOk (a : List Int) : Prop := a.length ≤ 400 ∧ ∀ n ∈ a, 32 ≤ n ∧ n ≤ 65535
theorem lens_le {m : Nat} : ∀ {ss : List (List Nat)}, (∀ s ∈ ss, s.length ≤ m) → lens ss ≤ m * ss.length
  | [], _ => Nat.zero_le _
  | s :: r, h => by
    have ih := lens_le (ss := r) (fun x hx => h x (List.mem_cons_of_mem _ hx))
    have h0 := h s (List.mem_cons_self ..)
    unfold lens at ih ⊢
    rw [List.map_cons, List.sum_cons, List.length_cons, Nat.mul_succ]
    omega
abbrev N_words_by : List PySem.Str := ["saying", "sort", "found", "some", "sign", "more"]
theorem sc_words_by : FnScope N_words_by ["saying", "sort"] (defScope s_words_by) := ⟨rfl, rfl, rfl, by decide +kernel, rfl, by decide +kernel, by decide +kernel⟩
local macro_rules | `(tactic| walk_at "lit") => `(tactic| first
  | with_reducible exact ev_strL lit_20)
theorem c_words_by (T : Tx K mg) : C8.Cal P w K mg base 4 "words_by" (spP (α := List Int × Nat) (fun a => [.lst (a.1.map .int), .str [a.2]]) (fun a => saysOk a.1) (fun a d => d = .str (wordsBy a.1 a.2))) [] :=
  have c_sign_octets := c_sign_octets (P := P) (w := w) (base := base) T
  have c_coded_word := c_coded_word (P := P) (w := w) (base := base) T
  cal_P T.d_words_by sc_words_by (fun _ => rfl) (by decide) (fun _ _ _ _ _ _ us hl => match us, hl with | [_, _], _ => rfl) (fun f cdv A outer s H E hr => ⟨_, (pss_cons (ps_set (i := 2) sc_words_by.nd rfl (Or.inl rfl) (pe_lst pa_nil))
    (pss_cons (ps_set (i := 3) sc_words_by.nd rfl (Or.inl rfl) (pe_lst pa_nil))
    (pss_cons (ps_for PassesOwn.never rfl (pi_list (pv 0)) (pg_name (i := 4) sc_words_by.nd rfl (Or.inl rfl))
    (pss_cons (ps_set (i := 5) sc_words_by.nd rfl (Or.inl rfl) (pe_op op_cat (pv 3) (C8.pe_c c_sign_octets hr (by decide) rfl (pa_cons (pv 4) pa_nil))))
    (pss_cons (ps_if (PW.pt (pw_and (pt_cmpR (op_neD hr.units) (pv 3) (pe_lst pa_nil) (by rfl)) (pw_and1 (pt_cmpR op_gt (pe_callB cl_lenT (by rfl) T.n_len boot_len (pa_cons (C8.pe_c c_coded_word hr (by decide) rfl (pa_cons (pv 5) (pa_cons (pv 1) pa_nil))) pa_nil)) (C8.pe_gc rfl T.k_MOST_OF_WORD) (by rfl)))))
    (pss_cons (ps_expr (pe_bm PySem.F.plainAttrs_list PySem.F.slot_list_append PySem.F.type_list_append mt_append (pv 2) (pa_cons (C8.pe_c c_coded_word hr (by decide) rfl (pa_cons (pv 3) (pa_cons (pv 1) pa_nil))) pa_nil)))
    (pss_cons (ps_set (i := 5) sc_words_by.nd rfl (Or.inl rfl) (C8.pe_c c_sign_octets hr (by decide) rfl (pa_cons (pv 4) pa_nil)))
    pss_nil))
    pss_nil)
    (pss_cons (ps_set (i := 3) sc_words_by.nd rfl (Or.inl rfl) (pv 5))
    pss_nil))))
    (pss_cons (ps_ret (pe_bm PySem.F.plainAttrs_str PySem.F.slot_str_join PySem.F.type_str_join m_join pe_str (pa_cons (pe_op op_cat (pv 2) (pe_lst (pa_cons (C8.pe_c c_coded_word hr (by decide) rfl (pa_cons (pv 3) (pa_cons (pv 1) pa_nil))) pa_nil))) pa_nil)))
    pss_nil)))), fun a ha => by
    obtain ⟨a, c⟩ := a
    show Dl.Run No _ [.dat (.lst (a.map .int)), .dat (.str [c]), .no, .no, .no, .no] _ _
    obtain ⟨hl, hs⟩ := ha
    simp only at hl hs
    refine run_setFV (ef_lstV ea_nil (sz1 rfl)) (run_set (ev_lst ea_nil (sz1 rfl)) ?_)
    refine run_for (fun k r => ∃ fd sm, r = [.dat (.lst (a.map .int)), .dat (.str [c]), .own (fd.map .str), .dat (.lst (sm.map .int)), .no, .no] ∧ wordsGo c [] a = fd ++ wordsGo c sm (a.drop k) ∧ sm.length ≤ 3 * k ∧ (∀ o ∈ sm, 0 ≤ o ∧ o < 256) ∧ fd.length ≤ k ∧ ∀ x ∈ fd, x.length ≤ 12030) (ei_list (ev_dat rfl)) ⟨_, Le.refl _, [], [], rfl, rfl, Nat.zero_le _, fun _ h => (by cases h), Nat.zero_le _, fun _ h => (by cases h)⟩ (fun k d r hd hr => ?_) (fun r hr => ?_)
    · obtain ⟨x, hx, rfl⟩ := map_get hd
      obtain ⟨fd, sm, rfl, h1, h2, h3, h4, h5⟩ := hr
      have hk : k < a.length := (List.getElem?_eq_some_iff.mp hx).1
      refine ⟨_, tg_name, ?_⟩
      have hxr := hs x (List.mem_of_getElem? hx)
      obtain ⟨o1, o2⟩ := octs_signOctets (n := x) ⟨by omega, hxr.2⟩
      have hmore : octs (sm ++ signOctets x) := ⟨by rw [List.length_append]; omega, fun o ho => by
        rcases List.mem_append.mp ho with h | h
        · exact h3 o h
        · exact o2 o h⟩
      have hml : (sm ++ signOctets x).length ≤ 3 * (k + 1) := by rw [List.length_append]; omega
      have hw := codedWord_len (sm ++ signOctets x) c
      have hw2 := codedWord_len sm c
      rw [drop_get hx] at h1
      simp only [wordsGo] at h1
      show Dl.Run No _ [.dat (.lst (a.map .int)), .dat (.str [c]), .own (fd.map .str), .dat (.lst (sm.map .int)), .dat (.int x), .no] _ _
      refine run_set (d := .lst ((sm ++ signOctets x).map .int)) (EvV.cast (EvF.v (ef_op (ev_dat rfl) (ed_call x (by repeat' walk_at "ev") trivial) (o_cat (sz (by simp; omega))))) (by rw [List.map_append])) ?_
      show Dl.Run No _ [.dat (.lst (a.map .int)), .dat (.str [c]), .own (fd.map .str), .dat (.lst (sm.map .int)), .dat (.int x), .dat (.lst ((sm ++ signOctets x).map .int))] _ _
      refine run_ifP (sm ≠ [] ∧ (codedWord (sm ++ signOctets x) c).length > 60) (eb_and (by repeat' walk_at "ev") (fun _ => eb_B (ev_op (ev_cb (ea_cons (ed_call (sm ++ signOctets x, c) (by repeat' walk_at "ev") hmore) ea_nil) (cd_lenT (sz (by simp only; omega)))) (by repeat' walk_at "ev") o_gt))) ?_ (fun h => ?_) (fun h => run_skip ?_)
      · by_cases e1 : sm = [] <;> by_cases e2 : (codedWord (sm ++ signOctets x) c).length > 60 <;> simp [e1] <;> omega
      · rw [if_pos h] at h1
        refine run_flat (run_appendV rfl (ed_call (sm, c) (by repeat' walk_at "ev") ⟨by simp only; omega, h3⟩) (sz' (by rw [List.length_map]; omega)) ?_)
        refine run_flat (run_set (ed_call x (by repeat' walk_at "ev") trivial) (run_skip (run_set (ev_dat rfl) (run_next ⟨_, .same (.same (.same (.same (.no (.no .nil))))), fd ++ [codedWord sm c], signOctets x, ?_, ?_, by omega, o2, ?_, ?_⟩))))
        · simp
        · rw [h1, List.append_assoc] <;> rfl
        · simp only [List.length_append, List.length_cons, List.length_nil]; omega
        · intro y hy
          rcases List.mem_append.mp hy with e | e
          · exact h5 y e
          · rw [List.mem_singleton.mp e]; omega
      · rw [if_neg h] at h1
        refine run_set (ev_dat rfl) (run_next ⟨_, .same (.same (.same (.same (.no (.no .nil))))), fd, sm ++ signOctets x, rfl, h1, hml, hmore.2, by omega, h5⟩)
    · obtain ⟨fd, sm, rfl, h1, h2, h3, h4, h5⟩ := hr
      rw [List.length_map] at h1 h2 h4
      rw [List.drop_length] at h1
      have hw2 := codedWord_len sm c
      refine run_freeze 2 rfl (run_retV (ev_bm (ys := [.lst ((fd ++ [codedWord sm c]).map .str)]) (by repeat' walk_at "ev") (ea_cons (EvV.cast (EvF.v (ef_op (ev_dat rfl) (ev_lst (ea_cons (ed_call (sm, c) (by repeat' walk_at "ev") ⟨by simp only; omega, h3⟩) ea_nil) (sz1 rfl)) (o_cat (sz (by simp; omega))))) (by rw [List.map_append] <;> rfl)) ea_nil) (md_join ?_)) ?_)
      · have := lens_le (m := 12030) (ss := fd ++ [codedWord sm c]) (fun y hy => by
          rcases List.mem_append.mp hy with e | e
          · exact h5 y e
          · rw [List.mem_singleton.mp e]; omega)
        simp only [List.length_append, List.length_cons, List.length_nil] at this ⊢
        omega
      · show D.str _ = .str (wordsBy a c)
        unfold wordsBy
        rw [h1] <;> rfl⟩)
theorem lens_one {α : Type} (f : α → Nat) : ∀ l : List α, lens (l.map fun x => [f x]) = l.length
  | [] => rfl
  | x :: r => by
    have ih := lens_one f r
    unfold lens at ih ⊢
    rw [List.map_cons, List.map_cons, List.sum_cons, ih, List.length_cons, List.length_cons, List.length_nil]
    omega
theorem join_one {α : Type} (f : α → Nat) (l : List α) : Mr.joinL [] (l.map fun x => [f x]) = l.map f := by
  rw [joinL_nil]
  induction l with
  | nil => rfl
  | cons x r ih => rw [List.map_cons, List.flatten_cons, ih] <;> rfl
theorem nor_dec {p : Prop} [Decidable p] {b : Bool} : (!decide p || b) = decide (¬ p ∨ b = true) := by by_cases h : p <;> cases b <;> simp [h]
def optS : Option (List Nat) → D
  | none => .non
  | some s => .str s
abbrev N_plain_of : List PySem.Str := ["saying", "text", "sign"]
theorem sc_plain_of : FnScope N_plain_of ["saying"] (defScope s_plain_of) := ⟨rfl, rfl, rfl, by decide +kernel, rfl, by decide +kernel, by decide +kernel⟩
local macro_rules | `(tactic| walk_at "lit") => `(tactic| first
  | with_reducible exact ev_strL lit_nil
  | with_reducible exact ev_strL lit_3d3f
  | with_reducible exact ev_strL lit_20)
theorem c_plain_of (T : Tx K mg) : C8.Cal P w K mg base 2 "plain_of" (spP (α := List Int) (fun a => [.lst (a.map .int)]) (fun a => a.length ≤ 400) (fun a d => d = optS (plainOf a))) [] :=
  have c_is_sign := c_is_sign (P := P) (w := w) (base := base) T
  have c_sign_of := c_sign_of (P := P) (w := w) (base := base) T
  cal_P T.d_plain_of sc_plain_of (fun _ => rfl) (by decide) (fun _ _ _ _ _ _ us hl => match us, hl with | [_], _ => rfl) (fun f cdv A outer s H E hr => ⟨_, (pss_cons (ps_if (pt_not (pt_val (pe_callB (id := "all") (cr_all rfl) (by rfl) T.n_all (by decide +kernel) (pa_cons (pe_lc (own := [("sign", 2)]) (g := gName 2) rfl sc_plain_of.nd (pi_list (pv 0)) (blkOk_by (own := [("sign", 2)]) (N := N_plain_of) (sc := defScope s_plain_of) (by decide +kernel)) (fun _ _ _ _ _ => pg_name (i := 2) sc_plain_of.nd rfl (Or.inl rfl)) (fun _ _ _ _ _ => pts_nil) (fun _ _ _ _ _ => (C8.pe_c c_is_sign hr (by decide) rfl (pa_cons (pv 2) pa_nil)))) pa_nil))))
    (pss_cons (ps_ret pe_non)
    pss_nil)
    pss_nil)
    (pss_cons (ps_set (i := 1) sc_plain_of.nd rfl (Or.inl rfl) (pe_bm PySem.F.plainAttrs_str PySem.F.slot_str_join PySem.F.type_str_join m_join pe_str (pa_cons (pe_lc (own := [("sign", 2)]) (g := gName 2) rfl sc_plain_of.nd (pi_list (pv 0)) (blkOk_by (own := [("sign", 2)]) (N := N_plain_of) (sc := defScope s_plain_of) (by decide +kernel)) (fun _ _ _ _ _ => pg_name (i := 2) sc_plain_of.nd rfl (Or.inl rfl)) (fun _ _ _ _ _ => pts_nil) (fun _ _ _ _ _ => (C8.pe_c c_sign_of hr (by decide) rfl (pa_cons (pv 2) pa_nil)))) pa_nil)))
    (pss_cons (ps_if (PW.pt (pw_or (pt_cmpR op_ne (pv 1) (pe_bm PySem.F.plainAttrs_str PySem.F.slot_str_strip PySem.F.type_str_strip m_strip (pv 1) (pa_cons pe_str pa_nil)) (by rfl)) (pw_or1 (pt_cmpR op_inSS pe_str (pv 1) (by rfl)))))
    (pss_cons (ps_ret pe_non)
    pss_nil)
    pss_nil)
    (pss_cons (ps_ret (pv 1))
    pss_nil)))), fun a ha => by
    show Dl.Run No _ [.dat (.lst (a.map .int)), .no, .no] _ _
    refine run_ifN (p := a.all isSign = true) (eb_not (eb_test (EvV.cast (ev_cb (ea_cons (EvF.v (ef_lcM a .int (fun n => .bl (isSign n)) (by repeat' walk_at "ev") (fun n _ => ed_call n (by repeat' walk_at "ev") trivial) (sz (by omega)))) ea_nil) (ClV.cast (cd_all (bs := a.map isSign)) (by rw [List.map_map] <;> rfl))) (by rw [List.all_map]; exact congrArg D.bl Bool.decide_eq_true.symm)))) (fun h => ?_) (fun h => run_skip ?_)
    · refine run_retV ev_non ?_
      unfold plainOf
      rw [if_neg h] <;> rfl
    · have hall := List.all_eq_true.mp h
      refine run_set (d := .str (a.map (·.toNat))) (EvV.cast (ev_bm (ys := [.lst ((a.map fun n => [n.toNat]).map .str)]) (by repeat' walk_at "ev") (ea_cons (EvV.cast (EvF.v (ef_lcM a .int (fun n => .str [n.toNat]) (by repeat' walk_at "ev") (fun n hn => ed_call n (by repeat' walk_at "ev") (hall n hn)) (sz (by omega)))) (by rw [List.map_map] <;> rfl)) ea_nil) (md_join (by rw [lens_one]; simp; omega))) (by rw [join_one])) ?_
      show Dl.Run No _ [.dat (.lst (a.map .int)), .dat (.str (a.map (·.toNat))), .no] _ _
      have htl : (a.map (·.toNat)).length ≤ 400 := by rw [List.length_map]; exact ha
      generalize ht : a.map (·.toNat) = t at htl
      refine run_ifP (t ≠ stripC 32 t ∨ inL [61, 63] t = true) (by
        repeat' walk_at "ev"
        exact sz (by omega)) nor_dec (fun h2 => ?_) (fun h2 => run_skip ?_)
      · refine run_retV ev_non ?_
        unfold plainOf
        rw [if_pos h, ht, if_pos h2] <;> rfl
      · refine run_retV (ev_dat rfl) ?_
        unfold plainOf
        rw [if_pos h, ht, if_neg h2] <;> rfl⟩)
theorem wordsGo_len (c : Nat) : ∀ (r g : List Int), g.length ≤ 1200 → r.length ≤ 400 → (∀ n ∈ r, 32 ≤ n ∧ n ≤ 65535) → g.length + 3 * r.length ≤ 1200 → (wordsGo c g r).length ≤ r.length + 1 ∧ ∀ x ∈ wordsGo c g r, x.length ≤ 12030
  | [], g, h, _, _, _ => ⟨Nat.le_refl _, fun x hx => by
      rw [List.mem_singleton.mp hx]
      have := codedWord_len g c
      omega⟩
  | s :: r, g, h, h2, h3, h4 => by
    have o1 := (octs_signOctets (n := s) (by have := h3 s (List.mem_cons_self ..); omega)).1
    rw [List.length_cons] at h2 h4
    simp only [wordsGo]
    split
    · obtain ⟨i1, i2⟩ := wordsGo_len c r (signOctets s) (by omega) (by omega) (fun n hn => h3 n (List.mem_cons_of_mem _ hn)) (by omega)
      refine ⟨by rw [List.length_cons, List.length_cons]; omega, fun x hx => ?_⟩
      rcases List.mem_cons.mp hx with e | e
      · rw [e]
        have := codedWord_len g c
        omega
      · exact i2 x e
    · obtain ⟨i1, i2⟩ := wordsGo_len c r (g ++ signOctets s) (by rw [List.length_append]; omega) (by omega) (fun n hn => h3 n (List.mem_cons_of_mem _ hn)) (by rw [List.length_append]; omega)
      exact ⟨by rw [List.length_cons]; omega, i2⟩
theorem joinL_len (y : List Nat) : ∀ ss : List (List Nat), (Mr.joinL y ss).length ≤ lens ss + y.length * ss.length
  | [] => Nat.zero_le _
  | [p] => by simp [Mr.joinL, lens]
  | p :: q :: r => by
    have ih := joinL_len y (q :: r)
    unfold lens at ih ⊢
    simp only [Mr.joinL, List.map_cons, List.sum_cons, List.length_append, List.length_cons, Nat.mul_succ] at ih ⊢
    omega
theorem wordsBy_len {a : List Int} (c : Nat) (h : saysOk a) : (wordsBy a c).length ≤ 5000000 := by
  obtain ⟨i1, i2⟩ := wordsGo_len c a [] (Nat.zero_le _) h.1 h.2 (by have := h.1; simp; omega)
  have := joinL_len [32] (wordsGo c [] a)
  have h2 := lens_le i2
  have h3 := h.1
  unfold wordsBy
  simp only [List.length_cons, List.length_nil] at this
  omega
end
end Fk
namespace Fk
open PySem PySem.Spec PyProof.Rows L2 Dl Mr
local macro_rules | `(tactic| walk_at "ev") => `(tactic| first
  | (with_reducible apply ev_dat) <;> rfl
  | with_reducible apply ev_int
  | with_reducible apply ev_bl
  | with_reducible apply ev_non
  | walk_at "lit"
  | with_reducible apply ev_str
  | with_reducible apply eb_test
  | with_reducible apply eb_B
  | with_reducible apply ev_op
  | with_reducible apply o_add
  | with_reducible apply o_sub
  | with_reducible apply o_mul
  | with_reducible apply o_fdiv
  | with_reducible apply o_fdivW
  | with_reducible apply o_mod
  | with_reducible apply o_lt
  | with_reducible apply o_le
  | with_reducible apply o_gt
  | with_reducible apply o_ge
  | with_reducible apply o_eqI
  | with_reducible apply o_neI
  | with_reducible apply o_eqS
  | with_reducible apply o_neS
  | with_reducible apply o_neInts
  | with_reducible apply o_neNil
  | with_reducible apply o_eqNil
  | with_reducible apply o_eqInts
  | with_reducible apply o_addS
  | with_reducible apply o_in1
  | with_reducible apply o_ni1
  | with_reducible apply o_inS
  | with_reducible apply o_mulS
  | with_reducible apply ea_nil
  | with_reducible apply ea_cons
  | with_reducible apply ev_tup
  | with_reducible apply ev_lst
  | with_reducible apply eb_not
  | with_reducible apply eb_and
  | with_reducible apply eb_or
  | with_reducible apply ev_andV
  | with_reducible apply ev_orV
  | with_reducible apply ev_notV
  | with_reducible apply ev_chain
  | with_reducible apply ev_neg
  | with_reducible apply ev_slS
  | with_reducible apply ev_slL
  | with_reducible apply eo_none
  | with_reducible apply eo_some
  | with_reducible apply ev_cb
  | with_reducible apply cd_lenT
  | with_reducible apply cd_lenL
  | with_reducible apply cd_int
  | with_reducible apply cd_max
  | with_reducible apply cd_min
  | with_reducible apply ev_bm
  | with_reducible apply ev_bm0
  | with_reducible apply md_strip
  | with_reducible apply md_rstrip
  | with_reducible apply md_find
  | with_reducible apply md_index
  | with_reducible apply md_starts
  | with_reducible apply md_lower
  | with_reducible apply md_upper
  | with_reducible apply ei_str
  | with_reducible apply ei_list
  | with_reducible exact sz1 rfl
  | with_reducible exact Nat.le_of_ble_eq_true rfl
  | ((with_reducible apply cmulL) <;> decide)
  | ((with_reducible apply cmulR) <;> decide)
  | ((with_reducible apply cdiv) <;> decide)
  | ((with_reducible show (0 : Int) < _) <;> decide)
  | (with_reducible intro _hyp))

section
variable {P : Program} {w : World} {K : PySem.W.Frag} {mg : PySem.Str → Option Value} {base : Heap}
/-! six_octets, mark_octets, word_saying -/
theorem codedIn_len {a : List Int} (h : saysOk a) : (codedIn a).length ≤ 5000000 := by
  have h1 := wordsBy_len 109 h
  have h2 := wordsBy_len 115 h
  have h3 := h.1
  unfold codedIn plainOf
  split
  · next t ht =>
    split at ht
    · split at ht
      · cases ht
      · rw [← Option.some.inj ht]
        simp
        omega
    · cases ht
  · split <;> assumption
abbrev N_coded_in : List PySem.Str := ["saying", "text", "six", "marks"]
theorem sc_coded_in : FnScope N_coded_in ["saying"] (defScope s_coded_in) := ⟨rfl, rfl, rfl, by decide +kernel, rfl, by decide +kernel, by decide +kernel⟩
local macro_rules | `(tactic| walk_at "lit") => `(tactic| first
  | with_reducible exact ev_strL lit_73
  | with_reducible exact ev_strL lit_6d)
theorem c_coded_in (T : Tx K mg) : C8.Cal P w K mg base 5 "coded_in" (spP (α := List Int) (fun a => [.lst (a.map .int)]) (fun a => saysOk a) (fun a d => d = .str (codedIn a))) [] :=
  have c_plain_of := c_plain_of (P := P) (w := w) (base := base) T
  have c_words_by := c_words_by (P := P) (w := w) (base := base) T
  cal_P T.d_coded_in sc_coded_in (fun _ => rfl) (by decide) (fun _ _ _ _ _ _ us hl => match us, hl with | [_], _ => rfl) (fun f cdv A outer s H E hr => ⟨_, (pss_cons (ps_set (i := 1) sc_coded_in.nd rfl (Or.inl rfl) (C8.pe_c c_plain_of hr (by decide) rfl (pa_cons (pv 0) pa_nil)))
    (pss_cons (ps_if (pt_cmpR op_notN1 (pv 1) pe_non (by rfl))
    (pss_cons (ps_ret (pv 1))
    pss_nil)
    pss_nil)
    (pss_cons (ps_par (by rfl) sc_coded_in.nd (i := 2) (j := 3) rfl rfl (by decide) rfl rfl (pa_cons (C8.pe_c c_words_by hr (by decide) rfl (pa_cons (pv 0) (pa_cons pe_str pa_nil))) (pa_cons (C8.pe_c c_words_by hr (by decide) rfl (pa_cons (pv 0) (pa_cons pe_str pa_nil))) pa_nil)) (by rfl))
    (pss_cons (ps_ret (pe_ifExp (pt_cmpR op_le (pe_callB cl_lenT (by rfl) T.n_len boot_len (pa_cons (pv 3) pa_nil)) (pe_callB cl_lenT (by rfl) T.n_len boot_len (pa_cons (pv 2) pa_nil)) (by rfl)) (pv 3) (pv 2)))
    pss_nil)))), fun a ha => by
    show Dl.Run No _ [.dat (.lst (a.map .int)), .no, .no, .no] _ _
    refine run_set (ed_call a (by repeat' walk_at "ev") ha.1) ?_
    show Dl.Run No _ [.dat (.lst (a.map .int)), .dat (optS (plainOf a)), .no, .no] _ _
    cases hp : plainOf a with
    | some t =>
      refine run_yes (eb_B (ev_op (ev_dat rfl) ev_non (o_notN fun _ _ r => isN_str r))) ?_
      refine run_retV (ev_dat rfl) ?_
      unfold codedIn
      rw [hp] <;> rfl
    | none =>
      have hm := wordsBy_len 109 ha
      have h6 := wordsBy_len 115 ha
      refine run_no (eb_B (ev_op (ev_dat rfl) ev_non (o_notN fun _ _ r => isN_non r))) (run_skip ?_)
      refine run_par (ea_cons (ed_call (a, 115) (by repeat' walk_at "ev") ha) (ea_cons (ed_call (a, 109) (by repeat' walk_at "ev") ha) ea_nil)) ?_
      show Dl.Run No _ [.dat (.lst (a.map .int)), .dat (optS none), .dat (.str (wordsBy a 115)), .dat (.str (wordsBy a 109))] _ _
      refine run_retV (d := .str (codedIn a)) (ed_if (b := decide ((wordsBy a 109).length ≤ (wordsBy a 115).length)) (EvB.cast (by
        repeat' walk_at "ev"
        · exact Nat.le_trans hm (by decide)
        · exact Nat.le_trans h6 (by decide)) (decI (by omega))) (fun h => EvV.cast (ev_dat rfl) ?_) (fun h => EvV.cast (ev_dat rfl) ?_)) rfl
      · unfold codedIn
        rw [hp]
        simp only
        rw [if_pos (of_decide_eq_true h)]
      · unfold codedIn
        rw [hp]
        simp only
        rw [if_neg (of_decide_eq_false h)]⟩)
theorem ix_max (l : List Nat) (c : Nat) : (if (if c ∈ l then (l.idxOf c : Int) else -1) > 0 then (if c ∈ l then (l.idxOf c : Int) else -1) else 0) = ixOf l c := by
  unfold ixOf
  by_cases h : c ∈ l
  · simp only [h, if_true]
    split <;> omega
  · simp only [h, if_false]
    rfl
def sixPreO (b : List Nat) (k : Nat) : List Int := (List.range k).flatMap fun k => sixPart ((b.drop (4 * k)).take 4)
theorem sixPart_len (g : List Nat) : (sixPart g).length ≤ 3 := by
  unfold sixPart
  rw [List.length_take]
  simp
  omega
theorem sixPreO_len (b : List Nat) : ∀ k : Nat, (sixPreO b k).length ≤ 3 * k
  | 0 => Nat.le_refl _
  | k + 1 => by
    have ih := sixPreO_len b k
    unfold sixPreO at ih ⊢
    rw [List.range_succ, List.flatMap_append, List.length_append]
    have := sixPart_len ((b.drop (4 * k)).take 4)
    simp only [List.flatMap_cons, List.flatMap_nil, List.append_nil]
    omega
theorem rstripC_len (c : Nat) (l : List Nat) : (rstripC c l).length ≤ l.length := by
  unfold rstripC
  rw [List.length_reverse]
  have := (List.dropWhile_sublist (fun x => x == c) (l := l.reverse)).length_le
  rw [List.length_reverse] at this
  exact this
abbrev N_six_octets : List PySem.Str := ["inner", "found", "bare", "at", "number", "some", "sign"]
theorem sc_six_octets : FnScope N_six_octets ["inner"] (defScope s_six_octets) := ⟨rfl, rfl, rfl, by decide +kernel, rfl, by decide +kernel, by decide +kernel⟩
local macro_rules | `(tactic| walk_at "lit") => `(tactic| first
  | with_reducible exact ev_strL l_SIX_eq
  | with_reducible exact ev_strL lit_3d
  | with_reducible exact ev_strL lit_41)
theorem c_six_octets (T : Tx K mg) : C8.Cal P w K mg base 1 "six_octets" (spP (α := List Nat) (fun a => [.str a]) (fun a => a.length ≤ 2000) (fun a d => d = .lst ((sixOctets a).map .int))) [] :=
  cal_P T.d_six_octets sc_six_octets (fun _ => rfl) (by decide) (fun _ _ _ _ _ _ us hl => match us, hl with | [_], _ => rfl) (fun f cdv A outer s H E hr => ⟨_, (pss_cons (ps_set (i := 1) sc_six_octets.nd rfl (Or.inl rfl) (pe_lst pa_nil))
    (pss_cons (ps_set (i := 2) sc_six_octets.nd rfl (Or.inl rfl) (pe_bm PySem.F.plainAttrs_str PySem.F.slot_str_rstrip PySem.F.type_str_rstrip m_rstrip (pv 0) (pa_cons pe_str pa_nil)))
    (pss_cons (ps_for PassesOwn.never rfl (pi_range3 (by rfl) T.n_range (pa_cons pe_int (pa_cons (pe_callB cl_lenT (by rfl) T.n_len boot_len (pa_cons (pv 2) pa_nil)) (pa_cons pe_int pa_nil)))) (pg_name (i := 3) sc_six_octets.nd rfl (Or.inl rfl))
    (pss_cons (ps_set (i := 4) sc_six_octets.nd rfl (Or.inl rfl) pe_int)
    (pss_cons (ps_set (i := 5) sc_six_octets.nd rfl (Or.inl rfl) (pe_slice sl_str (pv 2) (po_some (pv 3)) (po_some (pe_op op_add (pv 3) pe_int))))
    (pss_cons (ps_for PassesOwn.never rfl (pi_str (pe_op op_addS (pv 5) (pe_op op_mulS pe_str (pe_op op_sub pe_int (pe_callB cl_lenT (by rfl) T.n_len boot_len (pa_cons (pv 5) pa_nil)))))) (pg_name (i := 6) sc_six_octets.nd rfl (Or.inl rfl))
    (pss_cons (ps_set (i := 4) sc_six_octets.nd rfl (Or.inl rfl) (pe_op op_add (pe_op op_mul pe_int (pv 4)) (pe_callB (id := "max") (cl_max2 rfl) (by rfl) T.n_max (by decide +kernel) (pa_cons pe_int (pa_cons (pe_bm PySem.F.plainAttrs_str PySem.F.slot_str_find PySem.F.type_str_find m_find (C8.pe_gc rfl T.k_SIX) (pa_cons (pv 6) pa_nil)) pa_nil)))))
    pss_nil))
    (pss_cons (ps_expr (pe_bm PySem.F.plainAttrs_list PySem.F.slot_list_extend PySem.F.type_list_extend mt_extend (pv 1) (pa_cons (pe_slice sl_list (pe_lst (pa_cons (pe_op op_fdiv (pv 4) pe_int) (pa_cons (pe_op op_mod (pe_op op_fdiv (pv 4) pe_int) pe_int) (pa_cons (pe_op op_mod (pv 4) pe_int) pa_nil)))) po_none (po_some (pe_op op_sub (pe_callB cl_lenT (by rfl) T.n_len boot_len (pa_cons (pv 5) pa_nil)) pe_int))) pa_nil)))
    pss_nil)))))
    (pss_cons (ps_ret (pv 1))
    pss_nil)))), fun a ha => by
    show Dl.Run No _ [.dat (.str a), .no, .no, .no, .no, .no, .no] _ _
    refine run_setFV (ef_lstV ea_nil (sz1 rfl)) ?_
    refine run_set (by
      repeat' walk_at "ev"
      exact sz (by omega)) ?_
    have hbl := rstripC_len 61 a
    have hfin : sixOctets a = sixPreO (rstripC 61 a) (((rstripC 61 a).length + 3) / 4) := rfl
    rw [hfin]
    generalize rstripC 61 a = b at hbl
    show Dl.Run No _ [.dat (.str a), .own [], .dat (.str b), .no, .no, .no, .no] _ _
    refine run_for (fun k r => r = [.dat (.str a), .own ((sixPreO b k).map .int), .dat (.str b), .no, .no, .no, .no]) (ei_rng3 ev_int (by
      repeat' walk_at "ev"
      exact sz (by omega)) ev_int (rgC3 (c := 4) (by decide) (by decide) (by omega))) ⟨_, Le.refl _, rfl⟩ (fun k d r hd hr => ?_) (fun r hr => ?_)
    · obtain ⟨hk, rfl⟩ := rg_get hd
      subst hr
      have eat : (0 + (k : Int) * 4) = ((4 * k : Nat) : Int) := by omega
      have eat4 : ((4 * k : Nat) : Int) + 4 = ((4 * k + 4 : Nat) : Int) := by omega
      rw [eat]
      refine ⟨_, tg_name, ?_⟩
      have epre : sixPreO b (k + 1) = sixPreO b k ++ sixPart ((b.drop (4 * k)).take 4) := by
        unfold sixPreO
        rw [List.range_succ, List.flatMap_append, List.flatMap_cons, List.flatMap_nil, List.append_nil]
      have hpl := sixPreO_len b k
      generalize sixPreO b k = pre at epre hpl
      generalize hg : (b.drop (4 * k)).take 4 = g at epre
      have hgl : 1 ≤ g.length ∧ g.length ≤ 4 := by
        rw [← hg, List.length_take, List.length_drop]
        omega
      refine run_set ev_int ?_
      refine run_set (d := .str g) (EvV.cast (by
        repeat' walk_at "ev"
        exact sz (by omega)) (by rw [eat4, cut_mid, Nat.add_sub_cancel_left, hg])) ?_
      show Dl.Run No _ [.dat (.str a), .own (pre.map .int), .dat (.str b), .dat (.int ((4 * k : Nat) : Int)), .dat (.int 0), .dat (.str g), .no] _ _
      have hgf : g ++ timesL [65] (4 - (g.length : Int)) = g ++ List.replicate (4 - g.length) 65 := by
        unfold timesL
        rw [Dl.flat_rep, show (4 - (g.length : Int)).toNat = 4 - g.length by omega]
      refine run_for (fun j r => r = [.dat (.str a), .own (pre.map .int), .dat (.str b), .dat (.int ((4 * k : Nat) : Int)), .dat (.int (((g ++ List.replicate (4 - g.length) 65).take j).foldl (fun n c => 64 * n + ixOf l_SIX c) 0)), .dat (.str g), .no]) (ys := (g ++ List.replicate (4 - g.length) 65).map fun c => .str [c]) (ei_str (EvV.cast (by
        repeat' walk_at "ev"
        · exact sz (by omega)
        all_goals first | omega | (rw [← List.length_append, hgf, List.length_append, List.length_replicate]; exact sz (by omega)) | skip) (congrArg D.str hgf))) ⟨_, Le.refl _, rfl⟩ (fun j d r hd hr => ?_) (fun r hr => ?_)
      · obtain ⟨x, hx, rfl⟩ := map_get hd
        subst hr
        refine ⟨_, tg_name, ?_⟩
        refine run_set (by repeat' walk_at "ev") (run_next ⟨_, .same (.same (.same (.same (.same (.same (.no .nil)))))), ?_⟩)
        rw [take_next hx, List.foldl_append, ix_max] <;> rfl
      · subst hr
        rw [List.length_map, List.take_length]
        have hpart : sixPart g = [(g ++ List.replicate (4 - g.length) 65).foldl (fun n c => 64 * n + ixOf l_SIX c) 0 / 65536, (g ++ List.replicate (4 - g.length) 65).foldl (fun n c => 64 * n + ixOf l_SIX c) 0 / 256 % 256, (g ++ List.replicate (4 - g.length) 65).foldl (fun n c => 64 * n + ixOf l_SIX c) 0 % 256].take (g.length - 1) := rfl
        generalize (g ++ List.replicate (4 - g.length) 65).foldl (fun n c => 64 * n + ixOf l_SIX c) 0 = n at hpart
        have hpl3 := sixPart_len g
        refine run_extend (es := (sixPart g).map .int) rfl (EvV.cast (by
          repeat' walk_at "ev"
          exact sz (by omega)) ?_) (sz (by rw [List.length_map, List.length_map]; omega)) ?_
        · have e1 : ((g.length : Int) - 1) = ((g.length - 1 : Nat) : Int) := by omega
          rw [e1, cut_to, hpart]
          congr 1
          rw [List.map_take] <;> rfl
        · refine run_next ⟨_, .same (.same (.same (.no (.no (.no (.no .nil)))))), ?_⟩
          rw [epre, ← List.map_append]
    · subst hr
      rw [rg_len]
      exact run_freeze 1 rfl (run_retV (ev_dat rfl) rfl)⟩)
end
end Fk
/-! Rules with the kit's part named from outside (for comprehensions' inner rooms). -/
namespace L2
open PySem Evl
section
variable {X : Cx} {K : PySem.W.Frag} {e : Expr}
theorem PE.bmK {T : String} {r : V → List V → Hp → VK → Prop} {to : TE} {t : TA} (h : PE X e (tBM X.K T r to t)) (hK : X.K = K) : PE X e (tBM K T r to t) := by rw [← hK]; exact h
theorem PE.bm0K {T : String} {r : V → List V → Hp → VK → Prop} {to : TE} (h : PE X e (tBM0 X.K T r to)) (hK : X.K = K) : PE X e (tBM0 K T r to) := by rw [← hK]; exact h
theorem ix_listK (hK : X.K = K) : IxR X (rIxL K) := by rw [← hK]; exact ix_list
theorem ix_tupK (hK : X.K = K) : IxR X (rIxT K) := by rw [← hK]; exact ix_tup
theorem sl_listK (hK : X.K = K) : SlR X (rSlL K) := by rw [← hK]; exact sl_list
theorem lenLK (hK : X.K = K) : CallR X (.builtin "len") (Dl.rLenL K) := by rw [← hK]; exact Dl.cl_lenL
theorem eqDK (hK : X.K = K) (hu : X.A.units + 64 < cLine) : OpR X (compareOp .Eq) (rEqD K) := by rw [← hK]; exact op_eqD hu
theorem neDK (hK : X.K = K) (hu : X.A.units + 64 < cLine) : OpR X (compareOp .NotEq) (rNeD K) := by rw [← hK]; exact op_neD hu
theorem inSeqK (hK : X.K = K) : OpR X (compareOp .In) (rIn K false) := by rw [← hK]; exact op_in_seq
theorem niSeqK (hK : X.K = K) : OpR X (compareOp .NotIn) (rIn K true) := by rw [← hK]; exact op_notIn_seq
end
end L2
namespace Fk
open PySem PySem.Spec PyProof.Rows L2 Dl Mr
local macro_rules | `(tactic| walk_at "ev") => `(tactic| first
  | (with_reducible apply ev_dat) <;> rfl
  | with_reducible apply ev_int
  | with_reducible apply ev_bl
  | with_reducible apply ev_non
  | walk_at "lit"
  | with_reducible apply ev_str
  | with_reducible apply eb_test
  | with_reducible apply eb_B
  | with_reducible apply ev_op
  | with_reducible apply o_add
  | with_reducible apply o_sub
  | with_reducible apply o_mul
  | with_reducible apply o_fdiv
  | with_reducible apply o_fdivW
  | with_reducible apply o_mod
  | with_reducible apply o_lt
  | with_reducible apply o_le
  | with_reducible apply o_gt
  | with_reducible apply o_ge
  | with_reducible apply o_eqI
  | with_reducible apply o_neI
  | with_reducible apply o_eqS
  | with_reducible apply o_neS
  | with_reducible apply o_neInts
  | with_reducible apply o_neNil
  | with_reducible apply o_eqNil
  | with_reducible apply o_eqInts
  | with_reducible apply o_addS
  | with_reducible apply o_in1
  | with_reducible apply o_ni1
  | with_reducible apply o_inS
  | with_reducible apply o_mulS
  | with_reducible apply ea_nil
  | with_reducible apply ea_cons
  | with_reducible apply ev_tup
  | with_reducible apply ev_lst
  | with_reducible apply eb_not
  | with_reducible apply eb_and
  | with_reducible apply eb_or
  | with_reducible apply ev_andV
  | with_reducible apply ev_orV
  | with_reducible apply ev_notV
  | with_reducible apply ev_chain
  | with_reducible apply ev_neg
  | with_reducible apply ev_slS
  | with_reducible apply ev_slL
  | with_reducible apply eo_none
  | with_reducible apply eo_some
  | with_reducible apply ev_cb
  | with_reducible apply cd_lenT
  | with_reducible apply cd_lenL
  | with_reducible apply cd_int
  | with_reducible apply cd_max
  | with_reducible apply cd_min
  | with_reducible apply ev_bm
  | with_reducible apply ev_bm0
  | with_reducible apply md_strip
  | with_reducible apply md_rstrip
  | with_reducible apply md_find
  | with_reducible apply md_index
  | with_reducible apply md_starts
  | with_reducible apply md_lower
  | with_reducible apply md_upper
  | with_reducible apply ei_str
  | with_reducible apply ei_list
  | with_reducible exact sz1 rfl
  | with_reducible exact Nat.le_of_ble_eq_true rfl
  | ((with_reducible apply cmulL) <;> decide)
  | ((with_reducible apply cmulR) <;> decide)
  | ((with_reducible apply cdiv) <;> decide)
  | ((with_reducible show (0 : Int) < _) <;> decide)
  | (with_reducible intro _hyp))

section
variable {P : Program} {w : World} {K : PySem.W.Frag} {mg : PySem.Str → Option Value} {base : Heap}
theorem markOctets_len : ∀ (n : Nat) (l : List Nat), l.length ≤ n → (markOctets l).length ≤ l.length
  | _, [], _ => by
    rw [markOctets]
    exact Nat.le_refl _
  | 0, _ :: _, h => by simp at h
  | n + 1, c :: r, h => by
    rw [List.length_cons] at h
    rw [markOctets]
    split
    · have := markOctets_len n (r.drop 2) (by rw [List.length_drop]; omega)
      rw [List.length_drop] at this
      rw [List.length_cons, List.length_cons]
      omega
    · have := markOctets_len n r (by omega)
      rw [List.length_cons, List.length_cons]
      omega
theorem take2 (q : List Nat) : (q.take 2 ++ [48, 48]).take 2 = [(q.take 2 ++ [48, 48]).getD 0 48, (q.take 2 ++ [48, 48]).getD 1 48] := by
  match q with
  | [] => rfl
  | [x] => rfl
  | x :: y :: r => rfl
abbrev N_mark_octets : List PySem.Str := ["inner", "found", "at", "one", "two", "sign"]
theorem sc_mark_octets : FnScope N_mark_octets ["inner"] (defScope s_mark_octets) := ⟨rfl, rfl, rfl, by decide +kernel, rfl, by decide +kernel, by decide +kernel⟩
local macro_rules | `(tactic| walk_at "lit") => `(tactic| first
  | with_reducible exact ev_strL l_SIXTEEN_eq
  | with_reducible exact ev_strL lit_3d
  | with_reducible exact ev_strL lit_5f
  | with_reducible exact ev_strL lit_3030)
theorem c_mark_octets (T : Tx K mg) : C8.Cal P w K mg base 2 "mark_octets" (spP (α := List Nat) (fun a => [.str a]) (fun a => a.length ≤ 2000 ∧ ∀ c ∈ a, okc c) (fun a d => d = .lst ((markOctets a).map .int))) [] :=
  have c_number_of := c_number_of (P := P) (w := w) (base := base) T
  cal_P T.d_mark_octets sc_mark_octets (fun _ => rfl) (by decide) (fun _ _ _ _ _ _ us hl => match us, hl with | [_], _ => rfl) (fun f cdv A outer s H E hr => ⟨_, (pss_cons (ps_set (i := 1) sc_mark_octets.nd rfl (Or.inl rfl) (pe_lst pa_nil))
    (pss_cons (ps_set (i := 2) sc_mark_octets.nd rfl (Or.inl rfl) pe_int)
    (pss_cons (ps_while PassesOwn.never (pt_cmpR op_lt (pv 2) (pe_callB cl_lenT (by rfl) T.n_len boot_len (pa_cons (pv 0) pa_nil)) (by rfl))
    (pss_cons (ps_if (pt_cmpR op_eq (pe_ix ix_str (pv 0) (pv 2) (fun _ _ => rfl)) pe_str (by rfl))
    (pss_cons (ps_asg (pe_lc (own := [("sign", 5)]) (g := gName 5) rfl sc_mark_octets.nd (pi_str (pe_slice sl_str (pe_op op_addS (pe_slice sl_str (pv 0) (po_some (pe_op op_add (pv 2) pe_int)) (po_some (pe_op op_add (pv 2) pe_int))) pe_str) po_none (po_some pe_int))) (blkOk_by (own := [("sign", 5)]) (N := N_mark_octets) (sc := defScope s_mark_octets) (by decide +kernel)) (fun _ _ _ _ _ => pg_name (i := 5) sc_mark_octets.nd rfl (Or.inl rfl)) (fun _ _ _ _ _ => pts_nil) (fun _ _ _ _ _ => (pe_callB (id := "max") (cl_max2 rfl) (by rfl) T.n_max (by decide +kernel) (pa_cons pe_int (pa_cons (PE.bmK (K := K) (pe_bm PySem.F.plainAttrs_str PySem.F.slot_str_find PySem.F.type_str_find m_find (C8.pe_gc rfl T.k_SIXTEEN) (pa_cons (pv 5) pa_nil)) rfl) pa_nil))))) (pg_unl rfl (pgs_cons (pg_name (i := 3) sc_mark_octets.nd rfl (Or.inl rfl)) (pgs_cons (pg_name (i := 4) sc_mark_octets.nd rfl (Or.inl rfl)) pgs_nil))))
    (pss_cons (ps_expr (pe_bm PySem.F.plainAttrs_list PySem.F.slot_list_append PySem.F.type_list_append mt_append (pv 1) (pa_cons (pe_op op_add (pe_op op_mul pe_int (pv 3)) (pv 4)) pa_nil)))
    (pss_cons (ps_aug (i := 2) sc_mark_octets.nd rfl (Or.inl rfl) pe_int ip_add)
    pss_nil)))
    (pss_cons (ps_expr (pe_bm PySem.F.plainAttrs_list PySem.F.slot_list_append PySem.F.type_list_append mt_append (pv 1) (pa_cons (pe_ifExp (pt_cmpR op_eq (pe_ix ix_str (pv 0) (pv 2) (fun _ _ => rfl)) pe_str (by rfl)) pe_int (C8.pe_c c_number_of hr (by decide) rfl (pa_cons (pe_ix ix_str (pv 0) (pv 2) (fun _ _ => rfl)) pa_nil))) pa_nil)))
    (pss_cons (ps_aug (i := 2) sc_mark_octets.nd rfl (Or.inl rfl) pe_int ip_add)
    pss_nil)))
    pss_nil))
    (pss_cons (ps_ret (pv 1))
    pss_nil)))), fun a ha => by
    show Dl.Run No _ [.dat (.str a), .no, .no, .no, .no, .no] _ _
    obtain ⟨hl, hok⟩ := ha
    refine run_setFV (ef_lstV ea_nil (sz1 rfl)) (run_set ev_int ?_)
    refine run_while (α := Nat × List Int) (fun x => [.dat (.str a), .own (x.2.map .int), .dat (.int (x.1 : Nat)), .no, .no, .no]) (fun x => x.1 ≤ a.length + 2 ∧ x.2.length ≤ x.1 ∧ markOctets a = x.2 ++ markOctets (a.drop x.1)) (fun x => a.length + 3 - x.1) (fun x => decide (x.1 < a.length)) (0, []) (Le.refl _) ⟨Nat.zero_le _, Nat.zero_le _, rfl⟩ (fun x hx => EvB.cast (by
      repeat' walk_at "ev"
      exact sz (by omega)) (decI (by omega))) (fun x hx hb => ?_) (fun x hx hb => ?_)
    · obtain ⟨k, fd⟩ := x
      have hk : k < a.length := of_decide_eq_true hb
      obtain ⟨h1, h2, h3⟩ := hx
      simp only at h1 h2 h3
      have hg : a[k]? = some a[k] := List.getElem?_eq_getElem hk
      generalize a[k] = c at hg
      have hat : atI a (k : Int) = some c := Dl.atI_nat hg
      rw [drop_get hg, markOctets] at h3
      show Dl.Run No _ [.dat (.str a), .own (fd.map .int), .dat (.int (k : Nat)), .no, .no, .no] _ _
      have hc1 : ∀ (S : Addr → Prop) (ρ : List Sl), ρ[0]? = some (.dat (.str a)) → ρ[2]? = some (.dat (.int (k : Nat))) → EvV S (tOp rIxS (tVar 0) (tVar 2)) ρ (.str [c]) := fun S ρ e0 e2 => ev_op (ev_dat e0) (ev_dat e2) (o_ixS hat (sz (by omega)))
      refine run_ifP (c = 61) (eb_B (ev_op (hc1 _ _ rfl rfl) (by repeat' walk_at "ev") o_eqS)) (decI (by simp)) (fun h => ?_) (fun h => ?_)
      · rw [if_pos h] at h3
        have e12 : ((k : Int) + 1) = ((k + 1 : Nat) : Int) := by omega
        have e13 : ((k : Int) + 3) = ((k + 3 : Nat) : Int) := by omega
        generalize hq : a.drop (k + 1) = q at h3
        have ecut : cut (cut a (some ((k : Int) + 1)) (some ((k : Int) + 3)) ++ [48, 48]) none (some 2) = [(q.take 2 ++ [48, 48]).getD 0 48, (q.take 2 ++ [48, 48]).getD 1 48] := by
          rw [e12, e13, cut_mid, hq, show k + 3 - (k + 1) = 2 by omega, show (2 : Int) = ((2 : Nat) : Int) from rfl, cut_to, take2]
        have hql : (cut a (some ((k : Int) + 1)) (some ((k : Int) + 3))).length ≤ 2 := by
          rw [e12, e13, cut_mid, List.length_take]
          omega
        refine run_flat (run_asg (EvF.v (ef_lcM [(q.take 2 ++ [48, 48]).getD 0 48, (q.take 2 ++ [48, 48]).getD 1 48] (fun c => .str [c]) (fun c => .int (ixOf l_SIXTEEN c)) (ei_str (EvV.cast (by
          repeat' walk_at "ev"
          · exact sz (by omega)
          · exact sz (by simp; omega)
          · exact sz (by simp; omega)) (congrArg D.str ecut))) (fun x _ => EvV.cast (by repeat' walk_at "ev") (congrArg D.int (ix_max l_SIXTEEN x))) (sz1 rfl))) (fun d hd => ?_))
        subst hd
        refine ⟨_, tg_lst (tgs_cons tg_name (tgs_cons tg_name tgs_nil)) rfl, ?_⟩
        refine run_flat (run_appendV rfl (by repeat' walk_at "ev") (sz' (by rw [List.length_map]; omega)) ?_)
        refine run_flat (run_aug rfl ev_int o_ipAdd (run_skip ?_))
        refine run_next ⟨(k + 3, fd ++ [hexPair q]), ?_, ⟨by simp only; omega, by simp only [List.length_append, List.length_cons, List.length_nil]; omega, ?_⟩, by simp only; omega⟩
        · rw [e13]
          show Le [_, .own (fd.map D.int ++ [.int (hexPair q)]), _, _, _, _] [_, .own ((fd ++ [hexPair q]).map D.int), _, _, _, _]
          rw [List.map_append]
          exact .same (.same (.same (.no (.no (.no .nil)))))
        · rw [h3, List.append_assoc, ← hq, List.drop_drop, show k + 1 + 2 = k + 3 by omega] <;> rfl
      · rw [if_neg h] at h3
        have e12 : ((k : Int) + 1) = ((k + 1 : Nat) : Int) := by omega
        have hcok := hok c (List.mem_of_getElem? hg)
        refine run_flat (run_appendV (d := .int (if c = 95 then 32 else (c : Int))) rfl (ed_if (b := decide (c = 95)) (eb_B (EvV.cast (ev_op (hc1 _ _ rfl rfl) (by repeat' walk_at "ev") o_eqS) (blI (by simp)))) (fun h => EvV.cast ev_int (by rw [if_pos (of_decide_eq_true h)])) (fun h => EvV.cast (ed_call c (ea_cons (hc1 _ _ rfl rfl) ea_nil) hcok) (by rw [if_neg (of_decide_eq_false h)]))) (sz' (by rw [List.length_map]; omega)) ?_)
        refine run_flat (run_aug rfl ev_int o_ipAdd (run_skip ?_))
        refine run_next ⟨(k + 1, fd ++ [if c = 95 then 32 else (c : Int)]), ?_, ⟨by simp only; omega, by simp only [List.length_append, List.length_cons, List.length_nil]; omega, ?_⟩, by simp only; omega⟩
        · rw [e12]
          show Le [_, .own (fd.map D.int ++ [.int (if c = 95 then 32 else (c : Int))]), _, _, _, _] [_, .own ((fd ++ [if c = 95 then 32 else (c : Int)]).map D.int), _, _, _, _]
          rw [List.map_append]
          exact .same (.same (.same (.no (.no (.no .nil)))))
        · rw [h3, List.append_assoc] <;> rfl
    · obtain ⟨k, fd⟩ := x
      obtain ⟨h1, h2, h3⟩ := hx
      have hk := of_decide_eq_false hb
      simp only at h3 hk
      rw [List.drop_eq_nil_of_le (by omega), markOctets, List.append_nil] at h3
      refine run_freeze 1 rfl (run_retV (ev_dat rfl) ?_)
      rw [h3]⟩)
theorem ixOf_lt {l : List Nat} {c : Nat} : 0 ≤ ixOf l c ∧ (l ≠ [] → ixOf l c < l.length) := by
  unfold ixOf
  split
  · next h => exact ⟨by omega, fun _ => by have := List.idxOf_lt_length_of_mem h; omega⟩
  · refine ⟨Int.le_refl _, fun hn => ?_⟩
    have := List.length_pos_iff.mpr hn
    omega
theorem sixFold_nn : ∀ (q : List Nat) (n : Int), 0 ≤ n → 0 ≤ q.foldl (fun n c => 64 * n + ixOf l_SIX c) n
  | [], n, h => h
  | x :: r, n, h => sixFold_nn r (64 * n + ixOf l_SIX x) (by have := (ixOf_lt (l := l_SIX) (c := x)).1; omega)
theorem sixFold_lt : ∀ (q : List Nat) (n : Int), 0 ≤ n → q.foldl (fun n c => 64 * n + ixOf l_SIX c) n < (n + 1) * 64 ^ q.length
  | [], n, h => by simp; omega
  | x :: r, n, h => by
    have hx := ixOf_lt (l := l_SIX) (c := x)
    have hx2 : ixOf l_SIX x < 64 := hx.2 (by decide)
    have h1 := sixFold_lt r (64 * n + ixOf l_SIX x) (by omega)
    rw [List.foldl_cons, List.length_cons, Int.pow_succ, Int.mul_comm (64 ^ r.length) 64, ← Int.mul_assoc]
    exact Int.lt_of_lt_of_le h1 (Int.mul_le_mul_of_nonneg_right (by omega) (Int.pow_nonneg (by decide)))
theorem sixPart_byte {g : List Nat} (h : g.length ≤ 4) : ∀ o ∈ sixPart g, 0 ≤ o ∧ o < 256 := by
  intro o ho
  unfold sixPart at ho
  have h0 := sixFold_nn (g ++ List.replicate (4 - g.length) 65) 0 (Int.le_refl _)
  have h1 := sixFold_lt (g ++ List.replicate (4 - g.length) 65) 0 (Int.le_refl _)
  rw [List.length_append, List.length_replicate, show g.length + (4 - g.length) = 4 by omega] at h1
  generalize (g ++ List.replicate (4 - g.length) 65).foldl (fun n c => 64 * n + ixOf l_SIX c) 0 = n at ho h0 h1
  have h2 : n < 16777216 := Int.lt_of_lt_of_le h1 (by decide)
  have := List.mem_of_mem_take ho
  simp only [List.mem_cons, List.not_mem_nil, or_false] at this
  omega
theorem sixOctets_byte (a : List Nat) : (sixOctets a).length ≤ 3 * a.length + 3 ∧ ∀ o ∈ sixOctets a, 0 ≤ o ∧ o < 256 := by
  have hr := rstripC_len 61 a
  refine ⟨?_, ?_⟩
  · have := sixPreO_len (rstripC 61 a) (((rstripC 61 a).length + 3) / 4)
    unfold sixPreO at this
    unfold sixOctets
    omega
  · intro o ho
    unfold sixOctets at ho
    obtain ⟨k, hk, ho⟩ := List.mem_flatMap.mp ho
    exact sixPart_byte (by rw [List.length_take]; omega) o ho
theorem hexPair_byte (r : List Nat) : 0 ≤ hexPair r ∧ hexPair r < 256 := by
  unfold hexPair
  have h1 := ixOf_lt (l := l_SIXTEEN) (c := (r.take 2 ++ [48, 48]).getD 0 48)
  have h2 := ixOf_lt (l := l_SIXTEEN) (c := (r.take 2 ++ [48, 48]).getD 1 48)
  have h3 := h1.2 (by decide)
  have h4 := h2.2 (by decide)
  have : l_SIXTEEN.length = 16 := by decide
  omega
theorem okc_lt : ∀ c ∈ l_SIGNS, c < 127 := by decide +kernel
theorem markOctets_byte : ∀ (n : Nat) (l : List Nat), l.length ≤ n → (∀ c ∈ l, okc c) → ∀ o ∈ markOctets l, 0 ≤ o ∧ o < 256
  | _, [], _, _ => by
    rw [markOctets]
    exact fun _ h => (by cases h)
  | 0, _ :: _, h, _ => by simp at h
  | n + 1, c :: r, h, hok => by
    rw [List.length_cons] at h
    have hc := okc_lt c (hok c (List.mem_cons_self ..))
    rw [markOctets]
    split
    · intro o ho
      rcases List.mem_cons.mp ho with e | e
      · rw [e]
        exact hexPair_byte r
      · exact markOctets_byte n (r.drop 2) (by rw [List.length_drop]; omega) (fun x hx => hok x (List.mem_cons_of_mem _ (List.mem_of_mem_drop hx))) o e
    · intro o ho
      rcases List.mem_cons.mp ho with e | e
      · rw [e]
        split <;> omega
      · exact markOctets_byte n r (by omega) (fun x hx => hok x (List.mem_cons_of_mem _ hx)) o e
def optL : Option (List Int) → D
  | none => .non
  | some l => .lst (l.map .int)
abbrev N_word_saying : List PySem.Str := ["atom", "sort", "inner", "octets", "saying", "many"]
theorem sc_word_saying : FnScope N_word_saying ["atom"] (defScope s_word_saying) := ⟨rfl, rfl, rfl, by decide +kernel, rfl, by decide +kernel, by decide +kernel⟩
local macro_rules | `(tactic| walk_at "lit") => `(tactic| first
  | with_reducible exact ev_strL lit_nil
  | with_reducible exact ev_strL lit_73
  | with_reducible exact ev_strL lit_3f3d
  | with_reducible exact ev_strL lit_3f
  | with_reducible exact ev_strL lit_3d3f)
theorem c_word_saying (T : Tx K mg) : C8.Cal P w K mg base 4 "word_saying" (spP (α := List Nat) (fun a => [.str a]) (fun a => a.length ≤ 2000 ∧ ∀ c ∈ a, okc c) (fun a d => d = optL (wordSaying a))) [] :=
  have c_six_octets := c_six_octets (P := P) (w := w) (base := base) T
  have c_mark_octets := c_mark_octets (P := P) (w := w) (base := base) T
  have c_signs_told := c_signs_told (P := P) (w := w) (base := base) T
  have c_coded_word := c_coded_word (P := P) (w := w) (base := base) T
  have ⟨aS, hS1, hS2⟩ := T.a_SORTS
  cal_P T.d_word_saying sc_word_saying (fun _ => rfl) (by decide) (fun _ _ _ _ _ _ us hl => match us, hl with | [_], _ => rfl) (fun f cdv A outer s H E hr => ⟨_, (pss_cons (ps_set (i := 1) sc_word_saying.nd rfl (Or.inl rfl) (pe_slice sl_str (pv 0) (po_some pe_int) (po_some pe_int)))
    (pss_cons (ps_set (i := 2) sc_word_saying.nd rfl (Or.inl rfl) (pe_slice sl_str (pv 0) (po_some pe_int) (po_some (pe_un un_neg pe_int))))
    (pss_cons (ps_if (PW.pt (pw_or (pt_cmpR op_notIn_seq (pv 1) (pe_glob (v := V.ref aS) rfl hS1 rfl) (by rfl)) (pw_or (pt_cmpR op_eq (pv 2) pe_str (by rfl)) (pw_or1 (pt_cmpR op_ne (pv 0) (pe_op op_addS (pe_op op_addS (pe_op op_addS (pe_op op_addS pe_str (pv 1)) pe_str) (pv 2)) pe_str) (by rfl))))))
    (pss_cons (ps_ret pe_non)
    pss_nil)
    pss_nil)
    (pss_cons (ps_set (i := 3) sc_word_saying.nd rfl (Or.inl rfl) (pe_ifExp (pt_cmpR op_eq (pv 1) pe_str (by rfl)) (C8.pe_c c_six_octets hr (by decide) rfl (pa_cons (pv 2) pa_nil)) (C8.pe_c c_mark_octets hr (by decide) rfl (pa_cons (pv 2) pa_nil))))
    (pss_cons (ps_asg (C8.pe_c c_signs_told hr (by decide) rfl (pa_cons (pv 3) pa_nil)) (pg_tup rfl (pgs_cons (pg_name (i := 4) sc_word_saying.nd rfl (Or.inl rfl)) (pgs_cons (pg_name (i := 5) sc_word_saying.nd rfl (Or.inl rfl)) pgs_nil))))
    (pss_cons (ps_if (PW.pt (pw_or (pt_cmpR op_ne (C8.pe_c c_coded_word hr (by decide) rfl (pa_cons (pv 3) (pa_cons (pv 1) pa_nil))) (pv 0) (by rfl)) (pw_or1 (pt_cmpR op_lt (pv 5) (pe_callB cl_lenL (by rfl) T.n_len boot_len (pa_cons (pv 3) pa_nil)) (by rfl)))))
    (pss_cons (ps_ret pe_non)
    pss_nil)
    pss_nil)
    (pss_cons (ps_ret (pv 4))
    pss_nil))))))), fun a ha => by
    show Dl.Run No _ [.dat (.str a), .no, .no, .no, .no, .no] _ _
    obtain ⟨hl, hok⟩ := ha
    refine run_set (d := .str (wsort a)) (EvV.cast (by
      repeat' walk_at "ev"
      exact sz (by omega)) (by exact congrArg D.str (cut_mid a 2 3))) ?_
    refine run_set (d := .str (innerOf a)) (EvV.cast (by
      repeat' walk_at "ev"
      exact sz (by omega)) (by exact congrArg D.str (cut_neg a 4 2 (by decide)))) ?_
    have hi2 : (innerOf a).length ≤ a.length := by
      unfold innerOf
      rw [List.length_take, List.length_drop]
      omega
    have hi3 : ∀ c ∈ innerOf a, okc c := fun c hc => hok c (List.mem_of_mem_drop (List.mem_of_mem_take hc))
    have hs2 : (wsort a).length ≤ 1 := by
      unfold wsort
      rw [List.length_take]
      omega
    have hws : wordSaying a = if (wsort a = [115] ∨ wsort a = [109]) ∧ innerOf a ≠ [] ∧ a = [61, 63] ++ wsort a ++ [63] ++ innerOf a ++ [63, 61] then (if codedWord (decodeBy ((wsort a).headD 0) (innerOf a)) ((wsort a).headD 0) = a ∧ (signsTold (decodeBy ((wsort a).headD 0) (innerOf a))).2 = (decodeBy ((wsort a).headD 0) (innerOf a)).length then some (signsTold (decodeBy ((wsort a).headD 0) (innerOf a))).1 else none) else none := rfl
    rw [hws]
    generalize innerOf a = i at hi2 hi3
    generalize wsort a = q at hs2
    show Dl.Run No _ [.dat (.str a), .dat (.str q), .dat (.str i), .no, .no, .no] _ _
    refine run_ifP (¬ ((q = [115] ∨ q = [109]) ∧ i ≠ [] ∧ a = [61, 63] ++ q ++ [63] ++ i ++ [63, 61])) (eb_or (eb_B (ev_niG (ss := [[115], [109]]) (fun H => hS2 H) (ev_dat rfl))) (fun _ => eb_or (by repeat' walk_at "ev") (fun _ => by
      repeat' walk_at "ev"
      all_goals first | exact sz (by simp; omega) | skip))) ?_ (fun h => ?_) (fun h => run_skip ?_)
    · by_cases h1 : q = [115] ∨ q = [109] <;> by_cases h2 : i = [] <;> by_cases h3 : a = [61, 63] ++ q ++ [63] ++ i ++ [63, 61] <;> simp [h1, h2]
      all_goals first | exact h3 | (simp at h3; exact h3) | skip
    · refine run_retV ev_non ?_
      rw [if_neg h] <;> rfl
    · have h' := Classical.not_not.mp h
      rw [if_pos h']
      obtain ⟨c, rfl⟩ : ∃ c, q = [c] := by
        rcases h'.1 with e | e
        · exact ⟨_, e⟩
        · exact ⟨_, e⟩
      show Dl.Run No _ _ _ fun d => d = optL (if codedWord (decodeBy c i) c = a ∧ (signsTold (decodeBy c i)).2 = (decodeBy c i).length then some (signsTold (decodeBy c i)).1 else none)
      have hsix := sixOctets_byte i
      have hmk := markOctets_byte _ i (Nat.le_refl _) hi3
      have hmkl := markOctets_len _ i (Nat.le_refl _)
      have hoct : octs (decodeBy c i) := by
        unfold decodeBy
        split
        · exact ⟨by omega, hsix.2⟩
        · exact ⟨by omega, hmk⟩
      refine run_set (d := .lst ((decodeBy c i).map .int)) (ed_if (b := decide (c = 115)) (EvB.cast (by repeat' walk_at "ev") (decI (by simp))) (fun h => EvV.cast (ed_call i (by repeat' walk_at "ev") (by omega)) ?_) (fun h => EvV.cast (ed_call i (by repeat' walk_at "ev") ⟨by omega, hi3⟩) ?_)) ?_
      · unfold decodeBy
        rw [if_pos (of_decide_eq_true h)]
      · unfold decodeBy
        rw [if_neg (of_decide_eq_false h)]
      generalize decodeBy c i = o at hoct
      refine run_asg (ed_call o (by repeat' walk_at "ev") hoct.1) (fun d hd => ?_)
      subst hd
      refine ⟨_, tg_tup (tgs_cons tg_name (tgs_cons tg_name tgs_nil)) rfl, ?_⟩
      have htl := (signsTold_len _ o (Nat.le_refl _)).2
      show Dl.Run No _ [.dat (.str a), .dat (.str [c]), .dat (.str i), .dat (.lst (o.map .int)), .dat (.lst ((signsTold o).1.map .int)), .dat (.int ((signsTold o).2 : Nat))] _ _
      refine run_ifP (¬ (codedWord o c = a ∧ (signsTold o).2 = o.length)) (eb_or (eb_B (ev_op (ed_call (o, c) (by repeat' walk_at "ev") hoct) (ev_dat rfl) o_neS)) (fun _ => by repeat' walk_at "ev")) ?_ (fun h => ?_) (fun h => run_skip ?_)
      · rw [List.length_map]
        by_cases h1 : codedWord o c = a <;> by_cases h2 : (signsTold o).2 = o.length <;> simp [h1, h2] <;> omega
      · refine run_retV ev_non ?_
        rw [if_neg h] <;> rfl
      · refine run_retV (ev_dat rfl) ?_
        rw [if_pos (Classical.not_not.mp h)] <;> rfl⟩)
end
end Fk
/-! A written text and what wants a token; replace as a plain function. -/
namespace L2
open PySem PySem.Spec PyProof.Rows
theorem pe_opCT {X : Cx} {f : Expr} {tf : TE} {op : Operator} {r : R2} {c : Str} {j : Nat} {cp pos : Pos} (ho : OpR X (binaryOp op) r) (hb : PET X f tf) : PE X (.BinOp (.Constant (.str c) j cp) op f pos) (tOp r (tC (.str c)) tf) := by
  refine ⟨fun pins s σ H Q I h => ?_⟩
  refine wpAny_BinOp (Calls.Constant_str ?_)
  exact thn (hb pins _ σ H _ (by show 1 ≤ s.toks + 1; omega) (I.tok (s.toks + 1)) h) fun u s2 ⟨y, H2, I2, r2, q2⟩ => ho pins s2 σ H2 (.str c) y (.str c s.toks) u Q I2 ⟨s.toks, rfl⟩ r2 q2
end L2
namespace Dl
open PySem L2 Evl
theorem Lrepl_one (c : Nat) (z : List Nat) : ∀ l : List Nat, StrLaws.replL [c] z l = l.flatMap fun x => if x = c then z else [x] := by
  intro l
  induction l with
  | nil => exact StrLaws.replL_nil
  | cons x r ih =>
    rw [List.flatMap_cons]
    by_cases h : x = c
    · subst h
      rw [if_pos rfl, StrLaws.replL_hit (by simp) (by simp)]
      exact congrArg _ ih
    · rw [if_neg h, StrLaws.replL_miss (by simp [h]), ih]
      rfl
end Dl
namespace Fk
open PySem PySem.Spec PyProof.Rows L2 Dl Mr
local macro_rules | `(tactic| walk_at "ev") => `(tactic| first
  | (with_reducible apply ev_dat) <;> rfl
  | with_reducible apply ev_int
  | with_reducible apply ev_bl
  | with_reducible apply ev_non
  | walk_at "lit"
  | with_reducible apply ev_str
  | with_reducible apply eb_test
  | with_reducible apply eb_B
  | with_reducible apply ev_op
  | with_reducible apply o_add
  | with_reducible apply o_sub
  | with_reducible apply o_mul
  | with_reducible apply o_fdiv
  | with_reducible apply o_fdivW
  | with_reducible apply o_mod
  | with_reducible apply o_lt
  | with_reducible apply o_le
  | with_reducible apply o_gt
  | with_reducible apply o_ge
  | with_reducible apply o_eqI
  | with_reducible apply o_neI
  | with_reducible apply o_eqS
  | with_reducible apply o_neS
  | with_reducible apply o_neInts
  | with_reducible apply o_neNil
  | with_reducible apply o_eqNil
  | with_reducible apply o_eqInts
  | with_reducible apply o_addS
  | with_reducible apply o_in1
  | with_reducible apply o_ni1
  | with_reducible apply o_inS
  | with_reducible apply o_mulS
  | with_reducible apply ea_nil
  | with_reducible apply ea_cons
  | with_reducible apply ev_tup
  | with_reducible apply ev_lst
  | with_reducible apply eb_not
  | with_reducible apply eb_and
  | with_reducible apply eb_or
  | with_reducible apply ev_andV
  | with_reducible apply ev_orV
  | with_reducible apply ev_notV
  | with_reducible apply ev_chain
  | with_reducible apply ev_neg
  | with_reducible apply ev_slS
  | with_reducible apply ev_slL
  | with_reducible apply eo_none
  | with_reducible apply eo_some
  | with_reducible apply ev_cb
  | with_reducible apply cd_lenT
  | with_reducible apply cd_lenL
  | with_reducible apply cd_int
  | with_reducible apply cd_max
  | with_reducible apply cd_min
  | with_reducible apply ev_bm
  | with_reducible apply ev_bm0
  | with_reducible apply md_strip
  | with_reducible apply md_rstrip
  | with_reducible apply md_find
  | with_reducible apply md_index
  | with_reducible apply md_starts
  | with_reducible apply md_lower
  | with_reducible apply md_upper
  | with_reducible apply ei_str
  | with_reducible apply ei_list
  | with_reducible exact sz1 rfl
  | with_reducible exact Nat.le_of_ble_eq_true rfl
  | ((with_reducible apply cmulL) <;> decide)
  | ((with_reducible apply cmulR) <;> decide)
  | ((with_reducible apply cdiv) <;> decide)
  | ((with_reducible show (0 : Int) < _) <;> decide)
  | (with_reducible intro _hyp))

section
variable {P : Program} {w : World} {K : PySem.W.Frag} {mg : PySem.Str → Option Value} {base : Heap}
abbrev isAt (c : Nat) : Bool := decide (c ∈ l_ATOM_SIGNS)
theorem takeWhile_le {α : Type} (p : α → Bool) (l : List α) : (l.takeWhile p).length ≤ l.length := (List.takeWhile_sublist p).length_le
abbrev N_atom_end : List PySem.Str := ["text", "at"]
theorem sc_atom_end : FnScope N_atom_end ["text", "at"] (defScope s_atom_end) := ⟨rfl, rfl, rfl, by decide +kernel, rfl, by decide +kernel, by decide +kernel⟩
local macro_rules | `(tactic| walk_at "lit") => `(tactic| first
  | with_reducible exact ev_strL l_ATOM_SIGNS_eq)
theorem c_atom_end (T : Tx K mg) : C8.Cal P w K mg base 1 "atom_end" (spP (α := List Nat × Nat) (fun a => [.str a.1, .int (a.2 : Int)]) (fun a => a.1.length ≤ 900000 ∧ a.2 ≤ a.1.length) (fun a d => d = .int ((a.2 + ((a.1.drop a.2).takeWhile isAt).length : Nat) : Int))) [] :=
  cal_P T.d_atom_end sc_atom_end (fun _ => rfl) (by decide) (fun _ _ _ _ _ _ us hl => match us, hl with | [_, _], _ => rfl) (fun f cdv A outer s H E hr => ⟨_, (pss_cons (ps_while PassesOwn.never (PW.pt (pw_and (pt_cmpR op_lt (pv 1) (pe_callB cl_lenT (by rfl) T.n_len boot_len (pa_cons (pv 0) pa_nil)) (by rfl)) (pw_and1 (pt_cmpR op_inS (pe_ix ix_str (pv 0) (pv 1) (fun _ _ => rfl)) (C8.pe_gc rfl T.k_ATOM_SIGNS) (by rfl)))))
    (pss_cons (ps_aug (i := 1) sc_atom_end.nd rfl (Or.inl rfl) pe_int ip_add)
    pss_nil))
    (pss_cons (ps_ret (pv 1))
    pss_nil)), fun a ha => by
    obtain ⟨l, b⟩ := a
    obtain ⟨hl, hb⟩ := ha
    simp only at hl hb
    show Dl.Run No _ [.dat (.str l), .dat (.int (b : Int))] _ _
    refine run_while (α := Nat) (fun k => [.dat (.str l), .dat (.int (k : Int))]) (fun k => k ≤ l.length ∧ k + ((l.drop k).takeWhile isAt).length = b + ((l.drop b).takeWhile isAt).length) (fun k => l.length - k) (fun k => decide (k < l.length) && isAt (l.getD k 0)) b (Le.refl _) ⟨hb, rfl⟩ (fun k hk => eb_and (EvB.cast (by
      repeat' walk_at "ev"
      exact sz (by omega)) (decI (by omega))) (fun h => eb_B (ev_op (ev_op (ev_dat rfl) (ev_dat rfl) (o_ixS (Dl.atI_nat (x := l.getD k 0) ?_) (sz (by omega)))) (by repeat' walk_at "ev") o_in1))) (fun k hk h => ?_) (fun k hk h => ?_)
    · have := of_decide_eq_true h
      rw [List.getD_eq_getElem?_getD, List.getElem?_eq_getElem this] <;> rfl
    · rw [Bool.and_eq_true] at h
      have h1 := of_decide_eq_true h.1
      have hg : l[k]? = some (l.getD k 0) := by rw [List.getD_eq_getElem?_getD, List.getElem?_eq_getElem h1] <;> rfl
      have e : ((k : Int) + 1) = ((k + 1 : Nat) : Int) := by omega
      refine run_aug rfl ev_int o_ipAdd (run_next ⟨k + 1, ?_, ⟨by omega, ?_⟩, by omega⟩)
      · rw [e]
        exact Le.refl _
      · have h2 := hk.2
        rw [drop_get hg, List.takeWhile_cons, if_pos h.2, List.length_cons] at h2
        omega
    · refine run_retV (ev_dat rfl) ?_
      have h2 := hk.2
      have h0 : ((l.drop k).takeWhile isAt).length = 0 := by
        rcases Nat.lt_or_ge k l.length with h1 | h1
        · have hg : l[k]? = some (l.getD k 0) := by rw [List.getD_eq_getElem?_getD, List.getElem?_eq_getElem h1] <;> rfl
          rw [drop_get hg, List.takeWhile_cons, if_neg (by
            intro z
            rw [decide_eq_true h1, z] at h
            cases h)]
          rfl
        · rw [List.drop_eq_nil_of_le h1]
          rfl
      rw [h0] at h2
      simp only
      rw [← h2] <;> rfl⟩)
/-- a word as data -/
def wD (s t : List Nat) (b e : Nat) : D := .tup [.str s, .str t, .int (b : Int), .int (e : Int)]
theorem qw_le : ∀ (n : Nat) (l : List Nat), l.length ≤ n → ∀ t k, qw l = some (t, k) → t.length + 1 ≤ k ∧ k ≤ l.length
  | _, [], _, t, k, h => by simp [qw] at h
  | 0, _ :: _, hn, _, _, _ => by simp at hn
  | n + 1, c :: r, hn, t, k, h => by
    rw [List.length_cons] at hn
    unfold qw at h
    split at h
    · cases h
      exact ⟨Nat.le_refl _, by rw [List.length_cons]; omega⟩
    · split at h
      · cases r with
        | nil => cases h
        | cons d r' =>
          simp only at h
          rw [List.length_cons] at hn
          cases hq : qw r' with
          | none => rw [hq] at h; cases h
          | some q =>
            rw [hq] at h
            obtain ⟨t', k'⟩ := q
            have := qw_le n r' (by omega) t' k' hq
            simp at h
            obtain ⟨rfl, rfl⟩ := h
            simp only [List.length_cons]
            omega
      · cases hq : qw r with
        | none => rw [hq] at h; cases h
        | some q =>
          rw [hq] at h
          obtain ⟨t', k'⟩ := q
          have := qw_le n r (by omega) t' k' hq
          simp at h
          obtain ⟨rfl, rfl⟩ := h
          simp only [List.length_cons]
          omega
abbrev N_quoted_word : List PySem.Str := ["text", "begin", "at", "found"]
theorem sc_quoted_word : FnScope N_quoted_word ["text", "begin"] (defScope s_quoted_word) := ⟨rfl, rfl, rfl, by decide +kernel, rfl, by decide +kernel, by decide +kernel⟩
local macro_rules | `(tactic| walk_at "lit") => `(tactic| first
  | with_reducible exact ev_strL lit_nil
  | with_reducible exact ev_strL lit_71756f746564
  | with_reducible exact ev_strL lit_22
  | with_reducible exact ev_strL lit_5c
  | with_reducible exact ev_strL lit_612071756f74656420776f72_31)
theorem c_quoted_word (T : Tx K mg) : C8.Cal P w K mg base 1 "quoted_word" (spP (α := List Nat × Nat × List Nat × Nat) (fun a => [.str a.1, .int (a.2.1 : Int)]) (fun a => a.1.length ≤ 900000 ∧ qw (a.1.drop (a.2.1 + 1)) = some a.2.2) (fun a d => d = wD sQuoted a.2.2.1 a.2.1 (a.2.1 + 1 + a.2.2.2))) [] :=
  cal_P T.d_quoted_word sc_quoted_word (fun _ => rfl) (by decide) (fun _ _ _ _ _ _ us hl => match us, hl with | [_, _], _ => rfl) (fun f cdv A outer s H E hr => ⟨_, (pss_cons (ps_set (i := 2) sc_quoted_word.nd rfl (Or.inl rfl) (pe_op op_add (pv 1) pe_int))
    (pss_cons (ps_set (i := 3) sc_quoted_word.nd rfl (Or.inl rfl) pe_str)
    (pss_cons (ps_while PassesOwn.never (PW.pt (pw_and (pt_cmpR op_lt (pv 2) (pe_callB cl_lenT (by rfl) T.n_len boot_len (pa_cons (pv 0) pa_nil)) (by rfl)) (pw_and1 (pt_cmpR op_ne (pe_ix ix_str (pv 0) (pv 2) (fun _ _ => rfl)) pe_str (by rfl)))))
    (pss_cons (ps_if (pt_cmpR op_eq (pe_ix ix_str (pv 0) (pv 2) (fun _ _ => rfl)) pe_str (by rfl))
    (pss_cons (ps_aug (i := 2) sc_quoted_word.nd rfl (Or.inl rfl) pe_int ip_add)
    pss_nil)
    pss_nil)
    (pss_cons (ps_aug (i := 3) sc_quoted_word.nd rfl (Or.inl rfl) (pe_slice sl_str (pv 0) (po_some (pv 2)) (po_some (pe_op op_add (pv 2) pe_int))) ip_addS)
    (pss_cons (ps_aug (i := 2) sc_quoted_word.nd rfl (Or.inl rfl) pe_int ip_add)
    pss_nil))))
    (pss_cons (ps_if (pt_cmpR op_ge (pv 2) (pe_callB cl_lenT (by rfl) T.n_len boot_len (pa_cons (pv 0) pa_nil)) (by rfl))
    (pss_cons ps_never
    pss_nil)
    pss_nil)
    (pss_cons (ps_ret (pe_tup (pa_cons pe_str (pa_cons (pv 3) (pa_cons (pv 1) (pa_cons (pe_op op_add (pv 2) pe_int) pa_nil))))))
    pss_nil))))), fun a ha => by
    obtain ⟨l, b, t, n⟩ := a
    obtain ⟨hl, hq⟩ := ha
    simp only at hl hq
    show Dl.Run No _ [.dat (.str l), .dat (.int (b : Int)), .no, .no] _ _
    refine run_set (d := .int ((b + 1 : Nat) : Int)) (EvV.cast (by repeat' walk_at "ev") (by rfl)) ?_
    refine run_set (by repeat' walk_at "ev") ?_
    show Dl.Run No _ [.dat (.str l), .dat (.int (b : Int)), .dat (.int ((b + 1 : Nat) : Int)), .dat (.str [])] _ _
    refine run_while (α := Nat × List Nat) (fun x => [.dat (.str l), .dat (.int (b : Int)), .dat (.int (x.1 : Int)), .dat (.str x.2)]) (fun x => x.1 < l.length ∧ x.2.length ≤ x.1 ∧ ∃ t' n', qw (l.drop x.1) = some (t', n') ∧ x.2 ++ t' = t ∧ x.1 + n' = b + 1 + n) (fun x => l.length - x.1) (fun x => !decide (l.getD x.1 0 = 34)) (b + 1, []) (Le.refl _) ⟨?_, Nat.zero_le _, t, n, hq, rfl, rfl⟩ (fun x hx => ?_) (fun x hx h => ?_) (fun x hx h => ?_)
    · rcases Nat.lt_or_ge (b + 1) l.length with h | h
      · exact h
      · rw [List.drop_eq_nil_of_le h] at hq
        cases hq
    · have h1 := hx.1
      have hg : l[x.1]? = some (l.getD x.1 0) := by rw [List.getD_eq_getElem?_getD, List.getElem?_eq_getElem h1] <;> rfl
      refine EvB.cast (eb_and (b := !decide (l.getD x.1 0 = 34)) (by
        repeat' walk_at "ev"
        exact sz (by omega)) (fun _ => EvB.cast (eb_B (ev_op (ev_op (ev_dat rfl) (ev_dat rfl) (o_ixS (Dl.atI_nat hg) (sz (by omega)))) (by repeat' walk_at "ev") o_neS)) (by simp))) ?_
      rw [decide_eq_true (by omega), Bool.true_and]
    · obtain ⟨k, fd⟩ := x
      obtain ⟨h1, h2, t', n', h3, h4, h5⟩ := hx
      simp only at h1 h2 h3 h4 h5 h
      have hg : l[k]? = some (l.getD k 0) := by rw [List.getD_eq_getElem?_getD, List.getElem?_eq_getElem h1] <;> rfl
      generalize l.getD k 0 = c at hg h
      have hc : c ≠ 34 := by simpa using h
      have hdr := drop_get hg
      have h6 := qw_le _ (l.drop k) (Nat.le_refl _) t' n' h3
      rw [List.length_drop] at h6
      rw [hdr] at h3
      unfold qw at h3
      rw [if_neg hc] at h3
      have e1 : ((k : Int) + 1) = ((k + 1 : Nat) : Int) := by omega
      have e2 : (((k + 1 : Nat) : Int) + 1) = ((k + 1 + 1 : Nat) : Int) := by omega
      show Dl.Run No _ [.dat (.str l), .dat (.int (b : Int)), .dat (.int (k : Int)), .dat (.str fd)] _ _
      refine run_ifP (c = 92) (eb_B (ev_op (ev_op (ev_dat rfl) (ev_dat rfl) (o_ixS (Dl.atI_nat hg) (sz (by omega)))) (by repeat' walk_at "ev") o_eqS)) (decI (by simp)) (fun hc2 => ?_) (fun hc2 => run_skip ?_)
      · rw [if_pos hc2] at h3
        cases hd : l.drop (k + 1) with
        | nil => rw [hd] at h3; cases h3
        | cons d r' =>
          rw [hd] at h3
          simp only at h3
          cases hq2 : qw r' with
          | none => rw [hq2] at h3; cases h3
          | some q =>
            obtain ⟨t2, n2⟩ := q
            rw [hq2] at h3
            simp at h3
            obtain ⟨rfl, rfl⟩ := h3
            have hgd : l[k + 1]? = some d := by
              have := congrArg List.head? hd
              rw [List.head?_drop] at this
              exact this
            have hr' : r' = l.drop (k + 1 + 1) := by
              have := drop_get hgd
              rw [hd] at this
              exact (List.cons.inj this).2
            have h7 := qw_le _ r' (Nat.le_refl _) t2 n2 hq2
            rw [hr', List.length_drop] at h7
            have hcut : cut l (some ((k : Int) + 1)) (some ((k : Int) + 1 + 1)) = [d] := by
              rw [e1, e2, cut_mid, hd, show k + 1 + 1 - (k + 1) = 1 by omega]
              rfl
            refine run_flat (run_aug rfl ev_int o_ipAdd (run_skip ?_))
            refine run_aug (y := .str [d]) rfl (EvV.cast (by
              repeat' walk_at "ev"
              exact sz (by omega)) (by exact congrArg D.str hcut)) (o_addS (sz (by simp; omega))) ?_
            refine run_aug rfl ev_int o_ipAdd (run_next ⟨(k + 1 + 1, fd ++ [d]), ?_, ⟨by simp only; omega, by simp only [List.length_append, List.length_cons, List.length_nil]; omega, t2, n2, by simp only; rw [← hr']; exact hq2, ?_, by simp only; omega⟩, by simp only; omega⟩)
            · rw [e1, e2]
              exact Le.refl _
            · simp only
              rw [← h4, List.append_assoc]
              rfl
      · rw [if_neg hc2] at h3
        cases hq2 : qw (l.drop (k + 1)) with
        | none => rw [hq2] at h3; cases h3
        | some q =>
          obtain ⟨t2, n2⟩ := q
          rw [hq2] at h3
          simp at h3
          obtain ⟨rfl, rfl⟩ := h3
          have h7 := qw_le _ _ (Nat.le_refl _) t2 n2 hq2
          rw [List.length_drop] at h7
          have hcut : cut l (some (k : Int)) (some ((k : Int) + 1)) = [c] := by
            rw [e1, cut_mid, hdr, show k + 1 - k = 1 by omega]
            rfl
          refine run_aug (y := .str [c]) rfl (EvV.cast (by
            repeat' walk_at "ev"
            exact sz (by omega)) (by exact congrArg D.str hcut)) (o_addS (sz (by simp; omega))) ?_
          refine run_aug rfl ev_int o_ipAdd (run_next ⟨(k + 1, fd ++ [c]), ?_, ⟨by simp only; omega, by simp only [List.length_append, List.length_cons, List.length_nil]; omega, t2, n2, hq2, ?_, by simp only; omega⟩, by simp only; omega⟩)
          · rw [e1]
            exact Le.refl _
          · simp only
            rw [← h4, List.append_assoc]
            rfl
    · obtain ⟨k, fd⟩ := x
      obtain ⟨h1, h2, t', n', h3, h4, h5⟩ := hx
      simp only at h1 h2 h3 h4 h5 h
      have hg : l[k]? = some (l.getD k 0) := by rw [List.getD_eq_getElem?_getD, List.getElem?_eq_getElem h1] <;> rfl
      have hc : l.getD k 0 = 34 := by simpa using h
      rw [hc] at hg
      rw [drop_get hg] at h3
      unfold qw at h3
      rw [if_pos rfl] at h3
      cases h3
      show Dl.Run No _ [.dat (.str l), .dat (.int (b : Int)), .dat (.int (k : Int)), .dat (.str fd)] _ _
      refine run_no (EvB.cast (by
        repeat' walk_at "ev"
        exact sz (by omega)) (decide_eq_false (by omega))) (run_skip ?_)
      rw [List.append_nil] at h4
      refine run_retV (by repeat' walk_at "ev") ?_
      simp only
      rw [h4]
      have e1 : ((k : Int) + 1) = ((b + 1 + n : Nat) : Int) := by omega
      rw [e1]
      rfl⟩)
end
end Fk
namespace Fk
open PySem PySem.Spec PyProof.Rows L2 Dl Mr
local macro_rules | `(tactic| walk_at "ev") => `(tactic| first
  | (with_reducible apply ev_dat) <;> rfl
  | with_reducible apply ev_int
  | with_reducible apply ev_bl
  | with_reducible apply ev_non
  | walk_at "lit"
  | with_reducible apply ev_str
  | with_reducible apply eb_test
  | with_reducible apply eb_B
  | with_reducible apply ev_op
  | with_reducible apply o_add
  | with_reducible apply o_sub
  | with_reducible apply o_mul
  | with_reducible apply o_fdiv
  | with_reducible apply o_fdivW
  | with_reducible apply o_mod
  | with_reducible apply o_lt
  | with_reducible apply o_le
  | with_reducible apply o_gt
  | with_reducible apply o_ge
  | with_reducible apply o_eqI
  | with_reducible apply o_neI
  | with_reducible apply o_eqS
  | with_reducible apply o_neS
  | with_reducible apply o_neInts
  | with_reducible apply o_neNil
  | with_reducible apply o_eqNil
  | with_reducible apply o_eqInts
  | with_reducible apply o_addS
  | with_reducible apply o_in1
  | with_reducible apply o_ni1
  | with_reducible apply o_inS
  | with_reducible apply o_mulS
  | with_reducible apply ea_nil
  | with_reducible apply ea_cons
  | with_reducible apply ev_tup
  | with_reducible apply ev_lst
  | with_reducible apply eb_not
  | with_reducible apply eb_and
  | with_reducible apply eb_or
  | with_reducible apply ev_andV
  | with_reducible apply ev_orV
  | with_reducible apply ev_notV
  | with_reducible apply ev_chain
  | with_reducible apply ev_neg
  | with_reducible apply ev_slS
  | with_reducible apply ev_slL
  | with_reducible apply eo_none
  | with_reducible apply eo_some
  | with_reducible apply ev_cb
  | with_reducible apply cd_lenT
  | with_reducible apply cd_lenL
  | with_reducible apply cd_int
  | with_reducible apply cd_max
  | with_reducible apply cd_min
  | with_reducible apply ev_bm
  | with_reducible apply ev_bm0
  | with_reducible apply md_strip
  | with_reducible apply md_rstrip
  | with_reducible apply md_find
  | with_reducible apply md_index
  | with_reducible apply md_starts
  | with_reducible apply md_lower
  | with_reducible apply md_upper
  | with_reducible apply ei_str
  | with_reducible apply ei_list
  | with_reducible exact sz1 rfl
  | with_reducible exact Nat.le_of_ble_eq_true rfl
  | ((with_reducible apply cmulL) <;> decide)
  | ((with_reducible apply cmulR) <;> decide)
  | ((with_reducible apply cdiv) <;> decide)
  | ((with_reducible show (0 : Int) < _) <;> decide)
  | (with_reducible intro _hyp))

section
variable {P : Program} {w : World} {K : PySem.W.Frag} {mg : PySem.Str → Option Value} {base : Heap}
theorem rm_le : ∀ (n d : Nat) (l : List Nat), l.length ≤ n → ∀ k, rm d l = some k → 1 ≤ k ∧ k ≤ l.length
  | _, d, [], _, k, h => by simp [rm] at h
  | 0, _, _ :: _, hn, _, _ => by simp at hn
  | n + 1, d, c :: r, hn, k, h => by
    rw [List.length_cons] at hn ⊢
    unfold rm at h
    have aux : ∀ (d' : Nat) (r' : List Nat) (j : Nat), r'.length + j ≤ r.length + 1 → r'.length ≤ n → (rm d' r').map (· + j) = some k → 1 ≤ j → 1 ≤ k ∧ k ≤ r.length + 1 := fun d' r' j hj hr' hm hj1 => by
      cases hq : rm d' r' with
      | none => rw [hq] at hm; cases hm
      | some q =>
        rw [hq] at hm
        have := rm_le n d' r' hr' q hq
        simp at hm
        omega
    split at h
    · exact aux _ _ 1 (by omega) (by omega) h (by decide)
    · split at h
      · split at h
        · cases h
          exact ⟨Nat.le_refl _, by omega⟩
        · exact aux _ _ 1 (by omega) (by omega) h (by decide)
      · split at h
        · cases r with
          | nil => cases h
          | cons x r' =>
            simp only [List.length_cons] at hn
            exact aux _ r' 2 (by simp) (by omega) h (by decide)
        · exact aux _ _ 1 (by omega) (by omega) h (by decide)
abbrev N_remark_word : List PySem.Str := ["text", "begin", "at", "deep"]
theorem sc_remark_word : FnScope N_remark_word ["text", "begin"] (defScope s_remark_word) := ⟨rfl, rfl, rfl, by decide +kernel, rfl, by decide +kernel, by decide +kernel⟩
local macro_rules | `(tactic| walk_at "lit") => `(tactic| first
  | with_reducible exact ev_strL lit_612072656d61726b20746861_26
  | with_reducible exact ev_strL lit_28
  | with_reducible exact ev_strL lit_29
  | with_reducible exact ev_strL lit_72656d61726b
  | with_reducible exact ev_strL lit_5c)
theorem c_remark_word (T : Tx K mg) : C8.Cal P w K mg base 1 "remark_word" (spP (α := List Nat × Nat × Nat) (fun a => [.str a.1, .int (a.2.1 : Int)]) (fun a => a.1.length ≤ 900000 ∧ a.1[a.2.1]? = some 40 ∧ rm 1 (a.1.drop (a.2.1 + 1)) = some a.2.2) (fun a d => d = wD sRemark ((a.1.drop (a.2.1 + 1)).take (a.2.2 - 1)) a.2.1 (a.2.1 + 1 + a.2.2))) [] :=
  cal_P T.d_remark_word sc_remark_word (fun _ => rfl) (by decide) (fun _ _ _ _ _ _ us hl => match us, hl with | [_, _], _ => rfl) (fun f cdv A outer s H E hr => ⟨_, (pss_cons (ps_set (i := 2) sc_remark_word.nd rfl (Or.inl rfl) (pv 1))
    (pss_cons (ps_set (i := 3) sc_remark_word.nd rfl (Or.inl rfl) pe_int)
    (pss_cons (ps_while PassesOwn.never (pt_cmpR op_lt (pv 2) (pe_callB cl_lenT (by rfl) T.n_len boot_len (pa_cons (pv 0) pa_nil)) (by rfl))
    (pss_cons (ps_if (pt_cmpR op_eq (pe_ix ix_str (pv 0) (pv 2) (fun _ _ => rfl)) pe_str (by rfl))
    (pss_cons (ps_aug (i := 3) sc_remark_word.nd rfl (Or.inl rfl) pe_int ip_add)
    pss_nil)
    (pss_cons (ps_if (pt_cmpR op_eq (pe_ix ix_str (pv 0) (pv 2) (fun _ _ => rfl)) pe_str (by rfl))
    (pss_cons (ps_aug (i := 3) sc_remark_word.nd rfl (Or.inl rfl) pe_int ip_sub)
    pss_nil)
    (pss_cons (ps_if (pt_cmpR op_eq (pe_ix ix_str (pv 0) (pv 2) (fun _ _ => rfl)) pe_str (by rfl))
    (pss_cons (ps_aug (i := 2) sc_remark_word.nd rfl (Or.inl rfl) pe_int ip_add)
    pss_nil)
    pss_nil)
    pss_nil))
    pss_nil))
    (pss_cons (ps_aug (i := 2) sc_remark_word.nd rfl (Or.inl rfl) pe_int ip_add)
    (pss_cons (ps_if (pt_cmpR op_eq (pv 3) pe_int (by rfl))
    (pss_cons (ps_ret (pe_tup (pa_cons pe_str (pa_cons (pe_slice sl_str (pv 0) (po_some (pe_op op_add (pv 1) pe_int)) (po_some (pe_op op_sub (pv 2) pe_int))) (pa_cons (pv 1) (pa_cons (pv 2) pa_nil))))))
    pss_nil)
    pss_nil)
    pss_nil))))
    (pss_cons ps_never
    pss_nil)))), fun a ha => by
    obtain ⟨l, b, n⟩ := a
    obtain ⟨hl, h40, hq⟩ := ha
    simp only at hl hq h40
    show Dl.Run No _ [.dat (.str l), .dat (.int (b : Int)), .no, .no] _ _
    refine run_set (ev_dat rfl) ?_
    refine run_set ev_int ?_
    have hb := (List.getElem?_eq_some_iff.mp h40).1
    refine run_while (α := Nat × Nat) (fun x => [.dat (.str l), .dat (.int (b : Int)), .dat (.int (x.1 : Int)), .dat (.int (x.2 : Int))]) (fun x => (x.1 = b ∧ x.2 = 0) ∨ (1 ≤ x.2 ∧ ∃ n', rm x.2 (l.drop x.1) = some n' ∧ x.1 + n' = b + 1 + n)) (fun x => l.length - x.1) (fun x => true) (b, 0) (Le.refl _) (.inl ⟨rfl, rfl⟩) (fun x hx => ?_) (fun x hx h => ?_) (fun x hx h => by cases h)
    · refine EvB.cast (by
        repeat' walk_at "ev"
        exact sz (by omega)) (decide_eq_true ?_)
      rcases hx with ⟨e, _⟩ | ⟨_, n', e, _⟩
      · omega
      · have := rm_le _ _ _ (Nat.le_refl _) n' e
        rw [List.length_drop] at this
        omega
    · obtain ⟨k, d⟩ := x
      show Dl.Run No _ [.dat (.str l), .dat (.int (b : Int)), .dat (.int (k : Int)), .dat (.int (d : Int))] _ _
      have hk : k < l.length := by
        rcases hx with ⟨e, _⟩ | ⟨_, n', e, _⟩
        · simp only at e; omega
        · have := rm_le _ _ _ (Nat.le_refl _) n' e
          rw [List.length_drop] at this
          simp only at this
          omega
      have e1 : ((k : Int) + 1) = ((k + 1 : Nat) : Int) := by omega
      have hg : l[k]? = some (l.getD k 0) := by rw [List.getD_eq_getElem?_getD, List.getElem?_eq_getElem hk] <;> rfl
      generalize l.getD k 0 = c at hg
      have hc1 : ∀ (m : Int), EvV No (tOp rIxS (tVar 0) (tVar 2)) [.dat (.str l), .dat (.int (b : Int)), .dat (.int (k : Int)), .dat (.int m)] (.str [c]) := fun m => ev_op (ev_dat rfl) (ev_dat rfl) (o_ixS (Dl.atI_nat hg) (sz (by omega)))
      -- behind the branches: at k' with depth d'
      have fin : ∀ (k' d' : Nat) (tb : TS), k ≤ k' → (d' = 0 → k' + 1 = b + 1 + n ∧ b < k') → (1 ≤ d' → ∃ n', rm d' (l.drop (k' + 1)) = some n' ∧ k' + 1 + n' = b + 1 + n) →
          Dl.Run No (tSeq (tAug 2 (tC (.int 1)) (ipI fun i j => i + j)) (tSeq (tIfS (tTest (tOp rEq (tVar 3) (tC (.int 0)))) (tSeq (tRet (tTup (tCons (tC (.str "remark")) (tCons (tSl rSlS (tVar 0) (tPart (tOp (rI0 fun i j => .int (i + j)) (tVar 1) (tC (.int 1)))) (tPart (tOp (rI0 fun i j => .int (i - j)) (tVar 2) (tC (.int 1))))) (tCons (tVar 1) (tCons (tVar 2) tNil)))))) tNext) tNext) tNext)) [.dat (.str l), .dat (.int (b : Int)), .dat (.int (k' : Int)), .dat (.int (d' : Int))] (fun r => ∃ a' : Nat × Nat, Le r [.dat (.str l), .dat (.int (b : Int)), .dat (.int (a'.1 : Int)), .dat (.int (a'.2 : Int))] ∧ ((a'.1 = b ∧ a'.2 = 0) ∨ (1 ≤ a'.2 ∧ ∃ n', rm a'.2 (l.drop a'.1) = some n' ∧ a'.1 + n' = b + 1 + n)) ∧ l.length - a'.1 < l.length - k) (fun d => d = wD sRemark ((l.drop (b + 1)).take (n - 1)) b (b + 1 + n)) := fun k' d' tb hk' h0 h1 => by
        have e1 : ((k' : Int) + 1) = ((k' + 1 : Nat) : Int) := by omega
        refine run_aug rfl ev_int o_ipAdd ?_
        rw [e1]
        show Dl.Run No _ [.dat (.str l), .dat (.int (b : Int)), .dat (.int ((k' + 1 : Nat) : Int)), .dat (.int (d' : Int))] _ _
        refine run_ifP (d' = 0) (by repeat' walk_at "ev") (decI (by omega)) (fun hd => ?_) (fun hd => run_skip ?_)
        · obtain ⟨h2, h3⟩ := h0 hd
          refine run_flat (run_retV (d := wD sRemark ((l.drop (b + 1)).take (n - 1)) b (b + 1 + n)) (EvV.cast (by
            repeat' walk_at "ev"
            exact sz (by omega)) (by
            have e2 : ((b : Int) + 1) = ((b + 1 : Nat) : Int) := by omega
            have e3 : (((k' + 1 : Nat) : Int) - 1) = ((k' : Nat) : Int) := by omega
            rw [e2, e3, cut_mid, show k' - (b + 1) = n - 1 by omega, show k' + 1 = b + 1 + n by omega]
            rfl)) rfl)
        · obtain ⟨n', h2, h3⟩ := h1 (by omega)
          exact run_next ⟨(k' + 1, d'), Le.refl _, .inr ⟨by simp only; omega, n', h2, h3⟩, by simp only; omega⟩
      -- the cases
      rcases hx with ⟨ek, ed⟩ | ⟨hd1, n', hn', hs⟩
      · simp only at ek ed
        subst ek ed
        rw [h40] at hg
        cases hg
        refine run_yes (EvB.cast (eb_B (ev_op (hc1 _) (by repeat' walk_at "ev") o_eqS)) (by decide)) ?_
        refine run_flat (run_aug rfl ev_int o_ipAdd (run_skip (fin k 1 tNext (Nat.le_refl _) (fun z => by cases z) (fun _ => ⟨n, hq, rfl⟩))))
      · simp only at hd1 hn' hs
        rw [drop_get hg] at hn'
        unfold rm at hn'
        refine run_ifP (c = 40) (eb_B (ev_op (hc1 _) (by repeat' walk_at "ev") o_eqS)) (decI (by simp)) (fun h1 => ?_) (fun h1 => ?_)
        · rw [if_pos h1] at hn'
          cases hq2 : rm (d + 1) (l.drop (k + 1)) with
          | none => rw [hq2] at hn'; cases hn'
          | some q =>
            rw [hq2] at hn'
            simp at hn'
            refine run_flat (run_aug rfl ev_int o_ipAdd (run_skip ?_))
            have e2 : ((d : Int) + 1) = ((d + 1 : Nat) : Int) := by omega
            rw [e2]
            exact fin k (d + 1) tNext (Nat.le_refl _) (fun z => by omega) (fun _ => ⟨q, hq2, by omega⟩)
        · rw [if_neg h1] at hn'
          refine run_flat (run_ifP (c = 41) (eb_B (ev_op (hc1 _) (by repeat' walk_at "ev") o_eqS)) (decI (by simp)) (fun h2 => ?_) (fun h2 => ?_))
          · rw [if_pos h2] at hn'
            refine run_flat (run_aug rfl ev_int o_ipSub (run_skip (run_skip ?_)))
            have e2 : ((d : Int) - 1) = ((d - 1 : Nat) : Int) := by omega
            rw [e2]
            by_cases hd : d = 1
            · rw [if_pos hd] at hn'
              cases hn'
              refine fin k (d - 1) tNext (Nat.le_refl _) (fun _ => ⟨by omega, ?_⟩) (fun z => by omega)
              rcases Nat.lt_or_ge b k with h3 | h3
              · exact h3
              · have hh := rm_le _ _ _ (Nat.le_refl _) n hq
                omega
            · rw [if_neg hd] at hn'
              cases hq2 : rm (d - 1) (l.drop (k + 1)) with
              | none => rw [hq2] at hn'; cases hn'
              | some q =>
                rw [hq2] at hn'
                simp at hn'
                exact fin k (d - 1) tNext (Nat.le_refl _) (fun z => by omega) (fun _ => ⟨q, hq2, by omega⟩)
          · rw [if_neg h2] at hn'
            refine run_flat (run_ifP (c = 92) (eb_B (ev_op (hc1 _) (by repeat' walk_at "ev") o_eqS)) (decI (by simp)) (fun h3 => ?_) (fun h3 => ?_))
            · rw [if_pos h3] at hn'
              cases hd : l.drop (k + 1) with
              | nil => rw [hd] at hn'; cases hn'
              | cons x r' =>
                rw [hd] at hn'
                simp only at hn'
                cases hq2 : rm d r' with
                | none => rw [hq2] at hn'; cases hn'
                | some q =>
                  rw [hq2] at hn'
                  simp at hn'
                  have hr' : r' = l.drop (k + 1 + 1) := by
                    have hgd : l[k + 1]? = some x := by
                      have := congrArg List.head? hd
                      rw [List.head?_drop] at this
                      exact this
                    have := drop_get hgd
                    rw [hd] at this
                    exact (List.cons.inj this).2
                  refine run_flat (run_aug rfl ev_int o_ipAdd (run_skip (run_skip (run_skip ?_))))
                  rw [e1]
                  exact fin (k + 1) d tNext (by omega) (fun z => by omega) (fun _ => ⟨q, by rw [← hr']; exact hq2, by omega⟩)
            · rw [if_neg h3] at hn'
              cases hq2 : rm d (l.drop (k + 1)) with
              | none => rw [hq2] at hn'; cases hn'
              | some q =>
                rw [hq2] at hn'
                simp at hn'
                exact run_skip (run_skip (run_skip (fin k d tNext (Nat.le_refl _) (fun z => by omega) (fun _ => ⟨q, hq2, by omega⟩))))⟩)
end
end Fk
namespace Fk
open PySem PySem.Spec PyProof.Rows L2 Dl Mr
local macro_rules | `(tactic| walk_at "ev") => `(tactic| first
  | (with_reducible apply ev_dat) <;> rfl
  | with_reducible apply ev_int
  | with_reducible apply ev_bl
  | with_reducible apply ev_non
  | walk_at "lit"
  | with_reducible apply ev_str
  | with_reducible apply eb_test
  | with_reducible apply eb_B
  | with_reducible apply ev_op
  | with_reducible apply o_add
  | with_reducible apply o_sub
  | with_reducible apply o_mul
  | with_reducible apply o_fdiv
  | with_reducible apply o_fdivW
  | with_reducible apply o_mod
  | with_reducible apply o_lt
  | with_reducible apply o_le
  | with_reducible apply o_gt
  | with_reducible apply o_ge
  | with_reducible apply o_eqI
  | with_reducible apply o_neI
  | with_reducible apply o_eqS
  | with_reducible apply o_neS
  | with_reducible apply o_neInts
  | with_reducible apply o_neNil
  | with_reducible apply o_eqNil
  | with_reducible apply o_eqInts
  | with_reducible apply o_addS
  | with_reducible apply o_in1
  | with_reducible apply o_ni1
  | with_reducible apply o_inS
  | with_reducible apply o_mulS
  | with_reducible apply ea_nil
  | with_reducible apply ea_cons
  | with_reducible apply ev_tup
  | with_reducible apply ev_lst
  | with_reducible apply eb_not
  | with_reducible apply eb_and
  | with_reducible apply eb_or
  | with_reducible apply ev_andV
  | with_reducible apply ev_orV
  | with_reducible apply ev_notV
  | with_reducible apply ev_chain
  | with_reducible apply ev_neg
  | with_reducible apply ev_slS
  | with_reducible apply ev_slL
  | with_reducible apply eo_none
  | with_reducible apply eo_some
  | with_reducible apply ev_cb
  | with_reducible apply cd_lenT
  | with_reducible apply cd_lenL
  | with_reducible apply cd_int
  | with_reducible apply cd_max
  | with_reducible apply cd_min
  | with_reducible apply ev_bm
  | with_reducible apply ev_bm0
  | with_reducible apply md_strip
  | with_reducible apply md_rstrip
  | with_reducible apply md_find
  | with_reducible apply md_index
  | with_reducible apply md_starts
  | with_reducible apply md_lower
  | with_reducible apply md_upper
  | with_reducible apply ei_str
  | with_reducible apply ei_list
  | with_reducible exact sz1 rfl
  | with_reducible exact Nat.le_of_ble_eq_true rfl
  | ((with_reducible apply cmulL) <;> decide)
  | ((with_reducible apply cmulR) <;> decide)
  | ((with_reducible apply cdiv) <;> decide)
  | ((with_reducible show (0 : Int) < _) <;> decide)
  | (with_reducible intro _hyp))

section
variable {P : Program} {w : World} {K : PySem.W.Frag} {mg : PySem.Str → Option Value} {base : Heap}
theorem word1_le {l s t : List Nat} {n : Nat} (h : word1 l = some (s, t, n)) : 1 ≤ n ∧ n ≤ l.length := by
  cases l with
  | nil => cases h
  | cons c r =>
    rw [List.length_cons]
    simp only [word1] at h
    split at h
    · cases hq : qw r with
      | none => rw [hq] at h; cases h
      | some q =>
        obtain ⟨t', k⟩ := q
        have := qw_le _ r (Nat.le_refl _) t' k hq
        rw [hq] at h
        simp at h
        omega
    · split at h
      · cases hq : rm 1 r with
        | none => rw [hq] at h; cases h
        | some k =>
          have := rm_le _ _ r (Nat.le_refl _) k hq
          rw [hq] at h
          simp at h
          omega
      · split at h
        · simp at h
          omega
        · split at h
          · next hc =>
            have h1 := takeWhile_le (fun x => decide (x ∈ l_ATOM_SIGNS)) (c :: r)
            have h2 : 1 ≤ ((c :: r).takeWhile (fun x => decide (x ∈ l_ATOM_SIGNS))).length := by
              rw [List.takeWhile_cons, if_pos (decide_eq_true hc), List.length_cons]
              omega
            rw [List.length_cons] at h1
            simp only [Option.some.injEq, Prod.mk.injEq] at h
            omega
          · cases h
abbrev N_word_at : List PySem.Str := ["text", "begin", "sign", "end"]
theorem sc_word_at : FnScope N_word_at ["text", "begin"] (defScope s_word_at) := ⟨rfl, rfl, rfl, by decide +kernel, rfl, by decide +kernel, by decide +kernel⟩
local macro_rules | `(tactic| walk_at "lit") => `(tactic| first
  | with_reducible exact ev_strL l_MARKS_eq
  | with_reducible exact ev_strL lit_22
  | with_reducible exact ev_strL lit_28
  | with_reducible exact ev_strL lit_61746f6d
  | with_reducible exact ev_strL lit_6d61726b
  | with_reducible exact ev_strL lit_61207369676e207468617420_26)
theorem c_word_at (T : Tx K mg) : C8.Cal P w K mg base 2 "word_at" (spP (α := List Nat × Nat × List Nat × List Nat × Nat) (fun a => [.str a.1, .int (a.2.1 : Int)]) (fun a => a.1.length ≤ 900000 ∧ word1 (a.1.drop a.2.1) = some a.2.2) (fun a d => d = wD a.2.2.1 a.2.2.2.1 a.2.1 (a.2.1 + a.2.2.2.2))) [] :=
  have c_quoted_word := c_quoted_word (P := P) (w := w) (base := base) T
  have c_remark_word := c_remark_word (P := P) (w := w) (base := base) T
  have c_atom_end := c_atom_end (P := P) (w := w) (base := base) T
  cal_P T.d_word_at sc_word_at (fun _ => rfl) (by decide) (fun _ _ _ _ _ _ us hl => match us, hl with | [_, _], _ => rfl) (fun f cdv A outer s H E hr => ⟨_, (pss_cons (ps_set (i := 2) sc_word_at.nd rfl (Or.inl rfl) (pe_ix ix_str (pv 0) (pv 1) (fun _ _ => rfl)))
    (pss_cons (ps_if (pt_cmpR op_eq (pv 2) pe_str (by rfl))
    (pss_cons (ps_ret (C8.pe_c c_quoted_word hr (by decide) rfl (pa_cons (pv 0) (pa_cons (pv 1) pa_nil))))
    pss_nil)
    pss_nil)
    (pss_cons (ps_if (pt_cmpR op_eq (pv 2) pe_str (by rfl))
    (pss_cons (ps_ret (C8.pe_c c_remark_word hr (by decide) rfl (pa_cons (pv 0) (pa_cons (pv 1) pa_nil))))
    pss_nil)
    pss_nil)
    (pss_cons (ps_if (pt_cmpR op_inS (pv 2) (C8.pe_gc rfl T.k_MARKS) (by rfl))
    (pss_cons (ps_ret (pe_tup (pa_cons pe_str (pa_cons (pv 2) (pa_cons (pv 1) (pa_cons (pe_op op_add (pv 1) pe_int) pa_nil))))))
    pss_nil)
    pss_nil)
    (pss_cons (ps_set (i := 3) sc_word_at.nd rfl (Or.inl rfl) (C8.pe_c c_atom_end hr (by decide) rfl (pa_cons (pv 0) (pa_cons (pv 1) pa_nil))))
    (pss_cons (ps_if (pt_cmpR op_eq (pv 3) (pv 1) (by rfl))
    (pss_cons ps_never
    pss_nil)
    pss_nil)
    (pss_cons (ps_ret (pe_tup (pa_cons pe_str (pa_cons (pe_slice sl_str (pv 0) (po_some (pv 1)) (po_some (pv 3))) (pa_cons (pv 1) (pa_cons (pv 3) pa_nil))))))
    pss_nil))))))), fun a ha => by
    obtain ⟨l, b, s, t, n⟩ := a
    obtain ⟨hl, hw⟩ := ha
    simp only at hl hw
    show Dl.Run No _ [.dat (.str l), .dat (.int (b : Int)), .no, .no] _ _
    have hb : b < l.length := by
      rcases Nat.lt_or_ge b l.length with h | h
      · exact h
      · rw [List.drop_eq_nil_of_le h] at hw
        cases hw
    have hg : l[b]? = some (l.getD b 0) := by rw [List.getD_eq_getElem?_getD, List.getElem?_eq_getElem hb] <;> rfl
    generalize l.getD b 0 = c at hg
    have hd := drop_get hg
    rw [hd] at hw
    simp only [word1] at hw
    refine run_set (ev_op (ev_dat rfl) (ev_dat rfl) (o_ixS (Dl.atI_nat hg) (sz (by omega)))) ?_
    show Dl.Run No _ [.dat (.str l), .dat (.int (b : Int)), .dat (.str [c]), .no] _ _
    refine run_ifP (c = 34) (by repeat' walk_at "ev") (decI (by simp)) (fun h1 => ?_) (fun h1 => run_skip ?_)
    · rw [if_pos h1] at hw
      cases hq : qw (l.drop (b + 1)) with
      | none => rw [hq] at hw; cases hw
      | some q =>
        obtain ⟨t', k⟩ := q
        rw [hq] at hw
        simp at hw
        obtain ⟨rfl, rfl, rfl⟩ := hw
        refine run_flat (run_retV (ed_call (l, b, t', k) (by repeat' walk_at "ev") ⟨hl, hq⟩) ?_)
        simp only
        rw [show b + 1 + k = b + (k + 1) by omega]
    · rw [if_neg h1] at hw
      refine run_ifP (c = 40) (by repeat' walk_at "ev") (decI (by simp)) (fun h2 => ?_) (fun h2 => run_skip ?_)
      · rw [if_pos h2] at hw
        cases hq : rm 1 (l.drop (b + 1)) with
        | none => rw [hq] at hw; cases hw
        | some k =>
          rw [hq] at hw
          simp at hw
          obtain ⟨rfl, rfl, rfl⟩ := hw
          refine run_flat (run_retV (ed_call (l, b, k) (by repeat' walk_at "ev") ⟨hl, by rw [hg, h2], hq⟩) ?_)
          simp only
          rw [show b + 1 + k = b + (k + 1) by omega]
      · rw [if_neg h2] at hw
        refine run_ifP (c ∈ l_MARKS) (by repeat' walk_at "ev") rfl (fun h3 => ?_) (fun h3 => run_skip ?_)
        · rw [if_pos h3] at hw
          cases hw
          exact run_flat (run_retV (EvV.cast (by repeat' walk_at "ev") (by rfl)) rfl)
        · rw [if_neg h3] at hw
          by_cases hc : c ∈ l_ATOM_SIGNS
          · rw [if_pos hc] at hw
            refine run_set (ed_call (l, b) (by repeat' walk_at "ev") ⟨hl, by simp only; omega⟩) ?_
            simp only
            rw [hd]
            have hpos : 1 ≤ ((c :: l.drop (b + 1)).takeWhile isAt).length := by
              rw [List.takeWhile_cons, if_pos (decide_eq_true hc), List.length_cons]
              omega
            cases hw
            have hcut : cut l (some (b : Int)) (some ((b + ((c :: l.drop (b + 1)).takeWhile isAt).length : Nat) : Int)) = (c :: l.drop (b + 1)).takeWhile isAt := by
              rw [cut_mid, hd, Nat.add_sub_cancel_left]
              have hp : ∀ q : List Nat, q.take (q.takeWhile isAt).length = q.takeWhile isAt := fun q => by
                induction q with
                | nil => rfl
                | cons x r ih =>
                  by_cases hx : isAt x = true
                  · rw [List.takeWhile_cons, if_pos hx, List.length_cons, List.take_succ_cons, ih]
                  · rw [List.takeWhile_cons, if_neg hx]
                    rfl
              exact hp _
            show Dl.Run No _ [.dat (.str l), .dat (.int (b : Int)), .dat (.str [c]), .dat (.int ((b + ((c :: l.drop (b + 1)).takeWhile isAt).length : Nat) : Int))] _ _
            refine run_no (EvB.cast (by repeat' walk_at "ev") (decide_eq_false (by omega))) (run_skip ?_)
            refine run_retV (EvV.cast (by
              repeat' walk_at "ev"
              exact sz (by omega)) (by rw [hcut] <;> rfl)) rfl
          · rw [if_neg hc] at hw
            cases hw⟩)
def Wd.d (x : Wd) : D := wD x.sort x.text x.b x.e
abbrev N_words_in : List PySem.Str := ["text", "found", "at"]
theorem sc_words_in : FnScope N_words_in ["text"] (defScope s_words_in) := ⟨rfl, rfl, rfl, by decide +kernel, rfl, by decide +kernel, by decide +kernel⟩
local macro_rules | `(tactic| walk_at "lit") => `(tactic| first
  | with_reducible exact ev_strL lit_20)
theorem c_words_in (T : Tx K mg) : C8.Cal P w K mg base 3 "words_in" (spP (α := List Nat × List Wd) (fun a => [.str a.1]) (fun a => a.1.length ≤ 900000 ∧ Lex 0 a.1 a.2) (fun a d => d = .lst (a.2.map Wd.d))) [] :=
  have c_word_at := c_word_at (P := P) (w := w) (base := base) T
  cal_P T.d_words_in sc_words_in (fun _ => rfl) (by decide) (fun _ _ _ _ _ _ us hl => match us, hl with | [_], _ => rfl) (fun f cdv A outer s H E hr => ⟨_, (pss_cons (ps_set (i := 1) sc_words_in.nd rfl (Or.inl rfl) (pe_lst pa_nil))
    (pss_cons (ps_set (i := 2) sc_words_in.nd rfl (Or.inl rfl) pe_int)
    (pss_cons (ps_while PassesOwn.never (pt_cmpR op_lt (pv 2) (pe_callB cl_lenT (by rfl) T.n_len boot_len (pa_cons (pv 0) pa_nil)) (by rfl))
    (pss_cons (ps_if (pt_cmpR op_eq (pe_ix ix_str (pv 0) (pv 2) (fun _ _ => rfl)) pe_str (by rfl))
    (pss_cons (ps_aug (i := 2) sc_words_in.nd rfl (Or.inl rfl) pe_int ip_add)
    pss_nil)
    (pss_cons (ps_expr (pe_bm PySem.F.plainAttrs_list PySem.F.slot_list_append PySem.F.type_list_append mt_append (pv 1) (pa_cons (C8.pe_c c_word_at hr (by decide) rfl (pa_cons (pv 0) (pa_cons (pv 2) pa_nil))) pa_nil)))
    (pss_cons (ps_set (i := 2) sc_words_in.nd rfl (Or.inl rfl) (pe_ix ix_tup (pe_ix ix_list (pv 1) (pe_un un_neg pe_int) (fun _ _ => rfl)) pe_int (fun _ _ => rfl)))
    pss_nil)))
    pss_nil))
    (pss_cons (ps_ret (pv 1))
    pss_nil)))), fun a ha => by
    obtain ⟨l, ws⟩ := a
    obtain ⟨hl, hlex⟩ := ha
    simp only at hl hlex
    show Dl.Run No _ [.dat (.str l), .no, .no] _ _
    refine run_setFV (ef_lstV ea_nil (sz1 rfl)) (run_set ev_int ?_)
    refine run_while (α := Nat × List Wd) (fun x => [.dat (.str l), .own (x.2.map Wd.d), .dat (.int (x.1 : Int))]) (fun x => x.2.length ≤ x.1 ∧ ∃ ws', Lex x.1 (l.drop x.1) ws' ∧ x.2 ++ ws' = ws) (fun x => l.length - x.1) (fun x => decide (x.1 < l.length)) (0, []) (Le.refl _) ⟨Nat.zero_le _, ws, hlex, rfl⟩ (fun x hx => EvB.cast (by
      repeat' walk_at "ev"
      exact sz (by omega)) (decI (by omega))) (fun x hx h => ?_) (fun x hx h => ?_)
    · obtain ⟨k, fd⟩ := x
      obtain ⟨h0, ws', h1, h2⟩ := hx
      have hk : k < l.length := of_decide_eq_true h
      simp only at h0 h1 h2
      have e1 : ((k : Int) + 1) = ((k + 1 : Nat) : Int) := by omega
      have hg : l[k]? = some (l.getD k 0) := by rw [List.getD_eq_getElem?_getD, List.getElem?_eq_getElem hk] <;> rfl
      generalize l.getD k 0 = c at hg
      have hd := drop_get hg
      show Dl.Run No _ [.dat (.str l), .own (fd.map Wd.d), .dat (.int (k : Int))] _ _
      refine run_ifP (c = 32) (eb_B (ev_op (ev_op (ev_dat rfl) (ev_dat rfl) (o_ixS (Dl.atI_nat hg) (sz (by omega)))) (by repeat' walk_at "ev") o_eqS)) (decI (by simp)) (fun hc => ?_) (fun hc => ?_)
      · refine run_flat (run_aug rfl ev_int o_ipAdd (run_skip (run_next ⟨(k + 1, fd), ?_, ⟨by simp only; omega, ws', ?_, h2⟩, by simp only; omega⟩)))
        · rw [e1]
          exact Le.refl _
        · rw [hd, hc] at h1
          cases h1 with
          | blank h => exact h
          | word h _ _ => exact absurd rfl h
      · have hne : l.drop k ≠ [] := by rw [hd]; exact fun z => by cases z
        generalize hdk : l.drop k = q at h1 hne
        cases h1 with
        | nil => exact absurd rfl hne
        | blank h =>
          rw [hd] at hdk
          cases hdk
          exact absurd rfl hc
        | @word _ n _ s t ws2 hh hw h3 =>
          have hle := word1_le hw
          refine run_flat (run_appendV rfl (ed_call (l, k, s, t, n) (by repeat' walk_at "ev") ⟨hl, by simp only; rw [hdk]; exact hw⟩) (sz' (by rw [List.length_map]; omega)) ?_)
          refine run_flat (run_set (d := .int ((k + n : Nat) : Int)) (ev_peek 1 rfl (ev_op (ev_op (ev_dat rfl) (ev_neg ev_int) (o_ixL (atI_last (x := wD s t k (k + n)) (by simp)))) ev_int (o_ixT rfl)) trivial) (run_skip (run_next ⟨(k + n, fd ++ [Wd.mk s t k (k + n)]), ?_, ⟨by simp only [List.length_append, List.length_cons, List.length_nil]; omega, ws2, ?_, ?_⟩, by simp only; omega⟩)))
          · show Le [_, .own (fd.map Wd.d ++ [wD s t k (k + n)]), _] [_, .own ((fd ++ [Wd.mk s t k (k + n)]).map Wd.d), _]
            rw [List.map_append]
            exact Le.refl _
          · rw [← hdk, List.drop_drop] at h3
            exact h3
          · rw [← h2, List.append_assoc]
            rfl
    · obtain ⟨k, fd⟩ := x
      obtain ⟨h0, ws', h1, h2⟩ := hx
      have hk := of_decide_eq_false h
      simp only at h0 h1 h2 hk
      rw [List.drop_eq_nil_of_le (by omega)] at h1
      refine run_freeze 1 rfl (run_retV (ev_dat rfl) ?_)
      cases h1 with
      | nil =>
        simp only
        rw [List.append_nil] at h2
        rw [← h2]
      | word _ hw _ => cases hw⟩)
abbrev N_words : List PySem.Str := ["text"]
theorem sc_words : FnScope N_words ["text"] (defScope s_words) := ⟨rfl, rfl, rfl, by decide +kernel, rfl, by decide +kernel, by decide +kernel⟩
theorem c_words (T : Tx K mg) : C8.Cal P w K mg base 4 "words" (spP (α := List Nat × List Wd) (fun a => [.str a.1]) (fun a => (a.1.length ≤ 900000 ∧ Lex 0 a.1 a.2) ∧ 10 ∉ a.1) (fun a d => d = .lst (a.2.map Wd.d))) [] :=
  have c_words_in := c_words_in (P := P) (w := w) (base := base) T
  have c_is_line := c_is_line (P := P) (w := w) (base := base) T
  cal_P T.d_words sc_words (fun _ => rfl) (by decide) (fun _ _ _ _ _ _ us hl => match us, hl with | [_], _ => rfl) (fun f cdv A outer s H E hr => ⟨_, (pss_cons (ps_if (pt_not (pt_val (C8.pe_c c_is_line hr (by decide) rfl (pa_cons (pv 0) pa_nil))))
    (pss_cons ps_never
    pss_nil)
    pss_nil)
    (pss_cons (ps_ret (C8.pe_c c_words_in hr (by decide) rfl (pa_cons (pv 0) pa_nil)))
    pss_nil)), fun a ha => by
    show Dl.Run No _ [.dat (.str a.1)] _ _
    refine run_no (EvB.cast (eb_not (eb_test (ed_call a.1 (by repeat' walk_at "ev") trivial))) (by rw [decide_eq_false ha.2] <;> rfl)) (run_skip ?_)
    exact run_retV (ed_call a (by repeat' walk_at "ev") ha.1) rfl⟩)
abbrev N_is_atom : List PySem.Str := ["text"]
theorem sc_is_atom : FnScope N_is_atom ["text"] (defScope s_is_atom) := ⟨rfl, rfl, rfl, by decide +kernel, rfl, by decide +kernel, by decide +kernel⟩
local macro_rules | `(tactic| walk_at "lit") => `(tactic| first
  | with_reducible exact ev_strL l_ATOM_SIGNS_eq
  | with_reducible exact ev_strL lit_nil)
theorem c_is_atom (T : Tx K mg) : C8.Cal P w K mg base 2 "is_atom" (spP (α := List Nat) (fun a => [.str a]) (fun a => a.length ≤ 100000) (fun a d => d = .bl (isAtom a))) [] :=
  have c_is_of := c_is_of (P := P) (w := w) (base := base) T
  cal_P T.d_is_atom sc_is_atom (fun _ => rfl) (by decide) (fun _ _ _ _ _ _ us hl => match us, hl with | [_], _ => rfl) (fun f cdv A outer s H E hr => ⟨_, (pss_cons (ps_ret (pe_and (pe_cmpR op_ne (pv 0) pe_str (by rfl)) (pe_one (C8.pe_c c_is_of hr (by decide) rfl (pa_cons (pv 0) (pa_cons (C8.pe_gc rfl T.k_ATOM_SIGNS) pa_nil))))))
    pss_nil), fun a ha => by
    show Dl.Run No _ [.dat (.str a)] _ _
    refine run_retV (ev_andV (by repeat' walk_at "ev") (fun _ => ed_call (a, l_ATOM_SIGNS) (by repeat' walk_at "ev") (sz (by simp only; omega)))) rfl⟩)
theorem escQ_repl (l : List Nat) : StrLaws.replL [34] [92, 34] (StrLaws.replL [92] [92, 92] l) = escQ l := by
  rw [Lrepl_one, Lrepl_one]
  unfold escQ
  rw [List.flatMap_assoc]
  congr 1
  funext c
  by_cases h1 : c = 92
  · subst h1
    rfl
  · by_cases h2 : c = 34
    · subst h2
      rfl
    · rw [if_neg h1, if_neg (by omega)]
      simp [h2]
theorem escQ_len (l : List Nat) : (escQ l).length ≤ 2 * l.length := by
  induction l with
  | nil => exact Nat.zero_le _
  | cons c r ih =>
    show ((if c = 34 ∨ c = 92 then [92, c] else [c]) ++ escQ r).length ≤ _
    rw [List.length_append, List.length_cons]
    split <;> simp <;> omega
theorem quotedIn_len (l : List Nat) : (quotedIn l).length ≤ 2 * l.length + 2 := by
  have := escQ_len l
  unfold quotedIn
  split
  · omega
  · simp
    omega
abbrev N_quoted_in : List PySem.Str := ["text"]
theorem sc_quoted_in : FnScope N_quoted_in ["text"] (defScope s_quoted_in) := ⟨rfl, rfl, rfl, by decide +kernel, rfl, by decide +kernel, by decide +kernel⟩
local macro_rules | `(tactic| walk_at "lit") => `(tactic| first
  | with_reducible exact ev_strL lit_22
  | with_reducible exact ev_strL lit_5c22
  | with_reducible exact ev_strL lit_5c
  | with_reducible exact ev_strL lit_5c5c)
theorem c_quoted_in (T : Tx K mg) : C8.Cal P w K mg base 3 "quoted_in" (spP (α := List Nat) (fun a => [.str a]) (fun a => a.length ≤ 100000) (fun a d => d = .str (quotedIn a))) [] :=
  have c_is_atom := c_is_atom (P := P) (w := w) (base := base) T
  cal_P T.d_quoted_in sc_quoted_in (fun _ => rfl) (by decide) (fun _ _ _ _ _ _ us hl => match us, hl with | [_], _ => rfl) (fun f cdv A outer s H E hr => ⟨_, (pss_cons (ps_if (pt_val (C8.pe_c c_is_atom hr (by decide) rfl (pa_cons (pv 0) pa_nil)))
    (pss_cons (ps_ret (pv 0))
    pss_nil)
    pss_nil)
    (pss_cons (ps_ret (pe_op op_addS (pe_opCT op_addS (CwR.pet_replT (CwR.pet_replC (pv 0)))) pe_str))
    pss_nil)), fun a ha => by
    show Dl.Run No _ [.dat (.str a)] _ _
    refine run_ifP (isAtom a = true) (eb_test (ed_call a (by repeat' walk_at "ev") ha)) Bool.decide_eq_true.symm (fun h => ?_) (fun h => run_skip ?_)
    · refine run_flat (run_retV (ev_dat rfl) ?_)
      unfold quotedIn
      rw [if_pos h]
    · have hl1 : (StrLaws.replL [92] [92, 92] a).length ≤ 2 * a.length := by
        rw [Lrepl_one]
        clear h ha hr
        induction a with
        | nil => exact Nat.zero_le _
        | cons c r ih =>
          rw [List.flatMap_cons, List.length_append, List.length_cons]
          split <;> simp only [List.length_cons, List.length_nil] <;> omega
      have hq := escQ_len a
      refine run_retV (d := .str ([34] ++ escQ a ++ [34])) (ev_op (ev_op (by repeat' walk_at "ev") (EvV.cast (ev_repl (c := 34) (z := [92, 34]) (ev_repl (c := 92) (z := [92, 92]) (ev_dat rfl) (by simp; omega)) (by simp; omega)) (by rw [escQ_repl])) (o_addS (sz (by simp; omega)))) (by repeat' walk_at "ev") (o_addS (sz (by simp; omega)))) ?_
      unfold quotedIn
      rw [if_neg h] <;> rfl⟩)
end
end Fk
namespace Fk
open PySem PySem.Spec PyProof.Rows L2 Dl Mr
local macro_rules | `(tactic| walk_at "ev") => `(tactic| first
  | (with_reducible apply ev_dat) <;> rfl
  | with_reducible apply ev_int
  | with_reducible apply ev_bl
  | with_reducible apply ev_non
  | walk_at "lit"
  | with_reducible apply ev_str
  | with_reducible apply eb_test
  | with_reducible apply eb_B
  | with_reducible apply ev_op
  | with_reducible apply o_add
  | with_reducible apply o_sub
  | with_reducible apply o_mul
  | with_reducible apply o_fdiv
  | with_reducible apply o_fdivW
  | with_reducible apply o_mod
  | with_reducible apply o_lt
  | with_reducible apply o_le
  | with_reducible apply o_gt
  | with_reducible apply o_ge
  | with_reducible apply o_eqI
  | with_reducible apply o_neI
  | with_reducible apply o_eqS
  | with_reducible apply o_neS
  | with_reducible apply o_neInts
  | with_reducible apply o_neNil
  | with_reducible apply o_eqNil
  | with_reducible apply o_eqInts
  | with_reducible apply o_addS
  | with_reducible apply o_in1
  | with_reducible apply o_ni1
  | with_reducible apply o_inS
  | with_reducible apply o_mulS
  | with_reducible apply ea_nil
  | with_reducible apply ea_cons
  | with_reducible apply ev_tup
  | with_reducible apply ev_lst
  | with_reducible apply eb_not
  | with_reducible apply eb_and
  | with_reducible apply eb_or
  | with_reducible apply ev_andV
  | with_reducible apply ev_orV
  | with_reducible apply ev_notV
  | with_reducible apply ev_chain
  | with_reducible apply ev_neg
  | with_reducible apply ev_slS
  | with_reducible apply ev_slL
  | with_reducible apply eo_none
  | with_reducible apply eo_some
  | with_reducible apply ev_cb
  | with_reducible apply cd_lenT
  | with_reducible apply cd_lenL
  | with_reducible apply cd_int
  | with_reducible apply cd_max
  | with_reducible apply cd_min
  | with_reducible apply ev_bm
  | with_reducible apply ev_bm0
  | with_reducible apply md_strip
  | with_reducible apply md_rstrip
  | with_reducible apply md_find
  | with_reducible apply md_index
  | with_reducible apply md_starts
  | with_reducible apply md_lower
  | with_reducible apply md_upper
  | with_reducible apply ei_str
  | with_reducible apply ei_list
  | with_reducible exact sz1 rfl
  | with_reducible exact Nat.le_of_ble_eq_true rfl
  | ((with_reducible apply cmulL) <;> decide)
  | ((with_reducible apply cmulR) <;> decide)
  | ((with_reducible apply cdiv) <;> decide)
  | ((with_reducible show (0 : Int) < _) <;> decide)
  | (with_reducible intro _hyp))

section
variable {P : Program} {w : World} {K : PySem.W.Frag} {mg : PySem.Str → Option Value} {base : Heap}
structure One where
  say : List Int
  loc : List Nat
  hou : List Nat
def sOne : List Nat := [111, 110, 101]
def sGroup : List Nat := [103, 114, 111, 117, 112]
def One.d (o : One) : D := .tup [.str sOne, .lst (o.say.map .int), .str o.loc, .str o.hou]
inductive Adr where
  | one (o : One) | grp (s : List Int) (ms : List One)
def Adr.d : Adr → D
  | .one o => o.d
  | .grp s ms => .tup [.str sGroup, .lst (s.map .int), .lst (ms.map One.d)]
def LabelOk (l : List Nat) : Prop := (1 ≤ l.length ∧ l.length ≤ 20) ∧ (l.all fun c => decide (c ∈ l_HOUSE_SIGNS)) = true ∧ l.head? ≠ some 45 ∧ l.getLast? ≠ some 45
def HouseOk (l : List Nat) : Prop := 10 ∉ l ∧ l.length ≤ 1000 ∧ (TL.spl [46] 0 [] l).length ≤ 1000 ∧ ∀ p ∈ TL.spl [46] 0 [] l, LabelOk p
def LocOk (l : List Nat) : Prop := 10 ∉ l ∧ 1 ≤ l.length ∧ l.length ≤ 40
def SayOk (s : List Int) : Prop := s.length ≤ 200 ∧ ∀ n ∈ s, 32 ≤ n ∧ n ≤ 65535
def OneOk (o : One) : Prop := SayOk o.say ∧ LocOk o.loc ∧ HouseOk o.hou
def AdrOk : Adr → Prop
  | .one o => OneOk o
  | .grp s ms => SayOk s ∧ s ≠ [] ∧ ms.length ≤ 3 ∧ ∀ o ∈ ms, OneOk o
theorem SayOk.ok {s : List Int} (h : SayOk s) : saysOk s := ⟨by have := h.1; omega, h.2⟩
abbrev N_is_local : List PySem.Str := ["thing"]
theorem sc_is_local : FnScope N_is_local ["thing"] (defScope s_is_local) := ⟨rfl, rfl, rfl, by decide +kernel, rfl, by decide +kernel, by decide +kernel⟩
theorem c_is_local (T : Tx K mg) : C8.Cal P w K mg base 2 "is_local" (spP (α := List Nat) (fun a => [.str a]) (fun a => LocOk a) (fun a d => d = .bl true)) [] :=
  have c_is_line := c_is_line (P := P) (w := w) (base := base) T
  cal_P T.d_is_local sc_is_local (fun _ => rfl) (by decide) (fun _ _ _ _ _ _ us hl => match us, hl with | [_], _ => rfl) (fun f cdv A outer s H E hr => ⟨_, (pss_cons (ps_ret (pe_and (C8.pe_c c_is_line hr (by decide) rfl (pa_cons (pv 0) pa_nil)) (pe_one (pe_chain op_le op_le pe_int (pe_callB cl_lenT (by rfl) T.n_len boot_len (pa_cons (pv 0) pa_nil)) (C8.pe_gc rfl T.k_MOST_OF_LOCAL)))))
    pss_nil), fun a ha => by
    show Dl.Run No _ [.dat (.str a)] _ _
    obtain ⟨h1, h2, h3⟩ := ha
    refine run_retV (ev_andV (ed_call a (by repeat' walk_at "ev") trivial) (fun _ => by
      repeat' walk_at "ev"
      exact sz (by omega))) ?_
    rw [decide_eq_false h1, decide_eq_true (by omega), decide_eq_true (by omega)]
    rfl⟩)
abbrev N_is_label : List PySem.Str := ["text"]
theorem sc_is_label : FnScope N_is_label ["text"] (defScope s_is_label) := ⟨rfl, rfl, rfl, by decide +kernel, rfl, by decide +kernel, by decide +kernel⟩
local macro_rules | `(tactic| walk_at "lit") => `(tactic| first
  | with_reducible exact ev_strL l_HOUSE_SIGNS_eq
  | with_reducible exact ev_strL lit_2d)
theorem c_is_label (T : Tx K mg) : C8.Cal P w K mg base 2 "is_label" (spP (α := List Nat) (fun a => [.str a]) (fun a => LabelOk a) (fun a d => d = .bl true)) [] :=
  have c_is_of := c_is_of (P := P) (w := w) (base := base) T
  cal_P T.d_is_label sc_is_label (fun _ => rfl) (by decide) (fun _ _ _ _ _ _ us hl => match us, hl with | [_], _ => rfl) (fun f cdv A outer s H E hr => ⟨_, (pss_cons (ps_if (PW.pt (pw_or (pt_not (pt_chain op_le op_le pe_int (pe_callB cl_lenT (by rfl) T.n_len boot_len (pa_cons (pv 0) pa_nil)) (C8.pe_gc rfl T.k_MOST_OF_LABEL))) (pw_or1 (pt_not (pt_val (C8.pe_c c_is_of hr (by decide) rfl (pa_cons (pv 0) (pa_cons (C8.pe_gc rfl T.k_HOUSE_SIGNS) pa_nil))))))))
    (pss_cons (ps_ret pe_bl)
    pss_nil)
    pss_nil)
    (pss_cons (ps_ret (pe_and (pe_cmpR op_ne (pe_ix ix_str (pv 0) pe_int (fun _ _ => rfl)) pe_str (by rfl)) (pe_one (pe_cmpR op_ne (pe_ix ix_str (pv 0) (pe_un un_neg pe_int) (fun _ _ => rfl)) pe_str (by rfl)))))
    pss_nil)), fun a ha => by
    show Dl.Run No _ [.dat (.str a)] _ _
    obtain ⟨⟨h1, h2⟩, h3, h4, h5⟩ := ha
    refine run_no (EvB.cast (eb_or (b := false) (eb_not (by
      repeat' walk_at "ev"
      exact sz (by omega))) (fun _ => eb_not (b := true) (eb_test (EvV.cast (ed_call (a, l_HOUSE_SIGNS) (by repeat' walk_at "ev") (sz (by simp only; omega))) (by rw [h3]))))) ?_) (run_skip ?_)
    · rw [decide_eq_true (by omega), decide_eq_true (by omega)]
      rfl
    · cases a with
      | nil => simp at h1
      | cons c r =>
        have hlast : ∃ x, (c :: r).getLast? = some x := ⟨_, List.getLast?_eq_some_getLast (by simp)⟩
        obtain ⟨x, hx⟩ := hlast
        rw [hx] at h5
        refine run_retV (ev_andV (ev_op (ev_op (ev_dat rfl) ev_int (o_ixS (c := c) (Dl.atI_int (by decide) rfl) (sz (by omega)))) (by repeat' walk_at "ev") o_neS) (fun _ => ev_op (ev_op (ev_dat rfl) (ev_neg ev_int) (o_ixS (atI_last hx) (sz (by omega)))) (by repeat' walk_at "ev") o_neS)) ?_
        rw [decide_eq_false (by intro z; exact h4 (by rw [List.head?_cons]; exact congrArg some (List.cons.inj z).1)), decide_eq_false (by intro z; exact h5 (congrArg some (List.cons.inj z).1))]
        rfl⟩)
theorem all_true {α : Type} (l : List α) : (l.map fun _ => true).all id = true := by
  rw [List.all_eq_true]
  intro b hb
  obtain ⟨_, _, rfl⟩ := List.mem_map.mp hb
  rfl
abbrev N_is_house : List PySem.Str := ["thing", "label"]
theorem sc_is_house : FnScope N_is_house ["thing"] (defScope s_is_house) := ⟨rfl, rfl, rfl, by decide +kernel, rfl, by decide +kernel, by decide +kernel⟩
local macro_rules | `(tactic| walk_at "lit") => `(tactic| first
  | with_reducible exact ev_strL lit_2e)
theorem c_is_house (T : Tx K mg) : C8.Cal P w K mg base 3 "is_house" (spP (α := List Nat) (fun a => [.str a]) (fun a => HouseOk a) (fun a d => d = .bl true)) [] :=
  have c_is_line := c_is_line (P := P) (w := w) (base := base) T
  have c_is_label := c_is_label (P := P) (w := w) (base := base) T
  cal_P T.d_is_house sc_is_house (fun _ => rfl) (by decide) (fun _ _ _ _ _ _ us hl => match us, hl with | [_], _ => rfl) (fun f cdv A outer s H E hr => ⟨_, (pss_cons (ps_ret (pe_and (C8.pe_c c_is_line hr (by decide) rfl (pa_cons (pv 0) pa_nil)) (pe_one (pe_callB (id := "all") (cr_all rfl) (by rfl) T.n_all (by decide +kernel) (pa_cons (pe_lc (own := [("label", 1)]) (g := gName 1) rfl sc_is_house.nd (pi_list (pe_bm PySem.F.plainAttrs_str PySem.F.slot_str_split PySem.F.type_str_split m_split (pv 0) (pa_cons pe_str pa_nil))) (blkOk_by (own := [("label", 1)]) (N := N_is_house) (sc := defScope s_is_house) (by decide +kernel)) (fun _ _ _ _ _ => pg_name (i := 1) sc_is_house.nd rfl (Or.inl rfl)) (fun _ _ _ _ _ => pts_nil) (fun _ _ _ _ _ => (C8.pe_c c_is_label hr (by decide) rfl (pa_cons (pv 1) pa_nil)))) pa_nil)))))
    pss_nil), fun a ha => by
    show Dl.Run No _ [.dat (.str a), .no] _ _
    obtain ⟨h1, h2, h3, h4⟩ := ha
    refine run_retV (ev_andV (b := true) (ed_call a (by repeat' walk_at "ev") trivial) (fun _ => EvV.cast (ev_cb (ea_cons (EvF.v (ef_lcM (TL.spl [46] 0 [] a) (fun l => .str l) (fun _ => .bl true) (ei_list (EvF.v (ef_split (ev_dat rfl) (by repeat' walk_at "ev") (by decide) (by have := sz (n := 1002) (by decide); omega)))) (fun l hl => ed_call l (by repeat' walk_at "ev") (h4 l hl)) (sz (by omega)))) ea_nil) (ClV.cast (cd_all (bs := (TL.spl [46] 0 [] a).map fun _ => true)) (by rw [List.map_map] <;> rfl))) (congrArg D.bl (all_true _)))) ?_
    rw [decide_eq_false h1]
    rfl⟩)
def Adr.isOne : Adr → Bool
  | .one _ => true
  | .grp _ _ => false
abbrev N_is_one : List PySem.Str := ["thing"]
theorem sc_is_one : FnScope N_is_one ["thing"] (defScope s_is_one) := ⟨rfl, rfl, rfl, by decide +kernel, rfl, by decide +kernel, by decide +kernel⟩
local macro_rules | `(tactic| walk_at "lit") => `(tactic| first
  | with_reducible exact ev_strL lit_6f6e65)
theorem c_is_one (T : Tx K mg) : C8.Cal P w K mg base 4 "is_one" (spP (α := Adr) (fun a => [a.d]) (fun a => AdrOk a) (fun a d => d = .bl a.isOne)) [] :=
  have c_is_saying := c_is_saying (P := P) (w := w) (base := base) T
  have c_is_local := c_is_local (P := P) (w := w) (base := base) T
  have c_is_house := c_is_house (P := P) (w := w) (base := base) T
  cal_P T.d_is_one sc_is_one (fun _ => rfl) (by decide) (fun _ _ _ _ _ _ us hl => match us, hl with | [_], _ => rfl) (fun f cdv A outer s H E hr => ⟨_, (pss_cons (ps_if (PW.pt (pw_or (pt_not (pt_val (pe_callB (id := "isinstance") call_isi (by rfl) T.n_isinstance (by decide +kernel) (pa_cons (pv 0) (pa_cons (pe_bltn (v := V.ty "tuple") (u := Value.type "tuple") (by rfl) T.n_tuple (by decide +kernel) rfl) pa_nil))))) (pw_or (pt_cmpR op_ne (pe_callB cl_lenL (by rfl) T.n_len boot_len (pa_cons (pv 0) pa_nil)) pe_int (by rfl)) (pw_or1 (pt_cmpR op_ne (pe_ix ix_tup (pv 0) pe_int (fun _ _ => rfl)) pe_str (by rfl))))))
    (pss_cons (ps_ret pe_bl)
    pss_nil)
    pss_nil)
    (pss_cons (ps_ret (pe_and (C8.pe_c c_is_saying hr (by decide) rfl (pa_cons (pe_ix ix_tup (pv 0) pe_int (fun _ _ => rfl)) pa_nil)) (pe_and (C8.pe_c c_is_local hr (by decide) rfl (pa_cons (pe_ix ix_tup (pv 0) pe_int (fun _ _ => rfl)) pa_nil)) (pe_one (C8.pe_c c_is_house hr (by decide) rfl (pa_cons (pe_ix ix_tup (pv 0) pe_int (fun _ _ => rfl)) pa_nil))))))
    pss_nil)), fun a ha => by
    show Dl.Run No _ [.dat a.d] _ _
    cases a with
    | one o =>
      obtain ⟨h1, h2, h3⟩ := ha
      refine run_no (EvB.cast (eb_or (a := false) (eb_not (b := true) (eb_test (ev_isi (ev_dat rfl) (fun z => nomatch z) rfl))) (fun _ => eb_or (a := false) (eb_B (EvV.cast (ev_op (ev_cb (ea_cons (ev_dat rfl) ea_nil) cd_lenU) ev_int o_neI) rfl)) (fun _ => eb_B (ev_op (x := .str sOne) (ev_op (ev_dat rfl) ev_int (o_ixT rfl)) (by repeat' walk_at "ev") o_neS)))) rfl) (run_skip ?_)
      refine run_retV (ev_andV (a := true) (b := true) (EvV.cast (ed_call o.say (ea_cons (ev_op (ev_dat rfl) ev_int (o_ixT rfl)) ea_nil) (by have := h1.1; omega)) ?_) (fun _ => ev_andV (a := true) (b := true) (ed_call o.loc (ea_cons (ev_op (ev_dat rfl) ev_int (o_ixT rfl)) ea_nil) h2) (fun _ => ed_call o.hou (ea_cons (ev_op (ev_dat rfl) ev_int (o_ixT rfl)) ea_nil) h3))) rfl
      refine congrArg D.bl ?_
      unfold isSay
      rw [List.all_eq_true]
      intro n hn
      have := h1.2 n hn
      rw [decide_eq_true this.1, decide_eq_true this.2]
      rfl
    | grp s ms =>
      refine run_yes (EvB.cast (eb_or (a := false) (b := true) (eb_not (b := true) (eb_test (ev_isi (ev_dat rfl) (fun z => nomatch z) rfl))) (fun _ => eb_or (a := true) (b := true) (eb_B (EvV.cast (ev_op (ev_cb (ea_cons (ev_dat rfl) ea_nil) cd_lenU) ev_int o_neI) rfl)) (fun z => by cases z))) rfl) ?_
      exact run_flat (run_retV ev_bl rfl)⟩)
abbrev N_is_group : List PySem.Str := ["thing", "one"]
theorem sc_is_group : FnScope N_is_group ["thing"] (defScope s_is_group) := ⟨rfl, rfl, rfl, by decide +kernel, rfl, by decide +kernel, by decide +kernel⟩
local macro_rules | `(tactic| walk_at "lit") => `(tactic| first
  | with_reducible exact ev_strL lit_67726f7570)
theorem c_is_group (T : Tx K mg) : C8.Cal P w K mg base 5 "is_group" (spP (α := List Int × List One) (fun a => [(Adr.grp a.1 a.2).d]) (fun a => AdrOk (.grp a.1 a.2)) (fun a d => d = .bl true)) [] :=
  have c_is_saying := c_is_saying (P := P) (w := w) (base := base) T
  have c_is_one := c_is_one (P := P) (w := w) (base := base) T
  cal_P T.d_is_group sc_is_group (fun _ => rfl) (by decide) (fun _ _ _ _ _ _ us hl => match us, hl with | [_], _ => rfl) (fun f cdv A outer s H E hr => ⟨_, (pss_cons (ps_if (PW.pt (pw_or (pt_not (pt_val (pe_callB (id := "isinstance") call_isi (by rfl) T.n_isinstance (by decide +kernel) (pa_cons (pv 0) (pa_cons (pe_bltn (v := V.ty "tuple") (u := Value.type "tuple") (by rfl) T.n_tuple (by decide +kernel) rfl) pa_nil))))) (pw_or (pt_cmpR op_ne (pe_callB cl_lenL (by rfl) T.n_len boot_len (pa_cons (pv 0) pa_nil)) pe_int (by rfl)) (pw_or1 (pt_cmpR op_ne (pe_ix ix_tup (pv 0) pe_int (fun _ _ => rfl)) pe_str (by rfl))))))
    (pss_cons (ps_ret pe_bl)
    pss_nil)
    pss_nil)
    (pss_cons (ps_if (PW.pt (pw_or (pt_not (pt_val (C8.pe_c c_is_saying hr (by decide) rfl (pa_cons (pe_ix ix_tup (pv 0) pe_int (fun _ _ => rfl)) pa_nil)))) (pw_or (pt_cmpR (op_eqD hr.units) (pe_ix ix_tup (pv 0) pe_int (fun _ _ => rfl)) (pe_lst pa_nil) (by rfl)) (pw_or1 (pt_not (pt_val (pe_callB (id := "isinstance") call_isi (by rfl) T.n_isinstance (by decide +kernel) (pa_cons (pe_ix ix_tup (pv 0) pe_int (fun _ _ => rfl)) (pa_cons (pe_bltn (v := V.ty "list") (u := Value.type "list") (by rfl) T.n_list (by decide +kernel) rfl) pa_nil)))))))))
    (pss_cons (ps_ret pe_bl)
    pss_nil)
    pss_nil)
    (pss_cons (ps_ret (pe_callB (id := "all") (cr_all rfl) (by rfl) T.n_all (by decide +kernel) (pa_cons (pe_lc (own := [("one", 1)]) (g := gName 1) rfl sc_is_group.nd (pi_list (pe_ix ix_tup (pv 0) pe_int (fun _ _ => rfl))) (blkOk_by (own := [("one", 1)]) (N := N_is_group) (sc := defScope s_is_group) (by decide +kernel)) (fun _ _ _ _ _ => pg_name (i := 1) sc_is_group.nd rfl (Or.inl rfl)) (fun _ _ _ _ _ => pts_nil) (fun _ _ _ _ _ => (C8.pe_c c_is_one hr (by decide) rfl (pa_cons (pv 1) pa_nil)))) pa_nil)))
    pss_nil))), fun a ha => by
    obtain ⟨s, ms⟩ := a
    obtain ⟨h1, h2, h3, h4⟩ := ha
    simp only at h1 h2 h3 h4
    show Dl.Run No _ [.dat (.tup [.str sGroup, .lst (s.map .int), .lst (ms.map One.d)]), .no] _ _
    have hsay : isSay s = true := by
      unfold isSay
      rw [List.all_eq_true]
      intro n hn
      have := h1.2 n hn
      rw [decide_eq_true this.1, decide_eq_true this.2]
      rfl
    refine run_no (EvB.cast (eb_or (a := false) (eb_not (b := true) (eb_test (ev_isi (ev_dat rfl) (fun z => nomatch z) rfl))) (fun _ => eb_or (a := false) (eb_B (EvV.cast (ev_op (ev_cb (ea_cons (ev_dat rfl) ea_nil) cd_lenU) ev_int o_neI) rfl)) (fun _ => eb_B (ev_op (x := .str sGroup) (ev_op (ev_dat rfl) ev_int (o_ixT rfl)) (by repeat' walk_at "ev") o_neS)))) rfl) (run_skip ?_)
    refine run_no (EvB.cast (eb_or (a := false) (b := false) (eb_not (b := true) (eb_test (EvV.cast (ed_call s (ea_cons (ev_op (ev_dat rfl) ev_int (o_ixT rfl)) ea_nil) (by have := h1.1; omega)) (congrArg D.bl hsay)))) (fun _ => eb_or (a := false) (b := false) (eb_B (EvV.cast (ev_op (x := .lst (s.map .int)) (ev_op (ev_dat rfl) ev_int (o_ixT rfl)) (ev_lst ea_nil (sz1 rfl)) o_eqNil) (congrArg D.bl (decide_eq_false h2)))) (fun _ => eb_not (b := true) (eb_test (ev_isi (d := .lst (ms.map One.d)) (ev_op (ev_dat rfl) ev_int (o_ixT rfl)) (fun z => nomatch z) rfl))))) rfl) (run_skip ?_)
    exact run_retV (EvV.cast (ev_cb (ea_cons (EvF.v (ef_lcM ms One.d (fun _ => .bl true) (ei_list (ev_op (ev_dat rfl) ev_int (o_ixT rfl))) (fun o ho => ed_call (Adr.one o) (by repeat' walk_at "ev") (h4 o ho)) (sz (by omega)))) ea_nil) (ClV.cast (cd_all (bs := ms.map fun _ => true)) (by rw [List.map_map] <;> rfl))) (congrArg D.bl (all_true _))) rfl⟩)
end
end Fk
namespace Fk
open PySem PySem.Spec PyProof.Rows L2 Dl Mr
local macro_rules | `(tactic| walk_at "ev") => `(tactic| first
  | (with_reducible apply ev_dat) <;> rfl
  | with_reducible apply ev_int
  | with_reducible apply ev_bl
  | with_reducible apply ev_non
  | walk_at "lit"
  | with_reducible apply ev_str
  | with_reducible apply eb_test
  | with_reducible apply eb_B
  | with_reducible apply ev_op
  | with_reducible apply o_add
  | with_reducible apply o_sub
  | with_reducible apply o_mul
  | with_reducible apply o_fdiv
  | with_reducible apply o_fdivW
  | with_reducible apply o_mod
  | with_reducible apply o_lt
  | with_reducible apply o_le
  | with_reducible apply o_gt
  | with_reducible apply o_ge
  | with_reducible apply o_eqI
  | with_reducible apply o_neI
  | with_reducible apply o_eqS
  | with_reducible apply o_neS
  | with_reducible apply o_neInts
  | with_reducible apply o_neNil
  | with_reducible apply o_eqNil
  | with_reducible apply o_eqInts
  | with_reducible apply o_addS
  | with_reducible apply o_in1
  | with_reducible apply o_ni1
  | with_reducible apply o_inS
  | with_reducible apply o_mulS
  | with_reducible apply ea_nil
  | with_reducible apply ea_cons
  | with_reducible apply ev_tup
  | with_reducible apply ev_lst
  | with_reducible apply eb_not
  | with_reducible apply eb_and
  | with_reducible apply eb_or
  | with_reducible apply ev_andV
  | with_reducible apply ev_orV
  | with_reducible apply ev_notV
  | with_reducible apply ev_chain
  | with_reducible apply ev_neg
  | with_reducible apply ev_slS
  | with_reducible apply ev_slL
  | with_reducible apply eo_none
  | with_reducible apply eo_some
  | with_reducible apply ev_cb
  | with_reducible apply cd_lenT
  | with_reducible apply cd_lenL
  | with_reducible apply cd_int
  | with_reducible apply cd_max
  | with_reducible apply cd_min
  | with_reducible apply ev_bm
  | with_reducible apply ev_bm0
  | with_reducible apply md_strip
  | with_reducible apply md_rstrip
  | with_reducible apply md_find
  | with_reducible apply md_index
  | with_reducible apply md_starts
  | with_reducible apply md_lower
  | with_reducible apply md_upper
  | with_reducible apply ei_str
  | with_reducible apply ei_list
  | with_reducible exact sz1 rfl
  | with_reducible exact Nat.le_of_ble_eq_true rfl
  | ((with_reducible apply cmulL) <;> decide)
  | ((with_reducible apply cmulR) <;> decide)
  | ((with_reducible apply cdiv) <;> decide)
  | ((with_reducible show (0 : Int) < _) <;> decide)
  | (with_reducible intro _hyp))

section
variable {P : Program} {w : World} {K : PySem.W.Frag} {mg : PySem.Str → Option Value} {base : Heap}
theorem wordsGo_lens (c : Nat) : ∀ (r g : List Int), (∀ n ∈ r, 32 ≤ n ∧ n ≤ 65535) → lens (wordsGo c g r) ≤ 10 * (g.length + 3 * r.length) + 30 * (r.length + 1) ∧ (wordsGo c g r).length ≤ r.length + 1
  | [], g, _ => by
    have := codedWord_len g c
    refine ⟨?_, Nat.le_refl _⟩
    show lens [codedWord g c] ≤ _
    simp only [lens, List.map_cons, List.map_nil, List.sum_cons, List.sum_nil, List.length_nil]
    omega
  | s :: r, g, h3 => by
    have o1 := (octs_signOctets (n := s) (by have := h3 s (List.mem_cons_self ..); omega)).1
    have h4 := codedWord_len g c
    simp only [wordsGo]
    split
    · obtain ⟨i1, i2⟩ := wordsGo_lens c r (signOctets s) (fun n hn => h3 n (List.mem_cons_of_mem _ hn))
      refine ⟨?_, by rw [List.length_cons, List.length_cons]; omega⟩
      unfold lens at i1 ⊢
      rw [List.map_cons, List.sum_cons, List.length_cons]
      omega
    · obtain ⟨i1, i2⟩ := wordsGo_lens c r (g ++ signOctets s) (fun n hn => h3 n (List.mem_cons_of_mem _ hn))
      rw [List.length_append] at i1
      rw [List.length_cons]
      omega
theorem wordsBy_len2 {a : List Int} (c : Nat) (h : SayOk a) : (wordsBy a c).length ≤ 13000 := by
  obtain ⟨i1, i2⟩ := wordsGo_lens c a [] h.2
  have := joinL_len [32] (wordsGo c [] a)
  have h3 := h.1
  unfold wordsBy
  simp only [List.length_cons, List.length_nil] at this i1
  omega
theorem plainOf_some {a : List Int} {t : List Nat} (h : plainOf a = some t) : (∀ n ∈ a, isSign n = true) ∧ t = a.map (·.toNat) ∧ t = stripC 32 t ∧ inL [61, 63] t = false := by
  unfold plainOf at h
  split at h
  · next ha =>
    split at h
    · cases h
    · next hn =>
      have := Option.some.inj h
      subst this
      refine ⟨List.all_eq_true.mp ha, rfl, ?_, ?_⟩
      · exact Classical.not_not.mp fun z => hn (.inl z)
      · cases hi : inL [61, 63] (a.map (·.toNat)) with
        | false => rfl
        | true => exact absurd (.inr hi) hn
  · cases h
theorem codedIn_len2 {a : List Int} (h : SayOk a) : (codedIn a).length ≤ 13000 := by
  have h1 := wordsBy_len2 109 h
  have h2 := wordsBy_len2 115 h
  have h3 := h.1
  unfold codedIn
  split
  · next t ht =>
    rw [(plainOf_some ht).2.1, List.length_map]
    omega
  · split <;> assumption
def phraseOf (s : List Int) : List Nat := match plainOf s with
  | none => codedIn s
  | some t => quotedIn t
theorem phraseOf_len {a : List Int} (h : SayOk a) : (phraseOf a).length ≤ 13000 := by
  have h1 := codedIn_len2 h
  have h3 := h.1
  unfold phraseOf
  split
  · exact h1
  · next t ht =>
    have h2 := quotedIn_len t
    rw [(plainOf_some ht).2.1, List.length_map] at h2
    rw [(plainOf_some ht).2.1]
    omega
abbrev N_phrase_of : List PySem.Str := ["saying", "text"]
theorem sc_phrase_of : FnScope N_phrase_of ["saying"] (defScope s_phrase_of) := ⟨rfl, rfl, rfl, by decide +kernel, rfl, by decide +kernel, by decide +kernel⟩
theorem c_phrase_of (T : Tx K mg) : C8.Cal P w K mg base 6 "phrase_of" (spP (α := List Int) (fun a => [.lst (a.map .int)]) (fun a => SayOk a) (fun a d => d = .str (phraseOf a))) [] :=
  have c_plain_of := c_plain_of (P := P) (w := w) (base := base) T
  have c_coded_in := c_coded_in (P := P) (w := w) (base := base) T
  have c_quoted_in := c_quoted_in (P := P) (w := w) (base := base) T
  cal_P T.d_phrase_of sc_phrase_of (fun _ => rfl) (by decide) (fun _ _ _ _ _ _ us hl => match us, hl with | [_], _ => rfl) (fun f cdv A outer s H E hr => ⟨_, (pss_cons (ps_set (i := 1) sc_phrase_of.nd rfl (Or.inl rfl) (C8.pe_c c_plain_of hr (by decide) rfl (pa_cons (pv 0) pa_nil)))
    (pss_cons (ps_if (pt_cmpR op_isN1 (pv 1) pe_non (by rfl))
    (pss_cons (ps_ret (C8.pe_c c_coded_in hr (by decide) rfl (pa_cons (pv 0) pa_nil)))
    pss_nil)
    pss_nil)
    (pss_cons (ps_ret (C8.pe_c c_quoted_in hr (by decide) rfl (pa_cons (pv 1) pa_nil)))
    pss_nil))), fun a ha => by
    show Dl.Run No _ [.dat (.lst (a.map .int)), .no] _ _
    refine run_set (ed_call a (by repeat' walk_at "ev") ha.ok.1) ?_
    show Dl.Run No _ [.dat (.lst (a.map .int)), .dat (optS (plainOf a))] _ _
    have hpo : phraseOf a = match plainOf a with
      | none => codedIn a
      | some t => quotedIn t := rfl
    rw [hpo]
    cases hp : plainOf a with
    | none =>
      refine run_yes (eb_B (ev_op (ev_dat rfl) ev_non (o_isN fun _ _ r => isN_non r))) ?_
      exact run_flat (run_retV (ed_call a (by repeat' walk_at "ev") ha.ok) rfl)
    | some t =>
      have ht : t.length ≤ 200 := by
        rw [(plainOf_some hp).2.1, List.length_map]
        exact ha.1
      refine run_no (eb_B (ev_op (ev_dat rfl) ev_non (o_isN fun _ _ r => isN_str r))) (run_skip ?_)
      exact run_retV (ed_call t (by repeat' walk_at "ev") (by omega)) rfl⟩)
def specOf (o : One) : List Nat := quotedIn o.loc ++ [64] ++ o.hou
def showOne (o : One) : List Nat := if o.say = [] then specOf o else phraseOf o.say ++ [32, 60] ++ specOf o ++ [62]
theorem specOf_len {o : One} (h : OneOk o) : (specOf o).length ≤ 1100 := by
  have h1 := quotedIn_len o.loc
  have h2 := h.2.1.2.2
  have h3 := h.2.2.2.1
  unfold specOf
  simp
  omega
theorem showOne_len {o : One} (h : OneOk o) : (showOne o).length ≤ 14200 := by
  have h1 := specOf_len h
  have h2 := phraseOf_len h.1
  unfold showOne
  split
  · omega
  · simp
    omega
abbrev N_show_one : List PySem.Str := ["one", "word", "saying", "local", "house", "spec"]
theorem sc_show_one : FnScope N_show_one ["one"] (defScope s_show_one) := ⟨rfl, rfl, rfl, by decide +kernel, rfl, by decide +kernel, by decide +kernel⟩
local macro_rules | `(tactic| walk_at "lit") => `(tactic| first
  | with_reducible exact ev_strL lit_3e
  | with_reducible exact ev_strL lit_40
  | with_reducible exact ev_strL lit_203c)
theorem c_show_one (T : Tx K mg) : C8.Cal P w K mg base 7 "show_one" (spP (α := One) (fun a => [a.d]) (fun a => OneOk a) (fun a d => d = .str (showOne a))) [] :=
  have c_quoted_in := c_quoted_in (P := P) (w := w) (base := base) T
  have c_phrase_of := c_phrase_of (P := P) (w := w) (base := base) T
  cal_P T.d_show_one sc_show_one (fun _ => rfl) (by decide) (fun _ _ _ _ _ _ us hl => match us, hl with | [_], _ => rfl) (fun f cdv A outer s H E hr => ⟨_, (pss_cons (ps_asg (pv 0) (pg_tup rfl (pgs_cons (pg_name (i := 1) sc_show_one.nd rfl (Or.inl rfl)) (pgs_cons (pg_name (i := 2) sc_show_one.nd rfl (Or.inl rfl)) (pgs_cons (pg_name (i := 3) sc_show_one.nd rfl (Or.inl rfl)) (pgs_cons (pg_name (i := 4) sc_show_one.nd rfl (Or.inl rfl)) pgs_nil))))))
    (pss_cons (ps_set (i := 5) sc_show_one.nd rfl (Or.inl rfl) (pe_op op_addS (pe_op op_addS (C8.pe_c c_quoted_in hr (by decide) rfl (pa_cons (pv 3) pa_nil)) pe_str) (pv 4)))
    (pss_cons (ps_if (pt_cmpR (op_eqD hr.units) (pv 2) (pe_lst pa_nil) (by rfl))
    (pss_cons (ps_ret (pv 5))
    pss_nil)
    pss_nil)
    (pss_cons (ps_ret (pe_op op_addS (pe_op op_addS (pe_op op_addS (C8.pe_c c_phrase_of hr (by decide) rfl (pa_cons (pv 2) pa_nil)) pe_str) (pv 5)) pe_str))
    pss_nil)))), fun a ha => by
    show Dl.Run No _ [.dat (.tup [.str sOne, .lst (a.say.map .int), .str a.loc, .str a.hou]), .no, .no, .no, .no, .no] _ _
    have h1 := quotedIn_len a.loc
    have h2 := ha.2.1.2.2
    have h3 := ha.2.2.2.1
    have h4 := specOf_len ha
    have h5 := phraseOf_len ha.1
    refine run_asg (ev_dat rfl) (fun d hd => ?_)
    subst hd
    refine ⟨_, tg_tup (tgs_cons tg_name (tgs_cons tg_name (tgs_cons tg_name (tgs_cons tg_name tgs_nil)))) rfl, ?_⟩
    show Dl.Run No _ [.dat (.tup [.str sOne, .lst (a.say.map .int), .str a.loc, .str a.hou]), .dat (.str sOne), .dat (.lst (a.say.map .int)), .dat (.str a.loc), .dat (.str a.hou), .no] _ _
    refine run_set (d := .str (specOf a)) (ev_op (ev_op (ed_call a.loc (by repeat' walk_at "ev") (by omega)) (by repeat' walk_at "ev") (o_addS (sz (by simp; omega)))) (by repeat' walk_at "ev") (o_addS (sz (by simp; omega)))) ?_
    show Dl.Run No _ [.dat (.tup [.str sOne, .lst (a.say.map .int), .str a.loc, .str a.hou]), .dat (.str sOne), .dat (.lst (a.say.map .int)), .dat (.str a.loc), .dat (.str a.hou), .dat (.str (specOf a))] _ _
    refine run_ifP (a.say = []) (eb_B (ev_op (ev_dat rfl) (ev_lst ea_nil (sz1 rfl)) o_eqNil)) rfl (fun h => ?_) (fun h => run_skip ?_)
    · refine run_flat (run_retV (ev_dat rfl) ?_)
      unfold showOne
      rw [if_pos h]
    · refine run_retV (ev_op (ev_op (ev_op (ed_call a.say (by repeat' walk_at "ev") ha.1) (by repeat' walk_at "ev") (o_addS (sz (by simp; omega)))) (by repeat' walk_at "ev") (o_addS (sz (by simp; omega)))) (by repeat' walk_at "ev") (o_addS (sz (by simp; omega)))) ?_
      unfold showOne
      rw [if_neg h]⟩)
def showSome (ms : List One) : List Nat := Mr.joinL [44, 32] (ms.map showOne)
def showAdr : Adr → List Nat
  | .one o => showOne o
  | .grp s ms => phraseOf s ++ [58] ++ (if showSome ms = [] then [] else [32]) ++ showSome ms ++ [59]
theorem showSome_len {ms : List One} (h : ms.length ≤ 3) (h2 : ∀ o ∈ ms, OneOk o) : (showSome ms).length ≤ 45000 ∧ lens (ms.map showOne) ≤ 142000 := by
  have h3 := lens_le (m := 14200) (ss := ms.map showOne) (fun s hs => by
    obtain ⟨o, ho, rfl⟩ := List.mem_map.mp hs
    exact showOne_len (h2 o ho))
  have h4 := joinL_len [44, 32] (ms.map showOne)
  rw [List.length_map] at h3 h4
  unfold showSome
  simp only [List.length_cons, List.length_nil] at h4
  omega
theorem showAdr_len {a : Adr} (h : AdrOk a) : (showAdr a).length ≤ 60000 := by
  cases a with
  | one o => exact Nat.le_trans (showOne_len h) (by decide)
  | grp s ms =>
    obtain ⟨h1, h2, h3, h4⟩ := h
    have h5 := (showSome_len h3 h4).1
    have h6 := phraseOf_len h1
    unfold showAdr
    simp only [List.length_append, List.length_cons, List.length_nil]
    split <;> simp <;> omega
abbrev N_show_address : List PySem.Str := ["address", "some", "one"]
theorem sc_show_address : FnScope N_show_address ["address"] (defScope s_show_address) := ⟨rfl, rfl, rfl, by decide +kernel, rfl, by decide +kernel, by decide +kernel⟩
local macro_rules | `(tactic| walk_at "lit") => `(tactic| first
  | with_reducible exact ev_strL lit_6f6e65
  | with_reducible exact ev_strL lit_3b
  | with_reducible exact ev_strL lit_2c20
  | with_reducible exact ev_strL lit_3a
  | with_reducible exact ev_strL lit_20
  | with_reducible exact ev_strL lit_nil)
theorem c_show_address (T : Tx K mg) : C8.Cal P w K mg base 8 "show_address" (spP (α := Adr) (fun a => [a.d]) (fun a => AdrOk a) (fun a d => d = .str (showAdr a))) [] :=
  have c_show_one := c_show_one (P := P) (w := w) (base := base) T
  have c_phrase_of := c_phrase_of (P := P) (w := w) (base := base) T
  cal_P T.d_show_address sc_show_address (fun _ => rfl) (by decide) (fun _ _ _ _ _ _ us hl => match us, hl with | [_], _ => rfl) (fun f cdv A outer s H E hr => ⟨_, (pss_cons (ps_if (pt_cmpR op_eq (pe_ix ix_tup (pv 0) pe_int (fun _ _ => rfl)) pe_str (by rfl))
    (pss_cons (ps_ret (C8.pe_c c_show_one hr (by decide) rfl (pa_cons (pv 0) pa_nil)))
    pss_nil)
    pss_nil)
    (pss_cons (ps_set (i := 1) sc_show_address.nd rfl (Or.inl rfl) (pe_bm PySem.F.plainAttrs_str PySem.F.slot_str_join PySem.F.type_str_join m_join pe_str (pa_cons (pe_lc (own := [("one", 2)]) (g := gName 2) rfl sc_show_address.nd (pi_list (pe_ix ix_tup (pv 0) pe_int (fun _ _ => rfl))) (blkOk_by (own := [("one", 2)]) (N := N_show_address) (sc := defScope s_show_address) (by decide +kernel)) (fun _ _ _ _ _ => pg_name (i := 2) sc_show_address.nd rfl (Or.inl rfl)) (fun _ _ _ _ _ => pts_nil) (fun _ _ _ _ _ => (C8.pe_c c_show_one hr (by decide) rfl (pa_cons (pv 2) pa_nil)))) pa_nil)))
    (pss_cons (ps_ret (pe_op op_addS (pe_op op_addS (pe_op op_addS (pe_op op_addS (C8.pe_c c_phrase_of hr (by decide) rfl (pa_cons (pe_ix ix_tup (pv 0) pe_int (fun _ _ => rfl)) pa_nil)) pe_str) (pe_op op_mulS pe_str (pe_callTy (T := "int") cl_int1 (by rfl) T.n_int (by decide +kernel) (pa_cons (pe_cmpR op_ne (pv 1) pe_str (by rfl)) pa_nil)))) (pv 1)) pe_str))
    pss_nil))), fun a ha => by
    show Dl.Run No _ [.dat a.d, .no, .no] _ _
    cases a with
    | one o =>
      refine run_yes (EvB.cast (eb_B (ev_op (x := .str sOne) (ev_op (ev_dat rfl) ev_int (o_ixT rfl)) (by repeat' walk_at "ev") o_eqS)) rfl) ?_
      exact run_flat (run_retV (ed_call o (by repeat' walk_at "ev") ha) rfl)
    | grp s ms =>
      obtain ⟨h1, h2, h3, h4⟩ := ha
      obtain ⟨h5, h7⟩ := showSome_len h3 h4
      have h6 := phraseOf_len h1
      refine run_no (EvB.cast (eb_B (ev_op (x := .str sGroup) (ev_op (ev_dat rfl) ev_int (o_ixT rfl)) (by repeat' walk_at "ev") o_eqS)) rfl) (run_skip ?_)
      refine run_set (d := .str (showSome ms)) (ev_bm (ys := [.lst ((ms.map showOne).map .str)]) (by repeat' walk_at "ev") (ea_cons (EvV.cast (EvF.v (ef_lcM ms One.d (fun o => .str (showOne o)) (ei_list (ev_op (ev_dat rfl) ev_int (o_ixT rfl))) (fun o ho => ed_call o (by repeat' walk_at "ev") (h4 o ho)) (sz (by omega)))) (by rw [List.map_map] <;> rfl)) ea_nil) (md_join (by rw [List.length_map]; simp; omega))) ?_
      show Dl.Run No _ [.dat (.tup [.str sGroup, .lst (s.map .int), .lst (ms.map One.d)]), .dat (.str (showSome ms)), .no] _ _
      have hd : (showAdr (.grp s ms)) = phraseOf s ++ [58] ++ (if showSome ms = [] then [] else [32]) ++ showSome ms ++ [59] := rfl
      rw [hd]
      generalize showSome ms = q at h5
      have htm : timesL [32] (if (!decide (q = [])) = true then 1 else 0) = if q = [] then [] else [32] := by
        by_cases hq : q = []
        · rw [if_pos hq, hq]
          rfl
        · rw [if_neg hq, decide_eq_false hq]
          rfl
      have hm : (if q = [] then [] else [32] : List Nat).length ≤ 1 := by split <;> simp
      refine run_retV (ev_op (ev_op (ev_op (ev_op (ed_call s (ea_cons (ev_op (ev_dat rfl) ev_int (o_ixT rfl)) ea_nil) h1) (by repeat' walk_at "ev") (o_addS (sz (by simp; omega)))) (EvV.cast (y := .str (if q = [] then [] else [32])) (ev_op (y := .int (if (!decide (q = [])) = true then 1 else 0)) (by repeat' walk_at "ev") (by repeat' walk_at "ev") (o_mulS (by split <;> decide) (by split <;> decide) (by decide))) (by rw [htm])) (o_addS (sz (by simp; omega)))) (by repeat' walk_at "ev") (o_addS (sz (by simp; omega)))) (by repeat' walk_at "ev") (o_addS (sz (by simp; omega)))) rfl⟩)
def showAll (as : List Adr) : List Nat := Mr.joinL [44, 32] (as.map showAdr)
def AdrsOk (as : List Adr) : Prop := as.length ≤ 4 ∧ ∀ a ∈ as, AdrOk a
theorem showAll_len {as : List Adr} (h : AdrsOk as) : (showAll as).length ≤ 250000 ∧ lens (as.map showAdr) ≤ 240000 := by
  have h3 := lens_le (m := 60000) (ss := as.map showAdr) (fun s hs => by
    obtain ⟨o, ho, rfl⟩ := List.mem_map.mp hs
    exact showAdr_len (h.2 o ho))
  have h4 := joinL_len [44, 32] (as.map showAdr)
  have h5 := h.1
  rw [List.length_map] at h3 h4
  unfold showAll
  simp only [List.length_cons, List.length_nil] at h4
  omega
abbrev N_show_addresses : List PySem.Str := ["addresses", "one"]
theorem sc_show_addresses : FnScope N_show_addresses ["addresses"] (defScope s_show_addresses) := ⟨rfl, rfl, rfl, by decide +kernel, rfl, by decide +kernel, by decide +kernel⟩
local macro_rules | `(tactic| walk_at "lit") => `(tactic| first
  | with_reducible exact ev_strL lit_6e6f20616464726573736573
  | with_reducible exact ev_strL lit_2c20)
theorem c_show_addresses (T : Tx K mg) : C8.Cal P w K mg base 9 "show_addresses" (spP (α := List Adr) (fun a => [.lst (a.map Adr.d)]) (fun a => AdrsOk a) (fun a d => d = .str (showAll a))) [] :=
  have c_is_one := c_is_one (P := P) (w := w) (base := base) T
  have c_is_group := c_is_group (P := P) (w := w) (base := base) T
  have c_show_address := c_show_address (P := P) (w := w) (base := base) T
  cal_P T.d_show_addresses sc_show_addresses (fun _ => rfl) (by decide) (fun _ _ _ _ _ _ us hl => match us, hl with | [_], _ => rfl) (fun f cdv A outer s H E hr => ⟨_, (pss_cons (ps_if (PW.pt (pw_or (pt_not (pt_val (pe_callB (id := "isinstance") call_isi (by rfl) T.n_isinstance (by decide +kernel) (pa_cons (pv 0) (pa_cons (pe_bltn (v := V.ty "list") (u := Value.type "list") (by rfl) T.n_list (by decide +kernel) rfl) pa_nil))))) (pw_or1 (pt_not (pt_val (pe_callB (id := "all") (cr_all rfl) (by rfl) T.n_all (by decide +kernel) (pa_cons (pe_lc (own := [("one", 1)]) (g := gName 1) rfl sc_show_addresses.nd (pi_list (pv 0)) (blkOk_by (own := [("one", 1)]) (N := N_show_addresses) (sc := defScope s_show_addresses) (by decide +kernel)) (fun _ _ _ _ _ => pg_name (i := 1) sc_show_addresses.nd rfl (Or.inl rfl)) (fun _ _ _ _ _ => pts_nil) (fun _ _ _ _ _ => (pe_or (C8.pe_c c_is_one hr (by decide) rfl (pa_cons (pv 1) pa_nil)) (pe_one (C8.pe_c c_is_group hr (by decide) rfl (pa_cons (pv 1) pa_nil)))))) pa_nil)))))))
    (pss_cons ps_never
    pss_nil)
    pss_nil)
    (pss_cons (ps_ret (pe_bm PySem.F.plainAttrs_str PySem.F.slot_str_join PySem.F.type_str_join m_join pe_str (pa_cons (pe_lc (own := [("one", 1)]) (g := gName 1) rfl sc_show_addresses.nd (pi_list (pv 0)) (blkOk_by (own := [("one", 1)]) (N := N_show_addresses) (sc := defScope s_show_addresses) (by decide +kernel)) (fun _ _ _ _ _ => pg_name (i := 1) sc_show_addresses.nd rfl (Or.inl rfl)) (fun _ _ _ _ _ => pts_nil) (fun _ _ _ _ _ => (C8.pe_c c_show_address hr (by decide) rfl (pa_cons (pv 1) pa_nil)))) pa_nil)))
    pss_nil)), fun a ha => by
    show Dl.Run No _ [.dat (.lst (a.map Adr.d)), .no] _ _
    obtain ⟨h5, h7⟩ := showAll_len ha
    have h8 := ha.1
    refine run_no (EvB.cast (eb_or (a := false) (b := false) (eb_not (b := true) (eb_test (ev_isi (ev_dat rfl) (fun z => nomatch z) rfl))) (fun _ => eb_not (b := true) (eb_test (EvV.cast (ev_cb (ea_cons (EvF.v (ef_lcM a Adr.d (fun _ => .bl true) (ei_list (ev_dat rfl)) (fun x hx => ?_) (sz (by omega)))) ea_nil) (ClV.cast (cd_all (bs := a.map fun _ => true)) (by rw [List.map_map] <;> rfl))) (congrArg D.bl (all_true _)))))) rfl) (run_skip ?_)
    · cases x with
      | one o => exact ev_orV (a := true) (b := true) (ed_call (Adr.one o) (by repeat' walk_at "ev") (ha.2 _ hx)) (fun z => by cases z)
      | grp s ms => exact ev_orV (a := false) (b := true) (ed_call (Adr.grp s ms) (by repeat' walk_at "ev") (ha.2 _ hx)) (fun _ => ed_call (s, ms) (by repeat' walk_at "ev") (ha.2 _ hx))
    · exact run_retV (ev_bm (ys := [.lst ((a.map showAdr).map .str)]) (by repeat' walk_at "ev") (ea_cons (EvV.cast (EvF.v (ef_lcM a Adr.d (fun o => .str (showAdr o)) (ei_list (ev_dat rfl)) (fun o ho => ed_call o (by repeat' walk_at "ev") (ha.2 o ho)) (sz (by omega)))) (by rw [List.map_map] <;> rfl)) ea_nil) (md_join (by rw [List.length_map]; simp; omega))) rfl⟩)
end
end Fk
namespace Fk
open PySem PySem.Spec PyProof.Rows L2 Dl Mr
local macro_rules | `(tactic| walk_at "ev") => `(tactic| first
  | (with_reducible apply ev_dat) <;> rfl
  | with_reducible apply ev_int
  | with_reducible apply ev_bl
  | with_reducible apply ev_non
  | walk_at "lit"
  | with_reducible apply ev_str
  | with_reducible apply eb_test
  | with_reducible apply eb_B
  | with_reducible apply ev_op
  | with_reducible apply o_add
  | with_reducible apply o_sub
  | with_reducible apply o_mul
  | with_reducible apply o_fdiv
  | with_reducible apply o_fdivW
  | with_reducible apply o_mod
  | with_reducible apply o_lt
  | with_reducible apply o_le
  | with_reducible apply o_gt
  | with_reducible apply o_ge
  | with_reducible apply o_eqI
  | with_reducible apply o_neI
  | with_reducible apply o_eqS
  | with_reducible apply o_neS
  | with_reducible apply o_neInts
  | with_reducible apply o_neNil
  | with_reducible apply o_eqNil
  | with_reducible apply o_eqInts
  | with_reducible apply o_addS
  | with_reducible apply o_in1
  | with_reducible apply o_ni1
  | with_reducible apply o_inS
  | with_reducible apply o_mulS
  | with_reducible apply ea_nil
  | with_reducible apply ea_cons
  | with_reducible apply ev_tup
  | with_reducible apply ev_lst
  | with_reducible apply eb_not
  | with_reducible apply eb_and
  | with_reducible apply eb_or
  | with_reducible apply ev_andV
  | with_reducible apply ev_orV
  | with_reducible apply ev_notV
  | with_reducible apply ev_chain
  | with_reducible apply ev_neg
  | with_reducible apply ev_slS
  | with_reducible apply ev_slL
  | with_reducible apply eo_none
  | with_reducible apply eo_some
  | with_reducible apply ev_cb
  | with_reducible apply cd_lenT
  | with_reducible apply cd_lenL
  | with_reducible apply cd_int
  | with_reducible apply cd_max
  | with_reducible apply cd_min
  | with_reducible apply ev_bm
  | with_reducible apply ev_bm0
  | with_reducible apply md_strip
  | with_reducible apply md_rstrip
  | with_reducible apply md_find
  | with_reducible apply md_index
  | with_reducible apply md_starts
  | with_reducible apply md_lower
  | with_reducible apply md_upper
  | with_reducible apply ei_str
  | with_reducible apply ei_list
  | with_reducible exact sz1 rfl
  | with_reducible exact Nat.le_of_ble_eq_true rfl
  | ((with_reducible apply cmulL) <;> decide)
  | ((with_reducible apply cmulR) <;> decide)
  | ((with_reducible apply cdiv) <;> decide)
  | ((with_reducible show (0 : Int) < _) <;> decide)
  | (with_reducible intro _hyp))

section
variable {P : Program} {w : World} {K : PySem.W.Frag} {mg : PySem.Str → Option Value} {base : Heap}
def WsOk (ws : List Wd) : Prop := ws.length ≤ 400 ∧ ∀ x ∈ ws, x.text.length ≤ 500 ∧ ∀ c ∈ x.text, okc c
theorem wordSaying_len {a : List Nat} {s : List Int} (h : wordSaying a = some s) : s.length ≤ 3 * a.length + 3 := by
  unfold wordSaying at h
  split at h
  · split at h
    · have := Option.some.inj h
      subst this
      have h1 := signsTold_len _ (decodeBy ((wsort a).headD 0) (innerOf a)) (Nat.le_refl _)
      have h2 := (sixOctets_byte (innerOf a)).1
      have h3 := markOctets_len _ (innerOf a) (Nat.le_refl _)
      have h4 : (innerOf a).length ≤ a.length := by
        unfold innerOf
        rw [List.length_take, List.length_drop]
        omega
      have h5 : (decodeBy ((wsort a).headD 0) (innerOf a)).length ≤ 3 * (innerOf a).length + 3 := by
        unfold decodeBy
        split <;> omega
      omega
    · cases h
  · cases h
def sayOf (x : Wd) : Option (List Int) := if x.sort = sAtom then wordSaying x.text else none
theorem phraseGo_cons (first was : Bool) (x : Wd) (r : List Wd) : phraseGo first was (x :: r) = (if first = false ∧ ¬ (was = true ∧ (sayOf x).isSome = true) then [32] else []) ++ ((sayOf x).getD (numbersOf x.text)) ++ phraseGo false (sayOf x).isSome r := rfl
theorem optL_none (s : Option (List Int)) {S : Addr → Prop} : OpV S rNotN (optL s) .non (.bl s.isSome) := by
  cases s with
  | none => exact o_notN fun _ _ r => isN_non r
  | some l => exact o_notN fun _ _ r => isN_lst r
abbrev N_phrase_saying : List PySem.Str := ["some", "found", "was_coded", "number", "word", "saying", "is_coded", "sign"]
theorem sc_phrase_saying : FnScope N_phrase_saying ["some"] (defScope s_phrase_saying) := ⟨rfl, rfl, rfl, by decide +kernel, rfl, by decide +kernel, by decide +kernel⟩
local macro_rules | `(tactic| walk_at "lit") => `(tactic| first
  | with_reducible exact ev_strL lit_61746f6d)
theorem c_phrase_saying (T : Tx K mg) : C8.Cal P w K mg base 5 "phrase_saying" (spP (α := List Wd) (fun a => [.lst (a.map Wd.d)]) (fun a => WsOk a) (fun a d => d = .lst ((phraseSaying a).map .int))) [] :=
  have c_word_saying := c_word_saying (P := P) (w := w) (base := base) T
  have c_number_of := c_number_of (P := P) (w := w) (base := base) T
  cal_P T.d_phrase_saying sc_phrase_saying (fun _ => rfl) (by decide) (fun _ _ _ _ _ _ us hl => match us, hl with | [_], _ => rfl) (fun f cdv A outer s H E hr => ⟨_, (pss_cons (ps_set (i := 1) sc_phrase_saying.nd rfl (Or.inl rfl) (pe_lst pa_nil))
    (pss_cons (ps_set (i := 2) sc_phrase_saying.nd rfl (Or.inl rfl) pe_bl)
    (pss_cons (ps_for PassesOwn.never rfl (pi_enum (by rfl) T.n_enumerate (pa_cons (pv 0) pa_nil)) (pg_tup rfl (pgs_cons (pg_name (i := 3) sc_phrase_saying.nd rfl (Or.inl rfl)) (pgs_cons (pg_name (i := 4) sc_phrase_saying.nd rfl (Or.inl rfl)) pgs_nil)))
    (pss_cons (ps_set (i := 5) sc_phrase_saying.nd rfl (Or.inl rfl) pe_non)
    (pss_cons (ps_if (pt_cmpR op_eq (pe_ix ix_tup (pv 4) pe_int (fun _ _ => rfl)) pe_str (by rfl))
    (pss_cons (ps_set (i := 5) sc_phrase_saying.nd rfl (Or.inl rfl) (C8.pe_c c_word_saying hr (by decide) rfl (pa_cons (pe_ix ix_tup (pv 4) pe_int (fun _ _ => rfl)) pa_nil)))
    pss_nil)
    pss_nil)
    (pss_cons (ps_set (i := 6) sc_phrase_saying.nd rfl (Or.inl rfl) (pe_cmpR op_notN1 (pv 5) pe_non (by rfl)))
    (pss_cons (ps_if (PW.pt (pw_and (pt_cmpR op_gt (pv 3) pe_int (by rfl)) (pw_and1 (pt_not (PW.pt (pw_and (pt_val (pv 2)) (pw_and1 (pt_val (pv 6)))))))))
    (pss_cons (ps_expr (pe_bm PySem.F.plainAttrs_list PySem.F.slot_list_append PySem.F.type_list_append mt_append (pv 1) (pa_cons pe_int pa_nil)))
    pss_nil)
    pss_nil)
    (pss_cons (ps_expr (pe_bm PySem.F.plainAttrs_list PySem.F.slot_list_extend PySem.F.type_list_extend mt_extend (pv 1) (pa_cons (pe_ifExp (pt_val (pv 6)) (pv 5) (pe_lc (own := [("sign", 7)]) (g := gName 7) rfl sc_phrase_saying.nd (pi_str (pe_ix ix_tup (pv 4) pe_int (fun _ _ => rfl))) (blkOk_by (own := [("sign", 7)]) (N := N_phrase_saying) (sc := defScope s_phrase_saying) (by decide +kernel)) (fun _ _ _ _ _ => pg_name (i := 7) sc_phrase_saying.nd rfl (Or.inl rfl)) (fun _ _ _ _ _ => pts_nil) (fun _ _ _ _ _ => (C8.pe_c c_number_of hr (by decide) rfl (pa_cons (pv 7) pa_nil))))) pa_nil)))
    (pss_cons (ps_set (i := 2) sc_phrase_saying.nd rfl (Or.inl rfl) (pv 6))
    pss_nil)))))))
    (pss_cons (ps_ret (pv 1))
    pss_nil)))), fun a ha => by
    show Dl.Run No _ [.dat (.lst (a.map Wd.d)), .no, .no, .no, .no, .no, .no, .no] _ _
    refine run_setFV (ef_lstV ea_nil (sz1 rfl)) (run_set ev_bl ?_)
    refine run_for (fun k r => ∃ fd was, r = [.dat (.lst (a.map Wd.d)), .own (fd.map .int), .dat (.bl was), .no, .no, .no, .no, .no] ∧ phraseSaying a = fd ++ phraseGo (decide (k = 0)) was (a.drop k) ∧ fd.length ≤ 1600 * k) (ei_enum (ev_dat rfl)) ⟨_, Le.refl _, [], true, rfl, rfl, Nat.zero_le _⟩ (fun k d r hd hr => ?_) (fun r hr => ?_)
    · obtain ⟨y, hy, rfl⟩ := enm_get hd
      obtain ⟨x, hx, rfl⟩ := map_get hy
      obtain ⟨fd, was, rfl, h1, h2⟩ := hr
      have hk : k < a.length := (List.getElem?_eq_some_iff.mp hx).1
      have hal := ha.1
      obtain ⟨hx1, hx2⟩ := ha.2 x (List.mem_of_getElem? hx)
      rw [drop_get hx, phraseGo_cons] at h1
      have hsl : ∀ l, sayOf x = some l → l.length ≤ 1503 := fun l hl => by
        unfold sayOf at hl
        split at hl
        · have := wordSaying_len hl
          omega
        · cases hl
      refine ⟨_, tg_tup (tgs_cons tg_name (tgs_cons tg_name tgs_nil)) rfl, ?_⟩
      show Dl.Run No _ [.dat (.lst (a.map Wd.d)), .own (fd.map .int), .dat (.bl was), .dat (.int (k : Int)), .dat (.tup [.str x.sort, .str x.text, .int (x.b : Int), .int (x.e : Int)]), .no, .no, .no] _ _
      refine run_set ev_non ?_
      show Dl.Run No _ [.dat (.lst (a.map Wd.d)), .own (fd.map .int), .dat (.bl was), .dat (.int (k : Int)), .dat (.tup [.str x.sort, .str x.text, .int (x.b : Int), .int (x.e : Int)]), .dat .non, .no, .no] _ _
      refine run_ifJ (N1 := fun r => r = [.dat (.lst (a.map Wd.d)), .own (fd.map .int), .dat (.bl was), .dat (.int (k : Int)), .dat (.tup [.str x.sort, .str x.text, .int (x.b : Int), .int (x.e : Int)]), .dat (optL (sayOf x)), .no, .no]) (bb := decide (x.sort = sAtom)) (eb_B (ev_op (x := .str x.sort) (ev_op (ev_dat rfl) ev_int (o_ixT rfl)) (ev_strL (l := sAtom) lit_61746f6d) o_eqS)) (fun h => ?_) (fun h => ?_) (fun r hr => ?_)
      · refine run_set (ed_call x.text (ea_cons (ev_op (ev_dat rfl) ev_int (o_ixT rfl)) ea_nil) ⟨by omega, hx2⟩) (run_next ?_)
        unfold sayOf
        rw [if_pos (of_decide_eq_true h)]
        rfl
      · refine run_next ?_
        unfold sayOf
        rw [if_neg (of_decide_eq_false h)]
        rfl
      subst hr
      generalize sayOf x = so at h1 hsl
      refine run_set (ev_op (ev_dat rfl) ev_non (optL_none so)) ?_
      show Dl.Run No _ [.dat (.lst (a.map Wd.d)), .own (fd.map .int), .dat (.bl was), .dat (.int (k : Int)), .dat (.tup [.str x.sort, .str x.text, .int (x.b : Int), .int (x.e : Int)]), .dat (optL so), .dat (.bl so.isSome), .no] _ _
      refine run_ifJ (N1 := fun r => r = [.dat (.lst (a.map Wd.d)), .own ((fd ++ (if decide (k = 0) = false ∧ ¬ (was = true ∧ so.isSome = true) then [32] else [])).map .int), .dat (.bl was), .dat (.int (k : Int)), .dat (.tup [.str x.sort, .str x.text, .int (x.b : Int), .int (x.e : Int)]), .dat (optL so), .dat (.bl so.isSome), .no]) (eb_and (by repeat' walk_at "ev") (fun _ => eb_not (eb_and (eb_test (ev_dat rfl)) (fun _ => eb_test (ev_dat rfl))))) (fun h => ?_) (fun h => ?_) (fun r hr => ?_)
      · refine run_appendV rfl ev_int (sz' (by rw [List.length_map]; omega)) (run_next ?_)
        rw [if_pos]
        · simp
        · rw [Bool.and_eq_true] at h
          have h3 := of_decide_eq_true h.1
          refine ⟨decide_eq_false (by omega), fun z => ?_⟩
          rw [z.1, z.2] at h
          cases h.2
      · refine run_next ?_
        rw [if_neg]
        · simp
        · intro z
          rw [decide_eq_true (by have := of_decide_eq_false z.1; omega)] at h
          cases hw : was with
          | false => rw [hw] at h; cases h
          | true =>
            cases hs : so.isSome with
            | false => rw [hw, hs] at h; cases h
            | true => exact z.2 ⟨hw, hs⟩
      subst hr
      have hfl : (fd ++ (if decide (k = 0) = false ∧ ¬ (was = true ∧ so.isSome = true) then [32] else [])).length ≤ 1600 * k + 1 := by
        rw [List.length_append]
        split <;> simp <;> omega
      rw [← List.append_assoc, ← List.append_assoc] at h1
      generalize fd ++ (if decide (k = 0) = false ∧ ¬ (was = true ∧ so.isSome = true) then [32] else []) = fd2 at h1 hfl
      have hgl : (so.getD (numbersOf x.text)).length ≤ 1503 := by
        cases so with
        | none => simp [numbersOf]; omega
        | some l => exact hsl l rfl
      refine run_extend (es := (so.getD (numbersOf x.text)).map .int) rfl (ed_if (b := so.isSome) (eb_test (ev_dat rfl)) (fun h => ?_) (fun h => ?_)) (sz (by rw [List.length_map, List.length_map]; omega)) ?_
      · cases so with
        | none => cases h
        | some l => exact ev_dat rfl
      · cases so with
        | some l => cases h
        | none => exact EvV.cast (EvF.v (ef_lcM x.text (fun c => .str [c]) (fun c => .int (c : Int)) (ei_str (ev_op (ev_dat rfl) ev_int (o_ixT rfl))) (fun c hc => ed_call c (by repeat' walk_at "ev") (hx2 c hc)) (sz (by omega)))) (by
          show D.lst _ = .lst ((x.text.map fun (c : Nat) => (c : Int)).map .int)
          rw [List.map_map] <;> rfl)
      · refine run_set (ev_dat rfl) (run_next ⟨_, .same (.same (.same (.no (.no (.no (.no (.no .nil))))))), fd2 ++ so.getD (numbersOf x.text), so.isSome, ?_, ?_, ?_⟩)
        · rw [List.map_append] <;> rfl
        · rw [h1, decide_eq_false (by omega)]
        · rw [List.length_append]
          omega
    · obtain ⟨fd, was, rfl, h1, h2⟩ := hr
      rw [enm_len, List.length_map, List.drop_length] at h1
      refine run_freeze 1 rfl (run_retV (ev_dat rfl) ?_)
      rw [h1]
      show _ = D.lst ((fd ++ []).map .int)
      rw [List.append_nil]⟩)
end
end Fk
/-! The rules of expressions over any room (printed by gen_dlm.py). -/
namespace Dm
open PySem L2 Evl Dl
structure Ctx (S : Addr → Prop) where
  P : Hp → Hp → St → Prop
  base : ∀ {G H : Hp} {σ : St}, P G H σ → Base S G H
  go : ∀ {G H G' H' : Hp} {σ : St}, P G H σ → Go S G H G' H' → P G' H' σ
structure Cf (S : Addr → Prop) (G H : Hp) (σ : St) (ρ : Ctx S) : Prop where
  p : ρ.P G H σ
theorem Cf.base {S : Addr → Prop} {G H : Hp} {σ : St} {ρ : Ctx S} (c : Cf S G H σ ρ) : Base S G H := ρ.base c.p
theorem Cf.go {S : Addr → Prop} {G H G' H' : Hp} {σ : St} {ρ : Ctx S} (c : Cf S G H σ ρ) (g : Go S G H G' H') : Cf S G' H' σ ρ := ⟨ρ.go c.p g⟩
def EvD (S : Addr → Prop) (te : TE) (ρ : Ctx S) (P : D → Prop) : Prop := ∀ (G H : Hp) (σ : St), Cf S G H σ ρ → ∀ Q : VK, (∀ v d G' H', P d → Go S G H G' H' → Rp G' v d → Q v H') → te σ H Q
abbrev EvV (S : Addr → Prop) (te : TE) (ρ : Ctx S) (d : D) : Prop := EvD S te ρ (fun x => x = d)
def EvF (S : Addr → Prop) (te : TE) (ρ : Ctx S) (P : List D → Prop) : Prop := ∀ (G H : Hp) (σ : St), Cf S G H σ ρ → ∀ Q : VK,
  (∀ p vs ds G' H', P ds → Go S G H G' H' → H p = none → H' p = some (.lst vs) → G' p = none → RpL G' vs ds → Q (.ref p) H') → te σ H Q
def EvT (S : Addr → Prop) (t : TT) (ρ : Ctx S) (P : Bool → Prop) : Prop := ∀ (G H : Hp) (σ : St), Cf S G H σ ρ → ∀ Q : Bool → Hp → Prop, (∀ b G' H', P b → Go S G H G' H' → Q b H') → t σ H Q
abbrev EvB (S : Addr → Prop) (t : TT) (ρ : Ctx S) (b : Bool) : Prop := EvT S t ρ (fun x => x = b)
def EvA (S : Addr → Prop) (ta : TA) (ρ : Ctx S) (P : List D → Prop) : Prop := ∀ (G H : Hp) (σ : St), Cf S G H σ ρ → ∀ Q : List V → Hp → Prop, (∀ vs ds G' H', P ds → Go S G H G' H' → RpL G' vs ds → Q vs H') → ta σ H Q
abbrev EvAV (S : Addr → Prop) (ta : TA) (ρ : Ctx S) (ds : List D) : Prop := EvA S ta ρ (fun x => x = ds)
section
variable {S : Addr → Prop} {ρ : Ctx S} {te ta tb tc to : TE} {t u : TT} {x y z d : D} {P : D → Prop} {K : PySem.W.Frag}
theorem EvD.imp {P' : D → Prop} (h : EvD S te ρ P) (f : ∀ d, P d → P' d) : EvD S te ρ P' := fun G H σ c Q q => h G H σ c Q fun v d G' H' hp => q v d G' H' (f d hp)
theorem EvV.cast (h : EvV S te ρ x) (e : x = y) : EvV S te ρ y := e ▸ h
theorem EvB.cast {a b : Bool} (h : EvB S t ρ a) (e : a = b) : EvB S t ρ b := e ▸ h
theorem EvV.at (h : EvV S te ρ x) (hp : P x) : EvD S te ρ P := EvD.imp h fun d e => e ▸ hp
theorem EvF.frz {P : List D → Prop} (h : EvF S te ρ P) : EvD S te ρ (fun d => ∃ ds, P ds ∧ d = .lst ds) := fun G H σ c Q q =>
  h G H σ c Q fun p vs ds G' H' hp g hn hh hg r => q _ (.lst ds) (upd G' p (.lst vs)) H' ⟨ds, hp, rfl⟩ (g.freeze hn hh hg) (.lst upd_same (r.mono (Ex.new hg)))
theorem EvF.v {ds : List D} (h : EvF S te ρ (fun x => x = ds)) : EvV S te ρ (.lst ds) := EvD.imp (EvF.frz h) fun d ⟨_, e1, e2⟩ => by rw [e2, e1]
theorem ev_int {i : Int} : EvV S (tC (.int i)) ρ (.int i) := fun G H σ c Q q => q _ _ G H rfl c.base.refl (.int i)
theorem ev_bl {b : Bool} : EvV S (tC (.bl b)) ρ (.bl b) := fun G H σ c Q q => q _ _ G H rfl c.base.refl (.bl b)
theorem ev_non : EvV S (tC .non) ρ .non := fun G H σ c Q q => q _ _ G H rfl c.base.refl .non
theorem ev_str {s : Str} : EvV S (tC (.str s)) ρ (.str s.cps.toList) := fun G H σ c Q q => q _ _ G H rfl c.base.refl (.str s.cps.toList)
theorem ev_strL {s : Str} {l : List Nat} (h : s.cps.toList = l) : EvV S (tC (.str s)) ρ (.str l) := EvV.cast ev_str (congrArg D.str h)
theorem ed_op {r : R2} {Pa : D → Prop} {Pb : D → D → Prop} (ha : EvD S ta ρ Pa) (hb : ∀ x, Pa x → EvD S tb ρ (Pb x)) (hr : ∀ x y, Pa x → Pb x y → OpD S r x y P) : EvD S (tOp r ta tb) ρ P := fun G H σ c Q q =>
  ha G H σ c _ fun v x G1 H1 px g1 r1 => hb x px G1 H1 σ (c.go g1) _ fun w y G2 H2 py g2 r2 =>
    hr x y px py G2 H2 ((c.go g1).go g2).base v w Q (r1.mono g2.g) r2 fun u d G3 H3 pd g3 r3 => q u d G3 H3 pd ((g1.trans c.base g2).trans c.base g3) r3
theorem ev_op {r : R2} (ha : EvV S ta ρ x) (hb : EvV S tb ρ y) (hr : OpD S r x y P) : EvD S (tOp r ta tb) ρ P := ed_op ha (fun _ _ => hb) fun _ _ e1 e2 => by rw [e1, e2]; exact hr
theorem ef_op {r : R2} {zs : List D} (ha : EvV S ta ρ x) (hb : EvV S tb ρ y) (hr : OpF S r x y zs) : EvF S (tOp r ta tb) ρ (fun l => l = zs) := fun G H σ c Q q =>
  ha G H σ c _ fun v x' G1 H1 ex g1 r1 => hb G1 H1 σ (c.go g1) _ fun w y' G2 H2 ey g2 r2 => by
    subst ex ey
    refine hr G2 H2 ((c.go g1).go g2).base v w Q (r1.mono g2.g) r2 fun p vs G3 H3 g3 hn hh hg rr => ?_
    exact q p vs zs G3 H3 rfl ((g1.trans c.base g2).trans c.base g3) ((g1.trans c.base g2).fresh c.base hn) hh hg rr
theorem ev_un {r : V → Hp → VK → Prop} (ha : EvV S ta ρ x) (hr : ∀ (G H : Hp), Base S G H → ∀ (v : V) (Q : VK), Rp G v x → (∀ u G' H', Go S G H G' H' → Rp G' u z → Q u H') → r v H Q) : EvV S (tUn r ta) ρ z := fun G H σ c Q q =>
  ha G H σ c _ fun v x' G1 H1 ex g1 r1 => by
    subst ex
    exact hr G1 H1 (c.go g1).base v Q r1 fun u G2 H2 g2 r2 => q u z G2 H2 rfl (g1.trans c.base g2) r2
theorem ev_neg {i : Int} (ha : EvV S ta ρ (.int i)) : EvV S (tUn (rU fun i => .int (-i)) ta) ρ (.int (-i)) := ev_un ha fun G H b v Q r q => by
  cases r
  exact ⟨i, rfl, q _ G H b.refl (.int _)⟩
theorem et_test {P : Bool → Prop} (h : EvD S te ρ (fun d => ∃ b, P b ∧ d = .bl b)) : EvT S (tTest te) ρ P := fun G H σ c Q q => h G H σ c _ fun v d G' H' ⟨b, pb, e⟩ g r => by
  subst e
  cases r
  exact ⟨b, rfl, q b G' H' pb g⟩
theorem eb_test {b : Bool} (h : EvV S te ρ (.bl b)) : EvB S (tTest te) ρ b := et_test (EvV.at h ⟨b, rfl, rfl⟩)
theorem eb_B {b : Bool} (h : EvV S te ρ (.bl b)) : EvB S (tB te) ρ b := fun G H σ c Q q => h G H σ c _ fun v d G' H' e g r => by
  subst e
  cases r
  exact ⟨b, rfl, q b G' H' rfl g⟩
theorem eb_not {b : Bool} (h : EvB S t ρ b) : EvB S (tNot t) ρ (!b) := fun G H σ c Q q => h G H σ c _ fun b' G' H' e g => by
  subst e
  exact q _ G' H' rfl g
theorem eb_and {a b : Bool} (h1 : EvB S t ρ a) (h2 : a = true → EvB S u ρ b) : EvB S (tAnd t u) ρ (a && b) := fun G H σ c Q q => h1 G H σ c _ fun a' G1 H1 e g => by
  subst e
  cases a' with
  | true =>
    rw [if_pos rfl]
    exact h2 rfl G1 H1 σ (c.go g) Q fun b' G2 H2 e2 g2 => by
      subst e2
      exact q _ G2 H2 rfl (g.trans c.base g2)
  | false =>
    rw [if_neg Bool.false_ne_true]
    exact q _ G1 H1 rfl g
theorem eb_or {a b : Bool} (h1 : EvB S t ρ a) (h2 : a = false → EvB S u ρ b) : EvB S (tOr t u) ρ (a || b) := fun G H σ c Q q => h1 G H σ c _ fun a' G1 H1 e g => by
  subst e
  cases a' with
  | false =>
    rw [if_neg Bool.false_ne_true]
    exact h2 rfl G1 H1 σ (c.go g) Q fun b' G2 H2 e2 g2 => by
      subst e2
      exact q _ G2 H2 rfl (g.trans c.base g2)
  | true =>
    rw [if_pos rfl]
    exact q _ G1 H1 rfl g
theorem ev_andV {a b : Bool} (h1 : EvV S ta ρ (.bl a)) (h2 : a = true → EvV S tb ρ (.bl b)) : EvV S (tAndV ta tb) ρ (.bl (a && b)) := fun G H σ c Q q => h1 G H σ c _ fun v d G1 H1 e g r => by
  subst e
  cases r
  refine ⟨a, rfl, ?_⟩
  cases a with
  | true =>
    rw [if_pos rfl]
    exact h2 rfl G1 H1 σ (c.go g) Q fun v' d' G2 H2 e2 g2 r2 => q v' d' G2 H2 e2 (g.trans c.base g2) r2
  | false =>
    rw [if_neg Bool.false_ne_true]
    exact q _ _ G1 H1 rfl g (.bl _)
theorem ev_orV {a b : Bool} (h1 : EvV S ta ρ (.bl a)) (h2 : a = false → EvV S tb ρ (.bl b)) : EvV S (tOrV ta tb) ρ (.bl (a || b)) := fun G H σ c Q q => h1 G H σ c _ fun v d G1 H1 e g r => by
  subst e
  cases r
  refine ⟨a, rfl, ?_⟩
  cases a with
  | false =>
    rw [if_neg Bool.false_ne_true]
    exact h2 rfl G1 H1 σ (c.go g) Q fun v' d' G2 H2 e2 g2 r2 => q v' d' G2 H2 e2 (g.trans c.base g2) r2
  | true =>
    rw [if_pos rfl]
    exact q _ _ G1 H1 rfl g (.bl _)
theorem ev_notV {a : Bool} (h1 : EvV S ta ρ (.bl a)) : EvV S (tNotV ta) ρ (.bl (!a)) := fun G H σ c Q q => h1 G H σ c _ fun v d G1 H1 e g r => by
  subst e
  cases r
  exact ⟨a, rfl, q _ _ G1 H1 rfl g (.bl _)⟩
theorem ed_if {b : Bool} (h : EvB S t ρ b) (h1 : b = true → EvD S ta ρ P) (h2 : b = false → EvD S tb ρ P) : EvD S (tIf t ta tb) ρ P := fun G H σ c Q q => h G H σ c _ fun b' G1 H1 e g => by
  subst e
  cases b' with
  | true =>
    rw [if_pos rfl]
    exact h1 rfl G1 H1 σ (c.go g) Q fun v d G2 H2 pd g2 r => q v d G2 H2 pd (g.trans c.base g2) r
  | false =>
    rw [if_neg Bool.false_ne_true]
    exact h2 rfl G1 H1 σ (c.go g) Q fun v d G2 H2 pd g2 r => q v d G2 H2 pd (g.trans c.base g2) r
theorem ea_nil : EvAV S tNil ρ [] := fun G H σ c Q q => q _ _ G H rfl c.base.refl .nil
theorem eda_cons {tr : TA} {Pa : D → Prop} {Pr : D → List D → Prop} (h : EvD S te ρ Pa) (hr : ∀ d, Pa d → EvA S tr ρ (Pr d)) : EvA S (tCons te tr) ρ (fun l => ∃ d ds, Pa d ∧ Pr d ds ∧ l = d :: ds) := fun G H σ c Q q =>
  h G H σ c _ fun v d G1 H1 pd g1 r1 => hr d pd G1 H1 σ (c.go g1) _ fun vs ds G2 H2 pr g2 r2 => q _ _ G2 H2 ⟨d, ds, pd, pr, rfl⟩ (g1.trans c.base g2) (.cons (r1.mono g2.g) r2)
theorem EvA.imp {ta : TA} {P P' : List D → Prop} (h : EvA S ta ρ P) (f : ∀ d, P d → P' d) : EvA S ta ρ P' := fun G H σ c Q q => h G H σ c Q fun v d G' H' hp => q v d G' H' (f d hp)
theorem ea_cons {tr : TA} {ds : List D} (h : EvV S te ρ d) (hr : EvAV S tr ρ ds) : EvAV S (tCons te tr) ρ (d :: ds) := EvA.imp (eda_cons h fun _ _ => hr) fun l ⟨a, b, e1, e2, e3⟩ => by rw [e3, e1, e2]
theorem ed_cb {r : List V → Hp → VK → Prop} {ta : TA} {Pa : List D → Prop} (h : EvA S ta ρ Pa) (hr : ∀ xs, Pa xs → ClD S r xs P) : EvD S (tCB r ta) ρ P := fun G H σ c Q q =>
  h G H σ c _ fun vs ds G1 H1 pa g1 r1 => hr ds pa G1 H1 (c.go g1).base vs Q r1 fun u d G2 H2 pd g2 r2 => q u d G2 H2 pd (g1.trans c.base g2) r2
theorem ev_cb {r : List V → Hp → VK → Prop} {ta : TA} {xs : List D} (h : EvAV S ta ρ xs) (hr : ClD S r xs P) : EvD S (tCB r ta) ρ P := ed_cb h fun _ e => e ▸ hr
theorem ef_lst {ta : TA} {P : List D → Prop} (h : EvA S ta ρ P) (hl : ∀ ds, P ds → ds.length ≤ sizeLine) : EvF S (tLst ta) ρ P := fun G H σ c Q q =>
  h G H σ c _ fun vs ds G1 H1 pd g1 r1 => ⟨by rw [r1.length]; exact hl ds pd, fun p hp => by
    have b1 := (c.go g1).base
    have gn : G1 p = none := by
      cases e : G1 p with
      | none => rfl
      | some o => rw [b1.ext _ _ e] at hp; cases hp
    exact q p vs ds G1 _ pd (g1.trans c.base (Go.mut b1 hp)) (g1.fresh c.base hp) upd_same gn r1⟩
theorem ed_tup {ta : TA} {P : List D → Prop} (h : EvA S ta ρ P) (hl : ∀ ds, P ds → ds.length ≤ sizeLine) : EvD S (tTup ta) ρ (fun d => ∃ ds, P ds ∧ d = .tup ds) := fun G H σ c Q q =>
  h G H σ c _ fun vs ds G1 H1 pd g1 r1 => ⟨by rw [r1.length]; exact hl ds pd, fun p hp => by
    have b1 := (c.go g1).base
    have gn : G1 p = none := by
      cases e : G1 p with
      | none => rfl
      | some o => rw [b1.ext _ _ e] at hp; cases hp
    exact q _ (.tup ds) (upd G1 p (.tup vs)) _ ⟨ds, pd, rfl⟩ (g1.trans c.base (Go.new b1 hp)) (.tup upd_same (r1.mono (Ex.new gn)))⟩
theorem ef_lstV {ta : TA} {ds : List D} (h : EvAV S ta ρ ds) (hl : ds.length ≤ sizeLine) : EvF S (tLst ta) ρ (fun x => x = ds) := ef_lst h fun _ e => e ▸ hl
theorem ev_lst {ta : TA} {ds : List D} (h : EvAV S ta ρ ds) (hl : ds.length ≤ sizeLine) : EvV S (tLst ta) ρ (.lst ds) := EvF.v (ef_lstV h hl)
theorem ev_tup {ta : TA} {ds : List D} (h : EvAV S ta ρ ds) (hl : ds.length ≤ sizeLine) : EvV S (tTup ta) ρ (.tup ds) := EvD.imp (ed_tup h fun _ e => e ▸ hl) fun d ⟨l, e1, e2⟩ => by rw [e2, e1]
theorem ed_call {α : Type} {args : α → List D} {pre : α → Prop} {post : α → D → Prop} {ta : TA} {E : XK} (a : α) (ha : EvAV S ta ρ (args a)) (hp : pre a) : EvD S (tCall (spP args pre post) [] E ta) ρ (post a) := fun G H σ c Q q =>
  ha G H σ c _ fun vs ds G1 H1 e g1 r => by
    subst e
    rw [List.append_nil]
    exact ⟨a, G1, g1.gh, r, hp, fun v d G' H' po g2 rv => q v d G' H' po (g1.trans c.base (g2.up (c.go g1).base)) rv⟩
theorem ev_bm {r : V → List V → Hp → VK → Prop} {ta : TA} {l : List Nat} {ys : List D} {z : D} (ho : EvV S to ρ (.str l)) (ha : EvAV S ta ρ ys) (hm : MtD S r (.str l) ys z) : EvV S (tBM K "str" r to ta) ρ z := fun G H σ c Q q =>
  ho G H σ c _ fun v d G1 H1 e g1 r1 => by
    subst e
    cases r1
    refine ⟨rfl, ha G1 H1 σ (c.go g1) _ fun vs ds G2 H2 e2 g2 r2 => ?_⟩
    subst e2
    have g12 := g1.trans c.base g2
    exact hm G2 H2 (c.go g12).base _ vs Q (.str l) r2 fun u G3 H3 g3 r3 => q u z G3 H3 rfl (g12.trans c.base g3) r3
theorem ev_bm0 {r : V → List V → Hp → VK → Prop} {l : List Nat} {z : D} (ho : EvV S to ρ (.str l)) (hm : MtD S r (.str l) [] z) : EvV S (tBM0 K "str" r to) ρ z := fun G H σ c Q q =>
  ho G H σ c _ fun v d G1 H1 e g1 r1 => by
    subst e
    cases r1
    exact ⟨rfl, hm G1 H1 (c.go g1).base _ [] Q (.str l) .nil fun u G3 H3 g3 r3 => q u z G3 H3 rfl (g1.trans c.base g3) r3⟩
theorem ev_isi {d : D} {T : String} {b : Bool} (h : EvV S te ρ d) (hd : d ≠ .non) (hk : kitB (tyn d) T = some b) : EvV S (tCB (rIsi K) (tCons te (tCons (tC (.ty T)) tNil))) ρ (.bl b) := fun G H σ c Q q =>
  h G H σ c _ fun v d' G1 H1 e g r => by
    subst e
    refine ⟨v, .ty T, .type (tyn d'), .type T, b, rfl, .ty T, ?_, kit_ty hk, q _ _ G1 H1 rfl g (.bl b)⟩
    cases r with
    | non => exact absurd rfl hd
    | bl b => exact .base (.bl b)
    | int i => exact .base (.int i)
    | str s => exact .base (.str _)
    | lst h1 _ => exact .base (.lst (g.gh _ _ h1))
    | tup h1 _ => exact .base (.tup (g.gh _ _ h1))
end
end Dm
/-! The instance of Reading: its fields, what is told of it, rules of its methods' statements. -/
namespace Fk
open PySem PySem.Spec PyProof.Rows L2 Evl Dl Mr
/-- what the head tells of the class -/
structure DefM (K : PySem.W.Frag) (C : Addr) (m q : PySem.Str) (st : Stmt) : Prop where
  ex : ∃ f fd, FunD K m q (defArgs st) (defBody st) (defScope st) [] [] f fd ∧ Meth K C m f
structure Rx (K : PySem.W.Frag) (mg : PySem.Str → Option Value) (C : Addr) : Prop where
  cls : Cls K C
  mgC : mg "Reading" = some (.ref C)
  mkr : ∃ f fd, FunD K "__init__" "Reading.__init__" (defArgs m___init__) (defBody m___init__) (defScope m___init__) [] [] f fd ∧ Mk K C f
  n_stand : NoAttr K C "stand"
  n_phrase : NoAttr K C "phrase"
  n_local : NoAttr K C "local"
  n_house : NoAttr K C "house"
  n_is_angled : NoAttr K C "is_angled"
  n_leader : NoAttr K C "leader"
  n_members : NoAttr K C "members"
  n_is_opened : NoAttr K C "is_opened"
  n_listed : NoAttr K C "listed"
  m_takes : DefM K C "takes" "Reading.takes" m_takes
  m_takes_begin : DefM K C "takes_begin" "Reading.takes_begin" m_takes_begin
  m_takes_phrase : DefM K C "takes_phrase" "Reading.takes_phrase" m_takes_phrase
  m_takes_local : DefM K C "takes_local" "Reading.takes_local" m_takes_local
  m_takes_house : DefM K C "takes_house" "Reading.takes_house" m_takes_house
  m_takes_one : DefM K C "takes_one" "Reading.takes_one" m_takes_one
  m_takes_group : DefM K C "takes_group" "Reading.takes_group" m_takes_group
  m_takes_behind : DefM K C "takes_behind" "Reading.takes_behind" m_takes_behind
  m_is_done : DefM K C "is_done" "Reading.is_done" m_is_done
structure Rs where
  stand : List Nat
  phm : Bool
  ph : List Wd
  loc : List Nat
  hou : List Nat
  ang : Bool
  lead : Option (List Int)
  mm : Bool
  mem : List One
  opened : Bool
  lst : List Adr
def flds (st p lo ho an le me op li : V) : List (PySem.Str × V) := [("stand", st), ("phrase", p), ("local", lo), ("house", ho), ("is_angled", an), ("leader", le), ("members", me), ("is_opened", op), ("listed", li)]
/-- an own list (b), or one that stands still -/
def LsAt (H0 G H : Hp) (b : Bool) (p : Addr) (ds : List D) : Prop := if b = true then ∃ vs, H p = some (.lst vs) ∧ G p = none ∧ H0 p = none ∧ RpL G vs ds else Rp G (.ref p) (.lst ds)
structure RdOk (C : Addr) (G0 H0 : Hp) (a dx p m l : Addr) (vl : V) (G H : Hp) (rs : Rs) : Prop where
  e0 : Ex G0 H0
  go : Go No G0 H0 G H
  na : H0 a = none
  ha : H a = some (.ins C dx (flds (.str (Sx rs.stand)) (.ref p) (.str (Sx rs.loc)) (.str (Sx rs.hou)) (.bl rs.ang) vl (.ref m) (.bl rs.opened) (.ref l)))
  ga : G a = none
  ph : LsAt H0 G H rs.phm p (rs.ph.map Wd.d)
  le : Rp G vl (optL rs.lead)
  me : LsAt H0 G H rs.mm m (rs.mem.map One.d)
  li : LsAt H0 G H true l (rs.lst.map Adr.d)
  pl : rs.phm = true → p ≠ l
  pm : rs.phm = true → rs.mm = true → p ≠ m
  ml : rs.mm = true → m ≠ l
def RdAt (C : Addr) (G0 H0 : Hp) (a : Addr) (G H : Hp) (rs : Rs) : Prop := ∃ dx p m l vl, RdOk C G0 H0 a dx p m l vl G H rs
section
variable {C : Addr} {G0 H0 G H G' H' : Hp} {a dx p m l : Addr} {vl : V} {rs : Rs}
theorem LsAt.go {b : Bool} {ds : List D} (x : LsAt H0 G H b p ds) (g : Go No G H G' H') : LsAt H0 G' H' b p ds := by
  unfold LsAt at x ⊢
  split at x
  · next hb =>
    rw [if_pos hb]
    obtain ⟨vs, h1, h2, h3, h4⟩ := x
    exact ⟨vs, g.h p _ (fun z => z) h1, g.nw p (by rw [h1]; exact (fun z => nomatch z)) h2, h3, h4.mono g.g⟩
  · next hb =>
    rw [if_neg hb]
    exact x.mono g.g
theorem noB (e : Ex G H) : Base No G H := ⟨e, fun _ h => h.elim⟩
theorem RdOk.base (x : RdOk C G0 H0 a dx p m l vl G H rs) : Base No G H := noB x.go.gh
theorem RdOk.goes (x : RdOk C G0 H0 a dx p m l vl G H rs) (g : Go No G H G' H') : RdOk C G0 H0 a dx p m l vl G' H' rs :=
  ⟨x.e0, x.go.trans (noB x.e0) g, x.na, g.h a _ (fun z => z) x.ha, g.nw a (by rw [x.ha]; exact (fun z => nomatch z)) x.ga, x.ph.go g, x.le.mono g.g, x.me.go g, x.li.go g, x.pl, x.pm, x.ml⟩
theorem RdAt.base (x : RdAt C G0 H0 a G H rs) : Base No G H := by
  obtain ⟨dx, p, m, l, vl, x⟩ := x
  exact x.base
theorem RdAt.goes (x : RdAt C G0 H0 a G H rs) (g : Go No G H G' H') : RdAt C G0 H0 a G' H' rs := by
  obtain ⟨dx, p, m, l, vl, x⟩ := x
  exact ⟨dx, p, m, l, vl, x.goes g⟩
/-- a thing above the floor is changed -/
theorem go_above {q : Addr} {o : HO} (g : Go No G0 H0 G H) (h0 : H0 q = none) (hg : G q = none) : Go No G0 H0 G (upd H q o) := by
  refine ⟨g.g, fun b u e => ?_, fun b u hs e => ?_, g.nw, fun _ h => h.elim⟩
  · rw [upd_ne (ne_of_none e hg)]
    exact g.gh b u e
  · rw [upd_ne (ne_of_none e h0)]
    exact g.h b u hs e
theorem LsAt.up {b : Bool} {ds : List D} {q : Addr} {o : HO} (x : LsAt H0 G H b p ds) (h : b = true → p ≠ q) : LsAt H0 G (upd H q o) b p ds := by
  unfold LsAt at x ⊢
  split at x
  · next hb =>
    rw [if_pos hb]
    obtain ⟨vs, h1, h2, h3, h4⟩ := x
    exact ⟨vs, by rw [upd_ne (h hb)]; exact h1, h2, h3, h4⟩
  · next hb =>
    rw [if_neg hb]
    exact x
theorem LsAt.ne_ins {b : Bool} {ds : List D} {q dx C : Addr} {fs : List (PySem.Str × V)} (x : LsAt H0 G H b p ds) (hb : b = true) (h : H q = some (.ins C dx fs)) : p ≠ q := by
  intro e
  subst e
  unfold LsAt at x
  rw [if_pos hb] at x
  obtain ⟨vs, h1, _⟩ := x
  rw [h] at h1
  cases h1
/-- the instance's own record is changed, its lists stay -/
theorem RdOk.set (x : RdOk C G0 H0 a dx p m l vl G H rs) (rs' : Rs) {vl' : V} (hl : Rp G vl' (optL rs'.lead)) (h1 : rs'.phm = rs.phm) (h2 : rs'.ph = rs.ph) (h3 : rs'.mm = rs.mm) (h4 : rs'.mem = rs.mem) (h5 : rs'.lst = rs.lst) :
    RdOk C G0 H0 a dx p m l vl' G (upd H a (.ins C dx (flds (.str (Sx rs'.stand)) (.ref p) (.str (Sx rs'.loc)) (.str (Sx rs'.hou)) (.bl rs'.ang) vl' (.ref m) (.bl rs'.opened) (.ref l)))) rs' := by
  refine ⟨x.e0, go_above x.go x.na x.ga, x.na, upd_same, x.ga, ?_, hl, ?_, ?_, ?_, ?_, ?_⟩
  · rw [h1, h2]
    exact x.ph.up fun hb => x.ph.ne_ins hb x.ha
  · rw [h3, h4]
    exact x.me.up fun hb => x.me.ne_ins hb x.ha
  · rw [h5]
    exact x.li.up fun hb => x.li.ne_ins hb x.ha
  · rw [h1]; exact x.pl
  · rw [h1, h3]; exact x.pm
  · rw [h3]; exact x.ml
theorem LsAt.lst {b : Bool} {ds : List D} (x : LsAt H0 G H b p ds) (e : Ex G H) : H p ≠ none := by
  unfold LsAt at x
  split at x
  · obtain ⟨vs, h1, _⟩ := x
    rw [h1]
    exact (fun z => nomatch z)
  · obtain ⟨q, vs, h1, h2, _⟩ := x.lst_inv
    cases h1
    rw [e _ _ h2]
    exact (fun z => nomatch z)
/-- a new own list as phrase -/
theorem RdOk.newP (x : RdOk C G0 H0 a dx p m l vl G H rs) {q : Addr} {vs : List V} {ws : List Wd} (g : Go No G H G' H') (hn : H q = none) (hq : H' q = some (.lst vs)) (gq : G' q = none) (r : RpL G' vs (ws.map Wd.d)) :
    RdOk C G0 H0 a dx q m l vl G' (upd H' a (.ins C dx (flds (.str (Sx rs.stand)) (.ref q) (.str (Sx rs.loc)) (.str (Sx rs.hou)) (.bl rs.ang) vl (.ref m) (.bl rs.opened) (.ref l)))) { rs with phm := true, ph := ws } := by
  have y := x.goes g
  have h0 : H0 q = none := (Go.fresh (noB x.e0) x.go hn)
  have hqa : q ≠ a := by
    intro e
    subst e
    rw [x.ha] at hn
    cases hn
  refine ⟨x.e0, go_above y.go x.na y.ga, x.na, upd_same, y.ga, ?_, y.le, ?_, ?_, fun _ => ?_, fun _ hb => ?_, x.ml⟩
  · exact ⟨vs, by rw [upd_ne hqa]; exact hq, gq, h0, r⟩
  · exact y.me.up fun hb => y.me.ne_ins hb y.ha
  · exact y.li.up fun hb => y.li.ne_ins hb y.ha
  · intro e
    subst e
    exact x.li.lst x.go.gh hn
  · intro e
    subst e
    exact x.me.lst x.go.gh hn
/-- a new own list of members -/
theorem RdOk.newM (x : RdOk C G0 H0 a dx p m l vl G H rs) {q : Addr} {vs : List V} {ms : List One} (g : Go No G H G' H') (hn : H q = none) (hq : H' q = some (.lst vs)) (gq : G' q = none) (r : RpL G' vs (ms.map One.d)) :
    RdOk C G0 H0 a dx p q l vl G' (upd H' a (.ins C dx (flds (.str (Sx rs.stand)) (.ref p) (.str (Sx rs.loc)) (.str (Sx rs.hou)) (.bl rs.ang) vl (.ref q) (.bl rs.opened) (.ref l)))) { rs with mm := true, mem := ms } := by
  have y := x.goes g
  have h0 : H0 q = none := (Go.fresh (noB x.e0) x.go hn)
  have hqa : q ≠ a := by
    intro e
    subst e
    rw [x.ha] at hn
    cases hn
  refine ⟨x.e0, go_above y.go x.na y.ga, x.na, upd_same, y.ga, ?_, y.le, ?_, ?_, x.pl, fun hb _ => ?_, fun _ => ?_⟩
  · exact y.ph.up fun hb => y.ph.ne_ins hb y.ha
  · exact ⟨vs, by rw [upd_ne hqa]; exact hq, gq, h0, r⟩
  · exact y.li.up fun hb => y.li.ne_ins hb y.ha
  · intro e
    subst e
    exact x.ph.lst x.go.gh hn
  · intro e
    subst e
    exact x.li.lst x.go.gh hn
/-- an own list changes -/
theorem RdOk.chP (x : RdOk C G0 H0 a dx p m l vl G H rs) (hb : rs.phm = true) {vs : List V} {ws : List Wd} (r : RpL G vs (ws.map Wd.d)) : RdOk C G0 H0 a dx p m l vl G (upd H p (.lst vs)) { rs with ph := ws } := by
  have hpa := x.ph.ne_ins hb x.ha
  have y := x.ph
  unfold LsAt at y
  rw [if_pos hb] at y
  obtain ⟨us, h1, h2, h3, h4⟩ := y
  refine ⟨x.e0, go_above x.go h3 h2, x.na, by rw [upd_ne (Ne.symm hpa)]; exact x.ha, x.ga, ?_, x.le, x.me.up fun hm => (x.pm hb hm).symm, x.li.up fun _ => (x.pl hb).symm, x.pl, x.pm, x.ml⟩
  show LsAt H0 G _ rs.phm p _
  unfold LsAt
  rw [if_pos hb]
  exact ⟨vs, upd_same, h2, h3, r⟩
theorem RdOk.chM (x : RdOk C G0 H0 a dx p m l vl G H rs) (hb : rs.mm = true) {vs : List V} {ms : List One} (r : RpL G vs (ms.map One.d)) : RdOk C G0 H0 a dx p m l vl G (upd H m (.lst vs)) { rs with mem := ms } := by
  have hpa := x.me.ne_ins hb x.ha
  have y := x.me
  unfold LsAt at y
  rw [if_pos hb] at y
  obtain ⟨us, h1, h2, h3, h4⟩ := y
  refine ⟨x.e0, go_above x.go h3 h2, x.na, by rw [upd_ne (Ne.symm hpa)]; exact x.ha, x.ga, x.ph.up fun hp => x.pm hp hb, x.le, ?_, x.li.up fun _ => (x.ml hb).symm, x.pl, x.pm, x.ml⟩
  show LsAt H0 G _ rs.mm m _
  unfold LsAt
  rw [if_pos hb]
  exact ⟨vs, upd_same, h2, h3, r⟩
theorem RdOk.chL (x : RdOk C G0 H0 a dx p m l vl G H rs) {vs : List V} {as : List Adr} (r : RpL G vs (as.map Adr.d)) : RdOk C G0 H0 a dx p m l vl G (upd H l (.lst vs)) { rs with lst := as } := by
  have hpa := x.li.ne_ins rfl x.ha
  obtain ⟨us, h1, h2, h3, h4⟩ := x.li
  exact ⟨x.e0, go_above x.go h3 h2, x.na, by rw [upd_ne (Ne.symm hpa)]; exact x.ha, x.ga, x.ph.up fun hp => x.pl hp, x.le, x.me.up fun hm => x.ml hm, ⟨vs, upd_same, h2, h3, r⟩, x.pl, x.pm, x.ml⟩
/-- an own list stands still from now on -/
theorem go_frz0 {q : Addr} {o : HO} (g : Go No G0 H0 G H) (h0 : H0 q = none) (hq : H q = some o) (gq : G q = none) : Go No G0 H0 (upd G q o) H := Go.freeze g h0 hq gq
theorem exU {q : Addr} {o : HO} (gq : G q = none) : Ex G (upd G q o) := Ex.new gq
theorem LsAt.frz {b : Bool} {ds : List D} {q : Addr} {o : HO} (x : LsAt H0 G H b p ds) (gq : G q = none) (h : b = true → p ≠ q) : LsAt H0 (upd G q o) H b p ds := by
  unfold LsAt at x ⊢
  split at x
  · next hb =>
    rw [if_pos hb]
    obtain ⟨vs, h1, h2, h3, h4⟩ := x
    exact ⟨vs, h1, by rw [upd_ne (h hb)]; exact h2, h3, h4.mono (Ex.new gq)⟩
  · next hb =>
    rw [if_neg hb]
    exact x.mono (Ex.new gq)
theorem RdOk.frzP (x : RdOk C G0 H0 a dx p m l vl G H rs) : ∃ G', Ex G G' ∧ RdOk C G0 H0 a dx p m l vl G' H { rs with phm := false } := by
  cases hb : rs.phm with
  | false => exact ⟨G, Ex.refl G, ⟨x.e0, x.go, x.na, x.ha, x.ga, by have := x.ph; rw [hb] at this; exact this, x.le, x.me, x.li, (fun z => nomatch z), (fun z => nomatch z), x.ml⟩⟩
  | true =>
    have hpa := x.ph.ne_ins hb x.ha
    have y := x.ph
    unfold LsAt at y
    rw [if_pos hb] at y
    obtain ⟨us, h1, h2, h3, h4⟩ := y
    refine ⟨upd G p (.lst us), Ex.new h2, x.e0, go_frz0 x.go h3 h1 h2, x.na, x.ha, by rw [upd_ne (Ne.symm hpa)]; exact x.ga, ?_, x.le.mono (Ex.new h2), x.me.frz h2 fun hm => (x.pm hb hm).symm, x.li.frz h2 fun _ => (x.pl hb).symm, (fun z => nomatch z), (fun z => nomatch z), x.ml⟩
    exact Rp.lst upd_same (h4.mono (Ex.new h2))
theorem RdOk.frzM (x : RdOk C G0 H0 a dx p m l vl G H rs) : ∃ G', Ex G G' ∧ RdOk C G0 H0 a dx p m l vl G' H { rs with mm := false } := by
  cases hb : rs.mm with
  | false => exact ⟨G, Ex.refl G, ⟨x.e0, x.go, x.na, x.ha, x.ga, x.ph, x.le, by have := x.me; rw [hb] at this; exact this, x.li, x.pl, (fun _ z => nomatch z), (fun z => nomatch z)⟩⟩
  | true =>
    have hpa := x.me.ne_ins hb x.ha
    have y := x.me
    unfold LsAt at y
    rw [if_pos hb] at y
    obtain ⟨us, h1, h2, h3, h4⟩ := y
    refine ⟨upd G m (.lst us), Ex.new h2, x.e0, go_frz0 x.go h3 h1 h2, x.na, x.ha, by rw [upd_ne (Ne.symm hpa)]; exact x.ga, x.ph.frz h2 fun hp => x.pm hp hb, x.le.mono (Ex.new h2), ?_, x.li.frz h2 fun _ => (x.ml hb).symm, x.pl, (fun _ z => nomatch z), (fun z => nomatch z)⟩
    exact Rp.lst upd_same (h4.mono (Ex.new h2))
end
end Fk
namespace Fk
open PySem PySem.Spec PyProof.Rows L2 Evl Dl Mr
/-! ### the methods' bodies -/
/-- self in slot 0, data in the others -/
structure MP (C : Addr) (G0 H0 : Hp) (a : Addr) (rs : Rs) (sl : List (Option D)) (G H : Hp) (σ : L2.St) : Prop where
  rd : RdAt C G0 H0 a G H rs
  self : σ[0]? = some (some (.ref a))
  len : σ.length = sl.length
  dat : ∀ (i : Nat) (d : D), sl[i]? = some (some d) → ∃ v, σ[i]? = some (some v) ∧ Rp G v d
theorem MP.go {C : Addr} {G0 H0 : Hp} {a : Addr} {rs : Rs} {sl : List (Option D)} {G H G' H' : Hp} {σ : L2.St} (x : MP C G0 H0 a rs sl G H σ) (g : Go No G H G' H') : MP C G0 H0 a rs sl G' H' σ :=
  ⟨x.rd.goes g, x.self, x.len, fun i d h => by
    obtain ⟨v, h1, h2⟩ := x.dat i d h
    exact ⟨v, h1, h2.mono g.g⟩⟩
def rc (C : Addr) (G0 H0 : Hp) (a : Addr) (rs : Rs) (sl : List (Option D)) : Dm.Ctx No := ⟨MP C G0 H0 a rs sl, fun x => x.rd.base, fun x g => x.go g⟩
/-- R: what is handed back, and how the instance then is -/
def RunM (C : Addr) (G0 H0 : Hp) (a : Addr) (ts : TS) (rs : Rs) (sl : List (Option D)) (R : Rs → D → Prop) : Prop := ∀ (G H : Hp) (σ : L2.St) (E : Ends), MP C G0 H0 a rs sl G H σ →
  (∀ v d rs' G' H', R rs' d → RdAt C G0 H0 a G' H' rs' → Ex G G' → Rp G' v d → E.rt v H') → ts E σ H
/-- an expression that changes the instance -/
def ExM (C : Addr) (G0 H0 : Hp) (a : Addr) (te : TE) (rs : Rs) (sl : List (Option D)) (R : Rs → D → Prop) : Prop := ∀ (G H : Hp) (σ : L2.St), MP C G0 H0 a rs sl G H σ → ∀ Q : VK,
  (∀ v d rs' G' H', R rs' d → RdAt C G0 H0 a G' H' rs' → Ex G G' → Rp G' v d → Q v H') → te σ H Q
/-- a method's promise -/
def spM {α : Type} (C : Addr) (args : α → List D) (pre : α → Rs → Prop) (post : α → Rs → Rs → D → Prop) : Sp := fun vs H Q _ => ∃ (x : α) (G G0 H0 : Hp) (a : Addr) (rs : Rs) (ws : List V), vs = .ref a :: ws ∧ RdAt C G0 H0 a G H rs ∧ RpL G ws (args x) ∧ pre x rs ∧
  ∀ v d rs' G' H', post x rs rs' d → RdAt C G0 H0 a G' H' rs' → Ex G G' → Rp G' v d → Q v H'
section
variable {C : Addr} {G0 H0 : Hp} {a : Addr} {rs rs' : Rs} {sl : List (Option D)} {R : Rs → D → Prop} {te ta tb tv : TE} {t : TT} {t1 t2 u1 u2 : TS} {d x y : D} {K : PySem.W.Frag} {f : PySem.Str} {P : D → Prop}
theorem mv {i : Nat} (h : sl[i]? = some (some d)) : Dm.EvV No (tVar i) (rc C G0 H0 a rs sl) d := fun G H σ c Q q => by
  obtain ⟨v, h1, h2⟩ := c.p.dat i d h
  exact ⟨v, h1, q v d G H rfl c.base.refl h2⟩
theorem m_fld (hc : Cls K C) (hn : NoAttr K C f) (h : ∀ G H dx p m l vl, RdOk C G0 H0 a dx p m l vl G H rs → ∃ v, (flds (.str (Sx rs.stand)) (.ref p) (.str (Sx rs.loc)) (.str (Sx rs.hou)) (.bl rs.ang) vl (.ref m) (.bl rs.opened) (.ref l)).lookup f = some v ∧ Rp G v d) :
    Dm.EvV No (tFld K (tVar 0) f) (rc C G0 H0 a rs sl) d := fun G H σ c Q q => by
  obtain ⟨dx, p, m, l, vl, ok⟩ := c.p.rd
  obtain ⟨v, h1, h2⟩ := h G H dx p m l vl ok
  exact ⟨_, c.p.self, a, C, dx, _, v, rfl, ok.ha, hc, hn, h1, q v d G H rfl c.base.refl h2⟩
theorem rm_ret (h : Dm.EvD No te (rc C G0 H0 a rs sl) P) (h2 : ∀ d, P d → R rs d) : RunM C G0 H0 a (tSeq (tRet te) t2) rs sl R := fun G H σ E c k =>
  h G H σ ⟨c⟩ _ fun v d G' H' pd g r => k v d rs G' H' (h2 d pd) (c.rd.goes g) g.g r
theorem rm_retX (h : ExM C G0 H0 a te rs sl R) : RunM C G0 H0 a (tSeq (tRet te) t2) rs sl R := fun G H σ E c k => h G H σ c _ k
theorem RunM.go {G G' H' : Hp} {σ : L2.St} {E : Ends} (h : RunM C G0 H0 a t1 rs sl R) (c : MP C G0 H0 a rs sl G' H' σ) (e : Ex G G') (k : ∀ v d rs' G' H', R rs' d → RdAt C G0 H0 a G' H' rs' → Ex G G' → Rp G' v d → E.rt v H') : t1 E σ H' :=
  h G' H' σ E c fun v d rs' G2 H2 rd q e2 r => k v d rs' G2 H2 rd q (e.trans e2) r
theorem rm_if {bb : Bool} (h : Dm.EvB No t (rc C G0 H0 a rs sl) bb) (h1 : bb = true → RunM C G0 H0 a (tSeq t1 t2) rs sl R) (h2 : bb = false → RunM C G0 H0 a (tSeq u1 t2) rs sl R) : RunM C G0 H0 a (tSeq (tIfS t t1 u1) t2) rs sl R := fun G H σ E c k =>
  h G H σ ⟨c⟩ _ fun b G' H' eb g => by
    subst eb
    cases b with
    | true => rw [if_pos rfl]; exact (h1 rfl).go (c.go g) g.g k
    | false => rw [if_neg Bool.false_ne_true]; exact (h2 rfl).go (c.go g) g.g k
theorem rm_yes (h : Dm.EvB No t (rc C G0 H0 a rs sl) true) (h1 : RunM C G0 H0 a (tSeq t1 t2) rs sl R) : RunM C G0 H0 a (tSeq (tIfS t t1 u1) t2) rs sl R := rm_if h (fun _ => h1) fun z => by cases z
theorem rm_no (h : Dm.EvB No t (rc C G0 H0 a rs sl) false) (h1 : RunM C G0 H0 a (tSeq u1 t2) rs sl R) : RunM C G0 H0 a (tSeq (tIfS t t1 u1) t2) rs sl R := rm_if h (fun z => by cases z) fun _ => h1
theorem rm_skip (h : RunM C G0 H0 a t2 rs sl R) : RunM C G0 H0 a (tSeq tNext t2) rs sl R := h
theorem rm_flat (h : RunM C G0 H0 a (tSeq t1 (tSeq u1 t2)) rs sl R) : RunM C G0 H0 a (tSeq (tSeq t1 u1) t2) rs sl R := h
theorem rm_set {i : Nat} (hi : i ≠ 0) (h : Dm.EvV No te (rc C G0 H0 a rs sl) d) (h2 : RunM C G0 H0 a t2 rs (sl.set i (some d)) R) : RunM C G0 H0 a (tSeq (tAsg te (gName i)) t2) rs sl R := fun G H σ E c k =>
  h G H σ ⟨c⟩ _ fun v d' G' H' ed g r => by
    subst ed
    have c' := c.go g
    refine h2.go (σ := σ.set i (some v)) ⟨c'.rd, by rw [List.getElem?_set_ne hi]; exact c'.self, by rw [List.length_set, List.length_set]; exact c'.len, fun j dd hj => ?_⟩ g.g k
    by_cases hij : i = j
    · subst hij
      by_cases hl : i < sl.length
      · rw [List.getElem?_set_self hl] at hj
        cases hj
        exact ⟨v, by rw [List.getElem?_set_self (by rw [c'.len]; exact hl)], r⟩
      · rw [List.getElem?_eq_none (by rw [List.length_set]; omega)] at hj
        cases hj
    · rw [List.getElem?_set_ne hij] at hj
      rw [List.getElem?_set_ne hij]
      exact c'.dat j dd hj
/-- a field given data -/
theorem rm_fld (hc : Cls K C) (hn : NoAttr K C f) (h : Dm.EvV No te (rc C G0 H0 a rs sl) d) (hu : ∀ G H dx p m l vl v, RdOk C G0 H0 a dx p m l vl G H rs → Rp G v d →
      ∃ vl', RdOk C G0 H0 a dx p m l vl' G (upd H a (.ins C dx (putF f v (flds (.str (Sx rs.stand)) (.ref p) (.str (Sx rs.loc)) (.str (Sx rs.hou)) (.bl rs.ang) vl (.ref m) (.bl rs.opened) (.ref l))))) rs')
    (h2 : RunM C G0 H0 a t2 rs' sl R) : RunM C G0 H0 a (tSeq (sFld K (tVar 0) te f) t2) rs sl R := fun G H σ E c k =>
  h G H σ ⟨c⟩ _ fun v d' G' H' ed g r => by
    subst ed
    have c' := c.go g
    obtain ⟨dx, p, m, l, vl, ok⟩ := c'.rd
    obtain ⟨vl', ok'⟩ := hu G' H' dx p m l vl v ok r
    exact ⟨_, c'.self, a, C, dx, _, rfl, ok.ha, hc, hn, (by show (9 : Nat) < 1000; decide), h2.go ⟨⟨dx, p, m, l, vl', ok'⟩, c'.self, c'.len, c'.dat⟩ g.g k⟩
/-- a new list as phrase, as members -/
theorem rm_newP {ws : List Wd} (hc : Cls K C) (hn : NoAttr K C "phrase") (h : Dm.EvF No te (rc C G0 H0 a rs sl) (fun l => l = ws.map Wd.d)) (h2 : RunM C G0 H0 a t2 { rs with phm := true, ph := ws } sl R) : RunM C G0 H0 a (tSeq (sFld K (tVar 0) te "phrase") t2) rs sl R := fun G H σ E c k =>
  h G H σ ⟨c⟩ _ fun q vs ds G' H' eds g hn' hq gq r => by
    subst eds
    have c' := c.go g
    obtain ⟨dx, p, m, l, vl, ok⟩ := c.rd
    have ok' := ok.newP g hn' hq gq r
    exact ⟨_, c'.self, a, C, dx, _, rfl, (ok.goes g).ha, hc, hn, (by show (9 : Nat) < 1000; decide), h2.go ⟨⟨dx, q, m, l, vl, ok'⟩, c'.self, c'.len, c'.dat⟩ g.g k⟩
theorem rm_newM {ms : List One} (hc : Cls K C) (hn : NoAttr K C "members") (h : Dm.EvF No te (rc C G0 H0 a rs sl) (fun l => l = ms.map One.d)) (h2 : RunM C G0 H0 a t2 { rs with mm := true, mem := ms } sl R) : RunM C G0 H0 a (tSeq (sFld K (tVar 0) te "members") t2) rs sl R := fun G H σ E c k =>
  h G H σ ⟨c⟩ _ fun q vs ds G' H' eds g hn' hq gq r => by
    subst eds
    have c' := c.go g
    obtain ⟨dx, p, m, l, vl, ok⟩ := c.rd
    have ok' := ok.newM g hn' hq gq r
    exact ⟨_, c'.self, a, C, dx, _, rfl, (ok.goes g).ha, hc, hn, (by show (9 : Nat) < 1000; decide), h2.go ⟨⟨dx, p, q, l, vl, ok'⟩, c'.self, c'.len, c'.dat⟩ g.g k⟩
theorem rm_frzP (h : RunM C G0 H0 a t1 { rs with phm := false } sl R) : RunM C G0 H0 a t1 rs sl R := fun G H σ E c k => by
  obtain ⟨dx, p, m, l, vl, ok⟩ := c.rd
  obtain ⟨G', e, ok'⟩ := ok.frzP
  exact h.go ⟨⟨dx, p, m, l, vl, ok'⟩, c.self, c.len, fun i d h => by
    obtain ⟨v, h1, h2⟩ := c.dat i d h
    exact ⟨v, h1, h2.mono e⟩⟩ e k
theorem rm_frzM (h : RunM C G0 H0 a t1 { rs with mm := false } sl R) : RunM C G0 H0 a t1 rs sl R := fun G H σ E c k => by
  obtain ⟨dx, p, m, l, vl, ok⟩ := c.rd
  obtain ⟨G', e, ok'⟩ := ok.frzM
  exact h.go ⟨⟨dx, p, m, l, vl, ok'⟩, c.self, c.len, fun i d h => by
    obtain ⟨v, h1, h2⟩ := c.dat i d h
    exact ⟨v, h1, h2.mono e⟩⟩ e k
/-- an item behind one of the lists -/
theorem rm_appP {w : Wd} (hc : Cls K C) (hn : NoAttr K C "phrase") (hb : rs.phm = true) (hl : rs.ph.length < sizeLine) (h : Dm.EvV No te (rc C G0 H0 a rs sl) (Wd.d w)) (h2 : RunM C G0 H0 a t2 { rs with ph := rs.ph ++ [w] } sl R) :
    RunM C G0 H0 a (tSeq (tDrop (tBM K "list" rAppend (tFld K (tVar 0) "phrase") (tCons te tNil))) t2) rs sl R := fun G H σ E c k => by
  obtain ⟨dx, p, m, l, vl, ok⟩ := c.rd
  have y := ok.ph
  unfold LsAt at y
  rw [if_pos hb] at y
  obtain ⟨us, h1, g1, z1, r1⟩ := y
  refine ⟨_, c.self, a, C, dx, _, .ref p, rfl, ok.ha, hc, hn, rfl, .inl ⟨rfl, us, SqL.of h1⟩, ?_⟩
  refine h G H σ ⟨c⟩ _ fun v d G' H' ed g r => ?_
  subst ed
  have ok2 := ok.goes g
  have h1' := g.h p _ (fun z => z) h1
  have ok3 := ok2.chP hb (vs := us ++ [v]) (ws := rs.ph ++ [w]) (by rw [List.map_append]; exact (r1.mono g.g).append (.one r))
  have hlen : us.length < sizeLine := by rw [r1.length, List.length_map]; exact hl
  exact ⟨p, us, v, rfl, rfl, h1', hlen, h2.go ⟨⟨dx, p, m, l, vl, ok3⟩, c.self, c.len, (c.go g).dat⟩ g.g k⟩
theorem rm_appM {o : One} (hc : Cls K C) (hn : NoAttr K C "members") (hb : rs.mm = true) (hl : rs.mem.length < sizeLine) (h : Dm.EvV No te (rc C G0 H0 a rs sl) (One.d o)) (h2 : RunM C G0 H0 a t2 { rs with mem := rs.mem ++ [o] } sl R) :
    RunM C G0 H0 a (tSeq (tDrop (tBM K "list" rAppend (tFld K (tVar 0) "members") (tCons te tNil))) t2) rs sl R := fun G H σ E c k => by
  obtain ⟨dx, p, m, l, vl, ok⟩ := c.rd
  have y := ok.me
  unfold LsAt at y
  rw [if_pos hb] at y
  obtain ⟨us, h1, g1, z1, r1⟩ := y
  refine ⟨_, c.self, a, C, dx, _, .ref m, rfl, ok.ha, hc, hn, rfl, .inl ⟨rfl, us, SqL.of h1⟩, ?_⟩
  refine h G H σ ⟨c⟩ _ fun v d G' H' ed g r => ?_
  subst ed
  have ok2 := ok.goes g
  have h1' := g.h m _ (fun z => z) h1
  have ok3 := ok2.chM hb (vs := us ++ [v]) (ms := rs.mem ++ [o]) (by rw [List.map_append]; exact (r1.mono g.g).append (.one r))
  have hlen : us.length < sizeLine := by rw [r1.length, List.length_map]; exact hl
  exact ⟨m, us, v, rfl, rfl, h1', hlen, h2.go ⟨⟨dx, p, m, l, vl, ok3⟩, c.self, c.len, (c.go g).dat⟩ g.g k⟩
theorem rm_appL {o : Adr} (hc : Cls K C) (hn : NoAttr K C "listed") (hl : rs.lst.length < sizeLine) (h : Dm.EvV No te (rc C G0 H0 a rs sl) (Adr.d o)) (h2 : RunM C G0 H0 a t2 { rs with lst := rs.lst ++ [o] } sl R) :
    RunM C G0 H0 a (tSeq (tDrop (tBM K "list" rAppend (tFld K (tVar 0) "listed") (tCons te tNil))) t2) rs sl R := fun G H σ E c k => by
  obtain ⟨dx, p, m, l, vl, ok⟩ := c.rd
  obtain ⟨us, h1, g1, z1, r1⟩ := ok.li
  refine ⟨_, c.self, a, C, dx, _, .ref l, rfl, ok.ha, hc, hn, rfl, .inl ⟨rfl, us, SqL.of h1⟩, ?_⟩
  refine h G H σ ⟨c⟩ _ fun v d G' H' ed g r => ?_
  subst ed
  have ok2 := ok.goes g
  have h1' := g.h l _ (fun z => z) h1
  have ok3 := ok2.chL (vs := us ++ [v]) (as := rs.lst ++ [o]) (by rw [List.map_append]; exact (r1.mono g.g).append (.one r))
  have hlen : us.length < sizeLine := by rw [r1.length, List.length_map]; exact hl
  exact ⟨l, us, v, rfl, rfl, h1', hlen, h2.go ⟨⟨dx, p, m, l, vl, ok3⟩, c.self, c.len, (c.go g).dat⟩ g.g k⟩
theorem xm_and (h1 : Dm.EvV No ta (rc C G0 H0 a rs sl) (.bl true)) (h2 : ExM C G0 H0 a tb rs sl R) : ExM C G0 H0 a (tAndV ta tb) rs sl R := fun G H σ c Q k =>
  h1 G H σ ⟨c⟩ _ fun v d G' H' ed g r => by
    subst ed
    cases r
    refine ⟨true, rfl, ?_⟩
    rw [if_pos rfl]
    exact h2 G' H' σ (c.go g) _ fun v d rs' G2 H2 rd q e r => k v d rs' G2 H2 rd q (g.g.trans e) r
theorem xm_meth {α : Type} {m : PySem.Str} {args : α → List D} {pre : α → Rs → Prop} {post : α → Rs → Rs → D → Prop} {tr : TA} {E : XK} (x : α) (hl : ∀ p lo ho an le me op li st, (flds st p lo ho an le me op li).lookup m = none) (ha : Dm.EvAV No tr (rc C G0 H0 a rs sl) (args x)) (hp : pre x rs) (hr : ∀ rs' d, post x rs rs' d → R rs' d) :
    ExM C G0 H0 a (tMeth C m (spM C args pre post) [] E (tVar 0) tr) rs sl R := fun G H σ c Q k => by
  obtain ⟨dx, p, m', l, vl, ok⟩ := c.rd
  refine ⟨_, c.self, a, dx, _, rfl, ok.ha, hl .., ?_⟩
  refine ha G H σ ⟨c⟩ _ fun vs ds G' H' ed g r => ?_
  subst ed
  rw [List.append_nil]
  exact ⟨x, G', G0, H0, a, rs, vs, rfl, c.rd.goes g, r, hp, fun v d rs' G2 H2 po q e rr => k v d rs' G2 H2 (hr rs' d po) q (g.g.trans e) rr⟩
end
/-- a method by its body -/
theorem met_M {P : Program} {w : World} {K : PySem.W.Frag} {mg : PySem.Str → Option Value} {base : Heap} {C : Addr} {m q : PySem.Str} {st : Stmt} {N ps : List PySem.Str} {k : Nat} {α : Type} {args : α → List D} {pre : α → Rs → Prop} {post : α → Rs → Rs → D → Prop}
    (hc : Cls K C) (F : DefM K C m q st) (S : FnScope N ps (defScope st)) (hps : ∀ x, (args x).length + 1 = ps.length) (hN : ps.length ≤ N.length)
    (hb : ∀ (kV doc pm : Value) (an : Option Addr) (cdv ct : Value) (us : List Value), us.length = ps.length → bindArgs (PySem.W.fnOf m q (defArgs st) (defBody st) (defScope st) .none kV doc pm an cdv ct) ⟨us, []⟩ = pure (ps.zip us))
    (body : ∀ (f : Addr) (cdv : Value) (A : Around) (outer : List Env) (s : Shared) (H : Hp) (E : XK), Room k (Xof P w K mg base N q st f cdv A outer s H E).A → ∃ ts, PSs (Xof P w K mg base N q st f cdv A outer s H E) (defBody st) ts ∧ ∀ x rs G0 H0 a, pre x rs → RunM C G0 H0 a ts rs (none :: ((args x).map some ++ List.replicate (N.length - ps.length) none)) (post x rs)) :
    C8.Met P w K mg base (k + 1) C m (spM C args pre post) [] := by
  obtain ⟨f, fd, F, hm⟩ := F.ex
  refine ⟨f, fd, ps, [], hc, hm, F.ok S (fun vs H Q E h => ?_) (fun cdv A outer s H vs Q E hr h => (body f cdv A outer s H E hr).elim fun ts z => ⟨ts, z.1.nox, ?_⟩), F.bindsN hb, .nil⟩
  · obtain ⟨x, G, G0, H0, a, rs, ws, rfl, _, r, _⟩ := h
    rw [List.length_cons, r.length]
    exact hps x
  · obtain ⟨x, G, G0, H0, a, rs, ws, rfl, rd, r, hp, hq⟩ := h
    have hl := hps x
    have hw := r.length
    refine z.2 x rs G0 H0 a hp G H _ _ ⟨rd, ?_, ?_, ?_⟩ fun v d rs' G' H' po rd' e rr => hq v d rs' G' H' po rd' e rr
    · rfl
    · unfold L2.start
      simp
      omega
    · intro i d hi
      unfold L2.start
      cases i with
      | zero => cases hi
      | succ i =>
        rw [List.getElem?_cons_succ] at hi
        rw [List.map_cons, List.cons_append, List.getElem?_cons_succ]
        by_cases hlt : i < (args x).length
        · rw [List.getElem?_append_left (by rw [List.length_map]; exact hlt), List.getElem?_map, List.getElem?_eq_getElem hlt] at hi
          cases hi
          obtain ⟨v, h1, h2⟩ := r.get (List.getElem?_eq_getElem hlt)
          refine ⟨v, ?_, h2⟩
          rw [List.getElem?_append_left (by rw [List.length_map, hw]; exact hlt), List.getElem?_map, h1]
          rfl
        · rw [List.getElem?_append_right (by rw [List.length_map]; omega)] at hi
          obtain ⟨hh, e⟩ := List.getElem?_eq_some_iff.mp hi
          rw [List.getElem_replicate] at e
          cases e
end Fk
namespace Fk
open PySem PySem.Spec PyProof.Rows L2 Evl Dl Mr
def sBegin : List Nat := [98, 101, 103, 105, 110]
def sPhrase : List Nat := [112, 104, 114, 97, 115, 101]
def sLocal : List Nat := [108, 111, 99, 97, 108]
def sAt : List Nat := [97, 116]
def sHouse : List Nat := [104, 111, 117, 115, 101]
def sAngle : List Nat := [97, 110, 103, 108, 101]
def sBehind : List Nat := [98, 101, 104, 105, 110, 100]
def doOne (rs : Rs) : Rs := match rs.lead with
  | none => { rs with phm := false, lst := rs.lst ++ [.one ⟨phraseSaying rs.ph, rs.loc, rs.hou⟩], opened := false, stand := sBehind }
  | some _ => { rs with phm := false, mem := rs.mem ++ [⟨phraseSaying rs.ph, rs.loc, rs.hou⟩], opened := false, stand := sBehind }
def doGroup (rs : Rs) (s : List Int) : Rs := { rs with mm := false, lst := rs.lst ++ [.grp s rs.mem], lead := none, opened := false, stand := sBehind }
def Ready (rs : Rs) : Prop := WsOk rs.ph ∧ rs.lst.length ≤ 1000 ∧ rs.mem.length ≤ 1000 ∧ (rs.lead ≠ none → rs.mm = true)
inductive St (rs : Rs) (w : Wd) : Rs → Prop
  | bText : rs.stand = sBegin → w.sort ≠ sMark → St rs w { rs with phm := true, ph := [w], stand := sPhrase }
  | bAngle : rs.stand = sBegin → w.sort = sMark → w.text = [60] → St rs w { rs with phm := true, ph := [], stand := sLocal }
  | bGroup {s : List Int} : rs.stand = sBegin → w.sort = sMark → w.text = [59] → rs.opened = true → rs.lead = some s → rs.lst.length ≤ 1000 → St rs w (doGroup rs s)
  | pText : rs.stand = sPhrase → w.sort ≠ sMark → rs.phm = true → rs.ph.length ≤ 1000 → St rs w { rs with ph := rs.ph ++ [w] }
  | pAt {x : Wd} : rs.stand = sPhrase → w.sort = sMark → w.text = [64] → rs.ph = [x] → LocOk x.text → St rs w { rs with phm := true, ph := [], loc := x.text, ang := false, stand := sHouse }
  | pAngle : rs.stand = sPhrase → w.sort = sMark → w.text = [60] → St rs w { rs with stand := sLocal }
  | pColon : rs.stand = sPhrase → w.sort = sMark → w.text = [58] → rs.lead = none → WsOk rs.ph → phraseSaying rs.ph ≠ [] → St rs w { rs with phm := false, lead := some (phraseSaying rs.ph), mm := true, mem := [], opened := true, stand := sBegin }
  | lText : rs.stand = sLocal → w.sort ≠ sMark → St rs w { rs with loc := w.text, stand := sAt }
  | aAt : rs.stand = sAt → w.sort = sMark → w.text = [64] → LocOk rs.loc → St rs w { rs with ang := true, stand := sHouse }
  | hAng : rs.stand = sHouse → w.sort = sAtom → (∀ c ∈ w.text, c < 128) → HouseOk (w.text.map lo1) → rs.ang = true → St rs w { rs with hou := w.text.map lo1, stand := sAngle }
  | hOne : rs.stand = sHouse → w.sort = sAtom → (∀ c ∈ w.text, c < 128) → HouseOk (w.text.map lo1) → rs.ang = false → Ready rs → St rs w (doOne { rs with hou := w.text.map lo1 })
  | gOne : rs.stand = sAngle → w.sort = sMark → w.text = [62] → Ready rs → St rs w (doOne rs)
  | eGroup {s : List Int} : rs.stand = sBehind → w.sort = sMark → w.text = [59] → rs.lead = some s → rs.lst.length ≤ 1000 → St rs w (doGroup rs s)
  | eComma : rs.stand = sBehind → w.sort = sMark → w.text = [44] → St rs w { rs with stand := sBegin, opened := false }
section
variable {C : Addr} {G0 H0 : Hp} {a : Addr} {rs rs' : Rs} {sl : List (Option D)} {R : Rs → D → Prop} {te : TE} {t2 : TS} {d : D} {K : PySem.W.Frag} {mg : PySem.Str → Option Value}
theorem f_stand (T : Rx K mg C) : Dm.EvV No (tFld K (tVar 0) "stand") (rc C G0 H0 a rs sl) (.str rs.stand) := m_fld T.cls T.n_stand fun _ _ _ _ _ _ _ ok => ⟨_, rfl, .str _⟩
theorem f_loc (T : Rx K mg C) : Dm.EvV No (tFld K (tVar 0) "local") (rc C G0 H0 a rs sl) (.str rs.loc) := m_fld T.cls T.n_local fun _ _ _ _ _ _ _ ok => ⟨_, rfl, .str _⟩
theorem f_hou (T : Rx K mg C) : Dm.EvV No (tFld K (tVar 0) "house") (rc C G0 H0 a rs sl) (.str rs.hou) := m_fld T.cls T.n_house fun _ _ _ _ _ _ _ ok => ⟨_, rfl, .str _⟩
theorem f_ang (T : Rx K mg C) : Dm.EvV No (tFld K (tVar 0) "is_angled") (rc C G0 H0 a rs sl) (.bl rs.ang) := m_fld T.cls T.n_is_angled fun _ _ _ _ _ _ _ ok => ⟨_, rfl, .bl _⟩
theorem f_opened (T : Rx K mg C) : Dm.EvV No (tFld K (tVar 0) "is_opened") (rc C G0 H0 a rs sl) (.bl rs.opened) := m_fld T.cls T.n_is_opened fun _ _ _ _ _ _ _ ok => ⟨_, rfl, .bl _⟩
theorem f_lead (T : Rx K mg C) : Dm.EvV No (tFld K (tVar 0) "leader") (rc C G0 H0 a rs sl) (optL rs.lead) := m_fld T.cls T.n_leader fun _ _ _ _ _ _ _ ok => ⟨_, rfl, ok.le⟩
theorem f_ph (T : Rx K mg C) (h : rs.phm = false) : Dm.EvV No (tFld K (tVar 0) "phrase") (rc C G0 H0 a rs sl) (.lst (rs.ph.map Wd.d)) := m_fld T.cls T.n_phrase fun _ _ _ _ _ _ _ ok => ⟨_, rfl, by
  have := ok.ph
  unfold LsAt at this
  rw [if_neg (by rw [h]; exact Bool.false_ne_true)] at this
  exact this⟩
theorem f_mem (T : Rx K mg C) (h : rs.mm = false) : Dm.EvV No (tFld K (tVar 0) "members") (rc C G0 H0 a rs sl) (.lst (rs.mem.map One.d)) := m_fld T.cls T.n_members fun _ _ _ _ _ _ _ ok => ⟨_, rfl, by
  have := ok.me
  unfold LsAt at this
  rw [if_neg (by rw [h]; exact Bool.false_ne_true)] at this
  exact this⟩
theorem w_stand (T : Rx K mg C) {s : List Nat} (h : Dm.EvV No te (rc C G0 H0 a rs sl) (.str s)) (h2 : RunM C G0 H0 a t2 { rs with stand := s } sl R) : RunM C G0 H0 a (tSeq (sFld K (tVar 0) te "stand") t2) rs sl R :=
  rm_fld T.cls T.n_stand h (fun G H dx p m l vl v ok r => ⟨vl, by cases r; exact ok.set { rs with stand := s } ok.le rfl rfl rfl rfl rfl⟩) h2
theorem w_loc (T : Rx K mg C) {s : List Nat} (h : Dm.EvV No te (rc C G0 H0 a rs sl) (.str s)) (h2 : RunM C G0 H0 a t2 { rs with loc := s } sl R) : RunM C G0 H0 a (tSeq (sFld K (tVar 0) te "local") t2) rs sl R :=
  rm_fld T.cls T.n_local h (fun G H dx p m l vl v ok r => ⟨vl, by cases r; exact ok.set { rs with loc := s } ok.le rfl rfl rfl rfl rfl⟩) h2
theorem w_hou (T : Rx K mg C) {s : List Nat} (h : Dm.EvV No te (rc C G0 H0 a rs sl) (.str s)) (h2 : RunM C G0 H0 a t2 { rs with hou := s } sl R) : RunM C G0 H0 a (tSeq (sFld K (tVar 0) te "house") t2) rs sl R :=
  rm_fld T.cls T.n_house h (fun G H dx p m l vl v ok r => ⟨vl, by cases r; exact ok.set { rs with hou := s } ok.le rfl rfl rfl rfl rfl⟩) h2
theorem w_ang (T : Rx K mg C) {s : Bool} (h : Dm.EvV No te (rc C G0 H0 a rs sl) (.bl s)) (h2 : RunM C G0 H0 a t2 { rs with ang := s } sl R) : RunM C G0 H0 a (tSeq (sFld K (tVar 0) te "is_angled") t2) rs sl R :=
  rm_fld T.cls T.n_is_angled h (fun G H dx p m l vl v ok r => ⟨vl, by cases r; exact ok.set { rs with ang := s } ok.le rfl rfl rfl rfl rfl⟩) h2
theorem w_opened (T : Rx K mg C) {s : Bool} (h : Dm.EvV No te (rc C G0 H0 a rs sl) (.bl s)) (h2 : RunM C G0 H0 a t2 { rs with opened := s } sl R) : RunM C G0 H0 a (tSeq (sFld K (tVar 0) te "is_opened") t2) rs sl R :=
  rm_fld T.cls T.n_is_opened h (fun G H dx p m l vl v ok r => ⟨vl, by cases r; exact ok.set { rs with opened := s } ok.le rfl rfl rfl rfl rfl⟩) h2
theorem w_lead (T : Rx K mg C) {s : Option (List Int)} (h : Dm.EvV No te (rc C G0 H0 a rs sl) (optL s)) (h2 : RunM C G0 H0 a t2 { rs with lead := s } sl R) : RunM C G0 H0 a (tSeq (sFld K (tVar 0) te "leader") t2) rs sl R :=
  rm_fld T.cls T.n_leader h (fun G H dx p m l vl v ok r => ⟨v, ok.set { rs with lead := s } r rfl rfl rfl rfl rfl⟩) h2
end
end Fk
namespace Fk
open PySem PySem.Spec PyProof.Rows L2 Evl Dl Mr
section
variable {P : Program} {w : World} {K : PySem.W.Frag} {mg : PySem.Str → Option Value} {base : Heap} {C : Addr}
theorem strV {S : Addr → Prop} {ρ : Dm.Ctx S} {s : PySem.Str} {l : List Nat} (h : s.cps.toList = l) : Dm.EvV S (tC (.str s)) ρ (.str l) := Dm.ev_strL h
abbrev N_is_done : List PySem.Str := ["self"]
theorem sc_is_done : FnScope N_is_done ["self"] (defScope m_is_done) := ⟨rfl, rfl, rfl, by decide +kernel, rfl, by decide +kernel, by decide +kernel⟩
def isDone (rs : Rs) : Bool := decide (rs.stand = sBehind) && !rs.lead.isSome
theorem optL_isN (s : Option (List Int)) {S : Addr → Prop} : OpV S rIsN (optL s) .non (.bl (!s.isSome)) := by
  cases s with
  | none => exact o_isN fun _ _ r => isN_non r
  | some l => exact o_isN fun _ _ r => isN_lst r
theorem mt_is_done (T : Tx K mg) (X : Rx K mg C) : C8.Met P w K mg base 1 C "is_done" (spM (α := Unit) C (fun _ => []) (fun _ rs => True) (fun _ rs rs' d => rs' = rs ∧ d = .bl (isDone rs))) [] :=
  met_M X.cls X.m_is_done sc_is_done (fun _ => rfl) (by decide) (fun _ _ _ _ _ _ us hl => match us, hl with | [_], _ => rfl) (fun f cdv A outer s H E hr => ⟨_, (pss_cons (ps_ret (pe_and (pe_cmpR op_eq (pe_fld (pv 0) rfl) pe_str (by rfl)) (pe_one (pe_cmpR op_isN1 (pe_fld (pv 0) rfl) pe_non (by rfl)))))
    pss_nil), fun x rs G0 H0 a _ => by
    exact rm_ret (Dm.ev_andV (Dm.ev_op (f_stand X) (strV lit_626568696e64) o_eqS) (fun _ => Dm.ev_op (f_lead X) Dm.ev_non (optL_isN _))) (fun d e => ⟨rfl, e⟩)⟩)
abbrev N_takes_group : List PySem.Str := ["self"]
theorem sc_takes_group : FnScope N_takes_group ["self"] (defScope m_takes_group) := ⟨rfl, rfl, rfl, by decide +kernel, rfl, by decide +kernel, by decide +kernel⟩
theorem mt_takes_group (T : Tx K mg) (X : Rx K mg C) : C8.Met P w K mg base 1 C "takes_group" (spM (α := List Int) C (fun _ => []) (fun s rs => rs.lead = some s ∧ rs.lst.length ≤ 1000) (fun s rs rs' d => rs' = doGroup rs s ∧ d = .bl true)) [] :=
  met_M X.cls X.m_takes_group sc_takes_group (fun _ => rfl) (by decide) (fun _ _ _ _ _ _ us hl => match us, hl with | [_], _ => rfl) (fun f cdv A outer s H E hr => ⟨_, (pss_cons (ps_expr (pe_bm PySem.F.plainAttrs_list PySem.F.slot_list_append PySem.F.type_list_append mt_append (pe_fld (pv 0) rfl) (pa_cons (pe_tup (pa_cons pe_str (pa_cons (pe_fld (pv 0) rfl) (pa_cons (pe_fld (pv 0) rfl) pa_nil)))) pa_nil)))
    (pss_cons (ps_fld (pv 0) pe_non rfl)
    (pss_cons (ps_fld (pv 0) pe_bl rfl)
    (pss_cons (ps_fld (pv 0) pe_str rfl)
    (pss_cons (ps_ret pe_bl)
    pss_nil))))), fun x rs G0 H0 a h => by
    refine rm_frzM ?_
    refine rm_appL (o := .grp x rs.mem) X.cls X.n_listed (sz' (by have := h.2; simp only; omega)) ?_ ?_
    · refine Dm.ev_tup (Dm.ea_cons (strV lit_67726f7570) (Dm.ea_cons (Dm.EvV.cast (f_lead X) ?_) (Dm.ea_cons (f_mem X rfl) Dm.ea_nil))) (sz1 rfl)
      simp only
      rw [h.1]
      rfl
    · exact w_lead X (s := none) Dm.ev_non (w_opened X Dm.ev_bl (w_stand X (strV lit_626568696e64) (rm_ret Dm.ev_bl (fun d e => ⟨rfl, e⟩))))⟩)
abbrev N_takes_local : List PySem.Str := ["self", "is_angled"]
theorem sc_takes_local : FnScope N_takes_local ["self", "is_angled"] (defScope m_takes_local) := ⟨rfl, rfl, rfl, by decide +kernel, rfl, by decide +kernel, by decide +kernel⟩
def toHouse (rs : Rs) (b : Bool) : Rs := if b = true then { rs with ang := true, stand := sHouse } else { rs with phm := true, ph := [], ang := false, stand := sHouse }
theorem mt_takes_local (T : Tx K mg) (X : Rx K mg C) : C8.Met P w K mg base 3 C "takes_local" (spM (α := Bool) C (fun b => [.bl b]) (fun b rs => LocOk rs.loc) (fun b rs rs' d => rs' = toHouse rs b ∧ d = .bl true)) [] :=
  have c_is_local := c_is_local (P := P) (w := w) (base := base) T
  met_M X.cls X.m_takes_local sc_takes_local (fun _ => rfl) (by decide) (fun _ _ _ _ _ _ us hl => match us, hl with | [_, _], _ => rfl) (fun f cdv A outer s H E hr => ⟨_, (pss_cons (ps_if (pt_not (pt_val (pv 1)))
    (pss_cons (ps_fld (pv 0) (pe_lst pa_nil) rfl)
    pss_nil)
    pss_nil)
    (pss_cons (ps_fld (pv 0) (pv 1) rfl)
    (pss_cons (ps_fld (pv 0) pe_str rfl)
    (pss_cons (ps_ret (C8.pe_c c_is_local hr (by decide) rfl (pa_cons (pe_fld (pv 0) rfl) pa_nil)))
    pss_nil)))), fun x rs G0 H0 a h => by
    show RunM C G0 H0 a _ rs [none, some (.bl x)] _
    cases x with
    | true =>
      refine rm_no (Dm.eb_not (b := true) (Dm.eb_test (mv rfl))) (rm_skip ?_)
      exact w_ang X (mv rfl) (w_stand X (strV lit_686f757365) (rm_ret (Dm.ed_call rs.loc (Dm.ea_cons (f_loc X) Dm.ea_nil) h) (fun d e => ⟨rfl, e⟩)))
    | false =>
      refine rm_yes (Dm.eb_not (b := false) (Dm.eb_test (mv rfl))) ?_
      refine rm_flat (rm_newP (ws := []) X.cls X.n_phrase (Dm.ef_lstV Dm.ea_nil (sz1 rfl)) (rm_skip ?_))
      exact w_ang X (mv rfl) (w_stand X (strV lit_686f757365) (rm_ret (Dm.ed_call rs.loc (Dm.ea_cons (f_loc X) Dm.ea_nil) h) (fun d e => ⟨rfl, e⟩)))⟩)
abbrev N_takes_one : List PySem.Str := ["self", "one"]
theorem sc_takes_one : FnScope N_takes_one ["self"] (defScope m_takes_one) := ⟨rfl, rfl, rfl, by decide +kernel, rfl, by decide +kernel, by decide +kernel⟩
theorem mt_takes_one (T : Tx K mg) (X : Rx K mg C) : C8.Met P w K mg base 6 C "takes_one" (spM (α := Unit) C (fun _ => []) (fun _ rs => Ready rs) (fun _ rs rs' d => rs' = doOne rs ∧ d = .bl true)) [] :=
  have c_phrase_saying := c_phrase_saying (P := P) (w := w) (base := base) T
  met_M X.cls X.m_takes_one sc_takes_one (fun _ => rfl) (by decide) (fun _ _ _ _ _ _ us hl => match us, hl with | [_], _ => rfl) (fun f cdv A outer s H E hr => ⟨_, (pss_cons (ps_set (i := 1) sc_takes_one.nd rfl (Or.inl rfl) (pe_tup (pa_cons pe_str (pa_cons (C8.pe_c c_phrase_saying hr (by decide) rfl (pa_cons (pe_fld (pv 0) rfl) pa_nil)) (pa_cons (pe_fld (pv 0) rfl) (pa_cons (pe_fld (pv 0) rfl) pa_nil))))))
    (pss_cons (ps_if (pt_cmpR op_isN1 (pe_fld (pv 0) rfl) pe_non (by rfl))
    (pss_cons (ps_expr (pe_bm PySem.F.plainAttrs_list PySem.F.slot_list_append PySem.F.type_list_append mt_append (pe_fld (pv 0) rfl) (pa_cons (pv 1) pa_nil)))
    pss_nil)
    (pss_cons (ps_expr (pe_bm PySem.F.plainAttrs_list PySem.F.slot_list_append PySem.F.type_list_append mt_append (pe_fld (pv 0) rfl) (pa_cons (pv 1) pa_nil)))
    pss_nil))
    (pss_cons (ps_fld (pv 0) pe_bl rfl)
    (pss_cons (ps_fld (pv 0) pe_str rfl)
    (pss_cons (ps_ret pe_bl)
    pss_nil))))), fun x rs G0 H0 a h => by
    show RunM C G0 H0 a _ rs [none, none] _
    obtain ⟨st, pm, ph, lo, ho, an, le, mm, me, op, ls⟩ := rs
    obtain ⟨h1, h2, h3, h4⟩ := h
    refine rm_frzP ?_
    refine rm_set (by decide) (d := One.d ⟨phraseSaying ph, lo, ho⟩) (Dm.ev_tup (Dm.ea_cons (strV lit_6f6e65) (Dm.ea_cons (Dm.ed_call ph (Dm.ea_cons (f_ph X rfl) Dm.ea_nil) h1) (Dm.ea_cons (f_loc X) (Dm.ea_cons (f_hou X) Dm.ea_nil)))) (sz1 rfl)) ?_
    simp only at h1 h2 h3 h4
    cases le with
    | none =>
      refine rm_yes (Dm.eb_B (Dm.EvV.cast (Dm.ev_op (f_lead X) Dm.ev_non (optL_isN _)) (by rfl))) ?_
      refine rm_flat (rm_appL (o := .one ⟨phraseSaying ph, lo, ho⟩) X.cls X.n_listed (sz' (by simp only; omega)) (mv rfl) (rm_skip ?_))
      exact w_opened X Dm.ev_bl (w_stand X (strV lit_626568696e64) (rm_ret Dm.ev_bl (fun d e => ⟨rfl, e⟩)))
    | some s =>
      refine rm_no (Dm.eb_B (Dm.EvV.cast (Dm.ev_op (f_lead X) Dm.ev_non (optL_isN _)) (by rfl))) ?_
      refine rm_flat (rm_appM (o := ⟨phraseSaying ph, lo, ho⟩) X.cls X.n_members (h4 (fun z => nomatch z)) (sz' (by simp only; omega)) (mv rfl) (rm_skip ?_))
      exact w_opened X Dm.ev_bl (w_stand X (strV lit_626568696e64) (rm_ret Dm.ev_bl (fun d e => ⟨rfl, e⟩)))⟩)
abbrev N_takes_house : List PySem.Str := ["self", "text"]
theorem sc_takes_house : FnScope N_takes_house ["self", "text"] (defScope m_takes_house) := ⟨rfl, rfl, rfl, by decide +kernel, rfl, by decide +kernel, by decide +kernel⟩
def toAngle (rs : Rs) (t : List Nat) : Rs := if rs.ang = true then { rs with hou := t, stand := sAngle } else doOne { rs with hou := t }
theorem mt_takes_house (T : Tx K mg) (X : Rx K mg C) : C8.Met P w K mg base 7 C "takes_house" (spM (α := List Nat) C (fun t => [.str t]) (fun t rs => HouseOk t ∧ (rs.ang = false → Ready rs)) (fun t rs rs' d => rs' = toAngle rs t ∧ d = .bl true)) [] :=
  have c_is_house := c_is_house (P := P) (w := w) (base := base) T
  have mt_takes_one := mt_takes_one (P := P) (w := w) (base := base) T X
  met_M X.cls X.m_takes_house sc_takes_house (fun _ => rfl) (by decide) (fun _ _ _ _ _ _ us hl => match us, hl with | [_, _], _ => rfl) (fun f cdv A outer s H E hr => ⟨_, (pss_cons (ps_fld (pv 0) (pv 1) rfl)
    (pss_cons (ps_if (pt_not (pt_val (C8.pe_c c_is_house hr (by decide) rfl (pa_cons (pv 1) pa_nil))))
    (pss_cons (ps_ret pe_bl)
    pss_nil)
    pss_nil)
    (pss_cons (ps_if (pt_val (pe_fld (pv 0) rfl))
    (pss_cons (ps_fld (pv 0) pe_str rfl)
    (pss_cons (ps_ret pe_bl)
    pss_nil))
    pss_nil)
    (pss_cons (ps_ret (C8.pe_mt0 mt_takes_one hr (by decide) (pv 0)))
    pss_nil)))), fun x rs G0 H0 a h => by
    show RunM C G0 H0 a _ rs [none, some (.str x)] _
    refine w_hou X (mv rfl) ?_
    refine rm_no (Dm.eb_not (b := true) (Dm.eb_test (Dm.ed_call x (Dm.ea_cons (mv rfl) Dm.ea_nil) h.1))) (rm_skip ?_)
    obtain ⟨st, pm, ph, lo, ho, an, le, mm, me, op, ls⟩ := rs
    cases an with
    | true =>
      refine rm_yes (Dm.eb_test (f_ang X)) ?_
      exact rm_flat (w_stand X (strV lit_616e676c65) (rm_flat (rm_ret Dm.ev_bl (fun d e => ⟨rfl, e⟩))))
    | false =>
      refine rm_no (Dm.eb_test (f_ang X)) (rm_skip ?_)
      exact rm_retX (xm_meth () (fun _ _ _ _ _ _ _ _ _ => rfl) Dm.ea_nil (h.2 rfl) (fun rs' d e => e))⟩)
abbrev N_takes_behind : List PySem.Str := ["self", "mark"]
theorem sc_takes_behind : FnScope N_takes_behind ["self", "mark"] (defScope m_takes_behind) := ⟨rfl, rfl, rfl, by decide +kernel, rfl, by decide +kernel, by decide +kernel⟩
theorem mt_takes_behind (T : Tx K mg) (X : Rx K mg C) : C8.Met P w K mg base 2 C "takes_behind" (spM (α := List Nat × Rs) C (fun t => [.str t.1]) (fun t rs => (t.1 = [59] ∧ ∃ s, rs.lead = some s ∧ rs.lst.length ≤ 1000 ∧ t.2 = doGroup rs s) ∨ (t.1 = [44] ∧ t.2 = { rs with stand := sBegin, opened := false })) (fun t rs rs' d => rs' = t.2 ∧ d = .bl true)) [] :=
  have mt_takes_group := mt_takes_group (P := P) (w := w) (base := base) T X
  met_M X.cls X.m_takes_behind sc_takes_behind (fun _ => rfl) (by decide) (fun _ _ _ _ _ _ us hl => match us, hl with | [_, _], _ => rfl) (fun f cdv A outer s H E hr => ⟨_, (pss_cons (ps_if (PW.pt (pw_and (pt_cmpR op_eq (pv 1) pe_str (by rfl)) (pw_and1 (pt_cmpR op_notN1 (pe_fld (pv 0) rfl) pe_non (by rfl)))))
    (pss_cons (ps_ret (C8.pe_mt0 mt_takes_group hr (by decide) (pv 0)))
    pss_nil)
    pss_nil)
    (pss_cons (ps_fld (pv 0) pe_str rfl)
    (pss_cons (ps_fld (pv 0) pe_bl rfl)
    (pss_cons (ps_ret (pe_cmpR op_eq (pv 1) pe_str (by rfl)))
    pss_nil)))), fun x rs G0 H0 a h => by
    obtain ⟨t, r2⟩ := x
    show RunM C G0 H0 a _ rs [none, some (.str t)] _
    rcases h with ⟨rfl, s, h1, h2, h3⟩ | ⟨rfl, h3⟩
    · refine rm_yes (Dm.EvB.cast (Dm.eb_and (a := true) (b := true) (Dm.eb_B (Dm.EvV.cast (Dm.ev_op (mv rfl) (strV lit_3b) o_eqS) (by rfl))) (fun _ => Dm.eb_B (Dm.EvV.cast (Dm.ev_op (f_lead X) Dm.ev_non (optL_none _)) (by rw [h1]; rfl)))) rfl) ?_
      exact rm_flat (rm_retX (xm_meth s (fun _ _ _ _ _ _ _ _ _ => rfl) Dm.ea_nil ⟨h1, h2⟩ (fun rs' d e => ⟨by rw [e.1]; exact h3.symm, e.2⟩)))
    · refine rm_no (Dm.EvB.cast (Dm.eb_and (a := false) (b := true) (Dm.eb_B (Dm.EvV.cast (Dm.ev_op (mv rfl) (strV lit_3b) o_eqS) (by rfl))) (fun z => by cases z)) rfl) (rm_skip ?_)
      exact w_stand X (strV lit_626567696e) (w_opened X Dm.ev_bl (rm_ret (Dm.EvV.cast (Dm.ev_op (mv rfl) (strV lit_2c) o_eqS) (by rfl)) (fun d e => ⟨h3.symm, e⟩)))⟩)
end
end Fk
namespace Fk
open PySem PySem.Spec PyProof.Rows L2 Evl Dl Mr
section
variable {P : Program} {w : World} {K : PySem.W.Frag} {mg : PySem.Str → Option Value} {base : Heap} {C : Addr}
section
variable {G0 H0 : Hp} {a : Addr} {rs : Rs} {sl : List (Option D)} {i : Nat} {w : Wd}
theorem w_sort (h : sl[i]? = some (some (Wd.d w))) : Dm.EvV No (tOp (rIxT K) (tVar i) (tC (.int 0))) (rc C G0 H0 a rs sl) (.str w.sort) := Dm.ev_op (mv h) Dm.ev_int (o_ixT rfl)
theorem w_text (h : sl[i]? = some (some (Wd.d w))) : Dm.EvV No (tOp (rIxT K) (tVar i) (tC (.int 1))) (rc C G0 H0 a rs sl) (.str w.text) := Dm.ev_op (mv h) Dm.ev_int (o_ixT rfl)
end
inductive StB (rs : Rs) (w : Wd) : Rs → Prop
  | bText : w.sort ≠ sMark → StB rs w { rs with phm := true, ph := [w], stand := sPhrase }
  | bAngle : w.sort = sMark → w.text = [60] → StB rs w { rs with phm := true, ph := [], stand := sLocal }
  | bGroup {s : List Int} : w.sort = sMark → w.text = [59] → rs.opened = true → rs.lead = some s → rs.lst.length ≤ 1000 → StB rs w (doGroup rs s)
def isText (w : Wd) : Bool := !decide (w.sort = sMark)
abbrev N_takes_begin : List PySem.Str := ["self", "word", "is_text"]
theorem sc_takes_begin : FnScope N_takes_begin ["self", "word", "is_text"] (defScope m_takes_begin) := ⟨rfl, rfl, rfl, by decide +kernel, rfl, by decide +kernel, by decide +kernel⟩
theorem mt_takes_begin (T : Tx K mg) (X : Rx K mg C) : C8.Met P w K mg base 2 C "takes_begin" (spM (α := Wd × Rs) C (fun t => [Wd.d t.1, .bl (isText t.1)]) (fun t rs => StB rs t.1 t.2) (fun t rs rs' d => rs' = t.2 ∧ d = .bl true)) [] :=
  have mt_takes_group := mt_takes_group (P := P) (w := w) (base := base) T X
  met_M X.cls X.m_takes_begin sc_takes_begin (fun _ => rfl) (by decide) (fun _ _ _ _ _ _ us hl => match us, hl with | [_, _, _], _ => rfl) (fun f cdv A outer s H E hr => ⟨_, (pss_cons (ps_if (pt_val (pv 2))
    (pss_cons (ps_fld (pv 0) (pe_lst (pa_cons (pv 1) pa_nil)) rfl)
    (pss_cons (ps_fld (pv 0) pe_str rfl)
    (pss_cons (ps_ret pe_bl)
    pss_nil)))
    pss_nil)
    (pss_cons (ps_if (pt_cmpR op_eq (pe_ix ix_tup (pv 1) pe_int (fun _ _ => rfl)) pe_str (by rfl))
    (pss_cons (ps_fld (pv 0) (pe_lst pa_nil) rfl)
    (pss_cons (ps_fld (pv 0) pe_str rfl)
    (pss_cons (ps_ret pe_bl)
    pss_nil)))
    pss_nil)
    (pss_cons (ps_ret (pe_and (pe_cmpR op_eq (pe_ix ix_tup (pv 1) pe_int (fun _ _ => rfl)) pe_str (by rfl)) (pe_and (pe_fld (pv 0) rfl) (pe_one (C8.pe_mt0 mt_takes_group hr (by decide) (pv 0))))))
    pss_nil))), fun x rs G0 H0 a h => by
    obtain ⟨v, r2⟩ := x
    show RunM C G0 H0 a _ rs [none, some (Wd.d v), some (.bl (isText v))] _
    simp only at h
    cases h with
    | bText h1 =>
      have hi : isText v = true := by unfold isText; rw [decide_eq_false h1]; rfl
      rw [hi]
      refine rm_yes (Dm.eb_test (mv rfl)) ?_
      exact rm_flat (rm_newP (ws := [v]) X.cls X.n_phrase (Dm.ef_lstV (Dm.ea_cons (mv rfl) Dm.ea_nil) (sz1 rfl)) (rm_flat (w_stand X (strV lit_706872617365) (rm_flat (rm_ret Dm.ev_bl (fun d e => ⟨rfl, e⟩))))))
    | bAngle h1 h2 =>
      have hi : isText v = false := by unfold isText; rw [decide_eq_true h1]; rfl
      rw [hi]
      refine rm_no (Dm.eb_test (mv rfl)) (rm_skip ?_)
      refine rm_yes (Dm.eb_B (Dm.EvV.cast (Dm.ev_op (w_text rfl) (strV lit_3c) o_eqS) (by rw [h2]; rfl))) ?_
      exact rm_flat (rm_newP (ws := []) X.cls X.n_phrase (Dm.ef_lstV Dm.ea_nil (sz1 rfl)) (rm_flat (w_stand X (strV lit_6c6f63616c) (rm_flat (rm_ret Dm.ev_bl (fun d e => ⟨rfl, e⟩))))))
    | @bGroup sa h1 h2 h3 h4 h5 =>
      have hi : isText v = false := by unfold isText; rw [decide_eq_true h1]; rfl
      rw [hi]
      refine rm_no (Dm.eb_test (mv rfl)) (rm_skip ?_)
      refine rm_no (Dm.eb_B (Dm.EvV.cast (Dm.ev_op (w_text rfl) (strV lit_3c) o_eqS) (by rw [h2]; rfl))) (rm_skip ?_)
      exact rm_retX (xm_and (Dm.EvV.cast (Dm.ev_op (w_text rfl) (strV lit_3b) o_eqS) (by rw [h2]; rfl)) (xm_and (Dm.EvV.cast (f_opened X) (congrArg D.bl h3)) (xm_meth sa (fun _ _ _ _ _ _ _ _ _ => rfl) Dm.ea_nil ⟨h4, h5⟩ (fun rs' d e => e))))⟩)
inductive StP (rs : Rs) (w : Wd) : Rs → Prop
  | pText : w.sort ≠ sMark → rs.phm = true → rs.ph.length ≤ 1000 → StP rs w { rs with ph := rs.ph ++ [w] }
  | pAt {x : Wd} : w.sort = sMark → w.text = [64] → rs.ph = [x] → LocOk x.text → StP rs w { rs with phm := true, ph := [], loc := x.text, ang := false, stand := sHouse }
  | pAngle : w.sort = sMark → w.text = [60] → StP rs w { rs with stand := sLocal }
  | pColon : w.sort = sMark → w.text = [58] → rs.lead = none → WsOk rs.ph → phraseSaying rs.ph ≠ [] → StP rs w { rs with phm := false, lead := some (phraseSaying rs.ph), mm := true, mem := [], opened := true, stand := sBegin }
abbrev N_takes_phrase : List PySem.Str := ["self", "word", "is_text"]
theorem sc_takes_phrase : FnScope N_takes_phrase ["self", "word", "is_text"] (defScope m_takes_phrase) := ⟨rfl, rfl, rfl, by decide +kernel, rfl, by decide +kernel, by decide +kernel⟩
theorem mt_takes_phrase (T : Tx K mg) (X : Rx K mg C) : C8.Met P w K mg base 6 C "takes_phrase" (spM (α := Wd × Rs) C (fun t => [Wd.d t.1, .bl (isText t.1)]) (fun t rs => StP rs t.1 t.2) (fun t rs rs' d => rs' = t.2 ∧ d = .bl true)) [] :=
  have mt_takes_local := mt_takes_local (P := P) (w := w) (base := base) T X
  have c_phrase_saying := c_phrase_saying (P := P) (w := w) (base := base) T
  met_M X.cls X.m_takes_phrase sc_takes_phrase (fun _ => rfl) (by decide) (fun _ _ _ _ _ _ us hl => match us, hl with | [_, _, _], _ => rfl) (fun f cdv A outer s H E hr => ⟨_, (pss_cons (ps_if (pt_val (pv 2))
    (pss_cons (ps_expr (pe_bm PySem.F.plainAttrs_list PySem.F.slot_list_append PySem.F.type_list_append mt_append (pe_fld (pv 0) rfl) (pa_cons (pv 1) pa_nil)))
    (pss_cons (ps_ret pe_bl)
    pss_nil))
    pss_nil)
    (pss_cons (ps_if (pt_cmpR op_eq (pe_ix ix_tup (pv 1) pe_int (fun _ _ => rfl)) pe_str (by rfl))
    (pss_cons (ps_fld (pv 0) (pe_ix ix_tup (pe_ix ix_list (pe_fld (pv 0) rfl) pe_int (fun _ _ => rfl)) pe_int (fun _ _ => rfl)) rfl)
    (pss_cons (ps_ret (pe_and (pe_cmpR op_eq (pe_callB cl_lenL (by rfl) T.n_len boot_len (pa_cons (pe_fld (pv 0) rfl) pa_nil)) pe_int (by rfl)) (pe_one (C8.pe_mt mt_takes_local hr (by decide) (pv 0) (pa_cons pe_bl pa_nil)))))
    pss_nil))
    pss_nil)
    (pss_cons (ps_if (pt_cmpR op_eq (pe_ix ix_tup (pv 1) pe_int (fun _ _ => rfl)) pe_str (by rfl))
    (pss_cons (ps_fld (pv 0) pe_str rfl)
    (pss_cons (ps_ret pe_bl)
    pss_nil))
    pss_nil)
    (pss_cons (ps_if (PW.pt (pw_or (pt_cmpR op_ne (pe_ix ix_tup (pv 1) pe_int (fun _ _ => rfl)) pe_str (by rfl)) (pw_or (pt_cmpR op_notN1 (pe_fld (pv 0) rfl) pe_non (by rfl)) (pw_or1 (pt_cmpR (op_eqD hr.units) (C8.pe_c c_phrase_saying hr (by decide) rfl (pa_cons (pe_fld (pv 0) rfl) pa_nil)) (pe_lst pa_nil) (by rfl))))))
    (pss_cons (ps_ret pe_bl)
    pss_nil)
    pss_nil)
    (pss_cons (ps_fld (pv 0) (C8.pe_c c_phrase_saying hr (by decide) rfl (pa_cons (pe_fld (pv 0) rfl) pa_nil)) rfl)
    (pss_cons (ps_fld (pv 0) (pe_lst pa_nil) rfl)
    (pss_cons (ps_fld (pv 0) pe_bl rfl)
    (pss_cons (ps_fld (pv 0) pe_str rfl)
    (pss_cons (ps_ret pe_bl)
    pss_nil))))))))), fun x rs G0 H0 a h => by
    obtain ⟨v, r2⟩ := x
    show RunM C G0 H0 a _ rs [none, some (Wd.d v), some (.bl (isText v))] _
    simp only at h
    cases h with
    | pText h1 h2 h3 =>
      have hi : isText v = true := by unfold isText; rw [decide_eq_false h1]; rfl
      rw [hi]
      refine rm_yes (Dm.eb_test (mv rfl)) ?_
      exact rm_flat (rm_appP (w := v) X.cls X.n_phrase h2 (sz' (by omega)) (mv rfl) (rm_flat (rm_ret Dm.ev_bl (fun d e => ⟨rfl, e⟩))))
    | @pAt y h1 h2 h3 h4 =>
      have hi : isText v = false := by unfold isText; rw [decide_eq_true h1]; rfl
      rw [hi]
      refine rm_no (Dm.eb_test (mv rfl)) (rm_skip ?_)
      refine rm_yes (Dm.eb_B (Dm.EvV.cast (Dm.ev_op (w_text rfl) (strV lit_40) o_eqS) (by rw [h2]; rfl))) ?_
      refine rm_frzP ?_
      refine rm_flat (w_loc X (s := y.text) (Dm.ev_op (Dm.ev_op (f_ph X rfl) Dm.ev_int (o_ixL (z := Wd.d y) (by simp only; rw [h3]; rfl))) Dm.ev_int (o_ixT rfl)) ?_)
      refine rm_flat (rm_retX (xm_and (Dm.EvV.cast (Dm.ev_op (Dm.ev_cb (Dm.ea_cons (f_ph X rfl) Dm.ea_nil) cd_lenL) Dm.ev_int o_eqI) (by simp only; rw [h3]; rfl)) (xm_meth false (fun _ _ _ _ _ _ _ _ _ => rfl) (Dm.ea_cons Dm.ev_bl Dm.ea_nil) h4 (fun rs' d e => e))))
    | pAngle h1 h2 =>
      have hi : isText v = false := by unfold isText; rw [decide_eq_true h1]; rfl
      rw [hi]
      refine rm_no (Dm.eb_test (mv rfl)) (rm_skip ?_)
      refine rm_no (Dm.eb_B (Dm.EvV.cast (Dm.ev_op (w_text rfl) (strV lit_40) o_eqS) (by rw [h2]; rfl))) (rm_skip ?_)
      refine rm_yes (Dm.eb_B (Dm.EvV.cast (Dm.ev_op (w_text rfl) (strV lit_3c) o_eqS) (by rw [h2]; rfl))) ?_
      exact rm_flat (w_stand X (strV lit_6c6f63616c) (rm_flat (rm_ret Dm.ev_bl (fun d e => ⟨rfl, e⟩))))
    | pColon h1 h2 h3 h4 h5 =>
      have hi : isText v = false := by unfold isText; rw [decide_eq_true h1]; rfl
      rw [hi]
      refine rm_no (Dm.eb_test (mv rfl)) (rm_skip ?_)
      refine rm_no (Dm.eb_B (Dm.EvV.cast (Dm.ev_op (w_text rfl) (strV lit_40) o_eqS) (by rw [h2]; rfl))) (rm_skip ?_)
      refine rm_no (Dm.eb_B (Dm.EvV.cast (Dm.ev_op (w_text rfl) (strV lit_3c) o_eqS) (by rw [h2]; rfl))) (rm_skip ?_)
      refine rm_frzP ?_
      refine rm_no (Dm.EvB.cast (Dm.eb_or (a := false) (b := false) (Dm.eb_B (Dm.EvV.cast (Dm.ev_op (w_text rfl) (strV lit_3a) o_neS) (by rw [h2]; rfl))) (fun _ => Dm.eb_or (a := false) (b := false) (Dm.eb_B (Dm.EvV.cast (Dm.ev_op (f_lead X) Dm.ev_non (optL_none _)) (by simp only; rw [h3]; rfl))) (fun _ => Dm.eb_B (Dm.EvV.cast (Dm.ev_op (Dm.ed_call rs.ph (Dm.ea_cons (f_ph X rfl) Dm.ea_nil) h4) (Dm.ev_lst Dm.ea_nil (sz1 rfl)) o_eqNil) (by rw [decide_eq_false h5]))))) rfl) (rm_skip ?_)
      refine w_lead X (s := some (phraseSaying rs.ph)) (Dm.ed_call rs.ph (Dm.ea_cons (f_ph X rfl) Dm.ea_nil) h4) ?_
      refine rm_newM (ms := []) X.cls X.n_members (Dm.ef_lstV Dm.ea_nil (sz1 rfl)) ?_
      exact w_opened X Dm.ev_bl (w_stand X (strV lit_626567696e) (rm_ret Dm.ev_bl (fun d e => ⟨rfl, e⟩)))⟩)
abbrev N_takes : List PySem.Str := ["self", "word", "is_text"]
theorem sc_takes : FnScope N_takes ["self", "word"] (defScope m_takes) := ⟨rfl, rfl, rfl, by decide +kernel, rfl, by decide +kernel, by decide +kernel⟩
theorem mt_takes (T : Tx K mg) (X : Rx K mg C) : C8.Met P w K mg base 8 C "takes" (spM (α := Wd × Rs) C (fun t => [Wd.d t.1]) (fun t rs => St rs t.1 t.2 ∧ t.1.text.length ≤ 2000) (fun t rs rs' d => rs' = t.2 ∧ d = .bl true)) [] :=
  have mt_takes_begin := mt_takes_begin (P := P) (w := w) (base := base) T X
  have mt_takes_phrase := mt_takes_phrase (P := P) (w := w) (base := base) T X
  have mt_takes_local := mt_takes_local (P := P) (w := w) (base := base) T X
  have mt_takes_house := mt_takes_house (P := P) (w := w) (base := base) T X
  have mt_takes_one := mt_takes_one (P := P) (w := w) (base := base) T X
  have mt_takes_behind := mt_takes_behind (P := P) (w := w) (base := base) T X
  met_M X.cls X.m_takes sc_takes (fun _ => rfl) (by decide) (fun _ _ _ _ _ _ us hl => match us, hl with | [_, _], _ => rfl) (fun f cdv A outer s H E hr => ⟨_, (pss_cons (ps_set (i := 2) sc_takes.nd rfl (Or.inl rfl) (pe_cmpR op_ne (pe_ix ix_tup (pv 1) pe_int (fun _ _ => rfl)) pe_str (by rfl)))
    (pss_cons (ps_if (pt_cmpR op_eq (pe_fld (pv 0) rfl) pe_str (by rfl))
    (pss_cons (ps_ret (C8.pe_mt mt_takes_begin hr (by decide) (pv 0) (pa_cons (pv 1) (pa_cons (pv 2) pa_nil))))
    pss_nil)
    pss_nil)
    (pss_cons (ps_if (pt_cmpR op_eq (pe_fld (pv 0) rfl) pe_str (by rfl))
    (pss_cons (ps_ret (C8.pe_mt mt_takes_phrase hr (by decide) (pv 0) (pa_cons (pv 1) (pa_cons (pv 2) pa_nil))))
    pss_nil)
    pss_nil)
    (pss_cons (ps_if (pt_cmpR op_eq (pe_fld (pv 0) rfl) pe_str (by rfl))
    (pss_cons (ps_fld (pv 0) (pe_ix ix_tup (pv 1) pe_int (fun _ _ => rfl)) rfl)
    (pss_cons (ps_fld (pv 0) pe_str rfl)
    (pss_cons (ps_ret (pv 2))
    pss_nil)))
    pss_nil)
    (pss_cons (ps_if (pt_cmpR op_eq (pe_fld (pv 0) rfl) pe_str (by rfl))
    (pss_cons (ps_ret (pe_and (pe_not (pv 2)) (pe_and (pe_cmpR op_eq (pe_ix ix_tup (pv 1) pe_int (fun _ _ => rfl)) pe_str (by rfl)) (pe_one (C8.pe_mt mt_takes_local hr (by decide) (pv 0) (pa_cons pe_bl pa_nil))))))
    pss_nil)
    pss_nil)
    (pss_cons (ps_if (pt_cmpR op_eq (pe_fld (pv 0) rfl) pe_str (by rfl))
    (pss_cons (ps_ret (pe_and (pe_cmpR op_eq (pe_ix ix_tup (pv 1) pe_int (fun _ _ => rfl)) pe_str (by rfl)) (pe_one (C8.pe_mt mt_takes_house hr (by decide) (pv 0) (pa_cons (pe_bm0 PySem.F.plainAttrs_str PySem.F.slot_str_lower PySem.F.type_str_lower m_lower (pe_ix ix_tup (pv 1) pe_int (fun _ _ => rfl))) pa_nil)))))
    pss_nil)
    pss_nil)
    (pss_cons (ps_if (pt_cmpR op_eq (pe_fld (pv 0) rfl) pe_str (by rfl))
    (pss_cons (ps_ret (pe_and (pe_not (pv 2)) (pe_and (pe_cmpR op_eq (pe_ix ix_tup (pv 1) pe_int (fun _ _ => rfl)) pe_str (by rfl)) (pe_one (C8.pe_mt0 mt_takes_one hr (by decide) (pv 0))))))
    pss_nil)
    pss_nil)
    (pss_cons (ps_ret (pe_and (pe_not (pv 2)) (pe_one (C8.pe_mt mt_takes_behind hr (by decide) (pv 0) (pa_cons (pe_ix ix_tup (pv 1) pe_int (fun _ _ => rfl)) pa_nil)))))
    pss_nil)))))))), fun x rs G0 H0 a h => by
    obtain ⟨v, r2⟩ := x
    obtain ⟨h, hvl⟩ := h
    show RunM C G0 H0 a _ rs [none, some (Wd.d v), none] _
    simp only at h hvl
    refine rm_set (by decide) (d := .bl (isText v)) (Dm.ev_op (w_sort rfl) (strV (l := sMark) lit_6d61726b) o_neS) ?_
    show RunM C G0 H0 a _ rs [none, some (Wd.d v), some (.bl (isText v))] _
    have no : ∀ {l : List Nat} {s : PySem.Str} (hs : s.cps.toList = l), rs.stand ≠ l → Dm.EvB No (tB (tOp rEq (tFld K (tVar 0) "stand") (tC (.str s)))) (rc C G0 H0 a rs [none, some (Wd.d v), some (.bl (isText v))]) false := fun hs hn => Dm.eb_B (Dm.EvV.cast (Dm.ev_op (f_stand X) (strV hs) o_eqS) (by rw [decide_eq_false hn]))
    have yes : ∀ {l : List Nat} {s : PySem.Str} (hs : s.cps.toList = l), rs.stand = l → Dm.EvB No (tB (tOp rEq (tFld K (tVar 0) "stand") (tC (.str s)))) (rc C G0 H0 a rs [none, some (Wd.d v), some (.bl (isText v))]) true := fun hs hn => Dm.eb_B (Dm.EvV.cast (Dm.ev_op (f_stand X) (strV hs) o_eqS) (by rw [decide_eq_true hn]))
    have nT : v.sort = sMark → isText v = false := fun e => by unfold isText; rw [decide_eq_true e]; rfl
    have beg : ∀ {r2 : Rs}, StB rs v r2 → ExM C G0 H0 a (tMeth C "takes_begin" (spM (α := Wd × Rs) C (fun t => [Wd.d t.1, .bl (isText t.1)]) (fun t rs => StB rs t.1 t.2) (fun t rs rs' d => rs' = t.2 ∧ d = .bl true)) [] C8.E0 (tVar 0) (tCons (tVar 1) (tCons (tVar 2) tNil))) rs [none, some (Wd.d v), some (.bl (isText v))] (fun rs' d => rs' = r2 ∧ d = .bl true) := fun {r2} hst => xm_meth (v, r2) (fun _ _ _ _ _ _ _ _ _ => rfl) (Dm.ea_cons (mv rfl) (Dm.ea_cons (mv rfl) Dm.ea_nil)) hst (fun rs' d e => e)
    have phr : ∀ {r2 : Rs}, StP rs v r2 → ExM C G0 H0 a (tMeth C "takes_phrase" (spM (α := Wd × Rs) C (fun t => [Wd.d t.1, .bl (isText t.1)]) (fun t rs => StP rs t.1 t.2) (fun t rs rs' d => rs' = t.2 ∧ d = .bl true)) [] C8.E0 (tVar 0) (tCons (tVar 1) (tCons (tVar 2) tNil))) rs [none, some (Wd.d v), some (.bl (isText v))] (fun rs' d => rs' = r2 ∧ d = .bl true) := fun {r2} hst => xm_meth (v, r2) (fun _ _ _ _ _ _ _ _ _ => rfl) (Dm.ea_cons (mv rfl) (Dm.ea_cons (mv rfl) Dm.ea_nil)) hst (fun rs' d e => e)
    cases h with
    | bText h0 h1 => exact rm_yes (yes lit_626567696e h0) (rm_flat (rm_retX (beg (.bText h1))))
    | bAngle h0 h1 h2 => exact rm_yes (yes lit_626567696e h0) (rm_flat (rm_retX (beg (.bAngle h1 h2))))
    | bGroup h0 h1 h2 h3 h4 h5 => exact rm_yes (yes lit_626567696e h0) (rm_flat (rm_retX (beg (.bGroup h1 h2 h3 h4 h5))))
    | pText h0 h1 h2 h3 => exact rm_no (no lit_626567696e (by rw [h0]; decide)) (rm_skip (rm_yes (yes lit_706872617365 h0) (rm_flat (rm_retX (phr (.pText h1 h2 h3))))))
    | pAt h0 h1 h2 h3 h4 => exact rm_no (no lit_626567696e (by rw [h0]; decide)) (rm_skip (rm_yes (yes lit_706872617365 h0) (rm_flat (rm_retX (phr (.pAt h1 h2 h3 h4))))))
    | pAngle h0 h1 h2 => exact rm_no (no lit_626567696e (by rw [h0]; decide)) (rm_skip (rm_yes (yes lit_706872617365 h0) (rm_flat (rm_retX (phr (.pAngle h1 h2))))))
    | pColon h0 h1 h2 h3 h4 h5 => exact rm_no (no lit_626567696e (by rw [h0]; decide)) (rm_skip (rm_yes (yes lit_706872617365 h0) (rm_flat (rm_retX (phr (.pColon h1 h2 h3 h4 h5))))))
    | lText h0 h1 =>
      refine rm_no (no lit_626567696e (by rw [h0]; decide)) (rm_skip (rm_no (no lit_706872617365 (by rw [h0]; decide)) (rm_skip (rm_yes (yes lit_6c6f63616c h0) ?_))))
      refine rm_flat (w_loc X (w_text rfl) (rm_flat (w_stand X (strV lit_6174) (rm_flat (rm_ret (mv rfl) (fun d e => ⟨rfl, ?_⟩))))))
      rw [e]
      unfold isText
      rw [decide_eq_false h1]
      rfl
    | aAt h0 h1 h2 h3 =>
      refine rm_no (no lit_626567696e (by rw [h0]; decide)) (rm_skip (rm_no (no lit_706872617365 (by rw [h0]; decide)) (rm_skip (rm_no (no lit_6c6f63616c (by rw [h0]; decide)) (rm_skip (rm_yes (yes lit_6174 h0) ?_))))))
      exact rm_flat (rm_retX (xm_and (Dm.EvV.cast (Dm.ev_notV (mv rfl)) (by rw [nT h1]; rfl)) (xm_and (Dm.EvV.cast (Dm.ev_op (w_text rfl) (strV lit_40) o_eqS) (by rw [h2]; rfl)) (xm_meth true (fun _ _ _ _ _ _ _ _ _ => rfl) (Dm.ea_cons Dm.ev_bl Dm.ea_nil) h3 (fun rs' d e => e)))))
    | hAng h0 h1 h2 h3 h4 =>
      refine rm_no (no lit_626567696e (by rw [h0]; decide)) (rm_skip (rm_no (no lit_706872617365 (by rw [h0]; decide)) (rm_skip (rm_no (no lit_6c6f63616c (by rw [h0]; decide)) (rm_skip (rm_no (no lit_6174 (by rw [h0]; decide)) (rm_skip (rm_yes (yes lit_686f757365 h0) ?_))))))))
      refine rm_flat (rm_retX (xm_and (Dm.EvV.cast (Dm.ev_op (w_sort rfl) (strV (l := sAtom) lit_61746f6d) o_eqS) (by rw [decide_eq_true h1])) (xm_meth (v.text.map lo1) (fun _ _ _ _ _ _ _ _ _ => rfl) (Dm.ea_cons (Dm.ev_bm0 (w_text rfl) (md_lower h2 (by omega))) Dm.ea_nil) ⟨h3, fun z => by rw [h4] at z; cases z⟩ (fun rs' d e => ⟨?_, e.2⟩))))
      rw [e.1]
      unfold toAngle
      rw [if_pos h4]
    | hOne h0 h1 h2 h3 h4 h5 =>
      refine rm_no (no lit_626567696e (by rw [h0]; decide)) (rm_skip (rm_no (no lit_706872617365 (by rw [h0]; decide)) (rm_skip (rm_no (no lit_6c6f63616c (by rw [h0]; decide)) (rm_skip (rm_no (no lit_6174 (by rw [h0]; decide)) (rm_skip (rm_yes (yes lit_686f757365 h0) ?_))))))))
      refine rm_flat (rm_retX (xm_and (Dm.EvV.cast (Dm.ev_op (w_sort rfl) (strV (l := sAtom) lit_61746f6d) o_eqS) (by rw [decide_eq_true h1])) (xm_meth (v.text.map lo1) (fun _ _ _ _ _ _ _ _ _ => rfl) (Dm.ea_cons (Dm.ev_bm0 (w_text rfl) (md_lower h2 (by omega))) Dm.ea_nil) ⟨h3, fun _ => h5⟩ (fun rs' d e => ⟨?_, e.2⟩))))
      rw [e.1]
      unfold toAngle
      rw [if_neg (by rw [h4]; exact Bool.false_ne_true)]
    | gOne h0 h1 h2 h3 =>
      refine rm_no (no lit_626567696e (by rw [h0]; decide)) (rm_skip (rm_no (no lit_706872617365 (by rw [h0]; decide)) (rm_skip (rm_no (no lit_6c6f63616c (by rw [h0]; decide)) (rm_skip (rm_no (no lit_6174 (by rw [h0]; decide)) (rm_skip (rm_no (no lit_686f757365 (by rw [h0]; decide)) (rm_skip (rm_yes (yes lit_616e676c65 h0) ?_))))))))))
      exact rm_flat (rm_retX (xm_and (Dm.EvV.cast (Dm.ev_notV (mv rfl)) (by rw [nT h1]; rfl)) (xm_and (Dm.EvV.cast (Dm.ev_op (w_text rfl) (strV lit_3e) o_eqS) (by rw [h2]; rfl)) (xm_meth () (fun _ _ _ _ _ _ _ _ _ => rfl) Dm.ea_nil h3 (fun rs' d e => e)))))
    | @eGroup sa h0 h1 h2 h3 h4 =>
      refine rm_no (no lit_626567696e (by rw [h0]; decide)) (rm_skip (rm_no (no lit_706872617365 (by rw [h0]; decide)) (rm_skip (rm_no (no lit_6c6f63616c (by rw [h0]; decide)) (rm_skip (rm_no (no lit_6174 (by rw [h0]; decide)) (rm_skip (rm_no (no lit_686f757365 (by rw [h0]; decide)) (rm_skip (rm_no (no lit_616e676c65 (by rw [h0]; decide)) (rm_skip ?_)))))))))))
      exact rm_retX (xm_and (Dm.EvV.cast (Dm.ev_notV (mv rfl)) (by rw [nT h1]; rfl)) (xm_meth (v.text, doGroup rs sa) (fun _ _ _ _ _ _ _ _ _ => rfl) (Dm.ea_cons (w_text rfl) Dm.ea_nil) (.inl ⟨h2, sa, h3, h4, rfl⟩) (fun rs' d e => e)))
    | eComma h0 h1 h2 =>
      refine rm_no (no lit_626567696e (by rw [h0]; decide)) (rm_skip (rm_no (no lit_706872617365 (by rw [h0]; decide)) (rm_skip (rm_no (no lit_6c6f63616c (by rw [h0]; decide)) (rm_skip (rm_no (no lit_6174 (by rw [h0]; decide)) (rm_skip (rm_no (no lit_686f757365 (by rw [h0]; decide)) (rm_skip (rm_no (no lit_616e676c65 (by rw [h0]; decide)) (rm_skip ?_)))))))))))
      exact rm_retX (xm_and (Dm.EvV.cast (Dm.ev_notV (mv rfl)) (by rw [nT h1]; rfl)) (xm_meth (v.text, { rs with stand := sBegin, opened := false }) (fun _ _ _ _ _ _ _ _ _ => rfl) (Dm.ea_cons (w_text rfl) Dm.ea_nil) (.inr ⟨h2, rfl⟩) (fun rs' d e => e)))⟩)
end
end Fk
namespace C8
open PySem PySem.Spec PyProof.Rows L2
variable {X : Cx} {k j : Nat} {C : Addr} {x : PySem.Str} {sp : Sp} {dvs : List V} {p pos : Pos}
theorem pe_mk0 (c : Mak X.prog X.w X.K X.mg X.base k x C sp dvs) (hr : Room j X.A) (hk : k + 1 ≤ j) (hg : Gl X x)
    (hdb : (x == ("__debug__" : PySem.Str)) = false := by decide) : PE X (.Call (.Name x p) [] [] pos) (tMake C sp dvs E0 tNil) := by
  obtain ⟨f, fd, ps, ds, M, F, hm, b, d⟩ := c.ex
  exact pe_make0 M F (hr.mono hk) hg hm b d pass0 hdb
theorem pe_c0 (c : Cal X.prog X.w X.K X.mg X.base k x sp dvs) (hr : Room j X.A) (hk : k ≤ j) (hg : Gl X x)
    (hdb : (x == ("__debug__" : PySem.Str)) = false := by decide) : PE X (.Call (.Name x p) [] [] pos) (tCall sp dvs E0 tNil) := by
  obtain ⟨f, fd, ps, ds, F, hm, kp, b, d⟩ := c.ex
  exact pe_call0 F (hr.mono hk) hg hm kp b d pass0 hdb
end C8
namespace Fk
open PySem PySem.Spec PyProof.Rows L2 Dl Mr C8
open Evl (Ex)
local macro_rules | `(tactic| walk_at "ev") => `(tactic| first
  | (with_reducible apply ev_dat) <;> rfl
  | with_reducible apply ev_int
  | with_reducible apply ev_bl
  | with_reducible apply ev_non
  | walk_at "lit"
  | with_reducible apply ev_str
  | with_reducible apply eb_test
  | with_reducible apply eb_B
  | with_reducible apply ev_op
  | with_reducible apply o_add
  | with_reducible apply o_sub
  | with_reducible apply o_mul
  | with_reducible apply o_fdiv
  | with_reducible apply o_fdivW
  | with_reducible apply o_mod
  | with_reducible apply o_lt
  | with_reducible apply o_le
  | with_reducible apply o_gt
  | with_reducible apply o_ge
  | with_reducible apply o_eqI
  | with_reducible apply o_neI
  | with_reducible apply o_eqS
  | with_reducible apply o_neS
  | with_reducible apply o_neInts
  | with_reducible apply o_neNil
  | with_reducible apply o_eqNil
  | with_reducible apply o_eqInts
  | with_reducible apply o_addS
  | with_reducible apply o_in1
  | with_reducible apply o_ni1
  | with_reducible apply o_inS
  | with_reducible apply o_mulS
  | with_reducible apply ea_nil
  | with_reducible apply ea_cons
  | with_reducible apply ev_tup
  | with_reducible apply ev_lst
  | with_reducible apply eb_not
  | with_reducible apply eb_and
  | with_reducible apply eb_or
  | with_reducible apply ev_andV
  | with_reducible apply ev_orV
  | with_reducible apply ev_notV
  | with_reducible apply ev_chain
  | with_reducible apply ev_neg
  | with_reducible apply ev_slS
  | with_reducible apply ev_slL
  | with_reducible apply eo_none
  | with_reducible apply eo_some
  | with_reducible apply ev_cb
  | with_reducible apply cd_lenT
  | with_reducible apply cd_lenL
  | with_reducible apply cd_int
  | with_reducible apply cd_max
  | with_reducible apply cd_min
  | with_reducible apply ev_bm
  | with_reducible apply ev_bm0
  | with_reducible apply md_strip
  | with_reducible apply md_rstrip
  | with_reducible apply md_find
  | with_reducible apply md_index
  | with_reducible apply md_starts
  | with_reducible apply md_lower
  | with_reducible apply md_upper
  | with_reducible apply ei_str
  | with_reducible apply ei_list
  | with_reducible exact sz1 rfl
  | with_reducible exact Nat.le_of_ble_eq_true rfl
  | ((with_reducible apply cmulL) <;> decide)
  | ((with_reducible apply cmulR) <;> decide)
  | ((with_reducible apply cdiv) <;> decide)
  | ((with_reducible show (0 : Int) < _) <;> decide)
  | (with_reducible intro _hyp))

section
variable {P : Program} {w : World} {K : PySem.W.Frag} {mg : PySem.Str → Option Value} {base : Heap} {C : Addr}
theorem Lex_len : ∀ {p : Nat} {l : List Nat} {ws : List Wd}, Lex p l ws → ws.length ≤ l.length
  | _, _, _, .nil => Nat.le_refl _
  | _, _, _, .blank h => by
    have := Lex_len h
    rw [List.length_cons]
    omega
  | _, _, _, .word (n := n) (l := l) hh hw h => by
    have h1 := Lex_len h
    have h2 := word1_le hw
    rw [List.length_drop] at h1
    rw [List.length_cons]
    omega
abbrev noRm (w : Wd) : Bool := !decide (w.sort = sRemark)
abbrev N_read_words : List PySem.Str := ["value", "e", "word"]
theorem sc_read_words : FnScope N_read_words ["value"] (defScope s_read_words) := ⟨rfl, rfl, rfl, by decide +kernel, rfl, by decide +kernel, by decide +kernel⟩
local macro_rules | `(tactic| walk_at "lit") => `(tactic| first
  | with_reducible exact ev_strL lit_6e6f20746578742077697468_26
  | with_reducible exact ev_strL lit_6e6f20776f726473
  | with_reducible exact ev_strL lit_72656d61726b)
theorem c_read_words (T : Tx K mg) : C8.Cal P w K mg base 4 "read_words" (spP (α := List Nat × List Wd) (fun a => [.str a.1]) (fun a => (a.1.length ≤ 900000 ∧ Lex 0 a.1 a.2) ∧ 10 ∉ a.1) (fun a d => d = .lst ((a.2.filter noRm).map Wd.d))) [] :=
  have c_is_line := c_is_line (P := P) (w := w) (base := base) T
  have c_words_in := c_words_in (P := P) (w := w) (base := base) T
  cal_P T.d_read_words sc_read_words (fun _ => rfl) (by decide) (fun _ _ _ _ _ _ us hl => match us, hl with | [_], _ => rfl) (fun f cdv A outer s H E hr => ⟨_, (pss_cons (ps_if (pt_not (pt_val (C8.pe_c c_is_line hr (by decide) rfl (pa_cons (pv 0) pa_nil))))
    (pss_cons ps_never
    pss_nil)
    pss_nil)
    (pss_cons (ps_try_thru0 (pss_cons (ps_ret (pe_lc (own := [("word", 2)]) (g := gName 2) rfl sc_read_words.nd (pi_list (C8.pe_c c_words_in hr (by decide) rfl (pa_cons (pv 0) pa_nil))) (blkOk_by (own := [("word", 2)]) (N := N_read_words) (sc := defScope s_read_words) (by decide +kernel)) (fun _ _ _ _ _ => pg_name (i := 2) sc_read_words.nd rfl (Or.inl rfl)) (fun _ _ _ _ _ => (pts_one (pt_cmpR op_ne (pe_ix (ix_tupK (K := K) rfl) (pv 2) pe_int (fun _ _ => rfl)) pe_str (by rfl)))) (fun _ _ _ _ _ => (pv 2))))
    pss_nil))
    pss_nil)), fun a ha => by
    show Dl.Run No _ [.dat (.str a.1), .no, .no] _ _
    have hl := Lex_len ha.1.2
    have hl2 := ha.1.1
    refine run_no (EvB.cast (eb_not (eb_test (ed_call a.1 (by repeat' walk_at "ev") trivial))) (by rw [decide_eq_false ha.2] <;> rfl)) (run_skip ?_)
    refine run_flat (run_retV (EvF.v (ef_lcMF a.2 Wd.d noRm Wd.d (ei_list (ed_call a (by repeat' walk_at "ev") ha.1)) (fun v _ => eb_B (ev_op (x := .str v.sort) (ev_op (ev_dat rfl) ev_int (o_ixT rfl)) (ev_strL (l := sRemark) lit_72656d61726b) o_neS)) (fun v _ _ => ev_dat rfl) (sz (by omega)))) rfl)⟩)
def rs0 : Rs := ⟨sBegin, true, [], [], [], false, none, true, [], false, []⟩
def spI (C : Addr) : Sp := fun vs H Q _ => ∃ (G0 H0 : Hp) (x dx : Addr), vs = [.ref x] ∧ Ex G0 H0 ∧ H0 x = none ∧ H0 dx = none ∧ dx ≠ x ∧ H = upd (upd H0 dx (.own x)) x (.ins C dx []) ∧ ∀ H', RdAt C G0 H0 x G0 H' rs0 → Q .non H'
theorem ex_up {H0 H : Hp} {q : Addr} {o : HO} (e : Ex H0 H) (h : H0 q = none) : Ex H0 (upd H q o) := fun b u hb => by
  rw [upd_ne (ne_of_none hb h)]
  exact e b u hb
theorem ex_none {H0 H : Hp} {q : Addr} (e : Ex H0 H) (h : H q = none) : H0 q = none := by
  cases z : H0 q with
  | none => rfl
  | some o => rw [e _ _ z] at h; cases h
theorem lt1k {n : Nat} (h : Nat.ble (n + 1) 1000 = true) : n < 1000 := Nat.le_of_ble_eq_true h
section
variable {σ : L2.St} {D : Ends} {x C dx : Addr} {fs : List (PySem.Str × V)} {H0 H : Hp} {f : PySem.Str} {t2 : TS} {v : V}
theorem i_set (h0 : σ[0]? = some (some (.ref x))) (hc : Cls K C) (hn : NoAttr K C f) (hx0 : H0 x = none) (hx : H x = some (.ins C dx fs)) (ex : Ex H0 H) (hl : fs.length < 1000) (k : ∀ H2, Ex H0 H2 → H2 x = some (.ins C dx (putF f v fs)) → (∀ q, q ≠ x → H2 q = H q) → t2 D σ H2) : tSeq (sFld K (tVar 0) (tC v) f) t2 D σ H :=
  ⟨_, h0, x, C, dx, fs, rfl, hx, hc, hn, hl, k _ (ex_up ex hx0) upd_same fun q hq => upd_ne hq⟩
theorem i_new (h0 : σ[0]? = some (some (.ref x))) (hc : Cls K C) (hn : NoAttr K C f) (hx0 : H0 x = none) (hx : H x = some (.ins C dx fs)) (ex : Ex H0 H) (hl : fs.length < 1000) (k : ∀ p H2, H p = none → Ex H0 H2 → H2 x = some (.ins C dx (putF f (.ref p) fs)) → H2 p = some (.lst []) → (∀ q, q ≠ x → q ≠ p → H2 q = H q) → t2 D σ H2) : tSeq (sFld K (tVar 0) (tLst tNil) f) t2 D σ H :=
  ⟨by decide, fun p hp => ⟨_, h0, x, C, dx, fs, rfl, (upd_ne (ne_of_none hx hp)).trans hx, hc, hn, hl, k p _ hp (ex_up (ex_up ex (ex_none ex hp)) hx0) upd_same ((upd_ne (fun e => ne_of_none hx hp e.symm)).trans upd_same) fun q hq hq2 => (upd_ne hq).trans (upd_ne hq2)⟩⟩
end
abbrev N___init__ : List PySem.Str := ["self"]
theorem sc___init__ : FnScope N___init__ ["self"] (defScope m___init__) := ⟨rfl, rfl, rfl, by decide +kernel, rfl, by decide +kernel, by decide +kernel⟩
theorem mk_Reading (T : Tx K mg) (X : Rx K mg C) : C8.Mak P w K mg base 1 "Reading" C (spI C) [] := by
  obtain ⟨f, fd, F, hm⟩ := X.mkr
  refine ⟨f, fd, ["self"], [], hm, F.ok sc___init__ (fun vs H Q E h => ?_) (fun cdv A outer s H vs Q E hr h => ?_), X.mgC, F.bindsN (fun _ _ _ _ _ _ us hl => match us, hl with | [_], _ => rfl), .nil⟩
  · obtain ⟨G0, H0, x, dx, rfl, _⟩ := h
    rfl
  · refine ⟨_, PSs.nox (X := cxOf C8.CX0 P w K mg base N___init__ "Reading.__init__" (defScope m___init__) f cdv A outer s H E) (pss_cons (ps_fld (pv 0) pe_str rfl)
    (pss_cons (ps_fld (pv 0) (pe_lst pa_nil) rfl)
    (pss_cons (ps_fld (pv 0) pe_str rfl)
    (pss_cons (ps_fld (pv 0) pe_str rfl)
    (pss_cons (ps_fld (pv 0) pe_bl rfl)
    (pss_cons (ps_fld (pv 0) pe_non rfl)
    (pss_cons (ps_fld (pv 0) (pe_lst pa_nil) rfl)
    (pss_cons (ps_fld (pv 0) pe_bl rfl)
    (pss_cons (ps_fld (pv 0) (pe_lst pa_nil) rfl)
    pss_nil))))))))), ?_⟩
    obtain ⟨G0, H0, x, dx, rfl, e0, hx, hdx, hne, rfl, q⟩ := h
    have ex1 : Ex H0 (upd (upd H0 dx (.own x)) x (.ins C dx [])) := ex_up (ex_up (Ex.refl H0) hdx) hx
    refine i_set (H0 := H0) rfl X.cls X.n_stand hx upd_same ex1 (lt1k rfl) fun H1 e1 x1 s1 => ?_
    refine i_new rfl X.cls X.n_phrase hx x1 e1 (lt1k rfl) fun p H2 hp e2 x2 p2 s2 => ?_
    refine i_set rfl X.cls X.n_local hx x2 e2 (lt1k rfl) fun H3 e3 x3 s3 => ?_
    refine i_set rfl X.cls X.n_house hx x3 e3 (lt1k rfl) fun H4 e4 x4 s4 => ?_
    refine i_set rfl X.cls X.n_is_angled hx x4 e4 (lt1k rfl) fun H5 e5 x5 s5 => ?_
    refine i_set rfl X.cls X.n_leader hx x5 e5 (lt1k rfl) fun H6 e6 x6 s6 => ?_
    refine i_new rfl X.cls X.n_members hx x6 e6 (lt1k rfl) fun m H7 hm7 e7 x7 m7 s7 => ?_
    refine i_set rfl X.cls X.n_is_opened hx x7 e7 (lt1k rfl) fun H8 e8 x8 s8 => ?_
    refine i_new rfl X.cls X.n_listed hx x8 e8 (lt1k rfl) fun l H9 hl9 e9 x9 l9 s9 => ?_
    have px : p ≠ x := fun e => by rw [e, x1] at hp; cases hp
    have mx : m ≠ x := fun e => by rw [e, x6] at hm7; cases hm7
    have p6 : H6 p = some (.lst []) := by rw [s6 p px, s5 p px, s4 p px, s3 p px]; exact p2
    have pm : p ≠ m := fun e => by rw [← e, p6] at hm7; cases hm7
    have p8 : H8 p = some (.lst []) := by rw [s8 p px, s7 p px pm]; exact p6
    have pl : p ≠ l := fun e => by rw [← e, p8] at hl9; cases hl9
    have m8 : H8 m = some (.lst []) := by rw [s8 m mx]; exact m7
    have ml : m ≠ l := fun e => by rw [← e, m8] at hl9; cases hl9
    have n0 : ∀ {q : Addr}, H0 q = none → G0 q = none := fun h => ex_none e0 h
    refine q H9 ⟨dx, p, m, l, .non, e0, ⟨Ex.refl G0, e0.trans e9, fun b o _ h => e9 _ _ h, fun _ _ h => h, fun _ h => h.elim⟩, hx, x9, n0 hx, ?_, .non, ?_, ?_, fun _ => pl, fun _ _ => pm, fun _ => ml⟩
    · exact ⟨[], by rw [s9 p px pl]; exact p8, n0 (ex_none e1 hp), ex_none e1 hp, .nil⟩
    · exact ⟨[], by rw [s9 m mx ml]; exact m8, n0 (ex_none e6 hm7), ex_none e6 hm7, .nil⟩
    · exact ⟨[], l9, n0 (ex_none e8 hl9), ex_none e8 hl9, .nil⟩
end
end Fk
namespace Fk
open PySem PySem.Spec PyProof.Rows L2 Dl Mr C8
open Evl (Ex)
local macro_rules | `(tactic| walk_at "ev") => `(tactic| first
  | (with_reducible apply ev_dat) <;> rfl
  | with_reducible apply ev_int
  | with_reducible apply ev_bl
  | with_reducible apply ev_non
  | walk_at "lit"
  | with_reducible apply ev_str
  | with_reducible apply eb_test
  | with_reducible apply eb_B
  | with_reducible apply ev_op
  | with_reducible apply o_add
  | with_reducible apply o_sub
  | with_reducible apply o_mul
  | with_reducible apply o_fdiv
  | with_reducible apply o_fdivW
  | with_reducible apply o_mod
  | with_reducible apply o_lt
  | with_reducible apply o_le
  | with_reducible apply o_gt
  | with_reducible apply o_ge
  | with_reducible apply o_eqI
  | with_reducible apply o_neI
  | with_reducible apply o_eqS
  | with_reducible apply o_neS
  | with_reducible apply o_neInts
  | with_reducible apply o_neNil
  | with_reducible apply o_eqNil
  | with_reducible apply o_eqInts
  | with_reducible apply o_addS
  | with_reducible apply o_in1
  | with_reducible apply o_ni1
  | with_reducible apply o_inS
  | with_reducible apply o_mulS
  | with_reducible apply ea_nil
  | with_reducible apply ea_cons
  | with_reducible apply ev_tup
  | with_reducible apply ev_lst
  | with_reducible apply eb_not
  | with_reducible apply eb_and
  | with_reducible apply eb_or
  | with_reducible apply ev_andV
  | with_reducible apply ev_orV
  | with_reducible apply ev_notV
  | with_reducible apply ev_chain
  | with_reducible apply ev_neg
  | with_reducible apply ev_slS
  | with_reducible apply ev_slL
  | with_reducible apply eo_none
  | with_reducible apply eo_some
  | with_reducible apply ev_cb
  | with_reducible apply cd_lenT
  | with_reducible apply cd_lenL
  | with_reducible apply cd_int
  | with_reducible apply cd_max
  | with_reducible apply cd_min
  | with_reducible apply ev_bm
  | with_reducible apply ev_bm0
  | with_reducible apply md_strip
  | with_reducible apply md_rstrip
  | with_reducible apply md_find
  | with_reducible apply md_index
  | with_reducible apply md_starts
  | with_reducible apply md_lower
  | with_reducible apply md_upper
  | with_reducible apply ei_str
  | with_reducible apply ei_list
  | with_reducible exact sz1 rfl
  | with_reducible exact Nat.le_of_ble_eq_true rfl
  | ((with_reducible apply cmulL) <;> decide)
  | ((with_reducible apply cmulR) <;> decide)
  | ((with_reducible apply cdiv) <;> decide)
  | ((with_reducible show (0 : Int) < _) <;> decide)
  | (with_reducible intro _hyp))

section
variable {P : Program} {w : World} {K : PySem.W.Frag} {mg : PySem.Str → Option Value} {base : Heap} {C : Addr}
inductive Reads : Rs → List Wd → Rs → Prop
  | nil {rs : Rs} : Reads rs [] rs
  | cons {rs rs' rf : Rs} {w : Wd} {ws : List Wd} : St rs w rs' → Reads rs' ws rf → Reads rs (w :: ws) rf
def WOk (x : Wd) : Prop := x.text.length ≤ 2000 ∧ D.ok 1 (Wd.d x) = true
structure RaOk (v : List Nat) (ws : List Wd) (rf : Rs) : Prop where
  len : v.length ≤ 900000
  lex : Lex 0 v ws
  line : 10 ∉ v
  ok : ∀ x ∈ ws.filter noRm, WOk x
  rds : Reads rs0 (ws.filter noRm) rf
  done : ws.filter noRm = [] ∨ isDone rf = true
theorem cfg_one {G H : Hp} {σ : L2.St} {v : V} {d : D} (e : Ex G H) (hl : σ.length = 4) (h1 : σ[1]? = some (some v)) (r : Rp G v d) : Cfg (fun p => H p ≠ none ∧ G p = none) No G H σ [.no, .dat d, .no, .no] := by
  refine ⟨e, fun p hp => hp, fun p hp => hp.elim, hl, fun i o s ho hs => ?_, fun i j p a b hi => ?_⟩
  · match i, hs with
    | 0, hs => cases hs; trivial
    | 1, hs =>
      cases hs
      rw [h1] at ho
      cases ho
      exact ⟨v, rfl, r⟩
    | 2, hs => cases hs; trivial
    | 3, hs => cases hs; trivial
    | i + 4, hs => cases hs
  · match i, hi with
    | 0, hi => cases hi
    | 1, hi => cases hi
    | 2, hi => cases hi
    | 3, hi => cases hi
    | i + 4, hi => cases hi
theorem for_go {wi : TI} {g : TG} {tb t2 : TS} {E : Ends} {σ : L2.St} {H : Hp} (h : wi σ H fun J H1 => ∃ W : Nat → Nat → L2.St → Hp → Prop, (∃ m, W 0 m σ H1) ∧ ∀ i m σ H, W i m σ H →
  (J.stop i H ∧ t2 E σ H) ∨ (J.go i H ∧ ∃ N : L2.St → Hp → Prop, (∀ σ' H', N σ' H' → ∃ m', m' < m ∧ W (i + 1) m' σ' H') ∧ ∀ x H', J.yld i H x H' → g x σ H' fun σ2 H2 => tb { E with nx := N, ct := N, bk := t2 E } σ2 H2)) : tSeq (tFor wi g tb) t2 E σ H := h
abbrev N_read_addresses : List PySem.Str := ["value", "some", "reading", "word"]
theorem sc_read_addresses : FnScope N_read_addresses ["value"] (defScope s_read_addresses) := ⟨rfl, rfl, rfl, by decide +kernel, rfl, by decide +kernel, by decide +kernel⟩
local macro_rules | `(tactic| walk_at "lit") => `(tactic| first
  | with_reducible exact ev_strL lit_656e647320746f6f20736f6f6e
  | with_reducible exact ev_strL lit_6e6f20616464726573732067_21)
theorem c_read_addresses (T : Tx K mg) (X : Rx K mg C) : C8.Cal P w K mg base 9 "read_addresses" (spP (α := List Nat × List Wd × Rs) (fun a => [.str a.1]) (fun a => RaOk a.1 a.2.1 a.2.2) (fun a d => d = .lst (a.2.2.lst.map Adr.d))) [] :=
  have c_read_words := c_read_words (P := P) (w := w) (base := base) T
  have mk_Reading := mk_Reading (P := P) (w := w) (base := base) T X
  have mt_takes := mt_takes (P := P) (w := w) (base := base) T X
  have mt_is_done := mt_is_done (P := P) (w := w) (base := base) T X
  cal_P T.d_read_addresses sc_read_addresses (fun _ => rfl) (by decide) (fun _ _ _ _ _ _ us hl => match us, hl with | [_], _ => rfl) (fun f cdv A outer s H E hr => ⟨_, (pss_cons (ps_set (i := 1) sc_read_addresses.nd rfl (Or.inl rfl) (C8.pe_c c_read_words hr (by decide) rfl (pa_cons (pv 0) pa_nil)))
    (pss_cons (ps_set (i := 2) sc_read_addresses.nd rfl (Or.inl rfl) (C8.pe_mk0 mk_Reading hr (by decide) rfl))
    (pss_cons (ps_for PassesOwn.never rfl (pi_list (pv 1)) (pg_name (i := 3) sc_read_addresses.nd rfl (Or.inl rfl))
    (pss_cons (ps_if (pt_not (pt_val (C8.pe_mt mt_takes hr (by decide) (pv 2) (pa_cons (pv 3) pa_nil))))
    (pss_cons ps_never
    pss_nil)
    pss_nil)
    pss_nil))
    (pss_cons (ps_if (PW.pt (pw_and (pt_cmpR (op_neD hr.units) (pv 1) (pe_lst pa_nil) (by rfl)) (pw_and1 (pt_not (pt_val (C8.pe_mt0 mt_is_done hr (by decide) (pv 2)))))))
    (pss_cons ps_never
    pss_nil)
    pss_nil)
    (pss_cons (ps_ret (pe_fld (pv 2) rfl))
    pss_nil))))), fun a ha => by
    obtain ⟨v, ws, rf⟩ := a
    obtain ⟨hlen, hlex, hline, hok, hrds, hdone⟩ := ha
    simp only at hlen hlex hline hok hrds hdone
    have hwl := Lex_len hlex
    show Dl.Run No _ [.dat (.str v), .no, .no, .no] _ _
    refine run_set (ed_call (v, ws) (by repeat' walk_at "ev") ⟨⟨hlen, hlex⟩, hline⟩) ?_
    have hok2 : ∀ x ∈ ws.filter noRm, WOk x := hok
    show Dl.Run No _ [.dat (.str v), .dat (.lst ((ws.filter noRm).map Wd.d)), .no, .no] _ _
    generalize ws.filter noRm = fs at hrds hdone hok2
    intro F G H σ E c kn kr
    obtain ⟨v1, s1, r1⟩ := c.dat (i := 1) rfl
    have hsl : σ.length = 4 := c.len
    refine fun x dx hx hdx hne => ⟨G, H, x, dx, rfl, c.ext, hx, hdx, hne, rfl, fun H1 rd1 => ⟨rfl, ?_⟩⟩
    have s1' : (σ.set 2 (some (.ref x)))[1]? = some (some v1) := by rw [List.getElem?_set_ne (by decide)]; exact s1
    have s2' : (σ.set 2 (some (.ref x)))[2]? = some (some (.ref x)) := by rw [List.getElem?_set_self (by omega)]
    have sl' : (σ.set 2 (some (.ref x))).length = 4 := by rw [List.length_set]; exact hsl
    have hE1 : Ex G H1 := rd1.base.ext
    show tSeq (tFor (iList K (tVar 1)) (gName 3) _) _ E (σ.set 2 (some (.ref x))) H1
    refine for_go ?_
    refine ei_list (S := No) (K := K) (te := tVar 1) (ρ := [.no, .dat (.lst (fs.map Wd.d)), .no, .no]) (ys := fs.map Wd.d) (ev_dat rfl) _ G H1 (σ.set 2 (some (.ref x))) (cfg_one hE1 sl' s1' r1) _ fun J G1 H2 g1 yl => ?_
    refine ⟨fun k m σ' H' => ∃ G' rk, k + m = fs.length ∧ Reads rk (fs.drop k) rf ∧ RdAt C G H x G' H' rk ∧ Ex G1 G' ∧ σ'[1]? = some (some v1) ∧ σ'[2]? = some (some (.ref x)) ∧ σ'.length = 4, ⟨fs.length, G1, rs0, Nat.zero_add _, hrds, rd1.goes g1, Ex.refl G1, s1', s2', sl'⟩, ?_⟩
    rintro k m σ3 H3 ⟨G3, rk, hk, rdk, rd3, e3, t1, t2, t3⟩
    obtain ⟨y1, y2⟩ := yl G3 H3 e3 rd3.base k
    cases hd : fs[k]? with
    | none =>
      have hkl : k = fs.length := by
        have := List.getElem?_eq_none_iff.mp hd
        omega
      have hdd : (fs.map Wd.d)[k]? = none := by rw [List.getElem?_map, hd] <;> rfl
      refine .inl ⟨y2 hdd, ?_⟩
      rw [hkl, List.drop_length] at rdk
      cases rdk
      have rf3 : Rp G3 v1 (.lst (fs.map Wd.d)) := r1.mono (g1.g.trans e3)
      have okf : D.ok 2 (.lst (fs.map Wd.d)) = true := by
        show (fs.map Wd.d).all (D.ok 1) = true
        rw [List.all_map, List.all_eq_true]
        exact fun y hy => (hok2 y hy).2
      -- some != [] and not done
      have hc3 := cfg_one (d := .lst (fs.map Wd.d)) rd3.base.ext t3 t1 rf3
      refine eb_B (b := !decide (fs.map Wd.d = [])) (ρ := [.no, .dat (.lst (fs.map Wd.d)), .no, .no]) (ev_op (ev_dat rfl) (ev_lst ea_nil (sz1 rfl)) (o_neNil' okf (by decide))) _ G3 H3 σ3 hc3 _ fun b G4 H4 eb g4 => ?_
      subst eb
      have rd4 := rd3.goes g4
      -- the last statement
      have last : ∀ (G5 H5 : Hp), RdAt C G H x G5 H5 rf → Ex G G5 → tSeq (tRet (tFld K (tVar 2) "listed")) tNext E σ3 H5 := fun G5 H5 rd5 e5 => by
        obtain ⟨dx', p, m', l, vl, ok5⟩ := rd5
        obtain ⟨us, h1, gl, z1, rl⟩ := ok5.li
        refine ⟨_, t2, x, C, dx', _, .ref l, rfl, ok5.ha, X.cls, X.n_listed, rfl, ?_⟩
        refine kr (.ref l) (.lst (rf.lst.map Adr.d)) (upd G5 l (.lst us)) H5 rfl ?_ (.lst upd_same (rl.mono (Ex.new gl)))
        exact (go_frz0 ok5.go z1 h1 gl).toS c
      by_cases hn : fs.map Wd.d = []
      · rw [decide_eq_true hn]
        show (if false = true then _ else _)
        rw [if_neg Bool.false_ne_true]
        show (if false = true then _ else _)
        rw [if_neg Bool.false_ne_true]
        exact last G4 H4 rd4 (g1.g.trans (e3.trans g4.g))
      · rw [decide_eq_false hn]
        show (if true = true then _ else _)
        rw [if_pos rfl]
        have hdn : isDone rf = true := by
          rcases hdone with h | h
          · exact absurd (by rw [h]; rfl) hn
          · exact h
        obtain ⟨dx', p, m', l, vl, ok4⟩ := rd4
        refine ⟨_, t2, x, dx', _, rfl, ok4.ha, rfl, ?_⟩
        refine ⟨(), G4, G, H, x, rf, [], rfl, ⟨dx', p, m', l, vl, ok4⟩, .nil, trivial, fun u d rs' G5 H5 po rd5 e5 rr => ?_⟩
        obtain ⟨rfl, rfl⟩ := po
        cases rr
        refine ⟨_, rfl, ?_⟩
        rw [hdn]
        show (if false = true then _ else _)
        rw [if_neg Bool.false_ne_true]
        exact last G5 H5 rd5 ((g1.g.trans (e3.trans g4.g)).trans e5)
    | some wd =>
      have hkl : k < fs.length := (List.getElem?_eq_some_iff.mp hd).1
      obtain ⟨z1, z2⟩ := y1 (Wd.d wd) (by rw [List.getElem?_map, hd] <;> rfl)
      refine .inr ⟨z1, fun σ' H' => ∃ G' rk, (k + 1) + (m - 1) = fs.length ∧ Reads rk (fs.drop (k + 1)) rf ∧ RdAt C G H x G' H' rk ∧ Ex G1 G' ∧ σ'[1]? = some (some v1) ∧ σ'[2]? = some (some (.ref x)) ∧ σ'.length = 4, fun σ' H' n => ⟨m - 1, by omega, n⟩, fun x' H4 hy => ?_⟩
      obtain ⟨G4, g4, rx⟩ := z2 x' H4 hy
      have rd4 := rd3.goes g4
      rw [drop_get hd] at rdk
      cases rdk with
      | @cons _ rk' _ _ _ st rest =>
      have u1 : (σ3.set 3 (some x'))[1]? = some (some v1) := by rw [List.getElem?_set_ne (by decide)]; exact t1
      have u2 : (σ3.set 3 (some x'))[2]? = some (some (.ref x)) := by rw [List.getElem?_set_ne (by decide)]; exact t2
      have u3 : (σ3.set 3 (some x'))[3]? = some (some x') := by rw [List.getElem?_set_self (by omega)]
      have ul : (σ3.set 3 (some x')).length = 4 := by rw [List.length_set]; exact t3
      obtain ⟨dx', p, m', l, vl, ok4⟩ := rd4
      refine ⟨_, u2, x, dx', _, rfl, ok4.ha, rfl, ?_⟩
      refine ⟨_, u3, ?_⟩
      refine ⟨(wd, rk'), G4, G, H, x, rk, [x'], rfl, ⟨dx', p, m', l, vl, ok4⟩, .one rx, ⟨st, (hok2 wd (List.mem_of_getElem? hd)).1⟩, fun u d rs' G5 H5 po rd5 e5 rr => ?_⟩
      obtain ⟨rfl, rfl⟩ := po
      cases rr
      refine ⟨_, rfl, ?_⟩
      show (if false = true then _ else _)
      rw [if_neg Bool.false_ne_true]
      exact ⟨G5, _, by omega, rest, rd5, e3.trans (g4.g.trans e5), u1, u2, ul⟩⟩)
end
end Fk
/-! max(xs, default=d) of ints. -/
namespace Dl
open PySem PySem.Spec PyProof.Rows L2
def rMaxDf (K : PySem.W.Frag) : List V → List V → Hp → VK → Prop := fun xs zs H Q => ∃ (a : Addr) (ns : List Int) (d : Int), xs = [.ref a] ∧ zs = [.int d] ∧ SqL K H a (ns.map V.int) ∧ (ns = [] → Q (.int d) H) ∧ ∀ m, m ∈ ns → Q (.int m) H
theorem dpInts {K : PySem.W.Frag} {H : Hp} : ∀ ns : List Int, DpAll K H (ns.map V.int) (ns.map PyData.int)
  | [] => .nil
  | n :: r => .cons (.int n) (dpInts r)
theorem depth_ints : ∀ ns : List Int, PyData.depthAll (ns.map PyData.int) = 0
  | [] => rfl
  | n :: r => by
    show max 0 (PyData.depthAll (r.map PyData.int)) = 0
    rw [depth_ints r] <;> rfl
theorem maxD_in (n : Int) : ∀ ns : List Int, ns.foldl max n ∈ n :: ns
  | [] => List.mem_cons_self ..
  | k :: r => by
    rw [List.foldl_cons]
    have h := maxD_in (max n k) r
    rcases List.mem_cons.mp h with e | e
    · rw [e]
      rcases Int.le_total n k with z | z
      · rw [Int.max_eq_right z]; simp
      · rw [Int.max_eq_left z]; simp
    · exact List.mem_cons_of_mem _ (List.mem_cons_of_mem _ e)
section
variable {X : Cx}
theorem cr_maxDf (hc : X.calm = true) (hu : X.A.units + 64 < cLine) : CallRK X (.builtin "max") ["default"] (rMaxDf X.K) := by
  intro pins s σ H xs zs us ws Q I r r2 h
  obtain ⟨a, ns, d, rfl, rfl, hs, q0, q⟩ := h
  obtain ⟨its, rv, hl, _⟩ := I.list hs
  obtain ⟨as, ra⟩ := Dp.readsAll I (ns.map PyData.int) (ns.map V.int) its (dpInts ns) rv
  rw [Vals.ref1 r]
  cases r2 with
  | cons rd rn =>
    cases rn
    obtain ⟨t, rfl⟩ := rd
    refine PySem.W.max_list_default (xs := ns.map PyData.int) (I.ok.hd hc) hl.isList ra ⟨fun x hx y hy => ?_, fun x hx => ?_⟩ (by rw [depth_ints]; omega) (fun hz h' tk hk => ?_) (fun y ys i v h' tk bs e hv rr hk => ?_)
    · obtain ⟨i, _, rfl⟩ := List.mem_map.mp hx
      obtain ⟨j, _, rfl⟩ := List.mem_map.mp hy
      rfl
    · obtain ⟨i, _, rfl⟩ := List.mem_map.mp hx
      exact fun z => nomatch z
    · exact ⟨.int d, H, I.kept hk, ⟨_, rfl⟩, q0 (List.map_eq_nil_iff.mp hz)⟩
    · cases ns with
      | nil => cases e
      | cons n r =>
        rw [List.map_cons] at e
        obtain ⟨e1, e2⟩ := List.cons.inj e
        subst e1 e2
        rw [PySem.W.maxD_ints] at rr
        cases rr
        exact ⟨.int _, H, I.kept hk, ⟨_, rfl⟩, q _ (maxD_in n r)⟩
end
section
variable {S : Addr → Prop} {ρ : List Sl} {te td : TE} {K : PySem.W.Frag}
theorem ev_maxDf {ns : List Int} {d : Int} (h : EvV S te ρ (.lst (ns.map .int))) (h2 : EvV S td ρ (.int d)) : EvD S (tCKw (rMaxDf K) (tCons te tNil) (tCons td tNil)) ρ (fun x => ∃ m, x = .int m ∧ (m ∈ ns ∨ m = d)) := fun F G H σ c Q q =>
  h F G H σ c _ fun v x G1 H1 ex g1 r1 => by
    subst ex
    refine h2 F G1 H1 σ (c.go g1) _ fun w y G2 H2 ey g2 r2 => ?_
    subst ey
    cases r2
    obtain ⟨a, vs, rfl, h1, hr⟩ := r1.lst_inv
    rw [hr.int_inv] at h1
    have g12 := g1.trans c.base g2
    refine ⟨a, ns, d, rfl, rfl, SqL.of (g2.gh _ _ (g2.g _ _ h1)), fun _ => q _ _ G2 H2 ⟨d, rfl, .inr rfl⟩ g12 (.int d), fun m hm => q _ _ G2 H2 ⟨m, rfl, .inl hm⟩ g12 (.int m)⟩
theorem opd_imp {r : R2} {x y : D} {P P' : D → Prop} (h : OpD S r x y P) (f : ∀ d, P d → P' d) : OpD S r x y P' := fun G H b v w Q r1 r2 q => h G H b v w Q r1 r2 fun u d G' H' pd => q u d G' H' (f d pd)
/-- a text's method on an argument that is told loosely -/
theorem ed_bmj {r : V → List V → Hp → VK → Prop} {to ta : TE} {l : List Nat} {ys P : D → Prop} (ho : EvV S to ρ (.str l)) (ha : EvD S ta ρ ys) (hm : ∀ d, ys d → ∃ z, MtD S r (.str l) [d] z ∧ P z) : EvD S (tBM K "str" r to (tCons ta tNil)) ρ P := fun F G H σ c Q q =>
  ho F G H σ c _ fun v d G1 H1 e g1 r1 => by
    subst e
    cases r1
    refine ⟨rfl, ha F G1 H1 σ (c.go g1) _ fun u d G2 H2 hd g2 r2 => ?_⟩
    obtain ⟨z, hz, hp⟩ := hm d hd
    exact hz G2 H2 ((c.go g1).go g2).base _ [u] Q (.str l) (.one r2) fun u' G3 H3 g3 r3 => q u' z G3 H3 hp ((g1.trans c.base g2).trans c.base g3) r3
end
end Dl
namespace Fk
open PySem PySem.Spec PyProof.Rows L2 Dl Mr
local macro_rules | `(tactic| walk_at "ev") => `(tactic| first
  | (with_reducible apply ev_dat) <;> rfl
  | with_reducible apply ev_int
  | with_reducible apply ev_bl
  | with_reducible apply ev_non
  | walk_at "lit"
  | with_reducible apply ev_str
  | with_reducible apply eb_test
  | with_reducible apply eb_B
  | with_reducible apply ev_op
  | with_reducible apply o_add
  | with_reducible apply o_sub
  | with_reducible apply o_mul
  | with_reducible apply o_fdiv
  | with_reducible apply o_fdivW
  | with_reducible apply o_mod
  | with_reducible apply o_lt
  | with_reducible apply o_le
  | with_reducible apply o_gt
  | with_reducible apply o_ge
  | with_reducible apply o_eqI
  | with_reducible apply o_neI
  | with_reducible apply o_eqS
  | with_reducible apply o_neS
  | with_reducible apply o_neInts
  | with_reducible apply o_neNil
  | with_reducible apply o_eqNil
  | with_reducible apply o_eqInts
  | with_reducible apply o_addS
  | with_reducible apply o_in1
  | with_reducible apply o_ni1
  | with_reducible apply o_inS
  | with_reducible apply o_mulS
  | with_reducible apply ea_nil
  | with_reducible apply ea_cons
  | with_reducible apply ev_tup
  | with_reducible apply ev_lst
  | with_reducible apply eb_not
  | with_reducible apply eb_and
  | with_reducible apply eb_or
  | with_reducible apply ev_andV
  | with_reducible apply ev_orV
  | with_reducible apply ev_notV
  | with_reducible apply ev_chain
  | with_reducible apply ev_neg
  | with_reducible apply ev_slS
  | with_reducible apply ev_slL
  | with_reducible apply eo_none
  | with_reducible apply eo_some
  | with_reducible apply ev_cb
  | with_reducible apply cd_lenT
  | with_reducible apply cd_lenL
  | with_reducible apply cd_int
  | with_reducible apply cd_max
  | with_reducible apply cd_min
  | with_reducible apply ev_bm
  | with_reducible apply ev_bm0
  | with_reducible apply md_strip
  | with_reducible apply md_rstrip
  | with_reducible apply md_find
  | with_reducible apply md_index
  | with_reducible apply md_starts
  | with_reducible apply md_lower
  | with_reducible apply md_upper
  | with_reducible apply ei_str
  | with_reducible apply ei_list
  | with_reducible exact sz1 rfl
  | with_reducible exact Nat.le_of_ble_eq_true rfl
  | ((with_reducible apply cmulL) <;> decide)
  | ((with_reducible apply cmulR) <;> decide)
  | ((with_reducible apply cdiv) <;> decide)
  | ((with_reducible show (0 : Int) < _) <;> decide)
  | (with_reducible intro _hyp))

section
variable {P : Program} {w : World} {K : PySem.W.Frag} {mg : PySem.Str → Option Value} {base : Heap}
def PlacesOk (l : List Nat) (b : Nat) (ns : List Int) : Prop := ns.length ≤ l.length ∧ ∀ n ∈ ns, ∃ k : Nat, n = (k : Int) ∧ b ≤ k ∧ l[k]? = some 32
abbrev N_fold_places : List PySem.Str := ["line", "begin", "at"]
theorem sc_fold_places : FnScope N_fold_places ["line", "begin"] (defScope s_fold_places) := ⟨rfl, rfl, rfl, by decide +kernel, rfl, by decide +kernel, by decide +kernel⟩
local macro_rules | `(tactic| walk_at "lit") => `(tactic| first
  | with_reducible exact ev_strL lit_20)
theorem c_fold_places (T : Tx K mg) : C8.Cal P w K mg base 1 "fold_places" (spP (α := List Nat × Nat) (fun a => [.str a.1, .int (a.2 : Int)]) (fun a => a.1.length ≤ 900000 ∧ 1 ≤ a.2 ∧ a.2 ≤ 1000) (fun a d => ∃ ns : List Int, d = .lst (ns.map .int) ∧ PlacesOk a.1 a.2 ns)) [] :=
  cal_P T.d_fold_places sc_fold_places (fun _ => rfl) (by decide) (fun _ _ _ _ _ _ us hl => match us, hl with | [_, _], _ => rfl) (fun f cdv A outer s H E hr => ⟨_, (pss_cons (ps_ret (pe_lc (own := [("at", 2)]) (g := gName 2) rfl sc_fold_places.nd (pi_range2 (by rfl) T.n_range (pa_cons (pv 1) (pa_cons (pe_callB cl_lenT (by rfl) T.n_len boot_len (pa_cons (pv 0) pa_nil)) pa_nil))) (blkOk_by (own := [("at", 2)]) (N := N_fold_places) (sc := defScope s_fold_places) (by decide +kernel)) (fun _ _ _ _ _ => pg_name (i := 2) sc_fold_places.nd rfl (Or.inl rfl)) (fun _ _ _ _ _ => (pts_one (PW.pt (pw_and (pt_cmpR op_eq (pe_ix ix_str (pv 0) (pv 2) (fun _ _ => rfl)) pe_str (by rfl)) (pw_and1 (pt_cmpR op_ne (pe_ix ix_str (pv 0) (pe_op op_sub (pv 2) pe_int) (fun _ _ => rfl)) pe_str (by rfl))))))) (fun _ _ _ _ _ => (pv 2))))
    pss_nil), fun a ha => by
    obtain ⟨l, b⟩ := a
    obtain ⟨hl, hb, hb2⟩ := ha
    simp only at hl hb hb2
    show Dl.Run No _ [.dat (.str l), .dat (.int (b : Int)), .no] _ _
    refine run_retV (EvF.v (ef_lcMF (List.range ((l.length : Int) - (b : Int)).toNat) (fun k => .int ((b : Int) + (k : Int) * 1)) (fun k => decide (l.getD (b + k) 0 = 32) && !decide (l.getD (b + k - 1) 0 = 32)) (fun k => .int ((b : Int) + (k : Int) * 1)) (ei_rng2 (by repeat' walk_at "ev") (by
      repeat' walk_at "ev"
      exact sz (by omega)) (by omega)) (fun k hk => ?_) (fun k hk _ => ev_dat rfl) (sz (by rw [List.length_range]; omega)))) ?_
    · have hk2 := List.mem_range.mp hk
      have hg : l[b + k]? = some (l.getD (b + k) 0) := by rw [List.getD_eq_getElem?_getD, List.getElem?_eq_getElem (by omega)] <;> rfl
      have hg2 : l[b + k - 1]? = some (l.getD (b + k - 1) 0) := by rw [List.getD_eq_getElem?_getD, List.getElem?_eq_getElem (by omega)] <;> rfl
      have e1 : ((b : Int) + (k : Int) * 1) = ((b + k : Nat) : Int) := by omega
      have e2 : (((b + k : Nat) : Int) - 1) = ((b + k - 1 : Nat) : Int) := by omega
      rw [e1]
      refine eb_and (EvB.cast (eb_B (ev_op (ev_op (ev_dat rfl) (ev_dat rfl) (o_ixS (Dl.atI_nat hg) (sz (by omega)))) (by repeat' walk_at "ev") o_eqS)) (by simp)) (fun _ => EvB.cast (eb_B (ev_op (ev_op (ev_dat rfl) (ev_op (ev_dat rfl) ev_int (o_sub)) (o_ixS (c := l.getD (b + k - 1) 0) (by rw [e2]; exact Dl.atI_nat hg2) (sz (by omega)))) (by repeat' walk_at "ev") o_neS)) (by simp))
    · show ∃ ns : List Int, _ = _ ∧ PlacesOk l b ns
      refine ⟨((List.range ((l.length : Int) - (b : Int)).toNat).filter (fun k => decide (l.getD (b + k) 0 = 32) && !decide (l.getD (b + k - 1) 0 = 32))).map (fun (k : Nat) => (b : Int) + (k : Int) * 1), by rw [List.map_map] <;> rfl, ?_, fun n hn => ?_⟩
      · rw [List.length_map]
        refine Nat.le_trans (List.length_filter_le _ _) ?_
        rw [List.length_range]
        omega
      obtain ⟨k, hk, rfl⟩ := List.mem_map.mp hn
      obtain ⟨hk1, hk2⟩ := List.mem_filter.mp hk
      have hk3 := List.mem_range.mp hk1
      rw [Bool.and_eq_true] at hk2
      refine ⟨b + k, by omega, by omega, ?_⟩
      rw [List.getElem?_eq_getElem (by omega), ← of_decide_eq_true hk2.1, List.getD_eq_getElem?_getD, List.getElem?_eq_getElem (by omega)]
      rfl⟩)
def Folded (b : Nat) (line : List Nat) (ps : List (List Nat)) : Prop := ps.flatten = line ∧ ∃ p r, ps = p :: r ∧ (r = [] ∨ b ≤ p.length) ∧ ∀ q ∈ r, q.head? = some 32
structure FoldI (b : Nat) (line : List Nat) (x : List (List Nat) × List Nat × List Int) : Prop where
  fl : x.1.flatten ++ x.2.1 = line
  p1 : ∀ p r, x.1 = p :: r → b ≤ p.length ∧ ∀ q ∈ r, q.head? = some 32
  p2 : x.1 ≠ [] → x.2.1.head? = some 32
  ps : PlacesOk x.2.1 1 x.2.2
  p3 : x.1 = [] → PlacesOk x.2.1 b x.2.2
  ln : x.1.length ≤ x.1.flatten.length
abbrev N_folded_lines : List PySem.Str := ["line", "begin", "found", "places", "near", "at"]
theorem sc_folded_lines : FnScope N_folded_lines ["line", "begin"] (defScope s_folded_lines) := ⟨rfl, rfl, rfl, by decide +kernel, rfl, by decide +kernel, by decide +kernel⟩

theorem c_folded_lines (T : Tx K mg) : C8.Cal P w K mg base 2 "folded_lines" (spP (α := List Nat × Nat) (fun a => [.str a.1, .int (a.2 : Int)]) (fun a => a.1.length ≤ 900000 ∧ 1 ≤ a.2 ∧ a.2 ≤ 1000) (fun a d => ∃ ps, d = .lst (ps.map .str) ∧ Folded a.2 a.1 ps)) [] :=
  have c_fold_places := c_fold_places (P := P) (w := w) (base := base) T
  cal_P T.d_folded_lines sc_folded_lines (fun _ => rfl) (by decide) (fun _ _ _ _ _ _ us hl => match us, hl with | [_, _], _ => rfl) (fun f cdv A outer s H E hr => ⟨_, (pss_cons (ps_set (i := 2) sc_folded_lines.nd rfl (Or.inl rfl) (pe_lst pa_nil))
    (pss_cons (ps_set (i := 3) sc_folded_lines.nd rfl (Or.inl rfl) (C8.pe_c c_fold_places hr (by decide) rfl (pa_cons (pv 0) (pa_cons (pv 1) pa_nil))))
    (pss_cons (ps_while PassesOwn.never (PW.pt (pw_and (pt_cmpR op_gt (pe_callB cl_lenT (by rfl) T.n_len boot_len (pa_cons (pv 0) pa_nil)) (C8.pe_gc rfl T.k_WIDTH) (by rfl)) (pw_and1 (pt_cmpR (op_neD hr.units) (pv 3) (pe_lst pa_nil) (by rfl)))))
    (pss_cons (ps_setLc (i := 4) (own := [("at", 5)]) (g := gName 5) rfl sc_folded_lines.nd rfl rfl (sw_true rfl rfl rfl (by decide +kernel)) (pi_list (pv 3)) (blkOk_by (own := [("at", 5)]) (N := N_folded_lines) (sc := defScope s_folded_lines) (by decide +kernel)) (fun _ _ _ _ _ => pg_name (i := 5) sc_folded_lines.nd rfl (Or.inl rfl)) (fun _ _ _ _ _ => (pts_one (pt_cmpR op_le (pv 5) (C8.pe_gc rfl T.k_WIDTH) (by rfl)))) (fun _ _ _ _ _ => (pv 5)))
    (pss_cons (ps_set (i := 5) sc_folded_lines.nd rfl (Or.inl rfl) (pe_callBK (id := "max") (cr_maxDf rfl hr.units) (by rfl) T.n_max (by decide +kernel) (pa_cons (pv 4) pa_nil) (pk_cons (pe_ix ix_list (pv 3) pe_int (fun _ _ => rfl)) pk_nil)))
    (pss_cons (ps_expr (pe_bm PySem.F.plainAttrs_list PySem.F.slot_list_append PySem.F.type_list_append mt_append (pv 2) (pa_cons (pe_slice sl_str (pv 0) po_none (po_some (pv 5))) pa_nil)))
    (pss_cons (ps_set (i := 0) sc_folded_lines.nd rfl (Or.inl rfl) (pe_slice sl_str (pv 0) (po_some (pv 5)) po_none))
    (pss_cons (ps_set (i := 3) sc_folded_lines.nd rfl (Or.inl rfl) (C8.pe_c c_fold_places hr (by decide) rfl (pa_cons (pv 0) (pa_cons pe_int pa_nil))))
    pss_nil))))))
    (pss_cons (ps_ret (pe_op op_cat (pv 2) (pe_lst (pa_cons (pv 0) pa_nil))))
    pss_nil)))), fun a ha => by
    obtain ⟨l, b⟩ := a
    obtain ⟨hl, hb, hb2⟩ := ha
    simp only at hl hb hb2
    show Dl.Run No _ [.dat (.str l), .dat (.int (b : Int)), .no, .no, .no, .no] _ _
    refine run_setFV (ef_lstV ea_nil (sz1 rfl)) (run_setD (ed_call (l, b) (by repeat' walk_at "ev") ⟨hl, hb, hb2⟩) (fun d hd => ?_))
    obtain ⟨ns0, rfl, hns0⟩ := hd
    simp only at hns0
    refine run_while (α := List (List Nat) × List Nat × List Int) (fun x => [.dat (.str x.2.1), .no, .own (x.1.map .str), .dat (.lst (x.2.2.map .int)), .no, .no]) (FoldI b l) (fun x => x.2.1.length) (fun x => decide (x.2.1.length > 72) && !decide (x.2.2 = [])) ([], l, ns0) (.same (.no (.same (.same (.no (.no .nil)))))) ⟨rfl, fun _ _ h => (by cases h), fun h => absurd rfl h, ⟨hns0.1, fun n hn => ?_⟩, fun _ => hns0, Nat.zero_le _⟩ (fun x hx => ?_) (fun x hx h => ?_) (fun x hx h => ?_)
    · obtain ⟨k, h1, h2, h3⟩ := hns0.2 n hn
      exact ⟨k, h1, by omega, h3⟩
    · obtain ⟨fd, ln, ns⟩ := x
      have hle : ln.length ≤ l.length := by rw [← hx.fl, List.length_append]; simp only; omega
      exact EvB.cast (eb_and (by
        repeat' walk_at "ev"
        exact sz (by simp only; omega)) (fun _ => by repeat' walk_at "ev")) (congrArg (· && _) (decI (by simp only; omega)))
    · obtain ⟨fd, ln, ns⟩ := x
      have hle : ln.length ≤ l.length := by rw [← hx.fl, List.length_append]; simp only; omega
      simp only [Bool.and_eq_true] at h
      have hne : ns ≠ [] := by simpa using h.2
      obtain ⟨n0, nr, rfl⟩ := List.exists_cons_of_ne_nil hne
      show Dl.Run No _ [.dat (.str ln), .no, .own (fd.map .str), .dat (.lst ((n0 :: nr).map .int)), .no, .no] _ _
      refine run_set (d := .lst (((n0 :: nr).filter fun n => decide (n ≤ 72)).map .int)) (EvF.v (ef_lcMF (n0 :: nr) .int (fun n => decide (n ≤ 72)) .int (ei_list (ev_dat rfl)) (fun n _ => by repeat' walk_at "ev") (fun n _ _ => ev_dat rfl) ?_)) ?_
      · have := hx.ps.1
        exact sz (by simp only at this; omega)
      show Dl.Run No _ [.dat (.str ln), .no, .own (fd.map .str), .dat (.lst ((n0 :: nr).map .int)), .dat (.lst (((n0 :: nr).filter fun n => decide (n ≤ 72)).map .int)), .no] _ _
      refine run_setD (ev_maxDf (ev_dat rfl) (ev_op (ev_dat rfl) ev_int (o_ixL (z := .int n0) (Dl.atI_int (by decide) rfl)))) (fun d hd => ?_)
      obtain ⟨m, rfl, hm⟩ := hd
      have hmin : m ∈ n0 :: nr := by
        rcases hm with h | h
        · exact (List.mem_filter.mp h).1
        · rw [h]; exact List.mem_cons_self ..
      obtain ⟨k, rfl, hk1, hk2⟩ := hx.ps.2 m hmin
      have hkl : k < ln.length := (List.getElem?_eq_some_iff.mp hk2).1
      have hfdl : fd.length ≤ l.length := by
        have h1 := hx.ln
        have h2 := congrArg List.length hx.fl
        rw [List.length_append] at h2
        simp only at h1 h2
        omega
      refine run_appendV rfl (d := .str (ln.take k)) (EvV.cast (by
        repeat' walk_at "ev"
        exact sz (by omega)) (by rw [cut_to])) (sz' (by rw [List.length_map]; omega)) ?_
      refine run_set (d := .str (ln.drop k)) (EvV.cast (by
        repeat' walk_at "ev"
        exact sz (by omega)) (by rw [cut_from])) ?_
      refine run_setD (ed_call (ln.drop k, 1) (ea_cons (ev_dat rfl) (ea_cons ev_int ea_nil)) ⟨by show (ln.drop k).length ≤ _; rw [List.length_drop]; omega, Nat.le_refl _, by show 1 ≤ 1000; decide⟩) (fun d hd => ?_)
      obtain ⟨ns2, rfl, hns2⟩ := hd
      simp only at hns2
      refine run_next ⟨(fd ++ [ln.take k], ln.drop k, ns2), ?_, ⟨?_, ?_, ?_, hns2, ?_, ?_⟩, ?_⟩
      · show Le [_, _, .own (fd.map D.str ++ [.str (ln.take k)]), _, _, _] [_, _, .own ((fd ++ [ln.take k]).map D.str), _, _, _]
        rw [List.map_append]
        exact .same (.same (.same (.same (.no (.no .nil)))))
      · have := hx.fl
        simp only at this ⊢
        rw [List.flatten_append, List.append_assoc, List.flatten_cons, List.flatten_nil, List.append_nil, List.take_append_drop]
        exact this
      · intro p r e
        simp only at e
        cases fd with
        | nil =>
          obtain ⟨k', e', h1, h2⟩ := (hx.p3 rfl).2 _ hmin
          cases e
          refine ⟨?_, fun q hq => by cases hq⟩
          rw [List.length_take]
          omega
        | cons p0 r0 =>
          obtain ⟨h1, h2⟩ := hx.p1 p0 r0 rfl
          cases e
          refine ⟨h1, fun q hq => ?_⟩
          rcases List.mem_append.mp hq with h3 | h3
          · exact h2 q h3
          · rw [List.mem_singleton.mp h3]
            have h4 := hx.p2 (fun z => nomatch z)
            simp only at h4
            cases ln with
            | nil => cases h4
            | cons c t =>
              obtain ⟨k'', rfl⟩ : ∃ k'', k = k'' + 1 := ⟨k - 1, by omega⟩
              exact h4
      · intro _
        simp only
        rw [List.head?_drop]
        exact hk2
      · intro e
        simp at e
      · simp only
        rw [List.flatten_append, List.length_append, List.length_append, List.flatten_cons, List.flatten_nil, List.append_nil, List.length_take, List.length_cons, List.length_nil]
        have := hx.ln
        simp only at this
        omega
      · simp only
        rw [List.length_drop]
        omega
    · obtain ⟨fd, ln, ns⟩ := x
      have hfdl : fd.length ≤ l.length := by
        have h1 := hx.ln
        have h2 := congrArg List.length hx.fl
        rw [List.length_append] at h2
        simp only at h1 h2
        omega
      refine run_freeze 2 rfl (run_retV (d := .lst ((fd ++ [ln]).map .str)) (EvV.cast (EvF.v (ef_op (ev_dat rfl) (ev_lst (ea_cons (ev_dat rfl) ea_nil) (sz1 rfl)) (o_cat (sz (by rw [List.length_map]; simp; omega))))) (by rw [List.map_append] <;> rfl)) ⟨fd ++ [ln], rfl, ?_, ?_⟩)
      · have := hx.fl
        simp only at this
        rw [List.flatten_append, List.flatten_cons, List.flatten_nil, List.append_nil]
        exact this
      · cases fd with
        | nil => exact ⟨ln, [], rfl, .inl rfl, fun q hq => by cases hq⟩
        | cons p0 r0 =>
          obtain ⟨h1, h2⟩ := hx.p1 p0 r0 rfl
          refine ⟨p0, r0 ++ [ln], rfl, .inr h1, fun q hq => ?_⟩
          rcases List.mem_append.mp hq with h3 | h3
          · exact h2 q h3
          · rw [List.mem_singleton.mp h3]
            exact hx.p2 (fun z => nomatch z)⟩)
end
end Fk
namespace Fk
open PySem PySem.Spec PyProof.Rows L2 Dl Mr
local macro_rules | `(tactic| walk_at "ev") => `(tactic| first
  | (with_reducible apply ev_dat) <;> rfl
  | with_reducible apply ev_int
  | with_reducible apply ev_bl
  | with_reducible apply ev_non
  | walk_at "lit"
  | with_reducible apply ev_str
  | with_reducible apply eb_test
  | with_reducible apply eb_B
  | with_reducible apply ev_op
  | with_reducible apply o_add
  | with_reducible apply o_sub
  | with_reducible apply o_mul
  | with_reducible apply o_fdiv
  | with_reducible apply o_fdivW
  | with_reducible apply o_mod
  | with_reducible apply o_lt
  | with_reducible apply o_le
  | with_reducible apply o_gt
  | with_reducible apply o_ge
  | with_reducible apply o_eqI
  | with_reducible apply o_neI
  | with_reducible apply o_eqS
  | with_reducible apply o_neS
  | with_reducible apply o_neInts
  | with_reducible apply o_neNil
  | with_reducible apply o_eqNil
  | with_reducible apply o_eqInts
  | with_reducible apply o_addS
  | with_reducible apply o_in1
  | with_reducible apply o_ni1
  | with_reducible apply o_inS
  | with_reducible apply o_mulS
  | with_reducible apply ea_nil
  | with_reducible apply ea_cons
  | with_reducible apply ev_tup
  | with_reducible apply ev_lst
  | with_reducible apply eb_not
  | with_reducible apply eb_and
  | with_reducible apply eb_or
  | with_reducible apply ev_andV
  | with_reducible apply ev_orV
  | with_reducible apply ev_notV
  | with_reducible apply ev_chain
  | with_reducible apply ev_neg
  | with_reducible apply ev_slS
  | with_reducible apply ev_slL
  | with_reducible apply eo_none
  | with_reducible apply eo_some
  | with_reducible apply ev_cb
  | with_reducible apply cd_lenT
  | with_reducible apply cd_lenL
  | with_reducible apply cd_int
  | with_reducible apply cd_max
  | with_reducible apply cd_min
  | with_reducible apply ev_bm
  | with_reducible apply ev_bm0
  | with_reducible apply md_strip
  | with_reducible apply md_rstrip
  | with_reducible apply md_find
  | with_reducible apply md_index
  | with_reducible apply md_starts
  | with_reducible apply md_lower
  | with_reducible apply md_upper
  | with_reducible apply ei_str
  | with_reducible apply ei_list
  | with_reducible exact sz1 rfl
  | with_reducible exact Nat.le_of_ble_eq_true rfl
  | ((with_reducible apply cmulL) <;> decide)
  | ((with_reducible apply cmulR) <;> decide)
  | ((with_reducible apply cdiv) <;> decide)
  | ((with_reducible show (0 : Int) < _) <;> decide)
  | (with_reducible intro _hyp))

section
variable {P : Program} {w : World} {K : PySem.W.Frag} {mg : PySem.Str → Option Value} {base : Heap}
theorem lens_flat : ∀ ss : List (List Nat), lens ss = ss.flatten.length
  | [] => rfl
  | s :: r => by
    have ih := lens_flat r
    unfold lens at ih ⊢
    rw [List.map_cons, List.sum_cons, ih, List.flatten_cons, List.length_append]
theorem flat_count {r : List (List Nat)} (h : ∀ q ∈ r, q.head? = some 32) : r.length ≤ r.flatten.length := by
  induction r with
  | nil => exact Nat.le_refl _
  | cons q t ih =>
    rw [List.flatten_cons, List.length_append, List.length_cons]
    have h1 := h q (List.mem_cons_self ..)
    have h2 := ih (fun x hx => h x (List.mem_cons_of_mem _ hx))
    cases q with
    | nil => cases h1
    | cons c q' => rw [List.length_cons]; omega
/-- the pieces of a head Reply-To with this value -/
structure HeadPs (v : List Nat) (ps : List (List Nat)) : Prop where
  fl : ps.flatten = replyTo ++ 58 :: (if v = [] then [] else 32 :: v)
  hd : ∃ p r, ps = p :: r ∧ (r = [] ∨ 10 ≤ p.length) ∧ ∀ q ∈ r, q.head? = some 32
theorem HeadPs.count {v : List Nat} {ps : List (List Nat)} (h : HeadPs v ps) : ps.length ≤ v.length + 11 := by
  obtain ⟨p, r, rfl, _, h2⟩ := h.hd
  have h3 := flat_count h2
  have h4 := congrArg List.length h.fl
  rw [List.flatten_cons, List.length_append, List.length_append, List.length_cons] at h4
  have h5 : replyTo.length = 8 := rfl
  have h6 : (if v = [] then [] else 32 :: v).length ≤ v.length + 1 := by split <;> simp
  rw [List.length_cons]
  omega
abbrev N_head_text : List PySem.Str := ["name", "value", "line"]
theorem sc_head_text : FnScope N_head_text ["name", "value"] (defScope s_head_text) := ⟨rfl, rfl, rfl, by decide +kernel, rfl, by decide +kernel, by decide +kernel⟩
local macro_rules | `(tactic| walk_at "lit") => `(tactic| first
  | with_reducible exact ev_strL lit_nil
  | with_reducible exact ev_strL lit_0a
  | with_reducible exact ev_strL lit_3a0a
  | with_reducible exact ev_strL lit_3a20)
theorem c_head_text (T : Tx K mg) : C8.Cal P w K mg base 3 "head_text" (spP (α := List Nat) (fun a => [.str replyTo, .str a]) (fun a => a.length ≤ 400000) (fun a d => ∃ ps, d = .str (Mr.joinL [10] ps ++ [10]) ∧ HeadPs a ps)) [] :=
  have c_folded_lines := c_folded_lines (P := P) (w := w) (base := base) T
  cal_P T.d_head_text sc_head_text (fun _ => rfl) (by decide) (fun _ _ _ _ _ _ us hl => match us, hl with | [_, _], _ => rfl) (fun f cdv A outer s H E hr => ⟨_, (pss_cons (ps_if (pt_cmpR op_eq (pv 1) pe_str (by rfl))
    (pss_cons (ps_ret (pe_op op_addS (pv 0) pe_str))
    pss_nil)
    pss_nil)
    (pss_cons (ps_set (i := 2) sc_head_text.nd rfl (Or.inl rfl) (pe_op op_addS (pe_op op_addS (pv 0) pe_str) (pv 1)))
    (pss_cons (ps_ret (pe_op op_addS (pe_bm PySem.F.plainAttrs_str PySem.F.slot_str_join PySem.F.type_str_join m_join pe_str (pa_cons (C8.pe_c c_folded_lines hr (by decide) rfl (pa_cons (pv 2) (pa_cons (pe_op op_add (pe_callB cl_lenT (by rfl) T.n_len boot_len (pa_cons (pv 0) pa_nil)) pe_int) pa_nil))) pa_nil)) pe_str))
    pss_nil))), fun a ha => by
    show Dl.Run No _ [.dat (.str replyTo), .dat (.str a), .no] _ _
    have h8 : replyTo.length = 8 := rfl
    refine run_ifP (a = []) (by repeat' walk_at "ev") rfl (fun h => ?_) (fun h => run_skip ?_)
    · refine run_flat (run_retV (d := .str (replyTo ++ [58, 10])) (by
        repeat' walk_at "ev"
        ) ⟨[replyTo ++ [58]], ?_, ?_, replyTo ++ [58], [], rfl, .inl rfl, fun q hq => by cases hq⟩)
      · rfl
      · rw [if_pos h]
        rfl
    · refine run_set (d := .str (replyTo ++ [58, 32] ++ a)) (ev_op (by
        repeat' walk_at "ev") (ev_dat rfl) (o_addS (sz (by simp; omega)))) ?_
      have hll : (replyTo ++ [58, 32] ++ a).length = a.length + 10 := by simp [h8]; omega
      show Dl.Run No _ [.dat (.str replyTo), .dat (.str a), .dat (.str (replyTo ++ [58, 32] ++ a))] _ _
      generalize hln : replyTo ++ [58, 32] ++ a = ln at hll
      refine run_ret (ed_op (Pa := fun d => ∃ ps, d = .str (Mr.joinL [10] ps) ∧ Folded 10 ln ps) (Pb := fun _ y => y = .str [10]) (P := fun d => ∃ ps, d = .str (Mr.joinL [10] ps ++ [10]) ∧ Folded 10 ln ps) ?_ (fun _ _ => by repeat' walk_at "ev") (fun x y hx hy => ?_)) (fun d hd => ?_)
      · refine ed_bmj (ys := fun d => ∃ ps, d = .lst (ps.map .str) ∧ Folded 10 ln ps) (by repeat' walk_at "ev") (ed_call (ln, 10) (ea_cons (ev_dat rfl) (ea_cons (EvV.cast (ev_op (ev_cb (ea_cons (ev_dat rfl) ea_nil) (cd_lenT (sz1 rfl))) ev_int o_add) (by rfl)) ea_nil)) ⟨by show ln.length ≤ _; omega, by show 1 ≤ 10; decide, by show 10 ≤ 1000; decide⟩) (fun d hd => ?_)
        obtain ⟨ps, rfl, hp⟩ := hd
        obtain ⟨hf, p, r, rfl, h1, h2⟩ := hp
        refine ⟨_, md_join ?_, p :: r, rfl, hf, p, r, rfl, h1, h2⟩
        have h3 := flat_count h2
        rw [lens_flat, hf]
        have h4 := congrArg List.length hf
        rw [List.flatten_cons, List.length_append] at h4
        simp
        omega
      · obtain ⟨ps, rfl, hp⟩ := hx
        subst hy
        have hjl := joinL_len [10] ps
        rw [lens_flat, hp.1] at hjl
        obtain ⟨hf, p, r, rfl, h1, h2⟩ := hp
        have h3 := flat_count h2
        have h4 := congrArg List.length hf
        rw [List.flatten_cons, List.length_append] at h4
        refine opd_imp (o_addS (sz (by simp at hjl ⊢; omega))) (fun d e => ⟨_, e, hf, p, r, rfl, h1, h2⟩)
      · obtain ⟨ps, rfl, hf, hp⟩ := hd
        refine ⟨ps, rfl, ?_, hp⟩
        rw [hf, ← hln, if_neg h]
        simp⟩)
abbrev N_fold : List PySem.Str := ["name", "value"]
theorem sc_fold : FnScope N_fold ["name", "value"] (defScope s_fold) := ⟨rfl, rfl, rfl, by decide +kernel, rfl, by decide +kernel, by decide +kernel⟩
theorem c_fold (T : Tx K mg) : C8.Cal P w K mg base 4 "fold" (spP (α := List Nat) (fun a => [.str replyTo, .str a]) (fun a => a.length ≤ 400000 ∧ isValue a = true) (fun a d => ∃ ps, d = .str (Mr.joinL [10] ps ++ [10]) ∧ HeadPs a ps)) [] :=
  have c_head_text := c_head_text (P := P) (w := w) (base := base) T
  have c_is_head := c_is_head (P := P) (w := w) (base := base) T
  cal_P T.d_fold sc_fold (fun _ => rfl) (by decide) (fun _ _ _ _ _ _ us hl => match us, hl with | [_, _], _ => rfl) (fun f cdv A outer s H E hr => ⟨_, (pss_cons (ps_if (pt_not (pt_val (C8.pe_c c_is_head hr (by decide) rfl (pa_cons (pe_tup (pa_cons (pv 0) (pa_cons (pv 1) pa_nil))) pa_nil))))
    (pss_cons ps_never
    pss_nil)
    pss_nil)
    (pss_cons (ps_ret (C8.pe_c c_head_text hr (by decide) rfl (pa_cons (pv 0) (pa_cons (pv 1) pa_nil))))
    pss_nil)), fun a ha => by
    show Dl.Run No _ [.dat (.str replyTo), .dat (.str a)] _ _
    refine run_no (EvB.cast (eb_not (b := true) (eb_test (ed_call a (ea_cons (ev_tup (ea_cons (ev_dat rfl) (ea_cons (ev_dat rfl) ea_nil)) (sz1 rfl)) ea_nil) ⟨sz (by omega), ha.2⟩))) rfl) (run_skip ?_)
    exact run_ret (ed_call a (ea_cons (ev_dat rfl) (ea_cons (ev_dat rfl) ea_nil)) ha.1) (fun d h => h)⟩)
theorem part_head (q : List Nat) : partC 58 (replyTo ++ 58 :: q) = [.str replyTo, .str [58], .str q] := by
  have h : TL.par [58] [] (replyTo ++ 58 :: q) = some (replyTo, q) := SX.par_head (c := 58) (sep := []) q (by decide)
  unfold partC
  rw [h]
abbrev N_begins_head : List PySem.Str := ["line", "name", "colon", "value"]
theorem sc_begins_head : FnScope N_begins_head ["line"] (defScope s_begins_head) := ⟨rfl, rfl, rfl, by decide +kernel, rfl, by decide +kernel, by decide +kernel⟩
local macro_rules | `(tactic| walk_at "lit") => `(tactic| first
  | with_reducible exact ev_strL lit_3a)
theorem c_begins_head (T : Tx K mg) : C8.Cal P w K mg base 3 "begins_head" (spP (α := List Nat) (fun q => [.str (replyTo ++ 58 :: q)]) (fun a => a.length ≤ 800000) (fun a d => d = .bl true)) [] :=
  have c_is_name := c_is_name (P := P) (w := w) (base := base) T
  cal_P T.d_begins_head sc_begins_head (fun _ => rfl) (by decide) (fun _ _ _ _ _ _ us hl => match us, hl with | [_], _ => rfl) (fun f cdv A outer s H E hr => ⟨_, (pss_cons (ps_asg (pe_bm PySem.F.plainAttrs_str PySem.F.slot_str_partition PySem.F.type_str_partition m_part (pv 0) (pa_cons pe_str pa_nil)) (pg_tup rfl (pgs_cons (pg_name (i := 1) sc_begins_head.nd rfl (Or.inl rfl)) (pgs_cons (pg_name (i := 2) sc_begins_head.nd rfl (Or.inl rfl)) (pgs_cons (pg_name (i := 3) sc_begins_head.nd rfl (Or.inl rfl)) pgs_nil)))))
    (pss_cons (ps_ret (pe_and (pe_cmpR op_eq (pv 2) pe_str (by rfl)) (pe_one (C8.pe_c c_is_name hr (by decide) rfl (pa_cons (pv 1) pa_nil)))))
    pss_nil)), fun a ha => by
    show Dl.Run No _ [.dat (.str (replyTo ++ 58 :: a)), .no, .no, .no] _ _
    have hl : (replyTo ++ 58 :: a).length = a.length + 9 := by simp [replyTo]
    refine run_asg (EvV.cast (ev_part (ev_dat rfl) (by repeat' walk_at "ev") (sz (by omega))) (by rw [part_head])) (fun d hd => ?_)
    subst hd
    refine ⟨_, tg_tup (tgs_cons tg_name (tgs_cons tg_name (tgs_cons tg_name tgs_nil))) rfl, ?_⟩
    exact run_retV (ev_andV (a := true) (b := true) (EvV.cast (by repeat' walk_at "ev") (by rfl)) (fun _ => ed_call () (ea_cons (ev_dat rfl) ea_nil) trivial)) rfl⟩)
abbrev N_head_of : List PySem.Str := ["lines", "name", "colon", "value"]
theorem sc_head_of : FnScope N_head_of ["lines"] (defScope s_head_of) := ⟨rfl, rfl, rfl, by decide +kernel, rfl, by decide +kernel, by decide +kernel⟩
local macro_rules | `(tactic| walk_at "lit") => `(tactic| first
  | with_reducible exact ev_strL lit_3a
  | with_reducible exact ev_strL lit_20
  | with_reducible exact ev_strL lit_nil)
theorem c_head_of (T : Tx K mg) : C8.Cal P w K mg base 1 "head_of" (spP (α := List (List Nat) × List Nat) (fun a => [.lst (a.1.map .str)]) (fun a => a.1.flatten = replyTo ++ 58 :: a.2 ∧ a.2.length ≤ 800000) (fun a d => d = .tup [.str replyTo, .str (stripC 32 a.2)])) [] :=
  cal_P T.d_head_of sc_head_of (fun _ => rfl) (by decide) (fun _ _ _ _ _ _ us hl => match us, hl with | [_], _ => rfl) (fun f cdv A outer s H E hr => ⟨_, (pss_cons (ps_asg (pe_bm PySem.F.plainAttrs_str PySem.F.slot_str_partition PySem.F.type_str_partition m_part (pe_bm PySem.F.plainAttrs_str PySem.F.slot_str_join PySem.F.type_str_join m_join pe_str (pa_cons (pv 0) pa_nil)) (pa_cons pe_str pa_nil)) (pg_tup rfl (pgs_cons (pg_name (i := 1) sc_head_of.nd rfl (Or.inl rfl)) (pgs_cons (pg_name (i := 2) sc_head_of.nd rfl (Or.inl rfl)) (pgs_cons (pg_name (i := 3) sc_head_of.nd rfl (Or.inl rfl)) pgs_nil)))))
    (pss_cons (ps_ret (pe_tup (pa_cons (pv 1) (pa_cons (pe_bm PySem.F.plainAttrs_str PySem.F.slot_str_strip PySem.F.type_str_strip m_strip (pv 3) (pa_cons pe_str pa_nil)) pa_nil))))
    pss_nil)), fun a ha => by
    obtain ⟨ps, q⟩ := a
    obtain ⟨h1, h2⟩ := ha
    simp only at h1 h2
    show Dl.Run No _ [.dat (.lst (ps.map .str)), .no, .no, .no] _ _
    have hl : (replyTo ++ 58 :: q).length = q.length + 9 := by simp [replyTo]
    refine run_asg (EvV.cast (ev_part (l := replyTo ++ 58 :: q) (EvV.cast (ev_bm (ys := [.lst (ps.map .str)]) (by repeat' walk_at "ev") (ea_cons (ev_dat rfl) ea_nil) (md_join (by rw [lens_flat, h1, hl]; simp; omega))) (by rw [joinL_nil, h1])) (by repeat' walk_at "ev") (sz (by omega))) (by rw [part_head])) (fun d hd => ?_)
    subst hd
    refine ⟨_, tg_tup (tgs_cons tg_name (tgs_cons tg_name (tgs_cons tg_name tgs_nil))) rfl, ?_⟩
    exact run_retV (by
      repeat' walk_at "ev"
      exact sz (by omega)) rfl⟩)
end
end Fk
namespace Fk
open PySem PySem.Spec PyProof.Rows L2 Dl Mr
local macro_rules | `(tactic| walk_at "ev") => `(tactic| first
  | (with_reducible apply ev_dat) <;> rfl
  | with_reducible apply ev_int
  | with_reducible apply ev_bl
  | with_reducible apply ev_non
  | walk_at "lit"
  | with_reducible apply ev_str
  | with_reducible apply eb_test
  | with_reducible apply eb_B
  | with_reducible apply ev_op
  | with_reducible apply o_add
  | with_reducible apply o_sub
  | with_reducible apply o_mul
  | with_reducible apply o_fdiv
  | with_reducible apply o_fdivW
  | with_reducible apply o_mod
  | with_reducible apply o_lt
  | with_reducible apply o_le
  | with_reducible apply o_gt
  | with_reducible apply o_ge
  | with_reducible apply o_eqI
  | with_reducible apply o_neI
  | with_reducible apply o_eqS
  | with_reducible apply o_neS
  | with_reducible apply o_neInts
  | with_reducible apply o_neNil
  | with_reducible apply o_eqNil
  | with_reducible apply o_eqInts
  | with_reducible apply o_addS
  | with_reducible apply o_in1
  | with_reducible apply o_ni1
  | with_reducible apply o_inS
  | with_reducible apply o_mulS
  | with_reducible apply ea_nil
  | with_reducible apply ea_cons
  | with_reducible apply ev_tup
  | with_reducible apply ev_lst
  | with_reducible apply eb_not
  | with_reducible apply eb_and
  | with_reducible apply eb_or
  | with_reducible apply ev_andV
  | with_reducible apply ev_orV
  | with_reducible apply ev_notV
  | with_reducible apply ev_chain
  | with_reducible apply ev_neg
  | with_reducible apply ev_slS
  | with_reducible apply ev_slL
  | with_reducible apply eo_none
  | with_reducible apply eo_some
  | with_reducible apply ev_cb
  | with_reducible apply cd_lenT
  | with_reducible apply cd_lenL
  | with_reducible apply cd_int
  | with_reducible apply cd_max
  | with_reducible apply cd_min
  | with_reducible apply ev_bm
  | with_reducible apply ev_bm0
  | with_reducible apply md_strip
  | with_reducible apply md_rstrip
  | with_reducible apply md_find
  | with_reducible apply md_index
  | with_reducible apply md_starts
  | with_reducible apply md_lower
  | with_reducible apply md_upper
  | with_reducible apply ei_str
  | with_reducible apply ei_list
  | with_reducible exact sz1 rfl
  | with_reducible exact Nat.le_of_ble_eq_true rfl
  | ((with_reducible apply cmulL) <;> decide)
  | ((with_reducible apply cmulR) <;> decide)
  | ((with_reducible apply cdiv) <;> decide)
  | ((with_reducible show (0 : Int) < _) <;> decide)
  | (with_reducible intro _hyp))

section
variable {P : Program} {w : World} {K : PySem.W.Frag} {mg : PySem.Str → Option Value} {base : Heap}
open Evl (Ex)
theorem cfg_any {G H : Hp} {σ : L2.St} {ρ : List Sl} (e : Ex G H) (hl : σ.length = ρ.length) (h : ∀ (i : Nat) (d : D), ρ[i]? = some (.dat d) → ∃ v, σ[i]? = some (some v) ∧ Rp G v d) (hn : ∀ (i : Nat) (s : Sl), ρ[i]? = some s → s = .no ∨ ∃ d, s = .dat d) : Cfg (fun p => H p ≠ none ∧ G p = none) No G H σ ρ := by
  refine ⟨e, fun p hp => hp, fun p hp => hp.elim, hl, fun i o s ho hs => ?_, fun i j p a b hi => ?_⟩
  · rcases hn i s hs with rfl | ⟨d, rfl⟩
    · trivial
    · obtain ⟨v, h1, h2⟩ := h i d hs
      rw [h1] at ho
      cases ho
      exact ⟨v, rfl, h2⟩
  · rcases hn i _ hi with e | ⟨d, e⟩ <;> cases e
theorem ret_go {te : TE} {t2 : TS} {E : Ends} {σ : L2.St} {H : Hp} (h : te σ H E.rt) : tSeq (tRet te) t2 E σ H := h
theorem go_ev {S F : Addr → Prop} {G H : Hp} {σ : L2.St} {ρ : List Sl} {te : TE} {P : D → Prop} {Q : VK} (c : Cfg F S G H σ ρ) (h : EvD S te ρ P) (q : ∀ v d G' H', P d → Go S G H G' H' → Rp G' v d → Q v H') : te σ H Q := h F G H σ c Q q
theorem go_eb {S F : Addr → Prop} {G H : Hp} {σ : L2.St} {ρ : List Sl} {t : TT} {b : Bool} {Q : Bool → Hp → Prop} (c : Cfg F S G H σ ρ) (h : EvB S t ρ b) (q : ∀ G' H', Go S G H G' H' → Q b H') : t σ H Q := h F G H σ c Q fun b' G' H' e g => by rw [e]; exact q G' H' g
theorem if_go {t : TT} {a b t2 : TS} {E : Ends} {σ : L2.St} {H : Hp} (h : t σ H fun bb H1 => if bb = true then tSeq a t2 E σ H1 else tSeq b t2 E σ H1) : tSeq (tIfS t a b) t2 E σ H := h
theorem and_go {t u : TT} {σ : L2.St} {H : Hp} {Q : Bool → Hp → Prop} (h : t σ H fun c H1 => if c = true then u σ H1 Q else Q false H1) : tAnd t u σ H Q := h
theorem app_go {K : PySem.W.Frag} {to te : TE} {t2 : TS} {E : Ends} {σ : L2.St} {H : Hp} (h : to σ H fun x H1 => tyV K "list" x H1 ∧ te σ H1 fun y H2 => rAppend x [y] H2 fun _ H3 => t2 E σ H3) : tSeq (tDrop (tBM K "list" rAppend to (tCons te tNil))) t2 E σ H := h
abbrev ln0 (r : List (List Nat)) (p : List Nat) := p :: r
structure HeadLines (v : List Nat) (ps : List (List Nat)) : Prop where
  hp : HeadPs v ps
  lv : v.length ≤ 400000
  nl : ∀ p ∈ ps, 10 ∉ p
  ch : ∀ p ∈ ps, ∀ c ∈ p, c < 1114112
theorem HeadPs.first {v : List Nat} {p : List Nat} {r : List (List Nat)} (h : HeadPs v (p :: r)) : ∃ q, p = replyTo ++ 58 :: q ∧ q.length ≤ v.length + 1 := by
  have hfl := h.fl
  rw [List.flatten_cons] at hfl
  have h6 : (if v = [] then [] else 32 :: v).length ≤ v.length + 1 := by split <;> simp
  obtain ⟨p', r', e, h1, h2⟩ := h.hd
  cases e
  have hl := congrArg List.length hfl
  rw [List.length_append, List.length_append, List.length_cons] at hl
  have h5 : replyTo.length = 8 := rfl
  have hp9 : 9 ≤ p.length := by
    rcases h1 with e | h
    · subst e
      simp at hl
      omega
    · omega
  have e2 : replyTo ++ 58 :: (if v = [] then [] else 32 :: v) = (replyTo ++ [58]) ++ (if v = [] then [] else 32 :: v) := by simp
  rw [e2] at hfl
  have e3 : (replyTo ++ [58]).length = 9 := rfl
  rcases List.append_eq_append_iff.mp hfl with ⟨a, h3, h4⟩ | ⟨c, h3, h4⟩
  · have := congrArg List.length h3
    rw [e3, List.length_append] at this
    have ha : a = [] := List.eq_nil_of_length_eq_zero (by omega)
    rw [ha, List.append_nil] at h3
    exact ⟨[], by rw [← h3], Nat.zero_le _⟩
  · refine ⟨c, by rw [h3]; simp, ?_⟩
    have := congrArg List.length h4
    rw [List.length_append] at this
    omega
abbrev N_read_heads : List PySem.Str := ["lines", "groups", "number", "line", "group"]
theorem sc_read_heads : FnScope N_read_heads ["lines"] (defScope s_read_heads) := ⟨rfl, rfl, rfl, by decide +kernel, rfl, by decide +kernel, by decide +kernel⟩
local macro_rules | `(tactic| walk_at "lit") => `(tactic| first
  | with_reducible exact ev_strL lit_6e6f206c696e6573
  | with_reducible exact ev_strL lit_20
  | with_reducible exact ev_strL lit_6e6f2068656164)
theorem c_read_heads (T : Tx K mg) : C8.Cal P w K mg base 4 "read_heads" (spP (α := List Nat × List (List Nat)) (fun a => [.lst (a.2.map .str)]) (fun a => HeadLines a.1 a.2 ∧ stripC 32 (if a.1 = [] then [] else 32 :: a.1) = a.1) (fun a d => d = .lst [.tup [.str replyTo, .str a.1]])) [] :=
  have c_is_line := c_is_line (P := P) (w := w) (base := base) T
  have c_begins_head := c_begins_head (P := P) (w := w) (base := base) T
  have c_head_of := c_head_of (P := P) (w := w) (base := base) T
  cal_P T.d_read_heads sc_read_heads (fun _ => rfl) (by decide) (fun _ _ _ _ _ _ us hl => match us, hl with | [_], _ => rfl) (fun f cdv A outer s H E hr => ⟨_, (pss_cons (ps_if (PW.pt (pw_or (pt_not (pt_val (pe_callB (id := "isinstance") call_isi (by rfl) T.n_isinstance (by decide +kernel) (pa_cons (pv 0) (pa_cons (pe_bltn (v := V.ty "list") (u := Value.type "list") (by rfl) T.n_list (by decide +kernel) rfl) pa_nil))))) (pw_or1 (pt_not (pt_val (pe_callB (id := "all") (cr_all rfl) (by rfl) T.n_all (by decide +kernel) (pa_cons (pe_lc (own := [("line", 3)]) (g := gName 3) rfl sc_read_heads.nd (pi_list (pv 0)) (blkOk_by (own := [("line", 3)]) (N := N_read_heads) (sc := defScope s_read_heads) (by decide +kernel)) (fun _ _ _ _ _ => pg_name (i := 3) sc_read_heads.nd rfl (Or.inl rfl)) (fun _ _ _ _ _ => pts_nil) (fun _ _ _ _ _ => (C8.pe_c c_is_line hr (by decide) rfl (pa_cons (pv 3) pa_nil)))) pa_nil)))))))
    (pss_cons ps_never
    pss_nil)
    pss_nil)
    (pss_cons (ps_set (i := 1) sc_read_heads.nd rfl (Or.inl rfl) (pe_lst pa_nil))
    (pss_cons (ps_for PassesOwn.never rfl (pi_enum (by rfl) T.n_enumerate (pa_cons (pv 0) pa_nil)) (pg_tup rfl (pgs_cons (pg_name (i := 2) sc_read_heads.nd rfl (Or.inl rfl)) (pgs_cons (pg_name (i := 3) sc_read_heads.nd rfl (Or.inl rfl)) pgs_nil)))
    (pss_cons (ps_if (PW.pt (pw_and (pt_val (pe_bm PySem.F.plainAttrs_str PySem.F.slot_str_startswith PySem.F.type_str_startswith m_starts (pv 3) (pa_cons pe_str pa_nil))) (pw_and1 (pt_cmpR (op_neD hr.units) (pv 1) (pe_lst pa_nil) (by rfl)))))
    (pss_cons (ps_expr (pe_bm PySem.F.plainAttrs_list PySem.F.slot_list_append PySem.F.type_list_append mt_append (pe_ix ix_list (pv 1) (pe_un un_neg pe_int) (fun _ _ => rfl)) (pa_cons (pv 3) pa_nil)))
    pss_nil)
    (pss_cons (ps_if (pt_val (C8.pe_c c_begins_head hr (by decide) rfl (pa_cons (pv 3) pa_nil)))
    (pss_cons (ps_expr (pe_bm PySem.F.plainAttrs_list PySem.F.slot_list_append PySem.F.type_list_append mt_append (pv 1) (pa_cons (pe_lst (pa_cons (pv 3) pa_nil)) pa_nil)))
    pss_nil)
    (pss_cons ps_never
    pss_nil))
    pss_nil))
    pss_nil))
    (pss_cons (ps_ret (pe_lc (own := [("group", 4)]) (g := gName 4) rfl sc_read_heads.nd (pi_list (pv 1)) (blkOk_by (own := [("group", 4)]) (N := N_read_heads) (sc := defScope s_read_heads) (by decide +kernel)) (fun _ _ _ _ _ => pg_name (i := 4) sc_read_heads.nd rfl (Or.inl rfl)) (fun _ _ _ _ _ => pts_nil) (fun _ _ _ _ _ => (C8.pe_c c_head_of hr (by decide) rfl (pa_cons (pv 4) pa_nil)))))
    pss_nil)))), fun a ha => by
    obtain ⟨v, ps⟩ := a
    obtain ⟨⟨hp, hv, hnl, hch⟩, hst⟩ := ha
    simp only at hp hv hnl hch hst
    have hcnt := hp.count
    show Dl.Run No _ [.dat (.lst (ps.map .str)), .no, .no, .no, .no] _ _
    refine run_no (EvB.cast (eb_or (a := false) (b := false) (eb_not (b := true) (eb_test (ev_isi (ev_dat rfl) (fun z => nomatch z) rfl))) (fun _ => eb_not (b := true) (eb_test (EvV.cast (ev_cb (ea_cons (EvF.v (ef_lcM ps .str (fun _ => .bl true) (ei_list (ev_dat rfl)) (fun q hq => EvV.cast (ed_call q (by repeat' walk_at "ev") trivial) (by rw [decide_eq_false (hnl q hq)] <;> rfl)) (sz (by omega)))) ea_nil) (ClV.cast (cd_all (bs := ps.map fun _ => true)) (by rw [List.map_map] <;> rfl))) (congrArg D.bl (all_true _)))))) rfl) (run_skip ?_)
    obtain ⟨p, r, rfl, hp1, hp2⟩ := hp.hd
    obtain ⟨q0, hq0, hq0l⟩ := hp.first
    intro F G H σ E c kn kr
    obtain ⟨v0, s0, r0⟩ := c.dat (i := 0) rfl
    have hsl : σ.length = 5 := c.len
    have hne0 : 0 < σ.length := by omega
    refine ⟨by decide, fun gp hgp => ?_⟩
    have gG : G gp = none := by
      cases e : G gp with
      | none => rfl
      | some o => rw [c.ext _ _ e] at hgp; cases hgp
    have g0 : Go No G H G (upd H gp (.lst [])) := Go.mut (noB c.ext) hgp
    show tSeq (tFor (iEnum K (tCons (tVar 0) tNil)) _ _) _ E (σ.set 1 (some (.ref gp))) (upd H gp (.lst []))
    refine for_go ?_
    have cfg0 : ∀ (G' H' : Hp) (σ' : L2.St), Ex G' H' → Ex G G' → σ'.length = 5 → σ'[0]? = some (some v0) → Cfg (fun p => H' p ≠ none ∧ G' p = none) No G' H' σ' [.dat (.lst ((p :: r).map .str)), .no, .no, .no, .no] := fun G' H' σ' e e2 hl h0 => cfg_any e hl (fun i d hi => by
      match i, hi with
      | 0, hi => cases hi; exact ⟨v0, h0, r0.mono e2⟩
      | i + 1, hi => match i, hi with
        | 0, hi => cases hi
        | 1, hi => cases hi
        | 2, hi => cases hi
        | 3, hi => cases hi
        | i + 4, hi => cases hi) (fun i s hi => by
      match i, hi with
      | 0, hi => cases hi; exact .inr ⟨_, rfl⟩
      | i + 1, hi => match i, hi with
        | 0, hi => cases hi; exact .inl rfl
        | 1, hi => cases hi; exact .inl rfl
        | 2, hi => cases hi; exact .inl rfl
        | 3, hi => cases hi; exact .inl rfl
        | i + 4, hi => cases hi)
    have t0 : (σ.set 1 (some (.ref gp)))[0]? = some (some v0) := by rw [List.getElem?_set_ne (by decide)]; exact s0
    have t1 : (σ.set 1 (some (.ref gp)))[1]? = some (some (.ref gp)) := by rw [List.getElem?_set_self (by omega)]
    have tl : (σ.set 1 (some (.ref gp))).length = 5 := by rw [List.length_set]; exact hsl
    refine ei_enum (S := No) (K := K) (te := tVar 0) (ρ := [.dat (.lst ((p :: r).map .str)), .no, .no, .no, .no]) (ys := (p :: r).map .str) (ev_dat rfl) _ G (upd H gp (.lst [])) (σ.set 1 (some (.ref gp))) (cfg0 _ _ _ g0.gh (Ex.refl G) tl t0) _ fun J G1 H1 g1 yl => ?_
    have g01 := g0.trans (noB c.ext) g1
    let W : Nat → Nat → L2.St → Hp → Prop := fun k m σ' H' => ∃ G', k + m = (p :: r).length ∧ Go No G H G' H' ∧ Ex G1 G' ∧ G' gp = none ∧ σ'[0]? = some (some v0) ∧ σ'[1]? = some (some (.ref gp)) ∧ σ'.length = 5 ∧
      ((k = 0 ∧ H' gp = some (.lst [])) ∨ (1 ≤ k ∧ ∃ g vs, H' gp = some (.lst [.ref g]) ∧ H' g = some (.lst vs) ∧ RpL G' vs (((p :: r).take k).map .str) ∧ H g = none ∧ G' g = none ∧ g ≠ gp))
    refine ⟨W, ⟨(p :: r).length, G1, Nat.zero_add _, g01, Ex.refl G1, g1.nw gp (by rw [upd_same]; exact fun z => nomatch z) gG, t0, t1, tl, .inl ⟨rfl, g1.h gp _ (fun z => z) upd_same⟩⟩, ?_⟩
    rintro k m σ2 H2 ⟨G2, hk, g2, e2, n2, u0, u1, ul, hw⟩
    have b2 : Base No G2 H2 := noB g2.gh
    obtain ⟨y1, y2⟩ := yl G2 H2 e2 b2 k
    cases hd : (p :: r)[k]? with
    | none =>
      have hkl : k = (p :: r).length := by
        have := List.getElem?_eq_none_iff.mp hd
        omega
      refine .inl ⟨y2 (List.getElem?_eq_none (by rw [enm_len, List.length_map, hkl]; exact Nat.le_refl _)), ?_⟩
      rcases hw with ⟨h0, _⟩ | ⟨_, g, vs, w1, w2, w3, w4, w5, w6⟩
      · rw [h0] at hkl; cases hkl
      rw [hkl, List.take_length] at w3
      -- all stands still now
      have gf1 : Go No G H (upd G2 g (.lst vs)) H2 := Go.freeze g2 w4 w2 w5
      have n3 : upd G2 g (.lst vs) gp = none := by rw [upd_ne (Ne.symm w6)]; exact n2
      have gf2 : Go No G H (upd (upd G2 g (.lst vs)) gp (.lst [.ref g])) H2 := Go.freeze gf1 hgp w1 n3
      have eU : Ex G2 (upd (upd G2 g (.lst vs)) gp (.lst [.ref g])) := (Ex.new w5).trans (Ex.new n3)
      have rg : Rp (upd (upd G2 g (.lst vs)) gp (.lst [.ref g])) (.ref gp) (.lst [.lst ((p :: r).map .str)]) := .lst upd_same (.one (.lst (by rw [upd_ne w6]; exact upd_same) (w3.mono eU)))
      have cf : Cfg (fun a => H2 a ≠ none ∧ upd (upd G2 g (.lst vs)) gp (.lst [.ref g]) a = none) No (upd (upd G2 g (.lst vs)) gp (.lst [.ref g])) H2 σ2 [.no, .dat (.lst [.lst ((p :: r).map .str)]), .no, .no, .no] := cfg_any gf2.gh ul (fun i d hi => by
        match i, hi with
        | 0, hi => cases hi
        | 1, hi => cases hi; exact ⟨_, u1, rg⟩
        | 2, hi => cases hi
        | 3, hi => cases hi
        | 4, hi => cases hi
        | i + 5, hi => cases hi) (fun i s hi => by
        match i, hi with
        | 0, hi => cases hi; exact .inl rfl
        | 1, hi => cases hi; exact .inr ⟨_, rfl⟩
        | 2, hi => cases hi; exact .inl rfl
        | 3, hi => cases hi; exact .inl rfl
        | 4, hi => cases hi; exact .inl rfl
        | i + 5, hi => cases hi)
      have hfl : ((p :: r).flatten = replyTo ++ 58 :: (if v = [] then [] else 32 :: v)) := hp.fl
      refine ret_go ?_
      refine go_ev cf (P := fun d => d = .lst [.tup [.str replyTo, .str v]]) (EvF.v (ef_lcM [p :: r] (fun l => .lst (l.map .str)) (fun _ => .tup [.str replyTo, .str v]) (ei_list (ev_dat rfl)) (fun l hl => ?_) (sz1 rfl))) fun u d G5 H5 ed g5 r5 => kr u d G5 H5 ed ((gf2.trans (noB c.ext) g5).toS c) r5
      rw [List.mem_singleton.mp hl]
      refine EvV.cast (ed_call (p :: r, if v = [] then [] else 32 :: v) (ea_cons (ev_dat rfl) ea_nil) ⟨hfl, ?_⟩) (by rw [hst])
      show List.length _ ≤ _
      split <;> simp <;> omega
    | some ln =>
      have hkl : k < (p :: r).length := (List.getElem?_eq_some_iff.mp hd).1
      have hen : (enm ((p :: r).map D.str))[k]? = some (.tup [.int (k : Int), .str ln]) := by
        have hk' : k < (enm ((p :: r).map D.str)).length := by rw [enm_len, List.length_map]; exact hkl
        obtain ⟨y, hy, he⟩ := enm_get (List.getElem?_eq_getElem hk')
        rw [List.getElem?_map, hd] at hy
        cases hy
        rw [List.getElem?_eq_getElem hk', he]
      obtain ⟨z1, z2⟩ := y1 _ hen
      refine .inr ⟨z1, fun σ' H' => W (k + 1) (m - 1) σ' H', fun σ' H' n => ⟨m - 1, by omega, n⟩, fun x' H3 hy => ?_⟩
      obtain ⟨G3, g3, rx⟩ := z2 x' H3 hy
      have g23 := g2.trans (noB c.ext) g3
      have n3 : G3 gp = none := g3.nw gp (by rcases hw with ⟨_, h⟩ | ⟨_, g, vs, h, _⟩ <;> rw [h] <;> exact fun z => nomatch z) n2
      have e3 : Ex G1 G3 := e2.trans g3.g
      obtain ⟨ta, us, rfl, hta, hus⟩ := rx.tup_inv
      have eus : us = [.int (k : Int), .str (Sx ln)] := by
        cases hus with
        | cons ra rb => cases ra; cases rb with
          | cons rc rd => cases rc; cases rd; rfl
      subst eus
      refine ⟨ta, _, rfl, SqT.of (g3.gh _ _ hta), rfl, _, _, rfl, _, _, rfl, rfl, ?_⟩
      show tSeq _ _ _ ((σ2.set 2 (some (.int (k : Int)))).set 3 (some (.str (Sx ln)))) H3
      have x0 : ((σ2.set 2 (some (V.int (k : Int)))).set 3 (some (.str (Sx ln))))[0]? = some (some v0) := by rw [List.getElem?_set_ne (by decide), List.getElem?_set_ne (by decide)]; exact u0
      have x1 : ((σ2.set 2 (some (V.int (k : Int)))).set 3 (some (.str (Sx ln))))[1]? = some (some (.ref gp)) := by rw [List.getElem?_set_ne (by decide), List.getElem?_set_ne (by decide)]; exact u1
      have x3 : ((σ2.set 2 (some (V.int (k : Int)))).set 3 (some (.str (Sx ln))))[3]? = some (some (.str (Sx ln))) := by rw [List.getElem?_set_self (by rw [List.length_set]; omega)]
      have xl : ((σ2.set 2 (some (V.int (k : Int)))).set 3 (some (.str (Sx ln)))).length = 5 := by rw [List.length_set, List.length_set]; exact ul
      generalize ((σ2.set 2 (some (V.int (k : Int)))).set 3 (some (V.str (Sx ln)))) = σ4 at x0 x1 x3 xl
      have cf4 : ∀ (G' H' : Hp), Ex G' H' → Cfg (fun p => H' p ≠ none ∧ G' p = none) No G' H' σ4 [.no, .no, .no, .dat (.str ln), .no] := fun G' H' e => cfg_any e xl (fun i d hi => by
        match i, hi with
        | 0, hi => cases hi
        | 1, hi => cases hi
        | 2, hi => cases hi
        | 3, hi => cases hi; exact ⟨_, x3, .str _⟩
        | 4, hi => cases hi
        | i + 5, hi => cases hi) (fun i s hi => by
        match i, hi with
        | 0, hi => cases hi; exact .inl rfl
        | 1, hi => cases hi; exact .inl rfl
        | 2, hi => cases hi; exact .inl rfl
        | 3, hi => cases hi; exact .inr ⟨_, rfl⟩
        | 4, hi => cases hi; exact .inl rfl
        | i + 5, hi => cases hi)
      refine if_go (and_go ?_)
      refine go_eb (cf4 G3 H3 g3.gh) (b := TL.pre [32] ln) (eb_test (by repeat' walk_at "ev")) fun G4 H4 g4 => ?_
      have g24 := g23.trans (noB c.ext) g4
      have n4 : G4 gp = none := g4.nw gp (by
        rcases hw with ⟨_, h⟩ | ⟨_, g, vs, h, _⟩ <;> rw [g3.h gp _ (fun z => z) h] <;> exact fun z => nomatch z) n3
      have e4 : Ex G1 G4 := e3.trans g4.g
      rcases hw with ⟨h0, hgp0⟩ | ⟨hk1, g, vs, w1, w2, w3, w4, w5, w6⟩
      · subst h0
        have hln : ln = p := by
          rw [List.getElem?_cons_zero] at hd
          exact (Option.some.inj hd).symm
        subst hln
        have hpre : TL.pre [32] ln = false := by rw [hq0]; rfl
        rw [hpre]
        show (if false = true then _ else _)
        rw [if_neg Bool.false_ne_true]
        show (if false = true then _ else _)
        rw [if_neg Bool.false_ne_true]
        refine if_go ?_
        refine go_eb (cf4 G4 H4 g4.gh) (b := true) (eb_test (EvV.cast (ed_call q0 (ea_cons (EvV.cast (ev_dat rfl) (by rw [hq0])) ea_nil) (by omega)) rfl)) fun G5 H5 g5 => ?_
        rw [if_pos rfl]
        have hg5 : H5 gp = some (.lst []) := g5.h gp _ (fun z => z) (g4.h gp _ (fun z => z) (g3.h gp _ (fun z => z) hgp0))
        have n5 : G5 gp = none := g5.nw gp (by rw [g4.h gp _ (fun z => z) (g3.h gp _ (fun z => z) hgp0)]; exact fun z => nomatch z) n4
        have g25 := g24.trans (noB c.ext) g5
        refine app_go ⟨_, x1, .inl ⟨rfl, _, SqL.of hg5⟩, ?_⟩
        refine ⟨_, x3, sz1 (n := 1) rfl, fun q hq => ?_⟩
        have hqg : q ≠ gp := fun e => by rw [e, hg5] at hq; cases hq
        have gq : G5 q = none := by
          cases e : G5 q with
          | none => rfl
          | some o => rw [g25.gh _ _ e] at hq; cases hq
        have hHq : H q = none := Go.fresh (noB c.ext) g25 hq
        have g6 := g25.trans (noB c.ext) (Go.mut (noB g25.gh) (o := .lst [.str (Sx ln)]) hq)
        have g7 := go_above (q := gp) (o := .lst [.ref q]) g6 hgp n5
        refine ⟨gp, [], .ref q, rfl, rfl, by rw [upd_ne (Ne.symm hqg)]; exact hg5, by decide, ?_⟩
        refine ⟨G5, by omega, g7, e4.trans g5.g, n5, x0, x1, xl, .inr ⟨Nat.le_refl _, q, [.str (Sx ln)], upd_same, ?_, ?_, hHq, gq, hqg⟩⟩
        · rw [upd_ne hqg]
          exact upd_same
        · exact .one (.str ln)
      · have hlr : ln ∈ r := by
          obtain ⟨k', rfl⟩ : ∃ k', k = k' + 1 := ⟨k - 1, by omega⟩
          rw [List.getElem?_cons_succ] at hd
          exact List.mem_of_getElem? hd
        have hpre : TL.pre [32] ln = true := pre_one.mpr (hp2 ln hlr)
        rw [hpre]
        show (if true = true then _ else _)
        rw [if_pos rfl]
        have w1' : H4 gp = some (.lst [.ref g]) := g4.h gp _ (fun z => z) (g3.h gp _ (fun z => z) w1)
        have w2' : H4 g = some (.lst vs) := g4.h g _ (fun z => z) (g3.h g _ (fun z => z) w2)
        have w5' : G4 g = none := g4.nw g (by rw [g3.h g _ (fun z => z) w2]; exact fun z => nomatch z) (g3.nw g (by rw [w2]; exact fun z => nomatch z) w5)
        have w3' : RpL G4 vs (((ln0 r p).take k).map .str) := w3.mono (g3.g.trans g4.g)
        refine ⟨_, x1, sz1 (n := 0) rfl, fun q hq => ?_⟩
        have hqg : q ≠ gp := fun e => by rw [e, w1'] at hq; cases hq
        have hqg2 : q ≠ g := fun e => by rw [e, w2'] at hq; cases hq
        have gq : G4 q = none := by
          cases e : G4 q with
          | none => rfl
          | some o => rw [g24.gh _ _ e] at hq; cases hq
        have g5 := g24.trans (noB c.ext) (Go.mut (noB g24.gh) (o := .lst []) hq)
        have y1' : upd H4 q (.lst []) gp = some (.lst [.ref g]) := by rw [upd_ne (Ne.symm hqg)]; exact w1'
        have y2' : upd H4 q (.lst []) g = some (.lst vs) := by rw [upd_ne (Ne.symm hqg2)]; exact w2'
        have yq : upd H4 q (.lst []) q = some (.lst []) := upd_same
        generalize upd H4 q (.lst []) = H5 at g5 y1' y2' yq
        have hokk : D.ok 2 (.lst [.lst (((ln0 r p).take k).map .str)]) = true := by
          show ([D.lst (((ln0 r p).take k).map .str)]).all (D.ok 1) = true
          rw [List.all_cons, List.all_nil, Bool.and_true]
          show (((ln0 r p).take k).map D.str).all (D.ok 0) = true
          rw [List.all_map, List.all_eq_true]
          intro y hy
          show (y.all fun c => decide (c < 1114112)) = true
          rw [List.all_eq_true]
          exact fun c hc => decide_eq_true (hch y (List.mem_of_mem_take hy) c hc)
        refine ⟨.list [.list (D.pys (((ln0 r p).take k).map .str))], .list [], .lst (SqL.of y1') (.cons (.lst (SqL.of y2') (w3'.dp g5.gh)) .nil), .lst (SqL.of yq) .nil, ok_shaped hokk (by decide), ok_shaped (n := 1) (d := .lst []) rfl (by decide), ?_⟩
        refine ⟨true, rfl, ?_⟩
        show (if true = true then _ else _)
        rw [if_pos rfl]
        have hvl : vs.length < sizeLine := by
          rw [w3'.length, List.length_map, List.length_take]
          exact sz' (by omega)
        refine app_go ⟨.ref gp, x1, 1, rfl, gp, [.ref g], -1, .ref g, rfl, rfl, SqL.of y1', rfl, .inl ⟨rfl, _, SqL.of y2'⟩, ?_⟩
        refine ⟨_, x3, g, vs, .str (Sx ln), rfl, rfl, y2', hvl, ?_⟩
        have g6 := go_above (q := g) (o := .lst (vs ++ [.str (Sx ln)])) g5 w4 w5'
        refine ⟨G4, by omega, g6, e4, n4, x0, x1, xl, .inr ⟨by omega, g, vs ++ [.str (Sx ln)], ?_, upd_same, ?_, w4, w5', w6⟩⟩
        · rw [upd_ne (Ne.symm w6)]
          exact y1'
        · rw [take_next hd, List.map_append]
          exact w3'.append (.one (.str ln))⟩)
end
end Fk
/-! The source read and changed. -/
namespace Dl
open PySem PySem.Spec PyProof.Rows L2
section
variable {S : Addr → Prop} {ρ : List Sl} {te : TE} {K : PySem.W.Frag} {i : Nat} {t2 : TS} {N : List Sl → Prop} {R : D → Prop}
abbrev isInt (d : D) : Prop := ∃ n : Int, d = .int n
/-- an item of the source -/
theorem ev_src {j : Int} (hi : ρ[i]? = some .src) (hj : j = 0 ∨ j = 1 ∨ j = 2) : EvD S (tOp (rIxL K) (tVar i) (tC (.int j))) ρ isInt := fun F G H σ c Q q => by
  obtain ⟨p, h1, h2⟩ := c.srcAt hi
  obtain ⟨a, b, e, h3⟩ := (c.src p h2).2
  refine ⟨_, h1, ?_⟩
  rcases hj with rfl | rfl | rfl
  · exact ⟨p, [.int a, .int b, .int e], 0, .int a, rfl, rfl, SqL.of h3, rfl, q _ _ G H ⟨a, rfl⟩ c.base.refl (.int a)⟩
  · exact ⟨p, [.int a, .int b, .int e], 1, .int b, rfl, rfl, SqL.of h3, rfl, q _ _ G H ⟨b, rfl⟩ c.base.refl (.int b)⟩
  · exact ⟨p, [.int a, .int b, .int e], 2, .int e, rfl, rfl, SqL.of h3, rfl, q _ _ G H ⟨e, rfl⟩ c.base.refl (.int e)⟩
theorem Cfg.srcSet {F : Addr → Prop} {G H : Hp} {σ : L2.St} {p : Addr} {x y z : Int} (c : Cfg F S G H σ ρ) (hp : S p) : Cfg F S G (upd H p (.lst [.int x, .int y, .int z])) σ ρ ∧ GoS F S G H G (upd H p (.lst [.int x, .int y, .int z])) := by
  have hg : G p = none := (c.fr p (c.src p hp).1).2
  have e1 : Evl.Ex G (upd H p (.lst [.int x, .int y, .int z])) := fun a o h => by
    rw [upd_ne (ne_of_none h hg)]
    exact c.ext a o h
  have so : ∀ q, S q → SrcOk (upd H p (.lst [.int x, .int y, .int z])) q := fun q hq => by
    by_cases e : q = p
    · rw [e]
      exact ⟨x, y, z, upd_same⟩
    · obtain ⟨a, b, d, h⟩ := (c.src q hq).2
      exact ⟨a, b, d, by rw [upd_ne e]; exact h⟩
  refine ⟨⟨e1, fun q hq => ⟨?_, (c.fr q hq).2⟩, fun q hq => ⟨(c.src q hq).1, so q hq⟩, c.len, fun k o s h1 h2 => ?_, c.dis⟩, ⟨Evl.Ex.refl G, e1, fun q hq hs => upd_ne (fun (e : q = p) => hs (by rw [e]; exact hp)), fun q hq => (c.fr q hq).2, so⟩⟩
  · by_cases e : q = p
    · rw [e, upd_same]; exact fun z => nomatch z
    · rw [upd_ne e]; exact (c.fr q hq).1
  · have w := c.at_ k o s h1 h2
    cases s with
    | no => trivial
    | dat d => exact w
    | own ds =>
      obtain ⟨q, vs, e, w1, w2, w3, w4⟩ := w
      exact ⟨q, vs, e, by rw [upd_ne (fun (e : q = p) => w3 (by rw [e]; exact (c.src p hp).1))]; exact w1, w2, w3, w4⟩
    | src => exact w
    | raw v P => exact w
theorem run_srcSet {j : Int} (hi : ρ[i]? = some .src) (hj : j = 0 ∨ j = 1 ∨ j = 2) (h : EvD S te ρ isInt) (h2 : Run S t2 ρ N R) : Run S (tSeq (tAsg te (gSub (tVar i) (tC (.int j)) rSetL)) t2) ρ N R := fun F G H σ E c kn kr =>
  h F G H σ c _ fun v d G1 H1 ⟨n, ed⟩ g1 r1 => by
    subst ed
    cases r1
    have c1 := c.go g1
    obtain ⟨p, h3, h4⟩ := c1.srcAt hi
    obtain ⟨a, b, e, h5⟩ := (c1.src p h4).2
    refine ⟨_, h3, ?_⟩
    have fin : ∀ x y z : Int, t2 E σ (upd H1 p (.lst [.int x, .int y, .int z])) := fun x y z => by
      obtain ⟨c2, g2⟩ := c1.srcSet (x := x) (y := y) (z := z) h4
      have g12 := (g1.toS c).trans g2
      exact h2 F G1 _ σ E c2 (fun ρ3 G3 H3 σ3 n3 g3 c3 => kn ρ3 G3 H3 σ3 n3 (g12.trans g3) c3) fun v d G3 H3 rd g3 rr => kr v d G3 H3 rd (g12.trans g3) rr
    rcases hj with rfl | rfl | rfl
    · exact ⟨p, [.int a, .int b, .int e], 0, 0, rfl, rfl, h5, rfl, fin n b e⟩
    · exact ⟨p, [.int a, .int b, .int e], 1, 1, rfl, rfl, h5, rfl, fin a n e⟩
    · exact ⟨p, [.int a, .int b, .int e], 2, 2, rfl, rfl, h5, rfl, fin a b n⟩
/-- two loosely told ints -/
theorem ed_int2 {ta tb : TE} {r : R2} {P : D → Prop} (ha : EvD S ta ρ isInt) (hb : EvD S tb ρ isInt) (hr : ∀ i j : Int, OpD S r (.int i) (.int j) P) : EvD S (tOp r ta tb) ρ P := ed_op ha (fun _ _ => hb) fun x y ⟨i, e1⟩ ⟨j, e2⟩ => by rw [e1, e2]; exact hr i j
theorem et_any {te : TE} (h : EvD S te ρ (fun d => ∃ b, d = .bl b)) : EvT S (tTest te) ρ (fun _ => True) := et_test (EvD.imp h fun d ⟨b, e⟩ => ⟨b, trivial, e⟩)
/-- a call whose arguments are told loosely -/
theorem ed_callD {α : Type} {args : α → List D} {pre : α → Prop} {post : α → D → Prop} {ta : TA} {E : XK} {Pa : List D → Prop} {P : D → Prop} (ha : EvA S ta ρ Pa) (h : ∀ ds, Pa ds → ∃ a, ds = args a ∧ pre a ∧ ∀ d, post a d → P d) : EvD S (tCall (spP args pre post) [] E ta) ρ P := fun F G H σ c Q q =>
  ha F G H σ c _ fun vs ds G1 H1 pd g1 r => by
    obtain ⟨a, e, hp, hq⟩ := h ds pd
    subst e
    rw [List.append_nil]
    exact ⟨a, G1, g1.gh, r, hp, fun v d G' H' po g2 rv => q v d G' H' (hq d po) (g1.trans c.base (g2.up (c.go g1).base)) rv⟩
/-! ### the script: a list that is only read, however it stands -/
theorem sql_mono {G G' : Hp} (e : Evl.Ex G G') {a : Addr} {xs : List V} (h : SqL K G a xs) : SqL K G' a xs := by
  rcases h with (h | ⟨o, h⟩) | h
  · exact .inl (.inl (e _ _ h))
  · exact .inl (.inr ⟨o, e _ _ h⟩)
  · exact .inr h
abbrev Scr (K : PySem.W.Frag) (a : Addr) (ns : List Int) : Sl := .raw (.ref a) (fun G => SqL K G a (ns.map V.int))
theorem Cfg.rawAt {F : Addr → Prop} {G H : Hp} {σ : L2.St} {v : V} {P : Hp → Prop} (c : Cfg F S G H σ ρ) (h : ρ[i]? = some (.raw v P)) : σ[i]? = some (some v) ∧ ∀ G1, Evl.Ex G G1 → P G1 := by
  obtain ⟨o, e, rfl, r⟩ := c.get h
  exact ⟨e, r⟩
theorem ev_lenR {a : Addr} {ns : List Int} (hi : ρ[i]? = some (Scr K a ns)) : EvV S (tCB (rLenL K) (tCons (tVar i) tNil)) ρ (.int (ns.length : Nat)) := fun F G H σ c Q q => by
  obtain ⟨e, h⟩ := c.rawAt hi
  exact ⟨.ref a, e, a, ns.map V.int, rfl, .inl (h H c.ext), by rw [List.length_map]; exact q _ _ G H rfl c.base.refl (.int _)⟩
theorem ev_ixR {a : Addr} {ns : List Int} {k n : Int} (hi : ρ[i]? = some (Scr K a ns)) (he : EvV S te ρ (.int k)) (hk : atI (ns.map V.int) k = some (.int n)) : EvV S (tOp (rIxL K) (tVar i) te) ρ (.int n) := fun F G H σ c Q q => by
  obtain ⟨e, h⟩ := c.rawAt hi
  refine ⟨.ref a, e, he F G H σ c _ fun v d G1 H1 ed g1 r1 => ?_⟩
  subst ed
  cases r1
  exact ⟨a, ns.map V.int, k, .int n, rfl, rfl, h H1 (g1.g.trans g1.gh), hk, q _ _ G1 H1 rfl g1 (.int n)⟩
/-- a start whose first argument is told so -/
theorem cfg_startR {G H : Hp} {a : Addr} {P : Hp → Prop} {vs : List V} {ds : List D} {n : Nat} {N : List PySem.Str} (e : Evl.Ex G H) (hp : ∀ G1, Evl.Ex G G1 → P G1) (r : RpL G vs ds) (hN : N.length = n) (hl : ds.length + 1 ≤ n) : Cfg (fun p => H p ≠ none ∧ G p = none) No G H (L2.start N (.ref a :: vs)) (.raw (.ref a) P :: (ds.map .dat ++ List.replicate (n - 1 - ds.length) .no)) := by
  have hvl := r.length
  refine ⟨e, fun p hp => hp, fun p hp => hp.elim, ?_, fun k o s h1 h2 => ?_, fun k j p x y h1 _ _ _ => ?_⟩
  · rw [start_len (by rw [List.length_cons, hvl, hN]; exact hl), hN, List.length_cons, List.length_append, List.length_map, List.length_replicate]
    omega
  · have es : L2.start N (.ref a :: vs) = some (.ref a) :: (vs.map some ++ List.replicate (n - 1 - ds.length) none) := by
      unfold L2.start
      rw [List.map_cons, List.cons_append, List.length_cons, hvl, hN]
      have : n - (ds.length + 1) = n - 1 - ds.length := by omega
      rw [this]
    rw [es] at h1
    cases k with
    | zero =>
      have e1 := Option.some.inj h1
      have e2 := Option.some.inj h2
      subst e1 e2
      exact ⟨rfl, hp⟩
    | succ k => exact rp_at (i := k) r h1 h2
  · cases k with
    | zero => cases Option.some.inj h1
    | succ k => exact (no_own (i := k) h1).elim
/-- any def by its promise, raw -/
theorem cal_raw {P : Program} {w : World} {mg : PySem.Str → Option Value} {base : Heap} {x : PySem.Str} {st : Stmt} {Ns ps : List PySem.Str} {k : Nat} {sp : Sp} (F : DefAt K mg x st) (Sc : FnScope Ns ps (defScope st)) (len : ∀ vs H Q E, sp vs H Q E → vs.length = ps.length)
    (hb : ∀ (kV doc pm : Value) (an : Option Addr) (cdv ct : Value) (us : List Value), us.length = ps.length → bindArgs (PySem.W.fnOf x x (defArgs st) (defBody st) (defScope st) .none kV doc pm an cdv ct) ⟨us, []⟩ = pure (ps.zip us))
    (body : ∀ (f : Addr) (cdv : Value) (A : Around) (outer : List Env) (s : Shared) (H : Hp) (E : XK), Room k (Xof P w K mg base Ns x st f cdv A outer s H E).A → ∃ ts, PSs (Xof P w K mg base Ns x st f cdv A outer s H E) (defBody st) ts ∧ ∀ vs H' Q E', sp vs H' Q E' → ts { nx := fun _ H' => Q .non H', rt := Q } (start Ns vs) H') :
    C8.Cal P w K mg base (k + 1) x sp [] := by
  obtain ⟨f, fd, F, hm⟩ := F.ex
  exact ⟨f, fd, ps, [], F.ok Sc len (fun cdv A outer s H vs Q E hr h => (body f cdv A outer s H E hr).elim fun ts z => ⟨ts, z.1.nox, z.2 vs H Q E h⟩), hm, F.kp, F.bindsN hb, .nil⟩
end
end Dl
namespace Fk
open PySem PySem.Spec PyProof.Rows L2 Dl Mr
local macro_rules | `(tactic| walk_at "ev") => `(tactic| first
  | (with_reducible apply ev_dat) <;> rfl
  | with_reducible apply ev_int
  | with_reducible apply ev_bl
  | with_reducible apply ev_non
  | walk_at "lit"
  | with_reducible apply ev_str
  | with_reducible apply eb_test
  | with_reducible apply eb_B
  | with_reducible apply ev_op
  | with_reducible apply o_add
  | with_reducible apply o_sub
  | with_reducible apply o_mul
  | with_reducible apply o_fdiv
  | with_reducible apply o_fdivW
  | with_reducible apply o_mod
  | with_reducible apply o_lt
  | with_reducible apply o_le
  | with_reducible apply o_gt
  | with_reducible apply o_ge
  | with_reducible apply o_eqI
  | with_reducible apply o_neI
  | with_reducible apply o_eqS
  | with_reducible apply o_neS
  | with_reducible apply o_neInts
  | with_reducible apply o_neNil
  | with_reducible apply o_eqNil
  | with_reducible apply o_eqInts
  | with_reducible apply o_addS
  | with_reducible apply o_in1
  | with_reducible apply o_ni1
  | with_reducible apply o_inS
  | with_reducible apply o_mulS
  | with_reducible apply ea_nil
  | with_reducible apply ea_cons
  | with_reducible apply ev_tup
  | with_reducible apply ev_lst
  | with_reducible apply eb_not
  | with_reducible apply eb_and
  | with_reducible apply eb_or
  | with_reducible apply ev_andV
  | with_reducible apply ev_orV
  | with_reducible apply ev_notV
  | with_reducible apply ev_chain
  | with_reducible apply ev_neg
  | with_reducible apply ev_slS
  | with_reducible apply ev_slL
  | with_reducible apply eo_none
  | with_reducible apply eo_some
  | with_reducible apply ev_cb
  | with_reducible apply cd_lenT
  | with_reducible apply cd_lenL
  | with_reducible apply cd_int
  | with_reducible apply cd_max
  | with_reducible apply cd_min
  | with_reducible apply ev_bm
  | with_reducible apply ev_bm0
  | with_reducible apply md_strip
  | with_reducible apply md_rstrip
  | with_reducible apply md_find
  | with_reducible apply md_index
  | with_reducible apply md_starts
  | with_reducible apply md_lower
  | with_reducible apply md_upper
  | with_reducible apply ei_str
  | with_reducible apply ei_list
  | with_reducible exact sz1 rfl
  | with_reducible exact Nat.le_of_ble_eq_true rfl
  | ((with_reducible apply cmulL) <;> decide)
  | ((with_reducible apply cmulR) <;> decide)
  | ((with_reducible apply cdiv) <;> decide)
  | ((with_reducible show (0 : Int) < _) <;> decide)
  | (with_reducible intro _hyp))

section
variable {P : Program} {w : World} {K : PySem.W.Frag} {mg : PySem.Str → Option Value} {base : Heap}
theorem nx_go {t2 : TS} {E : Ends} {σ : L2.St} {H : Hp} (h : t2 E σ H) : tSeq tNext t2 E σ H := h
theorem asg_go {te : TE} {i : Nat} {t2 : TS} {E : Ends} {σ : L2.St} {H : Hp} (h : te σ H fun x H1 => t2 E (σ.set i (some x)) H1) : tSeq (tAsg te (gName i)) t2 E σ H := h
/-- the script's first number, or 0 -/
def spCell (K : PySem.W.Frag) : Sp := fun vs H Q _ => ∃ (a : Addr) (ns : List Int) (G : Hp), Evl.Ex G H ∧ vs = [.ref a, .int 0] ∧ SqL K G a (ns.map V.int) ∧ ∀ (n : Int) G' H', Go No G H G' H' → Q (.int n) H'
abbrev N__law_cell_at : List PySem.Str := ["_law_script", "_law_k"]
theorem sc__law_cell_at : FnScope N__law_cell_at ["_law_script", "_law_k"] (defScope s__law_cell_at) := ⟨rfl, rfl, rfl, by decide +kernel, rfl, by decide +kernel, by decide +kernel⟩
theorem c__law_cell_at (T : Tx K mg) : C8.Cal P w K mg base 1 "_law_cell_at" (spCell K) [] :=
  cal_raw T.d__law_cell_at sc__law_cell_at (fun vs H Q E h => by obtain ⟨a, ns, G, _, rfl, _⟩ := h; rfl) (fun _ _ _ _ _ _ us hl => match us, hl with | [_, _], _ => rfl) (fun f cdv A outer s H E hr => ⟨_, (pss_cons (ps_if (pt_cmpR op_lt (pv 1) (pe_callB cl_lenL (by rfl) T.n_len boot_len (pa_cons (pv 0) pa_nil)) (by rfl))
    (pss_cons (ps_ret (pe_ix ix_list (pv 0) (pv 1) (fun _ _ => rfl)))
    pss_nil)
    pss_nil)
    (pss_cons (ps_ret pe_int)
    pss_nil)), fun vs H' Q E' h => by
    obtain ⟨a, ns, G, e, rfl, hs, q⟩ := h
    have cf : Cfg _ No G H' (L2.start N__law_cell_at [.ref a, .int 0]) [Scr K a ns, .dat (.int 0)] := cfg_startR e (fun G1 e1 => sql_mono e1 hs) (.one (.int 0)) rfl (by decide)
    refine if_go ?_
    refine go_eb cf (b := decide ((0 : Int) < (ns.length : Nat))) (eb_B (ev_op (ev_dat rfl) (ev_lenR rfl) o_lt)) fun G1 H1 g1 => ?_
    have cf1 := cf.go g1
    by_cases hk : (0 : Int) < (ns.length : Nat)
    · rw [if_pos (decide_eq_true hk)]
      cases ns with
      | nil => exact absurd hk (by decide)
      | cons n r => exact ret_go (go_ev cf1 (ev_ixR (n := n) rfl (ev_dat rfl) (Dl.atI_int (by decide) rfl)) fun v d G2 H2 ed g2 r2 => by
        subst ed
        cases r2
        exact q _ G2 H2 (g1.trans (noB e) g2))
    · rw [if_neg (by simpa using hk)]
      exact nx_go (ret_go (go_ev cf1 ev_int fun v d G2 H2 ed g2 r2 => by
        subst ed
        cases r2
        exact q _ G2 H2 (g1.trans (noB e) g2)))⟩)
theorem ed_cell {S : Addr → Prop} {ρ : List Sl} {i : Nat} {a : Addr} {ns : List Int} {E : XK} (hi : ρ[i]? = some (Scr K a ns)) : EvD S (tCall (spCell K) [] E (tCons (tVar i) (tCons (tC (.int 0)) tNil))) ρ isInt := fun F G H σ c Q q => by
  obtain ⟨e, h⟩ := c.rawAt hi
  exact ⟨.ref a, e, a, ns, G, c.ext, rfl, h G (Evl.Ex.refl G), fun n G' H' g => q _ (.int n) G' H' ⟨n, rfl⟩ (g.up c.base) (.int n)⟩
abbrev N__law_mixed : List PySem.Str := ["_law_cell", "_law_k", "_law_low"]
theorem sc__law_mixed : FnScope N__law_mixed ["_law_cell", "_law_k"] (defScope s__law_mixed) := ⟨rfl, rfl, rfl, by decide +kernel, rfl, by decide +kernel, by decide +kernel⟩
theorem c__law_mixed (T : Tx K mg) : C8.Cal P w K mg base 1 "_law_mixed" (spP (α := Int × Int) (fun a => [.int a.1, .int a.2]) (fun a => True) (fun a d => isInt d)) [] :=
  cal_P T.d__law_mixed sc__law_mixed (fun _ => rfl) (by decide) (fun _ _ _ _ _ _ us hl => match us, hl with | [_, _], _ => rfl) (fun f cdv A outer s H E hr => ⟨_, (pss_cons (ps_set (i := 2) sc__law_mixed.nd rfl (Or.inl rfl) (pe_op op_add (pe_op op_mod (pv 0) pe_int) (pe_op op_mul (pe_op op_fdivW (pv 0) pe_int) pe_int)))
    (pss_cons (ps_set (i := 2) sc__law_mixed.nd rfl (Or.inl rfl) (pe_op op_mod (pe_op op_mul (pe_op op_add (pe_op op_add (pv 2) (pe_op op_mul pe_int (pv 1))) pe_int) pe_int) pe_int))
    (pss_cons (ps_set (i := 2) sc__law_mixed.nd rfl (Or.inl rfl) (pe_op op_mod (pe_op op_mul (pv 2) (pe_op op_add (pe_op op_add (pe_op op_fdiv (pv 2) pe_int) pe_int) (pv 1))) pe_int))
    (pss_cons (ps_ret (pe_op op_mod (pe_op op_mul (pv 2) (pe_op op_add (pe_op op_fdiv (pv 2) pe_int) pe_int)) pe_int))
    pss_nil)))), fun a ha => by
    obtain ⟨a, k⟩ := a
    show Dl.Run No _ [.dat (.int a), .dat (.int k), .no] _ _
    refine run_set (d := .int (a % 2147483629 + a / 2147483629 * 30011)) (ev_op (ev_op (ev_dat rfl) ev_int (o_mod (by decide))) (ev_op (ev_op (ev_dat rfl) ev_int (o_fdivW (cdivW (by decide)))) ev_int (o_mul (cmulR (by decide)))) o_add) ?_
    generalize a % 2147483629 + a / 2147483629 * 30011 = x
    show Dl.Run No _ [.dat (.int a), .dat (.int k), .dat (.int x)] _ _
    refine run_set (d := .int ((x + 69621 * k + 1) * 48271 % 2147483629)) (ev_op (ev_op (ev_op (ev_op (ev_dat rfl) (ev_op ev_int (ev_dat rfl) (o_mul (cmulL (by decide)))) o_add) ev_int o_add) ev_int (o_mul (cmulR (by decide)))) ev_int (o_mod (by decide))) ?_
    have h1 : 0 ≤ (x + 69621 * k + 1) * 48271 % 2147483629 ∧ (x + 69621 * k + 1) * 48271 % 2147483629 < 2147483629 := ⟨Int.emod_nonneg _ (by decide), Int.emod_lt_of_pos _ (by decide)⟩
    generalize (x + 69621 * k + 1) * 48271 % 2147483629 = y at h1
    show Dl.Run No _ [.dat (.int a), .dat (.int k), .dat (.int y)] _ _
    refine run_set (d := .int (y * (y / 907 + 16831 + k) % 2147483587)) (ev_op (ev_op (ev_dat rfl) (ev_op (ev_op (ev_op (ev_dat rfl) ev_int (o_fdiv (cdiv (by decide)))) ev_int o_add) (ev_dat rfl) o_add) (o_mul (cmulL (by omega)))) ev_int (o_mod (by decide))) ?_
    have h2 : 0 ≤ y * (y / 907 + 16831 + k) % 2147483587 ∧ y * (y / 907 + 16831 + k) % 2147483587 < 2147483587 := ⟨Int.emod_nonneg _ (by decide), Int.emod_lt_of_pos _ (by decide)⟩
    generalize y * (y / 907 + 16831 + k) % 2147483587 = z at h2
    show Dl.Run No _ [.dat (.int a), .dat (.int k), .dat (.int z)] _ _
    exact run_retV (ev_op (ev_op (ev_dat rfl) (ev_op (ev_op (ev_dat rfl) ev_int (o_fdiv (cdiv (by decide)))) ev_int o_add) (o_mul (cmulL (by omega)))) ev_int (o_mod (by decide))) ⟨_, rfl⟩⟩)
/-- hands back a new list of three ints that may change -/
def spNew (K : PySem.W.Frag) : Sp := fun vs H Q _ => ∃ (a : Addr) (ns : List Int) (k : Nat) (G : Hp), Evl.Ex G H ∧ vs = [.ref a, .int (k : Int)] ∧ SqL K G a (ns.map V.int) ∧ ∀ p G' H', Go No G H G' H' → H p = none → SrcOk H' p → G' p = none → Q (.ref p) H'
abbrev N__law_source : List PySem.Str := ["_law_script", "_law_k", "_law_cell"]
theorem sc__law_source : FnScope N__law_source ["_law_script", "_law_k"] (defScope s__law_source) := ⟨rfl, rfl, rfl, by decide +kernel, rfl, by decide +kernel, by decide +kernel⟩
theorem c__law_source (T : Tx K mg) : C8.Cal P w K mg base 2 "_law_source" (spNew K) [] :=
  have c__law_mixed := c__law_mixed (P := P) (w := w) (base := base) T
  have c__law_cell_at := c__law_cell_at (P := P) (w := w) (base := base) T
  cal_raw T.d__law_source sc__law_source (fun vs H Q E h => by obtain ⟨a, ns, k, G, _, rfl, _⟩ := h; rfl) (fun _ _ _ _ _ _ us hl => match us, hl with | [_, _], _ => rfl) (fun f cdv A outer s H E hr => ⟨_, (pss_cons (ps_if (pt_cmpR op_lt (pv 1) (pe_callB cl_lenL (by rfl) T.n_len boot_len (pa_cons (pv 0) pa_nil)) (by rfl))
    (pss_cons (ps_ret (pe_lst (pa_cons (pe_ix ix_list (pv 0) (pv 1) (fun _ _ => rfl)) (pa_cons (pe_ix ix_list (pv 0) (pv 1) (fun _ _ => rfl)) (pa_cons pe_int pa_nil)))))
    pss_nil)
    pss_nil)
    (pss_cons (ps_set (i := 2) sc__law_source.nd rfl (Or.inl rfl) (C8.pe_c c__law_mixed hr (by decide) rfl (pa_cons (C8.pe_c c__law_cell_at hr (by decide) rfl (pa_cons (pv 0) (pa_cons pe_int pa_nil))) (pa_cons (pe_op op_add pe_int (pv 1)) pa_nil))))
    (pss_cons (ps_ret (pe_lst (pa_cons (pv 2) (pa_cons (pv 2) (pa_cons pe_int pa_nil)))))
    pss_nil))), fun vs H' Q E' h => by
    obtain ⟨a, ns, k, G, e, rfl, hs, q⟩ := h
    have cf : Cfg _ No G H' (L2.start N__law_source [.ref a, .int (k : Int)]) [Scr K a ns, .dat (.int (k : Int)), .no] := cfg_startR e (fun G1 e1 => sql_mono e1 hs) (.one (.int (k : Int))) rfl (by show 2 ≤ 3; decide)
    have hn0 : ∀ {te : TE} {ρ : List Sl} {F : Addr → Prop} {G1 H1 : Hp} {σ : L2.St}, Cfg F No G1 H1 σ ρ → Go No G H' G1 H1 → EvF No te ρ (fun ds => ∃ x y z : Int, ds = [.int x, .int y, .int z]) → te σ H1 Q := fun {te ρ F G1 H1 σ} c1 g1 h => h F G1 H1 σ c1 _ fun p us ds G2 H2 hd g2 hn hp hg rr => by
      obtain ⟨x, y, z, rfl⟩ := hd
      have : us = [x, y, z].map V.int := RpL.int_inv (ns := [x, y, z]) rr
      exact q p G2 H2 (g1.trans (noB e) g2) (Go.fresh (noB e) g1 hn) ⟨x, y, z, by rw [hp, this]; rfl⟩ hg
    refine if_go ?_
    refine go_eb cf (b := decide (k < ns.length)) (EvB.cast (eb_B (ev_op (ev_dat rfl) (ev_lenR rfl) o_lt)) (decI (by omega))) fun G1 H1 g1 => ?_
    have cf1 := cf.go g1
    by_cases hk : k < ns.length
    · rw [if_pos (decide_eq_true hk)]
      refine ret_go (hn0 cf1 g1 ?_)
      have hg : ns[k]? = some ns[k] := List.getElem?_eq_getElem hk
      exact EvF.imp (ef_lstV (ea_cons (ev_ixR rfl (ev_dat rfl) (Dl.atI_nat (get_map hg))) (ea_cons (ev_ixR rfl (ev_dat rfl) (Dl.atI_nat (get_map hg))) (ea_cons ev_int ea_nil))) (sz1 rfl)) fun ds e => ⟨_, _, _, e⟩
    · rw [if_neg (by simpa using hk)]
      refine nx_go (asg_go ?_)
      refine go_ev cf1 (P := isInt) (ed_callD (Pa := fun ds => ∃ x y : Int, ds = [.int x, .int y]) (EvA.imp (eda_cons (ed_cell rfl) (fun _ _ => ea_cons (ev_op ev_int (ev_dat rfl) o_add) ea_nil)) fun l hl => ?_) (fun ds hd => ?_)) fun v d G2 H2 hd g2 r2 => ?_
      · obtain ⟨d, ds, ⟨n, e1⟩, e2, e3⟩ := hl
        exact ⟨n, _, by rw [e3, e1, e2]⟩
      · obtain ⟨x, y, e⟩ := hd
        exact ⟨(x, y), e, trivial, fun d h => h⟩
      obtain ⟨n, ed⟩ := hd
      subst ed
      have cf2 := (cf1.go g2).set 2 r2
      exact ret_go (hn0 cf2 (g1.trans (noB e) g2) (EvF.imp (ef_lstV (ea_cons (ev_dat rfl) (ea_cons (ev_dat rfl) (ea_cons ev_int ea_nil))) (sz1 rfl)) fun ds e => ⟨_, _, _, e⟩))⟩)
abbrev N__law_next : List PySem.Str := ["_law_source_here", "_law_many", "_law_found"]
theorem sc__law_next : FnScope N__law_next ["_law_source_here", "_law_many"] (defScope s__law_next) := ⟨rfl, rfl, rfl, by decide +kernel, rfl, by decide +kernel, by decide +kernel⟩
theorem c__law_next (T : Tx K mg) : C8.Cal P w K mg base 2 "_law_next" (spS (α := Int) (fun a => [.int a]) (fun a => 0 < a ∧ a < 1073741824) (fun a d => ∃ r : Int, d = .int r ∧ 0 ≤ r ∧ r < a)) [] :=
  have c__law_mixed := c__law_mixed (P := P) (w := w) (base := base) T
  cal_S T.d__law_next sc__law_next (fun _ => rfl) (by decide) (fun _ _ _ _ _ _ us hl => match us, hl with | [_, _], _ => rfl) (fun f cdv A outer s H E hr => ⟨_, (pss_cons (ps_if (pt_cmpR op_ge (pe_ix ix_list (pv 0) pe_int (fun _ _ => rfl)) (pe_op op_pow pe_int pe_int) (by rfl))
    (pss_cons (ps_set (i := 2) sc__law_next.nd rfl (Or.inl rfl) (pe_op op_mod (pe_ix ix_list (pv 0) pe_int (fun _ _ => rfl)) (pv 1)))
    (pss_cons (ps_asg (pe_op op_fdiv (pe_ix ix_list (pv 0) pe_int (fun _ _ => rfl)) (pv 1)) (pg_sub (pv 0) pe_int set_list))
    (pss_cons (ps_ret (pv 2))
    pss_nil)))
    pss_nil)
    (pss_cons (ps_asg (pe_op op_add (pe_ix ix_list (pv 0) pe_int (fun _ _ => rfl)) pe_int) (pg_sub (pv 0) pe_int set_list))
    (pss_cons (ps_ret (pe_op op_mod (C8.pe_c c__law_mixed hr (by decide) rfl (pa_cons (pe_ix ix_list (pv 0) pe_int (fun _ _ => rfl)) (pa_cons (pe_ix ix_list (pv 0) pe_int (fun _ _ => rfl)) pa_nil))) (pv 1)))
    pss_nil))), fun a p ha => by
    show Dl.Run (fun q => q = p) _ [.src, .dat (.int a), .no] _ _
    have hmod : ∀ {te : TE} {ρ : List Sl}, EvD (fun q => q = p) te ρ isInt → ρ[1]? = some (.dat (.int a)) → EvD (fun q => q = p) (tOp (rI (fun _ j => 0 < j) fun i j => .int (i % j)) te (tVar 1)) ρ (fun d => ∃ r : Int, d = .int r ∧ 0 ≤ r ∧ r < a) := fun h1 h2 => ed_op h1 (fun _ _ => ev_dat h2) fun x y ⟨i, e1⟩ e2 => by
      rw [e1, e2]
      exact opd_imp (o_mod ha.1) fun d e => ⟨_, e, Int.emod_nonneg _ (by omega), Int.emod_lt_of_pos _ ha.1⟩
    refine run_ifT (P := fun _ => True) (et_any (ed_op (ev_src rfl (.inl rfl)) (fun _ _ => ev_op ev_int ev_int (o_pow ⟨by decide, by decide, by decide⟩)) fun x y ⟨i, e1⟩ e2 => by
      rw [e1, e2]
      exact opd_imp o_ge fun d e => ⟨_, e⟩)) (fun _ => ?_) (fun _ => run_skip ?_)
    · refine run_flat (run_setD (hmod (ev_src rfl (.inl rfl)) rfl) (fun d hd => ?_))
      refine run_flat (run_srcSet rfl (.inl rfl) (ed_op (ev_src rfl (.inl rfl)) (fun _ _ => ev_dat rfl) fun x y ⟨i, e1⟩ e2 => by
        rw [e1, e2]
        exact opd_imp (o_fdiv (cdiv ⟨ha.1, ha.2⟩)) fun d e => ⟨_, e⟩) ?_)
      exact run_flat (run_retV (ev_dat rfl) hd)
    · refine run_srcSet rfl (.inr (.inr rfl)) (ed_op (ev_src rfl (.inr (.inr rfl))) (fun _ _ => ev_int) fun x y ⟨i, e1⟩ e2 => by
        rw [e1, e2]
        exact opd_imp o_add fun d e => ⟨_, e⟩) ?_
      refine run_ret (hmod (ed_callD (Pa := fun ds => ∃ x y : Int, ds = [.int x, .int y]) (EvA.imp (eda_cons (ev_src rfl (.inr (.inl rfl))) (fun _ _ => eda_cons (ev_src rfl (.inr (.inr rfl))) (fun _ _ => ea_nil))) fun l ⟨d, ds, ⟨n, e1⟩, ⟨d2, ds2, ⟨n2, e2⟩, e3, e4⟩, e5⟩ => ⟨n, n2, by rw [e5, e4, e3, e1, e2]⟩) (fun ds ⟨x, y, e⟩ => ⟨(x, y), e, trivial, fun d h => h⟩)) rfl) (fun d h => h)⟩)
end
end Fk
namespace Fk
open PySem PySem.Spec PyProof.Rows L2 Dl Mr
local macro_rules | `(tactic| walk_at "ev") => `(tactic| first
  | (with_reducible apply ev_dat) <;> rfl
  | with_reducible apply ev_int
  | with_reducible apply ev_bl
  | with_reducible apply ev_non
  | walk_at "lit"
  | with_reducible apply ev_str
  | with_reducible apply eb_test
  | with_reducible apply eb_B
  | with_reducible apply ev_op
  | with_reducible apply o_add
  | with_reducible apply o_sub
  | with_reducible apply o_mul
  | with_reducible apply o_fdiv
  | with_reducible apply o_fdivW
  | with_reducible apply o_mod
  | with_reducible apply o_lt
  | with_reducible apply o_le
  | with_reducible apply o_gt
  | with_reducible apply o_ge
  | with_reducible apply o_eqI
  | with_reducible apply o_neI
  | with_reducible apply o_eqS
  | with_reducible apply o_neS
  | with_reducible apply o_neInts
  | with_reducible apply o_neNil
  | with_reducible apply o_eqNil
  | with_reducible apply o_eqInts
  | with_reducible apply o_addS
  | with_reducible apply o_in1
  | with_reducible apply o_ni1
  | with_reducible apply o_inS
  | with_reducible apply o_mulS
  | with_reducible apply ea_nil
  | with_reducible apply ea_cons
  | with_reducible apply ev_tup
  | with_reducible apply ev_lst
  | with_reducible apply eb_not
  | with_reducible apply eb_and
  | with_reducible apply eb_or
  | with_reducible apply ev_andV
  | with_reducible apply ev_orV
  | with_reducible apply ev_notV
  | with_reducible apply ev_chain
  | with_reducible apply ev_neg
  | with_reducible apply ev_slS
  | with_reducible apply ev_slL
  | with_reducible apply eo_none
  | with_reducible apply eo_some
  | with_reducible apply ev_cb
  | with_reducible apply cd_lenT
  | with_reducible apply cd_lenL
  | with_reducible apply cd_int
  | with_reducible apply cd_max
  | with_reducible apply cd_min
  | with_reducible apply ev_bm
  | with_reducible apply ev_bm0
  | with_reducible apply md_strip
  | with_reducible apply md_rstrip
  | with_reducible apply md_find
  | with_reducible apply md_index
  | with_reducible apply md_starts
  | with_reducible apply md_lower
  | with_reducible apply md_upper
  | with_reducible apply ei_str
  | with_reducible apply ei_list
  | with_reducible exact sz1 rfl
  | with_reducible exact Nat.le_of_ble_eq_true rfl
  | ((with_reducible apply cmulL) <;> decide)
  | ((with_reducible apply cmulR) <;> decide)
  | ((with_reducible apply cdiv) <;> decide)
  | ((with_reducible show (0 : Int) < _) <;> decide)
  | (with_reducible intro _hyp))

section
variable {P : Program} {w : World} {K : PySem.W.Frag} {mg : PySem.Str → Option Value} {base : Heap}
abbrev N__law_table : List PySem.Str := []
theorem sc__law_table : FnScope N__law_table [] (defScope s__law_table) := ⟨rfl, rfl, rfl, by decide +kernel, rfl, by decide +kernel, by decide +kernel⟩
theorem c__law_table (T : Tx K mg) : C8.Cal P w K mg base 1 "_law_table" (spP (α := Unit) (fun _ => []) (fun a => True) (fun a d => d = .str l_SIGNS)) [] :=
  cal_P T.d__law_table sc__law_table (fun _ => rfl) (by decide) (fun _ _ _ _ _ _ us hl => match us, hl with | [], _ => rfl) (fun f cdv A outer s H E hr => ⟨_, (pss_cons (ps_ret pe_str)
    pss_nil), fun a ha => by
    show Dl.Run No _ [] _ _
    exact run_retV (ev_strL l_SIGNS_eq) rfl⟩)
abbrev N__law_numbers : List PySem.Str := ["_law_text", "_law_sign"]
theorem sc__law_numbers : FnScope N__law_numbers ["_law_text"] (defScope s__law_numbers) := ⟨rfl, rfl, rfl, by decide +kernel, rfl, by decide +kernel, by decide +kernel⟩
theorem c__law_numbers (T : Tx K mg) : C8.Cal P w K mg base 2 "_law_numbers" (spP (α := List Nat) (fun a => [.str a]) (fun a => a.length ≤ 100000 ∧ ∀ c ∈ a, okc c) (fun a d => d = .lst ((numbersOf a).map .int))) [] :=
  have c__law_table := c__law_table (P := P) (w := w) (base := base) T
  cal_P T.d__law_numbers sc__law_numbers (fun _ => rfl) (by decide) (fun _ _ _ _ _ _ us hl => match us, hl with | [_], _ => rfl) (fun f cdv A outer s H E hr => ⟨_, (pss_cons (ps_ret (pe_lc (own := [("_law_sign", 1)]) (g := gName 1) rfl sc__law_numbers.nd (pi_str (pv 0)) (blkOk_by (own := [("_law_sign", 1)]) (N := N__law_numbers) (sc := defScope s__law_numbers) (by decide +kernel)) (fun _ _ _ _ _ => pg_name (i := 1) sc__law_numbers.nd rfl (Or.inl rfl)) (fun _ _ _ _ _ => pts_nil) (fun _ _ _ _ _ => (pe_op op_add (pe_op op_add pe_int (PE.bmK (K := K) (pe_bm PySem.F.plainAttrs_str PySem.F.slot_str_index PySem.F.type_str_index m_index (C8.pe_c0 c__law_table hr (by decide) rfl) (pa_cons (pv 1) pa_nil)) rfl)) (pe_callTy (T := "int") cl_int1 (by rfl) T.n_int (by decide +kernel) (pa_cons (pe_cmpR op_gt (PE.bmK (K := K) (pe_bm PySem.F.plainAttrs_str PySem.F.slot_str_index PySem.F.type_str_index m_index (C8.pe_c0 c__law_table hr (by decide) rfl) (pa_cons (pv 1) pa_nil)) rfl) pe_int (by rfl)) pa_nil))))))
    pss_nil), fun a ha => by
    show Dl.Run No _ [.dat (.str a), .no] _ _
    refine run_retV (EvF.v (ef_lcM a (fun c => .str [c]) (fun c => .int (c : Int)) (ei_str (ev_dat rfl)) (fun c hc => ?_) (sz (by omega)))) ?_
    · refine EvV.cast (ev_op (ev_op ev_int (ev_bm (ed_call () ea_nil trivial) (ea_cons (ev_dat rfl) ea_nil) (md_index (ha.2 c hc))) o_add) (ev_cb (ea_cons (ev_op (ev_bm (ed_call () ea_nil trivial) (ea_cons (ev_dat rfl) ea_nil) (md_index (ha.2 c hc))) ev_int o_gt) ea_nil) cd_int) o_add) (congrArg D.int (signs_ix c (ha.2 c hc)))
    · show D.lst _ = .lst ((a.map fun (c : Nat) => (c : Int)).map .int)
      rw [List.map_map] <;> rfl⟩)
theorem allOctets_len {s : List Int} : (allOctets s).length ≤ 3 * s.length := by
  induction s with
  | nil => exact Nat.zero_le _
  | cons n r ih =>
    show (signOctets n ++ allOctets r).length ≤ _
    have : (signOctets n).length ≤ 3 := by
      unfold signOctets
      split
      · simp
      · split <;> simp
    rw [List.length_append, List.length_cons]
    omega
theorem allOctets_snoc (s : List Int) (n : Int) : allOctets (s ++ [n]) = allOctets s ++ signOctets n := by
  unfold allOctets
  rw [List.flatMap_append, List.flatMap_cons, List.flatMap_nil, List.append_nil]
abbrev N__law_octets : List PySem.Str := ["_law_saying_here", "_law_found", "_law_sign"]
theorem sc__law_octets : FnScope N__law_octets ["_law_saying_here"] (defScope s__law_octets) := ⟨rfl, rfl, rfl, by decide +kernel, rfl, by decide +kernel, by decide +kernel⟩
theorem c__law_octets (T : Tx K mg) : C8.Cal P w K mg base 1 "_law_octets" (spP (α := List Int) (fun a => [.lst (a.map .int)]) (fun a => a.length ≤ 3000) (fun a d => d = .lst ((allOctets a).map .int))) [] :=
  cal_P T.d__law_octets sc__law_octets (fun _ => rfl) (by decide) (fun _ _ _ _ _ _ us hl => match us, hl with | [_], _ => rfl) (fun f cdv A outer s H E hr => ⟨_, (pss_cons (ps_set (i := 1) sc__law_octets.nd rfl (Or.inl rfl) (pe_lst pa_nil))
    (pss_cons (ps_for PassesOwn.never rfl (pi_list (pv 0)) (pg_name (i := 2) sc__law_octets.nd rfl (Or.inl rfl))
    (pss_cons (ps_if (pt_cmpR op_lt (pv 2) pe_int (by rfl))
    (pss_cons (ps_expr (pe_bm PySem.F.plainAttrs_list PySem.F.slot_list_append PySem.F.type_list_append mt_append (pv 1) (pa_cons (pv 2) pa_nil)))
    pss_nil)
    (pss_cons (ps_if (pt_cmpR op_lt (pv 2) pe_int (by rfl))
    (pss_cons (ps_set (i := 1) sc__law_octets.nd rfl (Or.inl rfl) (pe_op op_cat (pv 1) (pe_lst (pa_cons (pe_op op_add pe_int (pe_op op_fdiv (pv 2) pe_int)) (pa_cons (pe_op op_add pe_int (pe_op op_mod (pv 2) pe_int)) pa_nil)))))
    pss_nil)
    (pss_cons (ps_set (i := 1) sc__law_octets.nd rfl (Or.inl rfl) (pe_op op_cat (pv 1) (pe_lst (pa_cons (pe_op op_add pe_int (pe_op op_fdiv (pv 2) pe_int)) (pa_cons (pe_op op_add pe_int (pe_op op_mod (pe_op op_fdiv (pv 2) pe_int) pe_int)) (pa_cons (pe_op op_add pe_int (pe_op op_mod (pv 2) pe_int)) pa_nil))))))
    pss_nil))
    pss_nil))
    pss_nil))
    (pss_cons (ps_ret (pv 1))
    pss_nil))), fun a ha => by
    show Dl.Run No _ [.dat (.lst (a.map .int)), .no, .no] _ _
    refine run_setFV (ef_lstV ea_nil (sz1 rfl)) ?_
    refine run_for (fun k r => r = [.dat (.lst (a.map .int)), .own ((allOctets (a.take k)).map .int), .no]) (ei_list (ev_dat rfl)) ⟨_, Le.refl _, rfl⟩ (fun k d r hd hr => ?_) (fun r hr => ?_)
    · obtain ⟨x, hx, rfl⟩ := map_get hd
      subst hr
      refine ⟨_, tg_name, ?_⟩
      have e1 : allOctets (a.take (k + 1)) = allOctets (a.take k) ++ signOctets x := by rw [take_next hx, allOctets_snoc]
      have hl : (allOctets (a.take k)).length ≤ 9000 := by
        have := allOctets_len (s := a.take k)
        rw [List.length_take] at this
        omega
      rw [e1]
      generalize allOctets (a.take k) = o at hl
      show Dl.Run No _ [.dat (.lst (a.map .int)), .own (o.map .int), .dat (.int x)] _ _
      have fin : ∀ {es : List Int} (_ : signOctets x = es), Dl.Run No tNext [.dat (.lst (a.map .int)), .own (o.map .int ++ es.map .int), .dat (.int x)] (fun r3 => ∃ r4, Le r3 r4 ∧ r4 = [.dat (.lst (a.map .int)), .own ((o ++ signOctets x).map .int), .no]) (fun d => d = .lst ((allOctets a).map .int)) := fun {es} h => run_next ⟨_, .same (.same (.no .nil)), by rw [h, List.map_append]⟩
      refine run_ifD (by repeat' walk_at "ev") (fun h => ?_) (fun h => run_flat (run_ifD (by repeat' walk_at "ev") (fun h2 => ?_) (fun h2 => ?_)))
      · exact run_flat (run_appendV rfl (ev_dat rfl) (sz' (by rw [List.length_map]; omega)) (run_skip (fin (es := [x]) (by unfold signOctets; rw [if_pos h]))))
      · refine run_flat (run_freeze 1 rfl (run_setFV (ef_op (ev_dat rfl) (ev_lst (by repeat' walk_at "ev") (sz1 rfl)) (o_cat (sz (by rw [List.length_map]; simp; omega)))) ?_))
        exact run_skip (run_skip (fin (es := [192 + x / 64, 128 + x % 64]) (by unfold signOctets; rw [if_neg h, if_pos h2])))
      · refine run_flat (run_freeze 1 rfl (run_setFV (ef_op (ev_dat rfl) (ev_lst (by repeat' walk_at "ev") (sz1 rfl)) (o_cat (sz (by rw [List.length_map]; simp; omega)))) ?_))
        exact run_skip (run_skip (fin (es := [224 + x / 4096, 128 + x / 64 % 64, 128 + x % 64]) (by unfold signOctets; rw [if_neg h, if_neg h2])))
    · subst hr
      rw [List.length_map, List.take_length]
      exact run_freeze 1 rfl (run_retV (ev_dat rfl) rfl)⟩)
abbrev N__law_is_atom : List PySem.Str := ["_law_text", "_law_signs_here", "_law_sign"]
theorem sc__law_is_atom : FnScope N__law_is_atom ["_law_text"] (defScope s__law_is_atom) := ⟨rfl, rfl, rfl, by decide +kernel, rfl, by decide +kernel, by decide +kernel⟩
local macro_rules | `(tactic| walk_at "lit") => `(tactic| first
  | with_reducible exact ev_strL lit_21232426272a2b2d2e2f3d3f_81
  | with_reducible exact ev_strL lit_nil)
def lawAtomSigns : List Nat := "!#$&'*+-./=?^_`{|}~0123456789abcdefghijklmnopqrstuvwxyzABCDEFGHIJKLMNOPQRSTUVWXYZ".toList.map (·.toNat)
theorem lawAtom_iff : ∀ c : Nat, c < 128 → (decide (c ∈ lawAtomSigns) = decide (c ∈ l_ATOM_SIGNS)) := by decide +kernel
theorem lawAtom_lt : ∀ c ∈ lawAtomSigns, c < 128 := by decide +kernel
theorem atom_lt : ∀ c ∈ l_ATOM_SIGNS, c < 128 := by decide +kernel
theorem lawAtom_eq (c : Nat) : decide (c ∈ lawAtomSigns) = decide (c ∈ l_ATOM_SIGNS) := by
  by_cases h : c < 128
  · exact lawAtom_iff c h
  · rw [decide_eq_false (fun z => h (lawAtom_lt c z)), decide_eq_false (fun z => h (atom_lt c z))]
theorem lawAtom_lit : (Str.ofString "!#$&'*+-./=?^_`{|}~0123456789abcdefghijklmnopqrstuvwxyzABCDEFGHIJKLMNOPQRSTUVWXYZ").cps.toList = lawAtomSigns := by decide +kernel
theorem filter_strs (a : List Nat) (p : Nat → Bool) : D.ok 1 (.lst ((a.filter p).map fun c => .str [c])) = true ∨ True := .inr trivial
theorem c__law_is_atom (T : Tx K mg) : C8.Cal P w K mg base 1 "_law_is_atom" (spP (α := List Nat) (fun a => [.str a]) (fun a => a.length ≤ 100000 ∧ ∀ c ∈ a, c < 1114112) (fun a d => d = .bl (isAtom a))) [] :=
  cal_P T.d__law_is_atom sc__law_is_atom (fun _ => rfl) (by decide) (fun _ _ _ _ _ _ us hl => match us, hl with | [_], _ => rfl) (fun f cdv A outer s H E hr => ⟨_, (pss_cons (ps_set (i := 1) sc__law_is_atom.nd rfl (Or.inr rfl) pe_str)
    (pss_cons (ps_ret (pe_and (pe_cmpR op_ne (pv 0) pe_str (by rfl)) (pe_one (pe_cmpR (op_eqD hr.units) (pe_lc (own := [("_law_sign", 2)]) (g := gName 2) rfl sc__law_is_atom.nd (pi_str (pv 0)) (blkOk_by (own := [("_law_sign", 2)]) (N := N__law_is_atom) (sc := defScope s__law_is_atom) (by decide +kernel)) (fun _ _ _ _ _ => pg_name (i := 2) sc__law_is_atom.nd rfl (Or.inl rfl)) (fun _ _ _ _ _ => (pts_one (pt_cmpR op_notInS (pv 2) (pv 1) (by rfl)))) (fun _ _ _ _ _ => (pv 2))) (pe_lst pa_nil) (by rfl)))))
    pss_nil)), fun a ha => by
    show Dl.Run No _ [.dat (.str a), .no, .no] _ _
    refine run_set (ev_strL lawAtom_lit) ?_
    have hok : D.ok 1 (.lst ((a.filter fun c => !decide (c ∈ lawAtomSigns)).map fun c => .str [c])) = true := by
      show (((a.filter fun c => !decide (c ∈ lawAtomSigns)).map fun c => D.str [c]).all (D.ok 0)) = true
      rw [List.all_map, List.all_eq_true]
      intro c hc
      show ([c].all fun c => decide (c < 1114112)) = true
      rw [List.all_cons, List.all_nil, Bool.and_true]
      exact decide_eq_true (ha.2 c (List.mem_filter.mp hc).1)
    refine run_retV (ev_andV (by repeat' walk_at "ev") (fun _ => ev_op (EvF.v (ef_lcMF a (fun c => .str [c]) (fun c => !decide (c ∈ lawAtomSigns)) (fun c => .str [c]) (ei_str (ev_dat rfl)) (fun c _ => eb_B (ev_op (ev_dat rfl) (ev_dat rfl) o_ni1)) (fun c _ _ => ev_dat rfl) (sz (by omega)))) (ev_lst ea_nil (sz1 rfl)) (o_eqNil' hok (by decide)))) ?_
    refine congrArg D.bl ?_
    unfold isAtom
    congr 1
    have : (fun c => !decide (c ∈ lawAtomSigns)) = fun c => !decide (c ∈ l_ATOM_SIGNS) := by
      funext c
      rw [lawAtom_eq]
    rw [this]
    clear ha hok this
    induction a with
    | nil => rfl
    | cons c r ih =>
      rw [List.all_cons, List.filter_cons]
      by_cases h : c ∈ l_ATOM_SIGNS
      · simp [h] at ih ⊢
        exact ih
      · simp [h]⟩)
abbrev N__law_quoted : List PySem.Str := ["_law_text", "_law_sign"]
theorem sc__law_quoted : FnScope N__law_quoted ["_law_text"] (defScope s__law_quoted) := ⟨rfl, rfl, rfl, by decide +kernel, rfl, by decide +kernel, by decide +kernel⟩
local macro_rules | `(tactic| walk_at "lit") => `(tactic| first
  | with_reducible exact ev_strL lit_22
  | with_reducible exact ev_strL lit_nil
  | with_reducible exact ev_strL lit_5c
  | with_reducible exact ev_strL lit_225c)
theorem c__law_quoted (T : Tx K mg) : C8.Cal P w K mg base 1 "_law_quoted" (spP (α := List Nat) (fun a => [.str a]) (fun a => a.length ≤ 10000) (fun a d => d = .str (34 :: escQ a ++ [34]))) [] :=
  cal_P T.d__law_quoted sc__law_quoted (fun _ => rfl) (by decide) (fun _ _ _ _ _ _ us hl => match us, hl with | [_], _ => rfl) (fun f cdv A outer s H E hr => ⟨_, (pss_cons (ps_ret (pe_op op_addS (pe_op op_addS pe_str (pe_bm PySem.F.plainAttrs_str PySem.F.slot_str_join PySem.F.type_str_join m_join pe_str (pa_cons (pe_lc (own := [("_law_sign", 1)]) (g := gName 1) rfl sc__law_quoted.nd (pi_str (pv 0)) (blkOk_by (own := [("_law_sign", 1)]) (N := N__law_quoted) (sc := defScope s__law_quoted) (by decide +kernel)) (fun _ _ _ _ _ => pg_name (i := 1) sc__law_quoted.nd rfl (Or.inl rfl)) (fun _ _ _ _ _ => pts_nil) (fun _ _ _ _ _ => (pe_op op_addS (pe_op op_mulS pe_str (pe_callTy (T := "int") cl_int1 (by rfl) T.n_int (by decide +kernel) (pa_cons (pe_cmpR op_inS (pv 1) pe_str (by rfl)) pa_nil))) (pv 1)))) pa_nil))) pe_str))
    pss_nil), fun a ha => by
    show Dl.Run No _ [.dat (.str a), .no] _ _
    have hq := escQ_len a
    have hone : ∀ c : Nat, timesL [92] (if decide (c ∈ [34, 92]) = true then 1 else 0) ++ [c] = if c = 34 ∨ c = 92 then [92, c] else [c] := fun c => by
      by_cases h : c = 34 ∨ c = 92
      · rw [if_pos h, if_pos (by simp; exact h)]
        rfl
      · rw [if_neg h, if_neg (by simp; omega)]
        rfl
    have hfl : (a.map fun c => if c = 34 ∨ c = 92 then [92, c] else [c]).flatten = escQ a := by
      unfold escQ
      rw [List.flatMap_def]
    refine run_retV (d := .str ([34] ++ escQ a ++ [34])) (ev_op (ev_op (by repeat' walk_at "ev") (EvV.cast (ev_bm (ys := [.lst ((a.map fun c => if c = 34 ∨ c = 92 then [92, c] else [c]).map .str)]) (by repeat' walk_at "ev") (ea_cons (EvV.cast (EvF.v (ef_lcM a (fun c => .str [c]) (fun c => .str (if c = 34 ∨ c = 92 then [92, c] else [c])) (ei_str (ev_dat rfl)) (fun c hc => ?_) (sz (by omega)))) (by rw [List.map_map] <;> rfl)) ea_nil) (md_join ?_)) (by rw [joinL_nil, hfl])) (o_addS (sz (by simp; omega)))) (by repeat' walk_at "ev") (o_addS (sz (by simp; omega)))) rfl
    · refine EvV.cast (ev_op (y := .str [c]) (ev_op (y := .int (if decide (c ∈ [34, 92]) = true then 1 else 0)) (by repeat' walk_at "ev") (ev_cb (ea_cons (ev_op (ev_dat rfl) (ev_strL (l := [34, 92]) lit_225c) o_in1) ea_nil) cd_int) (o_mulS (by split <;> decide) (by split <;> decide) (by decide))) (ev_dat rfl) (o_addS ?_)) (by rw [hone c])
      refine sz ?_
      split <;> exact Nat.le_of_ble_eq_true rfl
    · rw [lens_flat, hfl, List.length_map]
      simp
      omega⟩)
abbrev N__law_plain : List PySem.Str := ["_law_text"]
theorem sc__law_plain : FnScope N__law_plain ["_law_text"] (defScope s__law_plain) := ⟨rfl, rfl, rfl, by decide +kernel, rfl, by decide +kernel, by decide +kernel⟩
theorem c__law_plain (T : Tx K mg) : C8.Cal P w K mg base 2 "_law_plain" (spP (α := List Nat) (fun a => [.str a]) (fun a => a.length ≤ 10000 ∧ ∀ c ∈ a, c < 1114112) (fun a d => d = .str (quotedIn a))) [] :=
  have c__law_is_atom := c__law_is_atom (P := P) (w := w) (base := base) T
  have c__law_quoted := c__law_quoted (P := P) (w := w) (base := base) T
  cal_P T.d__law_plain sc__law_plain (fun _ => rfl) (by decide) (fun _ _ _ _ _ _ us hl => match us, hl with | [_], _ => rfl) (fun f cdv A outer s H E hr => ⟨_, (pss_cons (ps_if (pt_val (C8.pe_c c__law_is_atom hr (by decide) rfl (pa_cons (pv 0) pa_nil)))
    (pss_cons (ps_ret (pv 0))
    pss_nil)
    pss_nil)
    (pss_cons (ps_ret (C8.pe_c c__law_quoted hr (by decide) rfl (pa_cons (pv 0) pa_nil)))
    pss_nil)), fun a ha => by
    show Dl.Run No _ [.dat (.str a)] _ _
    refine run_ifP (isAtom a = true) (eb_test (ed_call a (by repeat' walk_at "ev") ⟨by omega, ha.2⟩)) Bool.decide_eq_true.symm (fun h => ?_) (fun h => run_skip ?_)
    · refine run_flat (run_retV (ev_dat rfl) ?_)
      unfold quotedIn
      rw [if_pos h]
    · refine run_retV (ed_call a (by repeat' walk_at "ev") ha.1) ?_
      unfold quotedIn
      rw [if_neg h]⟩)
end
end Fk
namespace Fk
open PySem PySem.Spec PyProof.Rows L2 Dl Mr
local macro_rules | `(tactic| walk_at "ev") => `(tactic| first
  | (with_reducible apply ev_dat) <;> rfl
  | with_reducible apply ev_int
  | with_reducible apply ev_bl
  | with_reducible apply ev_non
  | walk_at "lit"
  | with_reducible apply ev_str
  | with_reducible apply eb_test
  | with_reducible apply eb_B
  | with_reducible apply ev_op
  | with_reducible apply o_add
  | with_reducible apply o_sub
  | with_reducible apply o_mul
  | with_reducible apply o_fdiv
  | with_reducible apply o_fdivW
  | with_reducible apply o_mod
  | with_reducible apply o_lt
  | with_reducible apply o_le
  | with_reducible apply o_gt
  | with_reducible apply o_ge
  | with_reducible apply o_eqI
  | with_reducible apply o_neI
  | with_reducible apply o_eqS
  | with_reducible apply o_neS
  | with_reducible apply o_neInts
  | with_reducible apply o_neNil
  | with_reducible apply o_eqNil
  | with_reducible apply o_eqInts
  | with_reducible apply o_addS
  | with_reducible apply o_in1
  | with_reducible apply o_ni1
  | with_reducible apply o_inS
  | with_reducible apply o_mulS
  | with_reducible apply ea_nil
  | with_reducible apply ea_cons
  | with_reducible apply ev_tup
  | with_reducible apply ev_lst
  | with_reducible apply eb_not
  | with_reducible apply eb_and
  | with_reducible apply eb_or
  | with_reducible apply ev_andV
  | with_reducible apply ev_orV
  | with_reducible apply ev_notV
  | with_reducible apply ev_chain
  | with_reducible apply ev_neg
  | with_reducible apply ev_slS
  | with_reducible apply ev_slL
  | with_reducible apply eo_none
  | with_reducible apply eo_some
  | with_reducible apply ev_cb
  | with_reducible apply cd_lenT
  | with_reducible apply cd_lenL
  | with_reducible apply cd_int
  | with_reducible apply cd_max
  | with_reducible apply cd_min
  | with_reducible apply ev_bm
  | with_reducible apply ev_bm0
  | with_reducible apply md_strip
  | with_reducible apply md_rstrip
  | with_reducible apply md_find
  | with_reducible apply md_index
  | with_reducible apply md_starts
  | with_reducible apply md_lower
  | with_reducible apply md_upper
  | with_reducible apply ei_str
  | with_reducible apply ei_list
  | with_reducible exact sz1 rfl
  | with_reducible exact Nat.le_of_ble_eq_true rfl
  | ((with_reducible apply cmulL) <;> decide)
  | ((with_reducible apply cmulR) <;> decide)
  | ((with_reducible apply cdiv) <;> decide)
  | ((with_reducible show (0 : Int) < _) <;> decide)
  | (with_reducible intro _hyp))

section
variable {P : Program} {w : World} {K : PySem.W.Frag} {mg : PySem.Str → Option Value} {base : Heap}
abbrev N__law_coded_word : List PySem.Str := ["_law_saying_here", "_law_sort", "_law_six", "_law_octets_here", "_law_found", "_law_one_here", "_law_sign", "_law_at", "_law_some", "_law_whole", "_law_many", "_law_shares", "_law_part"]
theorem sc__law_coded_word : FnScope N__law_coded_word ["_law_saying_here", "_law_sort"] (defScope s__law_coded_word) := ⟨rfl, rfl, rfl, by decide +kernel, rfl, by decide +kernel, by decide +kernel⟩
local macro_rules | `(tactic| walk_at "lit") => `(tactic| first
  | with_reducible exact ev_strL lit_4142434445464748494a4b4c_64
  | with_reducible exact ev_strL lit_nil
  | with_reducible exact ev_strL lit_6d
  | with_reducible exact ev_strL lit_3f3d
  | with_reducible exact ev_strL lit_3d
  | with_reducible exact ev_strL lit_3f
  | with_reducible exact ev_strL lit_3d3f
  | with_reducible exact ev_strL lit_30313233343536373839414243444546
  | with_reducible exact ev_strL lit_5f)
def lawSign (k : Nat) : Nat := l_SIGNS.getD (k - 32 - (if k > 37 then 1 else 0)) 0
theorem lawSign_at : ∀ k : Nat, k < 127 → 32 ≤ k → atI l_SIGNS ((k : Int) - 32 - (if decide ((37 : Int) < (k : Int)) = true then 1 else 0)) = some (lawSign k) := by decide +kernel
def six62 : List Nat := l_SIX.take 62
def lawC (k : Nat) : Nat := if 32 ≤ k ∧ k < 127 then lawSign k else 61
theorem law_mark : ∀ k : Nat, k < 256 → (if k = 32 then [95] else if lawC k ∈ six62 then [lawC k] else twoFigures (k : Int)) = markOf (k : Int) := by decide +kernel
theorem sixGroup_eq (g : List Int) : sixGroup g = (([sixNum g / 262144, sixNum g / 4096 % 64, sixNum g / 64 % 64, sixNum g % 64].take (g.length + 1)).map sixCh) ++ List.replicate (3 - g.length) 61 := rfl
theorem c__law_coded_word (T : Tx K mg) : C8.Cal P w K mg base 2 "_law_coded_word" (spP (α := List Int × Nat) (fun a => [.lst (a.1.map .int), .str [a.2]]) (fun a => a.1.length ≤ 2500 ∧ (∀ n ∈ a.1, 0 ≤ n ∧ n ≤ 65535) ∧ isSort a.2) (fun a d => d = .str (codedWord (allOctets a.1) a.2))) [] :=
  have c__law_octets := c__law_octets (P := P) (w := w) (base := base) T
  have c__law_table := c__law_table (P := P) (w := w) (base := base) T
  cal_P T.d__law_coded_word sc__law_coded_word (fun _ => rfl) (by decide) (fun _ _ _ _ _ _ us hl => match us, hl with | [_, _], _ => rfl) (fun f cdv A outer s H E hr => ⟨_, (pss_cons (ps_set (i := 2) sc__law_coded_word.nd rfl (Or.inr rfl) pe_str)
    (pss_cons (ps_set (i := 3) sc__law_coded_word.nd rfl (Or.inl rfl) (C8.pe_c c__law_octets hr (by decide) rfl (pa_cons (pv 0) pa_nil)))
    (pss_cons (ps_set (i := 4) sc__law_coded_word.nd rfl (Or.inl rfl) pe_str)
    (pss_cons (ps_if (pt_cmpR op_eq (pv 1) pe_str (by rfl))
    (pss_cons (ps_for PassesOwn.never rfl (pi_list (pv 3)) (pg_name (i := 5) sc__law_coded_word.nd rfl (Or.inl rfl))
    (pss_cons (ps_set (i := 6) sc__law_coded_word.nd rfl (Or.inl rfl) (pe_ifExp (pt_chain op_le op_lt pe_int (pv 5) pe_int) (pe_ix ix_str (C8.pe_c0 c__law_table hr (by decide) rfl) (pe_op op_sub (pe_op op_sub (pv 5) pe_int) (pe_callTy (T := "int") cl_int1 (by rfl) T.n_int (by decide +kernel) (pa_cons (pe_cmpR op_gt (pv 5) pe_int (by rfl)) pa_nil))) (fun _ _ => rfl)) pe_str))
    (pss_cons (ps_if (PW.pt (pw_and (pt_cmpR op_ne (pv 5) pe_int (by rfl)) (pw_and1 (pt_cmpR op_notInS (pv 6) (pe_slice sl_str (pv 2) po_none (po_some pe_int)) (by rfl)))))
    (pss_cons (ps_set (i := 6) sc__law_coded_word.nd rfl (Or.inl rfl) (pe_op op_addS (pe_op op_addS pe_str (pe_ix ix_str pe_str (pe_op op_fdiv (pv 5) pe_int) (fun _ _ => rfl))) (pe_ix ix_str pe_str (pe_op op_mod (pv 5) pe_int) (fun _ _ => rfl))))
    pss_nil)
    pss_nil)
    (pss_cons (ps_set (i := 4) sc__law_coded_word.nd rfl (Or.inl rfl) (pe_op op_addS (pv 4) (pe_ix ix_list (pe_lst (pa_cons (pv 6) (pa_cons pe_str pa_nil))) (pe_callTy (T := "int") cl_int1 (by rfl) T.n_int (by decide +kernel) (pa_cons (pe_cmpR op_eq (pv 5) pe_int (by rfl)) pa_nil)) (fun _ _ => rfl))))
    pss_nil))))
    pss_nil)
    (pss_cons (ps_for PassesOwn.never rfl (pi_range3 (by rfl) T.n_range (pa_cons pe_int (pa_cons (pe_callB cl_lenL (by rfl) T.n_len boot_len (pa_cons (pv 3) pa_nil)) (pa_cons pe_int pa_nil)))) (pg_name (i := 7) sc__law_coded_word.nd rfl (Or.inl rfl))
    (pss_cons (ps_set (i := 8) sc__law_coded_word.nd rfl (Or.inl rfl) (pe_slice sl_list (pe_op op_cat (pe_slice sl_list (pv 3) (po_some (pv 7)) (po_some (pe_op op_add (pv 7) pe_int))) (pe_lst (pa_cons pe_int (pa_cons pe_int pa_nil)))) po_none (po_some pe_int)))
    (pss_cons (ps_set (i := 9) sc__law_coded_word.nd rfl (Or.inl rfl) (pe_op op_add (pe_op op_add (pe_op op_mul (pe_ix ix_list (pv 8) pe_int (fun _ _ => rfl)) pe_int) (pe_op op_mul (pe_ix ix_list (pv 8) pe_int (fun _ _ => rfl)) pe_int)) (pe_ix ix_list (pv 8) pe_int (fun _ _ => rfl))))
    (pss_cons (ps_set (i := 10) sc__law_coded_word.nd rfl (Or.inl rfl) (pe_callB (id := "min") (cl_min2 rfl) (by rfl) T.n_min (by decide +kernel) (pa_cons pe_int (pa_cons (pe_op op_sub (pe_callB cl_lenL (by rfl) T.n_len boot_len (pa_cons (pv 3) pa_nil)) (pv 7)) pa_nil))))
    (pss_cons (ps_set (i := 11) sc__law_coded_word.nd rfl (Or.inl rfl) (pe_slice sl_list (pe_lst (pa_cons (pe_op op_fdiv (pv 9) pe_int) (pa_cons (pe_op op_mod (pe_op op_fdiv (pv 9) pe_int) pe_int) (pa_cons (pe_op op_mod (pe_op op_fdiv (pv 9) pe_int) pe_int) (pa_cons (pe_op op_mod (pv 9) pe_int) pa_nil))))) po_none (po_some (pe_op op_add (pv 10) pe_int))))
    (pss_cons (ps_set (i := 4) sc__law_coded_word.nd rfl (Or.inl rfl) (pe_op op_addS (pe_op op_addS (pv 4) (pe_bm PySem.F.plainAttrs_str PySem.F.slot_str_join PySem.F.type_str_join m_join pe_str (pa_cons (pe_lc (own := [("_law_part", 12)]) (g := gName 12) rfl sc__law_coded_word.nd (pi_list (pv 11)) (blkOk_by (own := [("_law_part", 12)]) (N := N__law_coded_word) (sc := defScope s__law_coded_word) (by decide +kernel)) (fun _ _ _ _ _ => pg_name (i := 12) sc__law_coded_word.nd rfl (Or.inl rfl)) (fun _ _ _ _ _ => pts_nil) (fun _ _ _ _ _ => (pe_ix ix_str (pv 2) (pv 12) (fun _ _ => rfl)))) pa_nil))) (pe_op op_mulS pe_str (pe_op op_sub pe_int (pv 10)))))
    pss_nil))))))
    pss_nil))
    (pss_cons (ps_ret (pe_op op_addS (pe_op op_addS (pe_op op_addS (pe_op op_addS pe_str (pv 1)) pe_str) (pv 4)) pe_str))
    pss_nil))))), fun a ha => by
    obtain ⟨s, c⟩ := a
    obtain ⟨hl, hr0, hc⟩ := ha
    simp only at hl hr0 hc
    show Dl.Run No _ [.dat (.lst (s.map .int)), .dat (.str [c]), .no, .no, .no, .no, .no, .no, .no, .no, .no, .no, .no] _ _
    refine run_set (d := .str l_SIX) (ev_strL l_SIX_eq) ?_
    refine run_set (ed_call s (by repeat' walk_at "ev") (by omega)) ?_
    have hob : ∀ o ∈ allOctets s, 0 ≤ o ∧ o < 256 := fun o ho => by
      obtain ⟨n, hn, ho⟩ := List.mem_flatMap.mp ho
      exact (octs_signOctets (hr0 n hn)).2 o ho
    have hol := allOctets_len (s := s)
    have hoct : octs (allOctets s) := ⟨by omega, hob⟩
    generalize allOctets s = os at hob hol hoct
    refine run_set (by repeat' walk_at "ev") ?_
    have hcw := codedWord_len os c
    show Dl.Run No _ [.dat (.lst (s.map .int)), .dat (.str [c]), .dat (.str l_SIX), .dat (.lst (os.map .int)), .dat (.str []), .no, .no, .no, .no, .no, .no, .no, .no] _ _
    have fin : ∀ q : List Nat, q = (if c = 115 then sixBits os else Mr.marked os) → ∀ r, Le r [.dat (.lst (s.map .int)), .dat (.str [c]), .dat (.str l_SIX), .dat (.lst (os.map .int)), .dat (.str q), .no, .no, .no, .no, .no, .no, .no, .no] → Dl.Run No (tSeq (tRet (tOp Dl.rAddS (tOp Dl.rAddS (tOp Dl.rAddS (tOp Dl.rAddS (tC (.str "=?")) (tVar 1)) (tC (.str "?"))) (tVar 4)) (tC (.str "?=")))) tNext) r (fun _ => False) (fun d => d = .str (codedWord os c)) := fun q hq r hr => by
      have hql : q.length ≤ 200000 := by
        rw [hq]
        have h1 := sixBits_len os
        have h2 := marked_len os
        split <;> omega
      refine run_weak hr (run_retV (by
        repeat' walk_at "ev"
        all_goals first | exact sz (by simp; omega) | skip) ?_)
      unfold codedWord
      rw [hq]
    refine run_ifP (c = 109) (by repeat' walk_at "ev") (decI (by simp)) (fun hcm => run_flat ?_) (fun hcm => run_flat ?_)
    · refine run_for (fun k r => r = [.dat (.lst (s.map .int)), .dat (.str [c]), .dat (.str l_SIX), .dat (.lst (os.map .int)), .dat (.str (Mr.marked (os.take k))), .no, .no, .no, .no, .no, .no, .no, .no]) (ei_list (ev_dat rfl)) ⟨_, Le.refl _, rfl⟩ (fun k d r hd hr => ?_) (fun r hr => ?_)
      · obtain ⟨x, hx, rfl⟩ := map_get hd
        subst hr
        refine ⟨_, tg_name, ?_⟩
        have hxr := hob x (List.mem_of_getElem? hx)
        have e1 : Mr.marked (os.take (k + 1)) = Mr.marked (os.take k) ++ markOf x := by
          rw [take_next hx]
          simp [Mr.marked]
        have hml : (Mr.marked (os.take k)).length ≤ 30000 := by
          have := marked_len (os.take k)
          rw [List.length_take] at this
          omega
        rw [e1]
        generalize Mr.marked (os.take k) = m at hml
        obtain ⟨xn, rfl⟩ : ∃ xn : Nat, x = (xn : Int) := ⟨x.toNat, by omega⟩
        have hxn : xn < 256 := by omega
        rw [← law_mark xn hxn]
        show Dl.Run No _ [.dat (.lst (s.map .int)), .dat (.str [c]), .dat (.str l_SIX), .dat (.lst (os.map .int)), .dat (.str m), .dat (.int (xn : Int)), .no, .no, .no, .no, .no, .no, .no] _ _
        refine run_set (d := .str [lawC xn]) (ed_if (b := decide (32 ≤ xn ∧ xn < 127)) (EvB.cast (eb_B (ev_chain ev_int (ev_dat rfl) o_le (fun _ => ev_int) (fun _ => o_lt))) (by rw [Bool.decide_and]; exact congr (congrArg _ (decI (by omega))) (decI (by omega)))) (fun h => ?_) (fun h => ?_)) ?_
        · have h2 := of_decide_eq_true h
          refine EvV.cast (ev_op (ed_call () ea_nil trivial) (by repeat' walk_at "ev") (o_ixS (lawSign_at xn h2.2 h2.1) (sz1 rfl))) ?_
          unfold lawC
          rw [if_pos h2]
        · refine EvV.cast (by repeat' walk_at "ev") ?_
          unfold lawC
          rw [if_neg (of_decide_eq_false h)]
        show Dl.Run No _ [.dat (.lst (s.map .int)), .dat (.str [c]), .dat (.str l_SIX), .dat (.lst (os.map .int)), .dat (.str m), .dat (.int (xn : Int)), .dat (.str [lawC xn]), .no, .no, .no, .no, .no, .no] _ _
        have lst : ∀ q : List Nat, (xn ≠ 32 → q = if lawC xn ∈ six62 then [lawC xn] else twoFigures (xn : Int)) → q.length ≤ 3 → Dl.Run No (tSeq (tAsg (tOp Dl.rAddS (tVar 4) (tOp (rIxL K) (tLst (tCons (tVar 6) (tCons (tC (.str "_")) tNil))) (tCB rInt1 (tCons (tOp rEq (tVar 5) (tC (.int 32))) tNil)))) (gName 4)) tNext) [.dat (.lst (s.map .int)), .dat (.str [c]), .dat (.str l_SIX), .dat (.lst (os.map .int)), .dat (.str m), .dat (.int (xn : Int)), .dat (.str q), .no, .no, .no, .no, .no, .no] (fun r3 => ∃ r4, Le r3 r4 ∧ r4 = [.dat (.lst (s.map .int)), .dat (.str [c]), .dat (.str l_SIX), .dat (.lst (os.map .int)), .dat (.str (m ++ (if xn = 32 then [95] else if lawC xn ∈ six62 then [lawC xn] else twoFigures (xn : Int)))), .no, .no, .no, .no, .no, .no, .no, .no]) (fun d => d = .str (codedWord os c)) := fun q hq hql => by
          refine run_set (d := .str (m ++ (if xn = 32 then [95] else if lawC xn ∈ six62 then [lawC xn] else twoFigures (xn : Int)))) ?_ (run_next ⟨_, .same (.same (.same (.same (.same (.no (.no (.no (.no (.no (.no (.no (.no .nil)))))))))))), rfl⟩)
          by_cases h32 : xn = 32
          · rw [if_pos h32]
            exact ev_op (ev_dat rfl) (ev_op (x := .lst [.str q, .str [95]]) (ev_lst (ea_cons (ev_dat rfl) (ea_cons (ev_strL lit_5f) ea_nil)) (sz1 rfl)) (ev_cb (ea_cons (EvV.cast (ev_op (ev_dat rfl) ev_int o_eqI) (by rw [decide_eq_true (by omega)])) ea_nil) cd_int) (o_ixL rfl)) (o_addS (sz (by simp; omega)))
          · rw [if_neg h32, ← hq h32]
            exact ev_op (ev_dat rfl) (ev_op (x := .lst [.str q, .str [95]]) (ev_lst (ea_cons (ev_dat rfl) (ea_cons (ev_strL lit_5f) ea_nil)) (sz1 rfl)) (ev_cb (ea_cons (EvV.cast (ev_op (ev_dat rfl) ev_int o_eqI) (by rw [decide_eq_false (by omega)])) ea_nil) cd_int) (o_ixL rfl)) (o_addS (sz (by omega)))
        refine run_ifP (xn ≠ 32 ∧ lawC xn ∉ six62) (bb := !decide (xn = 32) && !decide (lawC xn ∈ six62)) (eb_and (EvB.cast (eb_B (ev_op (ev_dat rfl) ev_int o_neI)) (by rw [decI (p := ((xn : Int) = 32)) (q := (xn = 32)) (by omega)])) (fun _ => eb_B (ev_op (ev_dat rfl) (EvV.cast (ev_slS (ev_dat rfl) eo_none (eo_some ev_int) (sz1 rfl)) (by exact congrArg D.str (cut_to l_SIX 62))) o_ni1))) ?_ (fun h => ?_) (fun h => ?_)
        · by_cases h1 : xn = 32 <;> by_cases h2 : lawC xn ∈ six62 <;> simp [h1, h2]
        · refine run_flat (run_set (d := .str (twoFigures (xn : Int))) (EvV.cast (ev_op (ev_op (ev_strL lit_3d) (ev_op (ev_strL l_SIXTEEN_eq) (ev_op (ev_dat rfl) ev_int (o_fdiv (cdiv (by decide)))) (o_ixS (hexAt (by omega) (by omega)) (sz1 rfl))) (o_addS (sz1 rfl))) (ev_op (ev_strL l_SIXTEEN_eq) (ev_op (ev_dat rfl) ev_int (o_mod (by decide))) (o_ixS (hexAt (by omega) (by omega)) (sz1 rfl))) (o_addS (sz1 rfl))) (by rfl)) (run_skip (lst _ (fun _ => ?_) (by simp [twoFigures]))))
          rw [if_neg h.2]
        · refine run_skip (lst _ (fun h1 => ?_) (by simp))
          rw [if_pos (Classical.not_not.mp fun z => h ⟨h1, z⟩)]
      · subst hr
        rw [List.length_map, List.take_length]
        exact run_skip (fin _ (by rw [if_neg (by omega)]) _ (Le.refl _))
    · have hc1 : c = 115 := by
        rcases hc with h | h
        · exact h
        · exact absurd h hcm
      have hlen : ((os.map D.int).length : Int) = (os.length : Int) := by rw [List.length_map]
      refine run_for (fun k r => r = [.dat (.lst (s.map .int)), .dat (.str [c]), .dat (.str l_SIX), .dat (.lst (os.map .int)), .dat (.str (sixPre os k)), .no, .no, .no, .no, .no, .no, .no, .no]) (ei_rng3 ev_int (EvV.cast (by repeat' walk_at "ev") (congrArg D.int hlen)) ev_int (rgC3 (c := 3) (by decide) (by decide) (by omega))) ⟨_, Le.refl _, rfl⟩ (fun k d r hd hr => ?_) (fun r hr => ?_)
      · obtain ⟨hk, rfl⟩ := rg_get hd
        subst hr
        have eat : (0 + (k : Int) * 3) = ((3 * k : Nat) : Int) := by omega
        have eat3 : ((3 * k : Nat) : Int) + 3 = ((3 * k + 3 : Nat) : Int) := by omega
        rw [eat]
        refine ⟨_, tg_name, ?_⟩
        show Dl.Run No _ [.dat (.lst (s.map .int)), .dat (.str [c]), .dat (.str l_SIX), .dat (.lst (os.map .int)), .dat (.str (sixPre os k)), .no, .no, .dat (.int ((3 * k : Nat) : Int)), .no, .no, .no, .no, .no] _ _
        have epre : sixPre os (k + 1) = sixPre os k ++ sixGroup ((os.drop (3 * k)).take 3) := by
          unfold sixPre
          rw [List.range_succ, List.flatMap_append, List.flatMap_cons, List.flatMap_nil, List.append_nil]
        have hpre := sixPre_len os k
        rw [epre]
        generalize sixPre os k = pr at hpre
        have hmany : (os.length : Int) - ((3 * k : Nat) : Int) = ((os.length - 3 * k : Nat) : Int) := by omega
        have hgl0 : ((os.drop (3 * k)).take 3).length = min 3 (os.length - 3 * k) := by rw [List.length_take, List.length_drop]
        generalize hg : (os.drop (3 * k)).take 3 = g at hgl0
        have hgl : 1 ≤ g.length ∧ g.length ≤ 3 := by omega
        have hgo : ∀ o ∈ g, 0 ≤ o ∧ o < 256 := fun o ho => hob o (List.mem_of_mem_drop (List.mem_of_mem_take (hg ▸ ho)))
        have hgg : ∀ i, 0 ≤ g.getD i 0 ∧ g.getD i 0 < 256 := fun i => by
          rw [List.getD_eq_getElem?_getD]
          cases e : g[i]? with
          | none => exact ⟨by decide, by decide⟩
          | some x => exact hgo x (List.mem_of_getElem? e)
        have hn : 0 ≤ sixNum g ∧ sixNum g < 16777216 := by
          have h0 := hgg 0
          have h1 := hgg 1
          have h2 := hgg 2
          unfold sixNum
          omega
        have hpad : (g ++ [0, 0]).take 3 = [g.getD 0 0, g.getD 1 0, g.getD 2 0] := by
          match g, hgl with
          | [x], _ => rfl
          | [x, y], _ => rfl
          | [x, y, z], _ => rfl
          | [], h => exact absurd h.1 (by decide)
          | _ :: _ :: _ :: _ :: _, h => exact absurd h.2 (by simp)
        refine run_set (d := .lst [.int (g.getD 0 0), .int (g.getD 1 0), .int (g.getD 2 0)]) (EvV.cast (ev_slL (EvF.v (ef_op (x := .lst (g.map .int)) (EvV.cast (ev_slL (ev_dat rfl) (eo_some (ev_dat rfl)) (eo_some (ev_op (ev_dat rfl) ev_int o_add))) (by rw [eat3, cut_map, cut_mid, Nat.add_sub_cancel_left, hg])) (ev_lst (ea_cons ev_int (ea_cons ev_int ea_nil)) (sz1 rfl)) (o_cat (sz (by rw [List.length_map]; simp; omega))))) eo_none (eo_some ev_int)) (by
          have e : g.map D.int ++ [.int 0, .int 0] = (g ++ [0, 0]).map D.int := by rw [List.map_append] <;> rfl
          rw [e, cut_map, show (3 : Int) = ((3 : Nat) : Int) from rfl, cut_to, hpad] <;> rfl)) ?_
        show Dl.Run No _ [.dat (.lst (s.map .int)), .dat (.str [c]), .dat (.str l_SIX), .dat (.lst (os.map .int)), .dat (.str pr), .no, .no, .dat (.int ((3 * k : Nat) : Int)), .dat (.lst [.int (g.getD 0 0), .int (g.getD 1 0), .int (g.getD 2 0)]), .no, .no, .no, .no] _ _
        refine run_set (d := .int (sixNum g)) (EvV.cast (ev_op (ev_op (ev_op (ev_op (ev_dat rfl) ev_int (o_ixL (z := .int (g.getD 0 0)) rfl)) ev_int (o_mul (cmulR (by decide)))) (ev_op (ev_op (ev_dat rfl) ev_int (o_ixL (z := .int (g.getD 1 0)) rfl)) ev_int (o_mul (cmulR (by decide)))) o_add) (ev_op (ev_dat rfl) ev_int (o_ixL (z := .int (g.getD 2 0)) rfl)) o_add) (by unfold sixNum; congr 1; omega)) ?_
        refine run_set (d := .int (g.length : Int)) (EvV.cast (by repeat' walk_at "ev") (by rw [hlen, hmany]; congr 1; split <;> omega)) ?_
        refine run_set (d := .lst (([sixNum g / 262144, sixNum g / 4096 % 64, sixNum g / 64 % 64, sixNum g % 64].take (g.length + 1)).map .int)) (EvV.cast (ev_slL (ev_lst (by repeat' walk_at "ev") (sz1 rfl)) eo_none (eo_some (ev_op (ev_dat rfl) ev_int o_add))) (by
          rw [show ((g.length : Int) + 1) = ((g.length + 1 : Nat) : Int) by omega, cut_to, List.map_take] <;> rfl)) ?_
        rw [sixGroup_eq]
        have hall : ∀ p ∈ [sixNum g / 262144, sixNum g / 4096 % 64, sixNum g / 64 % 64, sixNum g % 64], 0 ≤ p ∧ p < 64 := by
          intro p hp
          simp only [List.mem_cons, List.not_mem_nil, or_false] at hp
          omega
        have hshl : ([sixNum g / 262144, sixNum g / 4096 % 64, sixNum g / 64 % 64, sixNum g % 64].take (g.length + 1)).length ≤ 4 := by rw [List.length_take]; simp; omega
        have hall2 : ∀ p ∈ [sixNum g / 262144, sixNum g / 4096 % 64, sixNum g / 64 % 64, sixNum g % 64].take (g.length + 1), 0 ≤ p ∧ p < 64 := fun p hp => hall p (List.mem_of_mem_take hp)
        generalize [sixNum g / 262144, sixNum g / 4096 % 64, sixNum g / 64 % 64, sixNum g % 64].take (g.length + 1) = sh at hshl hall2
        show Dl.Run No _ [.dat (.lst (s.map .int)), .dat (.str [c]), .dat (.str l_SIX), .dat (.lst (os.map .int)), .dat (.str pr), .no, .no, .dat (.int ((3 * k : Nat) : Int)), .dat (.lst [.int (g.getD 0 0), .int (g.getD 1 0), .int (g.getD 2 0)]), .dat (.int (sixNum g)), .dat (.int (g.length : Int)), .dat (.lst (sh.map .int)), .no] _ _
        refine run_set (d := .str (pr ++ (sh.map sixCh ++ List.replicate (3 - g.length) 61))) (EvV.cast (ev_op (ev_op (ev_dat rfl) (EvV.cast (y := .str (sh.map sixCh)) (ev_bm (ys := [.lst ((sh.map fun p => [sixCh p]).map .str)]) (by repeat' walk_at "ev") (ea_cons (EvV.cast (EvF.v (ef_lcM sh .int (fun p => .str [sixCh p]) (ei_list (ev_dat rfl)) (fun p hp => ev_op (ev_dat rfl) (ev_dat rfl) (o_ixS (sixAt (hall2 p hp).1 (hall2 p hp).2) (sz1 rfl))) (sz (by omega)))) (by rw [List.map_map] <;> rfl)) ea_nil) (md_join (by rw [lens_one]; simp; omega))) (by rw [join_one])) (o_addS (sz (by rw [List.length_map]; omega)))) (ev_op (y := .int (3 - (g.length : Int))) (by repeat' walk_at "ev") (by repeat' walk_at "ev") (o_mulS (by omega) (by omega) (by decide))) (o_addS ?_)) ?_) (run_next ⟨_, .same (.same (.same (.same (.same (.no (.no (.no (.no (.no (.no (.no (.no .nil)))))))))))), rfl⟩)
        · unfold timesL
          rw [Dl.flat_rep, List.length_append, List.length_map, List.length_replicate]
          exact sz (by omega)
        · unfold timesL
          rw [Dl.flat_rep, show (3 - (g.length : Int)).toNat = 3 - g.length by omega, List.append_assoc]
      · subst hr
        rw [rg_len]
        exact run_skip (fin _ (by rw [if_pos hc1] <;> rfl) _ (Le.refl _))⟩)
end
end Fk
namespace Fk
open PySem PySem.Spec PyProof.Rows L2 Dl Mr
local macro_rules | `(tactic| walk_at "ev") => `(tactic| first
  | (with_reducible apply ev_dat) <;> rfl
  | with_reducible apply ev_int
  | with_reducible apply ev_bl
  | with_reducible apply ev_non
  | walk_at "lit"
  | with_reducible apply ev_str
  | with_reducible apply eb_test
  | with_reducible apply eb_B
  | with_reducible apply ev_op
  | with_reducible apply o_add
  | with_reducible apply o_sub
  | with_reducible apply o_mul
  | with_reducible apply o_fdiv
  | with_reducible apply o_fdivW
  | with_reducible apply o_mod
  | with_reducible apply o_lt
  | with_reducible apply o_le
  | with_reducible apply o_gt
  | with_reducible apply o_ge
  | with_reducible apply o_eqI
  | with_reducible apply o_neI
  | with_reducible apply o_eqS
  | with_reducible apply o_neS
  | with_reducible apply o_neInts
  | with_reducible apply o_neNil
  | with_reducible apply o_eqNil
  | with_reducible apply o_eqInts
  | with_reducible apply o_addS
  | with_reducible apply o_in1
  | with_reducible apply o_ni1
  | with_reducible apply o_inS
  | with_reducible apply o_mulS
  | with_reducible apply ea_nil
  | with_reducible apply ea_cons
  | with_reducible apply ev_tup
  | with_reducible apply ev_lst
  | with_reducible apply eb_not
  | with_reducible apply eb_and
  | with_reducible apply eb_or
  | with_reducible apply ev_andV
  | with_reducible apply ev_orV
  | with_reducible apply ev_notV
  | with_reducible apply ev_chain
  | with_reducible apply ev_neg
  | with_reducible apply ev_slS
  | with_reducible apply ev_slL
  | with_reducible apply eo_none
  | with_reducible apply eo_some
  | with_reducible apply ev_cb
  | with_reducible apply cd_lenT
  | with_reducible apply cd_lenL
  | with_reducible apply cd_int
  | with_reducible apply cd_max
  | with_reducible apply cd_min
  | with_reducible apply ev_bm
  | with_reducible apply ev_bm0
  | with_reducible apply md_strip
  | with_reducible apply md_rstrip
  | with_reducible apply md_find
  | with_reducible apply md_index
  | with_reducible apply md_starts
  | with_reducible apply md_lower
  | with_reducible apply md_upper
  | with_reducible apply ei_str
  | with_reducible apply ei_list
  | with_reducible exact sz1 rfl
  | with_reducible exact Nat.le_of_ble_eq_true rfl
  | ((with_reducible apply cmulL) <;> decide)
  | ((with_reducible apply cmulR) <;> decide)
  | ((with_reducible apply cdiv) <;> decide)
  | ((with_reducible show (0 : Int) < _) <;> decide)
  | (with_reducible intro _hyp))

section
variable {P : Program} {w : World} {K : PySem.W.Frag} {mg : PySem.Str → Option Value} {base : Heap}
theorem getD_get {l : List Nat} {k : Nat} (h : k < l.length) : l[k]? = some (l.getD k 0) := by rw [List.getD_eq_getElem?_getD, List.getElem?_eq_getElem h] <;> rfl
/-- one more sign, or two behind a backslash -/
def stp (c : Nat) : Nat := if c = 92 then 2 else 1
abbrev N__law_remark_end : List PySem.Str := ["_law_value", "_law_at", "_law_deep"]
theorem sc__law_remark_end : FnScope N__law_remark_end ["_law_value", "_law_at"] (defScope s__law_remark_end) := ⟨rfl, rfl, rfl, by decide +kernel, rfl, by decide +kernel, by decide +kernel⟩
local macro_rules | `(tactic| walk_at "lit") => `(tactic| first
  | with_reducible exact ev_strL lit_29
  | with_reducible exact ev_strL lit_5c
  | with_reducible exact ev_strL lit_28)
theorem c__law_remark_end (T : Tx K mg) : C8.Cal P w K mg base 1 "_law_remark_end" (spP (α := List Nat × Nat × Nat) (fun a => [.str a.1, .int (a.2.1 : Int)]) (fun a => a.1.length ≤ 900000 ∧ a.1[a.2.1]? = some 40 ∧ rm 1 (a.1.drop (a.2.1 + 1)) = some a.2.2) (fun a d => d = .int ((a.2.1 + 1 + a.2.2 : Nat) : Int))) [] :=
  cal_P T.d__law_remark_end sc__law_remark_end (fun _ => rfl) (by decide) (fun _ _ _ _ _ _ us hl => match us, hl with | [_, _], _ => rfl) (fun f cdv A outer s H E hr => ⟨_, (pss_cons (ps_set (i := 2) sc__law_remark_end.nd rfl (Or.inl rfl) pe_int)
    (pss_cons (ps_while PassesOwn.never (pt_cmpR op_lt (pv 1) (pe_callB cl_lenT (by rfl) T.n_len boot_len (pa_cons (pv 0) pa_nil)) (by rfl))
    (pss_cons (ps_set (i := 2) sc__law_remark_end.nd rfl (Or.inl rfl) (pe_op op_sub (pe_op op_add (pv 2) (pe_callTy (T := "int") cl_int1 (by rfl) T.n_int (by decide +kernel) (pa_cons (pe_cmpR op_eq (pe_ix ix_str (pv 0) (pv 1) (fun _ _ => rfl)) pe_str (by rfl)) pa_nil))) (pe_callTy (T := "int") cl_int1 (by rfl) T.n_int (by decide +kernel) (pa_cons (pe_cmpR op_eq (pe_ix ix_str (pv 0) (pv 1) (fun _ _ => rfl)) pe_str (by rfl)) pa_nil))))
    (pss_cons (ps_set (i := 1) sc__law_remark_end.nd rfl (Or.inl rfl) (pe_op op_add (pe_op op_add (pv 1) pe_int) (pe_callTy (T := "int") cl_int1 (by rfl) T.n_int (by decide +kernel) (pa_cons (pe_cmpR op_eq (pe_ix ix_str (pv 0) (pv 1) (fun _ _ => rfl)) pe_str (by rfl)) pa_nil))))
    (pss_cons (ps_if (pt_cmpR op_eq (pv 2) pe_int (by rfl))
    (pss_cons (ps_ret (pv 1))
    pss_nil)
    pss_nil)
    pss_nil))))
    (pss_cons (ps_ret pe_non)
    pss_nil))), fun a ha => by
    obtain ⟨l, b, n⟩ := a
    obtain ⟨hl, h40, hq⟩ := ha
    simp only at hl hq h40
    show Dl.Run No _ [.dat (.str l), .dat (.int (b : Int)), .no] _ _
    have hb := (List.getElem?_eq_some_iff.mp h40).1
    refine run_set ev_int ?_
    refine run_while (α := Nat × Nat) (fun x => [.dat (.str l), .dat (.int (x.1 : Int)), .dat (.int (x.2 : Int))]) (fun x => (x.1 = b ∧ x.2 = 0) ∨ (1 ≤ x.2 ∧ ∃ n', rm x.2 (l.drop x.1) = some n' ∧ x.1 + n' = b + 1 + n)) (fun x => l.length - x.1) (fun x => true) (b, 0) (Le.refl _) (.inl ⟨rfl, rfl⟩) (fun x hx => ?_) (fun x hx h => ?_) (fun x hx h => by cases h)
    · refine EvB.cast (by
        repeat' walk_at "ev"
        exact sz (by omega)) (decide_eq_true ?_)
      rcases hx with ⟨e, _⟩ | ⟨_, n', e, _⟩
      · omega
      · have := rm_le _ _ _ (Nat.le_refl _) n' e
        rw [List.length_drop] at this
        omega
    · obtain ⟨k, d⟩ := x
      have hk : k < l.length := by
        rcases hx with ⟨e, _⟩ | ⟨_, n', e, _⟩
        · simp only at e; omega
        · have := rm_le _ _ _ (Nat.le_refl _) n' e
          rw [List.length_drop] at this
          simp only at this
          omega
      have hg := getD_get hk
      generalize l.getD k 0 = c at hg
      show Dl.Run No _ [.dat (.str l), .dat (.int (k : Int)), .dat (.int (d : Int))] _ _
      have hc1 : ∀ {r : List Sl}, r[0]? = some (.dat (.str l)) → r[1]? = some (.dat (.int (k : Int))) → EvV No (tOp rIxS (tVar 0) (tVar 1)) r (.str [c]) := fun h0 h1 => ev_op (ev_dat h0) (ev_dat h1) (o_ixS (Dl.atI_nat hg) (sz (by omega)))
      have hint : ∀ {r : List Sl} {x : Nat} {st : PySem.Str}, r[0]? = some (.dat (.str l)) → r[1]? = some (.dat (.int (k : Int))) → st.cps.toList = [x] → EvV No (tCB rInt1 (tCons (tOp rEq (tOp rIxS (tVar 0) (tVar 1)) (tC (.str st))) tNil)) r (.int (if c = x then 1 else 0)) := fun {r x st} h0 h1 hs => EvV.cast (ev_cb (ea_cons (ev_op (hc1 h0 h1) (ev_strL hs) o_eqS) ea_nil) cd_int) (congrArg D.int (by by_cases h : c = x <;> simp [h]))
      -- the depth behind this sign
      obtain ⟨d', hd', hnx⟩ : ∃ d' : Nat, ((d : Int) + (if c = 40 then 1 else 0) - (if c = 41 then 1 else 0)) = (d' : Int) ∧ ((d' = 0 ∧ k + stp c = b + 1 + n) ∨ (1 ≤ d' ∧ ∃ n', rm d' (l.drop (k + stp c)) = some n' ∧ k + stp c + n' = b + 1 + n)) := by
        rcases hx with ⟨ek, ed⟩ | ⟨hd1, n', hn', hs⟩
        · simp only at ek ed
          subst ek ed
          rw [h40] at hg
          cases hg
          exact ⟨1, rfl, .inr ⟨Nat.le_refl _, n, hq, rfl⟩⟩
        · simp only at hd1 hn' hs
          rw [drop_get hg] at hn'
          unfold rm at hn'
          by_cases h1 : c = 40
          · rw [if_pos h1] at hn'
            subst h1
            cases hq2 : rm (d + 1) (l.drop (k + 1)) with
            | none => rw [hq2] at hn'; cases hn'
            | some q =>
              rw [hq2] at hn'
              simp at hn'
              exact ⟨d + 1, by rw [if_pos rfl, if_neg (by decide)]; omega, .inr ⟨by omega, q, hq2, by unfold stp; rw [if_neg (by decide)]; omega⟩⟩
          · rw [if_neg h1] at hn'
            by_cases h2 : c = 41
            · rw [if_pos h2] at hn'
              subst h2
              by_cases hd : d = 1
              · rw [if_pos hd] at hn'
                cases hn'
                exact ⟨0, by rw [if_neg (by decide), if_pos rfl]; omega, .inl ⟨rfl, by unfold stp; rw [if_neg (by decide)]; exact hs⟩⟩
              · rw [if_neg hd] at hn'
                cases hq2 : rm (d - 1) (l.drop (k + 1)) with
                | none => rw [hq2] at hn'; cases hn'
                | some q =>
                  rw [hq2] at hn'
                  simp at hn'
                  exact ⟨d - 1, by rw [if_neg (by decide), if_pos rfl]; omega, .inr ⟨by omega, q, hq2, by unfold stp; rw [if_neg (by decide)]; omega⟩⟩
            · rw [if_neg h2] at hn'
              by_cases h3 : c = 92
              · rw [if_pos h3] at hn'
                subst h3
                cases hdr : l.drop (k + 1) with
                | nil => rw [hdr] at hn'; cases hn'
                | cons x r' =>
                  rw [hdr] at hn'
                  simp only at hn'
                  have hr' : r' = l.drop (k + 2) := by
                    have hgd : l[k + 1]? = some x := by
                      have := congrArg List.head? hdr
                      rw [List.head?_drop] at this
                      exact this
                    have := drop_get hgd
                    rw [hdr] at this
                    exact (List.cons.inj this).2
                  cases hq2 : rm d r' with
                  | none => rw [hq2] at hn'; cases hn'
                  | some q =>
                    rw [hq2] at hn'
                    simp at hn'
                    exact ⟨d, by rw [if_neg (by decide), if_neg (by decide)]; omega, .inr ⟨hd1, q, by unfold stp; rw [if_pos rfl, ← hr']; exact hq2, by unfold stp; rw [if_pos rfl]; omega⟩⟩
              · rw [if_neg h3] at hn'
                cases hq2 : rm d (l.drop (k + 1)) with
                | none => rw [hq2] at hn'; cases hn'
                | some q =>
                  rw [hq2] at hn'
                  simp at hn'
                  exact ⟨d, by rw [if_neg h1, if_neg h2]; omega, .inr ⟨hd1, q, by unfold stp; rw [if_neg h3]; exact hq2, by unfold stp; rw [if_neg h3]; omega⟩⟩
      refine run_set (d := .int (d' : Int)) (EvV.cast (ev_op (ev_op (ev_dat rfl) (hint rfl rfl lit_28) o_add) (hint rfl rfl lit_29) o_sub) (congrArg D.int hd')) ?_
      refine run_set (d := .int ((k + stp c : Nat) : Int)) (EvV.cast (ev_op (ev_op (ev_dat rfl) ev_int o_add) (hint rfl rfl lit_5c) o_add) (congrArg D.int (by unfold stp; split <;> omega))) ?_
      show Dl.Run No _ [.dat (.str l), .dat (.int ((k + stp c : Nat) : Int)), .dat (.int (d' : Int))] _ _
      have hst : 1 ≤ stp c := by unfold stp; split <;> omega
      rcases hnx with ⟨h0, h1⟩ | ⟨h0, n', h1, h2⟩
      · refine run_yes (EvB.cast (by repeat' walk_at "ev") (decide_eq_true (by omega))) ?_
        refine run_flat (run_retV (ev_dat rfl) ?_)
        simp only
        rw [h1]
      · refine run_no (EvB.cast (by repeat' walk_at "ev") (decide_eq_false (by omega))) (run_skip ?_)
        exact run_next ⟨(k + stp c, d'), Le.refl _, .inr ⟨h0, n', h1, h2⟩, by simp only; omega⟩⟩)
end
end Fk
namespace Fk
open PySem PySem.Spec PyProof.Rows L2 Dl Mr
local macro_rules | `(tactic| walk_at "ev") => `(tactic| first
  | (with_reducible apply ev_dat) <;> rfl
  | with_reducible apply ev_int
  | with_reducible apply ev_bl
  | with_reducible apply ev_non
  | walk_at "lit"
  | with_reducible apply ev_str
  | with_reducible apply eb_test
  | with_reducible apply eb_B
  | with_reducible apply ev_op
  | with_reducible apply o_add
  | with_reducible apply o_sub
  | with_reducible apply o_mul
  | with_reducible apply o_fdiv
  | with_reducible apply o_fdivW
  | with_reducible apply o_mod
  | with_reducible apply o_lt
  | with_reducible apply o_le
  | with_reducible apply o_gt
  | with_reducible apply o_ge
  | with_reducible apply o_eqI
  | with_reducible apply o_neI
  | with_reducible apply o_eqS
  | with_reducible apply o_neS
  | with_reducible apply o_neInts
  | with_reducible apply o_neNil
  | with_reducible apply o_eqNil
  | with_reducible apply o_eqInts
  | with_reducible apply o_addS
  | with_reducible apply o_in1
  | with_reducible apply o_ni1
  | with_reducible apply o_inS
  | with_reducible apply o_mulS
  | with_reducible apply ea_nil
  | with_reducible apply ea_cons
  | with_reducible apply ev_tup
  | with_reducible apply ev_lst
  | with_reducible apply eb_not
  | with_reducible apply eb_and
  | with_reducible apply eb_or
  | with_reducible apply ev_andV
  | with_reducible apply ev_orV
  | with_reducible apply ev_notV
  | with_reducible apply ev_chain
  | with_reducible apply ev_neg
  | with_reducible apply ev_slS
  | with_reducible apply ev_slL
  | with_reducible apply eo_none
  | with_reducible apply eo_some
  | with_reducible apply ev_cb
  | with_reducible apply cd_lenT
  | with_reducible apply cd_lenL
  | with_reducible apply cd_int
  | with_reducible apply cd_max
  | with_reducible apply cd_min
  | with_reducible apply ev_bm
  | with_reducible apply ev_bm0
  | with_reducible apply md_strip
  | with_reducible apply md_rstrip
  | with_reducible apply md_find
  | with_reducible apply md_index
  | with_reducible apply md_starts
  | with_reducible apply md_lower
  | with_reducible apply md_upper
  | with_reducible apply ei_str
  | with_reducible apply ei_list
  | with_reducible exact sz1 rfl
  | with_reducible exact Nat.le_of_ble_eq_true rfl
  | ((with_reducible apply cmulL) <;> decide)
  | ((with_reducible apply cmulR) <;> decide)
  | ((with_reducible apply cdiv) <;> decide)
  | ((with_reducible show (0 : Int) < _) <;> decide)
  | (with_reducible intro _hyp))

section
variable {P : Program} {w : World} {K : PySem.W.Frag} {mg : PySem.Str → Option Value} {base : Heap}
def sBlank : List Nat := [98, 108, 97, 110, 107]
def sEnd : List Nat := [101, 110, 100]
def lawW (b : Nat) : Option (List Nat × List Nat × Nat) → D
  | none => wD sBlank [] b (b + 1)
  | some (s, t, n) => wD s (if s = sRemark then [] else t) b (b + n)
theorem marks_ne : ∀ c ∈ l_MARKS, c ≠ 34 ∧ c ≠ 40 ∧ c ≠ 32 := by decide
theorem take_tw (p : Nat → Bool) : ∀ q : List Nat, q.take (q.takeWhile p).length = q.takeWhile p
  | [] => rfl
  | x :: r => by
    by_cases hx : p x = true
    · rw [List.takeWhile_cons, if_pos hx, List.length_cons, List.take_succ_cons, take_tw p r]
    · rw [List.takeWhile_cons, if_neg hx]
      rfl
abbrev N__law_word_at : List PySem.Str := ["_law_value", "_law_at", "_law_end", "_law_text"]
theorem sc__law_word_at : FnScope N__law_word_at ["_law_value", "_law_at"] (defScope s__law_word_at) := ⟨rfl, rfl, rfl, by decide +kernel, rfl, by decide +kernel, by decide +kernel⟩
local macro_rules | `(tactic| walk_at "lit") => `(tactic| first
  | with_reducible exact ev_strL lit_20
  | with_reducible exact ev_strL lit_3c3e402c3b3a5b5d
  | with_reducible exact ev_strL lit_28
  | with_reducible exact ev_strL lit_22
  | with_reducible exact ev_strL lit_nil
  | with_reducible exact ev_strL lit_626c616e6b
  | with_reducible exact ev_strL lit_6d61726b
  | with_reducible exact ev_strL lit_61746f6d
  | with_reducible exact ev_strL lit_72656d61726b
  | with_reducible exact ev_strL lit_71756f746564
  | with_reducible exact ev_strL lit_5c)
theorem c__law_word_at (T : Tx K mg) : C8.Cal P w K mg base 2 "_law_word_at" (spP (α := List Nat × Nat × Option (List Nat × List Nat × Nat)) (fun a => [.str a.1, .int (a.2.1 : Int)]) (fun a => (a.1.length ≤ 900000 ∧ ∀ c ∈ a.1, c < 1114112) ∧ a.2.1 < a.1.length ∧ (match a.2.2 with
    | none => a.1[a.2.1]? = some 32
    | some x => a.1[a.2.1]? ≠ some 32 ∧ word1 (a.1.drop a.2.1) = some x)) (fun a d => d = lawW a.2.1 a.2.2)) [] :=
  have c__law_remark_end := c__law_remark_end (P := P) (w := w) (base := base) T
  have c__law_is_atom := c__law_is_atom (P := P) (w := w) (base := base) T
  cal_P T.d__law_word_at sc__law_word_at (fun _ => rfl) (by decide) (fun _ _ _ _ _ _ us hl => match us, hl with | [_, _], _ => rfl) (fun f cdv A outer s H E hr => ⟨_, (pss_cons (ps_if (pt_cmpR op_eq (pe_ix ix_str (pv 0) (pv 1) (fun _ _ => rfl)) pe_str (by rfl))
    (pss_cons (ps_ret (pe_tup (pa_cons pe_str (pa_cons pe_str (pa_cons (pv 1) (pa_cons (pe_op op_add (pv 1) pe_int) pa_nil))))))
    pss_nil)
    pss_nil)
    (pss_cons (ps_if (pt_cmpR op_inS (pe_ix ix_str (pv 0) (pv 1) (fun _ _ => rfl)) pe_str (by rfl))
    (pss_cons (ps_ret (pe_tup (pa_cons pe_str (pa_cons (pe_ix ix_str (pv 0) (pv 1) (fun _ _ => rfl)) (pa_cons (pv 1) (pa_cons (pe_op op_add (pv 1) pe_int) pa_nil))))))
    pss_nil)
    pss_nil)
    (pss_cons (ps_if (pt_cmpR op_eq (pe_ix ix_str (pv 0) (pv 1) (fun _ _ => rfl)) pe_str (by rfl))
    (pss_cons (ps_set (i := 2) sc__law_word_at.nd rfl (Or.inl rfl) (C8.pe_c c__law_remark_end hr (by decide) rfl (pa_cons (pv 0) (pa_cons (pv 1) pa_nil))))
    (pss_cons (ps_ret (pe_ix ix_list (pe_lst (pa_cons (pe_tup (pa_cons pe_str (pa_cons pe_str (pa_cons (pv 1) (pa_cons (pv 2) pa_nil))))) (pa_cons pe_non pa_nil))) (pe_callTy (T := "int") cl_int1 (by rfl) T.n_int (by decide +kernel) (pa_cons (pe_cmpR op_isN1 (pv 2) pe_non (by rfl)) pa_nil)) (fun _ _ => rfl)))
    pss_nil))
    pss_nil)
    (pss_cons (ps_set (i := 2) sc__law_word_at.nd rfl (Or.inl rfl) (pe_op op_add (pv 1) pe_int))
    (pss_cons (ps_if (pt_cmpR op_eq (pe_ix ix_str (pv 0) (pv 1) (fun _ _ => rfl)) pe_str (by rfl))
    (pss_cons (ps_set (i := 3) sc__law_word_at.nd rfl (Or.inl rfl) pe_str)
    (pss_cons (ps_while PassesOwn.never (PW.pt (pw_and (pt_cmpR op_lt (pv 2) (pe_callB cl_lenT (by rfl) T.n_len boot_len (pa_cons (pv 0) pa_nil)) (by rfl)) (pw_and1 (pt_cmpR op_ne (pe_ix ix_str (pv 0) (pv 2) (fun _ _ => rfl)) pe_str (by rfl)))))
    (pss_cons (ps_set (i := 2) sc__law_word_at.nd rfl (Or.inl rfl) (pe_op op_add (pv 2) (pe_callTy (T := "int") cl_int1 (by rfl) T.n_int (by decide +kernel) (pa_cons (pe_cmpR op_eq (pe_ix ix_str (pv 0) (pv 2) (fun _ _ => rfl)) pe_str (by rfl)) pa_nil))))
    (pss_cons (ps_set (i := 3) sc__law_word_at.nd rfl (Or.inl rfl) (pe_op op_addS (pv 3) (pe_slice sl_str (pv 0) (po_some (pv 2)) (po_some (pe_op op_add (pv 2) pe_int)))))
    (pss_cons (ps_set (i := 2) sc__law_word_at.nd rfl (Or.inl rfl) (pe_op op_add (pv 2) pe_int))
    pss_nil))))
    (pss_cons (ps_ret (pe_ix ix_list (pe_lst (pa_cons (pe_tup (pa_cons pe_str (pa_cons (pv 3) (pa_cons (pv 1) (pa_cons (pe_op op_add (pv 2) pe_int) pa_nil))))) (pa_cons pe_non pa_nil))) (pe_callTy (T := "int") cl_int1 (by rfl) T.n_int (by decide +kernel) (pa_cons (pe_cmpR op_ge (pv 2) (pe_callB cl_lenT (by rfl) T.n_len boot_len (pa_cons (pv 0) pa_nil)) (by rfl)) pa_nil)) (fun _ _ => rfl)))
    pss_nil)))
    pss_nil)
    (pss_cons (ps_while PassesOwn.never (PW.pt (pw_and (pt_cmpR op_lt (pv 2) (pe_callB cl_lenT (by rfl) T.n_len boot_len (pa_cons (pv 0) pa_nil)) (by rfl)) (pw_and1 (pt_val (C8.pe_c c__law_is_atom hr (by decide) rfl (pa_cons (pe_ix ix_str (pv 0) (pv 2) (fun _ _ => rfl)) pa_nil))))))
    (pss_cons (ps_set (i := 2) sc__law_word_at.nd rfl (Or.inl rfl) (pe_op op_add (pv 2) pe_int))
    pss_nil))
    (pss_cons (ps_ret (pe_ix ix_list (pe_lst (pa_cons pe_non (pa_cons (pe_tup (pa_cons pe_str (pa_cons (pe_slice sl_str (pv 0) (po_some (pv 1)) (po_some (pv 2))) (pa_cons (pv 1) (pa_cons (pv 2) pa_nil))))) pa_nil))) (pe_callTy (T := "int") cl_int1 (by rfl) T.n_int (by decide +kernel) (pa_cons (C8.pe_c c__law_is_atom hr (by decide) rfl (pa_cons (pe_ix ix_str (pv 0) (pv 1) (fun _ _ => rfl)) pa_nil)) pa_nil)) (fun _ _ => rfl)))
    pss_nil))))))), fun a ha => by
    obtain ⟨l, b, x⟩ := a
    obtain ⟨⟨hl, hch⟩, hb, hx⟩ := ha
    simp only at hl hch hb hx
    have hg := getD_get hb
    generalize l.getD b 0 = c at hg
    have hd := drop_get hg
    show Dl.Run No _ [.dat (.str l), .dat (.int (b : Int)), .no, .no] _ _
    have hc1 : ∀ {r : List Sl}, r[0]? = some (.dat (.str l)) → r[1]? = some (.dat (.int (b : Int))) → EvV No (tOp rIxS (tVar 0) (tVar 1)) r (.str [c]) := fun h0 h1 => ev_op (ev_dat h0) (ev_dat h1) (o_ixS (Dl.atI_nat hg) (sz (by omega)))
    refine run_ifP (c = 32) (eb_B (ev_op (hc1 rfl rfl) (by repeat' walk_at "ev") o_eqS)) (decI (by simp)) (fun h1 => ?_) (fun h1 => run_skip ?_)
    · cases x with
      | none => exact run_flat (run_retV (EvV.cast (by repeat' walk_at "ev") (by rfl)) rfl)
      | some x => exact absurd (by rw [hg, h1]) hx.1
    cases x with
    | none => rw [hg] at hx; cases hx; exact absurd rfl h1
    | some x =>
    obtain ⟨s, t, n⟩ := x
    have hw := hx.2
    rw [hd] at hw
    simp only [word1] at hw
    show Dl.Run No _ _ _ fun d => d = wD s (if s = sRemark then [] else t) b (b + n)
    refine run_ifP (c ∈ l_MARKS) (eb_B (ev_op (hc1 rfl rfl) (ev_strL l_MARKS_eq) o_in1)) rfl (fun h2 => ?_) (fun h2 => run_skip ?_)
    · obtain ⟨m1, m2, m3⟩ := marks_ne c h2
      rw [if_neg m1, if_neg m2, if_pos h2] at hw
      cases hw
      exact run_flat (run_retV (EvV.cast (ev_tup (ea_cons (ev_strL lit_6d61726b) (ea_cons (hc1 rfl rfl) (ea_cons (ev_dat rfl) (ea_cons (ev_op (ev_dat rfl) ev_int o_add) ea_nil)))) (sz1 rfl)) (by rfl)) rfl)
    refine run_ifP (c = 40) (eb_B (ev_op (hc1 rfl rfl) (by repeat' walk_at "ev") o_eqS)) (decI (by simp)) (fun h3 => ?_) (fun h3 => run_skip ?_)
    · have m1 : c ≠ 34 := by rw [h3]; decide
      rw [if_neg m1, if_pos h3] at hw
      cases hq : rm 1 (l.drop (b + 1)) with
      | none => rw [hq] at hw; cases hw
      | some k =>
        rw [hq] at hw
        simp at hw
        obtain ⟨rfl, rfl, rfl⟩ := hw
        refine run_flat (run_set (ed_call (l, b, k) (by repeat' walk_at "ev") ⟨hl, by rw [hg, h3], hq⟩) ?_)
        show Dl.Run No _ [.dat (.str l), .dat (.int (b : Int)), .dat (.int ((b + 1 + k : Nat) : Int)), .no] _ _
        refine run_flat (run_retV (ev_op (x := .lst [wD sRemark [] b (b + 1 + k), .non]) (ev_lst (ea_cons (ev_tup (ea_cons (ev_strL lit_72656d61726b) (ea_cons ev_str (ea_cons (ev_dat rfl) (ea_cons (ev_dat rfl) ea_nil)))) (sz1 rfl)) (ea_cons ev_non ea_nil)) (sz1 rfl)) (ev_cb (ea_cons (ev_op (ev_dat rfl) ev_non (o_isN fun _ _ r => isN_int r)) ea_nil) cd_int) (o_ixL rfl)) ?_)
        rw [if_pos rfl, show b + 1 + k = b + (k + 1) by omega]
    rw [if_neg h3] at hw
    refine run_set (d := .int ((b + 1 : Nat) : Int)) (EvV.cast (by repeat' walk_at "ev") (by rfl)) ?_
    show Dl.Run No _ [.dat (.str l), .dat (.int (b : Int)), .dat (.int ((b + 1 : Nat) : Int)), .no] _ _
    refine run_ifP (c = 34) (eb_B (ev_op (hc1 rfl rfl) (by repeat' walk_at "ev") o_eqS)) (decI (by simp)) (fun h4 => ?_) (fun h4 => run_skip ?_)
    · rw [if_pos h4] at hw
      cases hq : qw (l.drop (b + 1)) with
      | none => rw [hq] at hw; cases hw
      | some q =>
        obtain ⟨t', k0⟩ := q
        rw [hq] at hw
        simp at hw
        obtain ⟨rfl, rfl, rfl⟩ := hw
        refine run_flat (run_set (by repeat' walk_at "ev") ?_)
        show Dl.Run No _ [.dat (.str l), .dat (.int (b : Int)), .dat (.int ((b + 1 : Nat) : Int)), .dat (.str [])] _ _
        refine run_flat (run_while (α := Nat × List Nat) (fun x => [.dat (.str l), .dat (.int (b : Int)), .dat (.int (x.1 : Int)), .dat (.str x.2)]) (fun x => x.1 < l.length ∧ x.2.length ≤ x.1 ∧ ∃ t2 n2, qw (l.drop x.1) = some (t2, n2) ∧ x.2 ++ t2 = t' ∧ x.1 + n2 = b + 1 + k0) (fun x => l.length - x.1) (fun x => !decide (l.getD x.1 0 = 34)) (b + 1, []) (Le.refl _) ⟨?_, Nat.zero_le _, t', k0, hq, rfl, rfl⟩ (fun x hx => ?_) (fun x hx h => ?_) (fun x hx h => ?_))
        · rcases Nat.lt_or_ge (b + 1) l.length with h | h
          · exact h
          · rw [List.drop_eq_nil_of_le h] at hq
            cases hq
        · have h1 := hx.1
          have hg2 := getD_get h1
          refine EvB.cast (eb_and (b := !decide (l.getD x.1 0 = 34)) (by
            repeat' walk_at "ev"
            exact sz (by omega)) (fun _ => EvB.cast (eb_B (ev_op (ev_op (ev_dat rfl) (ev_dat rfl) (o_ixS (Dl.atI_nat hg2) (sz (by omega)))) (by repeat' walk_at "ev") o_neS)) (by simp))) ?_
          rw [decide_eq_true (by omega), Bool.true_and]
        · obtain ⟨k, fd⟩ := x
          obtain ⟨g1, g2, t2, n2, g3, g4, g5⟩ := hx
          simp only at g1 g2 g3 g4 g5 h
          have hg2 := getD_get g1
          generalize l.getD k 0 = e at hg2 h
          have he : e ≠ 34 := by simpa using h
          have g6 := qw_le _ (l.drop k) (Nat.le_refl _) t2 n2 g3
          rw [List.length_drop] at g6
          rw [drop_get hg2] at g3
          unfold qw at g3
          rw [if_neg he] at g3
          -- the sign taken: at k + stp e - 1
          obtain ⟨y, t3, n3, y1, y2, y3, y4⟩ : ∃ y t3 n3, l[k + stp e - 1]? = some y ∧ qw (l.drop (k + stp e)) = some (t3, n3) ∧ t2 = y :: t3 ∧ n2 = stp e + n3 := by
            by_cases h92 : e = 92
            · rw [if_pos h92] at g3
              cases hdr : l.drop (k + 1) with
              | nil => rw [hdr] at g3; cases g3
              | cons d r' =>
                rw [hdr] at g3
                simp only at g3
                have hgd : l[k + 1]? = some d := by
                  have := congrArg List.head? hdr
                  rw [List.head?_drop] at this
                  exact this
                have hr' : r' = l.drop (k + 1 + 1) := by
                  have := drop_get hgd
                  rw [hdr] at this
                  exact (List.cons.inj this).2
                cases hq2 : qw r' with
                | none => rw [hq2] at g3; cases g3
                | some q =>
                  obtain ⟨t4, n4⟩ := q
                  rw [hq2] at g3
                  simp at g3
                  obtain ⟨rfl, rfl⟩ := g3
                  refine ⟨d, t4, n4, ?_, ?_, rfl, ?_⟩
                  · unfold stp; rw [if_pos h92]; exact hgd
                  · unfold stp; rw [if_pos h92, ← hq2, hr']
                  · unfold stp; rw [if_pos h92]; omega
            · rw [if_neg h92] at g3
              cases hq2 : qw (l.drop (k + 1)) with
              | none => rw [hq2] at g3; cases g3
              | some q =>
                obtain ⟨t4, n4⟩ := q
                rw [hq2] at g3
                simp at g3
                obtain ⟨rfl, rfl⟩ := g3
                refine ⟨e, t4, n4, ?_, ?_, rfl, ?_⟩
                · unfold stp; rw [if_neg h92]; exact hg2
                · unfold stp; rw [if_neg h92]; exact hq2
                · unfold stp; rw [if_neg h92]; omega
          have hst : 1 ≤ stp e ∧ stp e ≤ 2 := by unfold stp; split <;> omega
          have y6 := qw_le _ _ (Nat.le_refl _) t3 n3 y2
          rw [List.length_drop] at y6
          have yl := (List.getElem?_eq_some_iff.mp y1).1
          have hcut : cut l (some ((k + stp e - 1 : Nat) : Int)) (some (((k + stp e - 1 : Nat) : Int) + 1)) = [y] := by
            rw [show ((k + stp e - 1 : Nat) : Int) + 1 = ((k + stp e : Nat) : Int) by omega, cut_mid, drop_get y1, show k + stp e - (k + stp e - 1) = 1 by omega]
            rfl
          show Dl.Run No _ [.dat (.str l), .dat (.int (b : Int)), .dat (.int (k : Int)), .dat (.str fd)] _ _
          refine run_set (d := .int ((k + stp e - 1 : Nat) : Int)) (EvV.cast (ev_op (ev_dat rfl) (ev_cb (ea_cons (ev_op (ev_op (ev_dat rfl) (ev_dat rfl) (o_ixS (Dl.atI_nat hg2) (sz (by omega)))) (by repeat' walk_at "ev") o_eqS) ea_nil) cd_int) o_add) (congrArg D.int (by
            unfold stp
            by_cases h92 : e = 92
            · rw [if_pos h92, if_pos (decide_eq_true (by rw [h92]))]; omega
            · rw [if_neg h92, if_neg (by simpa using h92)]; omega))) ?_
          refine run_set (d := .str (fd ++ [y])) (ev_op (ev_dat rfl) (EvV.cast (by
            repeat' walk_at "ev"
            exact sz (by omega)) (by exact congrArg D.str hcut)) (o_addS (sz (by simp; omega)))) ?_
          refine run_set (d := .int ((k + stp e : Nat) : Int)) (EvV.cast (by repeat' walk_at "ev") (by exact congrArg D.int (by omega))) ?_
          refine run_next ⟨(k + stp e, fd ++ [y]), Le.refl _, ⟨by simp only; omega, by simp only [List.length_append, List.length_cons, List.length_nil]; omega, t3, n3, y2, ?_, by simp only; omega⟩, by simp only; omega⟩
          simp only
          rw [← g4, y3, List.append_assoc]
          rfl
        · obtain ⟨k, fd⟩ := x
          obtain ⟨g1, g2, t2, n2, g3, g4, g5⟩ := hx
          simp only at g1 g2 g3 g4 g5 h
          have hg2 := getD_get g1
          have he : l.getD k 0 = 34 := by simpa using h
          rw [he] at hg2
          rw [drop_get hg2] at g3
          unfold qw at g3
          rw [if_pos rfl] at g3
          cases g3
          show Dl.Run No _ [.dat (.str l), .dat (.int (b : Int)), .dat (.int (k : Int)), .dat (.str fd)] _ _
          refine run_flat (run_retV (ev_op (x := .lst [.tup [.str sQuoted, .str fd, .int (b : Int), .int ((k : Int) + 1)], .non]) (ev_lst (ea_cons (ev_tup (ea_cons (ev_strL lit_71756f746564) (ea_cons (ev_dat rfl) (ea_cons (ev_dat rfl) (ea_cons (ev_op (ev_dat rfl) ev_int o_add) ea_nil)))) (sz1 rfl)) (ea_cons ev_non ea_nil)) (sz1 rfl)) (EvV.cast (y := .int 0) (by
            repeat' walk_at "ev"
            exact sz (by omega)) (by rw [if_neg]; simpa using (by omega : ¬ ((l.length : Int) ≤ (k : Int))))) (o_ixL rfl)) ?_)
          rw [List.append_nil] at g4
          rw [if_neg (by decide), g4, show b + (k0 + 1) = k + 1 by omega]
          rfl
    rw [if_neg h4, if_neg h2] at hw
    by_cases hc : c ∈ l_ATOM_SIGNS
    · rw [if_pos hc] at hw
      have hn : t = (c :: l.drop (b + 1)).takeWhile isAt ∧ n = ((c :: l.drop (b + 1)).takeWhile isAt).length ∧ s = sAtom := by
        simp only [Option.some.injEq, Prod.mk.injEq] at hw
        exact ⟨hw.2.1.symm, hw.2.2.symm, hw.1.symm⟩
      obtain ⟨rfl, hn2, rfl⟩ := hn
      have hn1 : n = 1 + ((l.drop (b + 1)).takeWhile isAt).length := by
        rw [hn2, List.takeWhile_cons, if_pos (decide_eq_true hc), List.length_cons]
        omega
      have hat1 : ∀ e : Nat, isAtom [e] = isAt e := fun e => by
        unfold isAtom
        rw [decide_eq_false (fun z => nomatch z), List.all_cons, List.all_nil, Bool.and_true]
        rfl
      refine run_while (α := Nat) (fun k => [.dat (.str l), .dat (.int (b : Int)), .dat (.int (k : Int)), .no]) (fun k => b + 1 ≤ k ∧ k ≤ l.length ∧ k + ((l.drop k).takeWhile isAt).length = b + n) (fun k => l.length - k) (fun k => decide (k < l.length) && isAt (l.getD k 0)) (b + 1) (Le.refl _) ⟨Nat.le_refl _, by omega, by omega⟩ (fun k hk => eb_and (EvB.cast (by
        repeat' walk_at "ev"
        exact sz (by omega)) (decI (by omega))) (fun h => ?_)) (fun k hk h => ?_) (fun k hk h => ?_)
      · have hkl := of_decide_eq_true h
        have hg2 := getD_get hkl
        refine EvB.cast (eb_test (ed_call [l.getD k 0] (ea_cons (ev_op (ev_dat rfl) (ev_dat rfl) (o_ixS (Dl.atI_nat hg2) (sz (by omega)))) ea_nil) ⟨by show 1 ≤ 100000; decide, fun c hc => ?_⟩)) (hat1 _)
        rw [List.mem_singleton.mp hc]
        exact hch _ (List.mem_of_getElem? hg2)
      · rw [Bool.and_eq_true] at h
        have h1 := of_decide_eq_true h.1
        have hg2 := getD_get h1
        refine run_set (d := .int ((k + 1 : Nat) : Int)) (EvV.cast (by repeat' walk_at "ev") (by rfl)) (run_next ⟨k + 1, Le.refl _, ⟨by omega, by omega, ?_⟩, by omega⟩)
        have h2 := hk.2.2
        rw [drop_get hg2, List.takeWhile_cons, if_pos h.2, List.length_cons] at h2
        omega
      · have h2 := hk.2.2
        have h0 : ((l.drop k).takeWhile isAt).length = 0 := by
          rcases Nat.lt_or_ge k l.length with h1 | h1
          · have hg2 := getD_get h1
            rw [drop_get hg2, List.takeWhile_cons, if_neg (by
              intro z
              rw [decide_eq_true h1, z] at h
              cases h)]
            rfl
          · rw [List.drop_eq_nil_of_le h1]
            rfl
        rw [h0, Nat.add_zero] at h2
        subst h2
        have hcut : cut l (some (b : Int)) (some ((b + n : Nat) : Int)) = (c :: l.drop (b + 1)).takeWhile isAt := by
          rw [cut_mid, hd, Nat.add_sub_cancel_left, hn2, take_tw]
        refine run_retV (ev_op (x := .lst [.non, .tup [.str sAtom, .str ((c :: l.drop (b + 1)).takeWhile isAt), .int (b : Int), .int ((b + n : Nat) : Int)]]) (ev_lst (ea_cons ev_non (ea_cons (ev_tup (ea_cons (ev_strL lit_61746f6d) (ea_cons (EvV.cast (by
          repeat' walk_at "ev"
          exact sz (by omega)) (by exact congrArg D.str hcut)) (ea_cons (ev_dat rfl) (ea_cons (ev_dat rfl) ea_nil)))) (sz1 rfl)) ea_nil)) (sz1 rfl)) (EvV.cast (y := .int 1) (ev_cb (ea_cons (ed_call [c] (ea_cons (hc1 rfl rfl) ea_nil) ⟨by show 1 ≤ 100000; decide, fun e he => ?_⟩) ea_nil) cd_int) (by rw [hat1, show isAt c = true from decide_eq_true hc] <;> rfl)) (o_ixL rfl)) ?_
        · rw [List.mem_singleton.mp he]
          exact hch _ (List.mem_of_getElem? hg)
        · rw [if_neg (by decide)]
          rfl
    · rw [if_neg hc] at hw
      cases hw⟩)
end
end Fk
namespace Fk
open PySem PySem.Spec PyProof.Rows L2 Dl Mr
local macro_rules | `(tactic| walk_at "ev") => `(tactic| first
  | (with_reducible apply ev_dat) <;> rfl
  | with_reducible apply ev_int
  | with_reducible apply ev_bl
  | with_reducible apply ev_non
  | walk_at "lit"
  | with_reducible apply ev_str
  | with_reducible apply eb_test
  | with_reducible apply eb_B
  | with_reducible apply ev_op
  | with_reducible apply o_add
  | with_reducible apply o_sub
  | with_reducible apply o_mul
  | with_reducible apply o_fdiv
  | with_reducible apply o_fdivW
  | with_reducible apply o_mod
  | with_reducible apply o_lt
  | with_reducible apply o_le
  | with_reducible apply o_gt
  | with_reducible apply o_ge
  | with_reducible apply o_eqI
  | with_reducible apply o_neI
  | with_reducible apply o_eqS
  | with_reducible apply o_neS
  | with_reducible apply o_neInts
  | with_reducible apply o_neNil
  | with_reducible apply o_eqNil
  | with_reducible apply o_eqInts
  | with_reducible apply o_addS
  | with_reducible apply o_in1
  | with_reducible apply o_ni1
  | with_reducible apply o_inS
  | with_reducible apply o_mulS
  | with_reducible apply ea_nil
  | with_reducible apply ea_cons
  | with_reducible apply ev_tup
  | with_reducible apply ev_lst
  | with_reducible apply eb_not
  | with_reducible apply eb_and
  | with_reducible apply eb_or
  | with_reducible apply ev_andV
  | with_reducible apply ev_orV
  | with_reducible apply ev_notV
  | with_reducible apply ev_chain
  | with_reducible apply ev_neg
  | with_reducible apply ev_slS
  | with_reducible apply ev_slL
  | with_reducible apply eo_none
  | with_reducible apply eo_some
  | with_reducible apply ev_cb
  | with_reducible apply cd_lenT
  | with_reducible apply cd_lenL
  | with_reducible apply cd_int
  | with_reducible apply cd_max
  | with_reducible apply cd_min
  | with_reducible apply ev_bm
  | with_reducible apply ev_bm0
  | with_reducible apply md_strip
  | with_reducible apply md_rstrip
  | with_reducible apply md_find
  | with_reducible apply md_index
  | with_reducible apply md_starts
  | with_reducible apply md_lower
  | with_reducible apply md_upper
  | with_reducible apply ei_str
  | with_reducible apply ei_list
  | with_reducible exact sz1 rfl
  | with_reducible exact Nat.le_of_ble_eq_true rfl
  | ((with_reducible apply cmulL) <;> decide)
  | ((with_reducible apply cmulR) <;> decide)
  | ((with_reducible apply cdiv) <;> decide)
  | ((with_reducible show (0 : Int) < _) <;> decide)
  | (with_reducible intro _hyp))

section
variable {P : Program} {w : World} {K : PySem.W.Frag} {mg : PySem.Str → Option Value} {base : Heap}
theorem word1_sort {l s t : List Nat} {n : Nat} (h : word1 l = some (s, t, n)) : s = sQuoted ∨ s = sRemark ∨ s = sMark ∨ s = sAtom := by
  cases l with
  | nil => cases h
  | cons c r =>
    simp only [word1] at h
    split at h
    · cases hq : qw r with
      | none => rw [hq] at h; cases h
      | some q => rw [hq] at h; simp at h; exact .inl h.1.symm
    · split at h
      · cases hq : rm 1 r with
        | none => rw [hq] at h; cases h
        | some q => rw [hq] at h; simp at h; exact .inr (.inl h.1.symm)
      · split at h
        · simp at h; exact .inr (.inr (.inl h.1.symm))
        · split at h
          · simp only [Option.some.injEq, Prod.mk.injEq] at h
            exact .inr (.inr (.inr h.1.symm))
          · cases h
theorem isN_tup {G : Hp} {v : V} {ds : List D} (r : Rp G v (.tup ds)) : decide (v = V.non) = false := by cases r; rfl
abbrev N__law_cut : List PySem.Str := ["_law_value", "_law_found", "_law_at", "_law_word"]
theorem sc__law_cut : FnScope N__law_cut ["_law_value"] (defScope s__law_cut) := ⟨rfl, rfl, rfl, by decide +kernel, rfl, by decide +kernel, by decide +kernel⟩
local macro_rules | `(tactic| walk_at "lit") => `(tactic| first
  | with_reducible exact ev_strL lit_626c616e6b
  | with_reducible exact ev_strL lit_72656d61726b
  | with_reducible exact ev_strL lit_656e64
  | with_reducible exact ev_strL lit_nil)
theorem c__law_cut (T : Tx K mg) : C8.Cal P w K mg base 3 "_law_cut" (spP (α := List Nat × List Wd) (fun a => [.str a.1]) (fun a => (a.1.length ≤ 900000 ∧ ∀ c ∈ a.1, c < 1114112) ∧ Lex 0 a.1 a.2) (fun a d => d = .lst ((a.2.filter noRm).map Wd.d ++ [wD sEnd [] a.1.length a.1.length]))) [] :=
  have c__law_word_at := c__law_word_at (P := P) (w := w) (base := base) T
  cal_P T.d__law_cut sc__law_cut (fun _ => rfl) (by decide) (fun _ _ _ _ _ _ us hl => match us, hl with | [_], _ => rfl) (fun f cdv A outer s H E hr => ⟨_, (pss_cons (ps_set (i := 1) sc__law_cut.nd rfl (Or.inl rfl) (pe_lst pa_nil))
    (pss_cons (ps_set (i := 2) sc__law_cut.nd rfl (Or.inl rfl) pe_int)
    (pss_cons (ps_while PassesOwn.never (pt_cmpR op_lt (pv 2) (pe_callB cl_lenT (by rfl) T.n_len boot_len (pa_cons (pv 0) pa_nil)) (by rfl))
    (pss_cons (ps_set (i := 3) sc__law_cut.nd rfl (Or.inl rfl) (C8.pe_c c__law_word_at hr (by decide) rfl (pa_cons (pv 0) (pa_cons (pv 2) pa_nil))))
    (pss_cons (ps_if (pt_cmpR op_isN1 (pv 3) pe_non (by rfl))
    (pss_cons (ps_ret (pv 2))
    pss_nil)
    pss_nil)
    (pss_cons (ps_if (pt_cmpR op_notIn_seq (pe_ix ix_tup (pv 3) pe_int (fun _ _ => rfl)) (pe_tup (pa_cons pe_str (pa_cons pe_str pa_nil))) (by rfl))
    (pss_cons (ps_expr (pe_bm PySem.F.plainAttrs_list PySem.F.slot_list_append PySem.F.type_list_append mt_append (pv 1) (pa_cons (pv 3) pa_nil)))
    pss_nil)
    pss_nil)
    (pss_cons (ps_set (i := 2) sc__law_cut.nd rfl (Or.inl rfl) (pe_ix ix_tup (pv 3) pe_int (fun _ _ => rfl)))
    pss_nil)))))
    (pss_cons (ps_ret (pe_op op_cat (pv 1) (pe_lst (pa_cons (pe_tup (pa_cons pe_str (pa_cons pe_str (pa_cons (pv 2) (pa_cons (pv 2) pa_nil))))) pa_nil))))
    pss_nil)))), fun a ha => by
    obtain ⟨l, ws⟩ := a
    obtain ⟨⟨hl, hch⟩, hlex⟩ := ha
    simp only at hl hch hlex
    show Dl.Run No _ [.dat (.str l), .no, .no, .no] _ _
    refine run_setFV (ef_lstV ea_nil (sz1 rfl)) (run_set ev_int ?_)
    refine run_while (α := Nat × List Wd) (fun x => [.dat (.str l), .own (x.2.map Wd.d), .dat (.int (x.1 : Int)), .no]) (fun x => x.1 ≤ l.length ∧ x.2.length ≤ x.1 ∧ ∃ ws', Lex x.1 (l.drop x.1) ws' ∧ x.2 ++ ws'.filter noRm = ws.filter noRm) (fun x => l.length - x.1) (fun x => decide (x.1 < l.length)) (0, []) (Le.refl _) ⟨Nat.zero_le _, Nat.zero_le _, ws, hlex, rfl⟩ (fun x hx => EvB.cast (by
      repeat' walk_at "ev"
      exact sz (by omega)) (decI (by omega))) (fun x hx h => ?_) (fun x hx h => ?_)
    · obtain ⟨k, fd⟩ := x
      obtain ⟨hk0, h0, ws', h1, h2⟩ := hx
      have hk : k < l.length := of_decide_eq_true h
      simp only at h0 h1 h2 hk0
      have hg := getD_get hk
      generalize l.getD k 0 = c at hg
      have hd := drop_get hg
      show Dl.Run No _ [.dat (.str l), .own (fd.map Wd.d), .dat (.int (k : Int)), .no] _ _
      by_cases hc : c = 32
      · refine run_set (ed_call (l, k, none) (by repeat' walk_at "ev") ⟨⟨hl, hch⟩, hk, by simp only; rw [hg, hc]⟩) ?_
        show Dl.Run No _ [.dat (.str l), .own (fd.map Wd.d), .dat (.int (k : Int)), .dat (wD sBlank [] k (k + 1))] _ _
        refine run_no (eb_B (ev_op (ev_dat rfl) ev_non (o_isN fun _ _ r => isN_tup r))) (run_skip ?_)
        refine run_no (EvB.cast (eb_B (ev_op (ev_op (ev_dat rfl) ev_int (o_ixT (z := .str sBlank) rfl)) (ev_tup (ea_cons (ev_strL lit_626c616e6b) (ea_cons (ev_strL lit_72656d61726b) ea_nil)) (sz1 rfl)) (o_niTs (ss := [sBlank, sRemark])))) (by decide)) (run_skip ?_)
        refine run_set (d := .int ((k + 1 : Nat) : Int)) (ev_op (ev_dat rfl) ev_int (o_ixT rfl)) (run_next ⟨(k + 1, fd), .same (.same (.same (.no .nil))), ⟨by simp only; omega, by simp only; omega, ws', ?_, h2⟩, by simp only; omega⟩)
        rw [hd, hc] at h1
        cases h1 with
        | blank h => exact h
        | word h _ _ => exact absurd rfl h
      · have hne : l.drop k ≠ [] := by rw [hd]; exact fun z => by cases z
        have hg32 : l[k]? ≠ some 32 := by rw [hg]; simpa using hc
        generalize hdk : l.drop k = q at h1 hne
        cases h1 with
        | nil => exact absurd rfl hne
        | blank h =>
          rw [hd] at hdk
          cases hdk
          exact absurd rfl hc
        | @word _ n _ s t ws2 hh hw h3 =>
          have hle := word1_le hw
          have hso := word1_sort hw
          have hql : q.length = l.length - k := by rw [← hdk, List.length_drop]
          refine run_set (ed_call (l, k, some (s, t, n)) (by repeat' walk_at "ev") ⟨⟨hl, hch⟩, hk, hg32, by simp only; rw [hdk]; exact hw⟩) ?_
          rw [← hdk, List.drop_drop] at h3
          show Dl.Run No _ [.dat (.str l), .own (fd.map Wd.d), .dat (.int (k : Int)), .dat (wD s (if s = sRemark then [] else t) k (k + n))] _ _
          refine run_no (eb_B (ev_op (ev_dat rfl) ev_non (o_isN fun _ _ r => isN_tup r))) (run_skip ?_)
          refine run_ifP (s ≠ sRemark) (eb_B (ev_op (ev_op (ev_dat rfl) ev_int (o_ixT (z := .str s) rfl)) (ev_tup (ea_cons (ev_strL lit_626c616e6b) (ea_cons (ev_strL lit_72656d61726b) ea_nil)) (sz1 rfl)) (o_niTs (ss := [sBlank, sRemark])))) ?_ (fun hs => ?_) (fun hs => ?_)
          · rcases hso with rfl | rfl | rfl | rfl <;> decide
          · rw [if_neg hs]
            refine run_flat (run_appendV rfl (d := wD s t k (k + n)) (ev_dat rfl) (sz' (by rw [List.length_map]; omega)) (run_skip ?_))
            refine run_set (d := .int ((k + n : Nat) : Int)) (ev_op (ev_dat rfl) ev_int (o_ixT rfl)) (run_next ⟨(k + n, fd ++ [Wd.mk s t k (k + n)]), ?_, ⟨by simp only; omega, by simp only [List.length_append, List.length_cons, List.length_nil]; omega, ws2, h3, ?_⟩, by simp only; omega⟩)
            · show Le [_, .own (fd.map Wd.d ++ [wD s t k (k + n)]), _, _] [_, .own ((fd ++ [Wd.mk s t k (k + n)]).map Wd.d), _, _]
              rw [List.map_append]
              exact .same (.same (.same (.no .nil)))
            · rw [← h2, List.filter_cons, if_pos (by show (!decide (s = sRemark)) = true; rw [decide_eq_false hs]; rfl), List.append_assoc]
              rfl
          · have hs' : s = sRemark := Classical.not_not.mp hs
            refine run_skip (run_set (d := .int ((k + n : Nat) : Int)) (ev_op (ev_dat rfl) ev_int (o_ixT rfl)) (run_next ⟨(k + n, fd), .same (.same (.same (.no .nil))), ⟨by simp only; omega, by simp only; omega, ws2, h3, ?_⟩, by simp only; omega⟩))
            rw [← h2, List.filter_cons, if_neg (by show ¬ (!decide (s = sRemark)) = true; rw [decide_eq_true hs']; exact Bool.false_ne_true)]
    · obtain ⟨k, fd⟩ := x
      obtain ⟨hk0, h0, ws', h1, h2⟩ := hx
      have hk := of_decide_eq_false h
      simp only at h0 h1 h2 hk hk0
      have hkl : k = l.length := by omega
      subst hkl
      rw [List.drop_eq_nil_of_le (Nat.le_refl _)] at h1
      cases h1 with
      | nil =>
        rw [List.filter_nil, List.append_nil] at h2
        refine run_freeze 1 rfl (run_retV (EvV.cast (EvF.v (ef_op (ev_dat rfl) (ev_lst (ea_cons (ev_tup (ea_cons (ev_strL lit_656e64) (ea_cons ev_str (ea_cons (ev_dat rfl) (ea_cons (ev_dat rfl) ea_nil)))) (sz1 rfl)) ea_nil) (sz1 rfl)) (o_cat (sz (by rw [List.length_map]; simp; omega))))) (by rfl)) ?_)
        simp only
        rw [h2]
        rfl
      | word _ hw _ => cases hw⟩)
def lawVal (one : Int) (r : List Int) : Int := ((r.take (manyOf one - 1) ++ [0, 0]).take (manyOf one - 1)).foldl (fun s o => s * 64 + o - 128) (one - (if 224 ≤ one then 224 else if 192 ≤ one then 192 else 0))
def lawTold (l : List Int) : List Int := match l with
  | [] => []
  | one :: r => lawVal one r :: lawTold (r.drop (manyOf one - 1))
termination_by l.length
decreasing_by
  simp only [List.length_drop, List.length_cons]; omega
theorem lawTold_len : ∀ (n : Nat) (l : List Int), l.length ≤ n → (lawTold l).length ≤ l.length
  | _, [], _ => by rw [lawTold]; exact Nat.le_refl _
  | 0, _ :: _, h => by simp at h
  | n + 1, one :: r, h => by
    rw [List.length_cons] at h
    rw [lawTold, List.length_cons, List.length_cons]
    have := lawTold_len n (r.drop (manyOf one - 1)) (by rw [List.length_drop]; omega)
    rw [List.length_drop] at this
    omega
abbrev N__law_signs_told : List PySem.Str := ["_law_octets_here", "_law_found", "_law_at", "_law_many", "_law_sign", "_law_one_here"]
theorem sc__law_signs_told : FnScope N__law_signs_told ["_law_octets_here"] (defScope s__law_signs_told) := ⟨rfl, rfl, rfl, by decide +kernel, rfl, by decide +kernel, by decide +kernel⟩
theorem c__law_signs_told (T : Tx K mg) : C8.Cal P w K mg base 1 "_law_signs_told" (spP (α := List Int) (fun a => [.lst (a.map .int)]) (fun a => a.length ≤ 10000) (fun a d => d = .lst ((lawTold a).map .int))) [] :=
  cal_P T.d__law_signs_told sc__law_signs_told (fun _ => rfl) (by decide) (fun _ _ _ _ _ _ us hl => match us, hl with | [_], _ => rfl) (fun f cdv A outer s H E hr => ⟨_, (pss_cons (ps_set (i := 1) sc__law_signs_told.nd rfl (Or.inl rfl) (pe_lst pa_nil))
    (pss_cons (ps_set (i := 2) sc__law_signs_told.nd rfl (Or.inl rfl) pe_int)
    (pss_cons (ps_while PassesOwn.never (pt_cmpR op_lt (pv 2) (pe_callB cl_lenL (by rfl) T.n_len boot_len (pa_cons (pv 0) pa_nil)) (by rfl))
    (pss_cons (ps_set (i := 3) sc__law_signs_told.nd rfl (Or.inl rfl) (pe_op op_add (pe_op op_add pe_int (pe_callTy (T := "int") cl_int1 (by rfl) T.n_int (by decide +kernel) (pa_cons (pe_cmpR op_gt (pe_ix ix_list (pv 0) (pv 2) (fun _ _ => rfl)) pe_int (by rfl)) pa_nil))) (pe_callTy (T := "int") cl_int1 (by rfl) T.n_int (by decide +kernel) (pa_cons (pe_cmpR op_gt (pe_ix ix_list (pv 0) (pv 2) (fun _ _ => rfl)) pe_int (by rfl)) pa_nil))))
    (pss_cons (ps_set (i := 4) sc__law_signs_told.nd rfl (Or.inl rfl) (pe_op op_sub (pe_ix ix_list (pv 0) (pv 2) (fun _ _ => rfl)) (pe_ix ix_list (pe_lst (pa_cons pe_int (pa_cons pe_int (pa_cons pe_int pa_nil)))) (pe_op op_sub (pv 3) pe_int) (fun _ _ => rfl))))
    (pss_cons (ps_for PassesOwn.never rfl (pi_list (pe_slice sl_list (pe_op op_cat (pe_slice sl_list (pv 0) (po_some (pe_op op_add (pv 2) pe_int)) (po_some (pe_op op_add (pv 2) (pv 3)))) (pe_lst (pa_cons pe_int (pa_cons pe_int pa_nil)))) po_none (po_some (pe_op op_sub (pv 3) pe_int)))) (pg_name (i := 5) sc__law_signs_told.nd rfl (Or.inl rfl))
    (pss_cons (ps_set (i := 4) sc__law_signs_told.nd rfl (Or.inl rfl) (pe_op op_sub (pe_op op_add (pe_op op_mul (pv 4) pe_int) (pv 5)) pe_int))
    pss_nil))
    (pss_cons (ps_expr (pe_bm PySem.F.plainAttrs_list PySem.F.slot_list_append PySem.F.type_list_append mt_append (pv 1) (pa_cons (pv 4) pa_nil)))
    (pss_cons (ps_set (i := 2) sc__law_signs_told.nd rfl (Or.inl rfl) (pe_op op_add (pv 2) (pv 3)))
    pss_nil))))))
    (pss_cons (ps_ret (pv 1))
    pss_nil)))), fun a ha => by
    show Dl.Run No _ [.dat (.lst (a.map .int)), .no, .no, .no, .no, .no] _ _
    refine run_setFV (ef_lstV ea_nil (sz1 rfl)) (run_set ev_int ?_)
    refine run_while (α := Nat × List Int) (fun x => [.dat (.lst (a.map .int)), .own (x.2.map .int), .dat (.int (x.1 : Nat)), .no, .no, .no]) (fun x => x.1 ≤ a.length + 2 ∧ x.2.length ≤ x.1 ∧ lawTold a = x.2 ++ lawTold (a.drop x.1)) (fun x => a.length + 3 - x.1) (fun x => decide (x.1 < a.length)) (0, []) (Le.refl _) ⟨Nat.zero_le _, Nat.zero_le _, rfl⟩ (fun x hx => EvB.cast (by repeat' walk_at "ev") (by rw [List.length_map]; exact decI (by omega))) (fun x hx hb => ?_) (fun x hx hb => ?_)
    · obtain ⟨k, fd⟩ := x
      have hk : k < a.length := of_decide_eq_true hb
      obtain ⟨h1, h2, h3⟩ := hx
      simp only at h1 h2 h3
      have hg : a[k]? = some a[k] := List.getElem?_eq_getElem hk
      generalize a[k] = one at hg
      rw [drop_get hg, lawTold, List.drop_drop] at h3
      have hml := manyOf_le one
      have hone : ∀ {r : List Sl}, r[0]? = some (.dat (.lst (a.map .int))) → r[2]? = some (.dat (.int (k : Nat))) → EvV No (tOp (rIxL K) (tVar 0) (tVar 2)) r (.int one) := fun h0 h2 => ev_op (ev_dat h0) (ev_dat h2) (o_ixL (Dl.atI_nat (get_map hg)))
      show Dl.Run No _ [.dat (.lst (a.map .int)), .own (fd.map .int), .dat (.int (k : Nat)), .no, .no, .no] _ _
      refine run_set (d := .int (manyOf one : Nat)) (EvV.cast (ev_op (ev_op ev_int (ev_cb (ea_cons (ev_op (hone rfl rfl) ev_int o_gt) ea_nil) cd_int) o_add) (ev_cb (ea_cons (ev_op (hone rfl rfl) ev_int o_gt) ea_nil) cd_int) o_add) (congrArg D.int (by
        rw [← manyOf_eq, show decide ((191 : Int) < one) = decide (192 ≤ one) from decI (by omega), show decide ((223 : Int) < one) = decide (224 ≤ one) from decI (by omega)]))) ?_
      refine run_set (d := .int (one - (if 224 ≤ one then 224 else if 192 ≤ one then 192 else 0))) (ev_op (hone rfl rfl) (ev_op (x := .lst [.int 0, .int 192, .int 224]) (ev_lst (by repeat' walk_at "ev") (sz1 rfl)) (by repeat' walk_at "ev") (o_ixL (z := .int (if 224 ≤ one then 224 else if 192 ≤ one then 192 else 0)) ?_)) o_sub) ?_
      · unfold manyOf
        by_cases h3 : 224 ≤ one
        · have h4 : 192 ≤ one := by omega
          simp only [h3, h4, if_true]; rfl
        · by_cases h4 : 192 ≤ one
          · simp only [h3, h4, if_true, if_false]; rfl
          · simp only [h3, h4, if_false]; rfl
      generalize hs0 : one - (if 224 ≤ one then 224 else if 192 ≤ one then 192 else 0) = s0
      have hval : lawVal one (a.drop (k + 1)) = (((a.drop (k + 1)).take (manyOf one - 1) ++ [0, 0]).take (manyOf one - 1)).foldl (fun s o => s * 64 + o - 128) s0 := by
        unfold lawVal
        rw [hs0]
      have hm2 : ((a.drop (k + 1)).take (manyOf one - 1)).length ≤ 2 := by rw [List.length_take]; omega
      have hcut : cut (cut (a.map D.int) (some ((k : Int) + 1)) (some ((k : Int) + (manyOf one : Nat))) ++ [.int 0, .int 0]) none (some ((manyOf one : Nat) - 1)) = (((a.drop (k + 1)).take (manyOf one - 1) ++ [0, 0]).take (manyOf one - 1)).map D.int := by
        rw [show ((k : Int) + 1) = ((k + 1 : Nat) : Int) by omega, show ((k : Int) + (manyOf one : Nat)) = ((k + manyOf one : Nat) : Int) by omega, show (((manyOf one : Nat) : Int) - 1) = ((manyOf one - 1 : Nat) : Int) by omega, cut_map, cut_mid, cut_to, show k + manyOf one - (k + 1) = manyOf one - 1 by omega]
        simp [List.map_take]
      generalize hmm : ((a.drop (k + 1)).take (manyOf one - 1) ++ [0, 0]).take (manyOf one - 1) = mm at hval hcut
      show Dl.Run No _ [.dat (.lst (a.map .int)), .own (fd.map .int), .dat (.int (k : Nat)), .dat (.int (manyOf one : Nat)), .dat (.int s0), .no] _ _
      refine run_for (fun j r => r = [.dat (.lst (a.map .int)), .own (fd.map .int), .dat (.int (k : Nat)), .dat (.int (manyOf one : Nat)), .dat (.int ((mm.take j).foldl (fun s o => s * 64 + o - 128) s0)), .no]) (ys := mm.map .int) (ei_list (EvV.cast (ev_slL (EvF.v (ef_op (ev_slL (ev_dat rfl) (eo_some (ev_op (ev_dat rfl) ev_int o_add)) (eo_some (ev_op (ev_dat rfl) (ev_dat rfl) o_add))) (ev_lst (ea_cons ev_int (ea_cons ev_int ea_nil)) (sz1 rfl)) (o_cat ?_))) eo_none (eo_some (ev_op (ev_dat rfl) ev_int o_sub))) (by rw [hcut]))) ⟨_, Le.refl _, rfl⟩ (fun j d r hd hr => ?_) (fun r hr => ?_)
      · rw [show ((k : Int) + 1) = ((k + 1 : Nat) : Int) by omega, show ((k : Int) + (manyOf one : Nat)) = ((k + manyOf one : Nat) : Int) by omega, cut_map, cut_mid, List.length_map, show k + manyOf one - (k + 1) = manyOf one - 1 by omega]
        exact sz (by simp at hm2 ⊢; omega)
      · obtain ⟨x, hx, rfl⟩ := map_get hd
        subst hr
        refine ⟨_, tg_name, ?_⟩
        refine run_set (by repeat' walk_at "ev") (run_next ⟨_, .same (.same (.same (.same (.same (.no .nil))))), ?_⟩)
        rw [take_next hx, List.foldl_append] <;> rfl
      · subst hr
        rw [List.length_map, List.take_length, ← hval]
        refine run_appendV rfl (ev_dat rfl) (sz' (by rw [List.length_map]; omega)) ?_
        refine run_set (d := .int ((k + manyOf one : Nat) : Int)) (ev_op (ev_dat rfl) (ev_dat rfl) o_add) (run_next ⟨(k + manyOf one, fd ++ [lawVal one (a.drop (k + 1))]), ?_, ⟨by simp only; omega, by simp only [List.length_append, List.length_cons, List.length_nil]; omega, ?_⟩, by simp only; omega⟩)
        · show Le [_, .own (fd.map D.int ++ [.int (lawVal one (a.drop (k + 1)))]), _, _, _, _] [_, .own ((fd ++ [lawVal one (a.drop (k + 1))]).map D.int), _, _, _, _]
          rw [List.map_append]
          exact .same (.same (.same (.no (.no (.no .nil)))))
        · rw [h3, List.append_assoc, show k + 1 + (manyOf one - 1) = k + manyOf one by omega] <;> rfl
    · obtain ⟨k, fd⟩ := x
      obtain ⟨h1, h2, h3⟩ := hx
      have hk := of_decide_eq_false hb
      simp only at h3 hk
      rw [List.drop_eq_nil_of_le (by omega), lawTold, List.append_nil] at h3
      refine run_freeze 1 rfl (run_retV (ev_dat rfl) ?_)
      rw [h3]⟩)
end
end Fk
namespace Fk
open PySem PySem.Spec PyProof.Rows L2 Dl Mr
local macro_rules | `(tactic| walk_at "ev") => `(tactic| first
  | (with_reducible apply ev_dat) <;> rfl
  | with_reducible apply ev_int
  | with_reducible apply ev_bl
  | with_reducible apply ev_non
  | walk_at "lit"
  | with_reducible apply ev_str
  | with_reducible apply eb_test
  | with_reducible apply eb_B
  | with_reducible apply ev_op
  | with_reducible apply o_add
  | with_reducible apply o_sub
  | with_reducible apply o_mul
  | with_reducible apply o_fdiv
  | with_reducible apply o_fdivW
  | with_reducible apply o_mod
  | with_reducible apply o_lt
  | with_reducible apply o_le
  | with_reducible apply o_gt
  | with_reducible apply o_ge
  | with_reducible apply o_eqI
  | with_reducible apply o_neI
  | with_reducible apply o_eqS
  | with_reducible apply o_neS
  | with_reducible apply o_neInts
  | with_reducible apply o_neNil
  | with_reducible apply o_eqNil
  | with_reducible apply o_eqInts
  | with_reducible apply o_addS
  | with_reducible apply o_in1
  | with_reducible apply o_ni1
  | with_reducible apply o_inS
  | with_reducible apply o_mulS
  | with_reducible apply ea_nil
  | with_reducible apply ea_cons
  | with_reducible apply ev_tup
  | with_reducible apply ev_lst
  | with_reducible apply eb_not
  | with_reducible apply eb_and
  | with_reducible apply eb_or
  | with_reducible apply ev_andV
  | with_reducible apply ev_orV
  | with_reducible apply ev_notV
  | with_reducible apply ev_chain
  | with_reducible apply ev_neg
  | with_reducible apply ev_slS
  | with_reducible apply ev_slL
  | with_reducible apply eo_none
  | with_reducible apply eo_some
  | with_reducible apply ev_cb
  | with_reducible apply cd_lenT
  | with_reducible apply cd_lenL
  | with_reducible apply cd_int
  | with_reducible apply cd_max
  | with_reducible apply cd_min
  | with_reducible apply ev_bm
  | with_reducible apply ev_bm0
  | with_reducible apply md_strip
  | with_reducible apply md_rstrip
  | with_reducible apply md_find
  | with_reducible apply md_index
  | with_reducible apply md_starts
  | with_reducible apply md_lower
  | with_reducible apply md_upper
  | with_reducible apply ei_str
  | with_reducible apply ei_list
  | with_reducible exact sz1 rfl
  | with_reducible exact Nat.le_of_ble_eq_true rfl
  | ((with_reducible apply cmulL) <;> decide)
  | ((with_reducible apply cmulR) <;> decide)
  | ((with_reducible apply cdiv) <;> decide)
  | ((with_reducible show (0 : Int) < _) <;> decide)
  | (with_reducible intro _hyp))

section
variable {P : Program} {w : World} {K : PySem.W.Frag} {mg : PySem.Str → Option Value} {base : Heap}
abbrev N__law_inner : List PySem.Str := ["_law_inner_here", "_law_sort", "_law_six", "_law_found", "_law_bare", "_law_at", "_law_part", "_law_whole", "_law_sign", "_law_figures", "_law_first", "_law_last"]
theorem sc__law_inner : FnScope N__law_inner ["_law_inner_here", "_law_sort"] (defScope s__law_inner) := ⟨rfl, rfl, rfl, by decide +kernel, rfl, by decide +kernel, by decide +kernel⟩
local macro_rules | `(tactic| walk_at "lit") => `(tactic| first
  | with_reducible exact ev_strL lit_4142434445464748494a4b4c_64
  | with_reducible exact ev_strL lit_73
  | with_reducible exact ev_strL lit_3d
  | with_reducible exact ev_strL lit_3030
  | with_reducible exact ev_strL lit_41
  | with_reducible exact ev_strL lit_30313233343536373839414243444546
  | with_reducible exact ev_strL lit_5f)
theorem c__law_inner (T : Tx K mg) : C8.Cal P w K mg base 3 "_law_inner" (spP (α := List Nat × Nat) (fun a => [.str a.1, .str [a.2]]) (fun a => a.1.length ≤ 2000 ∧ (∀ c ∈ a.1, okc c) ∧ isSort a.2) (fun a d => d = .lst ((decodeBy a.2 a.1).map .int))) [] :=
  have c__law_numbers := c__law_numbers (P := P) (w := w) (base := base) T
  cal_P T.d__law_inner sc__law_inner (fun _ => rfl) (by decide) (fun _ _ _ _ _ _ us hl => match us, hl with | [_, _], _ => rfl) (fun f cdv A outer s H E hr => ⟨_, (pss_cons (ps_set (i := 2) sc__law_inner.nd rfl (Or.inl rfl) pe_str)
    (pss_cons (ps_set (i := 3) sc__law_inner.nd rfl (Or.inl rfl) (pe_lst pa_nil))
    (pss_cons (ps_if (pt_cmpR op_eq (pv 1) pe_str (by rfl))
    (pss_cons (ps_set (i := 4) sc__law_inner.nd rfl (Or.inl rfl) (pe_bm PySem.F.plainAttrs_str PySem.F.slot_str_rstrip PySem.F.type_str_rstrip m_rstrip (pv 0) (pa_cons pe_str pa_nil)))
    (pss_cons (ps_for PassesOwn.never rfl (pi_range3 (by rfl) T.n_range (pa_cons pe_int (pa_cons (pe_callB cl_lenT (by rfl) T.n_len boot_len (pa_cons (pv 4) pa_nil)) (pa_cons pe_int pa_nil)))) (pg_name (i := 5) sc__law_inner.nd rfl (Or.inl rfl))
    (pss_cons (ps_set (i := 6) sc__law_inner.nd rfl (Or.inl rfl) (pe_slice sl_str (pv 4) (po_some (pv 5)) (po_some (pe_op op_add (pv 5) pe_int))))
    (pss_cons (ps_set (i := 7) sc__law_inner.nd rfl (Or.inl rfl) pe_int)
    (pss_cons (ps_for PassesOwn.never rfl (pi_str (pe_op op_addS (pv 6) (pe_op op_mulS pe_str (pe_op op_sub pe_int (pe_callB cl_lenT (by rfl) T.n_len boot_len (pa_cons (pv 6) pa_nil)))))) (pg_name (i := 8) sc__law_inner.nd rfl (Or.inl rfl))
    (pss_cons (ps_set (i := 7) sc__law_inner.nd rfl (Or.inl rfl) (pe_op op_add (pe_op op_mul (pv 7) pe_int) (pe_callB (id := "max") (cl_max2 rfl) (by rfl) T.n_max (by decide +kernel) (pa_cons pe_int (pa_cons (pe_bm PySem.F.plainAttrs_str PySem.F.slot_str_find PySem.F.type_str_find m_find (pv 2) (pa_cons (pv 8) pa_nil)) pa_nil)))))
    pss_nil))
    (pss_cons (ps_set (i := 3) sc__law_inner.nd rfl (Or.inl rfl) (pe_op op_cat (pv 3) (pe_slice sl_list (pe_lst (pa_cons (pe_op op_fdiv (pv 7) pe_int) (pa_cons (pe_op op_mod (pe_op op_fdiv (pv 7) pe_int) pe_int) (pa_cons (pe_op op_mod (pv 7) pe_int) pa_nil)))) po_none (po_some (pe_op op_sub (pe_callB cl_lenT (by rfl) T.n_len boot_len (pa_cons (pv 6) pa_nil)) pe_int)))))
    pss_nil)))))
    (pss_cons (ps_ret (pv 3))
    pss_nil)))
    pss_nil)
    (pss_cons (ps_set (i := 5) sc__law_inner.nd rfl (Or.inl rfl) pe_int)
    (pss_cons (ps_while PassesOwn.never (pt_cmpR op_lt (pv 5) (pe_callB cl_lenT (by rfl) T.n_len boot_len (pa_cons (pv 0) pa_nil)) (by rfl))
    (pss_cons (ps_set (i := 9) sc__law_inner.nd rfl (Or.inl rfl) (pe_slice sl_str (pe_op op_addS (pe_slice sl_str (pv 0) (po_some (pe_op op_add (pv 5) pe_int)) (po_some (pe_op op_add (pv 5) pe_int))) pe_str) po_none (po_some pe_int)))
    (pss_cons (ps_if (pt_cmpR op_eq (pe_ix ix_str (pv 0) (pv 5) (fun _ _ => rfl)) pe_str (by rfl))
    (pss_cons (ps_asg (pe_lc (own := [("_law_sign", 8)]) (g := gName 8) rfl sc__law_inner.nd (pi_str (pv 9)) (blkOk_by (own := [("_law_sign", 8)]) (N := N__law_inner) (sc := defScope s__law_inner) (by decide +kernel)) (fun _ _ _ _ _ => pg_name (i := 8) sc__law_inner.nd rfl (Or.inl rfl)) (fun _ _ _ _ _ => pts_nil) (fun _ _ _ _ _ => (pe_callB (id := "max") (cl_max2 rfl) (by rfl) T.n_max (by decide +kernel) (pa_cons pe_int (pa_cons (PE.bmK (K := K) (pe_bm PySem.F.plainAttrs_str PySem.F.slot_str_find PySem.F.type_str_find m_find pe_str (pa_cons (pv 8) pa_nil)) rfl) pa_nil))))) (pg_unl rfl (pgs_cons (pg_name (i := 10) sc__law_inner.nd rfl (Or.inl rfl)) (pgs_cons (pg_name (i := 11) sc__law_inner.nd rfl (Or.inl rfl)) pgs_nil))))
    (pss_cons (ps_expr (pe_bm PySem.F.plainAttrs_list PySem.F.slot_list_append PySem.F.type_list_append mt_append (pv 3) (pa_cons (pe_op op_add (pe_op op_mul (pv 10) pe_int) (pv 11)) pa_nil)))
    (pss_cons (ps_set (i := 5) sc__law_inner.nd rfl (Or.inl rfl) (pe_op op_add (pv 5) pe_int))
    pss_nil)))
    (pss_cons (ps_expr (pe_bm PySem.F.plainAttrs_list PySem.F.slot_list_append PySem.F.type_list_append mt_append (pv 3) (pa_cons (pe_ix ix_list (pe_lst (pa_cons (pe_ix ix_list (C8.pe_c c__law_numbers hr (by decide) rfl (pa_cons (pe_ix ix_str (pv 0) (pv 5) (fun _ _ => rfl)) pa_nil)) pe_int (fun _ _ => rfl)) (pa_cons pe_int pa_nil))) (pe_callTy (T := "int") cl_int1 (by rfl) T.n_int (by decide +kernel) (pa_cons (pe_cmpR op_eq (pe_ix ix_str (pv 0) (pv 5) (fun _ _ => rfl)) pe_str (by rfl)) pa_nil)) (fun _ _ => rfl)) pa_nil)))
    pss_nil))
    (pss_cons (ps_set (i := 5) sc__law_inner.nd rfl (Or.inl rfl) (pe_op op_add (pv 5) pe_int))
    pss_nil))))
    (pss_cons (ps_ret (pv 3))
    pss_nil)))))), fun x hx => by
    obtain ⟨a, c⟩ := x
    obtain ⟨ha, hok, hc⟩ := hx
    simp only at ha hok hc
    show Dl.Run No _ [.dat (.str a), .dat (.str [c]), .no, .no, .no, .no, .no, .no, .no, .no, .no, .no] _ _
    refine run_set (d := .str l_SIX) (ev_strL l_SIX_eq) ?_
    refine run_setFV (ef_lstV ea_nil (sz1 rfl)) ?_
    show Dl.Run No _ [.dat (.str a), .dat (.str [c]), .dat (.str l_SIX), .own [], .no, .no, .no, .no, .no, .no, .no, .no] _ _
    refine run_ifP (c = 115) (by repeat' walk_at "ev") (decI (by simp)) (fun h => ?_) (fun h => run_skip ?_)
    · refine run_flat (run_set (by
        repeat' walk_at "ev"
        exact sz (by omega)) ?_)
      have hbl := rstripC_len 61 a
      have hfin : decodeBy c a = sixPreO (rstripC 61 a) (((rstripC 61 a).length + 3) / 4) := by
        unfold decodeBy
        rw [if_pos h]
        rfl
      show Dl.Run No _ _ _ fun d => d = .lst ((decodeBy c a).map .int)
      rw [hfin]
      generalize rstripC 61 a = b at hbl
      show Dl.Run No _ [.dat (.str a), .dat (.str [c]), .dat (.str l_SIX), .own [], .dat (.str b), .no, .no, .no, .no, .no, .no, .no] _ _
      refine run_flat (run_for (fun k r => r = [.dat (.str a), .dat (.str [c]), .dat (.str l_SIX), .own ((sixPreO b k).map .int), .dat (.str b), .no, .no, .no, .no, .no, .no, .no]) (ei_rng3 ev_int (by
        repeat' walk_at "ev"
        exact sz (by omega)) ev_int (rgC3 (c := 4) (by decide) (by decide) (by omega))) ⟨_, Le.refl _, rfl⟩ (fun k d r hd hr => ?_) (fun r hr => ?_))
      · obtain ⟨hk, rfl⟩ := rg_get hd
        subst hr
        have eat : (0 + (k : Int) * 4) = ((4 * k : Nat) : Int) := by omega
        have eat4 : ((4 * k : Nat) : Int) + 4 = ((4 * k + 4 : Nat) : Int) := by omega
        rw [eat]
        refine ⟨_, tg_name, ?_⟩
        have epre : sixPreO b (k + 1) = sixPreO b k ++ sixPart ((b.drop (4 * k)).take 4) := by
          unfold sixPreO
          rw [List.range_succ, List.flatMap_append, List.flatMap_cons, List.flatMap_nil, List.append_nil]
        have hpl := sixPreO_len b k
        generalize sixPreO b k = pre at epre hpl
        generalize hg : (b.drop (4 * k)).take 4 = g at epre
        have hgl : 1 ≤ g.length ∧ g.length ≤ 4 := by
          rw [← hg, List.length_take, List.length_drop]
          omega
        refine run_set (d := .str g) (EvV.cast (by
          repeat' walk_at "ev"
          exact sz (by omega)) (by rw [eat4, cut_mid, Nat.add_sub_cancel_left, hg])) ?_
        refine run_set ev_int ?_
        show Dl.Run No _ [.dat (.str a), .dat (.str [c]), .dat (.str l_SIX), .own (pre.map .int), .dat (.str b), .dat (.int ((4 * k : Nat) : Int)), .dat (.str g), .dat (.int 0), .no, .no, .no, .no] _ _
        have hgf : g ++ timesL [65] (4 - (g.length : Int)) = g ++ List.replicate (4 - g.length) 65 := by
          unfold timesL
          rw [Dl.flat_rep, show (4 - (g.length : Int)).toNat = 4 - g.length by omega]
        refine run_for (fun j r => r = [.dat (.str a), .dat (.str [c]), .dat (.str l_SIX), .own (pre.map .int), .dat (.str b), .dat (.int ((4 * k : Nat) : Int)), .dat (.str g), .dat (.int (((g ++ List.replicate (4 - g.length) 65).take j).foldl (fun n c => 64 * n + ixOf l_SIX c) 0)), .no, .no, .no, .no]) (ys := (g ++ List.replicate (4 - g.length) 65).map fun c => .str [c]) (ei_str (EvV.cast (by
          repeat' walk_at "ev"
          · exact sz (by omega)
          all_goals first | omega | (rw [← List.length_append, hgf, List.length_append, List.length_replicate]; exact sz (by omega)) | skip) (congrArg D.str hgf))) ⟨_, Le.refl _, rfl⟩ (fun j d r hd hr => ?_) (fun r hr => ?_)
        · obtain ⟨x, hx, rfl⟩ := map_get hd
          subst hr
          refine ⟨_, tg_name, ?_⟩
          refine run_set (by repeat' walk_at "ev") (run_next ⟨_, .same (.same (.same (.same (.same (.same (.same (.same (.no (.no (.no (.no .nil))))))))))), ?_⟩)
          rw [take_next hx, List.foldl_append, ix_max, Int.mul_comm] <;> rfl
        · subst hr
          rw [List.length_map, List.take_length]
          have hpart : sixPart g = [(g ++ List.replicate (4 - g.length) 65).foldl (fun n c => 64 * n + ixOf l_SIX c) 0 / 65536, (g ++ List.replicate (4 - g.length) 65).foldl (fun n c => 64 * n + ixOf l_SIX c) 0 / 256 % 256, (g ++ List.replicate (4 - g.length) 65).foldl (fun n c => 64 * n + ixOf l_SIX c) 0 % 256].take (g.length - 1) := rfl
          generalize (g ++ List.replicate (4 - g.length) 65).foldl (fun n c => 64 * n + ixOf l_SIX c) 0 = n at hpart
          have hpl3 := sixPart_len g
          refine run_freeze 3 rfl (run_setFV (ef_op (ev_dat rfl) (EvV.cast (y := .lst ((sixPart g).map .int)) (by
            repeat' walk_at "ev"
            exact sz (by omega)) ?_) (o_cat (sz (by rw [List.length_map, List.length_map]; omega)))) ?_)
          · have e1 : ((g.length : Int) - 1) = ((g.length - 1 : Nat) : Int) := by omega
            rw [e1, cut_to, hpart]
            congr 1
            rw [List.map_take] <;> rfl
          · refine run_next ⟨_, .same (.same (.same (.same (.same (.no (.no (.no (.no (.no (.no (.no .nil))))))))))), ?_⟩
            rw [epre, ← List.map_append]
      · subst hr
        rw [rg_len]
        exact run_flat (run_freeze 3 rfl (run_retV (ev_dat rfl) rfl))
    · have hcm : decodeBy c a = markOctets a := by
        unfold decodeBy
        rw [if_neg h]
      show Dl.Run No _ _ _ fun d => d = .lst ((decodeBy c a).map .int)
      rw [hcm]
      refine run_set ev_int ?_
      refine run_while (α := Nat × List Int) (fun x => [.dat (.str a), .dat (.str [c]), .dat (.str l_SIX), .own (x.2.map .int), .no, .dat (.int (x.1 : Nat)), .no, .no, .no, .no, .no, .no]) (fun x => x.1 ≤ a.length + 2 ∧ x.2.length ≤ x.1 ∧ markOctets a = x.2 ++ markOctets (a.drop x.1)) (fun x => a.length + 3 - x.1) (fun x => decide (x.1 < a.length)) (0, []) (Le.refl _) ⟨Nat.zero_le _, Nat.zero_le _, rfl⟩ (fun x hx => EvB.cast (by
        repeat' walk_at "ev"
        exact sz (by omega)) (decI (by omega))) (fun x hx hb => ?_) (fun x hx hb => ?_)
      · obtain ⟨k, fd⟩ := x
        have hk : k < a.length := of_decide_eq_true hb
        obtain ⟨h1, h2, h3⟩ := hx
        simp only at h1 h2 h3
        have hg : a[k]? = some a[k] := List.getElem?_eq_getElem hk
        generalize a[k] = e at hg
        have hat : atI a (k : Int) = some e := Dl.atI_nat hg
        rw [drop_get hg, markOctets] at h3
        show Dl.Run No _ [.dat (.str a), .dat (.str [c]), .dat (.str l_SIX), .own (fd.map .int), .no, .dat (.int (k : Nat)), .no, .no, .no, .no, .no, .no] _ _
        have hc1 : ∀ {ρ : List Sl}, ρ[0]? = some (.dat (.str a)) → ρ[5]? = some (.dat (.int (k : Nat))) → EvV No (tOp rIxS (tVar 0) (tVar 5)) ρ (.str [e]) := fun e0 e2 => ev_op (ev_dat e0) (ev_dat e2) (o_ixS hat (sz (by omega)))
        have e12 : ((k : Int) + 1) = ((k + 1 : Nat) : Int) := by omega
        have e13 : ((k : Int) + 3) = ((k + 3 : Nat) : Int) := by omega
        generalize hq : a.drop (k + 1) = q at h3
        have ecut : cut (cut a (some ((k : Int) + 1)) (some ((k : Int) + 3)) ++ [48, 48]) none (some 2) = [(q.take 2 ++ [48, 48]).getD 0 48, (q.take 2 ++ [48, 48]).getD 1 48] := by
          rw [e12, e13, cut_mid, hq, show k + 3 - (k + 1) = 2 by omega, show (2 : Int) = ((2 : Nat) : Int) from rfl, cut_to, take2]
        have hql : (cut a (some ((k : Int) + 1)) (some ((k : Int) + 3))).length ≤ 2 := by
          rw [e12, e13, cut_mid, List.length_take]
          omega
        refine run_set (d := .str [(q.take 2 ++ [48, 48]).getD 0 48, (q.take 2 ++ [48, 48]).getD 1 48]) (EvV.cast (by
          repeat' walk_at "ev"
          · exact sz (by omega)
          · exact sz (by simp; omega)
          · exact sz (by simp; omega)) (by exact congrArg D.str ecut)) ?_
        have lst : ∀ (k' : Nat) (x : Int) (ρ : List Sl), k' + 1 ≤ k + 3 → k + 1 ≤ k' + 1 → markOctets a = fd ++ (x :: markOctets (a.drop (k' + 1))) → Le ρ [.dat (.str a), .dat (.str [c]), .dat (.str l_SIX), .own ((fd ++ [x]).map .int), .no, .dat (.int (k' : Nat)), .no, .no, .no, .no, .no, .no] → Dl.Run No (tSeq (tAsg (tOp (rI0 fun i j => .int (i + j)) (tVar 5) (tC (.int 1))) (gName 5)) tNext) ρ (fun r => ∃ a' : Nat × List Int, Le r [.dat (.str a), .dat (.str [c]), .dat (.str l_SIX), .own (a'.2.map .int), .no, .dat (.int (a'.1 : Nat)), .no, .no, .no, .no, .no, .no] ∧ (a'.1 ≤ a.length + 2 ∧ a'.2.length ≤ a'.1 ∧ markOctets a = a'.2 ++ markOctets (a.drop a'.1)) ∧ a.length + 3 - a'.1 < a.length + 3 - k) (fun d => d = .lst ((markOctets a).map .int)) := fun k' x ρ hk1 hk2 hm hle => run_weak hle (run_set (d := .int ((k' + 1 : Nat) : Int)) (EvV.cast (by repeat' walk_at "ev") (by rfl)) (run_next ⟨(k' + 1, fd ++ [x]), Le.refl _, ⟨by simp only; omega, by simp only [List.length_append, List.length_cons, List.length_nil]; omega, by rw [hm, List.append_assoc] <;> rfl⟩, by simp only; omega⟩))
        refine run_ifP (e = 61) (eb_B (ev_op (hc1 rfl rfl) (by repeat' walk_at "ev") o_eqS)) (decI (by simp)) (fun h => ?_) (fun h => ?_)
        · rw [if_pos h] at h3
          refine run_flat (run_asg (EvF.v (ef_lcM [(q.take 2 ++ [48, 48]).getD 0 48, (q.take 2 ++ [48, 48]).getD 1 48] (fun c => .str [c]) (fun c => .int (ixOf l_SIXTEEN c)) (ei_str (ev_dat rfl)) (fun x _ => EvV.cast (ev_cb (ea_cons ev_int (ea_cons (ev_bm (ev_strL l_SIXTEEN_eq) (ea_cons (ev_dat rfl) ea_nil) md_find) ea_nil)) cd_max) (congrArg D.int (ix_max l_SIXTEEN x))) (sz1 rfl))) (fun d hd => ?_))
          subst hd
          refine ⟨_, tg_lst (tgs_cons tg_name (tgs_cons tg_name tgs_nil)) rfl, ?_⟩
          refine run_flat (run_appendV rfl (d := .int (hexPair q)) (EvV.cast (by repeat' walk_at "ev") (by
            unfold hexPair
            rw [Int.mul_comm])) (sz' (by rw [List.length_map]; omega)) ?_)
          refine run_flat (run_set (d := .int ((k + 2 : Nat) : Int)) (EvV.cast (by repeat' walk_at "ev") (by rfl)) (run_skip ?_))
          refine lst (k + 2) (hexPair q) _ (by omega) (by omega) ?_ ?_
          · rw [h3, ← hq, List.drop_drop, show k + 1 + 2 = k + 2 + 1 by omega]
          · rw [List.map_append]
            exact .same (.same (.same (.same (.no (.same (.no (.no (.no (.no (.no (.no .nil)))))))))))
        · rw [if_neg h] at h3
          have hcok := hok e (List.mem_of_getElem? hg)
          refine run_flat (run_appendV rfl (d := .int (if e = 95 then 32 else (e : Int))) (ev_op (x := .lst [.int (e : Int), .int 32]) (ev_lst (ea_cons (ev_op (x := .lst ((numbersOf [e]).map .int)) (ed_call [e] (ea_cons (hc1 rfl rfl) ea_nil) ⟨by show 1 ≤ 100000; decide, fun x hx => by rw [List.mem_singleton.mp hx]; exact hcok⟩) ev_int (o_ixL rfl)) (ea_cons ev_int ea_nil)) (sz1 rfl)) (EvV.cast (y := .int (if e = 95 then 1 else 0)) (ev_cb (ea_cons (ev_op (hc1 rfl rfl) (by repeat' walk_at "ev") o_eqS) ea_nil) cd_int) (by by_cases h : e = 95 <;> simp [h])) (o_ixL (by split <;> rfl))) (sz' (by rw [List.length_map]; omega)) (run_skip ?_))
          refine lst k (if e = 95 then 32 else (e : Int)) _ (by omega) (by omega) ?_ ?_
          · rw [h3, ← hq]
          · rw [List.map_append]
            exact .same (.same (.same (.same (.no (.same (.no (.no (.no (.no (.no (.no .nil)))))))))))
      · obtain ⟨k, fd⟩ := x
        obtain ⟨h1, h2, h3⟩ := hx
        have hk := of_decide_eq_false hb
        simp only at h3 hk
        rw [List.drop_eq_nil_of_le (by omega), markOctets, List.append_nil] at h3
        refine run_freeze 3 rfl (run_retV (ev_dat rfl) ?_)
        rw [h3]⟩)
theorem cut_last2 {α : Type} (l : List α) : cut l (some (-2)) none = l.drop (l.length - 2) := by
  unfold cut
  have e1 : HT.sIx l.length 0 (some (-2)) = l.length - 2 := by
    show (if (-2 : Int) < 0 then (-2 + (l.length : Int)).toNat else min (-2 : Int).toNat l.length) = _
    rw [if_pos (by decide)]
    omega
  rw [e1, HT.sIx_none, List.take_of_length_le (by rw [List.length_drop]; omega)]
def inRng (f : List Int) : Bool := f.all fun n => decide (32 ≤ n) && decide (n ≤ 65535)
def lawUnc (a : List Nat) : Option (List Int) :=
  if (wsort a = [115] ∨ wsort a = [109]) ∧ innerOf a ≠ [] ∧ a.take 2 ++ (a.drop 3).take 1 ++ a.drop (a.length - 2) = [61, 63, 63, 63, 61] then
    (if inRng (lawTold (decodeBy ((wsort a).headD 0) (innerOf a))) = true ∧ codedWord (allOctets (lawTold (decodeBy ((wsort a).headD 0) (innerOf a)))) ((wsort a).headD 0) = a then some (lawTold (decodeBy ((wsort a).headD 0) (innerOf a))) else none)
  else none
theorem o_addSle {a c : List Nat} {n : Nat} {S : Addr → Prop} (h : a.length + c.length ≤ n) (hn : n ≤ 1000000) : OpV S Dl.rAddS (.str a) (.str c) (.str (a ++ c)) := o_addS (sz (by omega))
abbrev N__law_uncoded : List PySem.Str := ["_law_atom", "_law_sort", "_law_inner_here", "_law_found", "_law_sign"]
theorem sc__law_uncoded : FnScope N__law_uncoded ["_law_atom"] (defScope s__law_uncoded) := ⟨rfl, rfl, rfl, by decide +kernel, rfl, by decide +kernel, by decide +kernel⟩
local macro_rules | `(tactic| walk_at "lit") => `(tactic| first
  | with_reducible exact ev_strL lit_nil
  | with_reducible exact ev_strL lit_3d3f3f3f3d
  | with_reducible exact ev_strL lit_73
  | with_reducible exact ev_strL lit_6d)
theorem c__law_uncoded (T : Tx K mg) : C8.Cal P w K mg base 4 "_law_uncoded" (spP (α := List Nat) (fun a => [.str a]) (fun a => a.length ≤ 500 ∧ ∀ c ∈ a, okc c) (fun a d => d = optL (lawUnc a))) [] :=
  have c__law_inner := c__law_inner (P := P) (w := w) (base := base) T
  have c__law_signs_told := c__law_signs_told (P := P) (w := w) (base := base) T
  have c__law_coded_word := c__law_coded_word (P := P) (w := w) (base := base) T
  cal_P T.d__law_uncoded sc__law_uncoded (fun _ => rfl) (by decide) (fun _ _ _ _ _ _ us hl => match us, hl with | [_], _ => rfl) (fun f cdv A outer s H E hr => ⟨_, (pss_cons (ps_par (by rfl) sc__law_uncoded.nd (i := 1) (j := 2) rfl rfl (by decide) rfl rfl (pa_cons (pe_slice sl_str (pv 0) (po_some pe_int) (po_some pe_int)) (pa_cons (pe_slice sl_str (pv 0) (po_some pe_int) (po_some (pe_un un_neg pe_int))) pa_nil)) (by rfl))
    (pss_cons (ps_if (PW.pt (pw_or (pt_cmpR op_notIn_seq (pv 1) (pe_tup (pa_cons pe_str (pa_cons pe_str pa_nil))) (by rfl)) (pw_or (pt_cmpR op_eq (pv 2) pe_str (by rfl)) (pw_or1 (pt_cmpR op_ne (pe_op op_addS (pe_op op_addS (pe_slice sl_str (pv 0) po_none (po_some pe_int)) (pe_slice sl_str (pv 0) (po_some pe_int) (po_some pe_int))) (pe_slice sl_str (pv 0) (po_some (pe_un un_neg pe_int)) po_none)) pe_str (by rfl))))))
    (pss_cons (ps_ret pe_non)
    pss_nil)
    pss_nil)
    (pss_cons (ps_set (i := 3) sc__law_uncoded.nd rfl (Or.inl rfl) (C8.pe_c c__law_signs_told hr (by decide) rfl (pa_cons (C8.pe_c c__law_inner hr (by decide) rfl (pa_cons (pv 2) (pa_cons (pv 1) pa_nil))) pa_nil)))
    (pss_cons (ps_if (PW.pt (pw_or (pt_cmpR (op_neD hr.units) (pe_lc (own := [("_law_sign", 4)]) (g := gName 4) rfl sc__law_uncoded.nd (pi_list (pv 3)) (blkOk_by (own := [("_law_sign", 4)]) (N := N__law_uncoded) (sc := defScope s__law_uncoded) (by decide +kernel)) (fun _ _ _ _ _ => pg_name (i := 4) sc__law_uncoded.nd rfl (Or.inl rfl)) (fun _ _ _ _ _ => (pts_one (pt_not (pt_chain op_lt op_lt pe_int (pv 4) pe_int)))) (fun _ _ _ _ _ => (pv 4))) (pe_lst pa_nil) (by rfl)) (pw_or1 (pt_cmpR op_ne (C8.pe_c c__law_coded_word hr (by decide) rfl (pa_cons (pv 3) (pa_cons (pv 1) pa_nil))) (pv 0) (by rfl)))))
    (pss_cons (ps_ret pe_non)
    pss_nil)
    pss_nil)
    (pss_cons (ps_ret (pv 3))
    pss_nil))))), fun a ha => by
    show Dl.Run No _ [.dat (.str a), .no, .no, .no, .no] _ _
    obtain ⟨hl, hok⟩ := ha
    refine run_par (ea_cons (EvV.cast (y := .str (wsort a)) (by
      repeat' walk_at "ev"
      exact sz (by omega)) (by exact congrArg D.str (cut_mid a 2 3))) (ea_cons (EvV.cast (y := .str (innerOf a)) (by
      repeat' walk_at "ev"
      exact sz (by omega)) (by exact congrArg D.str (cut_neg a 4 2 (by decide)))) ea_nil)) ?_
    have hi2 : (innerOf a).length ≤ a.length := by
      unfold innerOf
      rw [List.length_take, List.length_drop]
      omega
    have hi3 : ∀ c ∈ innerOf a, okc c := fun c hc => hok c (List.mem_of_mem_drop (List.mem_of_mem_take hc))
    have hs2 : (wsort a).length ≤ 1 := by
      unfold wsort
      rw [List.length_take]
      omega
    have hwu : lawUnc a = if (wsort a = [115] ∨ wsort a = [109]) ∧ innerOf a ≠ [] ∧ a.take 2 ++ (a.drop 3).take 1 ++ a.drop (a.length - 2) = [61, 63, 63, 63, 61] then (if inRng (lawTold (decodeBy ((wsort a).headD 0) (innerOf a))) = true ∧ codedWord (allOctets (lawTold (decodeBy ((wsort a).headD 0) (innerOf a)))) ((wsort a).headD 0) = a then some (lawTold (decodeBy ((wsort a).headD 0) (innerOf a))) else none) else none := rfl
    rw [hwu]
    generalize innerOf a = i at hi2 hi3
    generalize wsort a = q at hs2
    show Dl.Run No _ [.dat (.str a), .dat (.str q), .dat (.str i), .no, .no] _ _
    have hp1 : (a.take 2).length ≤ 500 := by rw [List.length_take]; omega
    have hp2 : ((a.drop 3).take 1).length ≤ 500 := by rw [List.length_take, List.length_drop]; omega
    have hp3 : (a.drop (a.length - 2)).length ≤ 500 := by rw [List.length_drop]; omega
    refine run_ifP (¬ ((q = [115] ∨ q = [109]) ∧ i ≠ [] ∧ a.take 2 ++ (a.drop 3).take 1 ++ a.drop (a.length - 2) = [61, 63, 63, 63, 61])) (eb_or (eb_B (ev_op (ev_dat rfl) (ev_tup (ea_cons (ev_strL lit_73) (ea_cons (ev_strL lit_6d) ea_nil)) (sz1 rfl)) (o_niTs (ss := [[115], [109]])))) (fun _ => eb_or (by repeat' walk_at "ev") (fun _ => eb_B (ev_op (x := .str (a.take 2 ++ (a.drop 3).take 1 ++ a.drop (a.length - 2))) (ev_op (ev_op (EvV.cast (y := .str (a.take 2)) (ev_slS (ev_dat rfl) eo_none (eo_some ev_int) (sz (by omega))) (by exact congrArg D.str (cut_to a 2))) (EvV.cast (y := .str ((a.drop 3).take 1)) (ev_slS (ev_dat rfl) (eo_some ev_int) (eo_some ev_int) (sz (by omega))) (by exact congrArg D.str (cut_mid a 3 4))) (o_addSle (n := 1000) (by omega) (by decide))) (EvV.cast (y := .str (a.drop (a.length - 2))) (ev_slS (ev_dat rfl) (eo_some (ev_neg ev_int)) eo_none (sz (by omega))) (by exact congrArg D.str (cut_last2 a))) (o_addSle (n := 1500) (by rw [List.length_append]; omega) (by decide))) (ev_strL lit_3d3f3f3f3d) o_neS)))) ?_ (fun h => ?_) (fun h => run_skip ?_)
    · generalize a.take 2 ++ (a.drop 3).take 1 ++ a.drop (a.length - 2) = z
      by_cases h1 : q = [115] ∨ q = [109] <;> by_cases h2 : i = [] <;> by_cases h3 : z = [61, 63, 63, 63, 61] <;> simp [h1, h2, h3]
    · refine run_retV ev_non ?_
      rw [if_neg h] <;> rfl
    · have h' := Classical.not_not.mp h
      rw [if_pos h']
      obtain ⟨c, rfl, hc⟩ : ∃ c, q = [c] ∧ isSort c := by
        rcases h'.1 with e | e
        · exact ⟨_, e, .inl rfl⟩
        · exact ⟨_, e, .inr rfl⟩
      show Dl.Run No _ _ _ fun d => d = optL (if inRng (lawTold (decodeBy c i)) = true ∧ codedWord (allOctets (lawTold (decodeBy c i))) c = a then some (lawTold (decodeBy c i)) else none)
      have hsix := sixOctets_byte i
      have hmkl := markOctets_len _ i (Nat.le_refl _)
      have hol : (decodeBy c i).length ≤ 2000 := by
        unfold decodeBy
        split <;> omega
      refine run_set (ed_call (decodeBy c i) (ea_cons (ed_call (i, c) (by repeat' walk_at "ev") ⟨by simp only; omega, hi3, hc⟩) ea_nil) (by omega)) ?_
      have hfl := lawTold_len _ (decodeBy c i) (Nat.le_refl _)
      show Dl.Run No _ [.dat (.str a), .dat (.str [c]), .dat (.str i), .dat (.lst ((lawTold (decodeBy c i)).map .int)), .no] _ _
      generalize lawTold (decodeBy c i) = f at hfl
      have hrng : decide (f.filter (fun n => !(decide (31 < n) && decide (n < 65536))) = []) = inRng f := by
        clear hfl
        induction f with
        | nil => rfl
        | cons n r ih =>
          unfold inRng at ih ⊢
          rw [List.filter_cons, List.all_cons]
          by_cases h : 32 ≤ n ∧ n ≤ 65535
          · rw [if_neg (by rw [decide_eq_true (by omega), decide_eq_true (by omega)]; decide), ih, decide_eq_true h.1, decide_eq_true h.2]
            rfl
          · have : (decide (32 ≤ n) && decide (n ≤ 65535)) = false := by
              rw [← Bool.decide_and]
              exact decide_eq_false h
            have h2 : (decide (31 < n) && decide (n < 65536)) = false := by
              rw [← Bool.decide_and]
              exact decide_eq_false (by omega)
            rw [if_pos (by rw [h2]; rfl), this]
            rfl
      refine run_ifP (¬ (inRng f = true ∧ codedWord (allOctets f) c = a)) (eb_or (a := !inRng f) (eb_B (EvV.cast (ev_op (EvV.cast (y := .lst ((f.filter (fun n => !(decide (31 < n) && decide (n < 65536)))).map .int)) (EvF.v (ef_lcMF f .int (fun n => !(decide (31 < n) && decide (n < 65536))) .int (ei_list (ev_dat rfl)) (fun n _ => eb_not (eb_B (ev_chain ev_int (ev_dat rfl) o_lt (fun _ => ev_int) (fun _ => o_lt)))) (fun n _ _ => ev_dat rfl) (sz (by omega)))) rfl) (ev_lst ea_nil (sz1 rfl)) o_neNil) (by rw [hrng]))) (fun hin => eb_B (ev_op (ed_call (f, c) (by repeat' walk_at "ev") ⟨by simp only; omega, fun n hn => ?_, hc⟩) (ev_dat rfl) o_neS))) ?_ (fun h => ?_) (fun h => run_skip ?_)
      · have := List.all_eq_true.mp (show inRng f = true by cases hz : inRng f with
          | true => rfl
          | false => rw [hz] at hin; cases hin) n hn
        rw [Bool.and_eq_true] at this
        exact ⟨by have := of_decide_eq_true this.1; omega, of_decide_eq_true this.2⟩
      · by_cases h1 : inRng f = true <;> by_cases h2 : codedWord (allOctets f) c = a <;> simp [h1, h2]
      · refine run_retV ev_non ?_
        rw [if_neg h] <;> rfl
      · refine run_retV (ev_dat rfl) ?_
        rw [if_pos (Classical.not_not.mp h)] <;> rfl⟩)
end
end Fk
/-! Coded words: what is encoded is decoded; the law's decoding is the program's. -/
namespace Fk
open PySem L2 Dl Mr
/-! signs as octets -/
def Rng (s : List Int) : Prop := ∀ n ∈ s, 32 ≤ n ∧ n ≤ 65535
theorem signAt_oct {n : Int} (h : 32 ≤ n ∧ n ≤ 65535) (r : List Int) : signAt (signOctets n ++ r) = some n := by
  have key : ∀ (one : Int) (m : List Int), manyOf one - 1 = m.length → signOctets n = one :: m → signVal one m = n → signAt (signOctets n ++ r) = some n := fun one m hm ho hv => by
    rw [ho, List.cons_append]
    simp only [signAt]
    have ht : (m ++ r).take (manyOf one - 1) = m := by rw [hm, List.take_left]
    rw [ht, hv, if_pos ⟨h.1, h.2, ho⟩]
  unfold signOctets at key ⊢
  by_cases h1 : n < 128
  · simp only [h1, if_true] at key ⊢
    refine key n [] ?_ rfl ?_
    · unfold manyOf
      rw [if_neg (by omega), if_neg (by omega)]
      rfl
    · unfold signVal
      rw [if_neg (by omega), if_neg (by omega)]
      simp
  · by_cases h2 : n < 2048
    · simp only [h1, h2, if_true, if_false] at key ⊢
      refine key (192 + n / 64) [128 + n % 64] ?_ rfl ?_
      · unfold manyOf
        rw [if_pos (by omega), if_neg (by omega)]
        rfl
      · unfold signVal
        rw [if_neg (by omega), if_pos (by omega)]
        simp only [List.foldl_cons, List.foldl_nil]
        omega
    · simp only [h1, h2, if_false] at key ⊢
      refine key (224 + n / 4096) [128 + n / 64 % 64, 128 + n % 64] ?_ rfl ?_
      · unfold manyOf
        rw [if_pos (by omega), if_pos (by omega)]
        rfl
      · unfold signVal
        rw [if_pos (by omega)]
        simp only [List.foldl_cons, List.foldl_nil]
        omega
theorem signsTold_cons {os : List Int} {s : Int} (h : signAt os = some s) : signsTold os = (s :: (signsTold (os.drop (signOctets s).length)).1, (signOctets s).length + (signsTold (os.drop (signOctets s).length)).2) := by
  rw [signsTold]
  split
  · next h' => rw [h] at h'; cases h'
  · next h' =>
    rw [h] at h'
    cases h'
    rfl
theorem signsTold_none {os : List Int} (h : signAt os = none) : signsTold os = ([], 0) := by
  rw [signsTold]
  split
  · rfl
  · next h' => rw [h] at h'; cases h'
theorem told_octets : ∀ s : List Int, Rng s → signsTold (allOctets s) = (s, (allOctets s).length)
  | [], _ => signsTold_none rfl
  | n :: r, h => by
    have ih := told_octets r (fun x hx => h x (List.mem_cons_of_mem _ hx))
    have e : allOctets (n :: r) = signOctets n ++ allOctets r := rfl
    rw [e, signsTold_cons (signAt_oct (h n (List.mem_cons_self ..)) _), List.drop_left, ih, List.length_append]
theorem signAt_some {os : List Int} {s : Int} (h : signAt os = some s) : (32 ≤ s ∧ s ≤ 65535) ∧ signOctets s = os.take (signOctets s).length := by
  cases os with
  | nil => cases h
  | cons one r =>
    simp only [signAt] at h
    split at h
    · next hc =>
      have := Option.some.inj h
      rw [this] at hc
      refine ⟨⟨hc.1, hc.2.1⟩, ?_⟩
      have h2 := hc.2.2
      have hl := congrArg List.length h2
      rw [List.length_cons] at hl
      rw [hl, List.take_succ_cons]
      rw [h2]
      congr 1
      rw [List.length_take] at hl ⊢
      rcases Nat.le_total (manyOf one - 1) r.length with z | z
      · rw [Nat.min_eq_left z]
      · rw [Nat.min_eq_right z, List.take_of_length_le z, List.take_length]
    · cases h
theorem told_back : ∀ (k : Nat) (os : List Int), os.length ≤ k → Rng (signsTold os).1 ∧ allOctets (signsTold os).1 = os.take (signsTold os).2
  | k, os, hk => by
    cases h : signAt os with
    | none =>
      rw [signsTold_none h]
      exact ⟨fun _ z => (by cases z), by simp [allOctets]⟩
    | some s =>
      obtain ⟨h1, h2⟩ := signAt_some h
      rw [signsTold_cons h]
      have hp := signOctets_pos s
      cases k with
      | zero =>
        have : os = [] := List.eq_nil_of_length_eq_zero (by omega)
        rw [this] at h
        cases h
      | succ k =>
        have hne : os ≠ [] := fun z => by rw [z] at h; cases h
        have hlp := List.length_pos_iff.mpr hne
        obtain ⟨i1, i2⟩ := told_back k (os.drop (signOctets s).length) (by rw [List.length_drop]; omega)
        refine ⟨fun n hn => ?_, ?_⟩
        · rcases List.mem_cons.mp hn with e | e
          · rw [e]; exact h1
          · exact i1 n e
        · show signOctets s ++ allOctets _ = _
          rw [i2, List.take_add]
          congr 1
theorem lawTold_octets : ∀ s : List Int, Rng s → lawTold (allOctets s) = s
  | [], _ => by
    show lawTold [] = []
    rw [lawTold]
  | n :: r, h => by
    have ih := lawTold_octets r (fun x hx => h x (List.mem_cons_of_mem _ hx))
    have hn := h n (List.mem_cons_self ..)
    have e : allOctets (n :: r) = signOctets n ++ allOctets r := rfl
    have key : ∀ (one : Int) (m : List Int), manyOf one - 1 = m.length → signOctets n = one :: m → m.foldl (fun s o => s * 64 + o - 128) (one - (if 224 ≤ one then 224 else if 192 ≤ one then 192 else 0)) = n → lawTold (signOctets n ++ allOctets r) = n :: r := fun one m hm ho hv => by
      rw [ho, List.cons_append, lawTold]
      have ht : (m ++ allOctets r).take (manyOf one - 1) = m := by rw [hm, List.take_left]
      have hd : (m ++ allOctets r).drop (manyOf one - 1) = allOctets r := by rw [hm, List.drop_left]
      rw [hd, ih]
      unfold lawVal
      rw [ht, hm, List.take_left, hv]
    rw [e]
    unfold signOctets at key ⊢
    by_cases h1 : n < 128
    · simp only [h1, if_true] at key ⊢
      refine key n [] ?_ rfl ?_
      · unfold manyOf
        rw [if_neg (by omega), if_neg (by omega)]
        rfl
      · rw [if_neg (by omega), if_neg (by omega)]
        simp
    · by_cases h2 : n < 2048
      · simp only [h1, h2, if_true, if_false] at key ⊢
        refine key (192 + n / 64) [128 + n % 64] ?_ rfl ?_
        · unfold manyOf
          rw [if_pos (by omega), if_neg (by omega)]
          rfl
        · rw [if_neg (by omega), if_pos (by omega)]
          simp only [List.foldl_cons, List.foldl_nil]
          omega
      · simp only [h1, h2, if_false] at key ⊢
        refine key (224 + n / 4096) [128 + n / 64 % 64, 128 + n % 64] ?_ rfl ?_
        · unfold manyOf
          rw [if_pos (by omega), if_pos (by omega)]
          rfl
        · rw [if_pos (by omega)]
          simp only [List.foldl_cons, List.foldl_nil]
          omega
/-! octets as marks -/
def Byt (os : List Int) : Prop := ∀ o ∈ os, 0 ≤ o ∧ o < 256
theorem markOf_cases : ∀ k : Nat, k < 256 → (markOf (k : Int) = [95] ∧ k = 32) ∨ (markOf (k : Int) = [k] ∧ k ≠ 61 ∧ k ≠ 95) ∨ markOf (k : Int) = twoFigures (k : Int) := by decide +kernel
theorem hex_back : ∀ k : Nat, k < 256 → 16 * ixOf l_SIXTEEN (hexCh ((k : Int) / 16)) + ixOf l_SIXTEEN (hexCh ((k : Int) % 16)) = (k : Int) := by decide +kernel
theorem marks_back : ∀ os : List Int, Byt os → markOctets (Mr.marked os) = os
  | [], _ => by
    show markOctets [] = []
    rw [markOctets]
  | o :: r, h => by
    have ih := marks_back r (fun x hx => h x (List.mem_cons_of_mem _ hx))
    have ho := h o (List.mem_cons_self ..)
    obtain ⟨k, rfl⟩ : ∃ k : Nat, o = (k : Int) := ⟨o.toNat, by omega⟩
    have e : Mr.marked ((k : Int) :: r) = markOf (k : Int) ++ Mr.marked r := rfl
    rw [e]
    rcases markOf_cases k (by omega) with ⟨e1, rfl⟩ | ⟨e1, h1, h2⟩ | e1
    · rw [e1]
      show markOctets (95 :: Mr.marked r) = _
      rw [markOctets, if_neg (by decide), if_pos rfl, ih]
      rfl
    · rw [e1]
      show markOctets (k :: Mr.marked r) = _
      rw [markOctets, if_neg h1, if_neg h2, ih]
    · rw [e1]
      show markOctets (61 :: hexCh ((k : Int) / 16) :: hexCh ((k : Int) % 16) :: Mr.marked r) = _
      rw [markOctets, if_pos rfl]
      have : hexPair (hexCh ((k : Int) / 16) :: hexCh ((k : Int) % 16) :: Mr.marked r) = (k : Int) := hex_back k (by omega)
      rw [this]
      show (k : Int) :: markOctets (Mr.marked r) = _
      rw [ih]
/-! octets as sixes -/
theorem six_back : ∀ k : Nat, k < 64 → ixOf l_SIX (sixCh (k : Int)) = (k : Int) ∧ sixCh (k : Int) ≠ 61 ∧ sixCh (k : Int) ∈ l_ATOM_SIGNS := by decide +kernel
theorem sixBack {n : Int} (h : 0 ≤ n ∧ n < 64) : ixOf l_SIX (sixCh n) = n ∧ sixCh n ≠ 61 ∧ sixCh n ∈ l_ATOM_SIGNS := by
  obtain ⟨k, rfl⟩ : ∃ k : Nat, n = (k : Int) := ⟨n.toNat, by omega⟩
  exact six_back k (by omega)
def sixRaw : List Int → List Nat
  | [] => []
  | [a] => [sixCh (65536 * a / 262144), sixCh (65536 * a / 4096 % 64)]
  | [a, b] => [sixCh ((65536 * a + 256 * b) / 262144), sixCh ((65536 * a + 256 * b) / 4096 % 64), sixCh ((65536 * a + 256 * b) / 64 % 64)]
  | a :: b :: c :: r => sixCh ((65536 * a + 256 * b + c) / 262144) :: sixCh ((65536 * a + 256 * b + c) / 4096 % 64) :: sixCh ((65536 * a + 256 * b + c) / 64 % 64) :: sixCh ((65536 * a + 256 * b + c) % 64) :: sixRaw r
theorem range_flat {α : Type} (f : Nat → List α) (n : Nat) : (List.range (n + 1)).flatMap f = f 0 ++ (List.range n).flatMap fun k => f (k + 1) := by
  rw [List.range_succ_eq_map, List.flatMap_cons, List.flatMap_map]
theorem sixBits_cons3 (a b c : Int) (r : List Int) : sixBits (a :: b :: c :: r) = sixGroup [a, b, c] ++ sixBits r := by
  unfold sixBits
  have e : ((a :: b :: c :: r).length + 2) / 3 = (r.length + 2) / 3 + 1 := by simp only [List.length_cons]; omega
  rw [e, range_flat]
  congr 1
theorem sixBits_one {g : List Int} (h : 1 ≤ g.length ∧ g.length ≤ 3) : sixBits g = sixGroup g := by
  unfold sixBits
  have e : (g.length + 2) / 3 = 0 + 1 := by omega
  rw [e, range_flat, List.range_zero, List.flatMap_nil, List.append_nil, Nat.mul_zero, List.drop_zero, List.take_of_length_le h.2]
theorem sixBits_pad : ∀ (n : Nat) (os : List Int), os.length ≤ n → ∃ p, sixBits os = sixRaw os ++ List.replicate p 61
  | _, [], _ => ⟨0, rfl⟩
  | _, [a], _ => ⟨2, by
      rw [sixBits_one ⟨by simp, by simp⟩]
      unfold sixGroup sixRaw sixNum
      simp⟩
  | _, [a, b], _ => ⟨1, by
      rw [sixBits_one ⟨by simp, by simp⟩]
      unfold sixGroup sixRaw sixNum
      simp⟩
  | 0, _ :: _ :: _ :: _, h => by simp at h
  | n + 1, a :: b :: c :: r, h => by
    obtain ⟨p, hp⟩ := sixBits_pad n r (by simp only [List.length_cons] at h; omega)
    refine ⟨p, ?_⟩
    rw [sixBits_cons3, hp]
    unfold sixGroup sixNum
    simp [sixRaw]
theorem sixRaw_in : ∀ (n : Nat) (os : List Int), os.length ≤ n → Byt os → ∀ c ∈ sixRaw os, c ≠ 61 ∧ c ∈ l_ATOM_SIGNS
  | _, [], _, _ => fun c hc => by cases hc
  | _, [a], _, h => fun c hc => by
    have ha := h a (List.mem_cons_self ..)
    simp only [sixRaw, List.mem_cons, List.not_mem_nil, or_false] at hc
    rcases hc with rfl | rfl
    · exact (sixBack (by omega)).2
    · exact (sixBack (by omega)).2
  | _, [a, b], _, h => fun c hc => by
    have ha := h a (by simp)
    have hb := h b (by simp)
    simp only [sixRaw, List.mem_cons, List.not_mem_nil, or_false] at hc
    rcases hc with rfl | rfl | rfl
    · exact (sixBack (by omega)).2
    · exact (sixBack (by omega)).2
    · exact (sixBack (by omega)).2
  | 0, _ :: _ :: _ :: _, h, _ => by simp at h
  | n + 1, a :: b :: d :: r, h, hb => fun c hc => by
    have h1 := hb a (by simp)
    have h2 := hb b (by simp)
    have h3 := hb d (by simp)
    simp only [sixRaw, List.mem_cons] at hc
    rcases hc with rfl | rfl | rfl | rfl | hc
    · exact (sixBack (by omega)).2
    · exact (sixBack (by omega)).2
    · exact (sixBack (by omega)).2
    · exact (sixBack (by omega)).2
    · exact sixRaw_in n r (by simp only [List.length_cons] at h; omega) (fun x hx => hb x (by simp [hx])) c hc
theorem rstrip_pad (c : Nat) (l : List Nat) (p : Nat) (h : ∀ x ∈ l, x ≠ c) : rstripC c (l ++ List.replicate p c) = l := by
  unfold rstripC
  rw [List.reverse_append, List.reverse_replicate]
  have h1 : ∀ p : Nat, (List.replicate p c ++ l.reverse).dropWhile (fun x => x == c) = l.reverse := fun p => by
    induction p with
    | zero =>
      rw [List.replicate_zero, List.nil_append]
      cases hr : l.reverse with
      | nil => rfl
      | cons y t =>
        have hy : y ∈ l := List.mem_reverse.mp (by rw [hr]; exact List.mem_cons_self ..)
        rw [List.dropWhile_cons, if_neg (by simpa using h y hy)]
    | succ p ih =>
      rw [List.replicate_succ, List.cons_append, List.dropWhile_cons, if_pos (by simp), ih]
  rw [h1 p, List.reverse_reverse]
def unSix (b : List Nat) : List Int := (List.range ((b.length + 3) / 4)).flatMap fun k => sixPart ((b.drop (4 * k)).take 4)
theorem unSix_cons4 (a b c d : Nat) (r : List Nat) : unSix (a :: b :: c :: d :: r) = sixPart [a, b, c, d] ++ unSix r := by
  unfold unSix
  have e : ((a :: b :: c :: d :: r).length + 3) / 4 = (r.length + 3) / 4 + 1 := by simp only [List.length_cons]; omega
  rw [e, range_flat]
  congr 1
theorem unSix_one {g : List Nat} (h : 1 ≤ g.length ∧ g.length ≤ 4) : unSix g = sixPart g := by
  unfold unSix
  have e : (g.length + 3) / 4 = 0 + 1 := by omega
  rw [e, range_flat, List.range_zero, List.flatMap_nil, List.append_nil, Nat.mul_zero, List.drop_zero, List.take_of_length_le h.2]
theorem unSix_raw : ∀ (n : Nat) (os : List Int), os.length ≤ n → Byt os → unSix (sixRaw os) = os
  | _, [], _, _ => rfl
  | _, [a], _, h => by
    have ha := h a (List.mem_cons_self ..)
    show unSix [sixCh (65536 * a / 262144), sixCh (65536 * a / 4096 % 64)] = [a]
    rw [unSix_one ⟨by simp, by simp⟩]
    unfold sixPart
    simp only [List.length_cons, List.length_nil]
    show List.take 1 [_, _, _] = _
    have hf : ([sixCh (65536 * a / 262144), sixCh (65536 * a / 4096 % 64)] ++ List.replicate 2 65).foldl (fun n c => 64 * n + ixOf l_SIX c) 0 = 65536 * a := by
      show 64 * (64 * (64 * (64 * 0 + ixOf l_SIX (sixCh (65536 * a / 262144))) + ixOf l_SIX (sixCh (65536 * a / 4096 % 64))) + ixOf l_SIX 65) + ixOf l_SIX 65 = _
      rw [(sixBack (n := 65536 * a / 262144) (by omega)).1, (sixBack (n := 65536 * a / 4096 % 64) (by omega)).1, show ixOf l_SIX 65 = 0 by decide]
      omega
    rw [hf]
    show [65536 * a / 65536] = [a]
    congr 1
    omega
  | _, [a, b], _, h => by
    have ha := h a (by simp)
    have hb := h b (by simp)
    show unSix [sixCh ((65536 * a + 256 * b) / 262144), sixCh ((65536 * a + 256 * b) / 4096 % 64), sixCh ((65536 * a + 256 * b) / 64 % 64)] = [a, b]
    rw [unSix_one ⟨by simp, by simp⟩]
    unfold sixPart
    simp only [List.length_cons, List.length_nil]
    show List.take 2 [_, _, _] = _
    have hf : ([sixCh ((65536 * a + 256 * b) / 262144), sixCh ((65536 * a + 256 * b) / 4096 % 64), sixCh ((65536 * a + 256 * b) / 64 % 64)] ++ List.replicate 1 65).foldl (fun n c => 64 * n + ixOf l_SIX c) 0 = 65536 * a + 256 * b := by
      show 64 * (64 * (64 * (64 * 0 + ixOf l_SIX (sixCh ((65536 * a + 256 * b) / 262144))) + ixOf l_SIX (sixCh ((65536 * a + 256 * b) / 4096 % 64))) + ixOf l_SIX (sixCh ((65536 * a + 256 * b) / 64 % 64))) + ixOf l_SIX 65 = _
      rw [(sixBack (n := (65536 * a + 256 * b) / 262144) (by omega)).1, (sixBack (n := (65536 * a + 256 * b) / 4096 % 64) (by omega)).1, (sixBack (n := (65536 * a + 256 * b) / 64 % 64) (by omega)).1, show ixOf l_SIX 65 = 0 by decide]
      omega
    rw [hf]
    show [(65536 * a + 256 * b) / 65536, (65536 * a + 256 * b) / 256 % 256] = [a, b]
    congr 1
    · omega
    · congr 1
      omega
  | 0, _ :: _ :: _ :: _, h, _ => by simp at h
  | n + 1, a :: b :: c :: r, h, hh => by
    have ha := hh a (by simp)
    have hb := hh b (by simp)
    have hc := hh c (by simp)
    have ih := unSix_raw n r (by simp only [List.length_cons] at h; omega) (fun x hx => hh x (by simp [hx]))
    show unSix (sixCh ((65536 * a + 256 * b + c) / 262144) :: sixCh ((65536 * a + 256 * b + c) / 4096 % 64) :: sixCh ((65536 * a + 256 * b + c) / 64 % 64) :: sixCh ((65536 * a + 256 * b + c) % 64) :: sixRaw r) = _
    rw [unSix_cons4, ih]
    have hp : sixPart [sixCh ((65536 * a + 256 * b + c) / 262144), sixCh ((65536 * a + 256 * b + c) / 4096 % 64), sixCh ((65536 * a + 256 * b + c) / 64 % 64), sixCh ((65536 * a + 256 * b + c) % 64)] = [a, b, c] := by
      unfold sixPart
      simp only [List.length_cons, List.length_nil]
      show List.take 3 [_, _, _] = _
      have hf : ([sixCh ((65536 * a + 256 * b + c) / 262144), sixCh ((65536 * a + 256 * b + c) / 4096 % 64), sixCh ((65536 * a + 256 * b + c) / 64 % 64), sixCh ((65536 * a + 256 * b + c) % 64)] ++ List.replicate 0 65).foldl (fun n c => 64 * n + ixOf l_SIX c) 0 = 65536 * a + 256 * b + c := by
        show 64 * (64 * (64 * (64 * 0 + ixOf l_SIX (sixCh ((65536 * a + 256 * b + c) / 262144))) + ixOf l_SIX (sixCh ((65536 * a + 256 * b + c) / 4096 % 64))) + ixOf l_SIX (sixCh ((65536 * a + 256 * b + c) / 64 % 64))) + ixOf l_SIX (sixCh ((65536 * a + 256 * b + c) % 64)) = _
        rw [(sixBack (n := (65536 * a + 256 * b + c) / 262144) (by omega)).1, (sixBack (n := (65536 * a + 256 * b + c) / 4096 % 64) (by omega)).1, (sixBack (n := (65536 * a + 256 * b + c) / 64 % 64) (by omega)).1, (sixBack (n := (65536 * a + 256 * b + c) % 64) (by omega)).1]
        omega
      rw [hf]
      show [(65536 * a + 256 * b + c) / 65536, (65536 * a + 256 * b + c) / 256 % 256, (65536 * a + 256 * b + c) % 256] = [a, b, c]
      congr 1
      · omega
      · congr 1
        · omega
        · congr 1
          omega
    rw [hp]
    rfl
theorem sixes_back (os : List Int) (h : Byt os) : sixOctets (sixBits os) = os := by
  obtain ⟨p, hp⟩ := sixBits_pad _ os (Nat.le_refl _)
  have hr : rstripC 61 (sixBits os) = sixRaw os := by
    rw [hp]
    exact rstrip_pad 61 _ p fun x hx => (sixRaw_in _ os (Nat.le_refl _) h x hx).1
  have e : sixOctets (sixBits os) = unSix (rstripC 61 (sixBits os)) := rfl
  rw [e, hr]
  exact unSix_raw _ os (Nat.le_refl _) h
/-! coded words -/
def enc (os : List Int) (c : Nat) : List Nat := if c = 115 then sixBits os else Mr.marked os
theorem coded_form (os : List Int) (c : Nat) : codedWord os c = 61 :: 63 :: c :: 63 :: (enc os c ++ [63, 61]) := by
  unfold codedWord enc
  simp
theorem inner_coded (os : List Int) (c : Nat) : innerOf (codedWord os c) = enc os c ∧ wsort (codedWord os c) = [c] := by
  rw [coded_form]
  refine ⟨?_, rfl⟩
  unfold innerOf
  show (enc os c ++ [63, 61]).take ((enc os c ++ [63, 61]).length + 1 + 1 + 1 + 1 - 6) = _
  rw [List.length_append]
  show (enc os c ++ [63, 61]).take ((enc os c).length + 2 + 4 - 6) = _
  rw [show (enc os c).length + 2 + 4 - 6 = (enc os c).length by omega, List.take_left]
theorem decode_back (os : List Int) (h : Byt os) (c : Nat) : decodeBy c (enc os c) = os := by
  unfold decodeBy enc
  split
  · exact sixes_back os h
  · exact marks_back os h
theorem Rng.byt {s : List Int} (h : Rng s) : Byt (allOctets s) := fun o ho => by
  obtain ⟨n, hn, ho⟩ := List.mem_flatMap.mp ho
  have := h n hn
  exact (octs_signOctets (n := n) (by omega)).2 o ho
theorem enc_ne {os : List Int} {c : Nat} (h : os ≠ []) : enc os c ≠ [] := by
  cases os with
  | nil => exact absurd rfl h
  | cons o r =>
    unfold enc
    split
    · unfold sixBits
      have e : ((o :: r).length + 2) / 3 = (r.length / 3) + 1 := by simp only [List.length_cons]; omega
      rw [e, range_flat]
      intro z
      have h1 := (List.append_eq_nil_iff.mp z).1
      unfold sixGroup at h1
      have h2 := (List.append_eq_nil_iff.mp h1).1
      simp at h2
    · show markOf o ++ Mr.marked r ≠ []
      intro z
      have h1 := (List.append_eq_nil_iff.mp z).1
      unfold markOf twoFigures at h1
      split at h1
      · cases h1
      · split at h1 <;> cases h1
/-- a coded word of a saying is read as it -/
theorem coded_said {g : List Int} {c : Nat} (hg : g ≠ []) (hr : Rng g) (hc : isSort c) : wordSaying (codedWord (allOctets g) c) = some g := by
  obtain ⟨h1, h2⟩ := inner_coded (allOctets g) c
  have ho : allOctets g ≠ [] := by
    cases g with
    | nil => exact absurd rfl hg
    | cons n r =>
      have := signOctets_pos n
      intro z
      have h3 := (List.append_eq_nil_iff.mp (show signOctets n ++ allOctets r = [] from z)).1
      rw [h3] at this
      cases this
  unfold wordSaying
  rw [h1, h2]
  have hd : decodeBy ([c].headD 0) (enc (allOctets g) c) = allOctets g := decode_back _ hr.byt c
  rw [hd, told_octets g hr]
  rw [if_pos, if_pos]
  · exact ⟨rfl, rfl⟩
  · refine ⟨?_, enc_ne ho, ?_⟩
    · rcases hc with rfl | rfl
      · exact .inl rfl
      · exact .inr rfl
    · rw [coded_form]
      simp
theorem inRng_iff {f : List Int} : inRng f = true ↔ Rng f := by
  unfold inRng Rng
  rw [List.all_eq_true]
  exact ⟨fun h n hn => by
    have := h n hn
    rw [Bool.and_eq_true] at this
    exact ⟨of_decide_eq_true this.1, of_decide_eq_true this.2⟩, fun h n hn => by
    have := h n hn
    rw [decide_eq_true this.1, decide_eq_true this.2]
    rfl⟩
/-- the law's reading of an atom is the program's -/
theorem unc_eq (a : List Nat) : lawUnc a = wordSaying a := by
  cases hw : wordSaying a with
  | some s =>
    unfold wordSaying at hw
    split at hw
    · next hc =>
      split at hw
      · next hd =>
        have hs := Option.some.inj hw
        obtain ⟨b1, b2⟩ := told_back _ (decodeBy ((wsort a).headD 0) (innerOf a)) (Nat.le_refl _)
        rw [hd.2, List.take_length] at b2
        have b1' := b1
        rw [hs] at b1 b2
        unfold lawUnc
        have hlt : lawTold (decodeBy ((wsort a).headD 0) (innerOf a)) = s := by rw [← b2, lawTold_octets s b1]
        rw [hlt, b2, if_pos, if_pos ⟨inRng_iff.mpr b1, hd.1⟩]
        refine ⟨hc.1, hc.2.1, ?_⟩
        have hsl : (wsort a).length = 1 := by rcases hc.1 with e | e <;> rw [e] <;> rfl
        obtain ⟨q, hq⟩ := List.length_eq_one_iff.mp hsl
        have h3 := hc.2.2
        rw [hq] at h3
        rw [h3]
        simp
      · cases hw
    · cases hw
  | none =>
    cases hl : lawUnc a with
    | none => rfl
    | some f =>
      unfold lawUnc at hl
      split at hl
      · next hc =>
        split at hl
        · next hd =>
          have hs := Option.some.inj hl
          rw [hs] at hd
          have hr := inRng_iff.mp hd.1
          obtain ⟨c, hq, hcs⟩ : ∃ c, wsort a = [c] ∧ isSort c := by
            rcases hc.1 with e | e
            · exact ⟨_, e, .inl rfl⟩
            · exact ⟨_, e, .inr rfl⟩
          rw [hq] at hd
          have hd2 : codedWord (allOctets f) c = a := hd.2
          have hf : f ≠ [] := by
            intro z
            rw [z] at hd2
            have h2 := (inner_coded (allOctets []) c).1
            rw [hd2] at h2
            have h3 := hc.2.1
            rw [h2] at h3
            apply h3
            unfold enc
            split <;> rfl
          have := coded_said hf hr hcs
          rw [hd2, hw] at this
          cases this
        · cases hl
      · cases hl
end Fk
namespace Fk
open PySem PySem.Spec PyProof.Rows L2 Dl Mr
local macro_rules | `(tactic| walk_at "ev") => `(tactic| first
  | (with_reducible apply ev_dat) <;> rfl
  | with_reducible apply ev_int
  | with_reducible apply ev_bl
  | with_reducible apply ev_non
  | walk_at "lit"
  | with_reducible apply ev_str
  | with_reducible apply eb_test
  | with_reducible apply eb_B
  | with_reducible apply ev_op
  | with_reducible apply o_add
  | with_reducible apply o_sub
  | with_reducible apply o_mul
  | with_reducible apply o_fdiv
  | with_reducible apply o_fdivW
  | with_reducible apply o_mod
  | with_reducible apply o_lt
  | with_reducible apply o_le
  | with_reducible apply o_gt
  | with_reducible apply o_ge
  | with_reducible apply o_eqI
  | with_reducible apply o_neI
  | with_reducible apply o_eqS
  | with_reducible apply o_neS
  | with_reducible apply o_neInts
  | with_reducible apply o_neNil
  | with_reducible apply o_eqNil
  | with_reducible apply o_eqInts
  | with_reducible apply o_addS
  | with_reducible apply o_in1
  | with_reducible apply o_ni1
  | with_reducible apply o_inS
  | with_reducible apply o_mulS
  | with_reducible apply ea_nil
  | with_reducible apply ea_cons
  | with_reducible apply ev_tup
  | with_reducible apply ev_lst
  | with_reducible apply eb_not
  | with_reducible apply eb_and
  | with_reducible apply eb_or
  | with_reducible apply ev_andV
  | with_reducible apply ev_orV
  | with_reducible apply ev_notV
  | with_reducible apply ev_chain
  | with_reducible apply ev_neg
  | with_reducible apply ev_slS
  | with_reducible apply ev_slL
  | with_reducible apply eo_none
  | with_reducible apply eo_some
  | with_reducible apply ev_cb
  | with_reducible apply cd_lenT
  | with_reducible apply cd_lenL
  | with_reducible apply cd_int
  | with_reducible apply cd_max
  | with_reducible apply cd_min
  | with_reducible apply ev_bm
  | with_reducible apply ev_bm0
  | with_reducible apply md_strip
  | with_reducible apply md_rstrip
  | with_reducible apply md_find
  | with_reducible apply md_index
  | with_reducible apply md_starts
  | with_reducible apply md_lower
  | with_reducible apply md_upper
  | with_reducible apply ei_str
  | with_reducible apply ei_list
  | with_reducible exact sz1 rfl
  | with_reducible exact Nat.le_of_ble_eq_true rfl
  | ((with_reducible apply cmulL) <;> decide)
  | ((with_reducible apply cmulR) <;> decide)
  | ((with_reducible apply cdiv) <;> decide)
  | ((with_reducible show (0 : Int) < _) <;> decide)
  | (with_reducible intro _hyp))

section
variable {P : Program} {w : World} {K : PySem.W.Frag} {mg : PySem.Str → Option Value} {base : Heap}
/-- a word as the law holds it: sort, text, what follows -/
abbrev Lw := List Nat × List Nat × List D
def Lw.d (x : Lw) : D := .tup (.str x.1 :: .str x.2.1 :: x.2.2)
def Lw.wd (x : Lw) : Wd := ⟨x.1, x.2.1, 0, 0⟩
abbrev N__law_phrase_told : List PySem.Str := ["_law_texts", "_law_found", "_law_is_coded", "_law_k", "_law_word", "_law_saying_here"]
theorem sc__law_phrase_told : FnScope N__law_phrase_told ["_law_texts"] (defScope s__law_phrase_told) := ⟨rfl, rfl, rfl, by decide +kernel, rfl, by decide +kernel, by decide +kernel⟩
local macro_rules | `(tactic| walk_at "lit") => `(tactic| first
  | with_reducible exact ev_strL lit_61746f6d)
theorem c__law_phrase_told (T : Tx K mg) : C8.Cal P w K mg base 5 "_law_phrase_told" (spP (α := List Lw) (fun a => [.lst (a.map Lw.d)]) (fun a => WsOk (a.map Lw.wd)) (fun a d => d = .lst ((phraseSaying (a.map Lw.wd)).map .int))) [] :=
  have c__law_uncoded := c__law_uncoded (P := P) (w := w) (base := base) T
  have c__law_numbers := c__law_numbers (P := P) (w := w) (base := base) T
  cal_P T.d__law_phrase_told sc__law_phrase_told (fun _ => rfl) (by decide) (fun _ _ _ _ _ _ us hl => match us, hl with | [_], _ => rfl) (fun f cdv A outer s H E hr => ⟨_, (pss_cons (ps_set (i := 1) sc__law_phrase_told.nd rfl (Or.inl rfl) (pe_lst pa_nil))
    (pss_cons (ps_set (i := 2) sc__law_phrase_told.nd rfl (Or.inl rfl) pe_bl)
    (pss_cons (ps_for PassesOwn.never rfl (pi_enum (by rfl) T.n_enumerate (pa_cons (pv 0) pa_nil)) (pg_tup rfl (pgs_cons (pg_name (i := 3) sc__law_phrase_told.nd rfl (Or.inl rfl)) (pgs_cons (pg_name (i := 4) sc__law_phrase_told.nd rfl (Or.inl rfl)) pgs_nil)))
    (pss_cons (ps_set (i := 5) sc__law_phrase_told.nd rfl (Or.inl rfl) pe_non)
    (pss_cons (ps_if (pt_cmpR op_eq (pe_ix ix_tup (pv 4) pe_int (fun _ _ => rfl)) pe_str (by rfl))
    (pss_cons (ps_set (i := 5) sc__law_phrase_told.nd rfl (Or.inl rfl) (C8.pe_c c__law_uncoded hr (by decide) rfl (pa_cons (pe_ix ix_tup (pv 4) pe_int (fun _ _ => rfl)) pa_nil)))
    pss_nil)
    pss_nil)
    (pss_cons (ps_if (PW.pt (pw_and (pt_cmpR op_gt (pv 3) pe_int (by rfl)) (pw_and1 (PW.pt (pw_or (pt_cmpR op_isN1 (pv 5) pe_non (by rfl)) (pw_or1 (pt_not (pt_val (pv 2)))))))))
    (pss_cons (ps_expr (pe_bm PySem.F.plainAttrs_list PySem.F.slot_list_append PySem.F.type_list_append mt_append (pv 1) (pa_cons pe_int pa_nil)))
    pss_nil)
    pss_nil)
    (pss_cons (ps_set (i := 2) sc__law_phrase_told.nd rfl (Or.inl rfl) (pe_cmpR op_notN1 (pv 5) pe_non (by rfl)))
    (pss_cons (ps_if (pt_cmpR op_isN1 (pv 5) pe_non (by rfl))
    (pss_cons (ps_set (i := 5) sc__law_phrase_told.nd rfl (Or.inl rfl) (C8.pe_c c__law_numbers hr (by decide) rfl (pa_cons (pe_ix ix_tup (pv 4) pe_int (fun _ _ => rfl)) pa_nil)))
    pss_nil)
    pss_nil)
    (pss_cons (ps_set (i := 1) sc__law_phrase_told.nd rfl (Or.inl rfl) (pe_op op_cat (pv 1) (pv 5)))
    pss_nil)))))))
    (pss_cons (ps_ret (pv 1))
    pss_nil)))), fun a ha => by
    show Dl.Run No _ [.dat (.lst (a.map Lw.d)), .no, .no, .no, .no, .no] _ _
    refine run_setFV (ef_lstV ea_nil (sz1 rfl)) (run_set ev_bl ?_)
    refine run_for (fun k r => ∃ fd was, r = [.dat (.lst (a.map Lw.d)), .own (fd.map .int), .dat (.bl was), .no, .no, .no] ∧ phraseSaying (a.map Lw.wd) = fd ++ phraseGo (decide (k = 0)) was ((a.map Lw.wd).drop k) ∧ fd.length ≤ 1600 * k) (ei_enum (ev_dat rfl)) ⟨_, Le.refl _, [], true, rfl, rfl, Nat.zero_le _⟩ (fun k d r hd hr => ?_) (fun r hr => ?_)
    · obtain ⟨y, hy, rfl⟩ := enm_get hd
      obtain ⟨x, hx, rfl⟩ := map_get hy
      obtain ⟨fd, was, rfl, h1, h2⟩ := hr
      have hk : k < a.length := (List.getElem?_eq_some_iff.mp hx).1
      have hal := ha.1
      rw [List.length_map] at hal
      have hxm : (a.map Lw.wd)[k]? = some (Lw.wd x) := get_map hx
      obtain ⟨hx1, hx2⟩ := ha.2 (Lw.wd x) (List.mem_of_getElem? hxm)
      rw [drop_get hxm, phraseGo_cons] at h1
      have hsl : ∀ l, sayOf (Lw.wd x) = some l → l.length ≤ 1503 := fun l hl => by
        unfold sayOf at hl
        split at hl
        · have := wordSaying_len hl
          omega
        · cases hl
      obtain ⟨so0, te, rs⟩ := x
      have hx1 : te.length ≤ 500 := hx1
      have hx2 : ∀ c ∈ te, okc c := hx2
      refine ⟨_, tg_tup (tgs_cons tg_name (tgs_cons tg_name tgs_nil)) rfl, ?_⟩
      show Dl.Run No _ [.dat (.lst (a.map Lw.d)), .own (fd.map .int), .dat (.bl was), .dat (.int (k : Int)), .dat (.tup (.str so0 :: .str te :: rs)), .no] _ _
      refine run_set ev_non ?_
      show Dl.Run No _ [.dat (.lst (a.map Lw.d)), .own (fd.map .int), .dat (.bl was), .dat (.int (k : Int)), .dat (.tup (.str so0 :: .str te :: rs)), .dat .non] _ _
      have i0 : ∀ {z : D}, atI (z :: .str te :: rs) 0 = some z := Dl.atI_int (by decide) rfl
      have i1 : ∀ {z : D}, atI (z :: .str te :: rs) 1 = some (.str te) := Dl.atI_int (by decide) rfl
      refine run_ifJ (N1 := fun r => r = [.dat (.lst (a.map Lw.d)), .own (fd.map .int), .dat (.bl was), .dat (.int (k : Int)), .dat (.tup (.str so0 :: .str te :: rs)), .dat (optL (sayOf (Lw.wd (so0, te, rs))))]) (bb := decide (so0 = sAtom)) (eb_B (ev_op (x := .str so0) (ev_op (ev_dat rfl) ev_int (o_ixT i0)) (ev_strL (l := sAtom) lit_61746f6d) o_eqS)) (fun h => ?_) (fun h => ?_) (fun r hr => ?_)
      · refine run_set (ed_call te (ea_cons (ev_op (ev_dat rfl) ev_int (o_ixT i1)) ea_nil) ⟨hx1, hx2⟩) (run_next ?_)
        rw [unc_eq]
        have : sayOf (Lw.wd (so0, te, rs)) = wordSaying te := by
          unfold sayOf
          rw [if_pos (show (Lw.wd (so0, te, rs)).sort = sAtom from of_decide_eq_true h)]
          rfl
        rw [this]
        rfl
      · refine run_next ?_
        have : sayOf (Lw.wd (so0, te, rs)) = none := by
          unfold sayOf
          rw [if_neg (show ¬ (Lw.wd (so0, te, rs)).sort = sAtom from of_decide_eq_false h)]
        rw [this]
        rfl
      subst hr
      have hnt : (Lw.wd (so0, te, rs)).text = te := rfl
      rw [hnt] at h1
      generalize sayOf (Lw.wd (so0, te, rs)) = so at h1 hsl
      refine run_ifJ (N1 := fun r => r = [.dat (.lst (a.map Lw.d)), .own ((fd ++ (if decide (k = 0) = false ∧ ¬ (was = true ∧ so.isSome = true) then [32] else [])).map .int), .dat (.bl was), .dat (.int (k : Int)), .dat (.tup (.str so0 :: .str te :: rs)), .dat (optL so)]) (eb_and (by repeat' walk_at "ev") (fun _ => eb_or (eb_B (ev_op (ev_dat rfl) ev_non (optL_isN so))) (fun _ => eb_not (eb_test (ev_dat rfl))))) (fun h => ?_) (fun h => ?_) (fun r hr => ?_)
      · refine run_appendV rfl ev_int (sz' (by rw [List.length_map]; omega)) (run_next ?_)
        rw [if_pos]
        · simp
        · rw [Bool.and_eq_true] at h
          have h3 := of_decide_eq_true h.1
          refine ⟨decide_eq_false (by omega), fun z => ?_⟩
          rw [z.1, z.2] at h
          cases h.2
      · refine run_next ?_
        rw [if_neg]
        · simp
        · intro z
          rw [decide_eq_true (by have := of_decide_eq_false z.1; omega)] at h
          cases hw : was with
          | false =>
            rw [hw] at h
            cases hs : so.isSome <;> rw [hs] at h <;> cases h
          | true =>
            cases hs : so.isSome with
            | false => rw [hw, hs] at h; cases h
            | true => exact z.2 ⟨hw, hs⟩
      subst hr
      have hfl : (fd ++ (if decide (k = 0) = false ∧ ¬ (was = true ∧ so.isSome = true) then [32] else [])).length ≤ 1600 * k + 1 := by
        rw [List.length_append]
        split <;> simp <;> omega
      rw [← List.append_assoc, ← List.append_assoc] at h1
      generalize fd ++ (if decide (k = 0) = false ∧ ¬ (was = true ∧ so.isSome = true) then [32] else []) = fd2 at h1 hfl
      have hgl : (so.getD (numbersOf te)).length ≤ 1503 := by
        cases so with
        | none => simp [numbersOf]; omega
        | some l => exact hsl l rfl
      refine run_set (ev_op (ev_dat rfl) ev_non (optL_none so)) ?_
      show Dl.Run No _ [.dat (.lst (a.map Lw.d)), .own (fd2.map .int), .dat (.bl so.isSome), .dat (.int (k : Int)), .dat (.tup (.str so0 :: .str te :: rs)), .dat (optL so)] _ _
      refine run_ifJ (N1 := fun r => r = [.dat (.lst (a.map Lw.d)), .own (fd2.map .int), .dat (.bl so.isSome), .dat (.int (k : Int)), .dat (.tup (.str so0 :: .str te :: rs)), .dat (.lst ((so.getD (numbersOf te)).map .int))]) (eb_B (ev_op (ev_dat rfl) ev_non (optL_isN so))) (fun h => ?_) (fun h => ?_) (fun r hr => ?_)
      · cases so with
        | some l => cases h
        | none => exact run_set (ed_call te (ea_cons (ev_op (ev_dat rfl) ev_int (o_ixT i1)) ea_nil) ⟨by omega, hx2⟩) (run_next rfl)
      · cases so with
        | none => cases h
        | some l => exact run_next rfl
      subst hr
      refine run_freeze 1 rfl (run_setFV (ef_op (ev_dat rfl) (ev_dat rfl) (o_cat (sz (by rw [List.length_map, List.length_map]; omega)))) (run_next ⟨_, .same (.same (.same (.no (.no (.no .nil))))), fd2 ++ so.getD (numbersOf te), so.isSome, ?_, ?_, ?_⟩))
      · rw [List.map_append] <;> rfl
      · rw [h1, decide_eq_false (by omega)]
      · rw [List.length_append]
        omega
    · obtain ⟨fd, was, rfl, h1, h2⟩ := hr
      rw [enm_len, List.length_map, List.drop_eq_nil_of_le (by rw [List.length_map]; exact Nat.le_refl _)] at h1
      refine run_freeze 1 rfl (run_retV (ev_dat rfl) ?_)
      rw [h1]
      show _ = D.lst ((fd ++ []).map .int)
      rw [List.append_nil]⟩)
def isTxt (w : Wd) : Bool := decide (w.sort = sAtom) || decide (w.sort = sQuoted)
theorem phraseGo_tk : ∀ (ws : List Wd) (f b : Bool), phraseGo f b ((ws.map fun x => (⟨x.sort, x.text, 0, 0⟩ : Wd))) = phraseGo f b ws
  | [], _, _ => rfl
  | x :: r, f, b => by
    rw [List.map_cons, phraseGo_cons, phraseGo_cons, phraseGo_tk r]
    rfl
theorem phrase_tk (ws : List Wd) : phraseSaying (ws.map fun x => (⟨x.sort, x.text, 0, 0⟩ : Wd)) = phraseSaying ws := phraseGo_tk ws true true
abbrev N__law_read_phrase : List PySem.Str := ["_law_value", "_law_there", "_law_word"]
theorem sc__law_read_phrase : FnScope N__law_read_phrase ["_law_value"] (defScope s__law_read_phrase) := ⟨rfl, rfl, rfl, by decide +kernel, rfl, by decide +kernel, by decide +kernel⟩
local macro_rules | `(tactic| walk_at "lit") => `(tactic| first
  | with_reducible exact ev_strL lit_61746f6d
  | with_reducible exact ev_strL lit_71756f746564)
theorem c__law_read_phrase (T : Tx K mg) : C8.Cal P w K mg base 6 "_law_read_phrase" (spP (α := List Nat × List Wd × List Wd × Wd × List Wd) (fun a => [.str a.1]) (fun a => ((a.1.length ≤ 900000 ∧ ∀ c ∈ a.1, c < 1114112) ∧ Lex 0 a.1 a.2.1) ∧ a.2.1.filter noRm = a.2.2.1 ++ a.2.2.2.1 :: a.2.2.2.2 ∧ (∀ x ∈ a.2.2.1, isTxt x = true) ∧ isTxt a.2.2.2.1 = false ∧ WsOk a.2.2.1) (fun a d => d = .lst ((phraseSaying a.2.2.1).map .int))) [] :=
  have c__law_cut := c__law_cut (P := P) (w := w) (base := base) T
  have c__law_phrase_told := c__law_phrase_told (P := P) (w := w) (base := base) T
  cal_P T.d__law_read_phrase sc__law_read_phrase (fun _ => rfl) (by decide) (fun _ _ _ _ _ _ us hl => match us, hl with | [_], _ => rfl) (fun f cdv A outer s H E hr => ⟨_, (pss_cons (ps_set (i := 1) sc__law_read_phrase.nd rfl (Or.inl rfl) (pe_lst pa_nil))
    (pss_cons (ps_for PassesOwn.never rfl (pi_list (C8.pe_c c__law_cut hr (by decide) rfl (pa_cons (pv 0) pa_nil))) (pg_name (i := 2) sc__law_read_phrase.nd rfl (Or.inl rfl))
    (pss_cons (ps_if (pt_cmpR op_notIn_seq (pe_ix ix_tup (pv 2) pe_int (fun _ _ => rfl)) (pe_tup (pa_cons pe_str (pa_cons pe_str pa_nil))) (by rfl))
    (pss_cons (ps_ret (C8.pe_c c__law_phrase_told hr (by decide) rfl (pa_cons (pv 1) pa_nil)))
    pss_nil)
    pss_nil)
    (pss_cons (ps_expr (pe_bm PySem.F.plainAttrs_list PySem.F.slot_list_append PySem.F.type_list_append mt_append (pv 1) (pa_cons (pv 2) pa_nil)))
    pss_nil)))
    (pss_cons (ps_ret (pe_lst pa_nil))
    pss_nil))), fun a ha => by
    obtain ⟨v, ws, ps, m, qs⟩ := a
    obtain ⟨h1, h2, h3, h4, h5⟩ := ha
    simp only at h1 h2 h3 h4 h5
    show Dl.Run No _ [.dat (.str v), .no, .no] _ _
    refine run_setFV (ef_lstV ea_nil (sz1 rfl)) ?_
    have htest : ∀ {x : Wd} {ρ : List Sl}, ρ[2]? = some (.dat (Wd.d x)) → EvB No (tB (tOp (rIn K true) (tOp (rIxT K) (tVar 2) (tC (.int 0))) (tTup (tCons (tC (.str "atom")) (tCons (tC (.str "quoted")) tNil))))) ρ (!isTxt x) := fun {x ρ} hx => EvB.cast (eb_B (ev_op (ev_op (ev_dat hx) ev_int (o_ixT (z := .str x.sort) rfl)) (ev_tup (ea_cons (ev_strL (l := sAtom) lit_61746f6d) (ea_cons (ev_strL (l := sQuoted) lit_71756f746564) ea_nil)) (sz1 rfl)) (o_niTs (ss := [sAtom, sQuoted])))) (by
      unfold isTxt
      by_cases e1 : x.sort = sAtom <;> by_cases e2 : x.sort = sQuoted <;> simp [e1, e2])
    refine run_for (fun k r => k ≤ ps.length ∧ r = [.dat (.str v), .own ((ps.take k).map Wd.d), .no]) (ei_list (ed_call (v, ws) (by repeat' walk_at "ev") h1)) ⟨_, Le.refl _, Nat.zero_le _, rfl⟩ (fun k d r hd hr => ?_) (fun r hr => ?_)
    · obtain ⟨hk, rfl⟩ := hr
      simp only at hd
      rw [h2, List.map_append, List.append_assoc] at hd
      refine ⟨_, tg_name, ?_⟩
      rcases Nat.lt_or_ge k ps.length with hlt | hge
      · rw [List.getElem?_append_left (by rw [List.length_map]; exact hlt)] at hd
        obtain ⟨x, hx, rfl⟩ := map_get hd
        show Dl.Run No _ [.dat (.str v), .own ((ps.take k).map Wd.d), .dat (Wd.d x)] _ _
        have hxt := h3 x (List.mem_of_getElem? hx)
        refine run_no (EvB.cast (htest rfl) (by rw [hxt] <;> rfl)) (run_skip ?_)
        refine run_appendV rfl (ev_dat rfl) (sz' ?_) (run_next ⟨_, .same (.same (.no .nil)), by omega, ?_⟩)
        · rw [List.length_map, List.length_take]
          have := h5.1
          omega
        · rw [take_next hx, List.map_append] <;> rfl
      · have hke : k = ps.length := by omega
        rw [List.getElem?_append_right (by rw [List.length_map]; omega), List.length_map, hke, Nat.sub_self, List.map_cons, List.cons_append, List.getElem?_cons_zero] at hd
        have hd := Option.some.inj hd
        subst hd
        rw [hke, List.take_length]
        show Dl.Run No _ [.dat (.str v), .own (ps.map Wd.d), .dat (Wd.d m)] _ _
        refine run_yes (EvB.cast (htest rfl) (by rw [h4] <;> rfl)) ?_
        refine run_freeze 1 rfl (run_flat (run_retV (ed_call (ps.map fun x => ((x.sort, x.text, [.int (x.b : Int), .int (x.e : Int)]) : Lw)) (ea_cons (EvV.cast (ev_dat rfl) (by
          show D.lst (ps.map Wd.d) = .lst ((ps.map _).map Lw.d)
          rw [List.map_map] <;> rfl)) ea_nil) ?_) ?_))
        · rw [List.map_map]
          refine ⟨by rw [List.length_map]; exact h5.1, fun y hy => ?_⟩
          obtain ⟨x, hx, rfl⟩ := List.mem_map.mp hy
          exact h5.2 x hx
        · rw [List.map_map]
          exact congrArg (fun z => D.lst (z.map .int)) (phrase_tk ps)
    · obtain ⟨hk, rfl⟩ := hr
      simp only at hk
      rw [h2] at hk
      simp at hk
      omega⟩)
end
end Fk
/-! Pieces of a value: blanks, marks, atoms, quoted words, remarks. -/
namespace Fk
open PySem L2 Dl Mr
inductive Pc where
  | bl | mk (c : Nat) | at_ (t : List Nat) | qu (t : List Nat) | rm (r : List Nat)
def Pc.str : Pc → List Nat
  | .bl => [32]
  | .mk c => [c]
  | .at_ t => t
  | .qu t => 34 :: escQ t ++ [34]
  | .rm r => 40 :: r ++ [41]
def ren (ps : List Pc) : List Nat := ps.flatMap Pc.str
theorem ren_app (a b : List Pc) : ren (a ++ b) = ren a ++ ren b := List.flatMap_append
theorem ren_cons (p : Pc) (b : List Pc) : ren (p :: b) = p.str ++ ren b := rfl
def Pc.ok : Pc → Prop
  | .bl => True
  | .mk c => c ∈ l_MARKS
  | .at_ t => t ≠ [] ∧ ∀ c ∈ t, c ∈ l_ATOM_SIGNS
  | .qu t => ∀ c ∈ t, okc c
  | .rm r => (∀ c ∈ r, okc c) ∧ ∀ s, Mr.rm 1 (r ++ 41 :: s) = some (r.length + 1)
def Pc.isAt : Pc → Bool
  | .at_ _ => true
  | _ => false
def hdAt : List Pc → Bool
  | [] => false
  | p :: _ => p.isAt
def lsAt : List Pc → Bool
  | [] => false
  | [p] => p.isAt
  | _ :: q :: r => lsAt (q :: r)
def sep : List Pc → Prop
  | [] => True
  | [_] => True
  | p :: q :: r => (p.isAt && q.isAt) = false ∧ sep (q :: r)
structure PsOk (ps : List Pc) : Prop where
  ok : ∀ p ∈ ps, p.ok
  sp : sep ps
theorem sep_app : ∀ {a b : List Pc}, sep a → sep b → (lsAt a && hdAt b) = false → sep (a ++ b)
  | [], _, _, hb, _ => hb
  | [p], [], ha, _, _ => ha
  | [p], q :: r, _, hb, h => ⟨h, hb⟩
  | p :: q :: r, b, ha, hb, h => ⟨ha.1, sep_app (a := q :: r) ha.2 hb h⟩
theorem PsOk.app {a b : List Pc} (ha : PsOk a) (hb : PsOk b) (h : (lsAt a && hdAt b) = false) : PsOk (a ++ b) :=
  ⟨fun p hp => (List.mem_append.mp hp).elim (ha.ok p) (hb.ok p), sep_app ha.sp hb.sp h⟩
theorem PsOk.nil : PsOk [] := ⟨fun _ h => (by cases h), trivial⟩
theorem PsOk.one {p : Pc} (h : p.ok) : PsOk [p] := ⟨fun q hq => by rw [List.mem_singleton.mp hq]; exact h, trivial⟩
theorem hdAt_app : ∀ (a b : List Pc), hdAt (a ++ b) = if a = [] then hdAt b else hdAt a
  | [], b => rfl
  | p :: r, b => by rw [if_neg (fun z => nomatch z)] <;> rfl
theorem lsAt_app : ∀ (a b : List Pc), lsAt (a ++ b) = if b = [] then lsAt a else lsAt b
  | a, [] => by rw [List.append_nil, if_pos rfl]
  | [], q :: b => by rw [if_neg (fun z => nomatch z)] <;> rfl
  | [p], q :: b => by rw [if_neg (fun z => nomatch z)] <;> rfl
  | p :: x :: r, q :: b => by
    have := lsAt_app (x :: r) (q :: b)
    rw [if_neg (fun z => nomatch z)] at this ⊢
    exact this
abbrev Tk := List Nat × List Nat
def Pc.tok : Pc → Option Tk
  | .bl => none
  | .mk c => some (sMark, [c])
  | .at_ t => some (sAtom, t)
  | .qu t => some (sQuoted, t)
  | .rm _ => none
def toks (ps : List Pc) : List Tk := ps.filterMap Pc.tok
theorem toks_app (a b : List Pc) : toks (a ++ b) = toks a ++ toks b := List.filterMap_append
theorem toks_nil : toks [] = [] := rfl
/-- blanks and remarks -/
structure Gap (ps : List Pc) : Prop where
  ok : PsOk ps
  no : toks ps = []
  h : hdAt ps = false
  l : lsAt ps = false
  len : (ren ps).length ≤ 20
def mkT (c : Nat) : Tk := (sMark, [c])
def Tk.wd (t : Tk) : Wd := ⟨t.1, t.2, 0, 0⟩
def isTx (t : Tk) : Prop := (t.1 = sAtom ∨ t.1 = sQuoted) ∧ t.2.length ≤ 500 ∧ ∀ c ∈ t.2, okc c
def sayT (ts : List Tk) : List Int := phraseSaying (ts.map Tk.wd)
/-! remarks of the law's gaps -/
theorem rm_ok {r : List Nat} (h1 : (∀ c ∈ r, okc c)) (h : ∀ s, Mr.rm 1 (r ++ 41 :: s) = some (r.length + 1)) : (Pc.rm r).ok := ⟨h1, h⟩
theorem rmGo (d : Nat) (c : Nat) (r : List Nat) (h1 : c ≠ 40) (h2 : c ≠ 41) (h3 : c ≠ 92) : Mr.rm d (c :: r) = (Mr.rm d r).map (· + 1) := by
  conv => lhs; unfold Mr.rm
  rw [if_neg h1, if_neg h2, if_neg h3]
theorem rmOpen (d : Nat) (r : List Nat) : Mr.rm d (40 :: r) = (Mr.rm (d + 1) r).map (· + 1) := by
  conv => lhs; unfold Mr.rm
  rw [if_pos rfl]
theorem rmShut (d : Nat) (r : List Nat) (h : d ≠ 1) : Mr.rm d (41 :: r) = (Mr.rm (d - 1) r).map (· + 1) := by
  conv => lhs; unfold Mr.rm
  rw [if_neg (by decide), if_pos rfl, if_neg h]
theorem rmEnd (r : List Nat) : Mr.rm 1 (41 :: r) = some 1 := by
  conv => lhs; unfold Mr.rm
  rw [if_neg (by decide), if_pos rfl, if_pos rfl]
theorem rmEsc (d c : Nat) (r : List Nat) : Mr.rm d (92 :: c :: r) = (Mr.rm d r).map (· + 2) := by
  conv => lhs; unfold Mr.rm
  rw [if_neg (by decide), if_neg (by decide), if_pos rfl]
theorem rm_x : (Pc.rm [120]).ok := rm_ok (by decide) fun s => by
  show Mr.rm 1 (120 :: 41 :: s) = some 2
  rw [rmGo _ _ _ (by decide) (by decide) (by decide), rmEnd] <;> rfl
theorem rm_sp : (Pc.rm [32]).ok := rm_ok (by decide) fun s => by
  show Mr.rm 1 (32 :: 41 :: s) = some 2
  rw [rmGo _ _ _ (by decide) (by decide) (by decide), rmEnd] <;> rfl
theorem rm_nil : (Pc.rm []).ok := rm_ok (by decide) fun s => rmEnd s
/-- a (b@c) \) " -/
def rmLong : List Nat := [97, 32, 40, 98, 64, 99, 41, 32, 92, 41, 32, 34]
theorem rm_long : (Pc.rm rmLong).ok := rm_ok (by decide) fun s => by
  show Mr.rm 1 (97 :: 32 :: 40 :: 98 :: 64 :: 99 :: 41 :: 32 :: 92 :: 41 :: 32 :: 34 :: 41 :: s) = some 13
  rw [rmGo _ _ _ (by decide) (by decide) (by decide), rmGo _ _ _ (by decide) (by decide) (by decide), rmOpen, rmGo _ _ _ (by decide) (by decide) (by decide), rmGo _ _ _ (by decide) (by decide) (by decide), rmGo _ _ _ (by decide) (by decide) (by decide), rmShut _ _ (by decide), rmGo _ _ _ (by decide) (by decide) (by decide), rmEsc, rmGo _ _ _ (by decide) (by decide) (by decide), rmGo _ _ _ (by decide) (by decide) (by decide)]
  show Option.map _ (Option.map _ (Option.map _ (Option.map _ (Option.map _ (Option.map _ (Option.map _ (Option.map _ (Option.map _ (Option.map _ (Option.map _ (Mr.rm 1 (41 :: s)))))))))))) = _
  rw [rmEnd]
  rfl
/-- the law's eight gaps -/
def gaps : List (List Pc) := [[], [], [.bl], [.bl, .bl], [.rm [120]], [.bl, .rm rmLong, .bl], [.rm [32], .bl, .rm []], [.bl]]
theorem gap_ok : ∀ g ∈ gaps, Gap g := by
  intro g hg
  simp only [gaps, List.mem_cons, List.not_mem_nil, or_false] at hg
  have bl : Pc.bl.ok := trivial
  rcases hg with rfl | rfl | rfl | rfl | rfl | rfl | rfl | rfl
  · exact ⟨PsOk.nil, rfl, rfl, rfl, by decide⟩
  · exact ⟨PsOk.nil, rfl, rfl, rfl, by decide⟩
  · exact ⟨PsOk.one bl, rfl, rfl, rfl, by decide⟩
  · exact ⟨(PsOk.one bl).app (PsOk.one bl) rfl, rfl, rfl, rfl, by decide⟩
  · exact ⟨PsOk.one rm_x, rfl, rfl, rfl, by decide⟩
  · exact ⟨(PsOk.one bl).app ((PsOk.one rm_long).app (PsOk.one bl) rfl) rfl, rfl, rfl, rfl, by decide⟩
  · exact ⟨(PsOk.one rm_sp).app ((PsOk.one bl).app (PsOk.one rm_nil) rfl) rfl, rfl, rfl, rfl, by decide⟩
  · exact ⟨PsOk.one bl, rfl, rfl, rfl, by decide⟩
/-! a value is cut to its pieces' words -/
def wordsAt : Nat → List Pc → List Wd
  | _, [] => []
  | p, .bl :: r => wordsAt (p + 1) r
  | p, .mk c :: r => ⟨sMark, [c], p, p + 1⟩ :: wordsAt (p + 1) r
  | p, .at_ t :: r => ⟨sAtom, t, p, p + t.length⟩ :: wordsAt (p + t.length) r
  | p, .qu t :: r => ⟨sQuoted, t, p, p + ((escQ t).length + 2)⟩ :: wordsAt (p + ((escQ t).length + 2)) r
  | p, .rm t :: r => ⟨sRemark, t, p, p + (t.length + 2)⟩ :: wordsAt (p + (t.length + 2)) r
theorem qw_esc : ∀ (t s : List Nat), qw (escQ t ++ 34 :: s) = some (t, (escQ t).length + 1)
  | [], s => by
    show qw (34 :: s) = _
    unfold qw
    rw [if_pos rfl]
    rfl
  | c :: r, s => by
    have ih := qw_esc r s
    have e : escQ (c :: r) = (if c = 34 ∨ c = 92 then [92, c] else [c]) ++ escQ r := rfl
    rw [e]
    by_cases h : c = 34 ∨ c = 92
    · rw [if_pos h]
      show qw (92 :: c :: (escQ r ++ 34 :: s)) = some (c :: r, (escQ r).length + 2 + 1)
      conv => lhs; unfold qw
      rw [if_neg (by decide), if_pos rfl]
      show (qw (escQ r ++ 34 :: s)).map (fun q => (c :: q.1, q.2 + 2)) = _
      rw [ih]
      rfl
    · rw [if_neg h]
      show qw (c :: (escQ r ++ 34 :: s)) = some (c :: r, (escQ r).length + 1 + 1)
      conv => lhs; unfold qw
      rw [if_neg (fun z => h (.inl z)), if_neg (fun z => h (.inr z)), ih]
      rfl
theorem atom_not : ∀ c ∈ l_ATOM_SIGNS, c ≠ 34 ∧ c ≠ 40 ∧ c ∉ l_MARKS ∧ c ≠ 32 := by decide +kernel
theorem tw_app {t s : List Nat} (h : ∀ c ∈ t, c ∈ l_ATOM_SIGNS) (hs : ∀ c, s.head? = some c → c ∉ l_ATOM_SIGNS) : (t ++ s).takeWhile (fun x => decide (x ∈ l_ATOM_SIGNS)) = t := by
  induction t with
  | nil =>
    cases s with
    | nil => rfl
    | cons c r => rw [List.nil_append, List.takeWhile_cons, if_neg (by simpa using hs c rfl)]
  | cons c r ih =>
    rw [List.cons_append, List.takeWhile_cons, if_pos (decide_eq_true (h c (List.mem_cons_self ..))), ih (fun x hx => h x (List.mem_cons_of_mem _ hx))]
theorem hd_not {ps : List Pc} (h : PsOk ps) (ha : hdAt ps = false) : ∀ c, (ren ps).head? = some c → c ∉ l_ATOM_SIGNS := by
  cases ps with
  | nil => intro c hc; cases hc
  | cons p r =>
    have hp := h.ok p (List.mem_cons_self ..)
    intro c hc hin
    obtain ⟨n1, n2, n3, n4⟩ := atom_not c hin
    cases p with
    | bl => cases hc; exact n4 rfl
    | mk x => cases hc; exact n3 hp
    | at_ t => cases ha
    | qu t => cases hc; exact n1 rfl
    | rm t => cases hc; exact n2 rfl
theorem PsOk.tail {p : Pc} {r : List Pc} (h : PsOk (p :: r)) : PsOk r := ⟨fun q hq => h.ok q (List.mem_cons_of_mem _ hq), by
  cases r with
  | nil => trivial
  | cons q t => exact h.sp.2⟩
theorem lex_pcs : ∀ (ps : List Pc) (p : Nat), PsOk ps → Lex p (ren ps) (wordsAt p ps)
  | [], _, _ => .nil
  | .bl :: r, p, h => .blank (lex_pcs r (p + 1) h.tail)
  | .mk c :: r, p, h => by
    have hc : c ∈ l_MARKS := h.ok (.mk c) (List.mem_cons_self ..)
    obtain ⟨m1, m2, m3⟩ := marks_ne c hc
    refine Lex.word (n := 1) (l := c :: ren r) ?_ ?_ (lex_pcs r (p + 1) h.tail)
    · rw [List.head?_cons]
      exact fun z => m3 (Option.some.inj z)
    · simp only [word1]
      rw [if_neg m1, if_neg m2, if_pos hc]
  | .at_ t :: r, p, h => by
    obtain ⟨hne, hin⟩ : t ≠ [] ∧ ∀ c ∈ t, c ∈ l_ATOM_SIGNS := h.ok (.at_ t) (List.mem_cons_self ..)
    have hh : hdAt r = false := by
      cases r with
      | nil => rfl
      | cons q s => exact h.sp.1
    have htw := tw_app hin (hd_not h.tail hh)
    obtain ⟨c, t', rfl⟩ := List.exists_cons_of_ne_nil hne
    obtain ⟨n1, n2, n3, n4⟩ := atom_not c (hin c (List.mem_cons_self ..))
    have e : ren (.at_ (c :: t') :: r) = c :: (t' ++ ren r) := rfl
    rw [e]
    refine Lex.word (n := (c :: t').length) ?_ ?_ ?_
    · rw [List.head?_cons]
      exact fun z => n4 (Option.some.inj z)
    · simp only [word1]
      rw [if_neg n1, if_neg n2, if_neg n3, if_pos (hin c (List.mem_cons_self ..))]
      have : (c :: (t' ++ ren r)).takeWhile (fun x => decide (x ∈ l_ATOM_SIGNS)) = c :: t' := htw
      rw [this]
    · have : (c :: (t' ++ ren r)).drop (c :: t').length = ren r := by
        show ((c :: t') ++ ren r).drop (c :: t').length = ren r
        rw [List.drop_left]
      rw [this]
      exact lex_pcs r _ h.tail
  | .qu t :: r, p, h => by
    have e : ren (.qu t :: r) = 34 :: (escQ t ++ 34 :: ren r) := by
      rw [ren_cons]
      show 34 :: (escQ t ++ [34]) ++ ren r = _
      simp
    rw [e]
    refine Lex.word (n := (escQ t).length + 2) ?_ ?_ ?_
    · rw [List.head?_cons]
      decide
    · simp only [word1]
      rw [if_pos trivial, qw_esc]
      rfl
    · have : (34 :: (escQ t ++ 34 :: ren r)).drop ((escQ t).length + 2) = ren r := by
        show (escQ t ++ 34 :: ren r).drop ((escQ t).length + 1) = ren r
        rw [← List.drop_drop, List.drop_left]
        rfl
      rw [this]
      exact lex_pcs r _ h.tail
  | .rm t :: r, p, h => by
    obtain ⟨h1, h2⟩ : (∀ c ∈ t, okc c) ∧ ∀ s, Mr.rm 1 (t ++ 41 :: s) = some (t.length + 1) := h.ok (.rm t) (List.mem_cons_self ..)
    have e : ren (.rm t :: r) = 40 :: (t ++ 41 :: ren r) := by
      rw [ren_cons]
      show 40 :: (t ++ [41]) ++ ren r = _
      simp
    rw [e]
    refine Lex.word (n := t.length + 2) ?_ ?_ ?_
    · rw [List.head?_cons]
      decide
    · simp only [word1]
      rw [if_neg (by decide), if_pos trivial, h2]
      show some (sRemark, (t ++ 41 :: ren r).take (t.length + 1 - 1), t.length + 1 + 1) = _
      rw [Nat.add_sub_cancel, List.take_left]
    · have : (40 :: (t ++ 41 :: ren r)).drop (t.length + 2) = ren r := by
        show (t ++ 41 :: ren r).drop (t.length + 1) = ren r
        rw [← List.drop_drop, List.drop_left]
        rfl
      rw [this]
      exact lex_pcs r _ h.tail
theorem toks_words : ∀ (ps : List Pc) (p : Nat), ((wordsAt p ps).filter noRm).map (fun w => ((w.sort, w.text) : Tk)) = toks ps
  | [], _ => rfl
  | .bl :: r, p => toks_words r (p + 1)
  | .mk c :: r, p => by
    show ((_ :: wordsAt (p + 1) r).filter noRm).map _ = (sMark, [c]) :: toks r
    rw [List.filter_cons, if_pos (by show (!decide (sMark = sRemark)) = true; decide), List.map_cons, toks_words r (p + 1)]
  | .at_ t :: r, p => by
    show ((_ :: wordsAt (p + t.length) r).filter noRm).map _ = (sAtom, t) :: toks r
    rw [List.filter_cons, if_pos (by show (!decide (sAtom = sRemark)) = true; decide), List.map_cons, toks_words r (p + t.length)]
  | .qu t :: r, p => by
    show ((_ :: wordsAt (p + ((escQ t).length + 2)) r).filter noRm).map _ = (sQuoted, t) :: toks r
    rw [List.filter_cons, if_pos (by show (!decide (sQuoted = sRemark)) = true; decide), List.map_cons, toks_words r (p + ((escQ t).length + 2))]
  | .rm t :: r, p => by
    show ((_ :: wordsAt (p + (t.length + 2)) r).filter noRm).map _ = toks r
    rw [List.filter_cons, if_neg (by show ¬ (!decide (sRemark = sRemark)) = true; decide), toks_words r (p + (t.length + 2))]
end Fk
/-! Sizes and signs of coded words. -/
namespace Fk
open PySem L2 Dl Mr
theorem decode_le (c : Nat) (i : List Nat) : (decodeBy c i).length ≤ i.length + 2 := by
  unfold decodeBy
  split
  · have h := sixPreO_len (rstripC 61 i) (((rstripC 61 i).length + 3) / 4)
    have hr := rstripC_len 61 i
    unfold sixPreO at h
    unfold sixOctets
    omega
  · have := markOctets_len _ i (Nat.le_refl _)
    omega
theorem wordSaying_le {a : List Nat} {s : List Int} (h : wordSaying a = some s) : s.length ≤ a.length := by
  unfold wordSaying at h
  split at h
  · next hc =>
    split at h
    · have := Option.some.inj h
      subst this
      have h1 := signsTold_len _ (decodeBy ((wsort a).headD 0) (innerOf a)) (Nat.le_refl _)
      have h2 := decode_le ((wsort a).headD 0) (innerOf a)
      have h3 : (innerOf a).length ≤ a.length - 6 := by
        unfold innerOf
        rw [List.length_take]
        omega
      have h4 := List.length_pos_iff.mpr hc.2.1
      omega
    · cases h
  · cases h
def sayLen (t : Tk) : Nat := ((sayOf (Tk.wd t)).getD (numbersOf t.2)).length
theorem sayLen_le (t : Tk) : sayLen t ≤ t.2.length := by
  unfold sayLen sayOf
  split
  · cases h : wordSaying (Tk.wd t).text with
    | none => simp [numbersOf]
    | some s => exact wordSaying_le h
  · simp [numbersOf]
theorem mark_atom : ∀ k : Nat, k < 256 → ((markOf (k : Int)).length ≤ 3 ∧ ∀ c ∈ markOf (k : Int), c ∈ l_ATOM_SIGNS) := by decide +kernel
theorem marked_atom {os : List Int} (h : Byt os) : ∀ c ∈ Mr.marked os, c ∈ l_ATOM_SIGNS := fun c hc => by
  obtain ⟨o, ho, hc⟩ := List.mem_flatMap.mp hc
  have hb := h o ho
  obtain ⟨k, rfl⟩ : ∃ k : Nat, o = (k : Int) := ⟨o.toNat, by omega⟩
  exact (mark_atom k (by omega)).2 c hc
theorem six_atom {os : List Int} (h : Byt os) : ∀ c ∈ sixBits os, c ∈ l_ATOM_SIGNS := fun c hc => by
  obtain ⟨p, hp⟩ := sixBits_pad _ os (Nat.le_refl _)
  rw [hp] at hc
  rcases List.mem_append.mp hc with e | e
  · exact (sixRaw_in _ os (Nat.le_refl _) h c e).2
  · rw [(List.mem_replicate.mp e).2]
    decide
theorem coded_atom {os : List Int} {c : Nat} (h : Byt os) (hc : isSort c) : ∀ x ∈ codedWord os c, x ∈ l_ATOM_SIGNS := fun x hx => by
  rw [coded_form] at hx
  simp only [List.mem_cons, List.mem_append, List.not_mem_nil, or_false] at hx
  rcases hx with rfl | rfl | rfl | rfl | hx | rfl | rfl
  · decide
  · decide
  · rcases hc with rfl | rfl <;> decide
  · decide
  · unfold enc at hx
    split at hx
    · exact six_atom h x hx
    · exact marked_atom h x hx
  · decide
  · decide
theorem sixBits_len4 : ∀ (n : Nat) (os : List Int), os.length ≤ n → (sixBits os).length ≤ 4 * ((os.length + 2) / 3)
  | _, [], _ => Nat.zero_le _
  | _, [a], _ => by
    rw [sixBits_one ⟨by simp, by simp⟩]
    unfold sixGroup
    simp
  | _, [a, b], _ => by
    rw [sixBits_one ⟨by simp, by simp⟩]
    unfold sixGroup
    simp
  | 0, _ :: _ :: _ :: _, h => by simp at h
  | n + 1, a :: b :: c :: r, h => by
    have ih := sixBits_len4 n r (by simp only [List.length_cons] at h; omega)
    rw [sixBits_cons3, List.length_append]
    have : (sixGroup [a, b, c]).length = 4 := by unfold sixGroup; simp
    simp only [List.length_cons]
    omega
theorem coded_len {g : List Int} {c : Nat} (h : g.length ≤ 9) : (codedWord (allOctets g) c).length ≤ 90 := by
  have h1 := allOctets_len (s := g)
  have h2 := sixBits_len4 _ (allOctets g) (Nat.le_refl _)
  have h3 := marked_len (allOctets g)
  rw [coded_form]
  unfold enc
  split <;> simp <;> omega
theorem atom_okc : ∀ c ∈ l_ATOM_SIGNS, okc c := by decide +kernel
structure TxS (n : Nat) (t : Tk) : Prop where
  tx : isTx t
  l : t.2.length ≤ 100
  s : sayLen t ≤ n
theorem tx_atom {a : List Nat} (h : ∀ c ∈ a, c ∈ l_ATOM_SIGNS) (hl : a.length ≤ 10) : TxS 10 (sAtom, a) := ⟨⟨.inl rfl, by show a.length ≤ 500; omega, fun c hc => atom_okc c (h c hc)⟩, by show a.length ≤ 100; omega, Nat.le_trans (sayLen_le _) hl⟩
theorem tx_quoted {a : List Nat} (h : ∀ c ∈ a, okc c) (hl : a.length ≤ 10) : TxS 10 (sQuoted, a) := ⟨⟨.inr rfl, by show a.length ≤ 500; omega, h⟩, by show a.length ≤ 100; omega, Nat.le_trans (sayLen_le _) hl⟩
theorem tx_coded {g : List Int} {c : Nat} (hg : g ≠ []) (hr : Rng g) (hl : g.length ≤ 9) (hc : isSort c) : TxS 10 (sAtom, codedWord (allOctets g) c) := by
  have hl2 := coded_len (c := c) hl
  refine ⟨⟨.inl rfl, by show (codedWord _ _).length ≤ 500; omega, fun x hx => atom_okc x (coded_atom hr.byt hc x hx)⟩, by show (codedWord _ _).length ≤ 100; omega, ?_⟩
  unfold sayLen sayOf
  rw [if_pos (show (Tk.wd (sAtom, codedWord (allOctets g) c)).sort = sAtom from rfl)]
  show ((wordSaying (codedWord (allOctets g) c)).getD _).length ≤ 10
  rw [coded_said hg hr hc]
  show g.length ≤ 10
  omega
structure WordsP (ps : List Pc) : Prop where
  ok : PsOk ps
  hd : hdAt ps = false
  tx : ∀ t ∈ toks ps, TxS 10 t
  n1 : 1 ≤ (toks ps).length
  n4 : (toks ps).length ≤ 4
  len : (ren ps).length ≤ 1500
end Fk
/-! Loose values: picks, joins. -/
namespace Dl
open PySem PySem.Spec PyProof.Rows L2
abbrev Below (n : Int) (d : D) : Prop := ∃ r : Int, d = .int r ∧ 0 ≤ r ∧ r < n
section
variable {S : Addr → Prop} {ρ : List Sl} {te tn ta tb : TE} {K : PySem.W.Frag} {i : Nat} {t2 : TS} {N : List Sl → Prop} {R : D → Prop}
theorem ed_pick {xs : List D} (hl : EvV S te ρ (.lst xs)) (h : EvD S tn ρ (Below xs.length)) : EvD S (tOp (rIxL K) te tn) ρ (fun d => d ∈ xs) := ed_op hl (fun _ _ => h) fun x y e1 ⟨r, e2, h1, h2⟩ => by
  rw [e1, e2]
  have hlt : r.toNat < xs.length := by omega
  exact opd_imp (o_ixL (z := xs[r.toNat]) (atI_int h1 (List.getElem?_eq_getElem hlt))) fun d e => by rw [e]; exact List.getElem_mem hlt
theorem ed_pickS {l : List Nat} (hl : EvV S te ρ (.str l)) (hz : l.length ≤ sizeLine) (h : EvD S tn ρ (Below l.length)) : EvD S (tOp rIxS te tn) ρ (fun d => ∃ c ∈ l, d = .str [c]) := ed_op hl (fun _ _ => h) fun x y e1 ⟨r, e2, h1, h2⟩ => by
  rw [e1, e2]
  have hlt : r.toNat < l.length := by omega
  exact opd_imp (o_ixS (c := l[r.toNat]) (atI_int h1 (List.getElem?_eq_getElem hlt)) hz) fun d e => ⟨_, List.getElem_mem hlt, e⟩
theorem Fa2.strs {α : Type} {p : Nat → Prop} : ∀ {xs : List α} {ds : List D}, Fa2 (fun _ d => ∃ c, p c ∧ d = .str [c]) xs ds → ∃ cs : List Nat, ds = cs.map (fun c => .str [c]) ∧ (∀ c ∈ cs, p c) ∧ cs.length = xs.length
  | _, _, .nil => ⟨[], rfl, fun _ h => (by cases h), rfl⟩
  | _, _, .cons ⟨c, hc, e⟩ r => by
    obtain ⟨cs, e2, h2, h3⟩ := r.strs
    refine ⟨c :: cs, by rw [e, e2] <;> rfl, fun x hx => ?_, by rw [List.length_cons, List.length_cons, h3]⟩
    rcases List.mem_cons.mp hx with z | z
    · rw [z]; exact hc
    · exact h2 x z
/-- two loosely told values -/
theorem ed_opL {r : R2} {Pa Pb P : D → Prop} (ha : EvD S ta ρ Pa) (hb : EvD S tb ρ Pb) (hr : ∀ x y, Pa x → Pb y → OpD S r x y P) : EvD S (tOp r ta tb) ρ P := ed_op ha (fun _ _ => hb) fun x y h1 h2 => hr x y h1 h2
/-- texts loosely told, one behind the other -/
theorem ed_addS {Pa Pb : List Nat → Prop} {P : List Nat → Prop} (ha : EvD S ta ρ (fun d => ∃ a, Pa a ∧ d = .str a)) (hb : EvD S tb ρ (fun d => ∃ a, Pb a ∧ d = .str a)) (h : ∀ a b, Pa a → Pb b → a.length + b.length ≤ 1000000 ∧ P (a ++ b)) : EvD S (tOp Dl.rAddS ta tb) ρ (fun d => ∃ a, P a ∧ d = .str a) := ed_opL ha hb fun x y ⟨a, h1, e1⟩ ⟨b, h2, e2⟩ => by
  rw [e1, e2]
  obtain ⟨hz, hp⟩ := h a b h1 h2
  exact opd_imp (o_addS (sz hz)) fun d e => ⟨_, hp, e⟩
theorem ed_txt {l : List Nat} {P : List Nat → Prop} (h : EvV S te ρ (.str l)) (hp : P l) : EvD S te ρ (fun d => ∃ a, P a ∧ d = .str a) := EvD.imp h fun d e => ⟨l, hp, e⟩
/-- a new list from loosely told data -/
theorem ef_opD {r : R2} {y : D} {Pa : D → Prop} {P : List D → Prop} (ha : EvD S ta ρ Pa) (hb : EvV S tb ρ y) (hr : ∀ x, Pa x → ∃ zs, P zs ∧ OpF S r x y zs) : EvF S (tOp r ta tb) ρ P := fun F G H σ c Q q =>
  ha F G H σ c _ fun v x' G1 H1 ex g1 r1 => hb F G1 H1 σ (c.go g1) _ fun w y' G2 H2 ey g2 r2 => by
    subst ey
    obtain ⟨zs, hp, ho⟩ := hr x' ex
    refine ho G2 H2 ((c.go g1).go g2).base v w Q (r1.mono g2.g) r2 fun p vs G3 H3 g3 hn hh hg rr => ?_
    exact q p vs zs G3 H3 hp ((g1.trans c.base g2).trans c.base g3) ((g1.trans c.base g2).fresh c.base hn) hh hg rr
/-- a for whose range is loosely told -/
theorem run_forB {g : TG} {tb : TS} (lo n : Int) (hlo : 0 ≤ lo) (hn : n ≤ 1000) (I : Nat → List Sl → Prop) (hi : EvD S te ρ (fun d => ∃ r : Int, d = .int r ∧ lo ≤ r ∧ r ≤ n)) (h0 : ∃ ρ0, Le ρ ρ0 ∧ I 0 ρ0)
    (hb : ∀ (k : Nat) r, (k : Int) < n → I k r → ∃ r2, TgD g S (.int (k : Int)) r r2 ∧ Run S tb r2 (fun r3 => ∃ r4, Le r3 r4 ∧ I (k + 1) r4) R) (h2 : ∀ (k : Nat) r, lo ≤ (k : Int) ∧ (k : Int) ≤ n → I k r → Run S t2 r N R) : Run S (tSeq (tFor (iRng1 (tCons te tNil)) g tb) t2) ρ N R := fun F G H σ E c kn kr => by
  refine hi F G H σ c _ fun v d G1 H1 ⟨r, ed, hr1, hr2⟩ g1 r1 => ?_
  subst ed
  have hrun : Run S (tSeq (tFor (iRng1 (tCons (tC (.int r)) tNil)) g tb) t2) ρ N R := by
    refine run_for I (ei_rng1 ev_int (by omega) (by omega)) h0 (fun k d ρk hd hk => ?_) (fun ρk hk => ?_)
    · obtain ⟨hlt, rfl⟩ := rg_get hd
      rw [show (0 + (k : Int) * 1) = (k : Int) by omega]
      exact hb k ρk (by omega) hk
    · rw [rg_len] at hk
      exact h2 _ ρk (by omega) hk
  cases r1
  exact hrun F G1 H1 σ E (c.go g1) (fun ρ' G' H' σ' n g c' => kn ρ' G' H' σ' n ((g1.toS c).trans g) c') fun v d G' H' rd g rr => kr v d G' H' rd ((g1.toS c).trans g) rr
end
end Dl
namespace Fk
open PySem PySem.Spec PyProof.Rows L2 Dl Mr
local macro_rules | `(tactic| walk_at "ev") => `(tactic| first
  | (with_reducible apply ev_dat) <;> rfl
  | with_reducible apply ev_int
  | with_reducible apply ev_bl
  | with_reducible apply ev_non
  | walk_at "lit"
  | with_reducible apply ev_str
  | with_reducible apply eb_test
  | with_reducible apply eb_B
  | with_reducible apply ev_op
  | with_reducible apply o_add
  | with_reducible apply o_sub
  | with_reducible apply o_mul
  | with_reducible apply o_fdiv
  | with_reducible apply o_fdivW
  | with_reducible apply o_mod
  | with_reducible apply o_lt
  | with_reducible apply o_le
  | with_reducible apply o_gt
  | with_reducible apply o_ge
  | with_reducible apply o_eqI
  | with_reducible apply o_neI
  | with_reducible apply o_eqS
  | with_reducible apply o_neS
  | with_reducible apply o_neInts
  | with_reducible apply o_neNil
  | with_reducible apply o_eqNil
  | with_reducible apply o_eqInts
  | with_reducible apply o_addS
  | with_reducible apply o_in1
  | with_reducible apply o_ni1
  | with_reducible apply o_inS
  | with_reducible apply o_mulS
  | with_reducible apply ea_nil
  | with_reducible apply ea_cons
  | with_reducible apply ev_tup
  | with_reducible apply ev_lst
  | with_reducible apply eb_not
  | with_reducible apply eb_and
  | with_reducible apply eb_or
  | with_reducible apply ev_andV
  | with_reducible apply ev_orV
  | with_reducible apply ev_notV
  | with_reducible apply ev_chain
  | with_reducible apply ev_neg
  | with_reducible apply ev_slS
  | with_reducible apply ev_slL
  | with_reducible apply eo_none
  | with_reducible apply eo_some
  | with_reducible apply ev_cb
  | with_reducible apply cd_lenT
  | with_reducible apply cd_lenL
  | with_reducible apply cd_int
  | with_reducible apply cd_max
  | with_reducible apply cd_min
  | with_reducible apply ev_bm
  | with_reducible apply ev_bm0
  | with_reducible apply md_strip
  | with_reducible apply md_rstrip
  | with_reducible apply md_find
  | with_reducible apply md_index
  | with_reducible apply md_starts
  | with_reducible apply md_lower
  | with_reducible apply md_upper
  | with_reducible apply ei_str
  | with_reducible apply ei_list
  | with_reducible exact sz1 rfl
  | with_reducible exact Nat.le_of_ble_eq_true rfl
  | ((with_reducible apply cmulL) <;> decide)
  | ((with_reducible apply cmulR) <;> decide)
  | ((with_reducible apply cdiv) <;> decide)
  | ((with_reducible show (0 : Int) < _) <;> decide)
  | (with_reducible intro _hyp))

section
variable {P : Program} {w : World} {K : PySem.W.Frag} {mg : PySem.Str → Option Value} {base : Heap}
abbrev One1 (p : Addr) : Addr → Prop := fun q => q = p
/-- l is a text of n signs, each of s -/
def Of (s : List Nat) (n : Nat) (l : List Nat) : Prop := l.length = n ∧ ∀ c ∈ l, c ∈ s
abbrev N__law_signs : List PySem.Str := ["_law_source_here", "_law_signs_here", "_law_many", "_law_k"]
theorem sc__law_signs : FnScope N__law_signs ["_law_source_here", "_law_signs_here", "_law_many"] (defScope s__law_signs) := ⟨rfl, rfl, rfl, by decide +kernel, rfl, by decide +kernel, by decide +kernel⟩
local macro_rules | `(tactic| walk_at "lit") => `(tactic| first
  | with_reducible exact ev_strL lit_nil)
theorem c__law_signs (T : Tx K mg) : C8.Cal P w K mg base 3 "_law_signs" (spS (α := List Nat × Nat) (fun a => [.str a.1, .int (a.2 : Int)]) (fun a => (1 ≤ a.1.length ∧ a.1.length ≤ 1000) ∧ a.2 ≤ 1000) (fun a d => ∃ l, Of a.1 a.2 l ∧ d = .str l)) [] :=
  have c__law_next := c__law_next (P := P) (w := w) (base := base) T
  cal_S T.d__law_signs sc__law_signs (fun _ => rfl) (by decide) (fun _ _ _ _ _ _ us hl => match us, hl with | [_, _, _], _ => rfl) (fun f cdv A outer s H E hr => ⟨_, (pss_cons (ps_ret (pe_bm PySem.F.plainAttrs_str PySem.F.slot_str_join PySem.F.type_str_join m_join pe_str (pa_cons (pe_lc (own := [("_law_k", 3)]) (g := gName 3) rfl sc__law_signs.nd (pi_range1 (by rfl) T.n_range (pa_cons (pv 2) pa_nil)) (blkOk_by (own := [("_law_k", 3)]) (N := N__law_signs) (sc := defScope s__law_signs) (by decide +kernel)) (fun _ _ _ _ _ => pg_name (i := 3) sc__law_signs.nd rfl (Or.inl rfl)) (fun _ _ _ _ _ => pts_nil) (fun _ _ _ _ _ => (pe_ix ix_str (pv 1) (C8.pe_c c__law_next hr (by decide) rfl (pa_cons (pv 0) (pa_cons (pe_callB cl_lenT (by rfl) T.n_len boot_len (pa_cons (pv 1) pa_nil)) pa_nil))) (fun _ _ => rfl)))) pa_nil)))
    pss_nil), fun a p ha => by
    obtain ⟨sg, n⟩ := a
    obtain ⟨⟨h1, h2⟩, h3⟩ := ha
    simp only at h1 h2 h3
    show Dl.Run (One1 p) _ [.src, .dat (.str sg), .dat (.int (n : Int)), .no] _ _
    refine run_ret (ed_bmj (ys := fun d => ∃ cs : List Nat, d = .lst ((cs.map fun c => [c]).map .str) ∧ Of sg n cs) (ev_strL lit_nil) (EvD.imp (EvF.frz (ef_lcMD (Pe := fun _ d => ∃ c, c ∈ sg ∧ d = .str [c]) (List.range (n : Int).toNat) (fun k => .int (0 + (k : Int) * 1)) (ei_rng1 (ev_dat rfl) (by omega) (by omega)) (fun k hk => EvD.imp (ed_pickS (ev_dat rfl) (sz (by omega)) (eds_call (sg.length : Int) rfl (ea_cons (ev_cb (ea_cons (ev_dat rfl) ea_nil) (cd_lenT (sz (by omega)))) ea_nil) ⟨by omega, by omega⟩)) fun d ⟨c, hc, e⟩ => ⟨c, hc, e⟩) (sz (by rw [List.length_range]; omega)))) fun d hd => ?_) (fun d hd => ?_)) (fun d hd => hd)
    · obtain ⟨ds, hf, e⟩ := hd
      obtain ⟨cs, e2, h4, h5⟩ := hf.strs
      refine ⟨cs, by rw [e, e2, List.map_map] <;> rfl, ?_, h4⟩
      rw [h5, List.length_range]
      omega
    · obtain ⟨cs, rfl, h4, h5⟩ := hd
      refine ⟨_, md_join (by rw [lens_flat]; have := lens_one (fun c : Nat => c) cs; rw [lens_flat] at this; rw [this]; simp; omega), cs, ⟨h4, h5⟩, ?_⟩
      have := join_one (fun c : Nat => c) cs
      rw [this, List.map_id'']
      exact fun _ => rfl⟩)
abbrev N__law_gap : List PySem.Str := ["_law_source_here", "_law_some"]
theorem sc__law_gap : FnScope N__law_gap ["_law_source_here"] (defScope s__law_gap) := ⟨rfl, rfl, rfl, by decide +kernel, rfl, by decide +kernel, by decide +kernel⟩
local macro_rules | `(tactic| walk_at "lit") => `(tactic| first
  | with_reducible exact ev_strL lit_nil
  | with_reducible exact ev_strL lit_20
  | with_reducible exact ev_strL lit_2020
  | with_reducible exact ev_strL lit_287829
  | with_reducible exact ev_strL lit_202861202862406329205c2920222920
  | with_reducible exact ev_strL lit_282029202829)
theorem c__law_gap (T : Tx K mg) : C8.Cal P w K mg base 3 "_law_gap" (spS (α := Unit) (fun _ => []) (fun _ => True) (fun _ d => ∃ l, (∃ g, Gap g ∧ l = ren g) ∧ d = .str l)) [] :=
  have c__law_next := c__law_next (P := P) (w := w) (base := base) T
  cal_S T.d__law_gap sc__law_gap (fun _ => rfl) (by decide) (fun _ _ _ _ _ _ us hl => match us, hl with | [_], _ => rfl) (fun f cdv A outer s H E hr => ⟨_, (pss_cons (ps_set (i := 1) sc__law_gap.nd rfl (Or.inl rfl) (pe_lst (pa_cons pe_str (pa_cons pe_str (pa_cons pe_str (pa_cons pe_str (pa_cons pe_str (pa_cons pe_str (pa_cons pe_str (pa_cons pe_str pa_nil))))))))))
    (pss_cons (ps_ret (pe_ix ix_list (pv 1) (C8.pe_c c__law_next hr (by decide) rfl (pa_cons (pv 0) (pa_cons pe_int pa_nil))) (fun _ _ => rfl)))
    pss_nil)), fun a p ha => by
    show Dl.Run (One1 p) _ [.src, .no] _ _
    refine run_set (d := .lst (gaps.map fun g => .str (ren g))) (EvV.cast (ev_lst (by
      repeat' walk_at "ev") (sz1 rfl)) (by rfl)) ?_
    refine run_ret (ed_pick (ev_dat rfl) (eds_call 8 rfl (ea_cons ev_int ea_nil) ⟨by decide, by decide⟩)) (fun d hd => ?_)
    obtain ⟨g, hg, rfl⟩ := List.mem_map.mp hd
    exact ⟨ren g, ⟨g, gap_ok g hg, rfl⟩, rfl⟩⟩)
/-! houses -/
def abz : List Nat := [97, 98, 122, 48, 57]
def abzm : List Nat := [97, 98, 122, 48, 57, 45]
def xy7 : List Nat := [120, 121, 55]
structure LabelL (l : List Nat) : Prop where
  ok : LabelOk l
  dot : 46 ∉ l
  lf : 10 ∉ l
  low : l.map lo1 = l
  upp : ∀ c ∈ l, lo1 (up1 c) = c ∧ up1 c ∈ l_ATOM_SIGNS ∧ c ∈ l_ATOM_SIGNS ∧ c < 128
theorem house_signs : ∀ c, c ∈ abzm ∨ c ∈ xy7 → (c ∈ l_HOUSE_SIGNS ∧ c ≠ 46 ∧ c ≠ 10 ∧ lo1 c = c ∧ lo1 (up1 c) = c ∧ up1 c ∈ l_ATOM_SIGNS ∧ c ∈ l_ATOM_SIGNS ∧ c < 128) := by
  intro c hc
  have h1 : ∀ c ∈ abzm, (c ∈ l_HOUSE_SIGNS ∧ c ≠ 46 ∧ c ≠ 10 ∧ lo1 c = c ∧ lo1 (up1 c) = c ∧ up1 c ∈ l_ATOM_SIGNS ∧ c ∈ l_ATOM_SIGNS ∧ c < 128) := by decide +kernel
  have h2 : ∀ c ∈ xy7, (c ∈ l_HOUSE_SIGNS ∧ c ≠ 46 ∧ c ≠ 10 ∧ lo1 c = c ∧ lo1 (up1 c) = c ∧ up1 c ∈ l_ATOM_SIGNS ∧ c ∈ l_ATOM_SIGNS ∧ c < 128) := by decide +kernel
  exact hc.elim (h1 c) (h2 c)
theorem label_of {l : List Nat} (hs : ∀ c ∈ l, c ∈ abzm ∨ c ∈ xy7) (h1 : 1 ≤ l.length) (h2 : l.length ≤ 20) (hh : l.head? ≠ some 45) (hl : l.getLast? ≠ some 45) : LabelL l := by
  refine ⟨⟨⟨h1, h2⟩, ?_, hh, hl⟩, fun h => (house_signs 46 (hs 46 h)).2.1 rfl, fun h => (house_signs 10 (hs 10 h)).2.2.1 rfl, ?_, fun c hc => ?_⟩
  · rw [List.all_eq_true]
    exact fun c hc => decide_eq_true (house_signs c (hs c hc)).1
  · have : ∀ m : List Nat, (∀ c ∈ m, lo1 c = c) → m.map lo1 = m := fun m => by
      induction m with
      | nil => exact fun _ => rfl
      | cons x r ih => exact fun h => by rw [List.map_cons, h x (List.mem_cons_self ..), ih (fun c hc => h c (List.mem_cons_of_mem _ hc))]
    exact this l fun c hc => (house_signs c (hs c hc)).2.2.2.1
  · obtain ⟨_, _, _, _, x1, x2, x3, x4⟩ := house_signs c (hs c hc)
    exact ⟨x1, x2, x3, x4⟩
/-- a house: its labels -/
def HouseL (l : List Nat) : Prop := ∃ ps : List (List Nat), l = Mr.joinL [46] ps ∧ ps ≠ [] ∧ ps.length ≤ 4 ∧ ∀ p ∈ ps, LabelL p
abbrev N__law_house : List PySem.Str := ["_law_source_here", "_law_parts", "_law_k", "_law_many", "_law_inner_here"]
theorem sc__law_house : FnScope N__law_house ["_law_source_here"] (defScope s__law_house) := ⟨rfl, rfl, rfl, by decide +kernel, rfl, by decide +kernel, by decide +kernel⟩
local macro_rules | `(tactic| walk_at "lit") => `(tactic| first
  | with_reducible exact ev_strL lit_61627a30392d
  | with_reducible exact ev_strL lit_2e
  | with_reducible exact ev_strL lit_787937
  | with_reducible exact ev_strL lit_61627a3039)
theorem c__law_house (T : Tx K mg) : C8.Cal P w K mg base 4 "_law_house" (spS (α := Unit) (fun _ => []) (fun _ => True) (fun _ d => ∃ l, HouseL l ∧ d = .str l)) [] :=
  have c__law_next := c__law_next (P := P) (w := w) (base := base) T
  have c__law_signs := c__law_signs (P := P) (w := w) (base := base) T
  cal_S T.d__law_house sc__law_house (fun _ => rfl) (by decide) (fun _ _ _ _ _ _ us hl => match us, hl with | [_], _ => rfl) (fun f cdv A outer s H E hr => ⟨_, (pss_cons (ps_set (i := 1) sc__law_house.nd rfl (Or.inl rfl) (pe_lst pa_nil))
    (pss_cons (ps_for PassesOwn.never rfl (pi_range1 (by rfl) T.n_range (pa_cons (pe_op op_add pe_int (C8.pe_c c__law_next hr (by decide) rfl (pa_cons (pv 0) (pa_cons pe_int pa_nil)))) pa_nil)) (pg_name (i := 2) sc__law_house.nd rfl (Or.inl rfl))
    (pss_cons (ps_set (i := 3) sc__law_house.nd rfl (Or.inl rfl) (pe_ix ix_list (pe_lst (pa_cons pe_int (pa_cons pe_int (pa_cons pe_int (pa_cons pe_int pa_nil))))) (C8.pe_c c__law_next hr (by decide) rfl (pa_cons (pv 0) (pa_cons pe_int pa_nil))) (fun _ _ => rfl)))
    (pss_cons (ps_set (i := 4) sc__law_house.nd rfl (Or.inl rfl) (C8.pe_c c__law_signs hr (by decide) rfl (pa_cons (pv 0) (pa_cons pe_str (pa_cons (pv 3) pa_nil)))))
    (pss_cons (ps_expr (pe_bm PySem.F.plainAttrs_list PySem.F.slot_list_append PySem.F.type_list_append mt_append (pv 1) (pa_cons (pe_op op_addS (pe_op op_addS (C8.pe_c c__law_signs hr (by decide) rfl (pa_cons (pv 0) (pa_cons pe_str (pa_cons pe_int pa_nil)))) (pv 4)) (C8.pe_c c__law_signs hr (by decide) rfl (pa_cons (pv 0) (pa_cons pe_str (pa_cons pe_int pa_nil))))) pa_nil)))
    pss_nil))))
    (pss_cons (ps_if (pt_cmpR op_eq (C8.pe_c c__law_next hr (by decide) rfl (pa_cons (pv 0) (pa_cons pe_int pa_nil))) pe_int (by rfl))
    (pss_cons (ps_set (i := 1) sc__law_house.nd rfl (Or.inl rfl) (pe_op op_cat (pe_lst (pa_cons (C8.pe_c c__law_signs hr (by decide) rfl (pa_cons (pv 0) (pa_cons pe_str (pa_cons pe_int pa_nil)))) pa_nil)) (pv 1)))
    pss_nil)
    pss_nil)
    (pss_cons (ps_ret (pe_bm PySem.F.plainAttrs_str PySem.F.slot_str_join PySem.F.type_str_join m_join pe_str (pa_cons (pv 1) pa_nil)))
    pss_nil)))), fun a p ha => by
    show Dl.Run (One1 p) _ [.src, .no, .no, .no, .no] _ _
    refine run_setFV (ef_lstV ea_nil (sz1 rfl)) ?_
    refine run_forB 1 3 (by decide) (by decide) (fun k r => ∃ ps : List (List Nat), r = [.src, .own (ps.map .str), .no, .no, .no] ∧ ps.length = k ∧ ∀ q ∈ ps, LabelL q) (ed_opL (Pa := fun d => d = .int 1) ev_int (eds_call 3 rfl (ea_cons ev_int ea_nil) ⟨by decide, by decide⟩) fun x y e1 ⟨r, e2, h1, h2⟩ => by
      rw [e1, e2]
      exact opd_imp o_add fun d e => ⟨1 + r, e, by omega, by omega⟩) ⟨_, Le.refl _, [], rfl, rfl, fun _ h => by cases h⟩ (fun k r hk hr => ?_) (fun k r hk hr => ?_)
    · obtain ⟨ps, rfl, h1, h2⟩ := hr
      refine ⟨_, tg_name, ?_⟩
      refine run_setD (ed_pick (xs := [.int 0, .int 1, .int 4, .int 18]) (ev_lst (by repeat' walk_at "ev") (sz1 rfl)) (eds_call 4 rfl (ea_cons ev_int ea_nil) ⟨by decide, by decide⟩)) (fun d hd => ?_)
      obtain ⟨m, rfl, hm⟩ : ∃ m : Nat, d = .int (m : Int) ∧ m ≤ 18 := by
        simp only [List.mem_cons, List.not_mem_nil, or_false] at hd
        rcases hd with rfl | rfl | rfl | rfl
        · exact ⟨0, rfl, by decide⟩
        · exact ⟨1, rfl, by decide⟩
        · exact ⟨4, rfl, by decide⟩
        · exact ⟨18, rfl, by decide⟩
      refine run_setD (eds_call (abzm, m) rfl (ea_cons (ev_strL (l := abzm) lit_61627a30392d) (ea_cons (ev_dat rfl) ea_nil)) ⟨⟨by show 1 ≤ 6; decide, by show 6 ≤ 1000; decide⟩, by show m ≤ 1000; omega⟩) (fun d hd => ?_)
      obtain ⟨inn, hinn, rfl⟩ := hd
      show Dl.Run (One1 p) _ [.src, .own (ps.map .str), .dat (.int (k : Int)), .dat (.int (m : Int)), .dat (.str inn)] _ _
      refine run_append (P := fun d => ∃ l, LabelL l ∧ d = .str l) rfl (ed_addS (Pa := fun l => ∃ x, Of abz 1 x ∧ l = x ++ inn) (Pb := Of xy7 1) (ed_addS (Pa := Of abz 1) (Pb := fun l => l = inn) (EvD.imp (eds_call (abz, 1) rfl (ea_cons (ev_strL (l := abz) lit_61627a3039) (ea_cons ev_int ea_nil)) ⟨by decide, by show 1 ≤ 1000; decide⟩) fun d ⟨l, h, e⟩ => ⟨l, h, e⟩) (ed_txt (ev_dat rfl) rfl) fun x y hx hy => ⟨by rw [hx.1, hy, hinn.1]; omega, x, hx, by rw [hy]⟩) (EvD.imp (eds_call (xy7, 1) rfl (ea_cons (ev_strL (l := xy7) lit_787937) (ea_cons ev_int ea_nil)) ⟨by decide, by show 1 ≤ 1000; decide⟩) fun d ⟨l, h, e⟩ => ⟨l, h, e⟩) fun x y hx hy => ?_) (sz' (by rw [List.length_map]; omega)) (fun d hd => ?_)
      · obtain ⟨z, hz, rfl⟩ := hx
        have hl1 := hz.1
        have hl2 := hinn.1
        have hl3 := hy.1
        simp only at hl1 hl2 hl3
        obtain ⟨z0, rfl⟩ := List.length_eq_one_iff.mp hl1
        obtain ⟨y0, rfl⟩ := List.length_eq_one_iff.mp hl3
        refine ⟨by simp; omega, label_of (fun c hc => ?_) (by simp) (by simp; omega) ?_ ?_⟩
        · simp only [List.mem_append, List.mem_singleton] at hc
          rcases hc with (rfl | h) | rfl
          · have : c ∈ abz := hz.2 c (List.mem_singleton.mpr rfl)
            exact .inl ((show ∀ c ∈ abz, c ∈ abzm by decide) c this)
          · exact .inl (hinn.2 c h)
          · exact .inr (hy.2 c (List.mem_singleton.mpr rfl))
        · have : z0 ∈ abz := hz.2 z0 (List.mem_singleton.mpr rfl)
          show some z0 ≠ some 45
          intro e
          cases e
          exact absurd this (by decide)
        · have : y0 ∈ xy7 := hy.2 y0 (List.mem_singleton.mpr rfl)
          rw [List.getLast?_append]
          show some y0 ≠ some 45
          intro e
          cases e
          exact absurd this (by decide)
      · obtain ⟨l, hl, rfl⟩ := hd
        refine run_next ⟨_, .same (.same (.no (.no (.no .nil)))), ps ++ [l], by rw [List.map_append] <;> rfl, by rw [List.length_append, h1] <;> rfl, fun q hq => ?_⟩
        rcases List.mem_append.mp hq with h | h
        · exact h2 q h
        · rw [List.mem_singleton.mp h]; exact hl
    · obtain ⟨ps, rfl, h1, h2⟩ := hr
      have fin : ∀ (qs : List (List Nat)), qs ≠ [] → qs.length ≤ 4 → (∀ q ∈ qs, LabelL q) → Dl.Run (One1 p) (tSeq (tRet (tBM K "str" (rJoin K) (tC (.str ".")) (tCons (tVar 1) tNil))) tNext) [.src, .own (qs.map .str), .no, .no, .no] (fun _ => False) (fun d => ∃ l, HouseL l ∧ d = .str l) := fun qs g1 g2 g3 => by
        refine run_freeze 1 rfl (run_retV (ev_bm (ys := [.lst (qs.map .str)]) (ev_strL lit_2e) (ea_cons (ev_dat rfl) ea_nil) (md_join ?_)) ⟨_, ⟨qs, rfl, g1, g2, g3⟩, rfl⟩)
        have := lens_le (m := 20) (ss := qs) fun q hq => (g3 q hq).ok.1.2
        simp
        omega
      have hne : ps ≠ [] := fun z => by rw [z] at h1; simp at h1; omega
      refine run_ifT (P := fun _ => True) (et_any (ed_op (eds_call 4 rfl (ea_cons ev_int ea_nil) ⟨by decide, by decide⟩) (fun _ _ => ev_int) fun x y ⟨r, e1, _⟩ e2 => by
        rw [e1, e2]
        exact opd_imp o_eqI fun d e => ⟨_, e⟩)) (fun _ => ?_) (fun _ => run_skip (fin ps hne (by omega) h2))
      refine run_freeze 1 rfl (run_flat (run_setF (P := fun ds => ∃ l, LabelL l ∧ ds = .str l :: ps.map .str) (ef_opD (Pa := fun ds => ∃ l, LabelL l ∧ ds = .lst [.str l]) (EvD.imp (EvF.frz (ef_lst (eda_cons (eds_call (abz, 1) rfl (ea_cons (ev_strL (l := abz) lit_61627a3039) (ea_cons ev_int ea_nil)) ⟨by decide, by show 1 ≤ 1000; decide⟩) fun _ _ => ea_nil) fun ds ⟨d, ds2, _, e1, e2⟩ => by rw [e2, e1]; exact sz1 rfl)) fun d hd => ?_) (ev_dat rfl) (fun x hx => ?_)) (fun ds hd => ?_)))
      · obtain ⟨ds, ⟨d1, ds2, ⟨l, hl, e1⟩, e2, e3⟩, e4⟩ := hd
        simp only at hl e1
        obtain ⟨z0, rfl⟩ := List.length_eq_one_iff.mp hl.1
        refine ⟨[z0], label_of (fun c hc => ?_) (by simp) (by simp) ?_ ?_, by rw [e4, e3, e1, e2]⟩
        · exact .inl ((show ∀ c ∈ abz, c ∈ abzm by decide) c (hl.2 c hc))
        · have : z0 ∈ abz := hl.2 z0 (List.mem_singleton.mpr rfl)
          show some z0 ≠ some 45
          intro e
          cases e
          exact absurd this (by decide)
        · have : z0 ∈ abz := hl.2 z0 (List.mem_singleton.mpr rfl)
          show some z0 ≠ some 45
          intro e
          cases e
          exact absurd this (by decide)
      · obtain ⟨l, hl, rfl⟩ := hx
        exact ⟨_, ⟨l, hl, rfl⟩, o_cat (sz (by simp; omega))⟩
      · obtain ⟨l, hl, rfl⟩ := hd
        refine run_skip (fin (l :: ps) (fun z => nomatch z) (by rw [List.length_cons]; omega) fun q hq => ?_)
        rcases List.mem_cons.mp hq with h | h
        · rw [h]; exact hl
        · exact h2 q h⟩)
end
end Fk
namespace Dl
open PySem PySem.Spec PyProof.Rows L2
section
variable {S : Addr → Prop} {ρ : List Sl} {te tn ta tb : TE} {K : PySem.W.Frag} {i : Nat}
/-- a pick from a loosely told list -/
theorem ed_pickL {Px : List D → Prop} {n : Int} (hl : EvD S te ρ (fun d => ∃ xs, Px xs ∧ d = .lst xs)) (h : EvD S tn ρ (Below n)) (hn : ∀ xs, Px xs → (xs.length : Int) = n) : EvD S (tOp (rIxL K) te tn) ρ (fun d => ∃ xs, Px xs ∧ d ∈ xs) := ed_opL hl h fun x y ⟨xs, hx, e1⟩ ⟨r, e2, h1, h2⟩ => by
  rw [e1, e2]
  have := hn xs hx
  have hlt : r.toNat < xs.length := by omega
  exact opd_imp (o_ixL (z := xs[r.toNat]) (atI_int h1 (List.getElem?_eq_getElem hlt))) fun d e => ⟨xs, hx, by rw [e]; exact List.getElem_mem hlt⟩
/-- a call with the source, its other arguments loosely told -/
theorem eds_callD {α : Type} {args : α → List D} {pre : α → Prop} {post : α → D → Prop} {ta : TA} {E : XK} {Pa : List D → Prop} {P : D → Prop} (hi : ρ[i]? = some .src) (ha : EvA S ta ρ Pa) (h : ∀ ds, Pa ds → ∃ a, ds = args a ∧ pre a ∧ ∀ d, post a d → P d) : EvD S (tCall (spS args pre post) [] E (tCons (tVar i) ta)) ρ P := fun F G H σ c Q q => by
  obtain ⟨p, e, sp⟩ := c.srcAt hi
  refine ⟨.ref p, e, ha F G H σ c _ fun vs ds G1 H1 pd g1 r => ?_⟩
  obtain ⟨a, ea, hp, hq⟩ := h ds pd
  subst ea
  rw [List.append_nil]
  have b1 := (c.go g1).base
  obtain ⟨s1, s2⟩ := b1.src p sp
  refine ⟨a, G1, p, vs, rfl, g1.gh, s1, s2, r, hp, fun v d G' H' po g2 rv => q v d G' H' (hq d po) (g1.trans c.base ⟨g2.g, g2.gh, fun x o hs e => g2.h x o (fun z => hs (z ▸ sp)) e, g2.nw, fun x hx => ?_⟩) rv⟩
  by_cases hxp : x = p
  · exact g2.s x hxp
  · obtain ⟨u, v, w, e⟩ := (b1.src x hx).2
    exact ⟨u, v, w, g2.h x _ hxp e⟩
end
end Dl
namespace Fk
open PySem PySem.Spec PyProof.Rows L2 Dl Mr
local macro_rules | `(tactic| walk_at "ev") => `(tactic| first
  | (with_reducible apply ev_dat) <;> rfl
  | with_reducible apply ev_int
  | with_reducible apply ev_bl
  | with_reducible apply ev_non
  | walk_at "lit"
  | with_reducible apply ev_str
  | with_reducible apply eb_test
  | with_reducible apply eb_B
  | with_reducible apply ev_op
  | with_reducible apply o_add
  | with_reducible apply o_sub
  | with_reducible apply o_mul
  | with_reducible apply o_fdiv
  | with_reducible apply o_fdivW
  | with_reducible apply o_mod
  | with_reducible apply o_lt
  | with_reducible apply o_le
  | with_reducible apply o_gt
  | with_reducible apply o_ge
  | with_reducible apply o_eqI
  | with_reducible apply o_neI
  | with_reducible apply o_eqS
  | with_reducible apply o_neS
  | with_reducible apply o_neInts
  | with_reducible apply o_neNil
  | with_reducible apply o_eqNil
  | with_reducible apply o_eqInts
  | with_reducible apply o_addS
  | with_reducible apply o_in1
  | with_reducible apply o_ni1
  | with_reducible apply o_inS
  | with_reducible apply o_mulS
  | with_reducible apply ea_nil
  | with_reducible apply ea_cons
  | with_reducible apply ev_tup
  | with_reducible apply ev_lst
  | with_reducible apply eb_not
  | with_reducible apply eb_and
  | with_reducible apply eb_or
  | with_reducible apply ev_andV
  | with_reducible apply ev_orV
  | with_reducible apply ev_notV
  | with_reducible apply ev_chain
  | with_reducible apply ev_neg
  | with_reducible apply ev_slS
  | with_reducible apply ev_slL
  | with_reducible apply eo_none
  | with_reducible apply eo_some
  | with_reducible apply ev_cb
  | with_reducible apply cd_lenT
  | with_reducible apply cd_lenL
  | with_reducible apply cd_int
  | with_reducible apply cd_max
  | with_reducible apply cd_min
  | with_reducible apply ev_bm
  | with_reducible apply ev_bm0
  | with_reducible apply md_strip
  | with_reducible apply md_rstrip
  | with_reducible apply md_find
  | with_reducible apply md_index
  | with_reducible apply md_starts
  | with_reducible apply md_lower
  | with_reducible apply md_upper
  | with_reducible apply ei_str
  | with_reducible apply ei_list
  | with_reducible exact sz1 rfl
  | with_reducible exact Nat.le_of_ble_eq_true rfl
  | ((with_reducible apply cmulL) <;> decide)
  | ((with_reducible apply cmulR) <;> decide)
  | ((with_reducible apply cdiv) <;> decide)
  | ((with_reducible show (0 : Int) < _) <;> decide)
  | (with_reducible intro _hyp))

section
variable {P : Program} {w : World} {K : PySem.W.Frag} {mg : PySem.Str → Option Value} {base : Heap}
def saySigns : List Nat := "abcXYZ019 .,@<>()[]:;\"\\-_=?!'".toList.map (·.toNat)
theorem saySigns_ok : ∀ c ∈ saySigns, okc c := by decide +kernel
theorem saySigns_lit : (Str.ofString "abcXYZ019 .,@<>()[]:;\"\\-_=?!'").cps.toList = saySigns := by decide +kernel
/-- the law's odd sayings' texts -/
def mores : List (List Nat) := ["=?m?a?=", "=?", "a =?s?YQ==?= b", "Ann Lee", "ann", " ", "a  b"].map fun s => s.toList.map (·.toNat)
theorem mores_ok : ∀ m ∈ mores, m.length ≤ 20 ∧ ∀ c ∈ m, okc c := by decide +kernel
abbrev N__law_saying : List PySem.Str := ["_law_source_here", "_law_most", "_law_sort", "_law_found", "_law_k", "_law_text", "_law_odd", "_law_any_one", "_law_more"]
theorem sc__law_saying : FnScope N__law_saying ["_law_source_here", "_law_most"] (defScope s__law_saying) := ⟨rfl, rfl, rfl, by decide +kernel, rfl, by decide +kernel, by decide +kernel⟩
local macro_rules | `(tactic| walk_at "lit") => `(tactic| first
  | with_reducible exact ev_strL lit_61626358595a303139202e2c_29
  | with_reducible exact ev_strL lit_3d3f6d3f613f3d
  | with_reducible exact ev_strL lit_3d3f
  | with_reducible exact ev_strL lit_61203d3f733f59513d3d3f3d2062
  | with_reducible exact ev_strL lit_416e6e204c6565
  | with_reducible exact ev_strL lit_616e6e
  | with_reducible exact ev_strL lit_20
  | with_reducible exact ev_strL lit_61202062)
theorem c__law_saying (T : Tx K mg) : C8.Cal P w K mg base 4 "_law_saying" (spS (α := Nat) (fun a => [.int (a : Int)]) (fun a => a ≤ 500) (fun _ d => True)) [] :=
  have c__law_next := c__law_next (P := P) (w := w) (base := base) T
  have c__law_signs := c__law_signs (P := P) (w := w) (base := base) T
  have c__law_numbers := c__law_numbers (P := P) (w := w) (base := base) T
  cal_S T.d__law_saying sc__law_saying (fun _ => rfl) (by decide) (fun _ _ _ _ _ _ us hl => match us, hl with | [_, _], _ => rfl) (fun f cdv A outer s H E hr => ⟨_, (pss_cons (ps_set (i := 2) sc__law_saying.nd rfl (Or.inl rfl) (C8.pe_c c__law_next hr (by decide) rfl (pa_cons (pv 0) (pa_cons pe_int pa_nil))))
    (pss_cons (ps_set (i := 3) sc__law_saying.nd rfl (Or.inl rfl) (pe_lst pa_nil))
    (pss_cons (ps_for PassesOwn.never rfl (pi_range1 (by rfl) T.n_range (pa_cons (C8.pe_c c__law_next hr (by decide) rfl (pa_cons (pv 0) (pa_cons (pe_op op_add (pv 1) pe_int) pa_nil))) pa_nil)) (pg_name (i := 4) sc__law_saying.nd rfl (Or.inl rfl))
    (pss_cons (ps_set (i := 5) sc__law_saying.nd rfl (Or.inl rfl) (C8.pe_c c__law_signs hr (by decide) rfl (pa_cons (pv 0) (pa_cons pe_str (pa_cons pe_int pa_nil)))))
    (pss_cons (ps_set (i := 6) sc__law_saying.nd rfl (Or.inl rfl) (pe_ix ix_list (pe_lst (pa_cons pe_int (pa_cons pe_int (pa_cons pe_int (pa_cons pe_int (pa_cons pe_int (pa_cons pe_int (pa_cons pe_int (pa_cons pe_int (pa_cons pe_int (pa_cons pe_int (pa_cons pe_int (pa_cons pe_int pa_nil))))))))))))) (C8.pe_c c__law_next hr (by decide) rfl (pa_cons (pv 0) (pa_cons pe_int pa_nil))) (fun _ _ => rfl)))
    (pss_cons (ps_set (i := 7) sc__law_saying.nd rfl (Or.inl rfl) (pe_op op_add pe_int (C8.pe_c c__law_next hr (by decide) rfl (pa_cons (pv 0) (pa_cons pe_int pa_nil)))))
    (pss_cons (ps_expr (pe_bm PySem.F.plainAttrs_list PySem.F.slot_list_append PySem.F.type_list_append mt_append (pv 3) (pa_cons (pe_ix ix_list (pe_op op_cat (C8.pe_c c__law_numbers hr (by decide) rfl (pa_cons (pe_op op_mulS (pv 5) pe_int) pa_nil)) (pe_lst (pa_cons (pv 6) (pa_cons (pv 7) pa_nil)))) (pv 2) (fun _ _ => rfl)) pa_nil)))
    pss_nil)))))
    (pss_cons (ps_if (pt_cmpR op_eq (pv 2) pe_int (by rfl))
    (pss_cons (ps_set (i := 8) sc__law_saying.nd rfl (Or.inl rfl) (pe_ix ix_list (pe_lst (pa_cons pe_str (pa_cons pe_str (pa_cons pe_str (pa_cons pe_str (pa_cons pe_str (pa_cons pe_str (pa_cons pe_str pa_nil)))))))) (C8.pe_c c__law_next hr (by decide) rfl (pa_cons (pv 0) (pa_cons pe_int pa_nil))) (fun _ _ => rfl)))
    (pss_cons (ps_set (i := 3) sc__law_saying.nd rfl (Or.inl rfl) (pe_op op_cat (pe_slice sl_list (pv 3) po_none (po_some pe_int)) (C8.pe_c c__law_numbers hr (by decide) rfl (pa_cons (pv 8) pa_nil))))
    pss_nil))
    pss_nil)
    (pss_cons (ps_ret (pv 3))
    pss_nil))))), fun a p ha => by
    show Dl.Run (One1 p) _ [.src, .dat (.int (a : Int)), .no, .no, .no, .no, .no, .no, .no] _ _
    refine run_setD (eds_call 6 rfl (ea_cons ev_int ea_nil) ⟨by decide, by decide⟩) (fun d hd => ?_)
    obtain ⟨so, rfl, hs1, hs2⟩ := hd
    refine run_setFV (ef_lstV ea_nil (sz1 rfl)) ?_
    show Dl.Run (One1 p) _ [.src, .dat (.int (a : Int)), .dat (.int so), .own [], .no, .no, .no, .no, .no] _ _
    refine run_forB 0 500 (by decide) (by decide) (fun k r => ∃ ds : List D, r = [.src, .dat (.int (a : Int)), .dat (.int so), .own ds, .no, .no, .no, .no, .no] ∧ ds.length = k) (EvD.imp (eds_call ((a : Int) + 1) rfl (ea_cons (by repeat' walk_at "ev") ea_nil) ⟨by omega, by omega⟩) fun d ⟨r, e, h1, h2⟩ => ⟨r, e, h1, by omega⟩) ⟨_, Le.refl _, [], rfl, rfl⟩ (fun k r hk hr => ?_) (fun k r hk hr => ?_)
    · obtain ⟨ds, rfl, h1⟩ := hr
      refine ⟨_, tg_name, ?_⟩
      refine run_setD (eds_call (saySigns, 1) rfl (ea_cons (ev_strL saySigns_lit) (ea_cons ev_int ea_nil)) ⟨by decide, by show 1 ≤ 1000; decide⟩) (fun d hd => ?_)
      obtain ⟨l, hl, rfl⟩ := hd
      obtain ⟨c, rfl⟩ := List.length_eq_one_iff.mp hl.1
      have hc : okc c := saySigns_ok c (hl.2 c (List.mem_singleton.mpr rfl))
      refine run_setD (ed_pick (xs := [.int 32, .int 37, .int 61, .int 63, .int 95, .int 127, .int 200, .int 955, .int 8364, .int 65535, .int 97, .int 66]) (ev_lst (by repeat' walk_at "ev") (sz1 rfl)) (eds_call 12 rfl (ea_cons ev_int ea_nil) ⟨by decide, by decide⟩)) (fun d hd => ?_)
      refine run_setD (ed_opL (Pa := fun d => d = .int 32) (P := isInt) ev_int (eds_call 65504 rfl (ea_cons ev_int ea_nil) ⟨by decide, by decide⟩) fun x y e1 ⟨r, e2, _⟩ => by
        rw [e1, e2]
        exact opd_imp o_add fun d e => ⟨_, e⟩) (fun d2 hd2 => ?_)
      show Dl.Run (One1 p) _ [.src, .dat (.int (a : Int)), .dat (.int so), .own ds, .dat (.int (k : Int)), .dat (.str [c]), .dat d, .dat d2, .no] _ _
      refine run_append (P := fun _ => True) rfl (EvD.imp (ed_pick (xs := (numbersOf [c, c, c, c]).map .int ++ [d, d2]) (EvF.v (ef_op (ed_call [c, c, c, c] (ea_cons (EvV.cast (ev_op (ev_dat rfl) ev_int (o_mulS (by decide) (by decide) (by show 1 ≤ 1000; decide))) (by rfl)) ea_nil) ⟨by show 4 ≤ 100000; decide, fun x hx => by simp at hx; rw [hx]; exact hc⟩) (ev_lst (ea_cons (ev_dat rfl) (ea_cons (ev_dat rfl) ea_nil)) (sz1 rfl)) (o_cat (sz1 rfl)))) (EvD.imp (ev_dat rfl) fun x e => ⟨so, e, hs1, by show so < 6; exact hs2⟩)) fun _ _ => trivial) (sz' (by omega)) (fun d3 _ => ?_)
      exact run_next ⟨_, .same (.same (.same (.same (.no (.no (.no (.no (.no .nil)))))))), ds ++ [d3], rfl, by rw [List.length_append, h1] <;> rfl⟩
    · obtain ⟨ds, rfl, h1⟩ := hr
      refine run_ifT (P := fun _ => True) (et_any (ev_op (ev_dat rfl) ev_int (opd_imp o_eqI fun d e => ⟨_, e⟩))) (fun _ => ?_) (fun _ => run_skip (run_freeze 3 rfl (run_retV (ev_dat rfl) trivial)))
      refine run_freeze 3 rfl (run_flat (run_setD (ed_pick (xs := mores.map .str) (EvV.cast (ev_lst (by
        repeat' walk_at "ev") (sz1 rfl)) (by rfl)) (eds_call 7 rfl (ea_cons ev_int ea_nil) ⟨by decide, by decide⟩)) (fun d hd => ?_)))
      obtain ⟨m, hm, rfl⟩ := List.mem_map.mp hd
      obtain ⟨m1, m2⟩ := mores_ok m hm
      refine run_flat (run_setFV (ef_op (ev_slL (ev_dat rfl) eo_none (eo_some ev_int)) (ed_call m (ea_cons (ev_dat rfl) ea_nil) ⟨by omega, m2⟩) (o_cat ?_)) (run_skip (run_freeze 3 rfl (run_retV (ev_dat rfl) trivial))))
      have : (cut ds none (some 4)).length ≤ 4 := by
        rw [show (4 : Int) = ((4 : Nat) : Int) from rfl, cut_to, List.length_take]
        omega
      exact sz (by unfold numbersOf; rw [List.length_map, List.length_map]; omega)⟩)
/-- a local part of the law -/
def LocL (l : List Nat) : Prop := (1 ≤ l.length ∧ l.length ≤ 40) ∧ ∀ c ∈ l, okc c
def locSigns : List (List Nat) := ["abZ9._-", "ab @\"\\<>(),;:=?[]", "ab!#$&'*+/=?^_`{|}~"].map fun s => s.toList.map (·.toNat)
theorem locSigns_ok : ∀ m ∈ locSigns, (1 ≤ m.length ∧ m.length ≤ 1000) ∧ ∀ c ∈ m, okc c := by decide +kernel
abbrev N__law_one : List PySem.Str := ["_law_source_here", "_law_saying_here", "_law_signs_here", "_law_local"]
theorem sc__law_one : FnScope N__law_one ["_law_source_here"] (defScope s__law_one) := ⟨rfl, rfl, rfl, by decide +kernel, rfl, by decide +kernel, by decide +kernel⟩
local macro_rules | `(tactic| walk_at "lit") => `(tactic| first
  | with_reducible exact ev_strL lit_6f6e65
  | with_reducible exact ev_strL lit_61625a392e5f2d
  | with_reducible exact ev_strL lit_61622040225c3c3e28292c3b3a3d3f5b5d
  | with_reducible exact ev_strL lit_616221232426272a2b2f3d3f5e5f607b7c7d7e)
theorem c__law_one (T : Tx K mg) : C8.Cal P w K mg base 5 "_law_one" (spS (α := Unit) (fun _ => []) (fun _ => True) (fun _ d => ∃ x loc hou, d = .tup [.str sOne, x, .str loc, .str hou] ∧ LocL loc ∧ HouseL hou)) [] :=
  have c__law_next := c__law_next (P := P) (w := w) (base := base) T
  have c__law_signs := c__law_signs (P := P) (w := w) (base := base) T
  have c__law_saying := c__law_saying (P := P) (w := w) (base := base) T
  have c__law_house := c__law_house (P := P) (w := w) (base := base) T
  cal_S T.d__law_one sc__law_one (fun _ => rfl) (by decide) (fun _ _ _ _ _ _ us hl => match us, hl with | [_], _ => rfl) (fun f cdv A outer s H E hr => ⟨_, (pss_cons (ps_set (i := 1) sc__law_one.nd rfl (Or.inl rfl) (pe_ix ix_list (pe_lst (pa_cons (pe_lst pa_nil) (pa_cons (C8.pe_c c__law_saying hr (by decide) rfl (pa_cons (pv 0) (pa_cons pe_int pa_nil))) (pa_cons (C8.pe_c c__law_saying hr (by decide) rfl (pa_cons (pv 0) (pa_cons (pe_ix ix_list (pe_lst (pa_cons pe_int (pa_cons pe_int pa_nil))) (C8.pe_c c__law_next hr (by decide) rfl (pa_cons (pv 0) (pa_cons pe_int pa_nil))) (fun _ _ => rfl)) pa_nil))) pa_nil)))) (C8.pe_c c__law_next hr (by decide) rfl (pa_cons (pv 0) (pa_cons pe_int pa_nil))) (fun _ _ => rfl)))
    (pss_cons (ps_set (i := 2) sc__law_one.nd rfl (Or.inl rfl) (pe_ix ix_list (pe_lst (pa_cons pe_str (pa_cons pe_str (pa_cons pe_str pa_nil)))) (C8.pe_c c__law_next hr (by decide) rfl (pa_cons (pv 0) (pa_cons pe_int pa_nil))) (fun _ _ => rfl)))
    (pss_cons (ps_set (i := 3) sc__law_one.nd rfl (Or.inl rfl) (C8.pe_c c__law_signs hr (by decide) rfl (pa_cons (pv 0) (pa_cons (pv 2) (pa_cons (pe_op op_add pe_int (C8.pe_c c__law_next hr (by decide) rfl (pa_cons (pv 0) (pa_cons (pe_ix ix_list (pe_lst (pa_cons pe_int (pa_cons pe_int (pa_cons pe_int pa_nil)))) (C8.pe_c c__law_next hr (by decide) rfl (pa_cons (pv 0) (pa_cons pe_int pa_nil))) (fun _ _ => rfl)) pa_nil)))) pa_nil)))))
    (pss_cons (ps_ret (pe_tup (pa_cons pe_str (pa_cons (pv 1) (pa_cons (pv 3) (pa_cons (C8.pe_c c__law_house hr (by decide) rfl (pa_cons (pv 0) pa_nil)) pa_nil))))))
    pss_nil)))), fun a p ha => by
    show Dl.Run (One1 p) _ [.src, .no, .no, .no] _ _
    have nx : ∀ {ρ : List Sl} {n : Int}, ρ[0]? = some .src → 0 < n ∧ n < 1073741824 → EvD (One1 p) (tCall (spS (α := Int) (fun a => [.int a]) (fun a => 0 < a ∧ a < 1073741824) (fun a d => ∃ r : Int, d = .int r ∧ 0 ≤ r ∧ r < a)) [] C8.E0 (tCons (tVar 0) (tCons (tC (.int n)) tNil))) ρ (Below n) := fun h0 hn => eds_call _ h0 (ea_cons ev_int ea_nil) hn
    refine run_setD (P := fun _ => True) (EvD.imp (ed_pickL (Px := fun xs => xs.length = 3) (n := 3) (EvD.imp (EvF.frz (ef_lst (P := fun xs => xs.length = 3) (EvA.imp (eda_cons (ev_lst ea_nil (sz1 rfl)) fun _ _ => eda_cons (eds_call 12 rfl (ea_cons ev_int ea_nil) (by decide)) fun _ _ => eda_cons (eds_callD (P := fun _ => True) (Pa := fun ds => ∃ x : Nat, ds = [.int (x : Int)] ∧ x ≤ 500) rfl (EvA.imp (eda_cons (ed_pick (xs := [.int 12, .int 90]) (ev_lst (by repeat' walk_at "ev") (sz1 rfl)) (nx rfl ⟨by decide, by decide⟩)) fun _ _ => ea_nil) fun ds ⟨d, ds2, h1, h2, h3⟩ => by
      rw [h3, h2]
      simp only [List.mem_cons, List.not_mem_nil, or_false] at h1
      rcases h1 with rfl | rfl
      · exact ⟨12, rfl, by decide⟩
      · exact ⟨90, rfl, by decide⟩) fun ds ⟨x, e, hx⟩ => ⟨x, e, hx, fun _ _ => trivial⟩) fun _ _ => ea_nil) fun ds h => by
        obtain ⟨d1, r1, _, ⟨d2, r2, _, ⟨d3, r3, _, e3, e2⟩, e1⟩, e0⟩ := h
        rw [e0, e1, e2, e3]
        rfl) fun ds h => by rw [h]; exact sz1 rfl)) fun d ⟨xs, h1, h2⟩ => ⟨xs, h1, h2⟩) (nx rfl ⟨by decide, by decide⟩) fun xs h => by rw [h]; rfl) fun _ _ => trivial) (fun d _ => ?_)
    refine run_setD (ed_pick (xs := locSigns.map .str) (EvV.cast (ev_lst (by
      repeat' walk_at "ev") (sz1 rfl)) (by rfl)) (nx rfl ⟨by decide, by decide⟩)) (fun d2 hd2 => ?_)
    obtain ⟨m, hm, rfl⟩ := List.mem_map.mp hd2
    obtain ⟨m1, m2⟩ := locSigns_ok m hm
    show Dl.Run (One1 p) _ [.src, .dat d, .dat (.str m), .no] _ _
    refine run_setD (P := fun d => ∃ l, LocL l ∧ d = .str l) (eds_callD (Pa := fun ds => ∃ x : Nat, ds = [.str m, .int (x : Int)] ∧ 1 ≤ x ∧ x ≤ 40) rfl (EvA.imp (eda_cons (ev_dat rfl) fun _ _ => eda_cons (Pa := fun d => ∃ x : Nat, d = .int (x : Int) ∧ 1 ≤ x ∧ x ≤ 40) (ed_opL (Pa := fun d => d = .int 1) (Pb := fun d => ∃ r : Int, d = .int r ∧ 0 ≤ r ∧ r < 40) ev_int (eds_callD (Pa := fun ds => ∃ n : Int, ds = [.int n] ∧ 0 < n ∧ n ≤ 40) rfl (EvA.imp (eda_cons (ed_pick (xs := [.int 3, .int 9, .int 40]) (ev_lst (by repeat' walk_at "ev") (sz1 rfl)) (nx rfl ⟨by decide, by decide⟩)) fun _ _ => ea_nil) fun ds h => ?_) fun ds h => ?_) fun x y e1 h => ?_) fun _ _ => ea_nil) fun ds h => ?_) fun ds h => ?_) (fun d3 hd3 => ?_)
    · obtain ⟨d0, ds2, h1, h2, h3⟩ := h
      rw [h3, h2]
      simp only [List.mem_cons, List.not_mem_nil, or_false] at h1
      rcases h1 with rfl | rfl | rfl
      · exact ⟨3, rfl, by decide, by decide⟩
      · exact ⟨9, rfl, by decide, by decide⟩
      · exact ⟨40, rfl, by decide, by decide⟩
    · obtain ⟨n, e, h1, h2⟩ := h
      exact ⟨n, e, ⟨h1, by omega⟩, fun d ⟨r, e2, g1, g2⟩ => ⟨r, e2, g1, by omega⟩⟩
    · obtain ⟨r, e2, g1, g2⟩ := h
      rw [e1, e2]
      exact opd_imp o_add fun d e => ⟨(1 + r).toNat, by rw [e]; congr 1; omega, by omega, by omega⟩
    · obtain ⟨d1, r1, h1, ⟨d2', r2, ⟨x, e2, g1, g2⟩, h3, h4⟩, h5⟩ := h
      exact ⟨x, by rw [h5, h4, h3, h1, e2], g1, g2⟩
    · obtain ⟨x, e, g1, g2⟩ := h
      exact ⟨(m, x), e, ⟨m1, by show x ≤ 1000; omega⟩, fun d ⟨l, hl, e2⟩ => ⟨l, ⟨by have := hl.1; simp only at this; omega, fun c hc => m2 c (hl.2 c hc)⟩, e2⟩⟩
    · obtain ⟨loc, hloc, rfl⟩ := hd3
      show Dl.Run (One1 p) _ [.src, .dat d, .dat (.str m), .dat (.str loc)] _ _
      refine run_ret (ed_tup (P := fun ds => ∃ hou, ds = [.str sOne, d, .str loc, .str hou] ∧ HouseL hou) (EvA.imp (eda_cons (ev_strL (l := sOne) lit_6f6e65) fun _ _ => eda_cons (ev_dat rfl) fun _ _ => eda_cons (ev_dat rfl) fun _ _ => eda_cons (eds_call () rfl ea_nil trivial) fun _ _ => ea_nil) fun ds h => ?_) fun ds h => ?_) (fun dd h => ?_)
      · obtain ⟨d1, r1, e1, ⟨d2', r2, e2, ⟨d3', r3, e3, ⟨d4, r4, ⟨hou, hh, e4⟩, e5, e6⟩, e7⟩, e8⟩, e9⟩ := h
        exact ⟨hou, by rw [e9, e8, e7, e6, e5, e4, e3, e2, e1], hh⟩
      · obtain ⟨hou, e, _⟩ := h
        rw [e]
        exact sz1 rfl
      · obtain ⟨ds, ⟨hou, e, hh⟩, e2⟩ := h
        exact ⟨d, loc, hou, by rw [e2, e], hloc, hh⟩⟩)
end
end Fk
namespace Dl
open PySem PySem.Spec PyProof.Rows L2
section
variable {S : Addr → Prop} {ρ : List Sl} {t u : TT} {a b t2 : TS} {N N1 : List Sl → Prop} {R : D → Prop} {P : Bool → Prop}
theorem run_ifTJ (h : EvT S t ρ P) (h1 : P true → Run S a ρ N1 R) (h2 : P false → Run S b ρ N1 R) (h3 : ∀ ρ', N1 ρ' → Run S t2 ρ' N R) : Run S (tSeq (tIfS t a b) t2) ρ N R :=
  run_ifT h (fun e => run_seq (h1 e) h3) (fun e => run_seq (h2 e) h3)
theorem et_andA (h1 : EvT S t ρ (fun _ => True)) (h2 : EvT S u ρ (fun _ => True)) : EvT S (tAnd t u) ρ (fun _ => True) := fun F G H σ c Q q => h1 F G H σ c _ fun a' G1 H1 _ g => by
  cases a' with
  | true =>
    rw [if_pos rfl]
    exact h2 F G1 H1 σ (c.go g) Q fun b' G2 H2 _ g2 => q b' G2 H2 trivial (g.trans c.base g2)
  | false =>
    rw [if_neg Bool.false_ne_true]
    exact q _ G1 H1 trivial g
theorem et_andB {x : Bool} (h1 : EvB S t ρ x) (h2 : EvT S u ρ (fun _ => True)) : EvT S (tAnd t u) ρ (fun y => y = true → x = true) := fun F G H σ c Q q => h1 F G H σ c _ fun a' G1 H1 e g => by
  subst e
  cases a' with
  | true =>
    rw [if_pos rfl]
    exact h2 F G1 H1 σ (c.go g) Q fun b' G2 H2 _ g2 => q b' G2 H2 (fun _ => rfl) (g.trans c.base g2)
  | false =>
    rw [if_neg Bool.false_ne_true]
    exact q _ G1 H1 (fun z => z) g
end
end Dl
namespace Fk
open PySem PySem.Spec PyProof.Rows L2 Dl Mr
local macro_rules | `(tactic| walk_at "ev") => `(tactic| first
  | (with_reducible apply ev_dat) <;> rfl
  | with_reducible apply ev_int
  | with_reducible apply ev_bl
  | with_reducible apply ev_non
  | walk_at "lit"
  | with_reducible apply ev_str
  | with_reducible apply eb_test
  | with_reducible apply eb_B
  | with_reducible apply ev_op
  | with_reducible apply o_add
  | with_reducible apply o_sub
  | with_reducible apply o_mul
  | with_reducible apply o_fdiv
  | with_reducible apply o_fdivW
  | with_reducible apply o_mod
  | with_reducible apply o_lt
  | with_reducible apply o_le
  | with_reducible apply o_gt
  | with_reducible apply o_ge
  | with_reducible apply o_eqI
  | with_reducible apply o_neI
  | with_reducible apply o_eqS
  | with_reducible apply o_neS
  | with_reducible apply o_neInts
  | with_reducible apply o_neNil
  | with_reducible apply o_eqNil
  | with_reducible apply o_eqInts
  | with_reducible apply o_addS
  | with_reducible apply o_in1
  | with_reducible apply o_ni1
  | with_reducible apply o_inS
  | with_reducible apply o_mulS
  | with_reducible apply ea_nil
  | with_reducible apply ea_cons
  | with_reducible apply ev_tup
  | with_reducible apply ev_lst
  | with_reducible apply eb_not
  | with_reducible apply eb_and
  | with_reducible apply eb_or
  | with_reducible apply ev_andV
  | with_reducible apply ev_orV
  | with_reducible apply ev_notV
  | with_reducible apply ev_chain
  | with_reducible apply ev_neg
  | with_reducible apply ev_slS
  | with_reducible apply ev_slL
  | with_reducible apply eo_none
  | with_reducible apply eo_some
  | with_reducible apply ev_cb
  | with_reducible apply cd_lenT
  | with_reducible apply cd_lenL
  | with_reducible apply cd_int
  | with_reducible apply cd_max
  | with_reducible apply cd_min
  | with_reducible apply ev_bm
  | with_reducible apply ev_bm0
  | with_reducible apply md_strip
  | with_reducible apply md_rstrip
  | with_reducible apply md_find
  | with_reducible apply md_index
  | with_reducible apply md_starts
  | with_reducible apply md_lower
  | with_reducible apply md_upper
  | with_reducible apply ei_str
  | with_reducible apply ei_list
  | with_reducible exact sz1 rfl
  | with_reducible exact Nat.le_of_ble_eq_true rfl
  | ((with_reducible apply cmulL) <;> decide)
  | ((with_reducible apply cmulR) <;> decide)
  | ((with_reducible apply cdiv) <;> decide)
  | ((with_reducible show (0 : Int) < _) <;> decide)
  | (with_reducible intro _hyp))

section
variable {P : Program} {w : World} {K : PySem.W.Frag} {mg : PySem.Str → Option Value} {base : Heap}
def tkD (t : Tk) : D := .tup [.str t.1, .str t.2]
def wdS0 : List Nat := "abZ9.-'".toList.map (·.toNat)
def wdS1 : List Nat := "ab \"\\@<(,;:=?".toList.map (·.toNat)
theorem wdS0_ok : (∀ c ∈ wdS0, c ∈ l_ATOM_SIGNS) ∧ 1 ≤ wdS0.length ∧ wdS0.length ≤ 1000 := by decide +kernel
theorem wdS1_ok : (∀ c ∈ wdS1, okc c) ∧ 1 ≤ wdS1.length ∧ wdS1.length ≤ 1000 := by decide +kernel
theorem wdS0_lit : (Str.ofString "abZ9.-'").cps.toList = wdS0 := by decide +kernel
theorem wdS1_lit : (Str.ofString "ab \"\\@<(,;:=?").cps.toList = wdS1 := by decide +kernel
def odds : List (List Nat) := ["=?m?=61?=", "=?s?YR==?=", "=?x?a?=", "=?m??=", "=?M?a?=", "=?m?a?=x", "a=?m?a?=", "=?m?=?="].map fun s => s.toList.map (·.toNat)
theorem odds_ok : ∀ m ∈ odds, m ≠ [] ∧ m.length ≤ 10 ∧ ∀ c ∈ m, c ∈ l_ATOM_SIGNS := by decide +kernel
/-- a piece with its token -/
structure PcT (pc : Pc) (t : Tk) : Prop where
  ok : pc.ok
  tk : pc.tok = some t
  tx : TxS 10 t
  len : pc.str.length ≤ 200
theorem pcT_at {a : List Nat} (hn : a ≠ []) (h : ∀ c ∈ a, c ∈ l_ATOM_SIGNS) (hl : a.length ≤ 10) : PcT (.at_ a) (sAtom, a) := ⟨⟨hn, h⟩, rfl, tx_atom h hl, by show a.length ≤ 200; omega⟩
theorem pcT_qu {a : List Nat} (h : ∀ c ∈ a, okc c) (hl : a.length ≤ 10) : PcT (.qu a) (sQuoted, a) := ⟨h, rfl, tx_quoted h hl, by
  have := escQ_len a
  show (34 :: escQ a ++ [34]).length ≤ 200
  simp
  omega⟩
theorem pcT_co {g : List Int} {c : Nat} (hg : g ≠ []) (hr : Rng g) (hl : g.length ≤ 9) (hc : isSort c) : PcT (.at_ (codedWord (allOctets g) c)) (sAtom, codedWord (allOctets g) c) := ⟨⟨(by rw [coded_form]; exact (fun z => nomatch z)), coded_atom hr.byt hc⟩, rfl, tx_coded hg hr hl hc, by
  have := coded_len (c := c) hl
  show (codedWord _ _).length ≤ 200
  omega⟩
/-- what a word of this sort is, before the coded and the odd ones -/
def word0 (so : Int) (l : List Nat) : Tk := if so = 0 then (sAtom, l) else (sQuoted, l)
def shown0 (so : Int) (l : List Nat) : Pc := if so = 0 then .at_ l else .qu l
theorem Fa2.ints {α : Type} {p : Int → Prop} : ∀ {xs : List α} {ds : List D}, Fa2 (fun _ d => ∃ c, p c ∧ d = .int c) xs ds → ∃ cs : List Int, ds = cs.map .int ∧ (∀ c ∈ cs, p c) ∧ cs.length = xs.length
  | _, _, .nil => ⟨[], rfl, fun _ h => (by cases h), rfl⟩
  | _, _, .cons ⟨c, hc, e⟩ r => by
    obtain ⟨cs, e2, h2, h3⟩ := Fa2.ints r
    refine ⟨c :: cs, by rw [e, e2] <;> rfl, fun x hx => ?_, by rw [List.length_cons, List.length_cons, h3]⟩
    rcases List.mem_cons.mp hx with z | z
    · rw [z]; exact hc
    · exact h2 x z
abbrev N__law_words : List PySem.Str := ["_law_source_here", "_law_value", "_law_there", "_law_k", "_law_sort", "_law_text", "_law_odd", "_law_word", "_law_shown", "_law_reach", "_law_many", "_law_saying_here", "_law_j"]
theorem sc__law_words : FnScope N__law_words ["_law_source_here"] (defScope s__law_words) := ⟨rfl, rfl, rfl, by decide +kernel, rfl, by decide +kernel, by decide +kernel⟩
local macro_rules | `(tactic| walk_at "lit") => `(tactic| first
  | with_reducible exact ev_strL lit_nil
  | with_reducible exact ev_strL lit_3d3f6d3f3d36313f3d
  | with_reducible exact ev_strL lit_3d3f733f59523d3d3f3d
  | with_reducible exact ev_strL lit_3d3f783f613f3d
  | with_reducible exact ev_strL lit_3d3f6d3f3f3d
  | with_reducible exact ev_strL lit_3d3f4d3f613f3d
  | with_reducible exact ev_strL lit_3d3f6d3f613f3d78
  | with_reducible exact ev_strL lit_613d3f6d3f613f3d
  | with_reducible exact ev_strL lit_3d3f6d3f3d3f3d
  | with_reducible exact ev_strL lit_71756f746564
  | with_reducible exact ev_strL lit_61746f6d
  | with_reducible exact ev_strL lit_20
  | with_reducible exact ev_strL lit_61625a392e2d27
  | with_reducible exact ev_strL lit_616220225c403c282c3b3a3d3f
  | with_reducible exact ev_strL lit_736d)
theorem c__law_words (T : Tx K mg) : C8.Cal P w K mg base 6 "_law_words" (spS (α := Unit) (fun _ => []) (fun _ => True) (fun _ d => ∃ ps, WordsP ps ∧ d = .tup [.str (ren ps), .lst ((sayT (toks ps)).map .int)])) [] :=
  have c__law_next := c__law_next (P := P) (w := w) (base := base) T
  have c__law_signs := c__law_signs (P := P) (w := w) (base := base) T
  have c__law_gap := c__law_gap (P := P) (w := w) (base := base) T
  have c__law_quoted := c__law_quoted (P := P) (w := w) (base := base) T
  have c__law_coded_word := c__law_coded_word (P := P) (w := w) (base := base) T
  have c__law_phrase_told := c__law_phrase_told (P := P) (w := w) (base := base) T
  cal_S T.d__law_words sc__law_words (fun _ => rfl) (by decide) (fun _ _ _ _ _ _ us hl => match us, hl with | [_], _ => rfl) (fun f cdv A outer s H E hr => ⟨_, (pss_cons (ps_set (i := 1) sc__law_words.nd rfl (Or.inl rfl) pe_str)
    (pss_cons (ps_set (i := 2) sc__law_words.nd rfl (Or.inl rfl) (pe_lst pa_nil))
    (pss_cons (ps_for PassesOwn.never rfl (pi_range1 (by rfl) T.n_range (pa_cons (pe_op op_add pe_int (C8.pe_c c__law_next hr (by decide) rfl (pa_cons (pv 0) (pa_cons pe_int pa_nil)))) pa_nil)) (pg_name (i := 3) sc__law_words.nd rfl (Or.inl rfl))
    (pss_cons (ps_set (i := 4) sc__law_words.nd rfl (Or.inl rfl) (C8.pe_c c__law_next hr (by decide) rfl (pa_cons (pv 0) (pa_cons pe_int pa_nil))))
    (pss_cons (ps_set (i := 5) sc__law_words.nd rfl (Or.inl rfl) (C8.pe_c c__law_signs hr (by decide) rfl (pa_cons (pv 0) (pa_cons (pe_ix ix_list (pe_lst (pa_cons pe_str (pa_cons pe_str pa_nil))) (pe_op op_mod (pv 4) pe_int) (fun _ _ => rfl)) (pa_cons (pe_op op_add pe_int (C8.pe_c c__law_next hr (by decide) rfl (pa_cons (pv 0) (pa_cons pe_int pa_nil)))) pa_nil)))))
    (pss_cons (ps_set (i := 6) sc__law_words.nd rfl (Or.inl rfl) (pe_lst (pa_cons pe_str (pa_cons pe_str (pa_cons pe_str (pa_cons pe_str (pa_cons pe_str (pa_cons pe_str (pa_cons pe_str (pa_cons pe_str pa_nil))))))))))
    (pss_cons (ps_set (i := 7) sc__law_words.nd rfl (Or.inl rfl) (pe_tup (pa_cons pe_str (pa_cons (pv 5) pa_nil))))
    (pss_cons (ps_set (i := 8) sc__law_words.nd rfl (Or.inl rfl) (C8.pe_c c__law_quoted hr (by decide) rfl (pa_cons (pv 5) pa_nil)))
    (pss_cons (ps_if (pt_cmpR op_eq (pv 4) pe_int (by rfl))
    (pss_cons (ps_set (i := 7) sc__law_words.nd rfl (Or.inl rfl) (pe_tup (pa_cons pe_str (pa_cons (pv 5) pa_nil))))
    (pss_cons (ps_set (i := 8) sc__law_words.nd rfl (Or.inl rfl) (pv 5))
    pss_nil))
    pss_nil)
    (pss_cons (ps_if (pt_cmpR op_eq (pv 4) pe_int (by rfl))
    (pss_cons (ps_set (i := 9) sc__law_words.nd rfl (Or.inr rfl) (pe_ix ix_list (pe_lst (pa_cons pe_int (pa_cons pe_int pa_nil))) (C8.pe_c c__law_next hr (by decide) rfl (pa_cons (pv 0) (pa_cons pe_int pa_nil))) (fun _ _ => rfl)))
    (pss_cons (ps_set (i := 10) sc__law_words.nd rfl (Or.inl rfl) (pe_op op_add pe_int (C8.pe_c c__law_next hr (by decide) rfl (pa_cons (pv 0) (pa_cons pe_int pa_nil)))))
    (pss_cons (ps_setLc (i := 11) (own := [("_law_j", 12)]) (g := gName 12) rfl sc__law_words.nd rfl rfl (sw_true rfl rfl rfl (by decide +kernel)) (pi_range1 (by rfl) T.n_range (pa_cons (pv 10) pa_nil)) (blkOk_by (own := [("_law_j", 12)]) (N := N__law_words) (sc := defScope s__law_words) (by decide +kernel)) (fun _ _ _ _ _ => pg_name (i := 12) sc__law_words.nd rfl (Or.inl rfl)) (fun _ _ _ _ _ => pts_nil) (fun _ _ _ _ _ => (pe_op op_add pe_int (C8.pe_c c__law_next hr (by decide) rfl (pa_cons (pv 0) (pa_cons (pv 9) pa_nil))))))
    (pss_cons (ps_set (i := 8) sc__law_words.nd rfl (Or.inl rfl) (C8.pe_c c__law_coded_word hr (by decide) rfl (pa_cons (pv 11) (pa_cons (pe_ix ix_str pe_str (C8.pe_c c__law_next hr (by decide) rfl (pa_cons (pv 0) (pa_cons pe_int pa_nil))) (fun _ _ => rfl)) pa_nil))))
    (pss_cons (ps_set (i := 7) sc__law_words.nd rfl (Or.inl rfl) (pe_tup (pa_cons pe_str (pa_cons (pv 8) pa_nil))))
    pss_nil)))))
    pss_nil)
    (pss_cons (ps_if (PW.pt (pw_and (pt_cmpR op_eq (pv 4) pe_int (by rfl)) (pw_and1 (pt_cmpR op_eq (C8.pe_c c__law_next hr (by decide) rfl (pa_cons (pv 0) (pa_cons pe_int pa_nil))) pe_int (by rfl)))))
    (pss_cons (ps_set (i := 8) sc__law_words.nd rfl (Or.inl rfl) (pe_ix ix_list (pv 6) (C8.pe_c c__law_next hr (by decide) rfl (pa_cons (pv 0) (pa_cons pe_int pa_nil))) (fun _ _ => rfl)))
    (pss_cons (ps_set (i := 7) sc__law_words.nd rfl (Or.inl rfl) (pe_tup (pa_cons pe_str (pa_cons (pv 8) pa_nil))))
    pss_nil))
    pss_nil)
    (pss_cons (ps_expr (pe_bm PySem.F.plainAttrs_list PySem.F.slot_list_append PySem.F.type_list_append mt_append (pv 2) (pa_cons (pv 7) pa_nil)))
    (pss_cons (ps_set (i := 1) sc__law_words.nd rfl (Or.inl rfl) (pe_op op_addS (pe_op op_addS (pe_op op_addS (pv 1) (C8.pe_c c__law_gap hr (by decide) rfl (pa_cons (pv 0) pa_nil))) pe_str) (pv 8)))
    pss_nil)))))))))))
    (pss_cons (ps_ret (pe_tup (pa_cons (pe_op op_addS (pv 1) (C8.pe_c c__law_gap hr (by decide) rfl (pa_cons (pv 0) pa_nil))) (pa_cons (C8.pe_c c__law_phrase_told hr (by decide) rfl (pa_cons (pv 2) pa_nil)) pa_nil))))
    pss_nil)))), fun a p ha => by
    show Dl.Run (One1 p) _ [.src, .no, .no, .no, .no, .no, .no, .no, .no, .no, .no, .no, .no] _ _
    have nx : ∀ {ρ : List Sl} {n : Int}, ρ[0]? = some .src → 0 < n ∧ n < 1073741824 → EvD (One1 p) (tCall (spS (α := Int) (fun a => [.int a]) (fun a => 0 < a ∧ a < 1073741824) (fun a d => ∃ r : Int, d = .int r ∧ 0 ≤ r ∧ r < a)) [] C8.E0 (tCons (tVar 0) (tCons (tC (.int n)) tNil))) ρ (Below n) := fun h0 hn => eds_call _ h0 (ea_cons ev_int ea_nil) hn
    refine run_set ev_str ?_
    refine run_setFV (ef_lstV ea_nil (sz1 rfl)) ?_
    refine run_forB 1 4 (by decide) (by decide) (fun k r => ∃ ps, r = [.src, .dat (.str (ren ps)), .own ((toks ps).map tkD), .no, .no, .no, .no, .no, .no, .no, .no, .no, .no] ∧ PsOk ps ∧ hdAt ps = false ∧ (∀ t ∈ toks ps, TxS 10 t) ∧ (toks ps).length = k ∧ (ren ps).length ≤ 300 * k) (ed_opL (Pa := fun d => d = .int 1) ev_int (nx rfl ⟨by decide, by decide⟩) fun x y e1 ⟨r, e2, h1, h2⟩ => by
      rw [e1, e2]
      exact opd_imp o_add fun d e => ⟨1 + r, e, by omega, by omega⟩) ⟨_, Le.refl _, [], rfl, PsOk.nil, rfl, fun _ h => (by cases h), rfl, Nat.zero_le _⟩ (fun k r hk hr => ?_) (fun k r hk hr => ?_)
    · obtain ⟨ps, rfl, h1, h2, h3, h4, h5⟩ := hr
      refine ⟨_, tg_name, ?_⟩
      refine run_setD (nx rfl ⟨by decide, by decide⟩) (fun d hd => ?_)
      obtain ⟨so, rfl, so1, so2⟩ := hd
      show Dl.Run (One1 p) _ [.src, .dat (.str (ren ps)), .own ((toks ps).map tkD), .dat (.int (k : Int)), .dat (.int so), .no, .no, .no, .no, .no, .no, .no, .no] _ _
      refine run_setD (P := fun d => ∃ l, (1 ≤ l.length ∧ l.length ≤ 6 ∧ (∀ c ∈ l, okc c) ∧ (so = 0 → ∀ c ∈ l, c ∈ l_ATOM_SIGNS)) ∧ d = .str l) (eds_callD (Pa := fun ds => ∃ (sg : List Nat) (x : Nat), ds = [.str sg, .int (x : Int)] ∧ 1 ≤ x ∧ x ≤ 6 ∧ ((sg = wdS0) ∨ (sg = wdS1 ∧ so ≠ 0))) rfl (EvA.imp (eda_cons (Pa := fun d => d = .str wdS0 ∨ (d = .str wdS1 ∧ so ≠ 0)) (ed_op (Pa := fun d => d = .lst [.str wdS0, .str wdS1]) (Pb := fun _ d => d = .int (so % 2)) (ev_lst (ea_cons (ev_strL wdS0_lit) (ea_cons (ev_strL wdS1_lit) ea_nil)) (sz1 rfl)) (fun _ _ => ev_op (ev_dat rfl) ev_int (o_mod (by decide))) fun x y e1 e2 => ?_) fun _ _ => eda_cons (Pa := fun d => ∃ x : Nat, d = .int (x : Int) ∧ 1 ≤ x ∧ x ≤ 6) (ed_opL (Pa := fun d => d = .int 1) ev_int (nx rfl ⟨by decide, by decide⟩) fun x y e1 h => ?_) fun _ _ => ea_nil) fun ds h => ?_) fun ds h => ?_) (fun d hd => ?_)
      · rw [e1, e2]
        rcases (show so = 0 ∨ so = 1 ∨ so = 2 ∨ so = 3 by omega) with rfl | rfl | rfl | rfl
        · exact opd_imp (o_ixL (z := .str wdS0) rfl) fun d e => .inl e
        · exact opd_imp (o_ixL (z := .str wdS1) rfl) fun d e => .inr ⟨e, by decide⟩
        · exact opd_imp (o_ixL (z := .str wdS0) rfl) fun d e => .inl e
        · exact opd_imp (o_ixL (z := .str wdS1) rfl) fun d e => .inr ⟨e, by decide⟩
      · obtain ⟨r, e2, g1, g2⟩ := h
        rw [e1, e2]
        exact opd_imp o_add fun d e => ⟨(1 + r).toNat, by rw [e]; congr 1; omega, by omega, by omega⟩
      · obtain ⟨d1, r1, q1, ⟨d2, r2, ⟨x, e2, g1, g2⟩, q3, q4⟩, q5⟩ := h
        rcases q1 with e | ⟨e, hz⟩
        · exact ⟨wdS0, x, by rw [q5, q4, q3, e2, e], g1, g2, .inl rfl⟩
        · exact ⟨wdS1, x, by rw [q5, q4, q3, e2, e], g1, g2, .inr ⟨rfl, hz⟩⟩
      · obtain ⟨sg, x, e, g1, g2, g3⟩ := h
        have hsg : (1 ≤ sg.length ∧ sg.length ≤ 1000) ∧ (∀ c ∈ sg, okc c) ∧ (so = 0 → ∀ c ∈ sg, c ∈ l_ATOM_SIGNS) := by
          rcases g3 with rfl | ⟨rfl, hz⟩
          · exact ⟨wdS0_ok.2, fun c hc => atom_okc c (wdS0_ok.1 c hc), fun _ => wdS0_ok.1⟩
          · exact ⟨wdS1_ok.2, wdS1_ok.1, fun z => absurd z hz⟩
        exact ⟨(sg, x), e, ⟨hsg.1, by show x ≤ 1000; omega⟩, fun d ⟨l, hl, e2⟩ => ⟨l, ⟨by have := hl.1; simp only at this; omega, by have := hl.1; simp only at this; omega, fun c hc => hsg.2.1 c (hl.2 c hc), fun z c hc => hsg.2.2 z c (hl.2 c hc)⟩, e2⟩⟩
      obtain ⟨l, ⟨l1, l2, l3, l4⟩, rfl⟩ := hd
      have hel := escQ_len l
      refine run_set (d := .lst (odds.map .str)) (EvV.cast (ev_lst (by
        repeat' walk_at "ev") (sz1 rfl)) (by rfl)) ?_
      refine run_set (d := tkD (sQuoted, l)) (ev_tup (ea_cons (ev_strL (l := sQuoted) lit_71756f746564) (ea_cons (ev_dat rfl) ea_nil)) (sz1 rfl)) ?_
      refine run_set (ed_call l (ea_cons (ev_dat rfl) ea_nil) (by omega)) ?_
      show Dl.Run (One1 p) _ [.src, .dat (.str (ren ps)), .own ((toks ps).map tkD), .dat (.int (k : Int)), .dat (.int so), .dat (.str l), .dat (.lst (odds.map .str)), .dat (tkD (sQuoted, l)), .dat (.str (34 :: escQ l ++ [34])), .no, .no, .no, .no] _ _
      -- an atom as it stands
      refine run_ifJ (N1 := fun r => r = [.src, .dat (.str (ren ps)), .own ((toks ps).map tkD), .dat (.int (k : Int)), .dat (.int so), .dat (.str l), .dat (.lst (odds.map .str)), .dat (tkD (word0 so l)), .dat (.str (shown0 so l).str), .no, .no, .no, .no]) (bb := decide (so = 0)) (by repeat' walk_at "ev") (fun h => ?_) (fun h => ?_) (fun r hr => ?_)
      · refine run_set (d := tkD (sAtom, l)) (ev_tup (ea_cons (ev_strL (l := sAtom) lit_61746f6d) (ea_cons (ev_dat rfl) ea_nil)) (sz1 rfl)) (run_set (ev_dat rfl) (run_next ?_))
        unfold word0 shown0
        rw [if_pos (of_decide_eq_true h), if_pos (of_decide_eq_true h)]
        rfl
      · refine run_next ?_
        unfold word0 shown0
        rw [if_neg (of_decide_eq_false h), if_neg (of_decide_eq_false h)]
        rfl
      subst hr
      have hpc0 : PcT (shown0 so l) (word0 so l) := by
        unfold word0 shown0
        by_cases h : so = 0
        · rw [if_pos h, if_pos h]
          exact pcT_at (fun z => by rw [z] at l1; simp at l1) (l4 h) (by omega)
        · rw [if_neg h, if_neg h]
          exact pcT_qu l3 (by omega)
      generalize shown0 so l = pc0 at hpc0
      generalize word0 so l = t0 at hpc0
      -- a coded word
      refine run_ifJ (N1 := fun r => ∃ pc t a9 a10 a11, PcT pc t ∧ r = [.src, .dat (.str (ren ps)), .own ((toks ps).map tkD), .dat (.int (k : Int)), .dat (.int so), .dat (.str l), .dat (.lst (odds.map .str)), .dat (tkD t), .dat (.str pc.str), a9, a10, a11, .no]) (bb := decide (so = 2)) (by repeat' walk_at "ev") (fun h => ?_) (fun h => run_next ⟨pc0, t0, .no, .no, .no, hpc0, rfl⟩) (fun r hr => ?_)
      · refine run_setD (ed_pick (xs := [.int 95, .int 65504]) (ev_lst (by repeat' walk_at "ev") (sz1 rfl)) (nx rfl ⟨by decide, by decide⟩)) (fun d hd => ?_)
        obtain ⟨rh, rfl, hrh⟩ : ∃ rh : Int, d = .int rh ∧ (rh = 95 ∨ rh = 65504) := by
          simp only [List.mem_cons, List.not_mem_nil, or_false] at hd
          rcases hd with rfl | rfl
          · exact ⟨_, rfl, .inl rfl⟩
          · exact ⟨_, rfl, .inr rfl⟩
        refine run_setD (P := fun d => ∃ x : Nat, d = .int (x : Int) ∧ 1 ≤ x ∧ x ≤ 9) (ed_opL (Pa := fun d => d = .int 1) ev_int (nx rfl ⟨by decide, by decide⟩) fun x y e1 h => by
          obtain ⟨r, e2, g1, g2⟩ := h
          rw [e1, e2]
          exact opd_imp o_add fun d e => ⟨(1 + r).toNat, by rw [e]; congr 1; omega, by omega, by omega⟩) (fun d hd => ?_)
        obtain ⟨x, rfl, x1, x2⟩ := hd
        refine run_setF (P := fun ds => ∃ g : List Int, ds = g.map .int ∧ Rng g ∧ g.length = x) (EvF.imp (ef_lcMD (Pe := fun _ d => ∃ c : Int, (32 ≤ c ∧ c ≤ 65535) ∧ d = .int c) (List.range (x : Int).toNat) (fun k => .int (0 + (k : Int) * 1)) (ei_rng1 (ev_dat rfl) (by omega) (by omega)) (fun j hj => ed_opL (Pa := fun d => d = .int 32) ev_int (eds_call rh rfl (ea_cons (ev_dat rfl) ea_nil) (by rcases hrh with rfl | rfl <;> decide)) fun y z e1 h => ?_) (sz (by rw [List.length_range]; omega))) fun ds h => ?_) (fun ds hds => ?_)
        · obtain ⟨r, e2, g1, g2⟩ := h
          rw [e1, e2]
          exact opd_imp o_add fun d e => ⟨32 + r, by rcases hrh with rfl | rfl <;> omega, e⟩
        · obtain ⟨g, e, g1, g2⟩ := Fa2.ints h
          exact ⟨g, e, g1, by rw [g2, List.length_range]; omega⟩
        · obtain ⟨g, rfl, g1, g2⟩ := hds
          refine run_freeze 11 rfl ?_
          show Dl.Run (One1 p) _ [.src, .dat (.str (ren ps)), .own ((toks ps).map tkD), .dat (.int (k : Int)), .dat (.int so), .dat (.str l), .dat (.lst (odds.map .str)), .dat (tkD t0), .dat (.str pc0.str), .dat (.int rh), .dat (.int (x : Int)), .dat (.lst (g.map .int)), .no] _ _
          refine run_setD (P := fun d => ∃ c, isSort c ∧ d = .str (codedWord (allOctets g) c)) (ed_callD (Pa := fun ds => ∃ c, isSort c ∧ ds = [.lst (g.map .int), .str [c]]) (EvA.imp (eda_cons (ev_dat rfl) fun _ _ => eda_cons (ed_pickS (l := [115, 109]) (ev_strL lit_736d) (sz1 rfl) (nx rfl ⟨by decide, by decide⟩)) fun _ _ => ea_nil) fun ds h => ?_) fun ds h => ?_) (fun d hd => ?_)
          · obtain ⟨d1, r1, e1, ⟨d2, r2, ⟨c, hc, e2⟩, e3, e4⟩, e5⟩ := h
            refine ⟨c, ?_, by rw [e5, e4, e3, e2, e1]⟩
            simp only [List.mem_cons, List.not_mem_nil, or_false] at hc
            exact hc
          · obtain ⟨c, hc, e⟩ := h
            exact ⟨(g, c), e, ⟨by show g.length ≤ 2500; omega, fun n hn => by have := g1 n hn; omega, hc⟩, fun d hd => ⟨c, hc, hd⟩⟩
          · obtain ⟨c, hc, rfl⟩ := hd
            refine run_set (d := tkD (sAtom, codedWord (allOctets g) c)) (ev_tup (ea_cons (ev_strL (l := sAtom) lit_61746f6d) (ea_cons (ev_dat rfl) ea_nil)) (sz1 rfl)) (run_next ⟨.at_ (codedWord (allOctets g) c), (sAtom, codedWord (allOctets g) c), _, _, _, pcT_co (fun z => by rw [z] at g2; simp at g2; omega) g1 (by omega) hc, rfl⟩)
      obtain ⟨pc1, t1, a9, a10, a11, hpc1, rfl⟩ := hr
      -- an odd one
      refine run_ifTJ (N1 := fun r => ∃ pc t, PcT pc t ∧ r = [.src, .dat (.str (ren ps)), .own ((toks ps).map tkD), .dat (.int (k : Int)), .dat (.int so), .dat (.str l), .dat (.lst (odds.map .str)), .dat (tkD t), .dat (.str pc.str), a9, a10, a11, .no]) (et_andA (et_any (ev_op (ev_dat rfl) ev_int (opd_imp o_eqI fun d e => ⟨_, e⟩))) (et_any (ed_op (nx rfl ⟨by decide, by decide⟩) (fun _ _ => ev_int) fun x y ⟨r, e1, _⟩ e2 => by
        rw [e1, e2]
        exact opd_imp o_eqI fun d e => ⟨_, e⟩))) (fun _ => ?_) (fun _ => run_next ⟨pc1, t1, hpc1, rfl⟩) (fun r hr => ?_)
      · refine run_setD (ed_pick (ev_dat rfl) (nx rfl ⟨by decide, by decide⟩)) (fun d hd => ?_)
        obtain ⟨m, hm, rfl⟩ := List.mem_map.mp hd
        obtain ⟨m1, m2, m3⟩ := odds_ok m hm
        exact run_set (d := tkD (sAtom, m)) (ev_tup (ea_cons (ev_strL (l := sAtom) lit_61746f6d) (ea_cons (ev_dat rfl) ea_nil)) (sz1 rfl)) (run_next ⟨.at_ m, (sAtom, m), pcT_at m1 m3 m2, rfl⟩)
      obtain ⟨pc, t, hpc, rfl⟩ := hr
      refine run_appendV rfl (ev_dat rfl) (sz' (by rw [List.length_map]; omega)) ?_
      refine run_setD (P := fun d => ∃ x, (∃ g, Gap g ∧ x = ren (ps ++ (g ++ [.bl, pc]))) ∧ d = .str x) (ed_addS (Pa := fun x => ∃ g, Gap g ∧ x = ren (ps ++ (g ++ [.bl]))) (Pb := fun x => x = pc.str) (ed_addS (Pa := fun x => ∃ g, Gap g ∧ x = ren (ps ++ g)) (Pb := fun x => x = [32]) (ed_addS (Pa := fun x => x = ren ps) (Pb := fun x => ∃ g, Gap g ∧ x = ren g) (ed_txt (ev_dat rfl) rfl) (eds_call () rfl ea_nil trivial) fun x y hx hy => ?_) (ed_txt (ev_strL lit_20) rfl) fun x y hx hy => ?_) (ed_txt (ev_dat rfl) rfl) fun x y hx hy => ?_) (fun d hd => ?_)
      · obtain ⟨g, hg, rfl⟩ := hy
        subst hx
        have := hg.len
        exact ⟨by omega, g, hg, by rw [ren_app]⟩
      · obtain ⟨g, hg, rfl⟩ := hx
        subst hy
        have := hg.len
        exact ⟨by rw [ren_app, List.length_append]; simp; omega, g, hg, by rw [ren_app, ren_app, ren_app, List.append_assoc] <;> rfl⟩
      · obtain ⟨g, hg, rfl⟩ := hx
        subst hy
        have h6 := hg.len
        have h7 := hpc.len
        refine ⟨?_, g, hg, ?_⟩
        · rw [ren_app, ren_app, List.length_append, List.length_append]
          show _ + (_ + 1) + _ ≤ _
          omega
        · have e1 : ren [Pc.bl] = [32] := rfl
          have e2 : ren [Pc.bl, pc] = 32 :: (pc.str ++ []) := rfl
          rw [ren_app, ren_app, ren_app, ren_app, e1, e2]
          simp
      · obtain ⟨x, ⟨g, hg, rfl⟩, rfl⟩ := hd
        have htk : toks (ps ++ (g ++ [Pc.bl, pc])) = toks ps ++ [t] := by
          rw [toks_app, toks_app, hg.no]
          show _ ++ ([] ++ List.filterMap Pc.tok [Pc.bl, pc]) = _
          rw [List.filterMap_cons_none rfl, List.filterMap_cons_some hpc.tk]
          rfl
        have hbp : PsOk [Pc.bl, pc] := (PsOk.one (p := Pc.bl) trivial).app (PsOk.one hpc.ok) rfl
        have hgb : PsOk (g ++ [Pc.bl, pc]) := hg.ok.app hbp (by rw [hg.l]; rfl)
        have hgh : hdAt (g ++ [Pc.bl, pc]) = false := by
          rw [hdAt_app]
          split
          · rfl
          · exact hg.h
        refine run_next ⟨_, .same (.same (.same (.no (.no (.no (.no (.no (.no (.no (.no (.no (.same .nil)))))))))))), ps ++ (g ++ [Pc.bl, pc]), ?_, h1.app hgb (by rw [hgh, Bool.and_false]), ?_, ?_, ?_, ?_⟩
        · rw [htk, List.map_append] <;> rfl
        · rw [hdAt_app]
          split
          · exact hgh
          · exact h2
        · intro z hz
          rw [htk] at hz
          rcases List.mem_append.mp hz with e | e
          · exact h3 z e
          · rw [List.mem_singleton.mp e]; exact hpc.tx
        · rw [htk, List.length_append, h4] <;> rfl
        · rw [ren_app, ren_app, List.length_append, List.length_append]
          have h6 := hg.len
          have h7 := hpc.len
          have e2 : (ren [Pc.bl, pc]).length = pc.str.length + 1 := by
            show (32 :: (pc.str ++ [])).length = _
            simp
          rw [e2]
          omega
    · obtain ⟨ps, rfl, h1, h2, h3, h4, h5⟩ := hr
      refine run_freeze 2 rfl (run_ret (ed_tup (P := fun ds => ∃ g, Gap g ∧ ds = [.str (ren (ps ++ g)), .lst ((sayT (toks ps)).map .int)]) (EvA.imp (eda_cons (ed_addS (Pa := fun x => x = ren ps) (Pb := fun x => ∃ g, Gap g ∧ x = ren g) (P := fun x => ∃ g, Gap g ∧ x = ren (ps ++ g)) (ed_txt (ev_dat rfl) rfl) (eds_call () rfl ea_nil trivial) fun x y hx hy => ?_) fun _ _ => eda_cons (ed_call ((toks ps).map fun t => ((t.1, t.2, []) : Lw)) (ea_cons (EvV.cast (ev_dat rfl) (by
        show D.lst ((toks ps).map tkD) = .lst (((toks ps).map _).map Lw.d)
        rw [List.map_map] <;> rfl)) ea_nil) ?_) fun _ _ => ea_nil) fun ds h => ?_) fun ds h => ?_) (fun d hd => ?_))
      · obtain ⟨g, hg, rfl⟩ := hy
        subst hx
        have := hg.len
        exact ⟨by omega, g, hg, by rw [ren_app]⟩
      · rw [List.map_map]
        refine ⟨by rw [List.length_map]; omega, fun y hy => ?_⟩
        obtain ⟨t, ht, rfl⟩ := List.mem_map.mp hy
        exact (h3 t ht).tx.2
      · obtain ⟨d1, r1, ⟨x, ⟨g, hg, rfl⟩, e1⟩, ⟨d2, r2, e2, e3, e4⟩, e5⟩ := h
        refine ⟨g, hg, ?_⟩
        rw [e5, e4, e3, e2, e1, List.map_map]
        rfl
      · obtain ⟨g, hg, e⟩ := h
        rw [e]
        exact sz1 rfl
      · obtain ⟨ds, ⟨g, hg, e⟩, e2⟩ := hd
        have h6 := hg.len
        have htk : toks (ps ++ g) = toks ps := by rw [toks_app, hg.no, List.append_nil]
        refine ⟨ps ++ g, ⟨h1.app hg.ok (by rw [hg.h, Bool.and_false]), ?_, by rw [htk]; exact h3, by rw [htk]; omega, by rw [htk]; omega, by rw [ren_app, List.length_append]; omega⟩, by rw [e2, e, htk]⟩
        rw [hdAt_app]
        split
        · exact hg.h
        · exact h2⟩)
end
end Fk
namespace Fk
open PySem PySem.Spec PyProof.Rows L2 Dl Mr
local macro_rules | `(tactic| walk_at "ev") => `(tactic| first
  | (with_reducible apply ev_dat) <;> rfl
  | with_reducible apply ev_int
  | with_reducible apply ev_bl
  | with_reducible apply ev_non
  | walk_at "lit"
  | with_reducible apply ev_str
  | with_reducible apply eb_test
  | with_reducible apply eb_B
  | with_reducible apply ev_op
  | with_reducible apply o_add
  | with_reducible apply o_sub
  | with_reducible apply o_mul
  | with_reducible apply o_fdiv
  | with_reducible apply o_fdivW
  | with_reducible apply o_mod
  | with_reducible apply o_lt
  | with_reducible apply o_le
  | with_reducible apply o_gt
  | with_reducible apply o_ge
  | with_reducible apply o_eqI
  | with_reducible apply o_neI
  | with_reducible apply o_eqS
  | with_reducible apply o_neS
  | with_reducible apply o_neInts
  | with_reducible apply o_neNil
  | with_reducible apply o_eqNil
  | with_reducible apply o_eqInts
  | with_reducible apply o_addS
  | with_reducible apply o_in1
  | with_reducible apply o_ni1
  | with_reducible apply o_inS
  | with_reducible apply o_mulS
  | with_reducible apply ea_nil
  | with_reducible apply ea_cons
  | with_reducible apply ev_tup
  | with_reducible apply ev_lst
  | with_reducible apply eb_not
  | with_reducible apply eb_and
  | with_reducible apply eb_or
  | with_reducible apply ev_andV
  | with_reducible apply ev_orV
  | with_reducible apply ev_notV
  | with_reducible apply ev_chain
  | with_reducible apply ev_neg
  | with_reducible apply ev_slS
  | with_reducible apply ev_slL
  | with_reducible apply eo_none
  | with_reducible apply eo_some
  | with_reducible apply ev_cb
  | with_reducible apply cd_lenT
  | with_reducible apply cd_lenL
  | with_reducible apply cd_int
  | with_reducible apply cd_max
  | with_reducible apply cd_min
  | with_reducible apply ev_bm
  | with_reducible apply ev_bm0
  | with_reducible apply md_strip
  | with_reducible apply md_rstrip
  | with_reducible apply md_find
  | with_reducible apply md_index
  | with_reducible apply md_starts
  | with_reducible apply md_lower
  | with_reducible apply md_upper
  | with_reducible apply ei_str
  | with_reducible apply ei_list
  | with_reducible exact sz1 rfl
  | with_reducible exact Nat.le_of_ble_eq_true rfl
  | ((with_reducible apply cmulL) <;> decide)
  | ((with_reducible apply cmulR) <;> decide)
  | ((with_reducible apply cdiv) <;> decide)
  | ((with_reducible show (0 : Int) < _) <;> decide)
  | (with_reducible intro _hyp))

section
variable {P : Program} {w : World} {K : PySem.W.Frag} {mg : PySem.Str → Option Value} {base : Heap}
theorem joinL_mem {y : List Nat} : ∀ {ss : List (List Nat)} {c : Nat}, c ∈ Mr.joinL y ss → c ∈ y ∨ ∃ p ∈ ss, c ∈ p
  | [], _, h => by cases h
  | [p], c, h => .inr ⟨p, List.mem_singleton.mpr rfl, h⟩
  | p :: q :: r, c, h => by
    simp only [Mr.joinL, List.mem_append] at h
    rcases h with h | h | h
    · exact .inr ⟨p, List.mem_cons_self .., h⟩
    · exact .inl h
    · rcases joinL_mem h with e | ⟨z, hz, e⟩
      · exact .inl e
      · exact .inr ⟨z, List.mem_cons_of_mem _ hz, e⟩
theorem dot_ok : lo1 (up1 46) = 46 ∧ up1 46 ∈ l_ATOM_SIGNS ∧ 46 ∈ l_ATOM_SIGNS ∧ 46 < 128 ∧ lo1 46 = 46 := by decide +kernel
theorem HouseL.sign {l : List Nat} (h : HouseL l) : ∀ c ∈ l, lo1 (up1 c) = c ∧ up1 c ∈ l_ATOM_SIGNS ∧ c ∈ l_ATOM_SIGNS ∧ c < 128 ∧ lo1 c = c := by
  obtain ⟨ps, rfl, _, _, h4⟩ := h
  intro c hc
  rcases joinL_mem hc with e | ⟨p, hp, e⟩
  · rw [List.mem_singleton.mp e]
    exact dot_ok
  · obtain ⟨x1, x2, x3, x4⟩ := (h4 p hp).upp c e
    refine ⟨x1, x2, x3, x4, ?_⟩
    obtain ⟨i, hi⟩ := List.getElem?_of_mem e
    have h5 := congrArg (fun z => z[i]?) (h4 p hp).low
    simp only [List.getElem?_map, hi] at h5
    exact Option.some.inj h5
theorem HouseL.len {l : List Nat} (h : HouseL l) : 1 ≤ l.length ∧ l.length ≤ 90 := by
  obtain ⟨ps, rfl, h2, h3, h4⟩ := h
  have h5 := joinL_len [46] ps
  have h6 := lens_le (m := 20) (ss := ps) fun q hq => (h4 q hq).ok.1.2
  refine ⟨?_, by simp only [List.length_cons, List.length_nil] at h5; omega⟩
  cases ps with
  | nil => exact absurd rfl h2
  | cons p r =>
    have h7 := (h4 p (List.mem_cons_self ..)).ok.1.1
    cases r with
    | nil => exact h7
    | cons q r =>
      simp only [Mr.joinL, List.length_append]
      omega
/-- local@house, as pieces -/
structure SpecP (sp : List Pc) (loc hou : List Nat) : Prop where
  ok : PsOk sp
  tk : ∃ s1 h, (s1 = sAtom ∨ s1 = sQuoted) ∧ toks sp = [(s1, loc), mkT 64, (sAtom, h)] ∧ h.map lo1 = hou ∧ ∀ c ∈ h, c ∈ l_ATOM_SIGNS
  len : (ren sp).length ≤ 300
/-- an address for one -/
structure OneP (ps : List Pc) (o : One) : Prop where
  ok : PsOk ps
  tk : ∃ s1 h, (s1 = sAtom ∨ s1 = sQuoted) ∧ h.map lo1 = o.hou ∧ (∀ c ∈ h, c ∈ l_ATOM_SIGNS) ∧
    ((toks ps = [(s1, o.loc), mkT 64, (sAtom, h)] ∧ o.say = []) ∨ ∃ ph, (∀ t ∈ ph, TxS 10 t) ∧ ph.length ≤ 4 ∧ toks ps = ph ++ [mkT 60, (s1, o.loc), mkT 64, (sAtom, h), mkT 62] ∧ o.say = sayT ph)
  loc : LocL o.loc
  hou : HouseL o.hou
  len : (ren ps).length ≤ 2500
theorem toks_gap {g : List Pc} (h : Gap g) (b : List Pc) : toks (g ++ b) = toks b := by rw [toks_app, h.no, List.nil_append]
theorem toks_gapr {g : List Pc} (h : Gap g) (b : List Pc) : toks (b ++ g) = toks b := by rw [toks_app, h.no, List.append_nil]
theorem okGapL {g b : List Pc} (h : Gap g) (hb : PsOk b) : PsOk (g ++ b) := h.ok.app hb (by rw [h.l]; rfl)
theorem okGapR {g b : List Pc} (h : Gap g) (hb : PsOk b) : PsOk (b ++ g) := hb.app h.ok (by rw [h.h, Bool.and_false])
theorem okMk {c : Nat} {b : List Pc} (h : c ∈ l_MARKS) (hb : PsOk b) : PsOk (.mk c :: b) := (PsOk.one (p := .mk c) h).app hb rfl
theorem okMkR {c : Nat} {b : List Pc} (h : c ∈ l_MARKS) (hb : PsOk b) : PsOk (b ++ [.mk c]) := hb.app (PsOk.one (p := .mk c) h) (by show (lsAt b && false) = false; rw [Bool.and_false])
abbrev N__law_spelled_one : List PySem.Str := ["_law_source_here", "_law_word", "_law_saying_here", "_law_local", "_law_house_here", "_law_spec", "_law_sign", "_law_value"]
theorem sc__law_spelled_one : FnScope N__law_spelled_one ["_law_source_here"] (defScope s__law_spelled_one) := ⟨rfl, rfl, rfl, by decide +kernel, rfl, by decide +kernel, by decide +kernel⟩
local macro_rules | `(tactic| walk_at "lit") => `(tactic| first
  | with_reducible exact ev_strL lit_nil
  | with_reducible exact ev_strL lit_40
  | with_reducible exact ev_strL lit_3e
  | with_reducible exact ev_strL lit_6f6e65
  | with_reducible exact ev_strL lit_3c)
theorem c__law_spelled_one (T : Tx K mg) : C8.Cal P w K mg base 7 "_law_spelled_one" (spS (α := Unit) (fun _ => []) (fun _ => True) (fun _ d => ∃ ps o, OneP ps o ∧ d = .tup [.str (ren ps), o.d])) [] :=
  have c__law_next := c__law_next (P := P) (w := w) (base := base) T
  have c__law_gap := c__law_gap (P := P) (w := w) (base := base) T
  have c__law_quoted := c__law_quoted (P := P) (w := w) (base := base) T
  have c__law_plain := c__law_plain (P := P) (w := w) (base := base) T
  have c__law_one := c__law_one (P := P) (w := w) (base := base) T
  have c__law_words := c__law_words (P := P) (w := w) (base := base) T
  cal_S T.d__law_spelled_one sc__law_spelled_one (fun _ => rfl) (by decide) (fun _ _ _ _ _ _ us hl => match us, hl with | [_], _ => rfl) (fun f cdv A outer s H E hr => ⟨_, (pss_cons (ps_asg (C8.pe_c c__law_one hr (by decide) rfl (pa_cons (pv 0) pa_nil)) (pg_tup rfl (pgs_cons (pg_name (i := 1) sc__law_spelled_one.nd rfl (Or.inl rfl)) (pgs_cons (pg_name (i := 2) sc__law_spelled_one.nd rfl (Or.inl rfl)) (pgs_cons (pg_name (i := 3) sc__law_spelled_one.nd rfl (Or.inl rfl)) (pgs_cons (pg_name (i := 4) sc__law_spelled_one.nd rfl (Or.inl rfl)) pgs_nil))))))
    (pss_cons (ps_set (i := 5) sc__law_spelled_one.nd rfl (Or.inl rfl) (pe_ix ix_list (pe_lst (pa_cons (C8.pe_c c__law_plain hr (by decide) rfl (pa_cons (pv 3) pa_nil)) (pa_cons (C8.pe_c c__law_quoted hr (by decide) rfl (pa_cons (pv 3) pa_nil)) pa_nil))) (C8.pe_c c__law_next hr (by decide) rfl (pa_cons (pv 0) (pa_cons pe_int pa_nil))) (fun _ _ => rfl)))
    (pss_cons (ps_set (i := 5) sc__law_spelled_one.nd rfl (Or.inl rfl) (pe_op op_addS (pe_op op_addS (pe_op op_addS (pv 5) (C8.pe_c c__law_gap hr (by decide) rfl (pa_cons (pv 0) pa_nil))) pe_str) (C8.pe_c c__law_gap hr (by decide) rfl (pa_cons (pv 0) pa_nil))))
    (pss_cons (ps_for PassesOwn.never rfl (pi_str (pv 4)) (pg_name (i := 6) sc__law_spelled_one.nd rfl (Or.inl rfl))
    (pss_cons (ps_set (i := 5) sc__law_spelled_one.nd rfl (Or.inl rfl) (pe_op op_addS (pv 5) (pe_ix ix_list (pe_lst (pa_cons (pv 6) (pa_cons (pe_bm0 PySem.F.plainAttrs_str PySem.F.slot_str_upper PySem.F.type_str_upper m_upper (pv 6)) pa_nil))) (pe_op op_fdiv (C8.pe_c c__law_next hr (by decide) rfl (pa_cons (pv 0) (pa_cons pe_int pa_nil))) pe_int) (fun _ _ => rfl))))
    pss_nil))
    (pss_cons (ps_if (pt_cmpR op_eq (C8.pe_c c__law_next hr (by decide) rfl (pa_cons (pv 0) (pa_cons pe_int pa_nil))) pe_int (by rfl))
    (pss_cons (ps_ret (pe_tup (pa_cons (pe_op op_addS (pe_op op_addS (C8.pe_c c__law_gap hr (by decide) rfl (pa_cons (pv 0) pa_nil)) (pv 5)) (C8.pe_c c__law_gap hr (by decide) rfl (pa_cons (pv 0) pa_nil))) (pa_cons (pe_tup (pa_cons pe_str (pa_cons (pe_lst pa_nil) (pa_cons (pv 3) (pa_cons (pv 4) pa_nil))))) pa_nil))))
    pss_nil)
    pss_nil)
    (pss_cons (ps_asg (pe_lst (pa_cons pe_str (pa_cons (pe_lst pa_nil) pa_nil))) (pg_unl rfl (pgs_cons (pg_name (i := 7) sc__law_spelled_one.nd rfl (Or.inl rfl)) (pgs_cons (pg_name (i := 2) sc__law_spelled_one.nd rfl (Or.inl rfl)) pgs_nil))))
    (pss_cons (ps_if (pt_cmpR op_gt (C8.pe_c c__law_next hr (by decide) rfl (pa_cons (pv 0) (pa_cons pe_int pa_nil))) pe_int (by rfl))
    (pss_cons (ps_asg (C8.pe_c c__law_words hr (by decide) rfl (pa_cons (pv 0) pa_nil)) (pg_tup rfl (pgs_cons (pg_name (i := 7) sc__law_spelled_one.nd rfl (Or.inl rfl)) (pgs_cons (pg_name (i := 2) sc__law_spelled_one.nd rfl (Or.inl rfl)) pgs_nil))))
    pss_nil)
    pss_nil)
    (pss_cons (ps_set (i := 7) sc__law_spelled_one.nd rfl (Or.inl rfl) (pe_op op_addS (pe_op op_addS (pe_op op_addS (pe_op op_addS (pv 7) (C8.pe_c c__law_gap hr (by decide) rfl (pa_cons (pv 0) pa_nil))) pe_str) (C8.pe_c c__law_gap hr (by decide) rfl (pa_cons (pv 0) pa_nil))) (pv 5)))
    (pss_cons (ps_set (i := 7) sc__law_spelled_one.nd rfl (Or.inl rfl) (pe_op op_addS (pe_op op_addS (pe_op op_addS (pv 7) (C8.pe_c c__law_gap hr (by decide) rfl (pa_cons (pv 0) pa_nil))) pe_str) (C8.pe_c c__law_gap hr (by decide) rfl (pa_cons (pv 0) pa_nil))))
    (pss_cons (ps_ret (pe_tup (pa_cons (pv 7) (pa_cons (pe_tup (pa_cons pe_str (pa_cons (pv 2) (pa_cons (pv 3) (pa_cons (pv 4) pa_nil))))) pa_nil))))
    pss_nil)))))))))), fun a p ha => by
    show Dl.Run (One1 p) _ [.src, .no, .no, .no, .no, .no, .no, .no] _ _
    have nx : ∀ {ρ : List Sl} {n : Int}, ρ[0]? = some .src → 0 < n ∧ n < 1073741824 → EvD (One1 p) (tCall (spS (α := Int) (fun a => [.int a]) (fun a => 0 < a ∧ a < 1073741824) (fun a d => ∃ r : Int, d = .int r ∧ 0 ≤ r ∧ r < a)) [] C8.E0 (tCons (tVar 0) (tCons (tC (.int n)) tNil))) ρ (Below n) := fun h0 hn => eds_call _ h0 (ea_cons ev_int ea_nil) hn
    refine run_asg (eds_call () rfl ea_nil trivial) (fun d hd => ?_)
    obtain ⟨x, loc, hou, rfl, hloc, hhou⟩ := hd
    refine ⟨_, tg_tup (tgs_cons tg_name (tgs_cons tg_name (tgs_cons tg_name (tgs_cons tg_name tgs_nil)))) rfl, ?_⟩
    show Dl.Run (One1 p) _ [.src, .dat (.str sOne), .dat x, .dat (.str loc), .dat (.str hou), .no, .no, .no] _ _
    have hl1 := hloc.1
    have hhl := hhou.len
    have hqi := quotedIn_len loc
    have heq := escQ_len loc
    refine run_setD (P := fun d => ∃ pc s1, (Pc.ok pc ∧ pc.tok = some (s1, loc) ∧ (s1 = sAtom ∨ s1 = sQuoted) ∧ pc.str.length ≤ 90) ∧ d = .str pc.str) (EvD.imp (ed_pick (xs := [.str (quotedIn loc), .str (34 :: escQ loc ++ [34])]) (ev_lst (ea_cons (ed_call loc (ea_cons (ev_dat rfl) ea_nil) ⟨by omega, fun c hc => by have := okc_lt c (hloc.2 c hc); omega⟩) (ea_cons (ed_call loc (ea_cons (ev_dat rfl) ea_nil) (by omega)) ea_nil)) (sz1 rfl)) (nx rfl ⟨by decide, by decide⟩)) fun d hd => ?_) (fun d hd => ?_)
    · have hq : ∃ pc s1, (Pc.ok pc ∧ pc.tok = some (s1, loc) ∧ (s1 = sAtom ∨ s1 = sQuoted) ∧ pc.str.length ≤ 90) ∧ D.str (34 :: escQ loc ++ [34]) = .str pc.str := ⟨.qu loc, sQuoted, ⟨hloc.2, rfl, .inr rfl, by show (34 :: escQ loc ++ [34]).length ≤ 90; simp; omega⟩, rfl⟩
      simp only [List.mem_cons, List.not_mem_nil, or_false] at hd
      rcases hd with rfl | rfl
      · unfold quotedIn
        by_cases h : isAtom loc = true
        · rw [if_pos h]
          unfold isAtom at h
          rw [Bool.and_eq_true, List.all_eq_true] at h
          exact ⟨.at_ loc, sAtom, ⟨⟨by simpa using h.1, fun c hc => of_decide_eq_true (h.2 c hc)⟩, rfl, .inl rfl, by show loc.length ≤ 90; omega⟩, rfl⟩
        · rw [if_neg h]
          exact hq
      · exact hq
    obtain ⟨pc, s1, ⟨pc1, pc2, pc3, pc4⟩, rfl⟩ := hd
    show Dl.Run (One1 p) _ [.src, .dat (.str sOne), .dat x, .dat (.str loc), .dat (.str hou), .dat (.str pc.str), .no, .no] _ _
    refine run_setD (P := fun d => ∃ y, (∃ q, (PsOk q ∧ toks q = [(s1, loc), mkT 64] ∧ lsAt q = false ∧ (ren q).length ≤ 140) ∧ y = ren q) ∧ d = .str y) (ed_addS (Pa := fun y => ∃ q, (PsOk q ∧ toks q = [(s1, loc), mkT 64] ∧ lsAt q = false ∧ (ren q).length ≤ 120) ∧ y = ren q) (Pb := fun y => ∃ g, Gap g ∧ y = ren g) (ed_addS (Pa := fun y => ∃ q, (PsOk q ∧ toks q = [(s1, loc)] ∧ (ren q).length ≤ 110) ∧ y = ren q) (Pb := fun y => y = [64]) (ed_addS (Pa := fun y => y = pc.str) (Pb := fun y => ∃ g, Gap g ∧ y = ren g) (ed_txt (ev_dat rfl) rfl) (eds_call () rfl ea_nil trivial) fun y z hy hz => ?_) (ed_txt (ev_strL lit_40) rfl) fun y z hy hz => ?_) (eds_call () rfl ea_nil trivial) fun y z hy hz => ?_) (fun d hd => ?_)
    · obtain ⟨g, hg, rfl⟩ := hz
      subst hy
      have := hg.len
      refine ⟨by omega, [pc] ++ g, ⟨okGapR hg (PsOk.one pc1), ?_, ?_⟩, ?_⟩
      · rw [toks_gapr hg]
        show List.filterMap Pc.tok [pc] = _
        rw [List.filterMap_cons_some pc2]
        rfl
      · rw [ren_app, List.length_append]
        show (pc.str ++ []).length + _ ≤ _
        rw [List.append_nil]
        omega
      · rw [ren_app]
        show _ = (pc.str ++ []) ++ _
        rw [List.append_nil]
    · obtain ⟨q, ⟨q1, q2, q3⟩, rfl⟩ := hy
      subst hz
      refine ⟨by simp; omega, q ++ [.mk 64], ⟨okMkR (by decide) q1, by rw [toks_app, q2] <;> rfl, by rw [lsAt_app, if_neg (fun z => nomatch z)] <;> rfl, ?_⟩, by rw [ren_app] <;> rfl⟩
      rw [ren_app, List.length_append]
      show _ + 1 ≤ _
      omega
    · obtain ⟨q, ⟨q1, q2, q3, q4⟩, rfl⟩ := hy
      obtain ⟨g, hg, rfl⟩ := hz
      have := hg.len
      refine ⟨by omega, q ++ g, ⟨okGapR hg q1, by rw [toks_gapr hg, q2], ?_, by rw [ren_app, List.length_append]; omega⟩, by rw [ren_app]⟩
      rw [lsAt_app]
      split
      · exact q3
      · exact hg.l
    obtain ⟨y, ⟨q, ⟨q1, q2, q3, q4⟩, rfl⟩, rfl⟩ := hd
    show Dl.Run (One1 p) _ [.src, .dat (.str sOne), .dat x, .dat (.str loc), .dat (.str hou), .dat (.str (ren q)), .no, .no] _ _
    refine run_for (fun k r => ∃ h : List Nat, r = [.src, .dat (.str sOne), .dat x, .dat (.str loc), .dat (.str hou), .dat (.str (ren q ++ h)), .no, .no] ∧ h.map lo1 = hou.take k ∧ ∀ c ∈ h, c ∈ l_ATOM_SIGNS) (ei_str (ev_dat rfl)) ⟨_, Le.refl _, [], by rw [List.append_nil], rfl, fun _ h => by cases h⟩ (fun k d r hd hr => ?_) (fun r hr => ?_)
    · obtain ⟨c, hc, rfl⟩ := map_get hd
      obtain ⟨h, rfl, h1, h2⟩ := hr
      have hkl : k < hou.length := (List.getElem?_eq_some_iff.mp hc).1
      obtain ⟨u1, u2, u3, u4, u5⟩ := hhou.sign c (List.mem_of_getElem? hc)
      have hhk := congrArg List.length h1
      rw [List.length_map, List.length_take] at hhk
      refine ⟨_, tg_name, ?_⟩
      refine run_setD (P := fun d => ∃ y, (∃ e, (lo1 e = c ∧ e ∈ l_ATOM_SIGNS) ∧ y = ren q ++ (h ++ [e])) ∧ d = .str y) (ed_addS (Pa := fun y => y = ren q ++ h) (Pb := fun y => ∃ e, (lo1 e = c ∧ e ∈ l_ATOM_SIGNS) ∧ y = [e]) (ed_txt (ev_dat rfl) rfl) (EvD.imp (ed_pick (xs := [.str [c], .str [up1 c]]) (ev_lst (ea_cons (ev_dat rfl) (ea_cons (ev_bm0 (ev_dat rfl) (md_upper (fun z hz => by rw [List.mem_singleton.mp hz]; exact u4) (by show 1 ≤ 5592405; decide))) ea_nil)) (sz1 rfl)) (ed_op (nx rfl ⟨by decide, by decide⟩) (fun _ _ => ev_int) fun y z h1 h2 => ?_)) fun d hd => ?_) fun y z hy hz => ?_) (fun d hd => ?_)
      · obtain ⟨r, e1, g1, g2⟩ := h1
        rw [e1, h2]
        exact opd_imp (o_fdiv (cdiv (by decide))) fun d e => ⟨r / 2, e, by omega, by show r / 2 < 2; omega⟩
      · simp only [List.mem_cons, List.not_mem_nil, or_false] at hd
        rcases hd with rfl | rfl
        · exact ⟨[c], ⟨c, ⟨u5, u3⟩, rfl⟩, rfl⟩
        · exact ⟨[up1 c], ⟨up1 c, ⟨u1, u2⟩, rfl⟩, rfl⟩
      · obtain ⟨e, he, rfl⟩ := hz
        subst hy
        exact ⟨by rw [List.length_append]; simp; omega, e, he, by rw [List.append_assoc]⟩
      · obtain ⟨y, ⟨e, ⟨e1, e2⟩, rfl⟩, rfl⟩ := hd
        refine run_next ⟨_, .same (.same (.same (.same (.same (.same (.no (.no .nil))))))), h ++ [e], rfl, by rw [List.map_append, h1, take_next hc, ← e1] <;> rfl, fun z hz => ?_⟩
        rcases List.mem_append.mp hz with w1 | w1
        · exact h2 z w1
        · rw [List.mem_singleton.mp w1]; exact e2
    · obtain ⟨h, rfl, h1, h2⟩ := hr
      rw [List.length_map, List.take_length] at h1
      have hhk := congrArg List.length h1
      rw [List.length_map] at hhk
      have hsp : SpecP (q ++ [.at_ h]) loc hou := by
        refine ⟨q1.app (PsOk.one (p := .at_ h) ⟨fun z => by rw [z] at hhk; simp at hhk; omega, h2⟩) (by rw [q3]; rfl), ⟨s1, h, pc3, by rw [toks_app, q2] <;> rfl, h1, h2⟩, ?_⟩
        rw [ren_app, List.length_append]
        show _ + (h ++ []).length ≤ _
        rw [List.append_nil]
        omega
      have hspr : ren q ++ h = ren (q ++ [.at_ h]) := by
        rw [ren_app]
        show _ = _ ++ (h ++ [])
        rw [List.append_nil]
      rw [hspr]
      generalize q ++ [.at_ h] = sp at hsp
      clear hspr
      obtain ⟨t1, h', t2, t3, t4, t5⟩ := hsp.tk
      have hsl := hsp.len
      refine run_ifT (P := fun _ => True) (et_any (ed_op (nx rfl ⟨by decide, by decide⟩) (fun _ _ => ev_int) fun x y ⟨r, e1, _⟩ e2 => by
        rw [e1, e2]
        exact opd_imp o_eqI fun d e => ⟨_, e⟩)) (fun _ => ?_) (fun _ => run_skip ?_)
      · refine run_flat (run_ret (ed_tup (P := fun ds => ∃ ps, OneP ps ⟨[], loc, hou⟩ ∧ ds = [.str (ren ps), One.d ⟨[], loc, hou⟩]) (EvA.imp (eda_cons (ed_addS (Pa := fun y => ∃ g, Gap g ∧ y = ren (g ++ sp)) (Pb := fun y => ∃ g, Gap g ∧ y = ren g) (P := fun y => ∃ ps, OneP ps ⟨[], loc, hou⟩ ∧ y = ren ps) (ed_addS (Pa := fun y => ∃ g, Gap g ∧ y = ren g) (Pb := fun y => y = ren sp) (eds_call () rfl ea_nil trivial) (ed_txt (ev_dat rfl) rfl) fun y z hy hz => ?_) (eds_call () rfl ea_nil trivial) fun y z hy hz => ?_) fun _ _ => eda_cons (ev_tup (ea_cons (ev_strL (l := sOne) lit_6f6e65) (ea_cons (ev_lst ea_nil (sz1 rfl)) (ea_cons (ev_dat rfl) (ea_cons (ev_dat rfl) ea_nil)))) (sz1 rfl)) fun _ _ => ea_nil) fun ds h => ?_) fun ds h => ?_) (fun d hd => ?_))
        · obtain ⟨g, hg, rfl⟩ := hy
          subst hz
          have := hg.len
          exact ⟨by omega, g, hg, by rw [ren_app]⟩
        · obtain ⟨g, hg, rfl⟩ := hy
          obtain ⟨g2, hg2, rfl⟩ := hz
          have e1 := hg.len
          have e2 := hg2.len
          refine ⟨by rw [ren_app, List.length_append]; omega, (g ++ sp) ++ g2, ⟨okGapR hg2 (okGapL hg hsp.ok), ⟨t1, h', t2, t4, t5, .inl ⟨by rw [toks_gapr hg2, toks_gap hg, t3], rfl⟩⟩, hloc, hhou, by rw [ren_app, ren_app, List.length_append, List.length_append]; omega⟩, by rw [ren_app (g ++ sp) g2]⟩
        · obtain ⟨d1, r1, ⟨y, ⟨ps, hps, rfl⟩, e1⟩, ⟨d2, r2, e2, e3, e4⟩, e5⟩ := h
          exact ⟨ps, hps, by rw [e5, e4, e3, e2, e1] <;> rfl⟩
        · obtain ⟨ps, _, e⟩ := h
          rw [e]
          exact sz1 rfl
        · obtain ⟨ds, ⟨ps, hps, e⟩, e2⟩ := hd
          exact ⟨ps, _, hps, by rw [e2, e]⟩
      · refine run_asg (P := fun d => d = .lst [.str [], .lst []]) (ev_lst (ea_cons (ev_strL lit_nil) (ea_cons (ev_lst ea_nil (sz1 rfl)) ea_nil)) (sz1 rfl)) (fun d hd => ?_)
        subst hd
        refine ⟨_, tg_lst (tgs_cons tg_name (tgs_cons tg_name tgs_nil)) rfl, ?_⟩
        show Dl.Run (One1 p) _ [.src, .dat (.str sOne), .dat (.lst []), .dat (.str loc), .dat (.str hou), .dat (.str (ren sp)), .no, .dat (.str [])] _ _
        refine run_ifTJ (P := fun _ => True) (N1 := fun r => ∃ wp, (PsOk wp ∧ (∀ t ∈ toks wp, TxS 10 t) ∧ (toks wp).length ≤ 4 ∧ (ren wp).length ≤ 1500) ∧ r = [.src, .dat (.str sOne), .dat (.lst ((sayT (toks wp)).map .int)), .dat (.str loc), .dat (.str hou), .dat (.str (ren sp)), .no, .dat (.str (ren wp))]) (et_any (ed_op (nx rfl ⟨by decide, by decide⟩) (fun _ _ => ev_int) fun x y ⟨r, e1, _⟩ e2 => by
          rw [e1, e2]
          exact opd_imp o_gt fun d e => ⟨_, e⟩)) (fun _ => ?_) (fun _ => run_next ⟨[], ⟨PsOk.nil, fun _ h => (by cases h), Nat.zero_le _, Nat.zero_le _⟩, rfl⟩) (fun r hr => ?_)
        · refine run_asg (eds_call () rfl ea_nil trivial) (fun d hd => ?_)
          obtain ⟨wp, hwp, rfl⟩ := hd
          exact ⟨_, tg_tup (tgs_cons tg_name (tgs_cons tg_name tgs_nil)) rfl, run_next ⟨wp, ⟨hwp.ok, hwp.tx, hwp.n4, hwp.len⟩, rfl⟩⟩
        · obtain ⟨wp, ⟨w1, w2, w3, w4⟩, rfl⟩ := hr
          refine run_setD (P := fun d => ∃ y, (∃ q, (PsOk q ∧ toks q = toks wp ++ [mkT 60, (t1, loc), mkT 64, (sAtom, h')] ∧ (ren q).length ≤ 1900) ∧ y = ren q) ∧ d = .str y) (ed_addS (Pa := fun y => ∃ q, (PsOk q ∧ toks q = toks wp ++ [mkT 60] ∧ lsAt q = false ∧ (ren q).length ≤ 1560) ∧ y = ren q) (Pb := fun y => y = ren sp) (ed_addS (Pa := fun y => ∃ q, (PsOk q ∧ toks q = toks wp ++ [mkT 60] ∧ lsAt q = false ∧ (ren q).length ≤ 1530) ∧ y = ren q) (Pb := fun y => ∃ g, Gap g ∧ y = ren g) (ed_addS (Pa := fun y => ∃ g, Gap g ∧ y = ren (wp ++ g)) (Pb := fun y => y = [60]) (ed_addS (Pa := fun y => y = ren wp) (Pb := fun y => ∃ g, Gap g ∧ y = ren g) (ed_txt (ev_dat rfl) rfl) (eds_call () rfl ea_nil trivial) fun y z hy hz => ?_) (ed_txt (ev_strL lit_3c) rfl) fun y z hy hz => ?_) (eds_call () rfl ea_nil trivial) fun y z hy hz => ?_) (ed_txt (ev_dat rfl) rfl) fun y z hy hz => ?_) (fun d hd => ?_)
          · obtain ⟨g, hg, rfl⟩ := hz
            subst hy
            have := hg.len
            exact ⟨by omega, g, hg, by rw [ren_app]⟩
          · obtain ⟨g, hg, rfl⟩ := hy
            subst hz
            have e1 := hg.len
            have e2 : (ren (wp ++ g)).length ≤ 1520 := by rw [ren_app, List.length_append]; omega
            refine ⟨by simp; omega, (wp ++ g) ++ [.mk 60], ⟨okMkR (by decide) (okGapR hg w1), by rw [toks_app, toks_gapr hg] <;> rfl, by rw [lsAt_app, if_neg (fun z => nomatch z)] <;> rfl, ?_⟩, by rw [ren_app (wp ++ g)] <;> rfl⟩
            rw [ren_app, List.length_append]
            show _ + 1 ≤ _
            omega
          · obtain ⟨q', ⟨a1, a2, a3, a4⟩, rfl⟩ := hy
            obtain ⟨g, hg, rfl⟩ := hz
            have e1 := hg.len
            refine ⟨by omega, q' ++ g, ⟨okGapR hg a1, by rw [toks_gapr hg, a2], ?_, by rw [ren_app, List.length_append]; omega⟩, by rw [ren_app]⟩
            rw [lsAt_app]
            split
            · exact a3
            · exact hg.l
          · obtain ⟨q', ⟨a1, a2, a3, a4⟩, rfl⟩ := hy
            subst hz
            exact ⟨by omega, q' ++ sp, ⟨a1.app hsp.ok (by rw [a3]; rfl), by rw [toks_app, a2, t3, List.append_assoc] <;> rfl, by rw [ren_app, List.length_append]; omega⟩, by rw [ren_app]⟩
          obtain ⟨y, ⟨q', ⟨a1, a2, a3⟩, rfl⟩, rfl⟩ := hd
          show Dl.Run (One1 p) _ [.src, .dat (.str sOne), .dat (.lst ((sayT (toks wp)).map .int)), .dat (.str loc), .dat (.str hou), .dat (.str (ren sp)), .no, .dat (.str (ren q'))] _ _
          refine run_setD (P := fun d => ∃ y, (∃ ps, OneP ps ⟨sayT (toks wp), loc, hou⟩ ∧ y = ren ps) ∧ d = .str y) (ed_addS (Pa := fun y => ∃ q2, (PsOk q2 ∧ toks q2 = toks wp ++ [mkT 60, (t1, loc), mkT 64, (sAtom, h'), mkT 62] ∧ (ren q2).length ≤ 1950) ∧ y = ren q2) (Pb := fun y => ∃ g, Gap g ∧ y = ren g) (ed_addS (Pa := fun y => ∃ g, Gap g ∧ y = ren (q' ++ g)) (Pb := fun y => y = [62]) (ed_addS (Pa := fun y => y = ren q') (Pb := fun y => ∃ g, Gap g ∧ y = ren g) (ed_txt (ev_dat rfl) rfl) (eds_call () rfl ea_nil trivial) fun y z hy hz => ?_) (ed_txt (ev_strL lit_3e) rfl) fun y z hy hz => ?_) (eds_call () rfl ea_nil trivial) fun y z hy hz => ?_) (fun d hd => ?_)
          · obtain ⟨g, hg, rfl⟩ := hz
            subst hy
            have := hg.len
            exact ⟨by omega, g, hg, by rw [ren_app]⟩
          · obtain ⟨g, hg, rfl⟩ := hy
            subst hz
            have e1 := hg.len
            have e2 : (ren (q' ++ g)).length ≤ 1920 := by rw [ren_app, List.length_append]; omega
            refine ⟨by simp; omega, (q' ++ g) ++ [.mk 62], ⟨okMkR (by decide) (okGapR hg a1), by rw [toks_app, toks_gapr hg, a2, List.append_assoc] <;> rfl, ?_⟩, by rw [ren_app (q' ++ g)] <;> rfl⟩
            rw [ren_app, List.length_append]
            show _ + 1 ≤ _
            omega
          · obtain ⟨q2, ⟨b1, b2, b3⟩, rfl⟩ := hy
            obtain ⟨g, hg, rfl⟩ := hz
            have e1 := hg.len
            exact ⟨by omega, q2 ++ g, ⟨okGapR hg b1, ⟨t1, h', t2, t4, t5, .inr ⟨toks wp, w2, w3, by rw [toks_gapr hg, b2], rfl⟩⟩, hloc, hhou, by rw [ren_app, List.length_append]; omega⟩, by rw [ren_app]⟩
          obtain ⟨y, ⟨ps, hps, rfl⟩, rfl⟩ := hd
          exact run_retV (ev_tup (ea_cons (ev_dat rfl) (ea_cons (ev_tup (ea_cons (ev_strL (l := sOne) lit_6f6e65) (ea_cons (ev_dat rfl) (ea_cons (ev_dat rfl) (ea_cons (ev_dat rfl) ea_nil)))) (sz1 rfl)) ea_nil)) (sz1 rfl)) ⟨ps, _, hps, rfl⟩⟩)
end
end Fk
/-! Phrases: their sizes; a sign put behind the last word; addresses as tokens. -/
namespace Fk
open PySem L2 Dl Mr
theorem okc_rng : ∀ c ∈ l_SIGNS, 32 ≤ c ∧ c ≤ 126 ∧ c ≠ 37 ∧ c ≠ 10 := by decide +kernel
theorem wordSaying_rng {a : List Nat} {s : List Int} (h : wordSaying a = some s) : Rng s := by
  unfold wordSaying at h
  split at h
  · split at h
    · have := Option.some.inj h
      subst this
      exact (told_back _ (decodeBy ((wsort a).headD 0) (innerOf a)) (Nat.le_refl _)).1
    · cases h
  · cases h
theorem say_rng (t : Tk) (h : ∀ c ∈ t.2, okc c) : Rng ((sayOf (Tk.wd t)).getD (numbersOf t.2)) := by
  have hn : Rng (numbersOf t.2) := fun n hn => by
    obtain ⟨c, hc, rfl⟩ := List.mem_map.mp hn
    have := okc_rng c (h c hc)
    omega
  unfold sayOf
  split
  · cases hw : wordSaying (Tk.wd t).text with
    | none => exact hn
    | some s => exact wordSaying_rng hw
  · exact hn
theorem phraseGo_ok : ∀ (ts : List Tk) (f b : Bool), (∀ t ∈ ts, ∀ c ∈ t.2, okc c) → Rng (phraseGo f b (ts.map Tk.wd)) ∧ (phraseGo f b (ts.map Tk.wd)).length ≤ (ts.map fun t => sayLen t + 1).sum
  | [], _, _, _ => ⟨fun _ h => (by cases h), Nat.zero_le _⟩
  | t :: r, f, b, h => by
    obtain ⟨i1, i2⟩ := phraseGo_ok r false (sayOf (Tk.wd t)).isSome (fun x hx => h x (List.mem_cons_of_mem _ hx))
    have hs := say_rng t (h t (List.mem_cons_self ..))
    rw [List.map_cons, phraseGo_cons]
    refine ⟨fun n hn => ?_, ?_⟩
    · rcases List.mem_append.mp hn with hn | hn
      · rcases List.mem_append.mp hn with hn | hn
        · split at hn
          · rw [List.mem_singleton.mp hn]; decide
          · cases hn
        · exact hs n hn
      · exact i1 n hn
    · rw [List.length_append, List.length_append, List.map_cons, List.sum_cons]
      have h1 : (if f = false ∧ ¬ (b = true ∧ (sayOf (Tk.wd t)).isSome = true) then [32] else ([] : List Int)).length ≤ 1 := by split <;> simp
      have h2 : ((sayOf (Tk.wd t)).getD (numbersOf (Tk.wd t).text)).length = sayLen t := rfl
      omega
theorem sum_le {ts : List Tk} {n : Nat} (h : ∀ t ∈ ts, sayLen t ≤ n) : (ts.map fun t => sayLen t + 1).sum ≤ (n + 1) * ts.length := by
  induction ts with
  | nil => exact Nat.zero_le _
  | cons t r ih =>
    have h1 := h t (List.mem_cons_self ..)
    have h2 := ih (fun x hx => h x (List.mem_cons_of_mem _ hx))
    rw [List.map_cons, List.sum_cons, List.length_cons, Nat.mul_succ]
    omega
/-- a phrase's saying -/
theorem sayT_ok {ts : List Tk} (h : ∀ t ∈ ts, TxS 10 t) (hl : ts.length ≤ 4) : SayOk (sayT ts) := by
  obtain ⟨h1, h2⟩ := phraseGo_ok ts true true (fun t ht => (h t ht).tx.2.2)
  have h3 := sum_le (n := 10) fun t ht => (h t ht).s
  exact ⟨by show (phraseGo true true _).length ≤ 200; omega, h1⟩
theorem not_coded (x : List Nat) : wordSaying (x ++ [103]) = none := by
  cases h : wordSaying (x ++ [103]) with
  | none => rfl
  | some s =>
    unfold wordSaying at h
    split at h
    · next hc =>
      have h1 := congrArg List.getLast? hc.2.2
      rw [List.getLast?_append, List.getLast?_append] at h1
      cases h1
    · cases h
theorem phraseGo_ne : ∀ (ts : List Tk) (t : Tk) (f b : Bool), ((sayOf (Tk.wd t)).getD (numbersOf t.2)) ≠ [] → phraseGo f b ((ts ++ [t]).map Tk.wd) ≠ []
  | [], t, f, b, h => by
    intro z
    rw [List.nil_append, List.map_cons, phraseGo_cons] at z
    have h1 := (List.append_eq_nil_iff.mp (List.append_eq_nil_iff.mp z).1).2
    exact h h1
  | x :: r, t, f, b, h => by
    intro z
    rw [List.cons_append, List.map_cons, phraseGo_cons] at z
    exact phraseGo_ne r t _ _ h (List.append_eq_nil_iff.mp z).2
theorem split_last : ∀ ps : List Pc, lsAt ps = true → ∃ qs t, ps = qs ++ [.at_ t]
  | [], h => by cases h
  | [.at_ t], _ => ⟨[], t, rfl⟩
  | [.bl], h => by cases h
  | [.mk _], h => by cases h
  | [.qu _], h => by cases h
  | [.rm _], h => by cases h
  | p :: q :: r, h => by
    obtain ⟨qs, t, e⟩ := split_last (q :: r) h
    exact ⟨p :: qs, t, by rw [e] <;> rfl⟩
theorem sep_left : ∀ {a b : List Pc}, sep (a ++ b) → sep a
  | [], _, _ => trivial
  | [p], _, _ => trivial
  | p :: q :: r, b, h => ⟨h.1, sep_left (a := q :: r) (b := b) h.2⟩
theorem sep_swap : ∀ {a : List Pc} {x y : Pc}, sep (a ++ [x]) → x.isAt = y.isAt → sep (a ++ [y])
  | [], _, _, _, _ => trivial
  | [p], x, y, h, e => ⟨by rw [← e]; exact h.1, trivial⟩
  | p :: q :: r, x, y, h, e => ⟨h.1, sep_swap (a := q :: r) h.2 e⟩
/-- the words of a group's name, a g put behind them -/
structure GWords (ps : List Pc) : Prop where
  ok : PsOk ps
  tx : ∀ t ∈ toks ps, isTx t
  n : (toks ps).length ≤ 5
  say : SayOk (sayT (toks ps))
  ne : sayT (toks ps) ≠ []
  len : (ren ps).length ≤ 1501
theorem g_atom : 103 ∈ l_ATOM_SIGNS ∧ okc 103 := by decide +kernel
theorem g_behind {ps : List Pc} (h : WordsP ps) : ∃ qs, GWords qs ∧ ren qs = ren ps ++ [103] := by
  -- both ways: tokens ts of 10, then an atom x ++ [103]
  have key : ∀ (qs : List Pc) (ts : List Tk) (x : List Nat), PsOk qs → toks qs = ts ++ [(sAtom, x ++ [103])] → (∀ t ∈ ts, TxS 10 t) → ts.length ≤ 4 → x.length ≤ 100 → (∀ c ∈ x, okc c) → ren qs = ren ps ++ [103] → ∃ qs, GWords qs ∧ ren qs = ren ps ++ [103] := fun qs ts x h1 h2 h3 h4 h5 h6 h7 => by
    have hx : ∀ c ∈ x ++ [103], okc c := fun c hc => by
      rcases List.mem_append.mp hc with e | e
      · exact h6 c e
      · rw [List.mem_singleton.mp e]; exact g_atom.2
    have hls : ((sAtom, x ++ [103]) : Tk).2.length ≤ 101 := by show (x ++ [103]).length ≤ 101; simp; omega
    have hok : ∀ t ∈ toks qs, ∀ c ∈ t.2, okc c := fun t ht => by
      rw [h2] at ht
      rcases List.mem_append.mp ht with e | e
      · exact (h3 t e).tx.2.2
      · rw [List.mem_singleton.mp e]; exact hx
    obtain ⟨r1, r2⟩ := phraseGo_ok (toks qs) true true hok
    have r3 : ((toks qs).map fun t => sayLen t + 1).sum ≤ 200 := by
      rw [h2, List.map_append, List.sum_append]
      have := sum_le (n := 10) fun t ht => (h3 t ht).s
      have h8 := sayLen_le (sAtom, x ++ [103])
      simp only [List.map_cons, List.map_nil, List.sum_cons, List.sum_nil]
      omega
    refine ⟨qs, ⟨h1, fun t ht => ?_, by rw [h2, List.length_append]; simp; omega, ⟨by show (phraseGo true true _).length ≤ 200; omega, r1⟩, ?_, by rw [h7, List.length_append]; have := h.len; simp; omega⟩, h7⟩
    · rw [h2] at ht
      rcases List.mem_append.mp ht with e | e
      · exact (h3 t e).tx
      · rw [List.mem_singleton.mp e]
        exact ⟨.inl rfl, by omega, hx⟩
    · show phraseGo true true ((toks qs).map Tk.wd) ≠ []
      rw [h2]
      refine phraseGo_ne ts _ true true ?_
      unfold sayOf
      rw [if_pos (show (Tk.wd (sAtom, x ++ [103])).sort = sAtom from rfl)]
      show ((wordSaying (x ++ [103])).getD (numbersOf (x ++ [103]))) ≠ []
      rw [not_coded]
      show numbersOf (x ++ [103]) ≠ []
      unfold numbersOf
      simp
  cases hl : lsAt ps with
  | true =>
    obtain ⟨qs, t, rfl⟩ := split_last ps hl
    obtain ⟨t1, t2⟩ : t ≠ [] ∧ ∀ c ∈ t, c ∈ l_ATOM_SIGNS := h.ok.ok (.at_ t) (List.mem_append_right _ (List.mem_singleton.mpr rfl))
    have ht : toks (qs ++ [.at_ t]) = toks qs ++ [(sAtom, t)] := by rw [toks_app] <;> rfl
    have htx := h.tx
    have hn := h.n4
    rw [ht] at htx hn
    have hlast := htx (sAtom, t) (List.mem_append_right _ (List.mem_singleton.mpr rfl))
    refine key (qs ++ [.at_ (t ++ [103])]) (toks qs) t ⟨fun p hp => ?_, sep_swap h.ok.sp rfl⟩ (by rw [toks_app] <;> rfl) (fun x hx => htx x (List.mem_append_left _ hx)) (by rw [List.length_append] at hn; simp at hn; omega) hlast.l (fun c hc => atom_okc c (t2 c hc)) ?_
    · rcases List.mem_append.mp hp with e | e
      · exact h.ok.ok p (List.mem_append_left _ e)
      · rw [List.mem_singleton.mp e]
        exact ⟨by simp, fun c hc => by
          rcases List.mem_append.mp hc with e | e
          · exact t2 c e
          · rw [List.mem_singleton.mp e]; exact g_atom.1⟩
    · rw [ren_app, ren_app]
      show ren qs ++ ((t ++ [103]) ++ []) = (ren qs ++ (t ++ [])) ++ [103]
      simp
  | false =>
    refine key (ps ++ [.at_ [103]]) (toks ps) [] (h.ok.app (PsOk.one (p := .at_ [103]) ⟨(fun z => nomatch z), fun c hc => by rw [List.mem_singleton.mp hc]; exact g_atom.1⟩) (by rw [hl]; rfl)) (by rw [toks_app] <;> rfl) h.tx h.n4 (Nat.zero_le _) (fun _ h => by cases h) (by rw [ren_app] <;> rfl)
end Fk
namespace Fk
open PySem PySem.Spec PyProof.Rows L2 Dl Mr
local macro_rules | `(tactic| walk_at "ev") => `(tactic| first
  | (with_reducible apply ev_dat) <;> rfl
  | with_reducible apply ev_int
  | with_reducible apply ev_bl
  | with_reducible apply ev_non
  | walk_at "lit"
  | with_reducible apply ev_str
  | with_reducible apply eb_test
  | with_reducible apply eb_B
  | with_reducible apply ev_op
  | with_reducible apply o_add
  | with_reducible apply o_sub
  | with_reducible apply o_mul
  | with_reducible apply o_fdiv
  | with_reducible apply o_fdivW
  | with_reducible apply o_mod
  | with_reducible apply o_lt
  | with_reducible apply o_le
  | with_reducible apply o_gt
  | with_reducible apply o_ge
  | with_reducible apply o_eqI
  | with_reducible apply o_neI
  | with_reducible apply o_eqS
  | with_reducible apply o_neS
  | with_reducible apply o_neInts
  | with_reducible apply o_neNil
  | with_reducible apply o_eqNil
  | with_reducible apply o_eqInts
  | with_reducible apply o_addS
  | with_reducible apply o_in1
  | with_reducible apply o_ni1
  | with_reducible apply o_inS
  | with_reducible apply o_mulS
  | with_reducible apply ea_nil
  | with_reducible apply ea_cons
  | with_reducible apply ev_tup
  | with_reducible apply ev_lst
  | with_reducible apply eb_not
  | with_reducible apply eb_and
  | with_reducible apply eb_or
  | with_reducible apply ev_andV
  | with_reducible apply ev_orV
  | with_reducible apply ev_notV
  | with_reducible apply ev_chain
  | with_reducible apply ev_neg
  | with_reducible apply ev_slS
  | with_reducible apply ev_slL
  | with_reducible apply eo_none
  | with_reducible apply eo_some
  | with_reducible apply ev_cb
  | with_reducible apply cd_lenT
  | with_reducible apply cd_lenL
  | with_reducible apply cd_int
  | with_reducible apply cd_max
  | with_reducible apply cd_min
  | with_reducible apply ev_bm
  | with_reducible apply ev_bm0
  | with_reducible apply md_strip
  | with_reducible apply md_rstrip
  | with_reducible apply md_find
  | with_reducible apply md_index
  | with_reducible apply md_starts
  | with_reducible apply md_lower
  | with_reducible apply md_upper
  | with_reducible apply ei_str
  | with_reducible apply ei_list
  | with_reducible exact sz1 rfl
  | with_reducible exact Nat.le_of_ble_eq_true rfl
  | ((with_reducible apply cmulL) <;> decide)
  | ((with_reducible apply cmulR) <;> decide)
  | ((with_reducible apply cdiv) <;> decide)
  | ((with_reducible show (0 : Int) < _) <;> decide)
  | (with_reducible intro _hyp))

section
variable {P : Program} {w : World} {K : PySem.W.Frag} {mg : PySem.Str → Option Value} {base : Heap}
def joinT : List (List Tk) → List Tk
  | [] => []
  | [a] => a
  | a :: b :: r => a ++ mkT 44 :: joinT (b :: r)
/-- tokens of an address for one -/
structure OneT (ts : List Tk) (o : One) : Prop where
  tk : ∃ s1 h, (s1 = sAtom ∨ s1 = sQuoted) ∧ h.map lo1 = o.hou ∧ (∀ c ∈ h, c ∈ l_ATOM_SIGNS) ∧
    ((ts = [(s1, o.loc), mkT 64, (sAtom, h)] ∧ o.say = []) ∨ ∃ ph, (∀ t ∈ ph, TxS 10 t) ∧ ph.length ≤ 4 ∧ ts = ph ++ [mkT 60, (s1, o.loc), mkT 64, (sAtom, h), mkT 62] ∧ o.say = sayT ph)
  loc : LocL o.loc
  hou : HouseL o.hou
theorem OneP.t {ps : List Pc} {o : One} (h : OneP ps o) : OneT (toks ps) o := ⟨h.tk, h.loc, h.hou⟩
def AdrT (ts : List Tk) : Adr → Prop
  | .one o => OneT ts o
  | .grp s ms => ∃ ph tss, (∀ t ∈ ph, isTx t) ∧ ph.length ≤ 5 ∧ ts = ph ++ mkT 58 :: (joinT tss ++ [mkT 59]) ∧ Fa2 OneT tss ms ∧ s = sayT ph ∧ SayOk s ∧ s ≠ [] ∧ ms.length ≤ 3
/-- an address' pieces -/
structure AdrP (ps : List Pc) (a : Adr) : Prop where
  ok : PsOk ps
  tk : AdrT (toks ps) a
  len : (ren ps).length ≤ 10000
theorem signs_okc : okc 32 ∧ okc 34 ∧ okc 92 ∧ okc 40 ∧ okc 41 ∧ okc 44 ∧ (∀ c ∈ l_MARKS, okc c) := by decide +kernel
theorem esc_okc {t : List Nat} (h : ∀ c ∈ t, okc c) : ∀ c ∈ escQ t, okc c := fun c hc => by
  obtain ⟨x, hx, hc⟩ := List.mem_flatMap.mp hc
  split at hc
  · simp only [List.mem_cons, List.not_mem_nil, or_false] at hc
    rcases hc with rfl | rfl
    · exact signs_okc.2.2.1
    · exact h _ hx
  · rw [List.mem_singleton.mp hc]
    exact h x hx
theorem ren_okc {ps : List Pc} (h : PsOk ps) : ∀ c ∈ ren ps, okc c := fun c hc => by
  obtain ⟨p, hp, hc⟩ := List.mem_flatMap.mp hc
  have ho := h.ok p hp
  obtain ⟨k1, k2, k3, k4, k5, k6, k7⟩ := signs_okc
  cases p with
  | bl => rw [List.mem_singleton.mp hc]; exact k1
  | mk x => rw [List.mem_singleton.mp hc]; exact k7 x ho
  | at_ t => exact atom_okc c (ho.2 c hc)
  | qu t =>
    simp only [Pc.str, List.mem_cons, List.mem_append, List.not_mem_nil, or_false, List.cons_append] at hc
    rcases hc with rfl | hc | rfl
    · exact k2
    · exact esc_okc ho c hc
    · exact k2
  | rm t =>
    simp only [Pc.str, List.mem_cons, List.mem_append, List.not_mem_nil, or_false, List.cons_append] at hc
    rcases hc with rfl | hc | rfl
    · exact k4
    · exact ho.1 c hc
    · exact k5
theorem ren_small {ps : List Pc} (h : PsOk ps) : ∀ c ∈ ren ps, c < 1114112 := fun c hc => by
  have := okc_rng c (ren_okc h c hc)
  omega
/-- the cut words of pieces whose tokens are told -/
theorem words_split {ps : List Pc} {ph rest : List Tk} {m : Tk} (h : toks ps = ph ++ m :: rest) : ∃ A M R, (wordsAt 0 ps).filter noRm = A ++ M :: R ∧ A.map (fun w => ((w.sort, w.text) : Tk)) = ph ∧ ((M.sort, M.text) : Tk) = m := by
  have h1 := toks_words ps 0
  rw [h] at h1
  obtain ⟨A, B, e1, e2, e3⟩ := List.map_eq_append_iff.mp h1
  obtain ⟨M, R, e4, e5, e6⟩ := List.map_eq_cons_iff.mp e3
  exact ⟨A, M, R, by rw [e1, e4], e2, e5⟩
theorem sayT_words {A : List Wd} {ph : List Tk} (h : A.map (fun w => ((w.sort, w.text) : Tk)) = ph) : phraseSaying A = sayT ph := by
  rw [← h]
  unfold sayT
  rw [List.map_map]
  exact (phrase_tk A).symm
theorem joinT_toks : ∀ pss : List (List Pc), ∃ q, ren q = Mr.joinL [44] (pss.map ren) ∧ toks q = joinT (pss.map toks) ∧ ((∀ ps ∈ pss, PsOk ps) → PsOk q)
  | [] => ⟨[], rfl, rfl, fun _ => PsOk.nil⟩
  | [a] => ⟨a, rfl, rfl, fun h => h a (List.mem_singleton.mpr rfl)⟩
  | a :: b :: r => by
    obtain ⟨q, h1, h2, h3⟩ := joinT_toks (b :: r)
    refine ⟨a ++ (.mk 44 :: q), ?_, ?_, fun h => ?_⟩
    · rw [ren_app, ren_cons, h1]
      rfl
    · rw [toks_app]
      show toks a ++ mkT 44 :: toks q = _
      rw [h2]
      rfl
    · exact (h a (List.mem_cons_self ..)).app (okMk (by decide) (h3 fun p hp => h p (List.mem_cons_of_mem _ hp))) (by show (lsAt a && false) = false; rw [Bool.and_false])
/-- pairs of pieces and address, as the law holds them -/
abbrev Pa (α : Type) := List Pc × α
theorem Fa2.pairs {α β : Type} {p : α → β → Prop} {f : α → β → D} {xs : List Nat} {ds : List D} (h : Fa2 (fun _ d => ∃ a b, p a b ∧ d = f a b) xs ds) : ∃ l : List (α × β), ds = l.map (fun x => f x.1 x.2) ∧ (∀ x ∈ l, p x.1 x.2) ∧ l.length = xs.length := by
  induction h with
  | nil => exact ⟨[], rfl, fun _ h => (by cases h), rfl⟩
  | cons h _ ih =>
    obtain ⟨a, b, h1, h2⟩ := h
    obtain ⟨l, e, h3, h4⟩ := ih
    refine ⟨(a, b) :: l, by rw [h2, e] <;> rfl, fun x hx => ?_, by rw [List.length_cons, List.length_cons, h4]⟩
    rcases List.mem_cons.mp hx with z | z
    · rw [z]; exact h1
    · exact h3 x z
theorem Fa2.of_pairs {α β : Type} {p : α → β → Prop} {γ : Type} {g : α → γ} {q : γ → β → Prop} (hg : ∀ a b, p a b → q (g a) b) : ∀ {l : List (α × β)}, (∀ x ∈ l, p x.1 x.2) → Fa2 q (l.map fun x => g x.1) (l.map Prod.snd)
  | [], _ => .nil
  | x :: r, h => .cons (hg _ _ (h x (List.mem_cons_self ..))) (Fa2.of_pairs hg fun y hy => h y (List.mem_cons_of_mem _ hy))
end
end Fk
namespace Dl
open PySem PySem.Spec PyProof.Rows L2
section
variable {S : Addr → Prop} {ρ : List Sl} {te : TE}
/-- a comprehension over a loosely told range -/
theorem ef_lcB {g : TG} {tt : TT} {ti : TE} {vs : List Nat} {n : Int} {P : List D → Prop} (hi : EvD S ti ρ (Below n)) (h : ∀ r : Int, 0 ≤ r → r < n → EvF S (tLc (iRng1 (tCons (tC (.int r)) tNil)) g tt te vs) ρ P) : EvF S (tLc (iRng1 (tCons ti tNil)) g tt te vs) ρ P := fun F G H σ c Q q => by
  refine hi F G H σ c _ fun v d G1 H1 ⟨r, ed, h1, h2⟩ g1 r1 => ?_
  subst ed
  cases r1
  exact h r h1 h2 F G1 H1 σ (c.go g1) Q fun p us ds G2 H2 pd g2 hn hp hg rr => q p us ds G2 H2 pd (g1.trans c.base g2) (g1.fresh c.base hn) hp hg rr
end
end Dl
namespace Fk
open PySem PySem.Spec PyProof.Rows L2 Dl Mr
local macro_rules | `(tactic| walk_at "ev") => `(tactic| first
  | (with_reducible apply ev_dat) <;> rfl
  | with_reducible apply ev_int
  | with_reducible apply ev_bl
  | with_reducible apply ev_non
  | walk_at "lit"
  | with_reducible apply ev_str
  | with_reducible apply eb_test
  | with_reducible apply eb_B
  | with_reducible apply ev_op
  | with_reducible apply o_add
  | with_reducible apply o_sub
  | with_reducible apply o_mul
  | with_reducible apply o_fdiv
  | with_reducible apply o_fdivW
  | with_reducible apply o_mod
  | with_reducible apply o_lt
  | with_reducible apply o_le
  | with_reducible apply o_gt
  | with_reducible apply o_ge
  | with_reducible apply o_eqI
  | with_reducible apply o_neI
  | with_reducible apply o_eqS
  | with_reducible apply o_neS
  | with_reducible apply o_neInts
  | with_reducible apply o_neNil
  | with_reducible apply o_eqNil
  | with_reducible apply o_eqInts
  | with_reducible apply o_addS
  | with_reducible apply o_in1
  | with_reducible apply o_ni1
  | with_reducible apply o_inS
  | with_reducible apply o_mulS
  | with_reducible apply ea_nil
  | with_reducible apply ea_cons
  | with_reducible apply ev_tup
  | with_reducible apply ev_lst
  | with_reducible apply eb_not
  | with_reducible apply eb_and
  | with_reducible apply eb_or
  | with_reducible apply ev_andV
  | with_reducible apply ev_orV
  | with_reducible apply ev_notV
  | with_reducible apply ev_chain
  | with_reducible apply ev_neg
  | with_reducible apply ev_slS
  | with_reducible apply ev_slL
  | with_reducible apply eo_none
  | with_reducible apply eo_some
  | with_reducible apply ev_cb
  | with_reducible apply cd_lenT
  | with_reducible apply cd_lenL
  | with_reducible apply cd_int
  | with_reducible apply cd_max
  | with_reducible apply cd_min
  | with_reducible apply ev_bm
  | with_reducible apply ev_bm0
  | with_reducible apply md_strip
  | with_reducible apply md_rstrip
  | with_reducible apply md_find
  | with_reducible apply md_index
  | with_reducible apply md_starts
  | with_reducible apply md_lower
  | with_reducible apply md_upper
  | with_reducible apply ei_str
  | with_reducible apply ei_list
  | with_reducible exact sz1 rfl
  | with_reducible exact Nat.le_of_ble_eq_true rfl
  | ((with_reducible apply cmulL) <;> decide)
  | ((with_reducible apply cmulR) <;> decide)
  | ((with_reducible apply cdiv) <;> decide)
  | ((with_reducible show (0 : Int) < _) <;> decide)
  | (with_reducible intro _hyp))

section
variable {P : Program} {w : World} {K : PySem.W.Frag} {mg : PySem.Str → Option Value} {base : Heap}
/-- a whole value -/
structure TopP (ps : List Pc) (as : List Adr) : Prop where
  ok : PsOk ps
  tk : ∃ tss, toks ps = joinT tss ∧ Fa2 AdrT tss as
  n : as.length ≤ 4
  len : (ren ps).length ≤ 42000
abbrev N__law_spelled : List PySem.Str := ["_law_source_here", "_law_most", "_law_texts", "_law_found", "_law_k", "_law_value", "_law_address", "_law_some", "_law_saying_here", "_law_j", "_law_one_here"]
theorem sc__law_spelled : FnScope N__law_spelled ["_law_source_here", "_law_most"] (defScope s__law_spelled) := ⟨rfl, rfl, rfl, by decide +kernel, rfl, by decide +kernel, by decide +kernel⟩
local macro_rules | `(tactic| walk_at "lit") => `(tactic| first
  | with_reducible exact ev_strL lit_67726f7570
  | with_reducible exact ev_strL lit_3a
  | with_reducible exact ev_strL lit_3b
  | with_reducible exact ev_strL lit_2c
  | with_reducible exact ev_strL lit_67)
theorem c__law_spelled (T : Tx K mg) : C8.Cal P w K mg base 8 "_law_spelled" (spS (α := Unit) (fun _ => [.int 4]) (fun _ => True) (fun _ d => ∃ ps as, TopP ps as ∧ d = .tup [.str (ren ps), .lst (as.map Adr.d)])) [] :=
  have c__law_next := c__law_next (P := P) (w := w) (base := base) T
  have c__law_gap := c__law_gap (P := P) (w := w) (base := base) T
  have c__law_words := c__law_words (P := P) (w := w) (base := base) T
  have c__law_spelled_one := c__law_spelled_one (P := P) (w := w) (base := base) T
  have c__law_read_phrase := c__law_read_phrase (P := P) (w := w) (base := base) T
  cal_S T.d__law_spelled sc__law_spelled (fun _ => rfl) (by decide) (fun _ _ _ _ _ _ us hl => match us, hl with | [_, _], _ => rfl) (fun f cdv A outer s H E hr => ⟨_, (pss_cons (ps_set (i := 2) sc__law_spelled.nd rfl (Or.inl rfl) (pe_lst pa_nil))
    (pss_cons (ps_set (i := 3) sc__law_spelled.nd rfl (Or.inl rfl) (pe_lst pa_nil))
    (pss_cons (ps_for PassesOwn.never rfl (pi_range1 (by rfl) T.n_range (pa_cons (C8.pe_c c__law_next hr (by decide) rfl (pa_cons (pv 0) (pa_cons (pe_op op_add (pv 1) pe_int) pa_nil))) pa_nil)) (pg_name (i := 4) sc__law_spelled.nd rfl (Or.inl rfl))
    (pss_cons (ps_asg (C8.pe_c c__law_spelled_one hr (by decide) rfl (pa_cons (pv 0) pa_nil)) (pg_tup rfl (pgs_cons (pg_name (i := 5) sc__law_spelled.nd rfl (Or.inl rfl)) (pgs_cons (pg_name (i := 6) sc__law_spelled.nd rfl (Or.inl rfl)) pgs_nil))))
    (pss_cons (ps_if (pt_cmpR op_eq (C8.pe_c c__law_next hr (by decide) rfl (pa_cons (pv 0) (pa_cons pe_int pa_nil))) pe_int (by rfl))
    (pss_cons (ps_setLc (i := 7) (own := [("_law_j", 9)]) (g := gName 9) rfl sc__law_spelled.nd rfl rfl (sw_true rfl rfl rfl (by decide +kernel)) (pi_range1 (by rfl) T.n_range (pa_cons (C8.pe_c c__law_next hr (by decide) rfl (pa_cons (pv 0) (pa_cons pe_int pa_nil))) pa_nil)) (blkOk_by (own := [("_law_j", 9)]) (N := N__law_spelled) (sc := defScope s__law_spelled) (by decide +kernel)) (fun _ _ _ _ _ => pg_name (i := 9) sc__law_spelled.nd rfl (Or.inl rfl)) (fun _ _ _ _ _ => pts_nil) (fun _ _ _ _ _ => (C8.pe_c c__law_spelled_one hr (by decide) rfl (pa_cons (pv 0) pa_nil))))
    (pss_cons (ps_asg (C8.pe_c c__law_words hr (by decide) rfl (pa_cons (pv 0) pa_nil)) (pg_tup rfl (pgs_cons (pg_name (i := 5) sc__law_spelled.nd rfl (Or.inl rfl)) (pgs_cons (pg_name (i := 8) sc__law_spelled.nd rfl (Or.inl rfl)) pgs_nil))))
    (pss_cons (ps_set (i := 5) sc__law_spelled.nd rfl (Or.inl rfl) (pe_op op_addS (pe_op op_addS (pe_op op_addS (pe_op op_addS (pv 5) pe_str) (C8.pe_c c__law_gap hr (by decide) rfl (pa_cons (pv 0) pa_nil))) pe_str) (C8.pe_c c__law_gap hr (by decide) rfl (pa_cons (pv 0) pa_nil))))
    (pss_cons (ps_set (i := 5) sc__law_spelled.nd rfl (Or.inl rfl) (pe_op op_addS (pv 5) (pe_bm PySem.F.plainAttrs_str PySem.F.slot_str_join PySem.F.type_str_join m_join pe_str (pa_cons (pe_lc (own := [("_law_one_here", 10)]) (g := gName 10) rfl sc__law_spelled.nd (pi_list (pv 7)) (blkOk_by (own := [("_law_one_here", 10)]) (N := N__law_spelled) (sc := defScope s__law_spelled) (by decide +kernel)) (fun _ _ _ _ _ => pg_name (i := 10) sc__law_spelled.nd rfl (Or.inl rfl)) (fun _ _ _ _ _ => pts_nil) (fun _ _ _ _ _ => (pe_ix (ix_tupK (K := K) rfl) (pv 10) pe_int (fun _ _ => rfl)))) pa_nil))))
    (pss_cons (ps_set (i := 5) sc__law_spelled.nd rfl (Or.inl rfl) (pe_op op_addS (pe_op op_addS (pe_op op_addS (pv 5) (C8.pe_c c__law_gap hr (by decide) rfl (pa_cons (pv 0) pa_nil))) pe_str) (C8.pe_c c__law_gap hr (by decide) rfl (pa_cons (pv 0) pa_nil))))
    (pss_cons (ps_set (i := 6) sc__law_spelled.nd rfl (Or.inl rfl) (pe_tup (pa_cons pe_str (pa_cons (C8.pe_c c__law_read_phrase hr (by decide) rfl (pa_cons (pv 5) pa_nil)) (pa_cons (pe_lc (own := [("_law_one_here", 10)]) (g := gName 10) rfl sc__law_spelled.nd (pi_list (pv 7)) (blkOk_by (own := [("_law_one_here", 10)]) (N := N__law_spelled) (sc := defScope s__law_spelled) (by decide +kernel)) (fun _ _ _ _ _ => pg_name (i := 10) sc__law_spelled.nd rfl (Or.inl rfl)) (fun _ _ _ _ _ => pts_nil) (fun _ _ _ _ _ => (pe_ix (ix_tupK (K := K) rfl) (pv 10) pe_int (fun _ _ => rfl)))) pa_nil)))))
    pss_nil))))))
    pss_nil)
    (pss_cons (ps_expr (pe_bm PySem.F.plainAttrs_list PySem.F.slot_list_append PySem.F.type_list_append mt_append (pv 2) (pa_cons (pv 5) pa_nil)))
    (pss_cons (ps_expr (pe_bm PySem.F.plainAttrs_list PySem.F.slot_list_append PySem.F.type_list_append mt_append (pv 3) (pa_cons (pv 6) pa_nil)))
    pss_nil)))))
    (pss_cons (ps_ret (pe_tup (pa_cons (pe_op op_addS (pe_op op_addS (C8.pe_c c__law_gap hr (by decide) rfl (pa_cons (pv 0) pa_nil)) (pe_bm PySem.F.plainAttrs_str PySem.F.slot_str_join PySem.F.type_str_join m_join pe_str (pa_cons (pv 2) pa_nil))) (C8.pe_c c__law_gap hr (by decide) rfl (pa_cons (pv 0) pa_nil))) (pa_cons (pv 3) pa_nil))))
    pss_nil)))), fun a p ha => by
    show Dl.Run (One1 p) _ [.src, .dat (.int 4), .no, .no, .no, .no, .no, .no, .no, .no, .no] _ _
    have nx : ∀ {ρ : List Sl} {n : Int}, ρ[0]? = some .src → 0 < n ∧ n < 1073741824 → EvD (One1 p) (tCall (spS (α := Int) (fun a => [.int a]) (fun a => 0 < a ∧ a < 1073741824) (fun a d => ∃ r : Int, d = .int r ∧ 0 ≤ r ∧ r < a)) [] C8.E0 (tCons (tVar 0) (tCons (tC (.int n)) tNil))) ρ (Below n) := fun h0 hn => eds_call _ h0 (ea_cons ev_int ea_nil) hn
    refine run_setFV (ef_lstV ea_nil (sz1 rfl)) (run_setFV (ef_lstV ea_nil (sz1 rfl)) ?_)
    refine run_forB 0 4 (by decide) (by decide) (fun k r => ∃ l : List (List Pc × Adr), r = [.src, .dat (.int 4), .own (l.map fun x => .str (ren x.1)), .own (l.map fun x => x.2.d), .no, .no, .no, .no, .no, .no, .no] ∧ (∀ x ∈ l, AdrP x.1 x.2) ∧ l.length = k) (EvD.imp (eds_call 5 rfl (ea_cons (EvV.cast (ev_op (ev_dat rfl) ev_int o_add) (by rfl)) ea_nil) ⟨by decide, by decide⟩) fun d ⟨r, e, h1, h2⟩ => ⟨r, e, h1, by omega⟩) ⟨_, Le.refl _, [], rfl, fun _ h => (by cases h), rfl⟩ (fun k r hk hr => ?_) (fun k r hk hr => ?_)
    · obtain ⟨l, rfl, hl1, hl2⟩ := hr
      refine ⟨_, tg_name, ?_⟩
      refine run_asg (eds_call () rfl ea_nil trivial) (fun d hd => ?_)
      obtain ⟨ps0, o0, h0, rfl⟩ := hd
      refine ⟨_, tg_tup (tgs_cons tg_name (tgs_cons tg_name tgs_nil)) rfl, ?_⟩
      show Dl.Run (One1 p) _ [.src, .dat (.int 4), .own (l.map fun x => .str (ren x.1)), .own (l.map fun x => x.2.d), .dat (.int (k : Int)), .dat (.str (ren ps0)), .dat o0.d, .no, .no, .no, .no] _ _
      refine run_ifTJ (P := fun _ => True) (N1 := fun r => ∃ ps a x7 x8, AdrP ps a ∧ r = [.src, .dat (.int 4), .own (l.map fun x => .str (ren x.1)), .own (l.map fun x => x.2.d), .dat (.int (k : Int)), .dat (.str (ren ps)), .dat a.d, x7, x8, .no, .no]) (et_any (ed_op (nx rfl ⟨by decide, by decide⟩) (fun _ _ => ev_int) fun x y ⟨r, e1, _⟩ e2 => by
        rw [e1, e2]
        exact opd_imp o_eqI fun d e => ⟨_, e⟩)) (fun _ => ?_) (fun _ => run_next ⟨ps0, .one o0, .no, .no, ⟨h0.ok, h0.t, by have := h0.len; omega⟩, rfl⟩) (fun r hr => ?_)
      · refine run_setF (P := fun ds => ∃ m : List (List Pc × One), ds = m.map (fun x => .tup [.str (ren x.1), x.2.d]) ∧ (∀ x ∈ m, OneP x.1 x.2) ∧ m.length ≤ 2) (ef_lcB (n := 3) (nx rfl ⟨by decide, by decide⟩) fun r r1 r2 => EvF.imp (ef_lcMD (Pe := fun _ d => ∃ ps o, OneP ps o ∧ d = .tup [.str (ren ps), o.d]) (List.range r.toNat) (fun k => .int (0 + (k : Int) * 1)) (ei_rng1 ev_int (by omega) (by omega)) (fun j hj => eds_call () rfl ea_nil trivial) (sz (by rw [List.length_range]; omega))) fun ds h => ?_) (fun ds hds => ?_)
        · obtain ⟨m, e, m1, m2⟩ := Fa2.pairs (f := fun (ps : List Pc) (o : One) => D.tup [.str (ren ps), o.d]) h
          exact ⟨m, e, m1, by rw [m2, List.length_range]; omega⟩
        obtain ⟨m, rfl, m1, m2⟩ := hds
        refine run_freeze 7 rfl ?_
        refine run_asg (eds_call () rfl ea_nil trivial) (fun d hd => ?_)
        obtain ⟨wp, hwp, rfl⟩ := hd
        refine ⟨_, tg_tup (tgs_cons tg_name (tgs_cons tg_name tgs_nil)) rfl, ?_⟩
        obtain ⟨qs, hqs, hqr⟩ := g_behind hwp
        show Dl.Run (One1 p) _ [.src, .dat (.int 4), .own (l.map fun x => .str (ren x.1)), .own (l.map fun x => x.2.d), .dat (.int (k : Int)), .dat (.str (ren wp)), .dat o0.d, .dat (.lst (m.map (fun x => .tup [.str (ren x.1), x.2.d]))), .dat (.lst ((sayT (toks wp)).map .int)), .no, .no] _ _
        generalize sayT (toks wp) = sy
        have hwl := hwp.len
        have hql := hqs.len
        refine run_setD (P := fun d => ∃ y, (∃ q, (PsOk q ∧ toks q = toks qs ++ [mkT 58] ∧ lsAt q = false ∧ (ren q).length ≤ 1560) ∧ y = ren q) ∧ d = .str y) (ed_addS (Pa := fun y => ∃ q, (PsOk q ∧ toks q = toks qs ++ [mkT 58] ∧ lsAt q = false ∧ (ren q).length ≤ 1530) ∧ y = ren q) (Pb := fun y => ∃ g, Gap g ∧ y = ren g) (ed_addS (Pa := fun y => ∃ g, Gap g ∧ y = ren (qs ++ g)) (Pb := fun y => y = [58]) (ed_addS (Pa := fun y => y = ren qs) (Pb := fun y => ∃ g, Gap g ∧ y = ren g) (ed_addS (Pa := fun y => y = ren wp) (Pb := fun y => y = [103]) (ed_txt (ev_dat rfl) rfl) (ed_txt (ev_strL lit_67) rfl) fun y z hy hz => ⟨by rw [hy, hz]; simp; omega, by rw [hy, hz, hqr]⟩) (eds_call () rfl ea_nil trivial) fun y z hy hz => ?_) (ed_txt (ev_strL lit_3a) rfl) fun y z hy hz => ?_) (eds_call () rfl ea_nil trivial) fun y z hy hz => ?_) (fun d hd => ?_)
        · obtain ⟨g, hg, rfl⟩ := hz
          subst hy
          have := hg.len
          exact ⟨by omega, g, hg, by rw [ren_app]⟩
        · obtain ⟨g, hg, rfl⟩ := hy
          subst hz
          have e1 := hg.len
          have e2 : (ren (qs ++ g)).length ≤ 1521 := by rw [ren_app, List.length_append]; omega
          refine ⟨by simp; omega, (qs ++ g) ++ [.mk 58], ⟨okMkR (by decide) (okGapR hg hqs.ok), by rw [toks_app, toks_gapr hg] <;> rfl, by rw [lsAt_app, if_neg (fun z => nomatch z)] <;> rfl, ?_⟩, by rw [ren_app (qs ++ g)] <;> rfl⟩
          rw [ren_app, List.length_append]
          show _ + 1 ≤ _
          omega
        · obtain ⟨q', ⟨a1, a2, a3, a4⟩, rfl⟩ := hy
          obtain ⟨g, hg, rfl⟩ := hz
          have e1 := hg.len
          refine ⟨by omega, q' ++ g, ⟨okGapR hg a1, by rw [toks_gapr hg, a2], ?_, by rw [ren_app, List.length_append]; omega⟩, by rw [ren_app]⟩
          rw [lsAt_app]
          split
          · exact a3
          · exact hg.l
        obtain ⟨y, ⟨q, ⟨a1, a2, a3, a4⟩, rfl⟩, rfl⟩ := hd
        obtain ⟨jq, j1, j2, j3⟩ := joinT_toks (m.map Prod.fst)
        have hjok : PsOk jq := j3 fun ps hps => by
          obtain ⟨x, hx, rfl⟩ := List.mem_map.mp hps
          exact (m1 x hx).ok
        have hjl : (ren jq).length ≤ 5010 := by
          rw [j1]
          have h5 := joinL_len [44] ((m.map Prod.fst).map ren)
          have h6 := lens_le (m := 2500) (ss := (m.map Prod.fst).map ren) fun s hs => by
            rw [List.map_map] at hs
            obtain ⟨x, hx, rfl⟩ := List.mem_map.mp hs
            exact (m1 x hx).len
          simp only [List.length_map, List.length_cons, List.length_nil] at h5 h6
          omega
        have hjz : lens ((m.map Prod.fst).map ren) ≤ 5000 := by
          have h6 := lens_le (m := 2500) (ss := (m.map Prod.fst).map ren) fun s hs => by
            rw [List.map_map] at hs
            obtain ⟨x, hx, rfl⟩ := List.mem_map.mp hs
            exact (m1 x hx).len
          simp only [List.length_map] at h6
          omega
        show Dl.Run (One1 p) _ [.src, .dat (.int 4), .own (l.map fun x => .str (ren x.1)), .own (l.map fun x => x.2.d), .dat (.int (k : Int)), .dat (.str (ren q)), .dat o0.d, .dat (.lst (m.map (fun x => .tup [.str (ren x.1), x.2.d]))), .dat (.lst (sy.map .int)), .no, .no] _ _
        refine run_set (d := .str (ren (q ++ jq))) (EvV.cast (ev_op (ev_dat rfl) (EvV.cast (y := .str (ren jq)) (ev_bm (ys := [.lst (((m.map Prod.fst).map ren).map .str)]) (ev_strL lit_2c) (ea_cons (EvV.cast (EvF.v (ef_lcM m (fun x => .tup [.str (ren x.1), x.2.d]) (fun x => .str (ren x.1)) (ei_list (ev_dat rfl)) (fun x hx => ev_op (ev_dat rfl) ev_int (o_ixT rfl)) (sz (by omega)))) (by rw [List.map_map, List.map_map] <;> rfl)) ea_nil) (md_join (by simp only [List.length_map, List.length_cons, List.length_nil]; omega))) (by rw [j1])) (o_addS (sz (by omega)))) (by rw [ren_app])) ?_
        have hqj : PsOk (q ++ jq) := a1.app hjok (by rw [a3]; rfl)
        have hqjt : toks (q ++ jq) = toks qs ++ mkT 58 :: joinT ((m.map Prod.fst).map toks) := by rw [toks_app, a2, j2, List.append_assoc] <;> rfl
        have hqjl : (ren (q ++ jq)).length ≤ 6570 := by rw [ren_app, List.length_append]; omega
        generalize q ++ jq = v at hqj hqjt hqjl
        show Dl.Run (One1 p) _ [.src, .dat (.int 4), .own (l.map fun x => .str (ren x.1)), .own (l.map fun x => x.2.d), .dat (.int (k : Int)), .dat (.str (ren v)), .dat o0.d, .dat (.lst (m.map (fun x => .tup [.str (ren x.1), x.2.d]))), .dat (.lst (sy.map .int)), .no, .no] _ _
        refine run_setD (P := fun d => ∃ y, (∃ q, (PsOk q ∧ toks q = toks qs ++ mkT 58 :: (joinT ((m.map Prod.fst).map toks) ++ [mkT 59]) ∧ (ren q).length ≤ 6640) ∧ y = ren q) ∧ d = .str y) (ed_addS (Pa := fun y => ∃ q, (PsOk q ∧ toks q = toks qs ++ mkT 58 :: (joinT ((m.map Prod.fst).map toks) ++ [mkT 59]) ∧ (ren q).length ≤ 6600) ∧ y = ren q) (Pb := fun y => ∃ g, Gap g ∧ y = ren g) (ed_addS (Pa := fun y => ∃ g, Gap g ∧ y = ren (v ++ g)) (Pb := fun y => y = [59]) (ed_addS (Pa := fun y => y = ren v) (Pb := fun y => ∃ g, Gap g ∧ y = ren g) (ed_txt (ev_dat rfl) rfl) (eds_call () rfl ea_nil trivial) fun y z hy hz => ?_) (ed_txt (ev_strL lit_3b) rfl) fun y z hy hz => ?_) (eds_call () rfl ea_nil trivial) fun y z hy hz => ?_) (fun d hd => ?_)
        · obtain ⟨g, hg, rfl⟩ := hz
          subst hy
          have := hg.len
          exact ⟨by omega, g, hg, by rw [ren_app]⟩
        · obtain ⟨g, hg, rfl⟩ := hy
          subst hz
          have e1 := hg.len
          have e2 : (ren (v ++ g)).length ≤ 6590 := by rw [ren_app, List.length_append]; omega
          refine ⟨by simp; omega, (v ++ g) ++ [.mk 59], ⟨okMkR (by decide) (okGapR hg hqj), by rw [toks_app, toks_gapr hg, hqjt, List.append_assoc] <;> rfl, ?_⟩, by rw [ren_app (v ++ g)] <;> rfl⟩
          rw [ren_app, List.length_append]
          show _ + 1 ≤ _
          omega
        · obtain ⟨q', ⟨b1, b2, b3⟩, rfl⟩ := hy
          obtain ⟨g, hg, rfl⟩ := hz
          have e1 := hg.len
          exact ⟨by omega, q' ++ g, ⟨okGapR hg b1, by rw [toks_gapr hg, b2], by rw [ren_app, List.length_append]; omega⟩, by rw [ren_app]⟩
        obtain ⟨y, ⟨w, ⟨b1, b2, b3⟩, rfl⟩, rfl⟩ := hd
        obtain ⟨A, M, R, s1, s2, s3⟩ := words_split b2
        have hA : ∀ x ∈ A, isTx ((x.sort, x.text) : Tk) := fun x hx => hqs.tx _ (by rw [← s2]; exact List.mem_map.mpr ⟨x, hx, rfl⟩)
        have hAl : A.length ≤ 5 := by
          have := congrArg List.length s2
          rw [List.length_map] at this
          have := hqs.n
          omega
        refine run_set (d := (Adr.grp (sayT (toks qs)) (m.map Prod.snd)).d) (ev_tup (ea_cons (ev_strL (l := sGroup) lit_67726f7570) (ea_cons (EvV.cast (ed_call (ren w, wordsAt 0 w, A, M, R) (ea_cons (ev_dat rfl) ea_nil) ⟨⟨⟨by show (ren w).length ≤ 900000; omega, ren_small b1⟩, lex_pcs w 0 b1⟩, s1, fun x hx => ?_, ?_, ⟨by show A.length ≤ 400; omega, fun x hx => (hA x hx).2⟩⟩) (by rw [sayT_words s2])) (ea_cons (EvV.cast (EvF.v (ef_lcM m (fun x => .tup [.str (ren x.1), x.2.d]) (fun x => x.2.d) (ei_list (ev_dat rfl)) (fun x hx => ev_op (ev_dat rfl) ev_int (o_ixT rfl)) (sz (by omega)))) (by
          show D.lst (m.map fun x => x.2.d) = .lst ((m.map Prod.snd).map One.d)
          rw [List.map_map] <;> rfl)) ea_nil))) (sz1 rfl)) (run_next ⟨w, .grp (sayT (toks qs)) (m.map Prod.snd), _, _, ⟨b1, ⟨toks qs, (m.map Prod.fst).map toks, hqs.tx, hqs.n, b2, ?_, rfl, hqs.say, hqs.ne, by rw [List.length_map]; omega⟩, by omega⟩, rfl⟩)
        · unfold isTxt
          rcases (hA x hx).1 with e | e
          · rw [show x.sort = sAtom from e]; decide
          · rw [show x.sort = sQuoted from e]; decide
        · show isTxt M = false
          have : M.sort = sMark := congrArg Prod.fst s3
          unfold isTxt
          rw [this]
          decide
        · rw [List.map_map]
          exact Fa2.of_pairs (p := OneP) (g := toks) (q := OneT) (fun _ _ h => h.t) m1
      · obtain ⟨ps, a, x7, x8, hps, rfl⟩ := hr
        refine run_appendV rfl (ev_dat rfl) (sz' (by rw [List.length_map]; omega)) (run_appendV rfl (ev_dat rfl) (sz' (by rw [List.length_map]; omega)) (run_next ⟨_, .same (.same (.same (.same (.no (.no (.no (.no (.no (.no (.no .nil)))))))))), l ++ [(ps, a)], ?_, fun x hx => ?_, by rw [List.length_append, hl2] <;> rfl⟩))
        · rw [List.map_append, List.map_append] <;> rfl
        · rcases List.mem_append.mp hx with e | e
          · exact hl1 x e
          · rw [List.mem_singleton.mp e]; exact hps
    · obtain ⟨l, rfl, hl1, hl2⟩ := hr
      obtain ⟨jq, j1, j2, j3⟩ := joinT_toks (l.map Prod.fst)
      have hjok : PsOk jq := j3 fun ps hps => by
        obtain ⟨x, hx, rfl⟩ := List.mem_map.mp hps
        exact (hl1 x hx).ok
      have hjz : lens ((l.map Prod.fst).map ren) ≤ 40000 := by
        have h6 := lens_le (m := 10000) (ss := (l.map Prod.fst).map ren) fun s hs => by
          rw [List.map_map] at hs
          obtain ⟨x, hx, rfl⟩ := List.mem_map.mp hs
          exact (hl1 x hx).len
        simp only [List.length_map] at h6
        omega
      have hjl : (ren jq).length ≤ 40010 := by
        rw [j1]
        have h5 := joinL_len [44] ((l.map Prod.fst).map ren)
        simp only [List.length_map, List.length_cons, List.length_nil] at h5
        omega
      refine run_freeze 2 rfl (run_freeze 3 rfl (run_ret (ed_tup (P := fun ds => ∃ ps, TopP ps (l.map Prod.snd) ∧ ds = [.str (ren ps), .lst ((l.map Prod.snd).map Adr.d)]) (EvA.imp (eda_cons (ed_addS (Pa := fun y => ∃ g, Gap g ∧ y = ren (g ++ jq)) (Pb := fun y => ∃ g, Gap g ∧ y = ren g) (P := fun y => ∃ ps, TopP ps (l.map Prod.snd) ∧ y = ren ps) (ed_addS (Pa := fun y => ∃ g, Gap g ∧ y = ren g) (Pb := fun y => y = ren jq) (eds_call () rfl ea_nil trivial) (ed_txt (ev_bm (ys := [.lst (((l.map Prod.fst).map ren).map .str)]) (ev_strL lit_2c) (ea_cons (EvV.cast (ev_dat rfl) (by rw [List.map_map, List.map_map] <;> rfl)) ea_nil) (md_join (by simp only [List.length_map, List.length_cons, List.length_nil]; omega))) j1.symm) fun y z hy hz => ?_) (eds_call () rfl ea_nil trivial) fun y z hy hz => ?_) fun _ _ => eda_cons (ev_dat rfl) fun _ _ => ea_nil) fun ds h => ?_) fun ds h => ?_) (fun d hd => ?_)))
      · obtain ⟨g, hg, rfl⟩ := hy
        subst hz
        have := hg.len
        exact ⟨by omega, g, hg, by rw [ren_app]⟩
      · obtain ⟨g, hg, rfl⟩ := hy
        obtain ⟨g2, hg2, rfl⟩ := hz
        have e1 := hg.len
        have e2 := hg2.len
        refine ⟨by rw [ren_app, List.length_append]; omega, (g ++ jq) ++ g2, ⟨okGapR hg2 (okGapL hg hjok), ⟨(l.map Prod.fst).map toks, by rw [toks_gapr hg2, toks_gap hg, j2], ?_⟩, by rw [List.length_map]; omega, by rw [ren_app, ren_app, List.length_append, List.length_append]; omega⟩, by rw [ren_app (g ++ jq) g2]⟩
        rw [List.map_map]
        exact Fa2.of_pairs (p := AdrP) (g := toks) (q := AdrT) (fun _ _ h => h.tk) hl1
      · obtain ⟨d1, r1, ⟨y, ⟨ps, hps, rfl⟩, e1⟩, ⟨d2, r2, e2, e3, e4⟩, e5⟩ := h
        exact ⟨ps, hps, by rw [e5, e4, e3, e2, e1, List.map_map] <;> rfl⟩
      · obtain ⟨ps, _, e⟩ := h
        rw [e]
        exact sz1 rfl
      · obtain ⟨ds, ⟨ps, hps, e⟩, e2⟩ := hd
        exact ⟨ps, _, hps, by rw [e2, e]⟩⟩)
end
end Fk
namespace Fk
open PySem PySem.Spec PyProof.Rows L2 Dl Mr
local macro_rules | `(tactic| walk_at "ev") => `(tactic| first
  | (with_reducible apply ev_dat) <;> rfl
  | with_reducible apply ev_int
  | with_reducible apply ev_bl
  | with_reducible apply ev_non
  | walk_at "lit"
  | with_reducible apply ev_str
  | with_reducible apply eb_test
  | with_reducible apply eb_B
  | with_reducible apply ev_op
  | with_reducible apply o_add
  | with_reducible apply o_sub
  | with_reducible apply o_mul
  | with_reducible apply o_fdiv
  | with_reducible apply o_fdivW
  | with_reducible apply o_mod
  | with_reducible apply o_lt
  | with_reducible apply o_le
  | with_reducible apply o_gt
  | with_reducible apply o_ge
  | with_reducible apply o_eqI
  | with_reducible apply o_neI
  | with_reducible apply o_eqS
  | with_reducible apply o_neS
  | with_reducible apply o_neInts
  | with_reducible apply o_neNil
  | with_reducible apply o_eqNil
  | with_reducible apply o_eqInts
  | with_reducible apply o_addS
  | with_reducible apply o_in1
  | with_reducible apply o_ni1
  | with_reducible apply o_inS
  | with_reducible apply o_mulS
  | with_reducible apply ea_nil
  | with_reducible apply ea_cons
  | with_reducible apply ev_tup
  | with_reducible apply ev_lst
  | with_reducible apply eb_not
  | with_reducible apply eb_and
  | with_reducible apply eb_or
  | with_reducible apply ev_andV
  | with_reducible apply ev_orV
  | with_reducible apply ev_notV
  | with_reducible apply ev_chain
  | with_reducible apply ev_neg
  | with_reducible apply ev_slS
  | with_reducible apply ev_slL
  | with_reducible apply eo_none
  | with_reducible apply eo_some
  | with_reducible apply ev_cb
  | with_reducible apply cd_lenT
  | with_reducible apply cd_lenL
  | with_reducible apply cd_int
  | with_reducible apply cd_max
  | with_reducible apply cd_min
  | with_reducible apply ev_bm
  | with_reducible apply ev_bm0
  | with_reducible apply md_strip
  | with_reducible apply md_rstrip
  | with_reducible apply md_find
  | with_reducible apply md_index
  | with_reducible apply md_starts
  | with_reducible apply md_lower
  | with_reducible apply md_upper
  | with_reducible apply ei_str
  | with_reducible apply ei_list
  | with_reducible exact sz1 rfl
  | with_reducible exact Nat.le_of_ble_eq_true rfl
  | ((with_reducible apply cmulL) <;> decide)
  | ((with_reducible apply cmulR) <;> decide)
  | ((with_reducible apply cdiv) <;> decide)
  | ((with_reducible show (0 : Int) < _) <;> decide)
  | (with_reducible intro _hyp))

section
variable {P : Program} {w : World} {K : PySem.W.Frag} {mg : PySem.Str → Option Value} {base : Heap}
/-- the first word of pieces: blanks ahead of it -/
theorem words_next : ∀ (ps : List Pc) (p : Nat) (x : Wd) (r : List Wd), wordsAt p ps = x :: r → ∃ bs w qs, ps = bs ++ w :: qs ∧ (∀ b ∈ bs, b = .bl) ∧ x.e = p + (ren (bs ++ [w])).length ∧ r = wordsAt x.e qs
  | [], _, _, _, h => by cases h
  | .bl :: t, p, x, r, h => by
    obtain ⟨bs, w, qs, e1, e2, e3, e4⟩ := words_next t (p + 1) x r h
    refine ⟨.bl :: bs, w, qs, by rw [e1] <;> rfl, fun b hb => ?_, ?_, e4⟩
    · rcases List.mem_cons.mp hb with e | e
      · exact e
      · exact e2 b e
    · rw [e3]
      show _ = p + (32 :: ren (bs ++ [w])).length
      rw [List.length_cons]
      omega
  | .mk c :: t, p, x, r, h => by
    cases h
    exact ⟨[], .mk c, t, rfl, fun _ h => (by cases h), rfl, rfl⟩
  | .at_ c :: t, p, x, r, h => by
    cases h
    refine ⟨[], .at_ c, t, rfl, fun _ h => (by cases h), ?_, rfl⟩
    show p + c.length = p + (c ++ []).length
    rw [List.append_nil]
  | .qu c :: t, p, x, r, h => by
    cases h
    refine ⟨[], .qu c, t, rfl, fun _ h => (by cases h), ?_, rfl⟩
    show p + ((escQ c).length + 2) = p + ((34 :: escQ c ++ [34]) ++ []).length
    simp
  | .rm c :: t, p, x, r, h => by
    cases h
    refine ⟨[], .rm c, t, rfl, fun _ h => (by cases h), ?_, rfl⟩
    show p + (c.length + 2) = p + ((40 :: c ++ [41]) ++ []).length
    simp
theorem sep_right : ∀ {a b : List Pc}, sep (a ++ b) → sep b
  | [], _, h => h
  | [p], [], _ => trivial
  | [p], q :: r, h => h.2
  | p :: q :: r, b, h => sep_right (a := q :: r) h.2
theorem sep_mid : ∀ {a b : List Pc}, sep (a ++ b) → (lsAt a && hdAt b) = false
  | [], _, _ => rfl
  | [p], [], _ => by show (p.isAt && false) = false; rw [Bool.and_false]
  | [p], q :: r, h => h.1
  | p :: q :: r, b, h => sep_mid (a := q :: r) h.2
theorem PsOk.left {a b : List Pc} (h : PsOk (a ++ b)) : PsOk a := ⟨fun p hp => h.ok p (List.mem_append_left _ hp), sep_left h.sp⟩
theorem PsOk.right {a b : List Pc} (h : PsOk (a ++ b)) : PsOk b := ⟨fun p hp => h.ok p (List.mem_append_right _ hp), sep_right h.sp⟩
abbrev N__law_apart : List PySem.Str := ["_law_source_here", "_law_value", "_law_found", "_law_at", "_law_sort", "_law_text", "_law_begin", "_law_end"]
theorem sc__law_apart : FnScope N__law_apart ["_law_source_here", "_law_value"] (defScope s__law_apart) := ⟨rfl, rfl, rfl, by decide +kernel, rfl, by decide +kernel, by decide +kernel⟩
local macro_rules | `(tactic| walk_at "lit") => `(tactic| first
  | with_reducible exact ev_strL lit_nil)
theorem c__law_apart (T : Tx K mg) : C8.Cal P w K mg base 5 "_law_apart" (spS (α := List Pc) (fun ps => [.str (ren ps)]) (fun ps => PsOk ps ∧ (ren ps).length ≤ 42000) (fun ps d => ∃ qs, (PsOk qs ∧ toks qs = toks ps ∧ (ren qs).length ≤ 890000) ∧ d = .str (ren qs))) [] :=
  have c_words := c_words (P := P) (w := w) (base := base) T
  have c__law_gap := c__law_gap (P := P) (w := w) (base := base) T
  cal_S T.d__law_apart sc__law_apart (fun _ => rfl) (by decide) (fun _ _ _ _ _ _ us hl => match us, hl with | [_, _], _ => rfl) (fun f cdv A outer s H E hr => ⟨_, (pss_cons (ps_set (i := 2) sc__law_apart.nd rfl (Or.inl rfl) pe_str)
    (pss_cons (ps_set (i := 3) sc__law_apart.nd rfl (Or.inl rfl) pe_int)
    (pss_cons (ps_for PassesOwn.never rfl (pi_list (C8.pe_c c_words hr (by decide) rfl (pa_cons (pv 1) pa_nil))) (pg_tup rfl (pgs_cons (pg_name (i := 4) sc__law_apart.nd rfl (Or.inl rfl)) (pgs_cons (pg_name (i := 5) sc__law_apart.nd rfl (Or.inl rfl)) (pgs_cons (pg_name (i := 6) sc__law_apart.nd rfl (Or.inl rfl)) (pgs_cons (pg_name (i := 7) sc__law_apart.nd rfl (Or.inl rfl)) pgs_nil)))))
    (pss_cons (ps_set (i := 2) sc__law_apart.nd rfl (Or.inl rfl) (pe_op op_addS (pe_op op_addS (pv 2) (pe_slice sl_str (pv 1) (po_some (pv 3)) (po_some (pv 7)))) (C8.pe_c c__law_gap hr (by decide) rfl (pa_cons (pv 0) pa_nil))))
    (pss_cons (ps_set (i := 3) sc__law_apart.nd rfl (Or.inl rfl) (pv 7))
    pss_nil)))
    (pss_cons (ps_ret (pe_op op_addS (pv 2) (pe_slice sl_str (pv 1) (po_some (pv 3)) po_none)))
    pss_nil)))), fun ps p ha => by
    obtain ⟨hok, hlen⟩ := ha
    show Dl.Run (One1 p) _ [.src, .dat (.str (ren ps)), .no, .no, .no, .no, .no, .no] _ _
    have hlex := lex_pcs ps 0 hok
    have hwl := Lex_len hlex
    refine run_set ev_str (run_set ev_int ?_)
    refine run_for (fun k r => ∃ p1 p2 q1 x4 x5 x6 x7, r = [.src, .dat (.str (ren ps)), .dat (.str (ren q1)), .dat (.int ((ren p1).length : Int)), x4, x5, x6, x7] ∧ ps = p1 ++ p2 ∧ wordsAt (ren p1).length p2 = (wordsAt 0 ps).drop k ∧ PsOk q1 ∧ toks q1 = toks p1 ∧ (lsAt q1 = true → lsAt p1 = true) ∧ (ren q1).length ≤ (ren p1).length + 20 * k) (ei_list (ed_call (ren ps, wordsAt 0 ps) (ea_cons (ev_dat rfl) ea_nil) ⟨⟨by show (ren ps).length ≤ 900000; omega, hlex⟩, fun h => (okc_rng 10 (ren_okc hok 10 h)).2.2.2 rfl⟩)) ⟨_, Le.refl _, [], ps, [], .no, .no, .no, .no, rfl, rfl, rfl, PsOk.nil, rfl, fun h => h, Nat.zero_le _⟩ (fun k d r hd hr => ?_) (fun r hr => ?_)
    · obtain ⟨p1, p2, q1, x4, x5, x6, x7, rfl, h1, h2, h3, h4, h5, h6⟩ := hr
      obtain ⟨x, hx, rfl⟩ := map_get hd
      have hkl : k < (wordsAt 0 ps).length := (List.getElem?_eq_some_iff.mp hx).1
      rw [drop_get hx] at h2
      obtain ⟨bs, w, qs, e1, e2, e3, e4⟩ := words_next p2 _ x _ h2
      subst e1
      refine ⟨_, tg_tup (tgs_cons tg_name (tgs_cons tg_name (tgs_cons tg_name (tgs_cons tg_name tgs_nil)))) rfl, ?_⟩
      show Dl.Run (One1 p) _ [.src, .dat (.str (ren ps)), .dat (.str (ren q1)), .dat (.int ((ren p1).length : Int)), .dat (.str x.sort), .dat (.str x.text), .dat (.int (x.b : Int)), .dat (.int (x.e : Int))] _ _
      have hps : ps = (p1 ++ (bs ++ [w])) ++ qs := by rw [h1]; simp
      have hren : ren ps = ren p1 ++ (ren (bs ++ [w]) ++ ren qs) := by rw [hps, ren_app, ren_app, List.append_assoc]
      have hxe : x.e = (ren (p1 ++ (bs ++ [w]))).length := by rw [e3, ren_app p1, List.length_append]
      have hcut : cut (ren ps) (some ((ren p1).length : Int)) (some (x.e : Int)) = ren (bs ++ [w]) := by
        rw [cut_mid, hren, List.drop_left, e3, Nat.add_sub_cancel_left, List.take_left]
      have hpl : (ren p1).length + (ren (bs ++ [w])).length ≤ 42000 := by
        have := congrArg List.length hren
        rw [List.length_append, List.length_append] at this
        omega
      have hokm : PsOk (p1 ++ (bs ++ [w])) := (hps ▸ hok).left
      have hokb : PsOk (bs ++ [w]) := hokm.right
      have hsm := sep_mid hokm.sp
      refine run_setD (P := fun d => ∃ y, (∃ g, Gap g ∧ y = ren ((q1 ++ (bs ++ [w])) ++ g)) ∧ d = .str y) (ed_addS (Pa := fun y => y = ren (q1 ++ (bs ++ [w]))) (Pb := fun y => ∃ g, Gap g ∧ y = ren g) (ed_addS (Pa := fun y => y = ren q1) (Pb := fun y => y = ren (bs ++ [w])) (ed_txt (ev_dat rfl) rfl) (ed_txt (EvV.cast (ev_slS (ev_dat rfl) (eo_some (ev_dat rfl)) (eo_some (ev_dat rfl)) (sz (by omega))) (by rw [hcut])) rfl) fun y z hy hz => ⟨by rw [hy, hz]; omega, by rw [hy, hz, ren_app q1]⟩) (eds_call () rfl ea_nil trivial) fun y z hy hz => ?_) (fun d hd => ?_)
      · obtain ⟨g, hg, rfl⟩ := hz
        subst hy
        have := hg.len
        exact ⟨by rw [ren_app q1, List.length_append]; omega, g, hg, by rw [ren_app (q1 ++ (bs ++ [w])) g]⟩
      · obtain ⟨y, ⟨g, hg, rfl⟩, rfl⟩ := hd
        have hgl := hg.len
        have hq1 : PsOk (q1 ++ (bs ++ [w])) := h3.app hokb (by
          cases hl : lsAt q1 with
          | false => rfl
          | true => rw [h5 hl] at hsm; exact hsm)
        refine run_set (d := .int ((ren (p1 ++ (bs ++ [w]))).length : Int)) (EvV.cast (ev_dat rfl) (by rw [hxe])) (run_next ⟨_, Le.refl _, p1 ++ (bs ++ [w]), qs, (q1 ++ (bs ++ [w])) ++ g, _, _, _, _, rfl, hps, ?_, okGapR hg hq1, ?_, fun hl => ?_, ?_⟩)
        · rw [← hxe, ← e4]
        · rw [toks_gapr hg, toks_app q1, toks_app p1, h4]
        · rw [lsAt_app] at hl
          split at hl
          · rw [lsAt_app, if_neg (by simp)] at hl
            rw [lsAt_app, if_neg (by simp)]
            exact hl
          · rw [hg.l] at hl
            cases hl
        · rw [ren_app (q1 ++ (bs ++ [w])) g, ren_app q1, ren_app p1, List.length_append, List.length_append, List.length_append]
          omega
    · obtain ⟨p1, p2, q1, x4, x5, x6, x7, rfl, h1, h2, h3, h4, h5, h6⟩ := hr
      rw [List.length_map] at h6
      simp only at h6
      have hren : ren ps = ren p1 ++ ren p2 := by rw [h1, ren_app]
      have hpl : (ren p1).length + (ren p2).length ≤ 42000 := by
        have := congrArg List.length hren
        rw [List.length_append] at this
        omega
      have hcut : cut (ren ps) (some ((ren p1).length : Int)) none = ren p2 := by rw [cut_from, hren, List.drop_left]
      have hokm : PsOk (p1 ++ p2) := h1 ▸ hok
      have hsm := sep_mid hokm.sp
      have hq : PsOk (q1 ++ p2) := h3.app hokm.right (by
        cases hl : lsAt q1 with
        | false => rfl
        | true => rw [h5 hl] at hsm; exact hsm)
      have hll : (ren q1).length + (ren p2).length ≤ 890000 := by omega
      refine run_retV (ev_op (ev_dat rfl) (EvV.cast (ev_slS (ev_dat rfl) (eo_some (ev_dat rfl)) eo_none (sz (by omega))) (by rw [hcut])) (o_addS (sz (by omega)))) ⟨q1 ++ p2, ⟨hq, by rw [toks_app, h4, h1, toks_app], by rw [ren_app, List.length_append]; exact hll⟩, by rw [ren_app]⟩⟩)
end
end Fk
/-! Reading: tokens of addresses are read as them. -/
namespace Fk
open PySem L2 Dl Mr PyProof.Rows
abbrev tkOf (w : Wd) : Tk := (w.sort, w.text)
theorem Reads.app {a b c : Rs} {ws vs : List Wd} (h : Reads a ws b) (g : Reads b vs c) : Reads a (ws ++ vs) c := by
  induction h with
  | nil => exact g
  | cons s _ ih => exact .cons s (ih g)
theorem LocL.ok {l : List Nat} (h : LocL l) : LocOk l := ⟨fun z => (okc_rng 10 (h.2 10 z)).2.2.2 rfl, h.1.1, h.1.2⟩
theorem HouseL.ok {l : List Nat} (h : HouseL l) : HouseOk l := by
  have hs := h.sign
  have hl := h.len
  obtain ⟨ps, rfl, h2, h3, h4⟩ := h
  have hsp : TL.spl [46] 0 [] (Mr.joinL [46] ps) = ps := by
    rw [← joinL_eq]
    exact SX.spl_join h2 fun p hp => (h4 p hp).dot
  refine ⟨fun z => ?_, by omega, by rw [hsp]; omega, by rw [hsp]; exact fun p hp => (h4 p hp).ok⟩
  rcases joinL_mem z with e | ⟨p, hp, e⟩
  · exact absurd e (by decide)
  · exact (h4 p hp).lf e
theorem phrase_reads : ∀ (ws : List Wd) (rs : Rs), rs.stand = sPhrase → rs.phm = true → (∀ w ∈ ws, w.sort ≠ sMark) → rs.ph.length + ws.length ≤ 1000 → Reads rs ws { rs with ph := rs.ph ++ ws }
  | [], rs, _, _, _, _ => by
    have : ({ rs with ph := rs.ph ++ [] } : Rs) = rs := by rw [List.append_nil]
    rw [this]
    exact .nil
  | w :: r, rs, h1, h2, h3, h4 => by
    rw [List.length_cons] at h4
    refine .cons (.pText h1 (h3 w (List.mem_cons_self ..)) h2 (by omega)) ?_
    have := phrase_reads r { rs with ph := rs.ph ++ [w] } h1 h2 (fun x hx => h3 x (List.mem_cons_of_mem _ hx)) (by show (rs.ph ++ [w]).length + _ ≤ _; rw [List.length_append]; simp; omega)
    have e : ({ rs with ph := rs.ph ++ [w] ++ r } : Rs) = { rs with ph := rs.ph ++ w :: r } := by rw [List.append_assoc] <;> rfl
    rw [← e]
    exact this
/-- behind an address for one -/
structure After (rs : Rs) (o : One) (rf : Rs) : Prop where
  stand : rf.stand = sBehind
  lead : rf.lead = rs.lead
  opened : rf.opened = false
  out : rs.lead = none → rf.lst = rs.lst ++ [.one o] ∧ rf.mem = rs.mem
  inn : rs.lead ≠ none → rf.lst = rs.lst ∧ rf.mem = rs.mem ++ [o] ∧ rf.mm = rs.mm
theorem doOne_after {rs r2 : Rs} {o : One} (h1 : r2.lead = rs.lead) (h2 : r2.lst = rs.lst) (h3 : r2.mem = rs.mem) (h4 : r2.mm = rs.mm) (h5 : phraseSaying r2.ph = o.say) (h6 : r2.loc = o.loc) (h7 : r2.hou = o.hou) : After rs o (doOne r2) := by
  have ho : (⟨phraseSaying r2.ph, r2.loc, r2.hou⟩ : One) = o := by rw [h5, h6, h7]
  obtain ⟨st, pm, ph, lo, ho2, an, le, mm, me, op, ls⟩ := r2
  simp only at h1 h2 h3 h4 ho
  subst h2 h3 h4 ho
  cases le with
  | none => exact ⟨rfl, h1, rfl, fun _ => ⟨rfl, rfl⟩, fun z => absurd h1.symm z⟩
  | some s => exact ⟨rfl, h1, rfl, fun z => (by rw [z] at h1; cases h1), fun _ => ⟨rfl, rfl, rfl⟩⟩
end Fk
/-! Reading: addresses' tokens are read as the addresses. -/
namespace Fk
open PySem L2 Dl Mr PyProof.Rows
/-- tokens that are read as an address for one -/
structure OneR (ts : List Tk) (o : One) : Prop where
  tk : ∃ s1 h, (s1 = sAtom ∨ s1 = sQuoted) ∧ h.map lo1 = o.hou ∧ (∀ c ∈ h, c < 128) ∧
    ((ts = [(s1, o.loc), mkT 64, (sAtom, h)] ∧ o.say = []) ∨ ∃ ph, (∀ t ∈ ph, isTx t) ∧ ph.length ≤ 400 ∧ ts = ph ++ [mkT 60, (s1, o.loc), mkT 64, (sAtom, h), mkT 62] ∧ o.say = sayT ph)
  loc : LocOk o.loc
  hou : HouseOk o.hou
def AdrR (ts : List Tk) : Adr → Prop
  | .one o => OneR ts o
  | .grp s ms => ∃ ph tss, (∀ t ∈ ph, isTx t) ∧ ph.length ≤ 400 ∧ ts = ph ++ mkT 58 :: (joinT tss ++ [mkT 59]) ∧ Fa2 OneR tss ms ∧ s = sayT ph ∧ s ≠ [] ∧ ms.length ≤ 3
theorem atom_128 : ∀ c ∈ l_ATOM_SIGNS, c < 128 := by decide +kernel
theorem OneT.r {ts : List Tk} {o : One} (h : OneT ts o) : OneR ts o := by
  obtain ⟨s1, x, h1, h2, h3, h4⟩ := h.tk
  refine ⟨⟨s1, x, h1, h2, fun c hc => atom_128 c (h3 c hc), ?_⟩, h.loc.ok, h.hou.ok⟩
  rcases h4 with h4 | ⟨ph, k1, k2, k3, k4⟩
  · exact .inl h4
  · exact .inr ⟨ph, fun t ht => (k1 t ht).tx, by omega, k3, k4⟩
theorem _root_.Dl.Fa2.mono' {α β : Type} {p q : α → β → Prop} (f : ∀ a b, p a b → q a b) {l : List α} {m : List β} (h : Fa2 p l m) : Fa2 q l m := by
  induction h with
  | nil => exact .nil
  | cons h _ ih => exact .cons (f _ _ h) ih
theorem AdrT.r {ts : List Tk} : ∀ {a : Adr}, AdrT ts a → AdrR ts a
  | .one _, h => OneT.r h
  | .grp _ _, ⟨ph, tss, h1, h2, h3, h4, h5, _, h7, h8⟩ => ⟨ph, tss, h1, by omega, h3, Dl.Fa2.mono' (fun _ _ => OneT.r) h4, h5, h7, h8⟩
theorem Reads.to {a b : Rs} {ws vs : List Wd} (h : Reads a ws b) (e : ws = vs) : Reads a vs b := e ▸ h
theorem map3 {ws : List Wd} {a b c : Tk} (h : ws.map tkOf = [a, b, c]) : ∃ l m g, ws = [l, m, g] ∧ tkOf l = a ∧ tkOf m = b ∧ tkOf g = c := by
  obtain ⟨l, r, rfl, h1, h⟩ := List.map_eq_cons_iff.mp h
  obtain ⟨m, r, rfl, h2, h⟩ := List.map_eq_cons_iff.mp h
  obtain ⟨g, r, rfl, h3, h⟩ := List.map_eq_cons_iff.mp h
  rw [List.map_eq_nil_iff.mp h]
  exact ⟨l, m, g, rfl, h1, h2, h3⟩
theorem mark_ne : sAtom ≠ sMark ∧ sQuoted ≠ sMark := by decide
theorem txt_ne {s : List Nat} (h : s = sAtom ∨ s = sQuoted) : s ≠ sMark := by
  rcases h with rfl | rfl
  · exact mark_ne.1
  · exact mark_ne.2
theorem wsOk_of {A : List Wd} (h : ∀ t ∈ A.map tkOf, isTx t) (hl : A.length ≤ 400) : WsOk A := ⟨hl, fun x hx => (h (tkOf x) (List.mem_map_of_mem hx)).2⟩
theorem wsTx {A : List Wd} (h : ∀ t ∈ A.map tkOf, isTx t) : ∀ w ∈ A, w.sort ≠ sMark := fun w hw => txt_ne (h (tkOf w) (List.mem_map_of_mem hw)).1
/-- from the angle on -/
theorem angle_reads {l m h g : Wd} {s1 x loc hou : List Nat} (rs : Rs) (hs : rs.stand = sLocal) (hr : Ready rs)
    (e1 : tkOf l = (s1, loc)) (e2 : tkOf m = mkT 64) (e3 : tkOf h = (sAtom, x)) (e4 : tkOf g = mkT 62) (h1 : s1 = sAtom ∨ s1 = sQuoted) (hx : x.map lo1 = hou) (h8 : ∀ c ∈ x, c < 128) (hl : LocOk loc) (hh : HouseOk hou) :
    ∃ rf, Reads rs [l, m, h, g] rf ∧ After rs ⟨phraseSaying rs.ph, loc, hou⟩ rf := by
  obtain ⟨a1, a2⟩ := Prod.mk.inj e1
  obtain ⟨b1, b2⟩ := Prod.mk.inj e2
  obtain ⟨c1, c2⟩ := Prod.mk.inj e3
  obtain ⟨d1, d2⟩ := Prod.mk.inj e4
  refine ⟨_, .cons (.lText hs (by rw [a1]; exact txt_ne h1)) (.cons (.aAt rfl b1 b2 (by show LocOk l.text; rw [a2]; exact hl)) (.cons (.hAng rfl c1 (by rw [c2]; exact h8) (by rw [c2, hx]; exact hh) rfl) (.cons (.gOne rfl d1 d2 hr) .nil))), ?_⟩
  exact doOne_after rfl rfl rfl rfl rfl a2 (by show h.text.map lo1 = hou; rw [c2, hx])
/-- an address for one -/
theorem one_reads {ws : List Wd} {o : One} (h : OneR (ws.map tkOf) o) (rs : Rs) (hs : rs.stand = sBegin) (hl : rs.lst.length ≤ 1000) (hm : rs.mem.length ≤ 1000) (hmm : rs.lead ≠ none → rs.mm = true) : ∃ rf, Reads rs ws rf ∧ After rs o rf := by
  obtain ⟨s1, x, h1, h2, h3, h4⟩ := h.tk
  rcases h4 with ⟨e, hsay⟩ | ⟨ph, k1, k2, e, hsay⟩
  · obtain ⟨l, m, g, rfl, e1, e2, e3⟩ := map3 e
    · obtain ⟨a1, a2⟩ := Prod.mk.inj e1
      obtain ⟨b1, b2⟩ := Prod.mk.inj e2
      obtain ⟨c1, c2⟩ := Prod.mk.inj e3
      refine ⟨_, .cons (.bText hs (by rw [a1]; exact txt_ne h1)) (.cons (.pAt rfl b1 b2 rfl (by rw [a2]; exact h.loc)) (.cons (.hOne rfl c1 (by rw [c2]; exact h3) (by rw [c2, h2]; exact h.hou) rfl ⟨⟨Nat.zero_le _, fun _ z => (by cases z)⟩, hl, hm, hmm⟩) .nil)), ?_⟩
      exact doOne_after rfl rfl rfl rfl (by rw [hsay]; rfl) a2 (by show g.text.map lo1 = o.hou; rw [c2, h2])
  · obtain ⟨A, B, rfl, e2, e3⟩ := List.map_eq_append_iff.mp e
    subst e2
    obtain ⟨p, B, rfl, e0, e3⟩ := List.map_eq_cons_iff.mp e3
    obtain ⟨l, B, rfl, e1, e3⟩ := List.map_eq_cons_iff.mp e3
    obtain ⟨m, g, q, rfl, e2, e3, e4⟩ := map3 e3
    · obtain ⟨p1, p2⟩ := Prod.mk.inj e0
      rw [List.length_map] at k2
      have hw := wsOk_of k1 k2
      have ht := wsTx k1
      have hsa : phraseSaying A = o.say := by rw [hsay]; exact sayT_words rfl
      have ho : ∀ s, s = o.say → (⟨s, o.loc, o.hou⟩ : One) = o := fun s e => by rw [e]
      cases A with
      | nil =>
        obtain ⟨rf, r1, r2⟩ := angle_reads (l := l) (m := m) (h := g) (g := q) { rs with phm := true, ph := [], stand := sLocal } rfl ⟨hw, hl, hm, hmm⟩ e1 e2 e3 e4 h1 h2 h3 h.loc h.hou
        rw [ho _ hsa] at r2
        exact ⟨rf, .cons (.bAngle hs p1 p2) r1, ⟨r2.stand, r2.lead, r2.opened, r2.out, r2.inn⟩⟩
      | cons a A =>
        have hp := phrase_reads A { rs with phm := true, ph := [a], stand := sPhrase } rfl rfl (fun w hw => ht w (List.mem_cons_of_mem _ hw)) (by rw [List.length_cons] at k2; show 1 + A.length ≤ 1000; omega)
        obtain ⟨rf, r1, r2⟩ := angle_reads (l := l) (m := m) (h := g) (g := q) { rs with phm := true, ph := a :: A, stand := sLocal } rfl ⟨hw, hl, hm, hmm⟩ e1 e2 e3 e4 h1 h2 h3 h.loc h.hou
        rw [ho _ hsa] at r2
        refine ⟨rf, .cons (.bText hs (ht a (List.mem_cons_self ..))) (hp.app (.cons (.pAngle rfl p1 p2) r1)), ⟨r2.stand, r2.lead, r2.opened, r2.out, r2.inn⟩⟩
/-- members, commas between them -/
theorem ones_reads : ∀ {tss : List (List Tk)} {ms : List One} (_ : Fa2 OneR tss ms) (ws : List Wd) (_ : ws.map tkOf = joinT tss) (rs : Rs) (_ : rs.stand = sBegin) (_ : ms ≠ []) (_ : rs.lst.length ≤ 1000) (_ : rs.mem.length + ms.length ≤ 1000) (_ : rs.lead ≠ none) (_ : rs.mm = true),
    ∃ rf, Reads rs ws rf ∧ rf.stand = sBehind ∧ rf.lead = rs.lead ∧ rf.lst = rs.lst ∧ rf.mem = rs.mem ++ ms
  | _, _, .nil, _, _, _, _, h, _, _, _, _ => absurd rfl h
  | _, _, .cons (a := ts) (b := o) h .nil, ws, e, rs, hs, _, hl, hm, hd, hmm => by
    simp only [List.length_cons] at hm
    have e' : ws.map tkOf = ts := e
    obtain ⟨rf, r1, r2⟩ := one_reads (ws := ws) (by rw [e']; exact h) rs hs hl (by omega) (fun _ => hmm)
    exact ⟨rf, r1, r2.stand, r2.lead, (r2.inn hd).1, (r2.inn hd).2.1⟩
  | _, _, .cons (a := ts) (b := o) h (.cons (a := t2) (b := o2) (l := tss) (m := ms) h2 r), ws, e, rs, hs, _, hl, hm, hd, hmm => by
    have e' : ws.map tkOf = ts ++ mkT 44 :: joinT (t2 :: tss) := e
    obtain ⟨A, B, rfl, e2, e3⟩ := List.map_eq_append_iff.mp e'
    obtain ⟨M, R, rfl, e5, e6⟩ := List.map_eq_cons_iff.mp e3
    obtain ⟨m1, m2⟩ := Prod.mk.inj e5
    simp only [List.length_cons] at hm
    obtain ⟨r1, q1, q2⟩ := one_reads (ws := A) (by rw [e2]; exact h) rs hs hl (by omega) (fun _ => hmm)
    obtain ⟨i1, i2, i3⟩ := q2.inn hd
    obtain ⟨rf, s1, s2, s3, s4, s5⟩ := ones_reads (Fa2.cons h2 r) R e6 { r1 with stand := sBegin, opened := false } rfl (List.cons_ne_nil _ _) (by show r1.lst.length ≤ _; rw [i1]; exact hl) (by show r1.mem.length + _ ≤ _; rw [i2, List.length_append]; simp; omega) (by show r1.lead ≠ none; rw [q2.lead]; exact hd) (by show r1.mm = true; rw [i3]; exact hmm)
    exact ⟨rf, q1.app (.cons (.eComma q2.stand m1 m2) s1), s2, by rw [s3]; exact q2.lead, by rw [s4]; exact i1, by rw [s5]; show r1.mem ++ _ = _; rw [i2, List.append_assoc] <;> rfl⟩
/-- an address -/
theorem adr_reads {ws : List Wd} {a : Adr} (h : AdrR (ws.map tkOf) a) (rs : Rs) (hs : rs.stand = sBegin) (hl : rs.lst.length ≤ 900) (hm : rs.mem.length ≤ 900) (hd : rs.lead = none) :
    ∃ rf, Reads rs ws rf ∧ rf.stand = sBehind ∧ rf.lead = none ∧ rf.lst = rs.lst ++ [a] ∧ rf.mem.length ≤ 900 := by
  cases a with
  | one o =>
    obtain ⟨rf, r1, r2⟩ := one_reads h rs hs (by omega) (by omega) (fun z => absurd hd z)
    exact ⟨rf, r1, r2.stand, by rw [r2.lead]; exact hd, (r2.out hd).1, by rw [(r2.out hd).2]; exact hm⟩
  | grp s ms =>
    obtain ⟨ph, tss, h1, h2, h3, h4, h5, h6, h7⟩ := h
    obtain ⟨A, B, rfl, e2, e3⟩ := List.map_eq_append_iff.mp h3
    subst e2
    obtain ⟨M, R, rfl, e5, e6⟩ := List.map_eq_cons_iff.mp e3
    obtain ⟨m1, m2⟩ := Prod.mk.inj e5
    obtain ⟨O, Z, rfl, e7, e8⟩ := List.map_eq_append_iff.mp e6
    obtain ⟨Z, N, rfl, ez, e9⟩ := List.map_eq_cons_iff.mp e8
    cases List.map_eq_nil_iff.mp e9
    obtain ⟨z1, z2⟩ := Prod.mk.inj ez
    rw [List.length_map] at h2
    have hw := wsOk_of h1 h2
    have ht := wsTx h1
    have hsa : phraseSaying A = s := by rw [h5]; exact sayT_words rfl
    cases A with
    | nil => exact absurd (by rw [← hsa]; rfl) h6
    | cons a A =>
      have hp := phrase_reads A { rs with phm := true, ph := [a], stand := sPhrase } rfl rfl (fun w hw => ht w (List.mem_cons_of_mem _ hw)) (by rw [List.length_cons] at h2; show 1 + A.length ≤ 1000; omega)
      have hc : Reads rs (a :: A ++ [M]) { rs with phm := false, ph := a :: A, lead := some s, mm := true, mem := [], opened := true, stand := sBegin } := by
        refine .cons (.bText hs (ht a (List.mem_cons_self ..))) (hp.app (.cons ?_ .nil))
        have := St.pColon (rs := { rs with phm := true, ph := a :: A, stand := sPhrase }) (w := M) rfl m1 m2 hd hw (by rw [hsa]; exact h6)
        rw [hsa] at this
        exact this
      cases h4 with
      | nil =>
        cases List.map_eq_nil_iff.mp e7
        refine ⟨_, (hc.app (.cons (.bGroup rfl z1 z2 rfl rfl (by show rs.lst.length ≤ 1000; omega)) .nil) : Reads rs (a :: A ++ [M] ++ [Z]) _).to (by simp only [List.append_assoc, List.cons_append, List.nil_append]), rfl, rfl, rfl, Nat.zero_le _⟩
      | cons k r =>
        obtain ⟨r1, q1, q2, q3, q4, q5⟩ := ones_reads (Fa2.cons k r) O e7 { rs with phm := false, ph := a :: A, lead := some s, mm := true, mem := [], opened := true, stand := sBegin } rfl (List.cons_ne_nil _ _) (by show rs.lst.length ≤ 1000; omega) (by simp only [List.length_cons, List.length_nil] at h7 ⊢; omega) (fun z => nomatch z) rfl
        refine ⟨_, ((hc.app q1).app (.cons (.eGroup (s := s) q2 z1 z2 q3 (by rw [q4]; show rs.lst.length ≤ 1000; omega)) .nil)).to (by simp only [List.append_assoc, List.cons_append, List.nil_append]), rfl, rfl, ?_, ?_⟩
        · show r1.lst ++ [.grp s r1.mem] = _
          rw [q4, q5]
          rfl
        · show r1.mem.length ≤ 900
          rw [q5]
          simp only [List.length_cons, List.nil_append] at h7 ⊢
          omega
/-- addresses, commas between them -/
theorem adrs_reads : ∀ {tss : List (List Tk)} {as : List Adr} (_ : Fa2 AdrR tss as) (ws : List Wd) (_ : ws.map tkOf = joinT tss) (rs : Rs) (_ : rs.stand = sBegin) (_ : as ≠ []) (_ : rs.lst.length + as.length ≤ 900) (_ : rs.mem.length ≤ 900) (_ : rs.lead = none),
    ∃ rf, Reads rs ws rf ∧ rf.stand = sBehind ∧ rf.lead = none ∧ rf.lst = rs.lst ++ as
  | _, _, .nil, _, _, _, _, h, _, _, _ => absurd rfl h
  | _, _, .cons (a := ts) (b := o) h .nil, ws, e, rs, hs, _, hl, hm, hd => by
    have e' : ws.map tkOf = ts := e
    simp only [List.length_cons] at hl
    obtain ⟨rf, r1, r2, r3, r4, _⟩ := adr_reads (ws := ws) (by rw [e']; exact h) rs hs (by omega) hm hd
    exact ⟨rf, r1, r2, r3, r4⟩
  | _, _, .cons (a := ts) (b := o) h (.cons (a := t2) (b := o2) (l := tss) (m := ms) h2 r), ws, e, rs, hs, _, hl, hm, hd => by
    have e' : ws.map tkOf = ts ++ mkT 44 :: joinT (t2 :: tss) := e
    obtain ⟨A, B, rfl, e2, e3⟩ := List.map_eq_append_iff.mp e'
    obtain ⟨M, R, rfl, e5, e6⟩ := List.map_eq_cons_iff.mp e3
    obtain ⟨m1, m2⟩ := Prod.mk.inj e5
    simp only [List.length_cons] at hl
    obtain ⟨r1, q1, q2, q3, q4, q5⟩ := adr_reads (ws := A) (by rw [e2]; exact h) rs hs (by omega) hm hd
    obtain ⟨rf, s1, s2, s3, s4⟩ := adrs_reads (Fa2.cons h2 r) R e6 { r1 with stand := sBegin, opened := false } rfl (List.cons_ne_nil _ _) (by show r1.lst.length + _ ≤ _; rw [q4, List.length_append]; simp; omega) q5 q3
    exact ⟨rf, q1.app (.cons (.eComma q2 m1 m2) s1), s2, s3, by rw [s4]; show r1.lst ++ _ = _; rw [q4, List.append_assoc] <;> rfl⟩
theorem tok_small {ps : List Pc} (h : PsOk ps) : ∀ t ∈ toks ps, (∀ c ∈ t.1, c < 1114112) ∧ ∀ c ∈ t.2, c < 1114112 := fun t ht => by
  obtain ⟨p, hp, e⟩ := List.mem_filterMap.mp ht
  have ho := h.ok p hp
  have ha : ∀ c ∈ sAtom, c < 1114112 := by decide
  have hq : ∀ c ∈ sQuoted, c < 1114112 := by decide
  have hm : ∀ c ∈ sMark, c < 1114112 := by decide
  have hk : ∀ c, okc c → c < 1114112 := fun c hc => by have := okc_rng c hc; omega
  cases p with
  | bl => cases e
  | rm r => cases e
  | mk c => cases e; exact ⟨hm, fun x hx => by rw [List.mem_singleton.mp hx]; exact hk c (signs_okc.2.2.2.2.2.2 c ho)⟩
  | at_ x => cases e; exact ⟨ha, fun c hc => hk c (atom_okc c (ho.2 c hc))⟩
  | qu x => cases e; exact ⟨hq, fun c hc => hk c (ho c hc)⟩
theorem OneR.len {ts : List Tk} {o : One} (h : OneR ts o) : ∀ t ∈ ts, t.2.length ≤ 1000 := fun t ht => by
  obtain ⟨s1, x, h1, h2, h3, h4⟩ := h.tk
  have hl := h.loc.2.2
  have hx : x.length ≤ 1000 := by have := congrArg List.length h2; rw [List.length_map] at this; rw [this]; exact h.hou.2.1
  rcases h4 with ⟨rfl, _⟩ | ⟨ph, k1, k2, rfl, _⟩
  · simp only [List.mem_cons, List.not_mem_nil, or_false] at ht
    rcases ht with rfl | rfl | rfl
    · show o.loc.length ≤ 1000; omega
    · show 1 ≤ 1000; omega
    · exact hx
  · rcases List.mem_append.mp ht with ht | ht
    · have := (k1 t ht).2.1; omega
    simp only [List.mem_cons, List.not_mem_nil, or_false] at ht
    rcases ht with rfl | rfl | rfl | rfl | rfl
    · show 1 ≤ 1000; omega
    · show o.loc.length ≤ 1000; omega
    · show 1 ≤ 1000; omega
    · exact hx
    · show 1 ≤ 1000; omega
theorem joinT_all {p : Tk → Prop} (hk : p (mkT 44)) : ∀ {tss : List (List Tk)}, (∀ ts ∈ tss, ∀ t ∈ ts, p t) → ∀ t ∈ joinT tss, p t
  | [], _, _, h => by cases h
  | [a], h, t, ht => h a (List.mem_singleton.mpr rfl) t ht
  | a :: b :: r, h, t, ht => by
    rcases List.mem_append.mp ht with e | e
    · exact h a (List.mem_cons_self ..) t e
    · rcases List.mem_cons.mp e with e | e
      · rw [e]; exact hk
      · exact joinT_all hk (tss := b :: r) (fun ts hts => h ts (List.mem_cons_of_mem _ hts)) t e
theorem Fa2.left {α β : Type} {p : α → β → Prop} {q : α → Prop} (f : ∀ a b, p a b → q a) {l : List α} {m : List β} (h : Fa2 p l m) : ∀ a ∈ l, q a := by
  induction h with
  | nil => exact fun _ h => (by cases h)
  | cons h _ ih =>
    intro a ha
    rcases List.mem_cons.mp ha with e | e
    · rw [e]; exact f _ _ h
    · exact ih a e
theorem AdrR.len {ts : List Tk} {a : Adr} (h : AdrR ts a) : ∀ t ∈ ts, t.2.length ≤ 1000 := by
  cases a with
  | one o => exact OneR.len h
  | grp s ms =>
    obtain ⟨ph, tss, h1, h2, rfl, h4, h5, h6, h7⟩ := h
    intro t ht
    rcases List.mem_append.mp ht with e | e
    · have := (h1 t e).2.1; omega
    · rcases List.mem_cons.mp e with e | e
      · rw [e]; show 1 ≤ 1000; omega
      · rcases List.mem_append.mp e with e | e
        · exact joinT_all (p := fun t => t.2.length ≤ 1000) (by show 1 ≤ 1000; omega) (Fa2.left (q := fun ts => ∀ t ∈ ts, t.2.length ≤ 1000) (fun _ _ h => OneR.len h) h4) t e
        · rw [List.mem_singleton.mp e]; show 1 ≤ 1000; omega
/-- pieces whose tokens are addresses are read as these -/
theorem pieces_read {ps : List Pc} {tss : List (List Tk)} {as : List Adr} (ho : PsOk ps) (h : toks ps = joinT tss) (hf : Fa2 AdrR tss as) (hn : as.length ≤ 900) (hl : (ren ps).length ≤ 900000) : ∃ rf, RaOk (ren ps) (wordsAt 0 ps) rf ∧ rf.lst = as := by
  have hw : ((wordsAt 0 ps).filter noRm).map tkOf = joinT tss := by rw [← h]; exact toks_words ps 0
  have hok : ∀ x ∈ (wordsAt 0 ps).filter noRm, WOk x := fun x hx => by
    have hm : tkOf x ∈ toks ps := by rw [h, ← hw]; exact List.mem_map_of_mem hx
    obtain ⟨h2, h3⟩ := tok_small ho (tkOf x) hm
    have h1 : x.text.length ≤ 1000 := joinT_all (p := fun t => t.2.length ≤ 1000) (by show 1 ≤ 1000; omega) (Fa2.left (q := fun ts => ∀ t ∈ ts, t.2.length ≤ 1000) (fun _ _ h => AdrR.len h) hf) (tkOf x) (by rw [← h]; exact hm)
    refine ⟨by omega, ?_⟩
    have e1 : (x.sort.all fun c => decide (c < 1114112)) = true := List.all_eq_true.mpr fun c hc => decide_eq_true (h2 c hc)
    have e2 : (x.text.all fun c => decide (c < 1114112)) = true := List.all_eq_true.mpr fun c hc => decide_eq_true (h3 c hc)
    show ([D.str x.sort, .str x.text, .int (x.b : Int), .int (x.e : Int)]).all (D.ok 0) = true
    simp only [List.all_cons, List.all_nil]
    show ((x.sort.all fun c => decide (c < 1114112)) && ((x.text.all fun c => decide (c < 1114112)) && (true && (true && true)))) = true
    rw [e1, e2] <;> rfl
  have h10 : 10 ∉ ren ps := fun z => (okc_rng 10 (ren_okc ho 10 z)).2.2.2 rfl
  cases hf with
  | nil => exact ⟨rs0, ⟨hl, lex_pcs ps 0 ho, h10, hok, by rw [List.map_eq_nil_iff.mp hw]; exact .nil, .inl (List.map_eq_nil_iff.mp hw)⟩, rfl⟩
  | cons k r =>
    obtain ⟨rf, r1, r2, r3, r4⟩ := adrs_reads (Fa2.cons k r) _ hw rs0 rfl (List.cons_ne_nil _ _) (by show 0 + _ ≤ 900; omega) (Nat.zero_le _) rfl
    exact ⟨rf, ⟨hl, lex_pcs ps 0 ho, h10, hok, r1, .inr (by unfold isDone; rw [r2, r3]; rfl)⟩, r4⟩
end Fk
/-! What is shown: pieces whose tokens are read as the addresses. -/
namespace Fk
open PySem L2 Dl Mr PyProof.Rows
/-- a saying's coded words: its signs, cut -/
theorem wordsGo_cut (c : Nat) (hc : isSort c) : ∀ (r gs : List Int), Rng gs → Rng r → gs ++ r ≠ [] → (gs.length ≤ 1 ∨ (codedWord (allOctets gs) c).length ≤ 60) →
    ∃ G : List (List Int), wordsGo c (allOctets gs) r = G.map (fun g => codedWord (allOctets g) c) ∧ G.flatten = gs ++ r ∧ ∀ g ∈ G, g ≠ [] ∧ Rng g ∧ (codedWord (allOctets g) c).length ≤ 90
  | [], gs, h1, _, hn, hl => by
    rw [List.append_nil] at hn
    refine ⟨[gs], rfl, by simp, fun g hg => ?_⟩
    rw [List.mem_singleton.mp hg]
    refine ⟨hn, h1, ?_⟩
    rcases hl with hl | hl
    · exact coded_len (by omega)
    · omega
  | s :: r, gs, h1, h2, hn, hl => by
    have hs : Rng [s] := fun n hn => by rw [List.mem_singleton.mp hn]; exact h2 s (List.mem_cons_self ..)
    have hr : Rng r := fun n hn => h2 n (List.mem_cons_of_mem _ hn)
    have e1 : allOctets [s] = signOctets s := by show signOctets s ++ [] = _; rw [List.append_nil]
    have e2 : allOctets (gs ++ [s]) = allOctets gs ++ signOctets s := by
      unfold allOctets
      rw [List.flatMap_append]
      show _ ++ (signOctets s ++ []) = _
      rw [List.append_nil]
    simp only [wordsGo]
    split
    · next hc1 =>
      obtain ⟨G, g1, g2, g3⟩ := wordsGo_cut c hc r [s] hs hr (fun z => nomatch z) (.inl (Nat.le_refl _))
      rw [e1] at g1
      have hgn : gs ≠ [] := fun z => hc1.1 (by rw [z]; rfl)
      refine ⟨gs :: G, by rw [g1] <;> rfl, by rw [List.flatten_cons, g2] <;> rfl, fun g hg => ?_⟩
      rcases List.mem_cons.mp hg with e | e
      · rw [e]
        refine ⟨hgn, h1, ?_⟩
        rcases hl with hl | hl
        · exact coded_len (by omega)
        · omega
      · exact g3 g e
    · next hc1 =>
      have h3 : Rng (gs ++ [s]) := fun n hn => (List.mem_append.mp hn).elim (h1 n) (hs n)
      obtain ⟨G, g1, g2, g3⟩ := wordsGo_cut c hc r (gs ++ [s]) h3 hr (by simp) (by
        by_cases hg : gs = []
        · rw [hg]; exact .inl (Nat.le_refl _)
        · right
          rw [e2]
          have : ¬ (codedWord (allOctets gs ++ signOctets s) c).length > 60 := fun z => hc1 ⟨fun e => hg (by
            cases gs with
            | nil => rfl
            | cons n t =>
              have := signOctets_pos n
              have h4 := (List.append_eq_nil_iff.mp (show signOctets n ++ allOctets t = [] from e)).1
              rw [h4] at this
              cases this), z⟩
          omega)
      rw [e2] at g1
      exact ⟨G, g1, by rw [g2, List.append_assoc] <;> rfl, g3⟩
theorem coded_phrase {c : Nat} (hc : isSort c) : ∀ (G : List (List Int)) (f b : Bool), (f = true ∨ b = true) → (∀ g ∈ G, g ≠ [] ∧ Rng g) → phraseGo f b ((G.map (fun g => ((sAtom, codedWord (allOctets g) c) : Tk))).map Tk.wd) = G.flatten
  | [], _, _, _, _ => rfl
  | g :: G, f, b, h, hg => by
    obtain ⟨h1, h2⟩ := hg g (List.mem_cons_self ..)
    have hs : sayOf (Tk.wd (sAtom, codedWord (allOctets g) c)) = some g := by
      unfold sayOf
      rw [if_pos (show (Tk.wd (sAtom, codedWord (allOctets g) c)).sort = sAtom from rfl)]
      exact coded_said h1 h2 hc
    rw [List.map_cons, List.map_cons, phraseGo_cons, hs, if_neg]
    · show [] ++ g ++ phraseGo false true _ = _
      rw [coded_phrase hc G false true (.inr rfl) (fun x hx => hg x (List.mem_cons_of_mem _ hx)), List.flatten_cons]
      rfl
    · rintro ⟨z1, z2⟩
      rcases h with h | h
      · rw [h] at z1; cases z1
      · exact z2 ⟨h, rfl⟩
/-- atoms with blanks between -/
def phP : List (List Nat) → List Pc
  | [] => []
  | [x] => [.at_ x]
  | x :: y :: r => .at_ x :: .bl :: phP (y :: r)
theorem phP_ren : ∀ ws : List (List Nat), ren (phP ws) = Mr.joinL [32] ws
  | [] => rfl
  | [x] => by show x ++ [] = x; rw [List.append_nil]
  | x :: y :: r => by
    show x ++ (32 :: ren (phP (y :: r))) = x ++ ([32] ++ Mr.joinL [32] (y :: r))
    rw [phP_ren (y :: r)]
    rfl
theorem phP_toks : ∀ ws : List (List Nat), toks (phP ws) = ws.map fun x => (sAtom, x)
  | [] => rfl
  | [x] => rfl
  | x :: y :: r => by
    show (sAtom, x) :: toks (phP (y :: r)) = _
    rw [phP_toks (y :: r)]
    rfl
theorem phP_ok : ∀ ws : List (List Nat), (∀ x ∈ ws, x ≠ [] ∧ ∀ c ∈ x, c ∈ l_ATOM_SIGNS) → PsOk (phP ws)
  | [], _ => PsOk.nil
  | [x], h => PsOk.one (p := .at_ x) (h x (List.mem_singleton.mpr rfl))
  | x :: y :: r, h => (PsOk.one (p := .at_ x) (h x (List.mem_cons_self ..))).app ((PsOk.one (p := .bl) trivial).app (phP_ok (y :: r) fun z hz => h z (List.mem_cons_of_mem _ hz)) rfl) (by show (true && false) = false; rfl)
theorem sign_okc : ∀ k : Nat, k < 127 → 32 ≤ k → k ≠ 37 → okc k := by decide +kernel
theorem flat_len {G : List (List Int)} (h : ∀ g ∈ G, g ≠ []) : G.length ≤ G.flatten.length := by
  induction G with
  | nil => exact Nat.le_refl _
  | cons g r ih =>
    have h1 := h g (List.mem_cons_self ..)
    have h2 := ih fun x hx => h x (List.mem_cons_of_mem _ hx)
    rw [List.flatten_cons, List.length_append, List.length_cons]
    cases g with
    | nil => exact absurd rfl h1
    | cons a t => rw [List.length_cons]; omega
theorem plain_uncoded {t : List Nat} (h : inL [61, 63] t = false) : wordSaying t = none := by
  cases hw : wordSaying t with
  | none => rfl
  | some s =>
    unfold wordSaying at hw
    split at hw
    · next hc =>
      have h1 := hc.2.2
      rw [h1] at h
      cases h
    · cases hw
/-- a phrase's pieces -/
structure PhrP (ps : List Pc) (s : List Int) : Prop where
  ren_ : ren ps = phraseOf s
  ok : PsOk ps
  tx : ∀ t ∈ toks ps, isTx t
  n : (toks ps).length ≤ 400
  say : sayT (toks ps) = s
theorem phrase_shown {s : List Int} (h : SayOk s) : ∃ ps, PhrP ps s := by
  cases hp : plainOf s with
  | none =>
    have hn : s ≠ [] := fun z => by rw [z] at hp; cases hp
    have key : ∀ c, isSort c → phraseOf s = wordsBy s c → ∃ ps, PhrP ps s := fun c hc he => by
      obtain ⟨G, g1, g2, g3⟩ := wordsGo_cut c hc s [] (fun _ h => (by cases h)) h.2 hn (.inl (Nat.zero_le _))
      have g1' : wordsGo c [] s = G.map (fun g => codedWord (allOctets g) c) := g1
      have ht : toks (phP (G.map fun g => codedWord (allOctets g) c)) = G.map (fun g => ((sAtom, codedWord (allOctets g) c) : Tk)) := by rw [phP_toks, List.map_map] <;> rfl
      refine ⟨phP (G.map fun g => codedWord (allOctets g) c), ?_, phP_ok _ fun x hx => ?_, fun t hts => ?_, ?_, ?_⟩
      · rw [phP_ren, he]
        unfold wordsBy
        rw [g1']
      · obtain ⟨g, hg, rfl⟩ := List.mem_map.mp hx
        obtain ⟨k1, k2, k3⟩ := g3 g hg
        exact ⟨by rw [coded_form]; exact (fun z => nomatch z), coded_atom k2.byt hc⟩
      · rw [ht] at hts
        obtain ⟨g, hg, rfl⟩ := List.mem_map.mp hts
        obtain ⟨k1, k2, k3⟩ := g3 g hg
        exact ⟨.inl rfl, by show (codedWord _ _).length ≤ 500; omega, fun x hx => atom_okc x (coded_atom k2.byt hc x hx)⟩
      · rw [ht, List.length_map]
        have h4 := flat_len fun g hg => (g3 g hg).1
        have h5 := h.1
        rw [g2] at h4
        simp only [List.nil_append] at h4
        omega
      · rw [ht]
        show phraseGo true true _ = s
        rw [coded_phrase hc G true true (.inl rfl) fun g hg => ⟨(g3 g hg).1, (g3 g hg).2.1⟩, g2]
        rfl
    have he : phraseOf s = codedIn s := by unfold phraseOf; rw [hp]
    have he2 : codedIn s = if (wordsBy s 109).length ≤ (wordsBy s 115).length then wordsBy s 109 else wordsBy s 115 := by unfold codedIn; rw [hp]
    rw [he2] at he
    by_cases hc : (wordsBy s 109).length ≤ (wordsBy s 115).length
    · rw [if_pos hc] at he
      exact key 109 (.inr rfl) he
    · rw [if_neg hc] at he
      exact key 115 (.inl rfl) he
  | some t =>
    obtain ⟨p1, p2, p3, p4⟩ := plainOf_some hp
    have he : phraseOf s = quotedIn t := by unfold phraseOf; rw [hp]
    have hok : ∀ c ∈ t, okc c := fun c hc => by
      rw [p2] at hc
      obtain ⟨n, hn, rfl⟩ := List.mem_map.mp hc
      have := p1 n hn
      unfold isSign at this
      simp only [Bool.and_eq_true, decide_eq_true_eq, Bool.not_eq_true', decide_eq_false_iff_not] at this
      exact sign_okc _ (by omega) (by omega) (by omega)
    have hnum : numbersOf t = s := by
      rw [p2]
      have : ∀ l : List Int, (∀ n ∈ l, isSign n = true) → numbersOf (l.map (·.toNat)) = l := fun l => by
        induction l with
        | nil => exact fun _ => rfl
        | cons n r ih =>
          intro hl
          have h1 := hl n (List.mem_cons_self ..)
          unfold isSign at h1
          simp only [Bool.and_eq_true, decide_eq_true_eq] at h1
          show ((n.toNat : Nat) : Int) :: numbersOf (r.map (·.toNat)) = _
          rw [ih fun x hx => hl x (List.mem_cons_of_mem _ hx)]
          congr 1
          omega
      exact this s p1
    have htl : t.length ≤ 200 := by rw [p2, List.length_map]; exact h.1
    by_cases ha : isAtom t = true
    · have ha2 := ha
      unfold isAtom at ha
      rw [Bool.and_eq_true, List.all_eq_true] at ha
      refine ⟨[.at_ t], ?_, PsOk.one (p := .at_ t) ⟨by simpa using ha.1, fun c hc => of_decide_eq_true (ha.2 c hc)⟩, fun x hx => ?_, Nat.le_of_ble_eq_true rfl, ?_⟩
      · rw [he]
        unfold quotedIn
        rw [if_pos ha2]
        show t ++ [] = t
        rw [List.append_nil]
      · rw [List.mem_singleton.mp (show x ∈ [(sAtom, t)] from hx)]
        exact ⟨.inl rfl, by show t.length ≤ 500; omega, hok⟩
      · show phraseGo true true [Tk.wd (sAtom, t)] = s
        rw [phraseGo_cons, if_neg (fun z => Bool.noConfusion z.1)]
        unfold sayOf
        rw [if_pos (show (Tk.wd (sAtom, t)).sort = sAtom from rfl)]
        show [] ++ ((wordSaying t).getD (numbersOf t)) ++ [] = s
        rw [plain_uncoded p4, List.append_nil]
        exact hnum
    · refine ⟨[.qu t], ?_, PsOk.one (p := .qu t) hok, fun x hx => ?_, Nat.le_of_ble_eq_true rfl, ?_⟩
      · rw [he]
        unfold quotedIn
        rw [if_neg ha]
        show (34 :: escQ t ++ [34]) ++ [] = _
        rw [List.append_nil]
      · rw [List.mem_singleton.mp (show x ∈ [(sQuoted, t)] from hx)]
        exact ⟨.inr rfl, by show t.length ≤ 500; omega, hok⟩
      · show phraseGo true true [Tk.wd (sQuoted, t)] = s
        rw [phraseGo_cons, if_neg (fun z => Bool.noConfusion z.1)]
        unfold sayOf
        rw [if_neg (by show ¬ sQuoted = sAtom; decide)]
        show [] ++ (numbersOf t) ++ [] = s
        rw [List.append_nil]
        exact hnum
/-- a spec's pieces -/
theorem spec_shown {o : One} (h1 : LocL o.loc) (h2 : HouseL o.hou) : ∃ ps s1, (s1 = sAtom ∨ s1 = sQuoted) ∧ ren ps = specOf o ∧ PsOk ps ∧ toks ps = [(s1, o.loc), mkT 64, (sAtom, o.hou)] := by
  have hq : ∃ pc s1, (s1 = sAtom ∨ s1 = sQuoted) ∧ Pc.ok pc ∧ pc.tok = some (s1, o.loc) ∧ pc.str = quotedIn o.loc := by
    unfold quotedIn
    by_cases ha : isAtom o.loc = true
    · rw [if_pos ha]
      unfold isAtom at ha
      rw [Bool.and_eq_true, List.all_eq_true] at ha
      exact ⟨.at_ o.loc, sAtom, .inl rfl, ⟨by simpa using ha.1, fun c hc => of_decide_eq_true (ha.2 c hc)⟩, rfl, rfl⟩
    · rw [if_neg ha]
      exact ⟨.qu o.loc, sQuoted, .inr rfl, h1.2, rfl, rfl⟩
  obtain ⟨pc, s1, k1, k2, k3, k4⟩ := hq
  have hl := h2.len
  have hh : Pc.ok (.at_ o.hou) := ⟨fun z => by rw [z] at hl; exact absurd hl.1 (by decide), fun c hc => (h2.sign c hc).2.2.1⟩
  refine ⟨[pc] ++ ([.mk 64] ++ [.at_ o.hou]), s1, k1, ?_, (PsOk.one k2).app ((PsOk.one (p := .mk 64) (show (64 : Nat) ∈ l_MARKS by decide)).app (PsOk.one hh) rfl) (by show (lsAt [pc] && false) = false; rw [Bool.and_false]), ?_⟩
  · show pc.str ++ ([64] ++ (o.hou ++ [])) = _
    rw [k4, List.append_nil]
    unfold specOf
    rw [List.append_assoc]
  · show List.filterMap Pc.tok (pc :: [.mk 64, .at_ o.hou]) = _
    rw [List.filterMap_cons_some k3]
    rfl
/-- what is needed of an address for one -/
structure OneG (o : One) : Prop where
  say : SayOk o.say
  loc : LocL o.loc
  hou : HouseL o.hou
theorem OneG.ok {o : One} (h : OneG o) : OneOk o := ⟨h.say, h.loc.ok, h.hou.ok⟩
theorem house_low {l : List Nat} (h : HouseL l) : l.map lo1 = l := by
  have h1 := h.sign
  clear h
  induction l with
  | nil => rfl
  | cons c r ih =>
    rw [List.map_cons, (h1 c (List.mem_cons_self ..)).2.2.2.2, ih fun x hx => h1 x (List.mem_cons_of_mem _ hx)]
theorem mk_in : (64 : Nat) ∈ l_MARKS ∧ (60 : Nat) ∈ l_MARKS ∧ (62 : Nat) ∈ l_MARKS ∧ (58 : Nat) ∈ l_MARKS ∧ (59 : Nat) ∈ l_MARKS ∧ (44 : Nat) ∈ l_MARKS := by decide
theorem one_shown {o : One} (h : OneG o) : ∃ ps, ren ps = showOne o ∧ PsOk ps ∧ OneR (toks ps) o := by
  obtain ⟨sp, s1, k1, k2, k3, k4⟩ := spec_shown h.loc h.hou
  have hlow := house_low h.hou
  have h128 : ∀ c ∈ o.hou, c < 128 := fun c hc => (h.hou.sign c hc).2.2.2.1
  unfold showOne
  by_cases he : o.say = []
  · rw [if_pos he]
    exact ⟨sp, k2, k3, ⟨s1, o.hou, k1, hlow, h128, .inl ⟨k4, he⟩⟩, h.loc.ok, h.hou.ok⟩
  · rw [if_neg he]
    obtain ⟨ph, p⟩ := phrase_shown h.say
    have hok : PsOk (ph ++ ([.bl] ++ ([.mk 60] ++ (sp ++ [.mk 62])))) := p.ok.app ((PsOk.one (p := .bl) trivial).app ((PsOk.one (p := .mk 60) mk_in.2.1).app (okMkR mk_in.2.2.1 k3) rfl) rfl) (by show (lsAt ph && false) = false; rw [Bool.and_false])
    refine ⟨_, ?_, hok, ⟨s1, o.hou, k1, hlow, h128, .inr ⟨toks ph, p.tx, p.n, ?_, p.say.symm⟩⟩, h.loc.ok, h.hou.ok⟩
    · rw [ren_app, p.ren_]
      show phraseOf o.say ++ (32 :: 60 :: ren (sp ++ [.mk 62])) = _
      rw [ren_app, k2]
      show phraseOf o.say ++ (32 :: 60 :: (specOf o ++ [62])) = _
      simp
    · rw [toks_app]
      show toks ph ++ (mkT 60 :: toks (sp ++ [.mk 62])) = _
      rw [toks_app, k4]
      rfl
/-- a comma and a blank between -/
theorem joinT_shown : ∀ pss : List (List Pc), ∃ q, ren q = Mr.joinL [44, 32] (pss.map ren) ∧ toks q = joinT (pss.map toks) ∧ ((∀ ps ∈ pss, PsOk ps) → PsOk q)
  | [] => ⟨[], rfl, rfl, fun _ => PsOk.nil⟩
  | [a] => ⟨a, rfl, rfl, fun h => h a (List.mem_singleton.mpr rfl)⟩
  | a :: b :: r => by
    obtain ⟨q, h1, h2, h3⟩ := joinT_shown (b :: r)
    refine ⟨a ++ (.mk 44 :: .bl :: q), ?_, ?_, fun h => ?_⟩
    · rw [ren_app, ren_cons, ren_cons, h1]
      rfl
    · rw [toks_app]
      show toks a ++ mkT 44 :: toks q = _
      rw [h2]
      rfl
    · exact (h a (List.mem_cons_self ..)).app (okMk (by decide) ((PsOk.one (p := .bl) trivial).app (h3 fun p hp => h p (List.mem_cons_of_mem _ hp)) rfl)) (by show (lsAt a && false) = false; rw [Bool.and_false])
theorem all_shown {α : Type} {g : α → List Nat} {q : List Tk → α → Prop} : ∀ {l : List α}, (∀ a ∈ l, ∃ ps, ren ps = g a ∧ PsOk ps ∧ q (toks ps) a) → ∃ pss : List (List Pc), pss.map ren = l.map g ∧ (∀ ps ∈ pss, PsOk ps) ∧ Fa2 q (pss.map toks) l
  | [], _ => ⟨[], rfl, fun _ h => (by cases h), .nil⟩
  | a :: r, h => by
    obtain ⟨ps, h1, h2, h3⟩ := h a (List.mem_cons_self ..)
    obtain ⟨pss, k1, k2, k3⟩ := all_shown (l := r) fun x hx => h x (List.mem_cons_of_mem _ hx)
    refine ⟨ps :: pss, by rw [List.map_cons, List.map_cons, h1, k1], fun x hx => ?_, .cons h3 k3⟩
    rcases List.mem_cons.mp hx with e | e
    · rw [e]; exact h2
    · exact k2 x e
def AdrG : Adr → Prop
  | .one o => OneG o
  | .grp s ms => SayOk s ∧ s ≠ [] ∧ ms.length ≤ 3 ∧ ∀ o ∈ ms, OneG o
theorem AdrG.ok : ∀ {a : Adr}, AdrG a → AdrOk a
  | .one _, h => OneG.ok h
  | .grp _ _, ⟨h1, h2, h3, h4⟩ => ⟨h1, h2, h3, fun o ho => (h4 o ho).ok⟩
theorem adr_shown {a : Adr} (h : AdrG a) : ∃ ps, ren ps = showAdr a ∧ PsOk ps ∧ AdrR (toks ps) a := by
  cases a with
  | one o => exact one_shown h
  | grp s ms =>
    obtain ⟨h1, h2, h3, h4⟩ := h
    obtain ⟨ph, p⟩ := phrase_shown h1
    obtain ⟨pss, e1, e2, e3⟩ := all_shown (g := showOne) (q := OneR) (l := ms) fun o ho => one_shown (h4 o ho)
    obtain ⟨q, q1, q2, q3⟩ := joinT_shown pss
    have hq := q3 e2
    rw [e1] at q1
    have q1' : ren q = showSome ms := q1
    have hg : ∃ g : List Pc, ren g = (if showSome ms = [] then [] else [32]) ∧ toks g = [] ∧ PsOk g ∧ lsAt g = false ∧ hdAt g = false := by
      by_cases hs : showSome ms = []
      · rw [if_pos hs]; exact ⟨[], rfl, rfl, PsOk.nil, rfl, rfl⟩
      · rw [if_neg hs]; exact ⟨[.bl], rfl, rfl, PsOk.one (p := .bl) trivial, rfl, rfl⟩
    obtain ⟨g, g1, g2, g3, g4, g5⟩ := hg
    refine ⟨ph ++ (.mk 58 :: (g ++ (q ++ [.mk 59]))), ?_, p.ok.app (okMk mk_in.2.2.2.1 (g3.app (okMkR mk_in.2.2.2.2.1 hq) (by rw [g4]; rfl))) (by show (lsAt ph && false) = false; rw [Bool.and_false]), toks ph, pss.map toks, p.tx, p.n, ?_, e3, p.say.symm, h2, h3⟩
    · rw [ren_app, p.ren_, ren_cons, ren_app, g1, ren_app, q1']
      show phraseOf s ++ ([58] ++ ((if showSome ms = [] then [] else [32]) ++ (showSome ms ++ [59]))) = _
      unfold showAdr
      simp only [List.append_assoc]
    · rw [toks_app]
      show toks ph ++ mkT 58 :: toks (g ++ (q ++ [.mk 59])) = _
      rw [toks_app, g2, toks_app, q2]
      rfl
/-- what is shown of addresses is read as these -/
theorem shown_read {as : List Adr} (hn : as.length ≤ 4) (h : ∀ a ∈ as, AdrG a) : ∃ ps rf, ren ps = showAll as ∧ RaOk (ren ps) (wordsAt 0 ps) rf ∧ rf.lst = as := by
  obtain ⟨pss, e1, e2, e3⟩ := all_shown (g := showAdr) (q := AdrR) (l := as) fun a ha => adr_shown (h a ha)
  obtain ⟨q, q1, q2, q3⟩ := joinT_shown pss
  rw [e1] at q1
  have q1' : ren q = showAll as := q1
  have hl := (showAll_len (as := as) ⟨hn, fun a ha => (h a ha).ok⟩).1
  obtain ⟨rf, r1, r2⟩ := pieces_read (q3 e2) q2 e3 (by omega) (by rw [q1']; omega)
  exact ⟨q, rf, q1', r1, r2⟩
/-- what the law builds -/
theorem OneT.g {ts : List Tk} {o : One} (h : OneT ts o) : OneG o := by
  refine ⟨?_, h.loc, h.hou⟩
  obtain ⟨s1, x, h1, h2, h3, h4⟩ := h.tk
  rcases h4 with ⟨_, e⟩ | ⟨ph, k1, k2, _, e⟩
  · rw [e]; exact ⟨Nat.zero_le _, fun _ h => by cases h⟩
  · rw [e]; exact sayT_ok k1 k2
theorem Fa2.right {α β : Type} {p : α → β → Prop} {q : β → Prop} (f : ∀ a b, p a b → q b) {l : List α} {m : List β} (h : Fa2 p l m) : ∀ b ∈ m, q b := by
  induction h with
  | nil => exact fun _ h => (by cases h)
  | cons h _ ih =>
    intro a ha
    rcases List.mem_cons.mp ha with e | e
    · rw [e]; exact f _ _ h
    · exact ih a e
theorem AdrT.g {ts : List Tk} : ∀ {a : Adr}, AdrT ts a → AdrG a
  | .one _, h => OneT.g h
  | .grp _ _, ⟨ph, tss, h1, h2, h3, h4, h5, h6, h7, h8⟩ => ⟨h6, h7, h8, Fa2.right (q := OneG) (fun _ _ h => OneT.g h) h4⟩
end Fk
/-! A value without its outer blanks; a head's lines. -/
namespace Fk
open PySem L2 Dl Mr PyProof.Rows
theorem pc_hd {p : Pc} (h : p.ok) (hb : p ≠ .bl) : ∃ c x, p.str = c :: x ∧ c ≠ 32 := by
  cases p with
  | bl => exact absurd rfl hb
  | mk c => exact ⟨c, [], rfl, (marks_ne c h).2.2⟩
  | at_ t =>
    obtain ⟨h1, h2⟩ := h
    cases t with
    | nil => exact absurd rfl h1
    | cons c r => exact ⟨c, r, rfl, (atom_not c (h2 c (List.mem_cons_self ..))).2.2.2⟩
  | qu t => exact ⟨34, escQ t ++ [34], rfl, by decide⟩
  | rm r => exact ⟨40, r ++ [41], rfl, by decide⟩
theorem snoc_of {α : Type} : ∀ l : List α, l ≠ [] → ∃ x c, l = x ++ [c]
  | [], h => absurd rfl h
  | [a], _ => ⟨[], a, rfl⟩
  | a :: b :: r, _ => by
    obtain ⟨x, c, e⟩ := snoc_of (b :: r) (fun z => nomatch z)
    exact ⟨a :: x, c, by rw [e] <;> rfl⟩
theorem pc_ls {p : Pc} (h : p.ok) (hb : p ≠ .bl) : ∃ x c, p.str = x ++ [c] ∧ c ≠ 32 := by
  cases p with
  | bl => exact absurd rfl hb
  | mk c => exact ⟨[], c, rfl, (marks_ne c h).2.2⟩
  | at_ t =>
    obtain ⟨h1, h2⟩ := h
    obtain ⟨x, c, rfl⟩ := snoc_of t h1
    exact ⟨x, c, rfl, (atom_not c (h2 c (List.mem_append_right _ (List.mem_singleton.mpr rfl)))).2.2.2⟩
  | qu t => exact ⟨34 :: escQ t, 34, rfl, by decide⟩
  | rm r => exact ⟨40 :: r, 41, rfl, by decide⟩
theorem lstrip_self {ps : List Pc} (h : PsOk ps) (hb : ps.head? ≠ some .bl) : lstripC 32 (ren ps) = ren ps := by
  cases ps with
  | nil => rfl
  | cons p r =>
    obtain ⟨c, x, e, hc⟩ := pc_hd (h.ok p (List.mem_cons_self ..)) (fun z => hb (by rw [z]; rfl))
    rw [ren_cons, e]
    show List.dropWhile (· == 32) (c :: (x ++ ren r)) = _
    rw [List.dropWhile_cons, if_neg (by simpa using hc)]
    rfl
theorem lstrip_pcs : ∀ ps : List Pc, PsOk ps → ∃ qs, lstripC 32 (ren ps) = ren qs ∧ PsOk qs ∧ toks qs = toks ps ∧ qs.head? ≠ some .bl
  | [], _ => ⟨[], rfl, PsOk.nil, rfl, fun z => nomatch z⟩
  | p :: r, h => by
    by_cases hb : p = .bl
    · subst hb
      obtain ⟨qs, h1, h2, h3, h4⟩ := lstrip_pcs r h.tail
      exact ⟨qs, h1, h2, h3, h4⟩
    · have hb2 : (p :: r).head? ≠ some .bl := fun z => hb (Option.some.inj z)
      exact ⟨p :: r, lstrip_self h hb2, h, rfl, hb2⟩
theorem rstrip_snoc (c : Nat) (l : List Nat) : rstripC c (l ++ [c]) = rstripC c l := by
  unfold rstripC
  rw [List.reverse_append]
  show (List.dropWhile (· == c) (c :: l.reverse)).reverse = _
  rw [List.dropWhile_cons, if_pos (by simp)]
theorem rstrip_ne {c d : Nat} (h : d ≠ c) (l : List Nat) : rstripC c (l ++ [d]) = l ++ [d] := by
  unfold rstripC
  rw [List.reverse_append]
  show (List.dropWhile (· == c) (d :: l.reverse)).reverse = _
  rw [List.dropWhile_cons, if_neg (by simpa using h), List.reverse_cons, List.reverse_reverse]
theorem rstrip_self {ps : List Pc} (h : PsOk ps) (hb : ∀ x, ps ≠ x ++ [.bl]) : rstripC 32 (ren ps) = ren ps := by
  by_cases hn : ps = []
  · rw [hn]; rfl
  · obtain ⟨x, p, rfl⟩ := snoc_of ps hn
    obtain ⟨y, c, e, hc⟩ := pc_ls (h.ok p (List.mem_append_right _ (List.mem_singleton.mpr rfl))) (fun z => hb x (by rw [z]))
    rw [ren_app]
    show rstripC 32 (ren x ++ (p.str ++ [])) = ren x ++ (p.str ++ [])
    rw [List.append_nil, e, ← List.append_assoc, rstrip_ne hc]
theorem rstrip_pcs : ∀ (n : Nat) (ps : List Pc), ps.length ≤ n → PsOk ps → ∃ qs bs, ps = qs ++ bs ∧ rstripC 32 (ren ps) = ren qs ∧ toks qs = toks ps ∧ ∀ x, qs ≠ x ++ [.bl]
  | 0, ps, hn, h => by
    have : ps = [] := List.eq_nil_of_length_eq_zero (by omega)
    subst this
    exact ⟨[], [], rfl, rfl, rfl, fun x z => by simp at z⟩
  | n + 1, ps, hn, h => by
    by_cases hb : ∃ x, ps = x ++ [.bl]
    · obtain ⟨x, rfl⟩ := hb
      rw [List.length_append] at hn
      obtain ⟨qs, bs, h1, h2, h3, h4⟩ := rstrip_pcs n x (by simp at hn; omega) h.left
      refine ⟨qs, bs ++ [.bl], by rw [h1, List.append_assoc], ?_, ?_, h4⟩
      · rw [ren_app, ← h2]
        exact rstrip_snoc 32 (ren x)
      · rw [h3, toks_app]
        show _ = toks x ++ []
        rw [List.append_nil]
    · have hb2 : ∀ x, ps ≠ x ++ [.bl] := fun x z => hb ⟨x, z⟩
      exact ⟨ps, [], by rw [List.append_nil], rstrip_self h hb2, rfl, hb2⟩
/-- the outer blanks left out -/
theorem strip_pcs {ps : List Pc} (h : PsOk ps) : ∃ qs, stripC 32 (ren ps) = ren qs ∧ PsOk qs ∧ toks qs = toks ps ∧ stripC 32 (ren qs) = ren qs := by
  obtain ⟨q1, a1, a2, a3, a4⟩ := lstrip_pcs ps h
  obtain ⟨qs, bs, b1, b2, b3, b4⟩ := rstrip_pcs q1.length q1 (Nat.le_refl _) a2
  have hq : PsOk qs := by rw [b1] at a2; exact a2.left
  have hh : qs.head? ≠ some .bl := by
    cases qs with
    | nil => exact fun z => nomatch z
    | cons q r => rw [b1] at a4; exact a4
  refine ⟨qs, ?_, hq, by rw [b3, a3], ?_⟩
  · unfold stripC
    rw [a1, b2]
  · unfold stripC
    rw [lstrip_self hq hh, rstrip_self hq b4]
theorem strip_len (l : List Nat) : (stripC 32 l).length ≤ l.length := by
  unfold stripC lstripC
  have h1 := rstripC_len 32 (l.dropWhile (· == 32))
  have h2 : (l.dropWhile (· == 32)).length ≤ l.length := (List.dropWhile_suffix _).length_le
  omega
theorem strip_head {v : List Nat} (h : stripC 32 v = v) : stripC 32 (if v = [] then [] else 32 :: v) = v := by
  by_cases hv : v = []
  · rw [if_pos hv, hv]; rfl
  · rw [if_neg hv]
    exact h
theorem head_lines {v : List Nat} {ps : List (List Nat)} (hp : HeadPs v ps) (hl : v.length ≤ 400000) (hc : ∀ c ∈ v, okc c) : HeadLines v ps := by
  have hr : ∀ c ∈ replyTo, c ≠ 10 ∧ c < 1114112 := by decide
  have hall : ∀ p ∈ ps, ∀ c ∈ p, c ≠ 10 ∧ c < 1114112 := fun p hpp c hcp => by
    have hm : c ∈ ps.flatten := List.mem_flatten.mpr ⟨p, hpp, hcp⟩
    rw [hp.fl] at hm
    rcases List.mem_append.mp hm with e | e
    · exact hr c e
    · rcases List.mem_cons.mp e with e | e
      · rw [e]; decide
      · split at e
        · cases e
        · rcases List.mem_cons.mp e with e | e
          · rw [e]; decide
          · have := okc_rng c (hc c e); omega
  exact ⟨hp, hl, fun p hpp hz => (hall p hpp 10 hz).1 rfl, fun p hpp c hcp => (hall p hpp c hcp).2⟩
theorem joinL_snoc (y : List Nat) : ∀ ps : List (List Nat), ps ≠ [] → Mr.joinL y ps ++ y = Mr.joinL y (ps ++ [[]])
  | [], h => absurd rfl h
  | [p], _ => by
    show p ++ y = p ++ (y ++ [])
    rw [List.append_nil]
  | p :: q :: r, _ => by
    show (p ++ (y ++ Mr.joinL y (q :: r))) ++ y = p ++ (y ++ Mr.joinL y (q :: r ++ [[]]))
    rw [← joinL_snoc y (q :: r) (fun z => nomatch z)]
    simp
theorem split_lines {ps : List (List Nat)} (hn : ps ≠ []) (h : ∀ p ∈ ps, 10 ∉ p) : TL.spl [10] 0 [] (Mr.joinL [10] ps ++ [10]) = ps ++ [[]] := by
  rw [joinL_snoc [10] ps hn, ← joinL_eq]
  refine SX.spl_join (by simp) fun p hp => ?_
  rcases List.mem_append.mp hp with e | e
  · exact h p e
  · rw [List.mem_singleton.mp e]
    exact fun z => nomatch z
theorem _root_.Dl.cut_toNeg {α : Type} (l : List α) (b : Nat) (hb : 0 < b) : cut l none (some (-(b : Int))) = l.take (l.length - b) := by
  unfold cut
  rw [HT.sIx_none, List.drop_zero, Nat.sub_zero]
  have e : HT.sIx l.length l.length (some (-(b : Int))) = l.length - b := by
    show (if -(b : Int) < 0 then (-(b : Int) + (l.length : Int)).toNat else min (-(b : Int)).toNat l.length) = _
    rw [if_pos (by omega)]
    omega
  rw [e]
theorem cut_last {ps : List (List Nat)} : cut ((ps ++ [[]]).map D.str) none (some (-1)) = ps.map D.str := by
  have := Dl.cut_toNeg ((ps ++ [[]]).map D.str) 1 (by decide)
  rw [show (-((1 : Nat) : Int)) = -1 from rfl] at this
  rw [this, List.length_map, List.length_append]
  show List.take (ps.length + 1 - 1) _ = _
  rw [Nat.add_sub_cancel, List.map_append, List.take_append_of_le_length (by simp), List.take_of_length_le (by simp)]
end Fk
/-! A new source in a slot: from there on it is the source, behind it is forgotten. -/
namespace Dl
open PySem PySem.Spec PyProof.Rows L2
section
variable {F : Addr → Prop} {G H G' H' G2 H2 : Hp} {σ : L2.St} {ρ : List Sl} {p : Addr}
theorem Cfg.opened (c : Cfg F No G H σ ρ) (g : Go No G H G' H') (hn : H p = none) (hs : SrcOk H' p) (hg : G' p = none) (i : Nat) : Cfg (fun q => F q ∨ q = p) (fun q => q = p) G' H' (σ.set i (some (.ref p))) (ρ.set i .src) := by
  have c' := c.go g
  refine ⟨c'.ext, fun q hq => ?_, fun q hq => ?_, by rw [List.length_set, List.length_set]; exact c.len, fun j o s h1 h2 => ?_, fun j k q a b h1 h2 h3 h4 => ?_⟩
  · rcases hq with hq | hq
    · exact c'.fr q hq
    · rw [hq]; exact ⟨hs.ne, hg⟩
  · rw [hq]; exact ⟨.inr rfl, hs⟩
  · by_cases e : i = j
    · subst e
      have hi : i < ρ.length := by
        have := (List.getElem?_eq_some_iff.mp h2).1
        simpa using this
      rw [List.getElem?_set_self hi] at h2
      rw [List.getElem?_set_self (by rw [c.len]; exact hi)] at h1
      cases h1; cases h2
      exact ⟨p, rfl, rfl⟩
    · rw [List.getElem?_set_ne e] at h1 h2
      have z := c'.at_ j o s h1 h2
      cases s with
      | no => trivial
      | dat d => exact z
      | own ds =>
        obtain ⟨q0, vs0, e0, z0, _⟩ := c.at_ j o _ h1 h2
        obtain ⟨q, vs, e1, z1, z2, z3, z4⟩ := z
        rw [e0] at e1
        cases e1
        exact ⟨q0, vs, e0, z1, z2, fun y => y.elim z3 (fun y => by rw [y, hn] at z0; cases z0), z4⟩
      | src =>
        obtain ⟨q, _, z⟩ := z
        exact z.elim
      | raw v P => exact z
  · have ne : ∀ {m : Nat} {l : List D}, (ρ.set i .src)[m]? = some (.own l) → i ≠ m ∧ ρ[m]? = some (.own l) := fun {m l} h => by
      by_cases e : i = m
      · subst e
        have hi : i < ρ.length := by
          have := (List.getElem?_eq_some_iff.mp h).1
          simpa using this
        rw [List.getElem?_set_self hi] at h
        cases h
      · rw [List.getElem?_set_ne e] at h
        exact ⟨e, h⟩
    obtain ⟨n1, h1⟩ := ne h1
    obtain ⟨n2, h2⟩ := ne h2
    rw [List.getElem?_set_ne n1] at h3
    rw [List.getElem?_set_ne n2] at h4
    exact c.dis j k q a b h1 h2 h3 h4
theorem Cfg.closed (c : Cfg (fun q => F q ∨ q = p) (fun q => q = p) G H σ ρ) (hns : ∀ k : Nat, ρ[k]? ≠ some .src) : Cfg F No G H σ ρ := by
  refine ⟨c.ext, fun q hq => c.fr q (.inl hq), fun q hq => hq.elim, c.len, fun j o s h1 h2 => ?_, c.dis⟩
  have z := c.at_ j o s h1 h2
  cases s with
  | no => trivial
  | dat d => exact z
  | own ds =>
    obtain ⟨q, vs, e, w1, w2, w3, w4⟩ := z
    exact ⟨q, vs, e, w1, w2, fun y => w3 (.inl y), w4⟩
  | src => exact absurd h2 (hns j)
  | raw v P => exact z
theorem GoS.closed (c : Cfg F No G H σ ρ) (g : Go No G H G' H') (hn : H p = none) (gs : GoS (fun q => F q ∨ q = p) (fun q => q = p) G' H' G2 H2) : GoS F No G H G2 H2 :=
  ⟨g.g.trans gs.g, gs.gh, fun q hq _ => by
    have hne := (c.fr q hq).1
    rw [gs.f q (.inl hq) (fun e => hne (by rw [e]; exact hn))]
    cases e : H q with
    | none => exact absurd e hne
    | some o => exact g.h q o (fun z => z) e, fun q hq => gs.nw q (.inl hq), fun q hq => hq.elim⟩
end
section
variable {ρ : List Sl} {te : TE} {i : Nat} {t2 : TS} {N N1 : List Sl → Prop} {R : D → Prop} {K : PySem.W.Frag} {S : Addr → Prop} {P : D → Prop}
/-- a name is given a new source -/
theorem run_newSrc (h : ∀ (F : Addr → Prop) (G H : Hp) (σ : L2.St), Cfg F No G H σ ρ → ∀ Q : VK, (∀ p G' H', Go No G H G' H' → H p = none → SrcOk H' p → G' p = none → Q (.ref p) H') → te σ H Q)
    (h2 : ∀ p : Addr, Run (fun q => q = p) t2 (ρ.set i .src) N1 R) (hN : ∀ ρ', N1 ρ' → ∃ ρ2, Le ρ' ρ2 ∧ (∀ k : Nat, ρ2[k]? ≠ some .src) ∧ N ρ2) : Run No (tSeq (tAsg te (gName i)) t2) ρ N R := fun F G H σ E c kn kr =>
  h F G H σ c _ fun p G1 H1 g hn hs hg => h2 p _ G1 H1 _ E (c.opened g hn hs hg i) (fun ρ' G2 H2 σ2 n gs c2 => by
    obtain ⟨ρ2, l, hns, n2⟩ := hN ρ' n
    exact kn ρ2 G2 H2 σ2 n2 (GoS.closed c g hn gs) ((c2.weak l).closed hns)) fun v d G2 H2 rd gs rr => kr v d G2 H2 rd (GoS.closed c g hn gs) rr
/-- all but the last line of a loosely told text -/
theorem ef_slSplit {tx : TE} {ta : TA} {tl th : TO} {Pl : List Nat → Prop} (h : EvD S tx ρ (fun d => ∃ l, Pl l ∧ d = .str l)) (h2 : ∀ l, Pl l → EvD S (tSl (rSlL K) (tBM K "str" rSplit (tC (.str (Sx l))) ta) tl th) ρ P) : EvD S (tSl (rSlL K) (tBM K "str" rSplit tx ta) tl th) ρ P := fun F G H σ c Q q => by
  refine h F G H σ c _ fun v d G1 H1 ⟨l, pl, ed⟩ g1 r1 => ?_
  subst ed
  cases r1
  exact h2 l pl F G1 H1 σ (c.go g1) Q fun u d G2 H2 pd g2 rr => q u d G2 H2 pd (g1.trans c.base g2) rr
end
/-- a run from a start -/
theorem run_end {F : Addr → Prop} {G H : Hp} {σ : L2.St} {ρ : List Sl} {ts : TS} {R : D → Prop} {E : Ends} (h : Run No ts ρ (fun _ => False) R) (c : Cfg F No G H σ ρ) (k : ∀ v d G' H', R d → Rp G' v d → E.rt v H') : ts E σ H := h F G H σ E c (fun _ _ _ _ z => z.elim) fun v d G' H' rd _ rr => k v d G' H' rd rr
/-- a def by its body, as it stands -/
theorem fn_raw {P : Program} {w : World} {K : PySem.W.Frag} {mg : PySem.Str → Option Value} {base : Heap} {x : PySem.Str} {st : Stmt} {Ns ps : List PySem.Str} {k : Nat} {sp : Sp} {f : Addr} {fd : FuncData} (F : FunD K x x (defArgs st) (defBody st) (defScope st) [] [] f fd) (Sc : FnScope Ns ps (defScope st)) (len : ∀ vs H Q E, sp vs H Q E → vs.length = ps.length)
    (body : ∀ (cdv : Value) (A : Around) (outer : List Env) (s : Shared) (H : Hp) (E : XK), Room k (Xof P w K mg base Ns x st f cdv A outer s H E).A → ∃ ts, PSs (Xof P w K mg base Ns x st f cdv A outer s H E) (defBody st) ts ∧ ∀ vs H' Q E', sp vs H' Q E' → ts { nx := fun _ H' => Q .non H', rt := Q } (start Ns vs) H') :
    FnOk P w K mg base C8.CX0 (k + 1) f fd ps sp := F.ok Sc len (fun cdv A outer s H vs Q E hr h => (body cdv A outer s H E hr).elim fun ts z => ⟨ts, z.1.nox, z.2 vs H Q E h⟩)
end Dl
namespace Fk
open PySem PySem.Spec PyProof.Rows L2 Dl Mr
local macro_rules | `(tactic| walk_at "ev") => `(tactic| first
  | (with_reducible apply ev_dat) <;> rfl
  | with_reducible apply ev_int
  | with_reducible apply ev_bl
  | with_reducible apply ev_non
  | walk_at "lit"
  | with_reducible apply ev_str
  | with_reducible apply eb_test
  | with_reducible apply eb_B
  | with_reducible apply ev_op
  | with_reducible apply o_add
  | with_reducible apply o_sub
  | with_reducible apply o_mul
  | with_reducible apply o_fdiv
  | with_reducible apply o_fdivW
  | with_reducible apply o_mod
  | with_reducible apply o_lt
  | with_reducible apply o_le
  | with_reducible apply o_gt
  | with_reducible apply o_ge
  | with_reducible apply o_eqI
  | with_reducible apply o_neI
  | with_reducible apply o_eqS
  | with_reducible apply o_neS
  | with_reducible apply o_neInts
  | with_reducible apply o_neNil
  | with_reducible apply o_eqNil
  | with_reducible apply o_eqInts
  | with_reducible apply o_addS
  | with_reducible apply o_in1
  | with_reducible apply o_ni1
  | with_reducible apply o_inS
  | with_reducible apply o_mulS
  | with_reducible apply ea_nil
  | with_reducible apply ea_cons
  | with_reducible apply ev_tup
  | with_reducible apply ev_lst
  | with_reducible apply eb_not
  | with_reducible apply eb_and
  | with_reducible apply eb_or
  | with_reducible apply ev_andV
  | with_reducible apply ev_orV
  | with_reducible apply ev_notV
  | with_reducible apply ev_chain
  | with_reducible apply ev_neg
  | with_reducible apply ev_slS
  | with_reducible apply ev_slL
  | with_reducible apply eo_none
  | with_reducible apply eo_some
  | with_reducible apply ev_cb
  | with_reducible apply cd_lenT
  | with_reducible apply cd_lenL
  | with_reducible apply cd_int
  | with_reducible apply cd_max
  | with_reducible apply cd_min
  | with_reducible apply ev_bm
  | with_reducible apply ev_bm0
  | with_reducible apply md_strip
  | with_reducible apply md_rstrip
  | with_reducible apply md_find
  | with_reducible apply md_index
  | with_reducible apply md_starts
  | with_reducible apply md_lower
  | with_reducible apply md_upper
  | with_reducible apply ei_str
  | with_reducible apply ei_list
  | with_reducible exact sz1 rfl
  | with_reducible exact Nat.le_of_ble_eq_true rfl
  | ((with_reducible apply cmulL) <;> decide)
  | ((with_reducible apply cmulR) <;> decide)
  | ((with_reducible apply cdiv) <;> decide)
  | ((with_reducible show (0 : Int) < _) <;> decide)
  | (with_reducible intro _hyp))

section
variable {P : Program} {w : World} {K : PySem.W.Frag} {mg : PySem.Str → Option Value} {base : Heap} {C : Addr}
theorem ok_intsN (n : Nat) (a : List Int) : D.ok (n + 1) (.lst (a.map .int)) = true := by
  show (a.map D.int).all (D.ok n) = true
  rw [List.all_eq_true]
  intro d hd
  obtain ⟨i, _, rfl⟩ := List.mem_map.mp hd
  cases n <;> rfl
theorem ok_strN (n : Nat) {s : List Nat} (h : ∀ c ∈ s, c < 1114112) : D.ok n (.str s) = true := by
  have h2 : (s.all fun c => decide (c < 1114112)) = true := List.all_eq_true.mpr fun c hc => decide_eq_true (h c hc)
  cases n with
  | zero => exact h2
  | succ n => exact h2
theorem okc_lt' {c : Nat} (h : okc c) : c < 1114112 := by have := okc_rng c h; omega
theorem sOne_lt : (∀ c ∈ sOne, c < 1114112) ∧ (∀ c ∈ sGroup, c < 1114112) ∧ ∀ c ∈ replyTo, c < 1114112 := by decide
theorem one_okD (n : Nat) {o : One} (h : OneG o) : D.ok (n + 2) o.d = true := by
  show ([D.str sOne, .lst (o.say.map .int), .str o.loc, .str o.hou]).all (D.ok (n + 1)) = true
  simp only [List.all_cons, List.all_nil]
  rw [ok_strN _ sOne_lt.1, ok_intsN, ok_strN _ (fun c hc => okc_lt' (h.loc.2 c hc)), ok_strN _ (fun c hc => by have := (h.hou.sign c hc).2.2.2.1; omega)]
  rfl
theorem adrs_okD {as : List Adr} (h : ∀ a ∈ as, AdrG a) : D.ok 5 (.lst (as.map Adr.d)) = true := by
  show (as.map Adr.d).all (D.ok 4) = true
  rw [List.all_eq_true]
  intro d hd
  obtain ⟨a, ha, rfl⟩ := List.mem_map.mp hd
  have hg := h a ha
  cases a with
  | one o => exact one_okD 2 hg
  | grp s ms =>
    obtain ⟨h1, h2, h3, h4⟩ := hg
    show ([D.str sGroup, .lst (s.map .int), .lst (ms.map One.d)]).all (D.ok 3) = true
    have hm : D.ok 3 (.lst (ms.map One.d)) = true := by
      show (ms.map One.d).all (D.ok 2) = true
      rw [List.all_eq_true]
      intro d hd
      obtain ⟨o, ho, rfl⟩ := List.mem_map.mp hd
      exact one_okD 0 (h4 o ho)
    simp only [List.all_cons, List.all_nil]
    rw [ok_strN _ sOne_lt.2.1, ok_intsN, hm]
    rfl
theorem head_okD {v : List Nat} (h : ∀ c ∈ v, okc c) : D.ok 2 (.lst [.tup [.str replyTo, .str v]]) = true := by
  show ([D.tup [.str replyTo, .str v]]).all (D.ok 1) = true
  simp only [List.all_cons, List.all_nil]
  show (([D.str replyTo, .str v]).all (D.ok 0) && true) = true
  simp only [List.all_cons, List.all_nil]
  rw [ok_strN _ sOne_lt.2.2, ok_strN _ (fun c hc => okc_lt' (h c hc))]
  rfl
def spLaw (K : PySem.W.Frag) : Sp := fun vs H Q _ => ∃ (a : Addr) (ns : List Int), vs = [.ref a] ∧ SqL K H a (ns.map V.int) ∧ ns.length ≤ 63 ∧ ∀ H', Q (.bl true) H'
abbrev N_law : List PySem.Str := ["_law_script", "_law_k", "_law_source_here", "_law_value", "_law_due", "_law_found", "_law_head", "_law_more"]
theorem sc_law : FnScope N_law ["_law_script"] (defScope s_law) := ⟨rfl, rfl, rfl, by decide +kernel, rfl, by decide +kernel, by decide +kernel⟩
local macro_rules | `(tactic| walk_at "lit") => `(tactic| first
  | with_reducible exact ev_strL lit_5265706c792d546f
  | with_reducible exact ev_strL lit_20
  | with_reducible exact ev_strL lit_0a)
theorem ok_law (T : Tx K mg) (X : Rx K mg C) {f : Addr} {fd : FuncData} (F : FunD K "law" "law" (defArgs s_law) (defBody s_law) (defScope s_law) [] [] f fd) : FnOk P w K mg base C8.CX0 10 f fd ["_law_script"] (spLaw K) :=
  have c__law_source := c__law_source (P := P) (w := w) (base := base) T
  have c__law_spelled := c__law_spelled (P := P) (w := w) (base := base) T
  have c_read_addresses := c_read_addresses (P := P) (w := w) (base := base) T X
  have c_show_addresses := c_show_addresses (P := P) (w := w) (base := base) T
  have c_read_heads := c_read_heads (P := P) (w := w) (base := base) T
  have c_fold := c_fold (P := P) (w := w) (base := base) T
  have c__law_apart := c__law_apart (P := P) (w := w) (base := base) T
  have c__law_gap := c__law_gap (P := P) (w := w) (base := base) T
  fn_raw F sc_law (fun vs H Q E h => by obtain ⟨a, ns, rfl, _⟩ := h; rfl) (fun cdv A outer s H E hr => ⟨_, (pss_cons (ps_for PassesOwn.never rfl (pi_range1 (by rfl) T.n_range (pa_cons (pe_callB (id := "max") (cl_max2 rfl) (by rfl) T.n_max (by decide +kernel) (pa_cons pe_int (pa_cons (pe_callB (id := "min") (cl_min2 rfl) (by rfl) T.n_min (by decide +kernel) (pa_cons pe_int (pa_cons (pe_callB cl_lenL (by rfl) T.n_len boot_len (pa_cons (pv 0) pa_nil)) pa_nil))) pa_nil))) pa_nil)) (pg_name (i := 1) sc_law.nd rfl (Or.inl rfl))
    (pss_cons (ps_set (i := 2) sc_law.nd rfl (Or.inl rfl) (C8.pe_c c__law_source hr (by decide) rfl (pa_cons (pv 0) (pa_cons (pv 1) pa_nil))))
    (pss_cons (ps_asg (C8.pe_c c__law_spelled hr (by decide) rfl (pa_cons (pv 2) (pa_cons pe_int pa_nil))) (pg_tup rfl (pgs_cons (pg_name (i := 3) sc_law.nd rfl (Or.inl rfl)) (pgs_cons (pg_name (i := 4) sc_law.nd rfl (Or.inl rfl)) pgs_nil))))
    (pss_cons (ps_set (i := 5) sc_law.nd rfl (Or.inl rfl) (C8.pe_c c_read_addresses hr (by decide) rfl (pa_cons (pv 3) pa_nil)))
    (pss_cons (ps_if (PW.pt (pw_or (pt_cmpR (op_neD hr.units) (pv 5) (pv 4) (by rfl)) (pw_or1 (pt_cmpR (op_neD hr.units) (C8.pe_c c_read_addresses hr (by decide) rfl (pa_cons (C8.pe_c c_show_addresses hr (by decide) rfl (pa_cons (pv 5) pa_nil)) pa_nil)) (pv 4) (by rfl)))))
    (pss_cons (ps_ret pe_bl)
    pss_nil)
    pss_nil)
    (pss_cons (ps_set (i := 6) sc_law.nd rfl (Or.inl rfl) (pe_tup (pa_cons pe_str (pa_cons (pe_bm PySem.F.plainAttrs_str PySem.F.slot_str_strip PySem.F.type_str_strip m_strip (pv 3) (pa_cons pe_str pa_nil)) pa_nil))))
    (pss_cons (ps_if (PW.pt (pw_or (pt_cmpR (op_neD hr.units) (C8.pe_c c_read_heads hr (by decide) rfl (pa_cons (pe_slice sl_list (pe_bm PySem.F.plainAttrs_str PySem.F.slot_str_split PySem.F.type_str_split m_split (C8.pe_c c_fold hr (by decide) rfl (pa_cons (pe_ix ix_tup (pv 6) pe_int (fun _ _ => rfl)) (pa_cons (pe_ix ix_tup (pv 6) pe_int (fun _ _ => rfl)) pa_nil))) (pa_cons pe_str pa_nil)) po_none (po_some (pe_un un_neg pe_int))) pa_nil)) (pe_lst (pa_cons (pv 6) pa_nil)) (by rfl)) (pw_or1 (pt_cmpR (op_neD hr.units) (C8.pe_c c_read_addresses hr (by decide) rfl (pa_cons (pe_ix ix_tup (pv 6) pe_int (fun _ _ => rfl)) pa_nil)) (pv 4) (by rfl)))))
    (pss_cons (ps_ret pe_bl)
    pss_nil)
    pss_nil)
    (pss_cons (ps_set (i := 7) sc_law.nd rfl (Or.inl rfl) (C8.pe_c c__law_apart hr (by decide) rfl (pa_cons (pv 2) (pa_cons (pv 3) pa_nil))))
    (pss_cons (ps_if (PW.pt (pw_or (pt_cmpR (op_neD hr.units) (C8.pe_c c_read_addresses hr (by decide) rfl (pa_cons (pv 7) pa_nil)) (pv 4) (by rfl)) (pw_or1 (pt_cmpR (op_neD hr.units) (C8.pe_c c_read_addresses hr (by decide) rfl (pa_cons (pe_op op_addS (C8.pe_c c__law_gap hr (by decide) rfl (pa_cons (pv 2) pa_nil)) (pv 7)) pa_nil)) (pv 4) (by rfl)))))
    (pss_cons (ps_ret pe_bl)
    pss_nil)
    pss_nil)
    pss_nil)))))))))
    (pss_cons (ps_ret pe_bl)
    pss_nil)), fun vs H' Q E' h => by
    obtain ⟨a, ns, rfl, hs, hlen, hq⟩ := h
    have cf : Cfg _ No H' H' (L2.start N_law [.ref a]) [Scr K a ns, .no, .no, .no, .no, .no, .no, .no] := cfg_startR (Evl.Ex.refl H') (fun G1 e1 => sql_mono e1 hs) .nil rfl (by decide)
    refine run_end (R := fun d => d = .bl true) ?_ cf (fun v d G' H2 ed rv => by subst ed; cases rv; exact hq H2)
    refine run_for (fun k r => r = [Scr K a ns, .no, .no, .no, .no, .no, .no, .no]) (ei_rng1 (ev_cb (ea_cons ev_int (ea_cons (ev_cb (ea_cons ev_int (ea_cons (ev_lenR rfl) ea_nil)) cd_min) ea_nil)) cd_max) (by split <;> split <;> omega) (by split <;> split <;> omega)) ⟨_, Le.refl _, rfl⟩ (fun k d r hd hr => ?_) (fun r hr => ?_)
    · subst hr
      obtain ⟨hk, rfl⟩ := rg_get hd
      refine ⟨_, tg_name, ?_⟩
      rw [show (0 + (k : Int) * 1) = (k : Int) by omega]
      show Dl.Run No _ [Scr K a ns, .dat (.int (k : Int)), .no, .no, .no, .no, .no, .no] _ _
      refine run_newSrc (N1 := fun r => Le r [Scr K a ns, .no, .no, .no, .no, .no, .no, .no]) (fun F G H σ c Q q => ?_) (fun p => ?_) (fun r hr => ⟨_, hr, fun k z => by have := List.mem_of_getElem? z; simp at this, _, Le.refl _, rfl⟩)
      · obtain ⟨e, h⟩ := c.rawAt (i := 0) rfl
        obtain ⟨v1, e1, r1⟩ := c.dat (i := 1) rfl
        cases r1
        exact ⟨.ref a, e, .int (k : Int), e1, a, ns, k, G, c.ext, rfl, h G (Evl.Ex.refl G), fun p G' H' g hn hs hg => q p G' H' g hn hs hg⟩
      show Dl.Run (One1 p) _ [Scr K a ns, .dat (.int (k : Int)), .src, .no, .no, .no, .no, .no] _ _
      refine run_asg (eds_call (i := 2) () rfl (ea_cons ev_int ea_nil) trivial) (fun d hd => ?_)
      obtain ⟨ps, as, htop, rfl⟩ := hd
      refine ⟨_, tg_tup (tgs_cons tg_name (tgs_cons tg_name tgs_nil)) rfl, ?_⟩
      obtain ⟨tss, ht, hf⟩ := htop.tk
      have hfr : Fa2 AdrR tss as := Dl.Fa2.mono' (fun _ _ h => AdrT.r h) hf
      have hg : ∀ a ∈ as, AdrG a := Fa2.right (q := AdrG) (fun _ _ h => AdrT.g h) hf
      have hn := htop.n
      have hl := htop.len
      obtain ⟨rf, ra, rl⟩ := pieces_read htop.ok ht hfr (by omega) (by omega)
      have hok := adrs_okD hg
      obtain ⟨qsh, rf2, s1, s2, s3⟩ := shown_read hn hg
      rw [s1] at s2
      obtain ⟨qv, v1, v2, v3, v4⟩ := strip_pcs htop.ok
      have hvl : (ren qv).length ≤ 42000 := by
        have := strip_len (ren ps)
        rw [v1] at this
        omega
      obtain ⟨rf3, w1, w2⟩ := pieces_read v2 (v3.trans ht) hfr (by omega) (by omega)
      have hvc := ren_okc v2
      have hval : isValue (ren qv) = true := by
        unfold isValue
        rw [v4, decide_eq_true rfl, decide_eq_false (fun z => (okc_rng 10 (hvc 10 z)).2.2.2 rfl)]
        rfl
      show Dl.Run (One1 p) _ [Scr K a ns, .dat (.int (k : Int)), .src, .dat (.str (ren ps)), .dat (.lst (as.map Adr.d)), .no, .no, .no] _ _
      refine run_set (d := .lst (as.map Adr.d)) (EvV.cast (ed_call (ren ps, wordsAt 0 ps, rf) (ea_cons (ev_dat rfl) ea_nil) ra) (by rw [rl])) ?_
      show Dl.Run (One1 p) _ [Scr K a ns, .dat (.int (k : Int)), .src, .dat (.str (ren ps)), .dat (.lst (as.map Adr.d)), .dat (.lst (as.map Adr.d)), .no, .no] _ _
      refine run_no (EvB.cast (eb_or (a := false) (b := false) (eb_B (ev_op (ev_dat rfl) (ev_dat rfl) (o_neSame hok (by decide)))) (fun _ => eb_B (ev_op (EvV.cast (y := .lst (as.map Adr.d)) (ed_call (showAll as, wordsAt 0 qsh, rf2) (ea_cons (ed_call as (ea_cons (ev_dat rfl) ea_nil) ⟨hn, fun a ha => (hg a ha).ok⟩) ea_nil) s2) (by rw [s3])) (ev_dat rfl) (o_neSame hok (by decide))))) rfl) (run_skip ?_)
      refine run_set (d := .tup [.str replyTo, .str (ren qv)]) (ev_tup (ea_cons (ev_strL (l := replyTo) lit_5265706c792d546f) (ea_cons (EvV.cast (ev_bm (ev_dat rfl) (ea_cons (ev_strL lit_20) ea_nil) (md_strip (sz (by omega)))) (by rw [v1])) ea_nil)) (sz1 rfl)) ?_
      show Dl.Run (One1 p) _ [Scr K a ns, .dat (.int (k : Int)), .src, .dat (.str (ren ps)), .dat (.lst (as.map Adr.d)), .dat (.lst (as.map Adr.d)), .dat (.tup [.str replyTo, .str (ren qv)]), .no] _ _
      refine run_no (EvB.cast (eb_or (a := false) (b := false) (eb_B (ev_op (x := .lst [.tup [.str replyTo, .str (ren qv)]]) (ed_callD (Pa := fun ds => ∃ ls, HeadLines (ren qv) ls ∧ ds = [.lst (ls.map .str)]) (EvA.imp (eda_cons (ef_slSplit (P := fun d => ∃ ls, HeadLines (ren qv) ls ∧ d = .lst (ls.map .str)) (Pl := fun l => ∃ ls, l = Mr.joinL [10] ls ++ [10] ∧ HeadPs (ren qv) ls) (EvD.imp (ed_call (ren qv) (ea_cons (ev_op (ev_dat rfl) ev_int (o_ixT rfl)) (ea_cons (ev_op (ev_dat rfl) ev_int (o_ixT rfl)) ea_nil)) ⟨by omega, hval⟩) fun d hd => ?_) fun l hll => ?_) fun _ _ => ea_nil) fun ds hds => ?_) fun ds hds => ?_) (ev_lst (ea_cons (ev_dat rfl) ea_nil) (sz1 rfl)) (o_neSame (head_okD hvc) (by decide)))) (fun _ => eb_B (ev_op (EvV.cast (y := .lst (as.map Adr.d)) (ed_call (ren qv, wordsAt 0 qv, rf3) (ea_cons (ev_op (ev_dat rfl) ev_int (o_ixT rfl)) ea_nil) w1) (by rw [w2])) (ev_dat rfl) (o_neSame hok (by decide))))) rfl) (run_skip ?_)
      · obtain ⟨ls, e, h⟩ := hd
        exact ⟨_, ⟨ls, rfl, h⟩, e⟩
      · obtain ⟨ls, rfl, hp⟩ := hll
        have hh := head_lines hp (by omega) hvc
        have hne : ls ≠ [] := by
          obtain ⟨p, r, e, _⟩ := hp.hd
          rw [e]
          exact fun z => nomatch z
        have hcnt := hp.count
        have hfl := congrArg List.length hp.fl
        have hjl := joinL_len [10] ls
        rw [lens_flat, hfl] at hjl
        have h5 : replyTo.length = 8 := rfl
        have h6 : (if ren qv = [] then [] else 32 :: ren qv).length ≤ (ren qv).length + 1 := by split <;> simp
        rw [List.length_append, List.length_cons, h5] at hjl
        simp only [List.length_cons, List.length_nil] at hjl
        refine EvD.imp (ev_slL (EvF.v (ef_split (ev_strL rfl) (ea_cons (ev_strL lit_0a) ea_nil) (by decide) (sz (by rw [List.length_append]; simp only [List.length_cons, List.length_nil]; omega)))) eo_none (eo_some (ev_neg ev_int))) fun d hd => ⟨ls, hh, ?_⟩
        rw [hd, split_lines hne hh.nl]
        exact congrArg D.lst cut_last
      · obtain ⟨d, r, ⟨ls, hh, e1⟩, e2, e3⟩ := hds
        exact ⟨ls, hh, by rw [e3, e1, e2]⟩
      · obtain ⟨ls, hh, e⟩ := hds
        exact ⟨(ren qv, ls), e, ⟨hh, strip_head v4⟩, fun d h => h⟩
      refine run_setD (eds_call (i := 2) ps rfl (ea_cons (ev_dat rfl) ea_nil) ⟨htop.ok, hl⟩) (fun d hd => ?_)
      obtain ⟨qs, ⟨m1, m2, m3⟩, rfl⟩ := hd
      obtain ⟨rf4, x1, x2⟩ := pieces_read m1 (m2.trans ht) hfr (by omega) (by omega)
      show Dl.Run (One1 p) _ [Scr K a ns, .dat (.int (k : Int)), .src, .dat (.str (ren ps)), .dat (.lst (as.map Adr.d)), .dat (.lst (as.map Adr.d)), .dat (.tup [.str replyTo, .str (ren qv)]), .dat (.str (ren qs))] _ _
      refine run_no (EvB.cast (eb_or (a := false) (b := false) (eb_B (ev_op (EvV.cast (y := .lst (as.map Adr.d)) (ed_call (ren qs, wordsAt 0 qs, rf4) (ea_cons (ev_dat rfl) ea_nil) x1) (by rw [x2])) (ev_dat rfl) (o_neSame hok (by decide)))) (fun _ => eb_B (ev_op (x := .lst (as.map Adr.d)) (ed_callD (Pa := fun ds => ∃ g, Gap g ∧ ds = [.str (ren (g ++ qs))]) (EvA.imp (eda_cons (ed_addS (Pa := fun y => ∃ g, Gap g ∧ y = ren g) (Pb := fun y => y = ren qs) (P := fun y => ∃ g, Gap g ∧ y = ren (g ++ qs)) (eds_call (i := 2) () rfl ea_nil trivial) (ed_txt (ev_dat rfl) rfl) fun y z hy hz => ?_) fun _ _ => ea_nil) fun ds hds => ?_) fun ds hds => ?_) (ev_dat rfl) (o_neSame hok (by decide))))) rfl) (run_skip ?_)
      · obtain ⟨g, hgg, rfl⟩ := hy
        subst hz
        have := hgg.len
        exact ⟨by omega, g, hgg, by rw [ren_app]⟩
      · obtain ⟨d, r, ⟨y, ⟨g, hgg, ey⟩, e1⟩, e2, e3⟩ := hds
        exact ⟨g, hgg, by rw [e3, e1, e2, ey]⟩
      · obtain ⟨g, hgg, e⟩ := hds
        have := hgg.len
        obtain ⟨rf5, y1, y2⟩ := pieces_read (okGapL hgg m1) ((toks_gap hgg qs).trans (m2.trans ht)) hfr (by omega) (by rw [ren_app, List.length_append]; omega)
        exact ⟨(ren (g ++ qs), wordsAt 0 (g ++ qs), rf5), e, y1, fun d h => by rw [← y2]; exact h⟩
      exact run_next (.same (.no (.no (.no (.no (.no (.no (.no .nil))))))))
    · subst hr
      exact run_retV ev_bl rfl⟩)
end
end Fk
/-! The end: what the head's facts give (printed by gen_end.py) -/
namespace Fk
open PySem PySem.Spec PyProof.Rows L2 Dl
section
variable {K : PySem.W.Frag} {h : Heap} {mg : PySem.Str → Option Value}
theorem at_ok (X : K.In h) (G : h.Ns mainGlobals mg) (c : He.SaysD fa fn K) {d : He.DefD} {x : PySem.Str} {st : Stmt} (i j : Nat) (h1 : fn[i]? = some d) (h2 : fa[j]? = some (.glo x)) (hd : d = ⟨(x, none), x, x, defArgs st, defBody st, defScope st, [], []⟩) : DefAt K mg x st := by
  subst hd
  obtain ⟨fd, F⟩ := c.def_ i h1
  exact ⟨_, fd, F, He.glo_ok X G (c.fact j h2)⟩
theorem met_ok (c : He.SaysD fa fn K) {d : He.DefD} {m q : PySem.Str} {st : Stmt} (i j : Nat) (h1 : fn[i]? = some d) (h2 : fa[j]? = some (.meth "Reading" m)) (hd : d = ⟨("Reading", some m), m, q, defArgs st, defBody st, defScope st, [], []⟩) : DefM K (He.ga K "Reading") m q st := by
  subst hd
  obtain ⟨fd, F⟩ := c.def_ i h1
  exact ⟨_, fd, F, He.meth_ok (c.fact j h2)⟩
theorem str_k (X : K.In h) (G : h.Ns mainGlobals mg) (c : He.SaysD fa fn K) {x z : PySem.Str} (j : Nat) (h2 : fa[j]? = some (.str x z)) : ∃ u, mg x = some u ∧ RelV (.str z) u := by
  obtain ⟨t, e⟩ := He.str_ok X G (c.fact j h2)
  exact ⟨_, e, t, rfl⟩
theorem int_k (X : K.In h) (G : h.Ns mainGlobals mg) (c : He.SaysD fa fn K) {x : PySem.Str} {z : Int} (j : Nat) (h2 : fa[j]? = some (.int x z)) : ∃ u, mg x = some u ∧ RelV (.int z) u := by
  obtain ⟨t, e⟩ := He.int_ok X G (c.fact j h2)
  exact ⟨_, e, t, rfl⟩
theorem tx_ok (X : K.In h) (G : h.Ns mainGlobals mg) (c : He.SaysD fa fn K) (e : ex K = true) : Tx K mg where
  d_is_whole := at_ok X G c 0 0 rfl rfl rfl
  d_is_between := at_ok X G c 1 1 rfl rfl rfl
  d_is_line := at_ok X G c 2 2 rfl rfl rfl
  d_is_of := at_ok X G c 3 3 rfl rfl rfl
  d_is_name := at_ok X G c 4 4 rfl rfl rfl
  d_is_value := at_ok X G c 5 5 rfl rfl rfl
  d_is_head := at_ok X G c 6 6 rfl rfl rfl
  d_sign_of := at_ok X G c 7 7 rfl rfl rfl
  d_is_sign := at_ok X G c 8 8 rfl rfl rfl
  d_number_of := at_ok X G c 9 9 rfl rfl rfl
  d_six_bits := at_ok X G c 10 10 rfl rfl rfl
  d_two_figures := at_ok X G c 11 11 rfl rfl rfl
  d_is_saying := at_ok X G c 12 12 rfl rfl rfl
  d_sign_octets := at_ok X G c 13 13 rfl rfl rfl
  d_sign_at := at_ok X G c 14 14 rfl rfl rfl
  d_signs_told := at_ok X G c 15 15 rfl rfl rfl
  d_marked := at_ok X G c 16 16 rfl rfl rfl
  d_coded_word := at_ok X G c 17 17 rfl rfl rfl
  d_words_by := at_ok X G c 18 18 rfl rfl rfl
  d_plain_of := at_ok X G c 19 19 rfl rfl rfl
  d_coded_in := at_ok X G c 20 20 rfl rfl rfl
  d_six_octets := at_ok X G c 21 21 rfl rfl rfl
  d_mark_octets := at_ok X G c 22 22 rfl rfl rfl
  d_word_saying := at_ok X G c 23 23 rfl rfl rfl
  d_atom_end := at_ok X G c 24 24 rfl rfl rfl
  d_quoted_word := at_ok X G c 25 25 rfl rfl rfl
  d_remark_word := at_ok X G c 26 26 rfl rfl rfl
  d_word_at := at_ok X G c 27 27 rfl rfl rfl
  d_words_in := at_ok X G c 28 28 rfl rfl rfl
  d_words := at_ok X G c 29 29 rfl rfl rfl
  d_is_atom := at_ok X G c 30 30 rfl rfl rfl
  d_quoted_in := at_ok X G c 31 31 rfl rfl rfl
  d_is_local := at_ok X G c 32 32 rfl rfl rfl
  d_is_label := at_ok X G c 33 33 rfl rfl rfl
  d_is_house := at_ok X G c 34 34 rfl rfl rfl
  d_is_one := at_ok X G c 35 35 rfl rfl rfl
  d_is_group := at_ok X G c 36 36 rfl rfl rfl
  d_phrase_of := at_ok X G c 37 37 rfl rfl rfl
  d_show_one := at_ok X G c 38 38 rfl rfl rfl
  d_show_address := at_ok X G c 39 39 rfl rfl rfl
  d_show_addresses := at_ok X G c 40 40 rfl rfl rfl
  d_phrase_saying := at_ok X G c 41 41 rfl rfl rfl
  d_read_words := at_ok X G c 42 42 rfl rfl rfl
  d_read_addresses := at_ok X G c 43 43 rfl rfl rfl
  d_fold_places := at_ok X G c 44 44 rfl rfl rfl
  d_folded_lines := at_ok X G c 45 45 rfl rfl rfl
  d_head_text := at_ok X G c 46 46 rfl rfl rfl
  d_fold := at_ok X G c 47 47 rfl rfl rfl
  d_begins_head := at_ok X G c 48 48 rfl rfl rfl
  d_head_of := at_ok X G c 49 49 rfl rfl rfl
  d_read_heads := at_ok X G c 50 50 rfl rfl rfl
  d__law_cell_at := at_ok X G c 51 51 rfl rfl rfl
  d__law_mixed := at_ok X G c 52 52 rfl rfl rfl
  d__law_source := at_ok X G c 53 53 rfl rfl rfl
  d__law_next := at_ok X G c 54 54 rfl rfl rfl
  d__law_signs := at_ok X G c 55 55 rfl rfl rfl
  d__law_table := at_ok X G c 56 56 rfl rfl rfl
  d__law_numbers := at_ok X G c 57 57 rfl rfl rfl
  d__law_octets := at_ok X G c 58 58 rfl rfl rfl
  d__law_coded_word := at_ok X G c 59 59 rfl rfl rfl
  d__law_is_atom := at_ok X G c 60 60 rfl rfl rfl
  d__law_quoted := at_ok X G c 61 61 rfl rfl rfl
  d__law_plain := at_ok X G c 62 62 rfl rfl rfl
  d__law_remark_end := at_ok X G c 63 63 rfl rfl rfl
  d__law_word_at := at_ok X G c 64 64 rfl rfl rfl
  d__law_cut := at_ok X G c 65 65 rfl rfl rfl
  d__law_signs_told := at_ok X G c 66 66 rfl rfl rfl
  d__law_inner := at_ok X G c 67 67 rfl rfl rfl
  d__law_uncoded := at_ok X G c 68 68 rfl rfl rfl
  d__law_phrase_told := at_ok X G c 69 69 rfl rfl rfl
  d__law_saying := at_ok X G c 70 70 rfl rfl rfl
  d__law_house := at_ok X G c 71 71 rfl rfl rfl
  d__law_one := at_ok X G c 72 72 rfl rfl rfl
  d__law_gap := at_ok X G c 73 73 rfl rfl rfl
  d__law_words := at_ok X G c 74 74 rfl rfl rfl
  d__law_spelled_one := at_ok X G c 75 75 rfl rfl rfl
  d__law_spelled := at_ok X G c 76 76 rfl rfl rfl
  d__law_read_phrase := at_ok X G c 77 77 rfl rfl rfl
  d__law_apart := at_ok X G c 78 78 rfl rfl rfl
  d_law := at_ok X G c 79 79 rfl rfl rfl
  n_all := He.free_ok X G (c.fact 88 rfl)
  n_bool := He.free_ok X G (c.fact 84 rfl)
  n_enumerate := He.free_ok X G (c.fact 93 rfl)
  n_int := He.free_ok X G (c.fact 83 rfl)
  n_isinstance := He.free_ok X G (c.fact 82 rfl)
  n_len := He.free_ok X G (c.fact 89 rfl)
  n_list := He.free_ok X G (c.fact 87 rfl)
  n_max := He.free_ok X G (c.fact 91 rfl)
  n_min := He.free_ok X G (c.fact 92 rfl)
  n_range := He.free_ok X G (c.fact 90 rfl)
  n_str := He.free_ok X G (c.fact 85 rfl)
  n_tuple := He.free_ok X G (c.fact 86 rfl)
  k_FIGURES := str_k X G c 94 rfl
  k_SMALL := str_k X G c 95 rfl
  k_LETTERS := str_k X G c 96 rfl
  k_NAME_SIGNS := str_k X G c 97 rfl
  k_MOST_OF_NAME := int_k X G c 98 rfl
  k_SIGNS := str_k X G c 99 rfl
  k_SIX := str_k X G c 100 rfl
  k_SIXTEEN := str_k X G c 101 rfl
  k_LEAST_SIGN := int_k X G c 102 rfl
  k_MOST_SIGN := int_k X G c 103 rfl
  k_MOST_OF_WORD := int_k X G c 104 rfl
  k_ATOM_SIGNS := str_k X G c 105 rfl
  k_MARKS := str_k X G c 106 rfl
  k_MOST_OF_LOCAL := int_k X G c 107 rfl
  k_MOST_OF_LABEL := int_k X G c 108 rfl
  k_HOUSE_SIGNS := str_k X G c 109 rfl
  k_WIDTH := int_k X G c 110 rfl
  a_SORTS := ⟨_, He.glo_ok X G (c.fact 81 rfl), fun H => He.tupB_ok e H⟩
theorem rx_ok (X : K.In h) (G : h.Ns mainGlobals mg) (c : He.SaysD fa fn K) : Rx K mg (He.ga K "Reading") where
  cls := He.cls_ok (c.fact 111 rfl)
  mgC := He.glo_ok X G (c.fact 80 rfl)
  mkr := (c.def_ 80 (d := dm___init__) rfl).elim fun fd F => ⟨_, fd, F, He.mkr_ok (c.fact 112 rfl)⟩
  n_stand := He.noat_ok (c.fact 113 rfl)
  n_phrase := He.noat_ok (c.fact 114 rfl)
  n_local := He.noat_ok (c.fact 115 rfl)
  n_house := He.noat_ok (c.fact 116 rfl)
  n_is_angled := He.noat_ok (c.fact 117 rfl)
  n_leader := He.noat_ok (c.fact 118 rfl)
  n_members := He.noat_ok (c.fact 119 rfl)
  n_is_opened := He.noat_ok (c.fact 120 rfl)
  n_listed := He.noat_ok (c.fact 121 rfl)
  m_takes := met_ok c 81 123 rfl rfl rfl
  m_takes_begin := met_ok c 82 124 rfl rfl rfl
  m_takes_phrase := met_ok c 83 125 rfl rfl rfl
  m_takes_local := met_ok c 84 126 rfl rfl rfl
  m_takes_house := met_ok c 85 127 rfl rfl rfl
  m_takes_one := met_ok c 86 128 rfl rfl rfl
  m_takes_group := met_ok c 87 129 rfl rfl rfl
  m_takes_behind := met_ok c 88 130 rfl rfl rfl
  m_is_done := met_ok c 89 131 rfl rfl rfl
theorem facts {P : Program} {w : World} {f : Addr} (X : K.In h) (G : h.Ns mainGlobals mg) (hfa : mg ("law" : PySem.Str) = some (.ref f)) (c : SaysM K) :
    ∃ fd : FuncData, (∀ (s : Shared) (v : Value), BindsTo s fd ⟨[v], []⟩ [("_law_script", v)]) ∧ ∀ base : Heap, K.In base → base.Ns mainGlobals mg → FnOk P w K mg base C8.CX0 10 f fd ["_law_script"] (spLaw K) := by
  have T := tx_ok X G c.1 c.2
  have R := rx_ok X G c.1
  obtain ⟨fd, F⟩ := c.1.def_ 79 (d := d_law) rfl
  have e := hfa.symm.trans (He.glo_ok X G (c.1.fact 79 (f := .glo "law") rfl))
  cases e
  have b := FunD.bindsA (ps := ["_law_script"]) F fun _ _ _ _ _ _ us hl => match us, hl with | [_], _ => rfl
  exact ⟨fd, fun s v => b s [v] rfl, fun base _ _ => ok_law T R F⟩
end
end Fk
open PySem PySem.W PySem.Calls PyProof.Rows
theorem PySem.Challenge.cw_foldletter_k23_whole_addresses_however_s_holds : PySem.Challenge.rw_foldletter_k23_whole_addresses_however_s.Holds := by
  w_on; o_law
  refine HandSHeadRun.head_any (r := OpenLaw.row PySem.Challenge.rw_foldletter_k23_whole_addresses_however_s) (q := view (OpenLaw.row PySem.Challenge.rw_foldletter_k23_whole_addresses_however_s).prog [110]) (H := Fk.hookM) (ob := Fk.ob) (M := 20000) (loose := Fk.names) (d := HandSHeadRun.topDef (OpenLaw.row PySem.Challenge.rw_foldletter_k23_whole_addresses_however_s).prog 110) (kwd := []) Fk.ob_eq
    (by kernel_rfl) (fun s => by kernel_rfl) Fk.run (by kernel_rfl) (by kernel_rfl) (by kernel_rfl) (by rfl) (by first | assumption | decide +kernel) (by decide +kernel) ⟨rfl, rfl, rfl, rfl, rfl, by decide +kernel⟩ ?hw ?hc
  case hw => w_witness2
  case hc =>
    refine L2.walk_ofE (l := PySem.Challenge.rw_foldletter_k23_whole_addresses_however_s) (n := 63) (k := 10) (x := "_law_script") (CX := C8.CX0) rfl (by decide) (by kernel_rfl) ⟨rfl, by decide, by decide⟩ ?F (fun _ _ _ _ z => z)
    intro w mg fa h Y G hmg0
    obtain ⟨K, KX, c⟩ := Y
    have hmg : mg ("law" : PySem.Str) = some (.ref fa) := by
      have e : (HandSHeadRun.topDef (OpenLaw.row PySem.Challenge.rw_foldletter_k23_whole_addresses_however_s).prog 110).name = ("law" : PySem.Str) := by kernel_rfl
      rw [← e]
      exact hmg0
    obtain ⟨fd, hb, hF⟩ := Fk.facts (P := (PySem.Challenge.rw_foldletter_k23_whole_addresses_however_s).prog) (w := w) KX G hmg c
    exact ⟨K, fd, Fk.spLaw K, KX, hb, fun H a ns hl _ hS => ⟨a, ns, rfl, hS, hl, fun _ => rfl⟩, hF⟩
