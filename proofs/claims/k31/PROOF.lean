import PyProof.Rows.All
import Wide.All
import OpenK.AllK
import Wide.FinOn
import KE.KStateDown
import Lean
import HandS.ForMost
import HandS.Exc
import HandS.TryOnly
import HandS.ExcOwn
import HandS.WordsExc
import HandS.ExcInit
import HandS.ExcField
import HandS.ExcIs
import HandS.Defaults
import HandS.More
import HandS.HeadHook1
import HandS.HeadHook2
import HandS.HeadHook3
import HandS.HeadHook4
import PySem.Challenge.RW_allreadings_k31_whole_statements_and_fir
import HandS.Head0
import HandS.Head1
import HandS.Head2
import HandS.Head3
import HandS.HeadEnd
import HandS.Gcd
import HandS.FStr
import HandS.Style
import HandS.NoneIn
import HandS.StrMore
import HandS.Wide
import HandS.WideBits
import HandS.IsInst
import HandS.Flow
import HandS.RaiseMore
import HandS.Codes
import HandS.Iter
import HandS.Walk
import KE.IntTextLaws
import HandS.FStrTup
import KE.KExcIs
import HandS.EndBits
set_option Elab.async false
set_option linter.all false
set_option maxRecDepth 100000
set_option maxHeartbeats 4000000
namespace K31
open PySem PySem.Spec PyProof.Rows L2
/-! the text by places; the facts that the head reads -/
def top (i : Nat) : Stmt := PySem.Challenge.pw_allreadings_k31_whole_statements_and_fir.main.body.getD i (.Pass ⟨0, 0, 0, 0⟩)
abbrev s_BadText_init : Stmt := inClass (top 4) 0
abbrev s_fraction : Stmt := top 10
abbrev s_is_name : Stmt := top 16
abbrev s_is_unknown : Stmt := top 17
abbrev s_is_number_word : Stmt := top 18
abbrev s_is_word_sign : Stmt := top 19
abbrev s_word_length : Stmt := top 20
abbrev s_words_of_line : Stmt := top 21
abbrev s_lines : Stmt := top 22
abbrev s_Walk_init : Stmt := inClass (top 26) 0
abbrev s_Walk_word : Stmt := inClass (top 26) 1
abbrev s_Walk_refuse : Stmt := inClass (top 26) 2
abbrev s_Walk_go : Stmt := inClass (top 26) 3
abbrev s_Walk_take_one : Stmt := inClass (top 26) 4
abbrev s_Walk_take_number : Stmt := inClass (top 26) 5
abbrev s_Walk_take_name : Stmt := inClass (top 26) 6
abbrev s_Walk_take_unknown : Stmt := inClass (top 26) 7
abbrev s_Walk_take_below : Stmt := inClass (top 26) 8
abbrev s_Walk_take_worth : Stmt := inClass (top 26) 9
abbrev s_Walk_take_turn : Stmt := inClass (top 26) 10
abbrev s_Walk_take_end : Stmt := inClass (top 26) 11
abbrev s_take_term : Stmt := top 27
abbrev s_take_form : Stmt := top 28
abbrev s_take_comparison : Stmt := top 29
abbrev s_take_unknowns : Stmt := top 30
abbrev s_take_sensor : Stmt := top 31
abbrev s_take_reading : Stmt := top 32
abbrev s_take_step : Stmt := top 33
abbrev s_take_rest : Stmt := top 34
abbrev s_statement_of : Stmt := top 35
abbrev s_statements : Stmt := top 36
abbrev s_word_fits : Stmt := top 40
abbrev s_ways_out : Stmt := top 41
abbrev s_ways_in_form : Stmt := top 42
abbrev s_ways : Stmt := top 43
abbrev s_state_behind : Stmt := top 44
abbrev s_state_of : Stmt := top 45
abbrev s_is_beginning : Stmt := top 46
abbrev s_is_statement : Stmt := top 47
abbrev s_fault_of_line : Stmt := top 48
abbrev s_first_fault : Stmt := top 49
abbrev s_Lpot : Stmt := top 51
abbrev s_Ldraw : Stmt := top 52
abbrev s_Lpick : Stmt := top 53
abbrev s_Lname : Stmt := top 54
abbrev s_Lnumber : Stmt := top 55
abbrev s_Lterm : Stmt := top 56
abbrev s_Lform : Stmt := top 57
abbrev s_Lworth : Stmt := top 58
abbrev s_Lstatement : Stmt := top 59
abbrev s_Lspoilt : Stmt := top 60
abbrev s_Lis_parted : Stmt := top 61
abbrev s_Llaid : Stmt := top 62
abbrev s_Lis_number : Stmt := top 63
abbrev s_Lis_name : Stmt := top 64
abbrev s_Lbehind : Stmt := top 65
abbrev s_Lin_form : Stmt := top 66
abbrev s_Ltable : Stmt := top 67
abbrev s_Lfits : Stmt := top 68
abbrev s_Lstep : Stmt := top 69
abbrev s_Lwalk : Stmt := top 70
abbrev s_Lterms : Stmt := top 71
abbrev s_Lfraction : Stmt := top 72
abbrev s_Ltuple : Stmt := top 73
abbrev s_Ldue : Stmt := top 74
abbrev s_Lare_statements : Stmt := top 75
abbrev s_Lare_beginnings : Stmt := top 76
abbrev s_law : Stmt := top 77
def d_BadText_init : He.DefD := ⟨("BadText", some "__init__"), "__init__", "BadText.__init__", defArgs s_BadText_init, defBody s_BadText_init, defScope s_BadText_init, [], []⟩
def d_fraction : He.DefD := ⟨("fraction", none), "fraction", "fraction", defArgs s_fraction, defBody s_fraction, defScope s_fraction, [], []⟩
def d_is_name : He.DefD := ⟨("is_name", none), "is_name", "is_name", defArgs s_is_name, defBody s_is_name, defScope s_is_name, [], []⟩
def d_is_unknown : He.DefD := ⟨("is_unknown", none), "is_unknown", "is_unknown", defArgs s_is_unknown, defBody s_is_unknown, defScope s_is_unknown, [], []⟩
def d_is_number_word : He.DefD := ⟨("is_number_word", none), "is_number_word", "is_number_word", defArgs s_is_number_word, defBody s_is_number_word, defScope s_is_number_word, [], []⟩
def d_is_word_sign : He.DefD := ⟨("is_word_sign", none), "is_word_sign", "is_word_sign", defArgs s_is_word_sign, defBody s_is_word_sign, defScope s_is_word_sign, [], []⟩
def d_word_length : He.DefD := ⟨("word_length", none), "word_length", "word_length", defArgs s_word_length, defBody s_word_length, defScope s_word_length, [], []⟩
def d_words_of_line : He.DefD := ⟨("words_of_line", none), "words_of_line", "words_of_line", defArgs s_words_of_line, defBody s_words_of_line, defScope s_words_of_line, [], []⟩
def d_lines : He.DefD := ⟨("lines", none), "lines", "lines", defArgs s_lines, defBody s_lines, defScope s_lines, [], []⟩
def d_Walk_init : He.DefD := ⟨("Walk", some "__init__"), "__init__", "Walk.__init__", defArgs s_Walk_init, defBody s_Walk_init, defScope s_Walk_init, [], []⟩
def d_Walk_word : He.DefD := ⟨("Walk", some "word"), "word", "Walk.word", defArgs s_Walk_word, defBody s_Walk_word, defScope s_Walk_word, [], []⟩
def d_Walk_refuse : He.DefD := ⟨("Walk", some "refuse"), "refuse", "Walk.refuse", defArgs s_Walk_refuse, defBody s_Walk_refuse, defScope s_Walk_refuse, [], []⟩
def d_Walk_go : He.DefD := ⟨("Walk", some "go"), "go", "Walk.go", defArgs s_Walk_go, defBody s_Walk_go, defScope s_Walk_go, [], []⟩
def d_Walk_take_one : He.DefD := ⟨("Walk", some "take_one"), "take_one", "Walk.take_one", defArgs s_Walk_take_one, defBody s_Walk_take_one, defScope s_Walk_take_one, [], []⟩
def d_Walk_take_number : He.DefD := ⟨("Walk", some "take_number"), "take_number", "Walk.take_number", defArgs s_Walk_take_number, defBody s_Walk_take_number, defScope s_Walk_take_number, [], []⟩
def d_Walk_take_name : He.DefD := ⟨("Walk", some "take_name"), "take_name", "Walk.take_name", defArgs s_Walk_take_name, defBody s_Walk_take_name, defScope s_Walk_take_name, [], []⟩
def d_Walk_take_unknown : He.DefD := ⟨("Walk", some "take_unknown"), "take_unknown", "Walk.take_unknown", defArgs s_Walk_take_unknown, defBody s_Walk_take_unknown, defScope s_Walk_take_unknown, [], []⟩
def d_Walk_take_below : He.DefD := ⟨("Walk", some "take_below"), "take_below", "Walk.take_below", defArgs s_Walk_take_below, defBody s_Walk_take_below, defScope s_Walk_take_below, [], []⟩
def d_Walk_take_worth : He.DefD := ⟨("Walk", some "take_worth"), "take_worth", "Walk.take_worth", defArgs s_Walk_take_worth, defBody s_Walk_take_worth, defScope s_Walk_take_worth, [], []⟩
def d_Walk_take_turn : He.DefD := ⟨("Walk", some "take_turn"), "take_turn", "Walk.take_turn", defArgs s_Walk_take_turn, defBody s_Walk_take_turn, defScope s_Walk_take_turn, [], []⟩
def d_Walk_take_end : He.DefD := ⟨("Walk", some "take_end"), "take_end", "Walk.take_end", defArgs s_Walk_take_end, defBody s_Walk_take_end, defScope s_Walk_take_end, [], []⟩
def d_take_term : He.DefD := ⟨("take_term", none), "take_term", "take_term", defArgs s_take_term, defBody s_take_term, defScope s_take_term, [], []⟩
def d_take_form : He.DefD := ⟨("take_form", none), "take_form", "take_form", defArgs s_take_form, defBody s_take_form, defScope s_take_form, [], []⟩
def d_take_comparison : He.DefD := ⟨("take_comparison", none), "take_comparison", "take_comparison", defArgs s_take_comparison, defBody s_take_comparison, defScope s_take_comparison, [], []⟩
def d_take_unknowns : He.DefD := ⟨("take_unknowns", none), "take_unknowns", "take_unknowns", defArgs s_take_unknowns, defBody s_take_unknowns, defScope s_take_unknowns, [], []⟩
def d_take_sensor : He.DefD := ⟨("take_sensor", none), "take_sensor", "take_sensor", defArgs s_take_sensor, defBody s_take_sensor, defScope s_take_sensor, [], []⟩
def d_take_reading : He.DefD := ⟨("take_reading", none), "take_reading", "take_reading", defArgs s_take_reading, defBody s_take_reading, defScope s_take_reading, [], []⟩
def d_take_step : He.DefD := ⟨("take_step", none), "take_step", "take_step", defArgs s_take_step, defBody s_take_step, defScope s_take_step, [], []⟩
def d_take_rest : He.DefD := ⟨("take_rest", none), "take_rest", "take_rest", defArgs s_take_rest, defBody s_take_rest, defScope s_take_rest, [], []⟩
def d_statement_of : He.DefD := ⟨("statement_of", none), "statement_of", "statement_of", defArgs s_statement_of, defBody s_statement_of, defScope s_statement_of, [], []⟩
def d_statements : He.DefD := ⟨("statements", none), "statements", "statements", defArgs s_statements, defBody s_statements, defScope s_statements, [], []⟩
def d_word_fits : He.DefD := ⟨("word_fits", none), "word_fits", "word_fits", defArgs s_word_fits, defBody s_word_fits, defScope s_word_fits, [], []⟩
def d_ways_out : He.DefD := ⟨("ways_out", none), "ways_out", "ways_out", defArgs s_ways_out, defBody s_ways_out, defScope s_ways_out, [], []⟩
def d_ways_in_form : He.DefD := ⟨("ways_in_form", none), "ways_in_form", "ways_in_form", defArgs s_ways_in_form, defBody s_ways_in_form, defScope s_ways_in_form, [], []⟩
def d_ways : He.DefD := ⟨("ways", none), "ways", "ways", defArgs s_ways, defBody s_ways, defScope s_ways, [], []⟩
def d_state_behind : He.DefD := ⟨("state_behind", none), "state_behind", "state_behind", defArgs s_state_behind, defBody s_state_behind, defScope s_state_behind, [], []⟩
def d_state_of : He.DefD := ⟨("state_of", none), "state_of", "state_of", defArgs s_state_of, defBody s_state_of, defScope s_state_of, [], []⟩
def d_is_beginning : He.DefD := ⟨("is_beginning", none), "is_beginning", "is_beginning", defArgs s_is_beginning, defBody s_is_beginning, defScope s_is_beginning, [], []⟩
def d_is_statement : He.DefD := ⟨("is_statement", none), "is_statement", "is_statement", defArgs s_is_statement, defBody s_is_statement, defScope s_is_statement, [], []⟩
def d_fault_of_line : He.DefD := ⟨("fault_of_line", none), "fault_of_line", "fault_of_line", defArgs s_fault_of_line, defBody s_fault_of_line, defScope s_fault_of_line, [], []⟩
def d_first_fault : He.DefD := ⟨("first_fault", none), "first_fault", "first_fault", defArgs s_first_fault, defBody s_first_fault, defScope s_first_fault, [], []⟩
def d_Lpot : He.DefD := ⟨("_law_pot", none), "_law_pot", "_law_pot", defArgs s_Lpot, defBody s_Lpot, defScope s_Lpot, [], []⟩
def d_Ldraw : He.DefD := ⟨("_law_draw", none), "_law_draw", "_law_draw", defArgs s_Ldraw, defBody s_Ldraw, defScope s_Ldraw, [], []⟩
def d_Lpick : He.DefD := ⟨("_law_pick", none), "_law_pick", "_law_pick", defArgs s_Lpick, defBody s_Lpick, defScope s_Lpick, [], []⟩
def d_Lname : He.DefD := ⟨("_law_name", none), "_law_name", "_law_name", defArgs s_Lname, defBody s_Lname, defScope s_Lname, [], []⟩
def d_Lnumber : He.DefD := ⟨("_law_number", none), "_law_number", "_law_number", defArgs s_Lnumber, defBody s_Lnumber, defScope s_Lnumber, [], []⟩
def d_Lterm : He.DefD := ⟨("_law_term", none), "_law_term", "_law_term", defArgs s_Lterm, defBody s_Lterm, defScope s_Lterm, [], []⟩
def d_Lform : He.DefD := ⟨("_law_form", none), "_law_form", "_law_form", defArgs s_Lform, defBody s_Lform, defScope s_Lform, [], []⟩
def d_Lworth : He.DefD := ⟨("_law_worth", none), "_law_worth", "_law_worth", defArgs s_Lworth, defBody s_Lworth, defScope s_Lworth, [], []⟩
def d_Lstatement : He.DefD := ⟨("_law_statement", none), "_law_statement", "_law_statement", defArgs s_Lstatement, defBody s_Lstatement, defScope s_Lstatement, [], []⟩
def d_Lspoilt : He.DefD := ⟨("_law_spoilt", none), "_law_spoilt", "_law_spoilt", defArgs s_Lspoilt, defBody s_Lspoilt, defScope s_Lspoilt, [], []⟩
def d_Lis_parted : He.DefD := ⟨("_law_is_parted", none), "_law_is_parted", "_law_is_parted", defArgs s_Lis_parted, defBody s_Lis_parted, defScope s_Lis_parted, [], []⟩
def d_Llaid : He.DefD := ⟨("_law_laid", none), "_law_laid", "_law_laid", defArgs s_Llaid, defBody s_Llaid, defScope s_Llaid, [], []⟩
def d_Lis_number : He.DefD := ⟨("_law_is_number", none), "_law_is_number", "_law_is_number", defArgs s_Lis_number, defBody s_Lis_number, defScope s_Lis_number, [], []⟩
def d_Lis_name : He.DefD := ⟨("_law_is_name", none), "_law_is_name", "_law_is_name", defArgs s_Lis_name, defBody s_Lis_name, defScope s_Lis_name, [], []⟩
def d_Lbehind : He.DefD := ⟨("_law_behind", none), "_law_behind", "_law_behind", defArgs s_Lbehind, defBody s_Lbehind, defScope s_Lbehind, [], []⟩
def d_Lin_form : He.DefD := ⟨("_law_in_form", none), "_law_in_form", "_law_in_form", defArgs s_Lin_form, defBody s_Lin_form, defScope s_Lin_form, [], []⟩
def d_Ltable : He.DefD := ⟨("_law_table", none), "_law_table", "_law_table", defArgs s_Ltable, defBody s_Ltable, defScope s_Ltable, [], []⟩
def d_Lfits : He.DefD := ⟨("_law_fits", none), "_law_fits", "_law_fits", defArgs s_Lfits, defBody s_Lfits, defScope s_Lfits, [], []⟩
def d_Lstep : He.DefD := ⟨("_law_step", none), "_law_step", "_law_step", defArgs s_Lstep, defBody s_Lstep, defScope s_Lstep, [], []⟩
def d_Lwalk : He.DefD := ⟨("_law_walk", none), "_law_walk", "_law_walk", defArgs s_Lwalk, defBody s_Lwalk, defScope s_Lwalk, [], []⟩
def d_Lterms : He.DefD := ⟨("_law_terms", none), "_law_terms", "_law_terms", defArgs s_Lterms, defBody s_Lterms, defScope s_Lterms, [], []⟩
def d_Lfraction : He.DefD := ⟨("_law_fraction", none), "_law_fraction", "_law_fraction", defArgs s_Lfraction, defBody s_Lfraction, defScope s_Lfraction, [], []⟩
def d_Ltuple : He.DefD := ⟨("_law_tuple", none), "_law_tuple", "_law_tuple", defArgs s_Ltuple, defBody s_Ltuple, defScope s_Ltuple, [], []⟩
def d_Ldue : He.DefD := ⟨("_law_due", none), "_law_due", "_law_due", defArgs s_Ldue, defBody s_Ldue, defScope s_Ldue, [], []⟩
def d_Lare_statements : He.DefD := ⟨("_law_are_statements", none), "_law_are_statements", "_law_are_statements", defArgs s_Lare_statements, defBody s_Lare_statements, defScope s_Lare_statements, [], []⟩
def d_Lare_beginnings : He.DefD := ⟨("_law_are_beginnings", none), "_law_are_beginnings", "_law_are_beginnings", defArgs s_Lare_beginnings, defBody s_Lare_beginnings, defScope s_Lare_beginnings, [], []⟩
def d_law : He.DefD := ⟨("law", none), "law", "law", defArgs s_law, defBody s_law, defScope s_law, [], []⟩
def fn0 : List He.DefD := [d_BadText_init, d_fraction, d_is_name, d_is_unknown, d_is_number_word, d_is_word_sign, d_word_length, d_words_of_line, d_lines, d_Walk_init, d_Walk_word, d_Walk_refuse, d_Walk_go, d_Walk_take_one, d_Walk_take_number, d_Walk_take_name, d_Walk_take_unknown, d_Walk_take_below, d_Walk_take_worth, d_Walk_take_turn, d_Walk_take_end, d_take_term, d_take_form, d_take_comparison, d_take_unknowns, d_take_sensor, d_take_reading, d_take_step, d_take_rest, d_statement_of]
def fn1 : List He.DefD := [d_statements, d_word_fits, d_ways_out, d_ways_in_form, d_ways, d_state_behind, d_state_of, d_is_beginning, d_is_statement, d_fault_of_line, d_first_fault, d_Lpot, d_Ldraw, d_Lpick, d_Lname, d_Lnumber, d_Lterm, d_Lform, d_Lworth, d_Lstatement, d_Lspoilt, d_Lis_parted, d_Llaid, d_Lis_number, d_Lis_name, d_Lbehind, d_Lin_form, d_Ltable, d_Lfits, d_Lstep]
def fn2 : List He.DefD := [d_Lwalk, d_Lterms, d_Lfraction, d_Ltuple, d_Ldue, d_Lare_statements, d_Lare_beginnings, d_law]
def fn : List He.DefD := fn0 ++ fn1 ++ fn2
def loose0 : List Str := ["TermError", "MissingError", "BadText", "DividedByNought", "IdleSensor", "TakenName", "WrongMoment", "fraction", "LETTERS", "DIGITS", "MOST_DIGITS", "MOST_NAME", "is_name", "is_unknown", "is_number_word", "is_word_sign", "word_length", "words_of_line", "lines", "HEADS", "SIGNS", "Walk", "take_term", "take_form", "take_comparison", "take_unknowns", "take_sensor", "take_reading", "take_step", "take_rest"]
def loose1 : List Str := ["statement_of", "statements", "HEAD", "PLAINS", "word_fits", "ways_out", "ways_in_form", "ways", "state_behind", "state_of", "is_beginning", "is_statement", "fault_of_line", "first_fault", "_law_pot", "_law_draw", "_law_pick", "_law_name", "_law_number", "_law_term", "_law_form", "_law_worth", "_law_statement", "_law_spoilt", "_law_is_parted", "_law_laid", "_law_is_number", "_law_is_name", "_law_behind", "_law_in_form"]
def loose2 : List Str := ["_law_table", "_law_fits", "_law_step", "_law_walk", "_law_terms", "_law_fraction", "_law_tuple", "_law_due", "_law_are_statements", "_law_are_beginnings"]
def loose : List Str := loose0 ++ loose1 ++ loose2
def fa0 : List He.Fa := [.glo "TermError", .glo "MissingError", .glo "BadText", .glo "DividedByNought", .glo "IdleSensor", .glo "TakenName", .glo "WrongMoment", .glo "fraction", .glo "is_name", .glo "is_unknown", .glo "is_number_word", .glo "is_word_sign", .glo "word_length", .glo "words_of_line", .glo "lines", .glo "HEADS", .glo "SIGNS", .glo "Walk", .glo "take_term", .glo "take_form", .glo "take_comparison", .glo "take_unknowns", .glo "take_sensor", .glo "take_reading", .glo "take_step"]
def fa1 : List He.Fa := [.glo "take_rest", .glo "statement_of", .glo "statements", .glo "PLAINS", .glo "word_fits", .glo "ways_out", .glo "ways_in_form", .glo "ways", .glo "state_behind", .glo "state_of", .glo "is_beginning", .glo "is_statement", .glo "fault_of_line", .glo "first_fault", .glo "_law_pot", .glo "_law_draw", .glo "_law_pick", .glo "_law_name", .glo "_law_number", .glo "_law_term", .glo "_law_form", .glo "_law_worth", .glo "_law_statement", .glo "_law_spoilt", .glo "_law_is_parted"]
def fa2 : List He.Fa := [.glo "_law_laid", .glo "_law_is_number", .glo "_law_is_name", .glo "_law_behind", .glo "_law_in_form", .glo "_law_table", .glo "_law_fits", .glo "_law_step", .glo "_law_walk", .glo "_law_terms", .glo "_law_fraction", .glo "_law_tuple", .glo "_law_due", .glo "_law_are_statements", .glo "_law_are_beginnings", .glo "law", .free "len", .free "isinstance", .free "str", .free "all", .free "int", .free "list", .free "abs", .free "max", .free "divmod"]
def fa3 : List He.Fa := [.free "range", .free "enumerate", .free "repr", .free "ValueError", .int "MOST_DIGITS" 100, .int "MOST_NAME" 8, .str "LETTERS" "abcdefghijklmnopqrstuvwxyz", .str "DIGITS" "0123456789", .str "HEAD" "head", .cls "Walk", .mkr "Walk", .noat "Walk" "own_row", .noat "Walk" "own_words", .noat "Walk" "own_place", .meth "Walk" "word", .meth "Walk" "refuse", .meth "Walk" "go", .meth "Walk" "take_one", .meth "Walk" "take_number", .meth "Walk" "take_name", .meth "Walk" "take_unknown", .meth "Walk" "take_below", .meth "Walk" "take_worth", .meth "Walk" "take_turn", .meth "Walk" "take_end"]
def fa4 : List He.Fa := [.exm "BadText" "BadText" true]
def fa : List He.Fa := fa0 ++ fa1 ++ fa2 ++ fa3 ++ fa4
/-- an own class over ValueError (at any depth), with a dict -/
def oexB (K : PySem.W.Frag) (C : Addr) : Bool := (match K.lookup C with
  | some ⟨.type "type", _, .cls cd, sl⟩ => (match cd.mro, sl.toList with
    | .ref D :: bm, [_, _, _, _, some (.builtin n), _] => D == C && (n == "ValueError.__new__" && (!cd.hasDel && (cd.hasDict && PySem.HandSPX.refsVE bm)))
    | _, _ => false)
  | _ => false)
theorem oexB_ok {K : PySem.W.Frag} {C : Addr} (h : oexB K C = true) : ∃ nm q N bs bm sn sub ab col dd k0 k1 k2 k3 k5, K.lookup C = some (excClassObj nm q C N bs bm true sn sub ab col dd k0 k1 k2 k3 k5 "ValueError.__new__") ∧ PySem.HandSPX.refsVE bm = true := by
  unfold oexB at h
  split at h
  · rename_i dd cd sl lk
    split at h
    · rename_i D bm k0 k1 k2 k3 n k5 em es
      simp only [Bool.and_eq_true, beq_iff_eq, Bool.not_eq_true'] at h
      obtain ⟨rfl, rfl, h3, h4, h5⟩ := h
      obtain ⟨c1, c2, c3, c4, c5, c6, c7, c8, c9, c10, c11⟩ := cd
      dsimp only at em h3 h4
      subst em h3 h4
      obtain ⟨l⟩ := sl
      dsimp only at es
      subst es
      exact ⟨_, _, _, _, _, _, _, _, _, _, _, _, _, _, _, lk, h5⟩
    · cases h
  · cases h
/-- what the table of states holds: for each key its pairs -/
def plains : List (Str × List (Str × Str)) :=
  [("u1", [("UNKNOWN", "u2")]), ("u2", [("UNKNOWN", "end"), ("END", "done")]), ("m1", [("NUMBER", "end")]), ("t1", [("NUMBER", "t2")]), ("t2", [(":", "step left first")]),
   ("n1", [("NAME", "n2")]), ("n2", [(":", "sensor right first")]), ("n3", [("NUMBER", "w2")]), ("r1", [("NAME", "r2")]), ("r2", [("NAME", "r3")]), ("r3", [("at", "r4")]), ("r4", [("NUMBER", "r5")]),
   ("r5", [("=", "w1")]), ("w1", [("-", "n3"), ("NUMBER", "w2")]), ("w2", [("/", "w3"), ("END", "done")]), ("w3", [("BELOW", "end")]), ("b1", [("NAME", "end")]), ("end", [("END", "done")]), ("done", []),
   ("head", [("unknowns", "u1"), ("moments", "m1"), ("start", "one left first"), ("step", "t1"), ("steps", "step left first"), ("sensor", "n1"), ("reading", "r1"), ("back", "b1"), ("ask", "ask left first")])]
/-- the states of forms -/
def formStates : List Str := (["one", "step", "ask", "sensor"] : List Str).flatMap fun f => (["left", "right"] : List Str).flatMap fun s => (["first", "term", "number", "name", "at", "whole"] : List Str).map fun p => f ++ " " ++ s ++ " " ++ p
def tupAt (K : PySem.W.Frag) (v : Value) (p : List Value → Bool) : Bool := (match v with
  | .ref t => (match K.lookup t with
    | some ⟨.type c, _, .seq its _, _⟩ => decide (c = "tuple") && (decide (its.size ≤ 100) && p its.toList)
    | _ => false)
  | _ => false)
def isS (x : Str) (v : Value) : Bool := (match v with
  | .str y _ => decide (x = y)
  | _ => false)
def pairB (K : PySem.W.Frag) (q : Str × Str) (v : Value) : Bool := tupAt K v fun l => (match l with
  | [a, b] => isS q.1 a && isS q.2 b
  | _ => false)
def pairsB (K : PySem.W.Frag) : List (Str × Str) → List Value → Bool
  | [], [] => true
  | q :: qs, v :: vs => pairB K q v && pairsB K qs vs
  | _, _ => false
def plainsB (K : PySem.W.Frag) (D : Addr) : Bool := (plains.all fun kv => (match PySem.W.nsIn K D kv.1 with
  | some (some v) => tupAt K v fun l => pairsB K kv.2 l
  | _ => false)) && formStates.all fun z => (match PySem.W.nsIn K D z with
  | some none => true
  | _ => false)
def strsB (K : PySem.W.Frag) (xs : List Str) (a : Addr) : Bool := tupAt K (.ref a) fun l => decide (l.length = xs.length) && (xs.zip l).all fun q => isS q.1 q.2
def heads : List Str := ["unknowns", "moments", "start", "step", "steps", "sensor", "reading", "back", "ask"]
def signs : List Str := ["<=", ">=", "="]
/-- what is asked of the written part besides -/
def exB (K : PySem.W.Frag) : Bool :=
  let B := He.ga K "BadText"
  oexB K B && (xfB K B && (He.eqO (PySem.W.findIn K (.ref B) "__setattr__") (some (some (.builtin "object.__setattr__"))) &&
  (decide (PySem.W.typeIn K (.ref B) = some (.type "type")) && (PySem.W.keepIn K (.ref B) &&
  (He.eqO (PySem.W.findIn K (.ref B) "__init__") (some (some (.ref (He.ma K B "__init__")))) && (decide (PySem.W.typeIn K (.ref (He.ma K B "__init__")) = some (.type "function")) &&
  (He.eqO (PySem.W.findIn K (.ref B) "row") (some none) && (He.eqO (PySem.W.findIn K (.ref B) "spot") (some none) &&
  (He.eqO (PySem.W.findIn K (.ref B) "__class__") (some (some (.builtin "object.__class__"))) &&
  (decide (PySem.W.specialIn K (.builtin "object.__class__") "__get__" = some (some (.builtin "getset_descriptor.__get__"))) && (decide (PySem.W.takesIn K (.builtin "object.__class__") = some true) && (decide (PySem.W.mroIn K B (.type "object") = some true) &&
  (decide (PySem.W.kitOne K (.ref B) (.ref (He.ga K "TermError")) = some true) && (decide (PySem.W.kitOne K (.ref B) (.type "ValueError") = some true) &&
  (decide (PySem.W.kitAny K (.ref B) [.ref (He.ga K "MissingError"), .ref (He.ga K "IdleSensor"), .ref (He.ga K "TakenName"), .ref (He.ga K "WrongMoment")] = some false) &&
  (decide (PySem.W.nsIn K mainGlobals "gcd" = some (some (.builtin "math.gcd"))) &&
  (plainsB K (He.ga K "PLAINS") && (strsB K heads (He.ga K "HEADS") && strsB K signs (He.ga K "SIGNS")))))))))))))))))))
/-- the one table with text keys -/
def tabs : List He.Tab := [(fun K => He.ga K "PLAINS", plains.map (·.1))]
abbrev AlM : Type := He.AlT × Bool
def seeM (K : PySem.W.Frag) : AlM := (He.obsT fa fn tabs K, exB K)
def SaysM (w : World) (K : PySem.W.Frag) : Prop := seeM K = (He.valT fn tabs w, true)
end K31
set_option Elab.async false
set_option linter.all false
set_option maxRecDepth 100000
set_option maxHeartbeats 0
namespace K31
open PySem PySem.Spec PyProof.Rows L2
/-! the head: the top run once in the kernel for each answer of the one row that it asks; a hook of my own, whose reach is a plain list of addresses -/
abbrev R : PySem.W.OpenRow := PySem.W.OpenLaw.row PySem.Challenge.rw_allreadings_k31_whole_statements_and_fir
def refsAt (g : Addr → Option Obj) (a : Addr) : List Addr := (match g a with
  | some o => He.refsO o
  | none => [])
def growM (g : Addr → Option Obj) (l : List Addr) : List Addr := l.flatMap (refsAt g)
def asM (g : Addr → Option Obj) : List Addr :=
  [mainGlobals] ++ (refsAt g mainGlobals ++ (growM g (refsAt g mainGlobals) ++ (growM g (growM g (refsAt g mainGlobals)) ++ growM g (growM g (growM g (refsAt g mainGlobals))))))
def obsM (g : Addr → Option Obj) : AlM := seeM (He.frG g (asM g))
def hookM : PySem.W.Hook where
  α := AlM
  obs := fun s => obsM s.heap.get?
  val := fun w => (He.valT fn tabs w, true)
  says := fun w h => ∃ K : PySem.W.Frag, K.In h ∧ SaysM w K
  of := fun _ _ e => ⟨_, He.frG_in, e⟩
  keeps := fun _ _ _ ⟨K, hK, c⟩ k => ⟨K, PySem.W.Frag.In.keeps hK k, c⟩
def obM (s : PySem.W.SharedT) : AlM := obsM (HandSHeadRun.getT s)
theorem obM_eq (s : PySem.W.SharedT) : obM s = hookM.obs s.abs := by
  have e : HandSHeadRun.getT s = s.abs.heap.get? := funext (HandSHeadRun.getT_eq s)
  show obsM (HandSHeadRun.getT s) = obsM s.abs.heap.get?
  rw [e]
theorem run0 (w : World) : HandSHeadRun.RunEqI R (PySem.W.view R.prog [0, 77]) hookM obM 20000 loose (w.withFollow "special-get-raises" false) := by
  unfold HandSHeadRun.RunEqI
  kernel_rfl
theorem run1 (w : World) : HandSHeadRun.RunEqI R (PySem.W.view R.prog [0, 77]) hookM obM 20000 loose (w.withFollow "special-get-raises" true) := by
  unfold HandSHeadRun.RunEqI
  kernel_rfl
theorem run (w : World) : HandSHeadRun.RunEqI R (PySem.W.view R.prog [0, 77]) hookM obM 20000 loose w :=
  PySem.W.byRow2 "special-get-raises" (P := fun w => HandSHeadRun.RunEqI R (PySem.W.view R.prog [0, 77]) hookM obM 20000 loose w) run0 run1 w
theorem head_ends (call : PySem.W.WalkO (PySem.W.view R.prog [0, 77]) loose (PySem.W.XL (PySem.W.view R.prog [0, 77]) []) hookM.says R.toRowW (HandSHeadRun.topDef R.prog 77) [] fun f vs => PySem.call f vs) : PySem.Challenge.rw_allreadings_k31_whole_statements_and_fir.Holds := by
  open PySem.W in
  w_on; o_law
  refine HandSHeadRun.head_imp (r := PySem.W.OpenLaw.row PySem.Challenge.rw_allreadings_k31_whole_statements_and_fir) (q := PySem.W.view R.prog [0, 77]) (H := hookM) (ob := obM) (M := 20000) (loose := loose) (d := HandSHeadRun.topDef R.prog 77) (kwd := []) obM_eq run
    (by kernel_rfl) (by kernel_rfl) (by kernel_rfl) (by rfl) (by first | assumption | decide +kernel) (by decide +kernel) ⟨rfl, rfl, rfl, rfl, rfl, by decide +kernel⟩ ?hw ?hc
  case hw => w_witness2
  case hc => exact call
end K31
set_option Elab.async false
set_option linter.all false
set_option maxRecDepth 100000
set_option maxHeartbeats 4000000
namespace K31
open PySem PySem.Spec PyProof.Rows L2
/-! the facts of the top by names; a def's promise packed; rules for calls; heaps that keep what is known -/
/-- what the top has written -/
structure Tx (w : World) (K : PySem.W.Frag) (mg : Str → Option Value) : Prop where
  c : SaysM w K
  hx : ∃ h : Heap, K.In h ∧ h.Ns mainGlobals mg
section
variable {w : World} {K : PySem.W.Frag} {mg : Str → Option Value}
theorem Tx.says (T : Tx w K mg) : He.SaysT fa fn tabs w K := congrArg (fun z : AlM => z.1) T.c
theorem Tx.more (T : Tx w K mg) : exB K = true := congrArg (fun z : AlM => z.2) T.c
theorem Tx.fact (T : Tx w K mg) {f : He.Fa} (i : Nat) (h : fa[i]? = some f) : f.ok K = true := T.says.d.fact i h
theorem Tx.def_ (T : Tx w K mg) {d : He.DefD} (i : Nat) (h : fn[i]? = some d) : ∃ fd, FunD K d.name d.qual d.params d.body d.scope (d.dvs K) (d.kws K) (He.fAd K d.at_) fd := T.says.d.def_ i h
theorem Tx.glo (T : Tx w K mg) {x : Str} (i : Nat) (h : fa[i]? = some (.glo x)) : mg x = some (.ref (He.ga K x)) := by
  obtain ⟨hp, X, G⟩ := T.hx
  exact He.glo_ok X G (T.fact i h)
theorem Tx.free (T : Tx w K mg) {x : Str} (i : Nat) (h : fa[i]? = some (.free x)) : mg x = none := by
  obtain ⟨hp, X, G⟩ := T.hx
  exact He.free_ok X G (T.fact i h)
theorem Tx.ints (T : Tx w K mg) {x : Str} {n : Int} (i : Nat) (h : fa[i]? = some (.int x n)) : ∃ t, mg x = some (.int n t) := by
  obtain ⟨hp, X, G⟩ := T.hx
  exact He.int_ok X G (T.fact i h)
theorem Tx.strs (T : Tx w K mg) {x z : Str} (i : Nat) (h : fa[i]? = some (.str x z)) : ∃ t, mg x = some (.str z t) := by
  obtain ⟨hp, X, G⟩ := T.hx
  exact He.str_ok X G (T.fact i h)
theorem Tx.g_TermError (T : Tx w K mg) : mg "TermError" = some (.ref (He.ga K "TermError")) := T.glo 0 rfl
theorem Tx.g_MissingError (T : Tx w K mg) : mg "MissingError" = some (.ref (He.ga K "MissingError")) := T.glo 1 rfl
theorem Tx.g_BadText (T : Tx w K mg) : mg "BadText" = some (.ref (He.ga K "BadText")) := T.glo 2 rfl
theorem Tx.g_DividedByNought (T : Tx w K mg) : mg "DividedByNought" = some (.ref (He.ga K "DividedByNought")) := T.glo 3 rfl
theorem Tx.g_IdleSensor (T : Tx w K mg) : mg "IdleSensor" = some (.ref (He.ga K "IdleSensor")) := T.glo 4 rfl
theorem Tx.g_TakenName (T : Tx w K mg) : mg "TakenName" = some (.ref (He.ga K "TakenName")) := T.glo 5 rfl
theorem Tx.g_WrongMoment (T : Tx w K mg) : mg "WrongMoment" = some (.ref (He.ga K "WrongMoment")) := T.glo 6 rfl
theorem Tx.g_fraction (T : Tx w K mg) : mg "fraction" = some (.ref (He.ga K "fraction")) := T.glo 7 rfl
theorem Tx.g_is_name (T : Tx w K mg) : mg "is_name" = some (.ref (He.ga K "is_name")) := T.glo 8 rfl
theorem Tx.g_is_unknown (T : Tx w K mg) : mg "is_unknown" = some (.ref (He.ga K "is_unknown")) := T.glo 9 rfl
theorem Tx.g_is_number_word (T : Tx w K mg) : mg "is_number_word" = some (.ref (He.ga K "is_number_word")) := T.glo 10 rfl
theorem Tx.g_is_word_sign (T : Tx w K mg) : mg "is_word_sign" = some (.ref (He.ga K "is_word_sign")) := T.glo 11 rfl
theorem Tx.g_word_length (T : Tx w K mg) : mg "word_length" = some (.ref (He.ga K "word_length")) := T.glo 12 rfl
theorem Tx.g_words_of_line (T : Tx w K mg) : mg "words_of_line" = some (.ref (He.ga K "words_of_line")) := T.glo 13 rfl
theorem Tx.g_lines (T : Tx w K mg) : mg "lines" = some (.ref (He.ga K "lines")) := T.glo 14 rfl
theorem Tx.g_HEADS (T : Tx w K mg) : mg "HEADS" = some (.ref (He.ga K "HEADS")) := T.glo 15 rfl
theorem Tx.g_SIGNS (T : Tx w K mg) : mg "SIGNS" = some (.ref (He.ga K "SIGNS")) := T.glo 16 rfl
theorem Tx.g_Walk (T : Tx w K mg) : mg "Walk" = some (.ref (He.ga K "Walk")) := T.glo 17 rfl
theorem Tx.g_take_term (T : Tx w K mg) : mg "take_term" = some (.ref (He.ga K "take_term")) := T.glo 18 rfl
theorem Tx.g_take_form (T : Tx w K mg) : mg "take_form" = some (.ref (He.ga K "take_form")) := T.glo 19 rfl
theorem Tx.g_take_comparison (T : Tx w K mg) : mg "take_comparison" = some (.ref (He.ga K "take_comparison")) := T.glo 20 rfl
theorem Tx.g_take_unknowns (T : Tx w K mg) : mg "take_unknowns" = some (.ref (He.ga K "take_unknowns")) := T.glo 21 rfl
theorem Tx.g_take_sensor (T : Tx w K mg) : mg "take_sensor" = some (.ref (He.ga K "take_sensor")) := T.glo 22 rfl
theorem Tx.g_take_reading (T : Tx w K mg) : mg "take_reading" = some (.ref (He.ga K "take_reading")) := T.glo 23 rfl
theorem Tx.g_take_step (T : Tx w K mg) : mg "take_step" = some (.ref (He.ga K "take_step")) := T.glo 24 rfl
theorem Tx.g_take_rest (T : Tx w K mg) : mg "take_rest" = some (.ref (He.ga K "take_rest")) := T.glo 25 rfl
theorem Tx.g_statement_of (T : Tx w K mg) : mg "statement_of" = some (.ref (He.ga K "statement_of")) := T.glo 26 rfl
theorem Tx.g_statements (T : Tx w K mg) : mg "statements" = some (.ref (He.ga K "statements")) := T.glo 27 rfl
theorem Tx.g_PLAINS (T : Tx w K mg) : mg "PLAINS" = some (.ref (He.ga K "PLAINS")) := T.glo 28 rfl
theorem Tx.g_word_fits (T : Tx w K mg) : mg "word_fits" = some (.ref (He.ga K "word_fits")) := T.glo 29 rfl
theorem Tx.g_ways_out (T : Tx w K mg) : mg "ways_out" = some (.ref (He.ga K "ways_out")) := T.glo 30 rfl
theorem Tx.g_ways_in_form (T : Tx w K mg) : mg "ways_in_form" = some (.ref (He.ga K "ways_in_form")) := T.glo 31 rfl
theorem Tx.g_ways (T : Tx w K mg) : mg "ways" = some (.ref (He.ga K "ways")) := T.glo 32 rfl
theorem Tx.g_state_behind (T : Tx w K mg) : mg "state_behind" = some (.ref (He.ga K "state_behind")) := T.glo 33 rfl
theorem Tx.g_state_of (T : Tx w K mg) : mg "state_of" = some (.ref (He.ga K "state_of")) := T.glo 34 rfl
theorem Tx.g_is_beginning (T : Tx w K mg) : mg "is_beginning" = some (.ref (He.ga K "is_beginning")) := T.glo 35 rfl
theorem Tx.g_is_statement (T : Tx w K mg) : mg "is_statement" = some (.ref (He.ga K "is_statement")) := T.glo 36 rfl
theorem Tx.g_fault_of_line (T : Tx w K mg) : mg "fault_of_line" = some (.ref (He.ga K "fault_of_line")) := T.glo 37 rfl
theorem Tx.g_first_fault (T : Tx w K mg) : mg "first_fault" = some (.ref (He.ga K "first_fault")) := T.glo 38 rfl
theorem Tx.g_Lpot (T : Tx w K mg) : mg "_law_pot" = some (.ref (He.ga K "_law_pot")) := T.glo 39 rfl
theorem Tx.g_Ldraw (T : Tx w K mg) : mg "_law_draw" = some (.ref (He.ga K "_law_draw")) := T.glo 40 rfl
theorem Tx.g_Lpick (T : Tx w K mg) : mg "_law_pick" = some (.ref (He.ga K "_law_pick")) := T.glo 41 rfl
theorem Tx.g_Lname (T : Tx w K mg) : mg "_law_name" = some (.ref (He.ga K "_law_name")) := T.glo 42 rfl
theorem Tx.g_Lnumber (T : Tx w K mg) : mg "_law_number" = some (.ref (He.ga K "_law_number")) := T.glo 43 rfl
theorem Tx.g_Lterm (T : Tx w K mg) : mg "_law_term" = some (.ref (He.ga K "_law_term")) := T.glo 44 rfl
theorem Tx.g_Lform (T : Tx w K mg) : mg "_law_form" = some (.ref (He.ga K "_law_form")) := T.glo 45 rfl
theorem Tx.g_Lworth (T : Tx w K mg) : mg "_law_worth" = some (.ref (He.ga K "_law_worth")) := T.glo 46 rfl
theorem Tx.g_Lstatement (T : Tx w K mg) : mg "_law_statement" = some (.ref (He.ga K "_law_statement")) := T.glo 47 rfl
theorem Tx.g_Lspoilt (T : Tx w K mg) : mg "_law_spoilt" = some (.ref (He.ga K "_law_spoilt")) := T.glo 48 rfl
theorem Tx.g_Lis_parted (T : Tx w K mg) : mg "_law_is_parted" = some (.ref (He.ga K "_law_is_parted")) := T.glo 49 rfl
theorem Tx.g_Llaid (T : Tx w K mg) : mg "_law_laid" = some (.ref (He.ga K "_law_laid")) := T.glo 50 rfl
theorem Tx.g_Lis_number (T : Tx w K mg) : mg "_law_is_number" = some (.ref (He.ga K "_law_is_number")) := T.glo 51 rfl
theorem Tx.g_Lis_name (T : Tx w K mg) : mg "_law_is_name" = some (.ref (He.ga K "_law_is_name")) := T.glo 52 rfl
theorem Tx.g_Lbehind (T : Tx w K mg) : mg "_law_behind" = some (.ref (He.ga K "_law_behind")) := T.glo 53 rfl
theorem Tx.g_Lin_form (T : Tx w K mg) : mg "_law_in_form" = some (.ref (He.ga K "_law_in_form")) := T.glo 54 rfl
theorem Tx.g_Ltable (T : Tx w K mg) : mg "_law_table" = some (.ref (He.ga K "_law_table")) := T.glo 55 rfl
theorem Tx.g_Lfits (T : Tx w K mg) : mg "_law_fits" = some (.ref (He.ga K "_law_fits")) := T.glo 56 rfl
theorem Tx.g_Lstep (T : Tx w K mg) : mg "_law_step" = some (.ref (He.ga K "_law_step")) := T.glo 57 rfl
theorem Tx.g_Lwalk (T : Tx w K mg) : mg "_law_walk" = some (.ref (He.ga K "_law_walk")) := T.glo 58 rfl
theorem Tx.g_Lterms (T : Tx w K mg) : mg "_law_terms" = some (.ref (He.ga K "_law_terms")) := T.glo 59 rfl
theorem Tx.g_Lfraction (T : Tx w K mg) : mg "_law_fraction" = some (.ref (He.ga K "_law_fraction")) := T.glo 60 rfl
theorem Tx.g_Ltuple (T : Tx w K mg) : mg "_law_tuple" = some (.ref (He.ga K "_law_tuple")) := T.glo 61 rfl
theorem Tx.g_Ldue (T : Tx w K mg) : mg "_law_due" = some (.ref (He.ga K "_law_due")) := T.glo 62 rfl
theorem Tx.g_Lare_statements (T : Tx w K mg) : mg "_law_are_statements" = some (.ref (He.ga K "_law_are_statements")) := T.glo 63 rfl
theorem Tx.g_Lare_beginnings (T : Tx w K mg) : mg "_law_are_beginnings" = some (.ref (He.ga K "_law_are_beginnings")) := T.glo 64 rfl
theorem Tx.g_law (T : Tx w K mg) : mg "law" = some (.ref (He.ga K "law")) := T.glo 65 rfl
theorem Tx.f_len (T : Tx w K mg) : mg "len" = none := T.free 66 rfl
theorem Tx.f_isinstance (T : Tx w K mg) : mg "isinstance" = none := T.free 67 rfl
theorem Tx.f_str (T : Tx w K mg) : mg "str" = none := T.free 68 rfl
theorem Tx.f_all (T : Tx w K mg) : mg "all" = none := T.free 69 rfl
theorem Tx.f_int (T : Tx w K mg) : mg "int" = none := T.free 70 rfl
theorem Tx.f_list (T : Tx w K mg) : mg "list" = none := T.free 71 rfl
theorem Tx.f_abs (T : Tx w K mg) : mg "abs" = none := T.free 72 rfl
theorem Tx.f_max (T : Tx w K mg) : mg "max" = none := T.free 73 rfl
theorem Tx.f_divmod (T : Tx w K mg) : mg "divmod" = none := T.free 74 rfl
theorem Tx.f_range (T : Tx w K mg) : mg "range" = none := T.free 75 rfl
theorem Tx.f_enumerate (T : Tx w K mg) : mg "enumerate" = none := T.free 76 rfl
theorem Tx.f_repr (T : Tx w K mg) : mg "repr" = none := T.free 77 rfl
theorem Tx.f_ValueError (T : Tx w K mg) : mg "ValueError" = none := T.free 78 rfl
theorem Tx.i_MOST_DIGITS (T : Tx w K mg) : ∃ t, mg "MOST_DIGITS" = some (.int 100 t) := T.ints 79 rfl
theorem Tx.i_MOST_NAME (T : Tx w K mg) : ∃ t, mg "MOST_NAME" = some (.int 8 t) := T.ints 80 rfl
theorem Tx.s_LETTERS (T : Tx w K mg) : ∃ t, mg "LETTERS" = some (.str "abcdefghijklmnopqrstuvwxyz" t) := T.strs 81 rfl
theorem Tx.s_DIGITS (T : Tx w K mg) : ∃ t, mg "DIGITS" = some (.str "0123456789" t) := T.strs 82 rfl
theorem Tx.s_HEAD (T : Tx w K mg) : ∃ t, mg "HEAD" = some (.str "head" t) := T.strs 83 rfl
theorem Tx.wCls (T : Tx w K mg) : Cls K (He.ga K "Walk") := He.cls_ok (T.fact (f := .cls "Walk") 84 rfl)
theorem Tx.wMk (T : Tx w K mg) : Mk K (He.ga K "Walk") (He.ma K (He.ga K "Walk") "__init__") := He.mkr_ok (T.fact (f := .mkr "Walk") 85 rfl)
theorem Tx.n_own_row (T : Tx w K mg) : NoAttr K (He.ga K "Walk") "own_row" := He.noat_ok (T.fact (f := .noat "Walk" "own_row") 86 rfl)
theorem Tx.n_own_words (T : Tx w K mg) : NoAttr K (He.ga K "Walk") "own_words" := He.noat_ok (T.fact (f := .noat "Walk" "own_words") 87 rfl)
theorem Tx.n_own_place (T : Tx w K mg) : NoAttr K (He.ga K "Walk") "own_place" := He.noat_ok (T.fact (f := .noat "Walk" "own_place") 88 rfl)
theorem Tx.m_word (T : Tx w K mg) : Meth K (He.ga K "Walk") "word" (He.ma K (He.ga K "Walk") "word") := He.meth_ok (T.fact (f := .meth "Walk" "word") 89 rfl)
theorem Tx.m_refuse (T : Tx w K mg) : Meth K (He.ga K "Walk") "refuse" (He.ma K (He.ga K "Walk") "refuse") := He.meth_ok (T.fact (f := .meth "Walk" "refuse") 90 rfl)
theorem Tx.m_go (T : Tx w K mg) : Meth K (He.ga K "Walk") "go" (He.ma K (He.ga K "Walk") "go") := He.meth_ok (T.fact (f := .meth "Walk" "go") 91 rfl)
theorem Tx.m_take_one (T : Tx w K mg) : Meth K (He.ga K "Walk") "take_one" (He.ma K (He.ga K "Walk") "take_one") := He.meth_ok (T.fact (f := .meth "Walk" "take_one") 92 rfl)
theorem Tx.m_take_number (T : Tx w K mg) : Meth K (He.ga K "Walk") "take_number" (He.ma K (He.ga K "Walk") "take_number") := He.meth_ok (T.fact (f := .meth "Walk" "take_number") 93 rfl)
theorem Tx.m_take_name (T : Tx w K mg) : Meth K (He.ga K "Walk") "take_name" (He.ma K (He.ga K "Walk") "take_name") := He.meth_ok (T.fact (f := .meth "Walk" "take_name") 94 rfl)
theorem Tx.m_take_unknown (T : Tx w K mg) : Meth K (He.ga K "Walk") "take_unknown" (He.ma K (He.ga K "Walk") "take_unknown") := He.meth_ok (T.fact (f := .meth "Walk" "take_unknown") 95 rfl)
theorem Tx.m_take_below (T : Tx w K mg) : Meth K (He.ga K "Walk") "take_below" (He.ma K (He.ga K "Walk") "take_below") := He.meth_ok (T.fact (f := .meth "Walk" "take_below") 96 rfl)
theorem Tx.m_take_worth (T : Tx w K mg) : Meth K (He.ga K "Walk") "take_worth" (He.ma K (He.ga K "Walk") "take_worth") := He.meth_ok (T.fact (f := .meth "Walk" "take_worth") 97 rfl)
theorem Tx.m_take_turn (T : Tx w K mg) : Meth K (He.ga K "Walk") "take_turn" (He.ma K (He.ga K "Walk") "take_turn") := He.meth_ok (T.fact (f := .meth "Walk" "take_turn") 98 rfl)
theorem Tx.m_take_end (T : Tx w K mg) : Meth K (He.ga K "Walk") "take_end" (He.ma K (He.ga K "Walk") "take_end") := He.meth_ok (T.fact (f := .meth "Walk" "take_end") 99 rfl)
theorem Tx.bSelf (T : Tx w K mg) : PySem.W.exmOne K (.ref (He.ga K "BadText")) (.ref (He.ga K "BadText")) = some true := He.exm_ok (T.fact (f := .exm "BadText" "BadText" true) 100 rfl)
theorem Tx.d_BadText_init (T : Tx w K mg) : ∃ fd, FunD K d_BadText_init.name d_BadText_init.qual d_BadText_init.params d_BadText_init.body d_BadText_init.scope [] [] (He.fAd K d_BadText_init.at_) fd := T.def_ 0 rfl
theorem Tx.d_fraction (T : Tx w K mg) : ∃ fd, FunD K d_fraction.name d_fraction.qual d_fraction.params d_fraction.body d_fraction.scope [] [] (He.fAd K d_fraction.at_) fd := T.def_ 1 rfl
theorem Tx.d_is_name (T : Tx w K mg) : ∃ fd, FunD K d_is_name.name d_is_name.qual d_is_name.params d_is_name.body d_is_name.scope [] [] (He.fAd K d_is_name.at_) fd := T.def_ 2 rfl
theorem Tx.d_is_unknown (T : Tx w K mg) : ∃ fd, FunD K d_is_unknown.name d_is_unknown.qual d_is_unknown.params d_is_unknown.body d_is_unknown.scope [] [] (He.fAd K d_is_unknown.at_) fd := T.def_ 3 rfl
theorem Tx.d_is_number_word (T : Tx w K mg) : ∃ fd, FunD K d_is_number_word.name d_is_number_word.qual d_is_number_word.params d_is_number_word.body d_is_number_word.scope [] [] (He.fAd K d_is_number_word.at_) fd := T.def_ 4 rfl
theorem Tx.d_is_word_sign (T : Tx w K mg) : ∃ fd, FunD K d_is_word_sign.name d_is_word_sign.qual d_is_word_sign.params d_is_word_sign.body d_is_word_sign.scope [] [] (He.fAd K d_is_word_sign.at_) fd := T.def_ 5 rfl
theorem Tx.d_word_length (T : Tx w K mg) : ∃ fd, FunD K d_word_length.name d_word_length.qual d_word_length.params d_word_length.body d_word_length.scope [] [] (He.fAd K d_word_length.at_) fd := T.def_ 6 rfl
theorem Tx.d_words_of_line (T : Tx w K mg) : ∃ fd, FunD K d_words_of_line.name d_words_of_line.qual d_words_of_line.params d_words_of_line.body d_words_of_line.scope [] [] (He.fAd K d_words_of_line.at_) fd := T.def_ 7 rfl
theorem Tx.d_lines (T : Tx w K mg) : ∃ fd, FunD K d_lines.name d_lines.qual d_lines.params d_lines.body d_lines.scope [] [] (He.fAd K d_lines.at_) fd := T.def_ 8 rfl
theorem Tx.d_Walk_init (T : Tx w K mg) : ∃ fd, FunD K d_Walk_init.name d_Walk_init.qual d_Walk_init.params d_Walk_init.body d_Walk_init.scope [] [] (He.fAd K d_Walk_init.at_) fd := T.def_ 9 rfl
theorem Tx.d_Walk_word (T : Tx w K mg) : ∃ fd, FunD K d_Walk_word.name d_Walk_word.qual d_Walk_word.params d_Walk_word.body d_Walk_word.scope [] [] (He.fAd K d_Walk_word.at_) fd := T.def_ 10 rfl
theorem Tx.d_Walk_refuse (T : Tx w K mg) : ∃ fd, FunD K d_Walk_refuse.name d_Walk_refuse.qual d_Walk_refuse.params d_Walk_refuse.body d_Walk_refuse.scope [] [] (He.fAd K d_Walk_refuse.at_) fd := T.def_ 11 rfl
theorem Tx.d_Walk_go (T : Tx w K mg) : ∃ fd, FunD K d_Walk_go.name d_Walk_go.qual d_Walk_go.params d_Walk_go.body d_Walk_go.scope [] [] (He.fAd K d_Walk_go.at_) fd := T.def_ 12 rfl
theorem Tx.d_Walk_take_one (T : Tx w K mg) : ∃ fd, FunD K d_Walk_take_one.name d_Walk_take_one.qual d_Walk_take_one.params d_Walk_take_one.body d_Walk_take_one.scope [] [] (He.fAd K d_Walk_take_one.at_) fd := T.def_ 13 rfl
theorem Tx.d_Walk_take_number (T : Tx w K mg) : ∃ fd, FunD K d_Walk_take_number.name d_Walk_take_number.qual d_Walk_take_number.params d_Walk_take_number.body d_Walk_take_number.scope [] [] (He.fAd K d_Walk_take_number.at_) fd := T.def_ 14 rfl
theorem Tx.d_Walk_take_name (T : Tx w K mg) : ∃ fd, FunD K d_Walk_take_name.name d_Walk_take_name.qual d_Walk_take_name.params d_Walk_take_name.body d_Walk_take_name.scope [] [] (He.fAd K d_Walk_take_name.at_) fd := T.def_ 15 rfl
theorem Tx.d_Walk_take_unknown (T : Tx w K mg) : ∃ fd, FunD K d_Walk_take_unknown.name d_Walk_take_unknown.qual d_Walk_take_unknown.params d_Walk_take_unknown.body d_Walk_take_unknown.scope [] [] (He.fAd K d_Walk_take_unknown.at_) fd := T.def_ 16 rfl
theorem Tx.d_Walk_take_below (T : Tx w K mg) : ∃ fd, FunD K d_Walk_take_below.name d_Walk_take_below.qual d_Walk_take_below.params d_Walk_take_below.body d_Walk_take_below.scope [] [] (He.fAd K d_Walk_take_below.at_) fd := T.def_ 17 rfl
theorem Tx.d_Walk_take_worth (T : Tx w K mg) : ∃ fd, FunD K d_Walk_take_worth.name d_Walk_take_worth.qual d_Walk_take_worth.params d_Walk_take_worth.body d_Walk_take_worth.scope [] [] (He.fAd K d_Walk_take_worth.at_) fd := T.def_ 18 rfl
theorem Tx.d_Walk_take_turn (T : Tx w K mg) : ∃ fd, FunD K d_Walk_take_turn.name d_Walk_take_turn.qual d_Walk_take_turn.params d_Walk_take_turn.body d_Walk_take_turn.scope [] [] (He.fAd K d_Walk_take_turn.at_) fd := T.def_ 19 rfl
theorem Tx.d_Walk_take_end (T : Tx w K mg) : ∃ fd, FunD K d_Walk_take_end.name d_Walk_take_end.qual d_Walk_take_end.params d_Walk_take_end.body d_Walk_take_end.scope [] [] (He.fAd K d_Walk_take_end.at_) fd := T.def_ 20 rfl
theorem Tx.d_take_term (T : Tx w K mg) : ∃ fd, FunD K d_take_term.name d_take_term.qual d_take_term.params d_take_term.body d_take_term.scope [] [] (He.fAd K d_take_term.at_) fd := T.def_ 21 rfl
theorem Tx.d_take_form (T : Tx w K mg) : ∃ fd, FunD K d_take_form.name d_take_form.qual d_take_form.params d_take_form.body d_take_form.scope [] [] (He.fAd K d_take_form.at_) fd := T.def_ 22 rfl
theorem Tx.d_take_comparison (T : Tx w K mg) : ∃ fd, FunD K d_take_comparison.name d_take_comparison.qual d_take_comparison.params d_take_comparison.body d_take_comparison.scope [] [] (He.fAd K d_take_comparison.at_) fd := T.def_ 23 rfl
theorem Tx.d_take_unknowns (T : Tx w K mg) : ∃ fd, FunD K d_take_unknowns.name d_take_unknowns.qual d_take_unknowns.params d_take_unknowns.body d_take_unknowns.scope [] [] (He.fAd K d_take_unknowns.at_) fd := T.def_ 24 rfl
theorem Tx.d_take_sensor (T : Tx w K mg) : ∃ fd, FunD K d_take_sensor.name d_take_sensor.qual d_take_sensor.params d_take_sensor.body d_take_sensor.scope [] [] (He.fAd K d_take_sensor.at_) fd := T.def_ 25 rfl
theorem Tx.d_take_reading (T : Tx w K mg) : ∃ fd, FunD K d_take_reading.name d_take_reading.qual d_take_reading.params d_take_reading.body d_take_reading.scope [] [] (He.fAd K d_take_reading.at_) fd := T.def_ 26 rfl
theorem Tx.d_take_step (T : Tx w K mg) : ∃ fd, FunD K d_take_step.name d_take_step.qual d_take_step.params d_take_step.body d_take_step.scope [] [] (He.fAd K d_take_step.at_) fd := T.def_ 27 rfl
theorem Tx.d_take_rest (T : Tx w K mg) : ∃ fd, FunD K d_take_rest.name d_take_rest.qual d_take_rest.params d_take_rest.body d_take_rest.scope [] [] (He.fAd K d_take_rest.at_) fd := T.def_ 28 rfl
theorem Tx.d_statement_of (T : Tx w K mg) : ∃ fd, FunD K d_statement_of.name d_statement_of.qual d_statement_of.params d_statement_of.body d_statement_of.scope [] [] (He.fAd K d_statement_of.at_) fd := T.def_ 29 rfl
theorem Tx.d_statements (T : Tx w K mg) : ∃ fd, FunD K d_statements.name d_statements.qual d_statements.params d_statements.body d_statements.scope [] [] (He.fAd K d_statements.at_) fd := T.def_ 30 rfl
theorem Tx.d_word_fits (T : Tx w K mg) : ∃ fd, FunD K d_word_fits.name d_word_fits.qual d_word_fits.params d_word_fits.body d_word_fits.scope [] [] (He.fAd K d_word_fits.at_) fd := T.def_ 31 rfl
theorem Tx.d_ways_out (T : Tx w K mg) : ∃ fd, FunD K d_ways_out.name d_ways_out.qual d_ways_out.params d_ways_out.body d_ways_out.scope [] [] (He.fAd K d_ways_out.at_) fd := T.def_ 32 rfl
theorem Tx.d_ways_in_form (T : Tx w K mg) : ∃ fd, FunD K d_ways_in_form.name d_ways_in_form.qual d_ways_in_form.params d_ways_in_form.body d_ways_in_form.scope [] [] (He.fAd K d_ways_in_form.at_) fd := T.def_ 33 rfl
theorem Tx.d_ways (T : Tx w K mg) : ∃ fd, FunD K d_ways.name d_ways.qual d_ways.params d_ways.body d_ways.scope [] [] (He.fAd K d_ways.at_) fd := T.def_ 34 rfl
theorem Tx.d_state_behind (T : Tx w K mg) : ∃ fd, FunD K d_state_behind.name d_state_behind.qual d_state_behind.params d_state_behind.body d_state_behind.scope [] [] (He.fAd K d_state_behind.at_) fd := T.def_ 35 rfl
theorem Tx.d_state_of (T : Tx w K mg) : ∃ fd, FunD K d_state_of.name d_state_of.qual d_state_of.params d_state_of.body d_state_of.scope [] [] (He.fAd K d_state_of.at_) fd := T.def_ 36 rfl
theorem Tx.d_is_beginning (T : Tx w K mg) : ∃ fd, FunD K d_is_beginning.name d_is_beginning.qual d_is_beginning.params d_is_beginning.body d_is_beginning.scope [] [] (He.fAd K d_is_beginning.at_) fd := T.def_ 37 rfl
theorem Tx.d_is_statement (T : Tx w K mg) : ∃ fd, FunD K d_is_statement.name d_is_statement.qual d_is_statement.params d_is_statement.body d_is_statement.scope [] [] (He.fAd K d_is_statement.at_) fd := T.def_ 38 rfl
theorem Tx.d_fault_of_line (T : Tx w K mg) : ∃ fd, FunD K d_fault_of_line.name d_fault_of_line.qual d_fault_of_line.params d_fault_of_line.body d_fault_of_line.scope [] [] (He.fAd K d_fault_of_line.at_) fd := T.def_ 39 rfl
theorem Tx.d_first_fault (T : Tx w K mg) : ∃ fd, FunD K d_first_fault.name d_first_fault.qual d_first_fault.params d_first_fault.body d_first_fault.scope [] [] (He.fAd K d_first_fault.at_) fd := T.def_ 40 rfl
theorem Tx.d_Lpot (T : Tx w K mg) : ∃ fd, FunD K d_Lpot.name d_Lpot.qual d_Lpot.params d_Lpot.body d_Lpot.scope [] [] (He.fAd K d_Lpot.at_) fd := T.def_ 41 rfl
theorem Tx.d_Ldraw (T : Tx w K mg) : ∃ fd, FunD K d_Ldraw.name d_Ldraw.qual d_Ldraw.params d_Ldraw.body d_Ldraw.scope [] [] (He.fAd K d_Ldraw.at_) fd := T.def_ 42 rfl
theorem Tx.d_Lpick (T : Tx w K mg) : ∃ fd, FunD K d_Lpick.name d_Lpick.qual d_Lpick.params d_Lpick.body d_Lpick.scope [] [] (He.fAd K d_Lpick.at_) fd := T.def_ 43 rfl
theorem Tx.d_Lname (T : Tx w K mg) : ∃ fd, FunD K d_Lname.name d_Lname.qual d_Lname.params d_Lname.body d_Lname.scope [] [] (He.fAd K d_Lname.at_) fd := T.def_ 44 rfl
theorem Tx.d_Lnumber (T : Tx w K mg) : ∃ fd, FunD K d_Lnumber.name d_Lnumber.qual d_Lnumber.params d_Lnumber.body d_Lnumber.scope [] [] (He.fAd K d_Lnumber.at_) fd := T.def_ 45 rfl
theorem Tx.d_Lterm (T : Tx w K mg) : ∃ fd, FunD K d_Lterm.name d_Lterm.qual d_Lterm.params d_Lterm.body d_Lterm.scope [] [] (He.fAd K d_Lterm.at_) fd := T.def_ 46 rfl
theorem Tx.d_Lform (T : Tx w K mg) : ∃ fd, FunD K d_Lform.name d_Lform.qual d_Lform.params d_Lform.body d_Lform.scope [] [] (He.fAd K d_Lform.at_) fd := T.def_ 47 rfl
theorem Tx.d_Lworth (T : Tx w K mg) : ∃ fd, FunD K d_Lworth.name d_Lworth.qual d_Lworth.params d_Lworth.body d_Lworth.scope [] [] (He.fAd K d_Lworth.at_) fd := T.def_ 48 rfl
theorem Tx.d_Lstatement (T : Tx w K mg) : ∃ fd, FunD K d_Lstatement.name d_Lstatement.qual d_Lstatement.params d_Lstatement.body d_Lstatement.scope [] [] (He.fAd K d_Lstatement.at_) fd := T.def_ 49 rfl
theorem Tx.d_Lspoilt (T : Tx w K mg) : ∃ fd, FunD K d_Lspoilt.name d_Lspoilt.qual d_Lspoilt.params d_Lspoilt.body d_Lspoilt.scope [] [] (He.fAd K d_Lspoilt.at_) fd := T.def_ 50 rfl
theorem Tx.d_Lis_parted (T : Tx w K mg) : ∃ fd, FunD K d_Lis_parted.name d_Lis_parted.qual d_Lis_parted.params d_Lis_parted.body d_Lis_parted.scope [] [] (He.fAd K d_Lis_parted.at_) fd := T.def_ 51 rfl
theorem Tx.d_Llaid (T : Tx w K mg) : ∃ fd, FunD K d_Llaid.name d_Llaid.qual d_Llaid.params d_Llaid.body d_Llaid.scope [] [] (He.fAd K d_Llaid.at_) fd := T.def_ 52 rfl
theorem Tx.d_Lis_number (T : Tx w K mg) : ∃ fd, FunD K d_Lis_number.name d_Lis_number.qual d_Lis_number.params d_Lis_number.body d_Lis_number.scope [] [] (He.fAd K d_Lis_number.at_) fd := T.def_ 53 rfl
theorem Tx.d_Lis_name (T : Tx w K mg) : ∃ fd, FunD K d_Lis_name.name d_Lis_name.qual d_Lis_name.params d_Lis_name.body d_Lis_name.scope [] [] (He.fAd K d_Lis_name.at_) fd := T.def_ 54 rfl
theorem Tx.d_Lbehind (T : Tx w K mg) : ∃ fd, FunD K d_Lbehind.name d_Lbehind.qual d_Lbehind.params d_Lbehind.body d_Lbehind.scope [] [] (He.fAd K d_Lbehind.at_) fd := T.def_ 55 rfl
theorem Tx.d_Lin_form (T : Tx w K mg) : ∃ fd, FunD K d_Lin_form.name d_Lin_form.qual d_Lin_form.params d_Lin_form.body d_Lin_form.scope [] [] (He.fAd K d_Lin_form.at_) fd := T.def_ 56 rfl
theorem Tx.d_Ltable (T : Tx w K mg) : ∃ fd, FunD K d_Ltable.name d_Ltable.qual d_Ltable.params d_Ltable.body d_Ltable.scope [] [] (He.fAd K d_Ltable.at_) fd := T.def_ 57 rfl
theorem Tx.d_Lfits (T : Tx w K mg) : ∃ fd, FunD K d_Lfits.name d_Lfits.qual d_Lfits.params d_Lfits.body d_Lfits.scope [] [] (He.fAd K d_Lfits.at_) fd := T.def_ 58 rfl
theorem Tx.d_Lstep (T : Tx w K mg) : ∃ fd, FunD K d_Lstep.name d_Lstep.qual d_Lstep.params d_Lstep.body d_Lstep.scope [] [] (He.fAd K d_Lstep.at_) fd := T.def_ 59 rfl
theorem Tx.d_Lwalk (T : Tx w K mg) : ∃ fd, FunD K d_Lwalk.name d_Lwalk.qual d_Lwalk.params d_Lwalk.body d_Lwalk.scope [] [] (He.fAd K d_Lwalk.at_) fd := T.def_ 60 rfl
theorem Tx.d_Lterms (T : Tx w K mg) : ∃ fd, FunD K d_Lterms.name d_Lterms.qual d_Lterms.params d_Lterms.body d_Lterms.scope [] [] (He.fAd K d_Lterms.at_) fd := T.def_ 61 rfl
theorem Tx.d_Lfraction (T : Tx w K mg) : ∃ fd, FunD K d_Lfraction.name d_Lfraction.qual d_Lfraction.params d_Lfraction.body d_Lfraction.scope [] [] (He.fAd K d_Lfraction.at_) fd := T.def_ 62 rfl
theorem Tx.d_Ltuple (T : Tx w K mg) : ∃ fd, FunD K d_Ltuple.name d_Ltuple.qual d_Ltuple.params d_Ltuple.body d_Ltuple.scope [] [] (He.fAd K d_Ltuple.at_) fd := T.def_ 63 rfl
theorem Tx.d_Ldue (T : Tx w K mg) : ∃ fd, FunD K d_Ldue.name d_Ldue.qual d_Ldue.params d_Ldue.body d_Ldue.scope [] [] (He.fAd K d_Ldue.at_) fd := T.def_ 64 rfl
theorem Tx.d_Lare_statements (T : Tx w K mg) : ∃ fd, FunD K d_Lare_statements.name d_Lare_statements.qual d_Lare_statements.params d_Lare_statements.body d_Lare_statements.scope [] [] (He.fAd K d_Lare_statements.at_) fd := T.def_ 65 rfl
theorem Tx.d_Lare_beginnings (T : Tx w K mg) : ∃ fd, FunD K d_Lare_beginnings.name d_Lare_beginnings.qual d_Lare_beginnings.params d_Lare_beginnings.body d_Lare_beginnings.scope [] [] (He.fAd K d_Lare_beginnings.at_) fd := T.def_ 66 rfl
theorem Tx.d_law (T : Tx w K mg) : ∃ fd, FunD K d_law.name d_law.qual d_law.params d_law.body d_law.scope [] [] (He.fAd K d_law.at_) fd := T.def_ 67 rfl
end
/-! ### a def's promise, packed -/
/-- the module's def x keeps sp by level k, whatever it lets out told by E -/
def Cl (P : Program) (w : World) (K : PySem.W.Frag) (mg : Str → Option Value) (base : Heap) (k : Nat) (x : Str) (ps : List Str) (sp : Sp) : Prop :=
  ∃ fd, FnOk P w K mg base (L2.CX P w) k (He.ga K x) fd ps sp ∧ Binds K fd ps [] ∧ PySem.W.keepIn K (.ref (He.ga K x)) = true ∧ mg x = some (.ref (He.ga K x)) ∧ ∃ oc od osl, K.lookup (He.ga K x) = some ⟨oc, od, .func fd, osl⟩
/-- the method m of the class x -/
def Cm (P : Program) (w : World) (K : PySem.W.Frag) (mg : Str → Option Value) (base : Heap) (k : Nat) (x m : Str) (ps : List Str) (sp : Sp) : Prop :=
  ∃ fd, FnOk P w K mg base (L2.CX P w) k (He.ma K (He.ga K x) m) fd ps sp ∧ Binds K fd ps []
/-- the def behind a row of the table of defs keeps its promise, by its body -/
theorem fn_ok {P : Program} {w : World} {K : PySem.W.Frag} {mg : Str → Option Value} {base : Heap} {d : He.DefD} {N ps : List Str} {k : Nat} {sp : Sp} {fd : FuncData}
    (F : FunD K d.name d.qual d.params d.body d.scope [] [] (He.fAd K d.at_) fd) (S : FnScope N ps d.scope) (len : ∀ vs H Q E, sp vs H Q E → vs.length = ps.length)
    (body : ∀ (cdv : Value) (A : Around) (outer : List Env) (s : Shared) (H : Hp) (vs : List V) (Q : VK) (E : XK), Room k (A.deeper (envOfC d.qual d.scope s.heap.objs.size (He.fAd K d.at_) cdv)) → sp vs H Q E →
      ∃ t, PSs (cxOf (L2.CX P w) P w K mg base N d.qual d.scope (He.fAd K d.at_) cdv A outer s H E) d.body t ∧ t { nx := fun _ H' => Q .non H', rt := Q } (start N vs) H) : FnOk P w K mg base (L2.CX P w) (k + 1) (He.fAd K d.at_) fd ps sp := F.ok S len body
theorem Cl.mk {P : Program} {w : World} {K : PySem.W.Frag} {mg : Str → Option Value} {base : Heap} {d : He.DefD} {N ps : List Str} {k : Nat} {sp : Sp} {x : Str}
    (F : ∃ fd, FunD K d.name d.qual d.params d.body d.scope [] [] (He.fAd K d.at_) fd) (hat : d.at_ = (x, none)) (hm : mg x = some (.ref (He.ga K x))) (S : FnScope N ps d.scope)
    (bd : ∀ (kV doc pm : Value) (an : Option Addr) (cdv ct : Value) (us : List Value), us.length = ps.length → bindArgs (PySem.W.fnOf d.name d.qual d.params d.body d.scope .none kV doc pm an cdv ct) ⟨us, []⟩ = pure (ps.zip us))
    (len : ∀ vs H Q E, sp vs H Q E → vs.length = ps.length)
    (body : ∀ (cdv : Value) (A : Around) (outer : List Env) (s : Shared) (H : Hp) (vs : List V) (Q : VK) (E : XK), Room k (A.deeper (envOfC d.qual d.scope s.heap.objs.size (He.fAd K d.at_) cdv)) → sp vs H Q E →
      ∃ t, PSs (cxOf (L2.CX P w) P w K mg base N d.qual d.scope (He.fAd K d.at_) cdv A outer s H E) d.body t ∧ t { nx := fun _ H' => Q .non H', rt := Q } (start N vs) H) : Cl P w K mg base (k + 1) x ps sp := by
  obtain ⟨fd, F⟩ := F
  have e : He.fAd K d.at_ = He.ga K x := by rw [hat] <;> rfl
  have G := fn_ok (P := P) (w := w) (mg := mg) (base := base) F S len body
  have kp := F.kp
  have lk : ∃ oc od osl, K.lookup (He.fAd K d.at_) = some ⟨oc, od, .func fd, osl⟩ := by
    obtain ⟨oc, od, _, _, _, _, _, _, _, osl, _, lk, _⟩ := F.ex
    exact ⟨oc, od, osl, lk⟩
  rw [e] at G kp lk
  exact ⟨fd, G, F.bindsN bd, kp, hm, lk⟩
theorem Cm.mk {P : Program} {w : World} {K : PySem.W.Frag} {mg : Str → Option Value} {base : Heap} {d : He.DefD} {N ps : List Str} {k : Nat} {sp : Sp} {x m : Str}
    (F : ∃ fd, FunD K d.name d.qual d.params d.body d.scope [] [] (He.fAd K d.at_) fd) (hat : d.at_ = (x, some m)) (S : FnScope N ps d.scope)
    (bd : ∀ (kV doc pm : Value) (an : Option Addr) (cdv ct : Value) (us : List Value), us.length = ps.length → bindArgs (PySem.W.fnOf d.name d.qual d.params d.body d.scope .none kV doc pm an cdv ct) ⟨us, []⟩ = pure (ps.zip us))
    (len : ∀ vs H Q E, sp vs H Q E → vs.length = ps.length)
    (body : ∀ (cdv : Value) (A : Around) (outer : List Env) (s : Shared) (H : Hp) (vs : List V) (Q : VK) (E : XK), Room k (A.deeper (envOfC d.qual d.scope s.heap.objs.size (He.fAd K d.at_) cdv)) → sp vs H Q E →
      ∃ t, PSs (cxOf (L2.CX P w) P w K mg base N d.qual d.scope (He.fAd K d.at_) cdv A outer s H E) d.body t ∧ t { nx := fun _ H' => Q .non H', rt := Q } (start N vs) H) : Cm P w K mg base (k + 1) x m ps sp := by
  obtain ⟨fd, F⟩ := F
  have e : He.fAd K d.at_ = He.ma K (He.ga K x) m := by rw [hat] <;> rfl
  have G := fn_ok (P := P) (w := w) (mg := mg) (base := base) F S len body
  rw [e] at G
  exact ⟨fd, G, F.bindsN bd⟩
section
variable {X : Cx} {x m : Str} {ps : List Str} {sp : Sp} {j k : Nat} {p pos apos : Pos} {e o : Expr} {es : List Expr} {t : TA} {ta : TE} {E : XK}
/-- a call of a def that lets nothing out -/
theorem pe_fn (c : Cl X.prog X.w X.K X.mg X.base k x ps sp) (hr : Room j X.A) (hk : k ≤ j) (hg : Gl X x) (ha : PA X (e :: es) t) (hdb : (x == ("__debug__" : Str)) = false := by decide)
    (he : starEach (e :: es) X.env = (false, eval e X.env) :: starEach es X.env := by rfl) (hpl : (backTo pos (starEach es X.env)).any (·.1) = false := by rfl) : PE X (.Call (.Name x p) (e :: es) [] pos) (tCall sp [] E0 t) := by
  obtain ⟨fd, F, b, kp, hm, _⟩ := c
  exact pe_call F (hr.mono hk) hg hm kp b .nil passL ha hdb he hpl
/-- .. that may let an error out, in a def that may, too -/
theorem pe_fnX (c : Cl X.prog X.w X.K X.mg X.base k x ps sp) (hr : Room j X.A) (hk : k ≤ j) (tk : Takes X (fun cls d _ H => E cls d H)) (hg : Gl X x) (ha : PA X (e :: es) t) (hdb : (x == ("__debug__" : Str)) = false := by decide)
    (he : starEach (e :: es) X.env = (false, eval e X.env) :: starEach es X.env := by rfl) (hpl : (backTo pos (starEach es X.env)).any (·.1) = false := by rfl) : PE X (.Call (.Name x p) (e :: es) [] pos) (tCall sp [] E t) := by
  obtain ⟨fd, F, b, kp, hm, _⟩ := c
  exact pe_call F (hr.mono hk) hg hm kp b .nil (passes_call tk fun _ _ _ _ h => h) ha hdb he hpl
theorem pe_fn0 (c : Cl X.prog X.w X.K X.mg X.base k x ps sp) (hr : Room j X.A) (hk : k ≤ j) (hg : Gl X x) (hdb : (x == ("__debug__" : Str)) = false := by decide) : PE X (.Call (.Name x p) [] [] pos) (tCall sp [] E0 tNil) := by
  obtain ⟨fd, F, b, kp, hm, _⟩ := c
  exact pe_call0 F (hr.mono hk) hg hm kp b .nil passL hdb
/-- a method of an instance of the class at C -/
theorem pe_mt (c : Cm X.prog X.w X.K X.mg X.base k x m ps sp) (hc : Cls X.K (He.ga X.K x)) (hm : Meth X.K (He.ga X.K x) m (He.ma X.K (He.ga X.K x) m)) (hr : Room j X.A) (hk : k ≤ j) (he : PE X o ta) (ha : PA X (e :: es) t) {pl : Sem Bool}
    (hst : starEach (e :: es) X.env = (false, eval e X.env) :: starEach es X.env := by rfl) (hpl : (backTo pos (starEach es X.env)).any (·.1) = false := by rfl)
    (ht : eval (.Call (.Attribute o m apos) (e :: es) [] pos) X.env = (do let ov ← eval o X.env; standAt apos.atName; let (f, first) ← holding [ov] (getMethod ov m pl); callWith pos f first (backTo pos (starEach (e :: es) X.env)) (backToKw pos (keywordEach [] X.env))) := by rfl) :
    PE X (.Call (.Attribute o m apos) (e :: es) [] pos) (tMeth (He.ga X.K x) m sp [] E0 ta t) := by
  obtain ⟨fd, F, b⟩ := c
  exact pe_meth he hc hm F (hr.mono hk) b .nil passL ha hst hpl ht
theorem pe_mtX (c : Cm X.prog X.w X.K X.mg X.base k x m ps sp) (hc : Cls X.K (He.ga X.K x)) (hm : Meth X.K (He.ga X.K x) m (He.ma X.K (He.ga X.K x) m)) (hr : Room j X.A) (hk : k ≤ j) (tk : Takes X (fun cls d _ H => E cls d H)) (he : PE X o ta) (ha : PA X (e :: es) t) {pl : Sem Bool}
    (hst : starEach (e :: es) X.env = (false, eval e X.env) :: starEach es X.env := by rfl) (hpl : (backTo pos (starEach es X.env)).any (·.1) = false := by rfl)
    (ht : eval (.Call (.Attribute o m apos) (e :: es) [] pos) X.env = (do let ov ← eval o X.env; standAt apos.atName; let (f, first) ← holding [ov] (getMethod ov m pl); callWith pos f first (backTo pos (starEach (e :: es) X.env)) (backToKw pos (keywordEach [] X.env))) := by rfl) :
    PE X (.Call (.Attribute o m apos) (e :: es) [] pos) (tMeth (He.ga X.K x) m sp [] E ta t) := by
  obtain ⟨fd, F, b⟩ := c
  exact pe_meth he hc hm F (hr.mono hk) b .nil (passes_call tk fun _ _ _ _ h => h) ha hst hpl ht
theorem pe_mt0 (c : Cm X.prog X.w X.K X.mg X.base k x m ps sp) (hc : Cls X.K (He.ga X.K x)) (hm : Meth X.K (He.ga X.K x) m (He.ma X.K (He.ga X.K x) m)) (hr : Room j X.A) (hk : k ≤ j) (he : PE X o ta) {pl : Sem Bool}
    (ht : eval (.Call (.Attribute o m apos) [] [] pos) X.env = (do let ov ← eval o X.env; standAt apos.atName; let (f, first) ← holding [ov] (getMethod ov m pl); callWith pos f first (backTo pos (starEach [] X.env)) (backToKw pos (keywordEach [] X.env))) := by rfl) :
    PE X (.Call (.Attribute o m apos) [] [] pos) (tMeth (He.ga X.K x) m sp [] E0 ta tNil) := by
  obtain ⟨fd, F, b⟩ := c
  exact pe_meth0 he hc hm F (hr.mono hk) b .nil passL ht
theorem pe_mtX0 (c : Cm X.prog X.w X.K X.mg X.base k x m ps sp) (hc : Cls X.K (He.ga X.K x)) (hm : Meth X.K (He.ga X.K x) m (He.ma X.K (He.ga X.K x) m)) (hr : Room j X.A) (hk : k ≤ j) (tk : Takes X (fun cls d _ H => E cls d H)) (he : PE X o ta) {pl : Sem Bool}
    (ht : eval (.Call (.Attribute o m apos) [] [] pos) X.env = (do let ov ← eval o X.env; standAt apos.atName; let (f, first) ← holding [ov] (getMethod ov m pl); callWith pos f first (backTo pos (starEach [] X.env)) (backToKw pos (keywordEach [] X.env))) := by rfl) :
    PE X (.Call (.Attribute o m apos) [] [] pos) (tMeth (He.ga X.K x) m sp [] E ta tNil) := by
  obtain ⟨fd, F, b⟩ := c
  exact pe_meth0 he hc hm F (hr.mono hk) b .nil (passes_call tk fun _ _ _ _ h => h) ht
/-- a module's text, number -/
theorem pe_gs {z : Str} (hg : Gl X x) (h : ∃ t, X.mg x = some (.str z t)) (hd : (x == ("__debug__" : Str)) = false := by decide) : PE X (.Name x pos) (tC (.str z)) := by
  obtain ⟨u, h⟩ := h
  exact pe_glob hg h ⟨u, rfl⟩ hd
theorem pe_gi {z : Int} (hg : Gl X x) (h : ∃ t, X.mg x = some (.int z t)) (hd : (x == ("__debug__" : Str)) = false := by decide) : PE X (.Name x pos) (tC (.int z)) := by
  obtain ⟨u, h⟩ := h
  exact pe_glob hg h ⟨u, rfl⟩ hd
end
/-! ### heaps -/
/-- what is known and of the kind S stays -/
def Kp (S : HO → Prop) (H H' : Hp) : Prop := ∀ a o, H a = some o → S o → H' a = some o
abbrev AllS : HO → Prop := fun _ => True
theorem Kp.refl {S : HO → Prop} (H : Hp) : Kp S H H := fun _ _ h _ => h
theorem Kp.trans {S : HO → Prop} {H H1 H2 : Hp} (a : Kp S H H1) (b : Kp S H1 H2) : Kp S H H2 := fun x o h s => b x o (a x o h s) s
theorem Kp.new {S : HO → Prop} {H : Hp} {p : Addr} {o : HO} (h : H p = none) : Kp S H (upd H p o) := fun a u e _ => by
  rw [upd_ne (ne_of_none e h)]
  exact e
/-- a change of what the first heap does not know -/
theorem Kp.mut {S : HO → Prop} {H H' : Hp} {p : Addr} {o : HO} (e : Kp S H H') (h : H p = none) : Kp S H (upd H' p o) := fun a u ha s => by
  rw [upd_ne (ne_of_none ha h)]
  exact e a u ha s
/-- a change of what is not of the kind -/
theorem Kp.mutS {S : HO → Prop} {H H' : Hp} {p : Addr} {o u : HO} (e : Kp S H H') (h : H' p = some u) (n : ¬ S u) : Kp S H (upd H' p o) := fun a v ha s => by
  have h2 := e a v ha s
  by_cases q : a = p
  · subst q
    rw [h] at h2
    cases h2
    exact absurd s n
  · rw [upd_ne q]
    exact h2
theorem Kp.imp {S S' : HO → Prop} {H H' : Hp} (e : Kp S H H') (h : ∀ o, S' o → S o) : Kp S' H H' := fun a o q s => e a o q (h o s)
theorem Kp.all {S : HO → Prop} {H H' : Hp} (e : Kp AllS H H') : Kp S H H' := e.imp fun _ _ => trivial
theorem Kp.none {S : HO → Prop} {H H' : Hp} (e : Kp AllS H H') {p : Addr} (h : H' p = Option.none) : H p = Option.none := by
  cases q : H p with
  | none => rfl
  | some o =>
    rw [e p o q trivial] at h
    cases h
theorem szL {n : Nat} (h : n ≤ 100000) : n ≤ sizeLine := Nat.le_trans h (by decide)
theorem szT {n : Nat} (h : n < 100000) : n < sizeLine := Nat.lt_of_lt_of_le h (by decide)
end K31
set_option Elab.async false
set_option linter.all false
set_option maxRecDepth 100000
set_option maxHeartbeats 4000000
namespace K31
open PySem PySem.Spec PyProof.Rows L2
/-! comprehensions whose elements are told by the item; small things of texts and heaps -/
theorem take_fm {α β : Type} (r : α → Option β) : ∀ {l : List α} {i : Nat} {a : α}, l[i]? = some a → (l.take (i + 1)).filterMap r = (l.take i).filterMap r ++ (r a).toList
  | [], i, a, h => by simp at h
  | b :: l, 0, a, h => by
    have e : b = a := Option.some.inj h
    subst e
    cases q : r b <;> simp [List.filterMap, q]
  | b :: l, i + 1, a, h => by
    have ih := take_fm r (l := l) (i := i) (a := a) h
    rw [List.take_succ_cons, List.take_succ_cons, List.filterMap_cons, List.filterMap_cons]
    cases q : r b with
    | none => exact ih
    | some c => rw [List.cons_append]; exact congrArg (c :: ·) ih
/-- one turn of a comprehension: r is what it adds -/
def LcTurn (g : TG) (tt : TT) (te : TE) (vs : List Nat) (σ : L2.St) (x : V) (H0 H' : Hp) (r : Option V) : Prop :=
  ∀ (Yv : V → Hp → Prop) (N : Hp → Prop), (∀ y H4, r = some y → Kp AllS H0 H4 → Yv y H4) → (r = none → ∀ H4, Kp AllS H0 H4 → N H4) → g x (wipe σ vs) H' fun σ2 H2 => wipe σ2 vs = wipe σ vs ∧ tt σ2 H2 fun b H3 => if b = true then te σ2 H3 Yv else N H3
theorem lc_gen {ι : Type} {l : List ι} {J : It} {G : Hp → Prop} {Y : Nat → Hp → V → Hp → Prop} (w : Walk J l.length G Y) (r : ι → Option V) {g : TG} {tt : TT} {te : TE} {vs : List Nat} {σ : L2.St} {H1 : Hp} {D : Addr} {Qd : Hp → Prop} (hn : l.length ≤ 100000) (hD : H1 D = none)
    (hG : ∀ H', Kp AllS H1 H' → G H') (hs : ∀ i a x H H', l[i]? = some a → Kp AllS H1 H → Y i H x H' → LcTurn g tt te vs σ x H H' (r a))
    (hd : ∀ H', Kp AllS H1 H' → H' D = some (.lst (l.filterMap r)) → Qd H') :
    ∃ W : Nat → Nat → Hp → Prop, (∃ m, W 0 m (upd H1 D (.lst []))) ∧ ∀ i m H, W i m H →
      (J.stop i H ∧ Qd H) ∨ (J.go i H ∧ ∃ Nx : Hp → Prop, (∀ H', Nx H' → ∃ m', m' < m ∧ W (i + 1) m' H') ∧ ∀ x H', J.yld i H x H' → g x (wipe σ vs) H' fun σ2 H2 => wipe σ2 vs = wipe σ vs ∧ tt σ2 H2 fun b H3 =>
        if b = true then te σ2 H3 fun y H4 => ∃ acc, H4 D = some (.lst acc) ∧ acc.length < sizeLine ∧ Nx (upd H4 D (.lst (acc ++ [y]))) else Nx H3) := by
  refine lc_it w (fun i H => i ≤ l.length ∧ Kp AllS H1 H ∧ H D = some (.lst ((l.take i).filterMap r))) ⟨Nat.zero_le _, Kp.new hD, by rw [List.take_zero]; exact upd_same⟩ (fun i H _ p => hG H p.2.1) (fun i x H H' hi p y => ?_) (fun H p => hd H p.2.1 (by rw [← List.take_length (l := l)]; exact p.2.2))
  obtain ⟨a, ha⟩ : ∃ a, l[i]? = some a := ⟨l[i], by simp [hi]⟩
  have tf := take_fm r ha
  refine hs i a x H H' ha p.2.1 y _ _ (fun y H4 e k => ⟨_, k _ _ p.2.2 trivial, szT ?_, hi, (p.2.1.trans k).mut hD, ?_⟩) (fun e H4 k => ⟨hi, p.2.1.trans k, ?_⟩)
  · have h1 := List.length_filterMap_le r (l.take i)
    have h2 := List.length_take_le i l
    omega
  · rw [tf, e]
    exact upd_same
  · rw [tf, e]
    simpa using k _ _ p.2.2 trivial
section
variable {K : PySem.W.Frag} {σ : L2.St} {H : Hp} {Q : VK} {g : TG} {tt : TT} {te : TE} {vs : List Nat}
/-- over a text -/
theorem lc_str {z : Str} {k : Nat} (r : Nat → Option V) (hz : z.length ≤ 100000) (hk : σ[k]? = some (some (.str z))) (hs : ∀ c H1, Kp AllS H H1 → LcTurn g tt te vs σ (.str ⟨#[c]⟩) H1 H1 (r c))
    (hd : ∀ p H1, H p = none → Kp AllS H H1 → H1 p = some (.lst (z.cps.toList.filterMap r)) → Q (.ref p) H1) : tLc (iStr (tVar k)) g tt te vs σ H Q := by
  refine ⟨_, hk, z, rfl, fun D hD => ?_⟩
  refine lc_gen (l := z.cps.toList) (w := walk_str (z := z)) r hz hD (fun _ _ => trivial) (fun i a x H1 H' hi k y => ?_) (fun H1 k q => hd D H1 hD k q)
  obtain ⟨rfl, c, hc, rfl⟩ := y
  have e : a = c := by
    have h2 : z.cps[i]? = z.cps.toList[i]? := by simp
    rw [← h2, hc] at hi
    exact (Option.some.inj hi).symm
  subst e
  exact hs a H' k
/-- over a list -/
theorem lc_lst {ι : Type} {l : List ι} {f : ι → V} {k : Nat} {a : Addr} (r : ι → Option V) (hz : l.length ≤ 100000) (hk : σ[k]? = some (some (.ref a))) (ha : SqL K H a (l.map f)) (hs : ∀ x H1, x ∈ l → Kp AllS H H1 → LcTurn g tt te vs σ (f x) H1 H1 (r x))
    (hd : ∀ p H1, H p = none → Kp AllS H H1 → H1 p = some (.lst (l.filterMap r)) → Q (.ref p) H1) : tLc (iList K (tVar k)) g tt te vs σ H Q := by
  refine ⟨_, hk, a, rfl, ⟨_, ha⟩, fun D hD => ?_⟩
  have e0 : (l.map f).length = l.length := List.length_map f
  refine lc_gen (l := l) (w := by rw [← e0]; exact walk_list (xs := l.map f)) r hz hD (fun H' k => Same.seq (fun b o q => k b o q trivial) ha) (fun i b x H1 H' hi k y => ?_) (fun H1 k q => hd D H1 hD k q)
  obtain ⟨rfl, y⟩ := y
  rw [List.getElem?_map, hi] at y
  have e : f b = x := Option.some.inj y
  subst e
  exact hs b H' (List.mem_of_getElem? hi) k
/-- over enumerate of a list: the pair is new -/
theorem lc_enum {ι : Type} {l : List ι} {f : ι → V} {k : Nat} {a : Addr} (r : Nat × ι → Option V) (hz : l.length ≤ 100000) (hk : σ[k]? = some (some (.ref a))) (ha : SqL K H a (l.map f))
    (hs : ∀ i x T H1, l[i]? = some x → Kp AllS H H1 → H1 T = none → LcTurn g tt te vs σ (.ref T) H1 (upd H1 T (.tup [.int (i : Nat), f x])) (r (i, x)))
    (hd : ∀ p H1, H p = none → Kp AllS H H1 → H1 p = some (.lst (l.zipIdx.filterMap fun q => r (q.2, q.1))) → Q (.ref p) H1) : tLc (iEnum K (tCons (tVar k) tNil)) g tt te vs σ H Q := by
  refine ⟨_, hk, a, _, rfl, ha, fun D hD => ?_⟩
  have e0 : (l.map f).length = l.zipIdx.length := by rw [List.length_map, List.length_zipIdx]
  refine lc_gen (l := l.zipIdx) (w := by rw [← e0]; exact walk_enum (xs := l.map f)) (fun q => r (q.2, q.1)) (by rw [List.length_zipIdx]; exact hz) hD (fun H' k => Same.seq (fun b o q => k b o q trivial) ha) (fun i b x H1 H' hi k y => ?_) (fun H1 k q => hd D H1 hD k q)
  obtain ⟨T, x1, x2, rfl, hT, rfl, e1, e2⟩ := y
  rw [List.getElem?_zipIdx] at hi
  cases q : l[i]? with
  | none => rw [q] at hi; cases hi
  | some c =>
    rw [q] at hi
    have e : (c, 0 + i) = b := Option.some.inj hi
    subst e
    have e5 : (l.map f)[i]? = some x2 := e2
    rw [List.getElem?_map, q] at e5
    have e3 : f c = x2 := Option.some.inj e5
    have e4 : V.int (i : Nat) = x1 := Option.some.inj e1
    subst e3 e4
    have h := hs i c T H1 q k hT
    simpa using h
end
theorem sg_inj {c d : Nat} : ((⟨#[c]⟩ : Str) = ⟨#[d]⟩) ↔ c = d := by
  constructor
  · intro h
    have h2 := congrArg (fun z : Str => z.cps.toList) h
    simpa using h2
  · intro h
    rw [h]
theorem sqS {K : PySem.W.Frag} {H : Hp} {a : Addr} {xs : List V} (h : H a = some (.lst xs)) : SqL K H a xs := SqL.of h
theorem sqT {K : PySem.W.Frag} {H : Hp} {a : Addr} {xs : List V} (h : H a = some (.tup xs)) : SqT K H a xs := SqT.of h
theorem Kp.seq {K : PySem.W.Frag} {H H' : Hp} {a : Addr} {xs : List V} (e : Kp AllS H H') (h : SqL K H a xs) : SqL K H' a xs := Same.seq (fun b o q => e b o q trivial) h
theorem Kp.seqT {K : PySem.W.Frag} {H H' : Hp} {a : Addr} {xs : List V} (e : Kp AllS H H') (h : SqT K H a xs) : SqT K H' a xs := by
  rcases h with (h | ⟨o, h⟩) | h
  · exact .inl (.inl (e _ _ h trivial))
  · exact .inl (.inr ⟨o, e _ _ h trivial⟩)
  · exact .inr h
/-! ### steps -/
section
variable {K : PySem.W.Frag} {H : Hp} {Q : VK} {p : Addr} {x y z : Str} {xs ys : List V} {ws : List Str}
theorem st_new {o : HO} (h : ∀ p H1, H p = none → Kp AllS H H1 → H1 p = some o → Q (.ref p) H1) : ∀ p, H p = none → Q (.ref p) (upd H p o) := fun p hp => h p _ hp (Kp.new hp) upd_same
theorem upd_ex {H H2 : Hp} {p : Addr} {o : HO} (hp : H p = none) (hg : upd H p o = H2) : Kp AllS H H2 ∧ H2 p = some o := by
  subst hg
  exact ⟨Kp.new hp, upd_same⟩
theorem kit_self {t : Value} : PySem.W.kitOne K t t = some true := if_pos (beq_self_eq_true t)
theorem st_isS (h : Q (.bl true) H) : rIsi K [.str z, .ty "str"] H Q := ⟨_, _, _, _, true, rfl, ClsV.ty "str", TyX.base (TyOf.str z), kit_self, h⟩
theorem st_ixS {i : Int} {c : Nat} (hz : z.length ≤ 100000) (ha : atI z.cps.toList i = some c) (h : Q (.str ⟨#[c]⟩) H) : rIxS (.str z) (.int i) H Q := ⟨z, i, c, rfl, rfl, szL hz, ha, h⟩
theorem st_ixL {i : Int} {v : V} (hq : SqL K H p xs) (ha : atI xs i = some v) (h : Q v H) : rIxL K (.ref p) (.int i) H Q := ⟨p, xs, i, v, rfl, rfl, hq, ha, h⟩
theorem st_ixT {i : Int} {v : V} (hq : SqT K H p xs) (ha : atI xs i = some v) (h : Q v H) : rIxT K (.ref p) (.int i) H Q := ⟨p, xs, i, v, rfl, rfl, hq, ha, h⟩
theorem st_all {bs : List Bool} (hq : SqL K H p (bs.map V.bl)) (h : Q (.bl (bs.all id)) H) : rAll K [.ref p] H Q := ⟨p, bs, rfl, hq, h⟩
theorem rEq_ss : rEq (.str x) (.str y) H Q = Q (.bl (decide (x = y))) H := by
  unfold rEq
  simp [scal]
theorem rNe_ss : rNe (.str x) (.str y) H Q = Q (.bl (!decide (x = y))) H := by
  unfold rNe
  simp [scal]
theorem rEq_ii {i j : Int} : rEq (.int i) (.int j) H Q = Q (.bl (decide (i = j))) H := by
  unfold rEq
  simp [scal]
theorem rNe_ii {i j : Int} : rNe (.int i) (.int j) H Q = Q (.bl (!decide (i = j))) H := by
  unfold rNe
  simp [scal]
theorem inV_str {x : Str} : ∀ ws : List Str, inV (.str x) (ws.map V.str) = decide (x ∈ ws)
  | [] => by
    show false = _
    simp
  | w :: ws => by
    have ih := inV_str (x := x) ws
    unfold inV at ih ⊢
    rw [List.map_cons, List.any_cons, ih]
    show ((w == x) || decide (x ∈ ws)) = decide (x ∈ w :: ws)
    by_cases h : x = w
    · subst h
      simp
    · have h2 : (w == x) = false := by simpa using fun e : w = x => h e.symm
      rw [h2]
      simp [h]
theorem flat_str : ∀ ws : List Str, (ws.map V.str).all flatV = true
  | [] => rfl
  | w :: ws => by
    rw [List.map_cons, List.all_cons, flat_str ws]
    rfl
theorem st_in {xs : List V} (e : xs = ws.map V.str) (hq : SqL K H p xs ∨ SqT K H p xs) (h : Q (.bl (decide (x ∈ ws))) H) : rIn K false (.str x) (.ref p) H Q := by
  subst e
  refine ⟨p, _, rfl, hq, rfl, flat_str ws, ?_⟩
  rw [inV_str]
  exact h
theorem st_ni {xs : List V} (e : xs = ws.map V.str) (hq : SqL K H p xs ∨ SqT K H p xs) (h : Q (.bl (!decide (x ∈ ws))) H) : rIn K true (.str x) (.ref p) H Q := by
  subst e
  refine ⟨p, _, rfl, hq, rfl, flat_str ws, ?_⟩
  rw [inV_str]
  exact h
theorem st_cat {b : Addr} (h1 : H p = some (.lst xs)) (h2 : H b = some (.lst ys)) (hz : xs.length + ys.length ≤ 100000) (h : ∀ q H1, H q = none → Kp AllS H H1 → H1 q = some (.lst (xs ++ ys)) → Q (.ref q) H1) : rCat (.ref p) (.ref b) H Q :=
  ⟨p, b, xs, ys, rfl, rfl, h1, h2, szL hz, st_new h⟩
end
end K31
set_option Elab.async false
set_option linter.all false
set_option maxRecDepth 100000
set_option maxHeartbeats 4000000
namespace K31
open PySem PySem.Spec PyProof.Rows L2
/-! words: signs, names, numbers -/
abbrev lettersS : Str := "abcdefghijklmnopqrstuvwxyz"
abbrev digitsS : Str := "0123456789"
def isL (c : Nat) : Bool := decide (c ∈ lettersS.cps.toList)
def isD (c : Nat) : Bool := decide (c ∈ digitsS.cps.toList)
def isW (c : Nat) : Bool := isL c || isD c
def isNumber (z : Str) : Bool := decide (1 ≤ z.length) && (decide (z.length ≤ 100) && z.cps.toList.all isD)
def isName (z : Str) : Bool := decide (1 ≤ z.length) && (decide (z.length ≤ 8) && ((z.cps.toList.head?.any isL) && z.cps.toList.all isW))
def isUnknown (z : Str) : Bool := isName z && (!decide (z = "at") && !decide (z = "slack"))
/-- a bool of a text -/
def spB1 (f : Str → Bool) : Sp := fun vs H Q _ => ∃ z : Str, vs = [.str z] ∧ z.length ≤ 100000 ∧ ∀ H', Kp AllS H H' → Q (.bl (f z)) H'
/-- .. of one sign -/
def spSign : Sp := fun vs H Q _ => ∃ c : Nat, vs = [.str ⟨#[c]⟩] ∧ Q (.bl (isW c)) H
local macro_rules | `(tactic| walk_at "st") => `(tactic| try simp only [L2.start, List.map_cons, List.map_nil, List.length_cons, List.length_nil, Nat.reduceAdd, Nat.reduceSub, Nat.add_zero, Nat.zero_add, List.replicate, List.cons_append, List.nil_append, List.append_nil])
local macro_rules | `(tactic| walk_at "wp") => `(tactic| try simp only [tSeq, tIfS, tRet, tOr, tAnd, tNot, tTest, tB, tOp, rI0, rI, rU, tCB, tCons, tNil, tVar, tC, tAsg, gName, tNext, tDrop, tOrV, tAndV, tNotV, tIf, tUn, tYes, wipe, tCall, tTup, tLst, tSl, tPart, tNoPart, tM0, tM1, tIsN, tNotN, tChain, tPar, tBM, tFld, tMeth,
  List.getElem?_cons_zero, List.getElem?_cons_succ, Option.some.injEq, exists_eq_left, exists_eq_left', V.str.injEq, V.int.injEq, V.bl.injEq, V.ref.injEq, List.cons.injEq, and_true, true_and, and_self, exists_and_left, exists_and_right, exists_eq_right, exists_eq, exists_const, reduceCtorEq, decide_eq_true_eq, decide_eq_false_iff_not, List.set_cons_zero, List.set_cons_succ, sg_inj, rEq_ss, rNe_ss, rEq_ii, rNe_ii, ↓reduceIte, Bool.false_eq_true, List.nil_append, List.cons_append, List.append_nil, not_true_eq_false, not_false_eq_true, Bool.not_eq_true', Bool.not_true, Bool.not_false, decide_true, decide_false, or_false, false_or, or_true, true_or, false_and, and_false])
section
variable {P : Program} {w : World} {K : PySem.W.Frag} {mg : Str → Option Value} {base : Heap}
abbrev N_is_word_sign : List Str := ["sign"]
abbrev P_is_word_sign : List Str := ["sign"]
theorem sc_is_word_sign : FnScope N_is_word_sign P_is_word_sign (defScope s_is_word_sign) := ⟨rfl, rfl, rfl, by decide +kernel, rfl, by decide +kernel, by decide +kernel⟩
theorem ok_is_word_sign (T : Tx w K mg) : Cl P w K mg base 1 "is_word_sign" P_is_word_sign spSign := by
  refine Cl.mk T.d_is_word_sign rfl T.g_is_word_sign sc_is_word_sign (fun _ _ _ _ _ _ us hl => match us, hl with | [_], _ => rfl) (fun vs H Q E h => ?_) (fun cdv A outer s H vs Q E hr h => ?_)
  · obtain ⟨c, rfl, _⟩ := h
    rfl
  · obtain ⟨c, rfl, k⟩ := h
    refine ⟨_, (pss_one (ps_ret (pe_or (pe_cmpR op_in_sign (pv 0) (pe_gs (by rfl) T.s_LETTERS) (by with_unfolding_all rfl)) (pe_one (pe_cmpR op_in_sign (pv 0) (pe_gs (by rfl) T.s_DIGITS) (by with_unfolding_all rfl)))))), ?_⟩
    walk_at "st"
    walk_at "wp"
    unfold isW isL isD at k
    by_cases h1 : c ∈ lettersS.cps.toList
    · rw [if_pos h1]
      rw [decide_eq_true h1] at k
      exact k
    · rw [if_neg h1]
      rw [decide_eq_false h1] at k
      exact k
theorem all_bl (l : List Nat) (f : Nat → Bool) : l.filterMap (fun c => some (V.bl (f c))) = (l.map f).map V.bl := by
  induction l with
  | nil => rfl
  | cons a l ih => simp [ih]
abbrev N_is_number_word : List Str := ["word", "sign"]
abbrev P_is_number_word : List Str := ["word"]
theorem sc_is_number_word : FnScope N_is_number_word P_is_number_word (defScope s_is_number_word) := ⟨rfl, rfl, rfl, by decide +kernel, rfl, by decide +kernel, by decide +kernel⟩
theorem ok_is_number_word (T : Tx w K mg) : Cl P w K mg base 1 "is_number_word" P_is_number_word (spB1 isNumber) := by
  refine Cl.mk T.d_is_number_word rfl T.g_is_number_word sc_is_number_word (fun _ _ _ _ _ _ us hl => match us, hl with | [_], _ => rfl) (fun vs H Q E h => ?_) (fun cdv A outer s H vs Q E hr h => ?_)
  · obtain ⟨c, rfl, _⟩ := h
    rfl
  · obtain ⟨z, rfl, hz, k⟩ := h
    refine ⟨_, (pss_cons (ps_if ((pw_or (pt_cmpR op_lt (pe_callB call_len_str (by rfl) T.f_len PySem.boot_len (pa_cons (pv 0) pa_nil)) pe_int (nomark _)) (pw_or1 (pt_cmpR op_gt (pe_callB call_len_str (by rfl) T.f_len PySem.boot_len (pa_cons (pv 0) pa_nil)) (pe_gi (by rfl) T.i_MOST_DIGITS) (nomark _))))).pt (pss_one (ps_ret pe_bl)) pss_nil)
      (pss_one (ps_ret (pe_callB (cr_all rfl) (by rfl) T.f_all (by decide +kernel) (pa_cons (pe_lc (own := [("sign", 1)]) (g := (gName 1)) rfl sc_is_number_word.nd (pi_str (pv 0)) (blkOk_by (own := [("sign", 1)]) (N := N_is_number_word) (sc := defScope s_is_number_word) (by decide +kernel)) (fun _ _ _ _ _ => (pg_name (i := 1) sc_is_number_word.nd rfl (Or.inl rfl))) (fun _ _ _ _ _ => pts_nil) (fun _ _ _ _ _ => (pe_cmpR op_in_sign (pv 1) (pe_gs (by rfl) T.s_DIGITS) (by with_unfolding_all rfl)))) pa_nil))))), ?_⟩
    walk_at "st"
    walk_at "wp"
    have sz := szL hz
    have k0 := k H (Kp.refl H)
    unfold isNumber at k k0
    refine ⟨sz, ?_⟩
    by_cases h1 : (z.length : Int) < 1
    · rw [if_pos h1]
      rw [decide_eq_false (show ¬ 1 ≤ z.length by omega)] at k0
      exact k0
    · rw [if_neg h1]
      refine ⟨sz, ?_⟩
      rw [decide_eq_true (show 1 ≤ z.length by omega)] at k k0
      by_cases h2 : (100 : Int) < z.length
      · rw [if_pos h2]
        rw [decide_eq_false (show ¬ z.length ≤ 100 by omega)] at k0
        exact k0
      · rw [if_neg h2]
        rw [decide_eq_true (show z.length ≤ 100 by omega)] at k k0
        refine lc_str (fun c => some (.bl (isD c))) hz rfl (fun c H1 e1 Yv N hy hn => ?_) (fun p H1 hp e1 h1 => ?_)
        · walk_at "wp"
          exact hy _ _ rfl (Kp.refl H1)
        · rw [all_bl] at h1
          refine ⟨p, _, rfl, sqS h1, ?_⟩
          have k1 := k H1 e1
          simpa using k1
theorem head_sign {z : Str} (h : 1 ≤ z.length) : ∃ c, z.cps.toList.head? = some c ∧ atI z.cps.toList 0 = some c := by
  obtain ⟨⟨l⟩⟩ := z
  cases l with
  | nil => exact absurd h (by show ¬ 1 ≤ 0; omega)
  | cons c l => exact ⟨c, rfl, atI_nat (j := 0) (xs := c :: l) rfl⟩
abbrev N_is_name : List Str := ["value", "sign"]
abbrev P_is_name : List Str := ["value"]
theorem sc_is_name : FnScope N_is_name P_is_name (defScope s_is_name) := ⟨rfl, rfl, rfl, by decide +kernel, rfl, by decide +kernel, by decide +kernel⟩
theorem ok_is_name (T : Tx w K mg) : Cl P w K mg base 1 "is_name" P_is_name (spB1 isName) := by
  refine Cl.mk T.d_is_name rfl T.g_is_name sc_is_name (fun _ _ _ _ _ _ us hl => match us, hl with | [_], _ => rfl) (fun vs H Q E h => ?_) (fun cdv A outer s H vs Q E hr h => ?_)
  · obtain ⟨c, rfl, _⟩ := h
    rfl
  · obtain ⟨z, rfl, hz, k⟩ := h
    refine ⟨_, (pss_cons (ps_if ((pw_or (pt_not (pt_val (pe_callB call_isi (by rfl) T.f_isinstance (by decide +kernel) (pa_cons (pv 0) (pa_cons (pe_bltn (v := .ty "str") (by rfl) T.f_str (by decide +kernel) rfl) pa_nil))))) (pw_or (pt_cmpR op_lt (pe_callB call_len_str (by rfl) T.f_len PySem.boot_len (pa_cons (pv 0) pa_nil)) pe_int (nomark _)) (pw_or1 (pt_cmpR op_gt (pe_callB call_len_str (by rfl) T.f_len PySem.boot_len (pa_cons (pv 0) pa_nil)) (pe_gi (by rfl) T.i_MOST_NAME) (nomark _)))))).pt (pss_one (ps_ret pe_bl)) pss_nil)
      (pss_cons (ps_if (pt_cmpR op_notIn_sign (pe_ix ix_str (pv 0) pe_int (fun _ _ => rfl)) (pe_gs (by rfl) T.s_LETTERS) (by with_unfolding_all rfl)) (pss_one (ps_ret pe_bl)) pss_nil)
      (pss_one (ps_ret (pe_callB (cr_all rfl) (by rfl) T.f_all (by decide +kernel) (pa_cons (pe_lc (own := [("sign", 1)]) (g := (gName 1)) rfl sc_is_name.nd (pi_str (pv 0)) (blkOk_by (own := [("sign", 1)]) (N := N_is_name) (sc := defScope s_is_name) (by decide +kernel)) (fun _ _ _ _ _ => (pg_name (i := 1) sc_is_name.nd rfl (Or.inl rfl))) (fun _ _ _ _ _ => pts_nil) (fun _ _ _ _ _ => (pe_or (pe_cmpR op_in_sign (pv 1) (pe_gs (by rfl) T.s_LETTERS) (by with_unfolding_all rfl)) (pe_one (pe_cmpR op_in_sign (pv 1) (pe_gs (by rfl) T.s_DIGITS) (by with_unfolding_all rfl)))))) pa_nil)))))), ?_⟩
    walk_at "st"
    walk_at "wp"
    have sz := szL hz
    have k0 := k H (Kp.refl H)
    unfold isName at k k0
    refine st_isS ?_
    walk_at "wp"
    refine ⟨sz, ?_⟩
    by_cases h1 : (z.length : Int) < 1
    · rw [if_pos h1]
      rw [decide_eq_false (show ¬ 1 ≤ z.length by omega)] at k0
      exact k0
    · rw [if_neg h1]
      refine ⟨sz, ?_⟩
      rw [decide_eq_true (show 1 ≤ z.length by omega)] at k k0
      by_cases h2 : (8 : Int) < z.length
      · rw [if_pos h2]
        rw [decide_eq_false (show ¬ z.length ≤ 8 by omega)] at k0
        exact k0
      · rw [if_neg h2]
        rw [decide_eq_true (show z.length ≤ 8 by omega)] at k k0
        obtain ⟨c, hc, ha⟩ := head_sign (show 1 ≤ z.length by omega)
        rw [hc] at k k0
        refine st_ixS hz ha ?_
        walk_at "wp"
        by_cases h3 : c ∈ lettersS.cps.toList
        · rw [if_neg (not_not_intro h3)]
          have e3 : isL c = true := decide_eq_true h3
          refine lc_str (fun c => some (.bl (isW c))) hz rfl (fun c H1 e1 Yv N hy hn => ?_) (fun p H1 hp e1 h1 => ?_)
          · walk_at "wp"
            have q := hy (.bl (isW c)) H1 rfl (Kp.refl H1)
            unfold isW isL isD at q
            by_cases h4 : c ∈ lettersS.cps.toList
            · rw [if_pos h4]
              rw [decide_eq_true h4] at q
              exact q
            · rw [if_neg h4]
              rw [decide_eq_false h4] at q
              exact q
          · rw [all_bl] at h1
            refine st_all (sqS h1) ?_
            have k1 := k H1 e1
            simpa [e3] using k1
        · rw [if_pos h3]
          have e3 : isL c = false := decide_eq_false h3
          simpa [e3] using k0
abbrev N_is_unknown : List Str := ["value"]
abbrev P_is_unknown : List Str := ["value"]
theorem sc_is_unknown : FnScope N_is_unknown P_is_unknown (defScope s_is_unknown) := ⟨rfl, rfl, rfl, by decide +kernel, rfl, by decide +kernel, by decide +kernel⟩
theorem ok_is_unknown (T : Tx w K mg) : Cl P w K mg base 2 "is_unknown" P_is_unknown (spB1 isUnknown) := by
  refine Cl.mk T.d_is_unknown rfl T.g_is_unknown sc_is_unknown (fun _ _ _ _ _ _ us hl => match us, hl with | [_], _ => rfl) (fun vs H Q E h => ?_) (fun cdv A outer s H vs Q E hr h => ?_)
  · obtain ⟨c, rfl, _⟩ := h
    rfl
  · obtain ⟨z, rfl, hz, k⟩ := h
    refine ⟨_, (pss_one (ps_ret (pe_and (pe_fn (ok_is_name T) hr (by decide) (by rfl) (pa_cons (pv 0) pa_nil)) (pe_one (pe_cmpR op_notIn_seq (pv 0) (pe_tup (pa_cons pe_str (pa_cons pe_str pa_nil))) (by with_unfolding_all rfl)))))), ?_⟩
    walk_at "st"
    walk_at "wp"
    refine ⟨z, rfl, hz, fun H1 e1 => ⟨_, rfl, ?_⟩⟩
    unfold isUnknown at k
    cases q : isName z with
    | false =>
      have k1 := k H1 e1
      rw [q] at k1
      exact k1
    | true =>
      rw [if_pos rfl]
      refine ⟨szL (by decide), ?_⟩
      (intro p hp; generalize hg0 : upd _ p _ = H2; obtain ⟨e2, h2⟩ := upd_ex hp hg0; clear hg0)
      refine st_ni (ws := ["at", "slack"]) rfl (.inr (sqT h2)) ?_
      have k2 := k H2 (e1.trans e2)
      rw [q] at k2
      simpa using k2
end
end K31
set_option Elab.async false
set_option linter.all false
set_option maxRecDepth 100000
set_option maxHeartbeats 4000000
namespace K31
open PySem PySem.Spec PyProof.Rows L2
/-! words of lines -/
local macro_rules | `(tactic| walk_at "st") => `(tactic| try simp only [L2.start, List.map_cons, List.map_nil, List.length_cons, List.length_nil, Nat.reduceAdd, Nat.reduceSub, Nat.add_zero, Nat.zero_add, List.replicate, List.cons_append, List.nil_append, List.append_nil])
local macro_rules | `(tactic| walk_at "wp") => `(tactic| try simp only [tSeq, tIfS, tRet, tOr, tAnd, tNot, tTest, tB, tOp, rI0, rI, rU, tCB, tCons, tNil, tVar, tC, tAsg, gName, tNext, tDrop, tOrV, tAndV, tNotV, tIf, tUn, tYes, wipe, tCall, tTup, tLst, tSl, tPart, tNoPart, tM0, tM1, tIsN, tNotN, tChain, tPar, tBM, tFld, tMeth,
  List.getElem?_cons_zero, List.getElem?_cons_succ, Option.some.injEq, exists_eq_left, exists_eq_left', V.str.injEq, V.int.injEq, V.bl.injEq, V.ref.injEq, List.cons.injEq, and_true, true_and, and_self, exists_and_left, exists_and_right, exists_eq_right, exists_eq, exists_const, reduceCtorEq, decide_eq_true_eq, decide_eq_false_iff_not, List.set_cons_zero, List.set_cons_succ, sg_inj, rEq_ss, rNe_ss, rEq_ii, rNe_ii, ↓reduceIte, Bool.false_eq_true, List.nil_append, List.cons_append, List.append_nil, not_true_eq_false, not_false_eq_true, Bool.not_eq_true', Bool.not_true, Bool.not_false, decide_true, decide_false, or_false, false_or, or_true, true_or, false_and, and_false])
/-- how long the word is that begins a list of signs -/
def wlen : List Nat → Nat
  | [] => 0
  | c :: r => if isW c = true then 1 + (r.takeWhile isW).length else if (c = 60 ∨ c = 62) ∧ r.head? = some 61 then 2 else 1
theorem wlen_eq (c : Nat) (r : List Nat) : wlen (c :: r) = if isW c = true then 1 + (r.takeWhile isW).length else if (c = 60 ∨ c = 62) ∧ r.head? = some 61 then 2 else 1 := rfl
theorem wlen_pos (c : Nat) (r : List Nat) : 1 ≤ wlen (c :: r) := by
  rw [wlen_eq]
  split
  · omega
  · split <;> omega
theorem wlen_le : ∀ l : List Nat, wlen l ≤ l.length
  | [] => Nat.le_refl _
  | c :: r => by
    rw [wlen_eq, List.length_cons]
    split
    · have h := (List.takeWhile_prefix (p := isW) (l := r)).length_le
      omega
    · split
      · rename_i h
        cases r with
        | nil => exact absurd h.2 (by simp)
        | cons d r => simp
      · omega
theorem cutS_nat (z : Str) (i j : Nat) : cutS z (some (i : Int)) (some (j : Int)) = ⟨((z.cps.toList.drop i).take (j - i)).toArray⟩ := by
  have e : z.length = z.cps.toList.length := by simp [Str.length]
  unfold cutS
  rw [HT.sIx_nat, HT.sIx_nat, e]
  congr 2
  by_cases h : i ≤ z.cps.toList.length
  · rw [Nat.min_eq_left h]
    by_cases h2 : j ≤ z.cps.toList.length
    · rw [Nat.min_eq_left h2]
    · rw [Nat.min_eq_right (by omega), List.take_of_length_le (by rw [List.length_drop]; omega), List.take_of_length_le (by rw [List.length_drop]; omega)]
  · rw [Nat.min_eq_right (show z.cps.toList.length ≤ i by omega), List.drop_eq_nil_of_le (Nat.le_refl _), List.drop_eq_nil_of_le (show z.cps.toList.length ≤ i by omega)]
    simp
theorem one_sign (r : List Nat) (c : Nat) : ((⟨(r.take 1).toArray⟩ : Str) = ⟨#[c]⟩) ↔ r.head? = some c := by
  cases r with
  | nil =>
    constructor
    · intro h
      have h2 := congrArg (fun z : Str => z.cps.toList) h
      simp at h2
    · intro h
      cases h
  | cons d r =>
    constructor
    · intro h
      have h2 := congrArg (fun z : Str => z.cps.toList) h
      simp at h2
      rw [h2] <;> rfl
    · intro h
      have e : d = c := Option.some.inj h
      rw [e] <;> rfl
/-- a line and a spot in it: the word's length -/
def spWlen : Sp := fun vs H Q _ => ∃ (z : Str) (k : Nat), vs = [.str z, .int k] ∧ z.length ≤ 100000 ∧ k < z.length ∧ Q (.int (wlen (z.cps.toList.drop k) : Nat)) H
theorem drop_at {α : Type} {l : List α} {k : Nat} (h : k < l.length) : ∃ c r, l.drop k = c :: r ∧ l[k]? = some c ∧ l.drop (k + 1) = r := by
  refine ⟨l[k], l.drop (k + 1), ?_, by simp [h], rfl⟩
  exact List.drop_eq_getElem_cons h
theorem tw_more {α : Type} {p : α → Bool} : ∀ {l : List α} {j : Nat} {c : α}, l[j]? = some c → j ≤ (l.takeWhile p).length → (p c = true → j + 1 ≤ (l.takeWhile p).length) ∧ (p c = false → (l.takeWhile p).length = j)
  | [], j, c, h, _ => by simp at h
  | a :: l, 0, c, h, _ => by
    have e : a = c := Option.some.inj h
    subst e
    refine ⟨fun q => ?_, fun q => ?_⟩
    · rw [List.takeWhile_cons_of_pos q]
      simp
    · rw [List.takeWhile_cons_of_neg (by rw [q]; exact Bool.false_ne_true)]
      rfl
  | a :: l, j + 1, c, h, hj => by
    cases q : p a with
    | false =>
      rw [List.takeWhile_cons_of_neg (by rw [q]; exact Bool.false_ne_true)] at hj
      exact absurd hj (by simp)
    | true =>
      rw [List.takeWhile_cons_of_pos q] at hj ⊢
      have ih := tw_more (p := p) (l := l) (j := j) (c := c) (by simpa using h) (by simpa using hj)
      refine ⟨fun z => ?_, fun z => ?_⟩
      · have := ih.1 z
        simpa using this
      · have := ih.2 z
        simpa using this
section
variable {P : Program} {w : World} {K : PySem.W.Frag} {mg : Str → Option Value} {base : Heap}
abbrev N_word_length : List Str := ["line", "spot", "end"]
abbrev P_word_length : List Str := ["line", "spot"]
theorem sc_word_length : FnScope N_word_length P_word_length (defScope s_word_length) := ⟨rfl, rfl, rfl, by decide +kernel, rfl, by decide +kernel, by decide +kernel⟩
theorem ok_word_length (T : Tx w K mg) : Cl P w K mg base 2 "word_length" P_word_length spWlen := by
  refine Cl.mk T.d_word_length rfl T.g_word_length sc_word_length (fun _ _ _ _ _ _ us hl => match us, hl with | [_, _], _ => rfl) (fun vs H Q E h => ?_) (fun cdv A outer s H vs Q E hr h => ?_)
  · obtain ⟨_, _, rfl, _⟩ := h
    rfl
  · obtain ⟨z, k, rfl, hz, hk, q⟩ := h
    refine ⟨_, (pss_cons (ps_if (pt_not (pt_val (pe_fn (ok_is_word_sign T) hr (by decide) (by rfl) (pa_cons (pe_ix ix_str (pv 0) (pv 1) (fun _ _ => rfl)) pa_nil)))) (pss_cons (ps_if ((pw_and (pt_cmpR op_in_sign (pe_ix ix_str (pv 0) (pv 1) (fun _ _ => rfl)) pe_str (by with_unfolding_all rfl)) (pw_and1 (pt_cmpR op_eq (pe_slice sl_str (pv 0) (po_some (pe_op op_add (pv 1) pe_int)) (po_some (pe_op op_add (pv 1) pe_int))) pe_str (nomark _))))).pt (pss_one (ps_ret pe_int)) pss_nil)
      (pss_one (ps_ret pe_int))) pss_nil)
      (pss_cons (ps_set (i := 2) sc_word_length.nd rfl (Or.inl rfl) (pe_op op_add (pv 1) pe_int))
      (pss_cons (ps_while (passes_of rfl) ((pw_and (pt_cmpR op_lt (pv 2) (pe_callB call_len_str (by rfl) T.f_len PySem.boot_len (pa_cons (pv 0) pa_nil)) (nomark _)) (pw_and1 (pt_val (pe_fn (ok_is_word_sign T) hr (by decide) (by rfl) (pa_cons (pe_ix ix_str (pv 0) (pv 2) (fun _ _ => rfl)) pa_nil)))))).pt (pss_one (ps_aug (i := 2) sc_word_length.nd rfl (Or.inl rfl) pe_int ip_add)))
      (pss_one (ps_ret (pe_op op_sub (pv 2) (pv 1))))))), ?_⟩
    walk_at "st"
    walk_at "wp"
    obtain ⟨c, r, e1, e2, e3⟩ := drop_at (l := z.cps.toList) (k := k) hk
    rw [e1] at q
    refine st_ixS hz (atI_nat e2) ?_
    unfold spSign
    walk_at "wp"
    cases ew : isW c with
    | false =>
      rw [if_pos rfl]
      rw [wlen_eq, ew, if_neg Bool.false_ne_true] at q
      refine st_ixS hz (atI_nat e2) ?_
      walk_at "wp"
      have em : c ∈ (Str.ofString "<>").cps.toList ↔ c = 60 ∨ c = 62 := by
        have e : (Str.ofString "<>").cps.toList = [60, 62] := by decide +kernel
        rw [e]
        simp
      by_cases h1 : c = 60 ∨ c = 62
      · rw [if_pos (em.mpr h1)]
        refine ⟨z, rfl, szL hz, ?_⟩
        rw [show cutS z (some ((k : Int) + 1)) (some ((k : Int) + 2)) = _ from cutS_nat z (k + 1) (k + 2), e3, show k + 2 - (k + 1) = 1 by omega]
        walk_at "wp"
        rw [show Str.ofString "=" = (⟨#[61]⟩ : Str) by decide +kernel]
        by_cases h2 : r.head? = some 61
        · rw [if_pos ⟨h1, h2⟩] at q
          rw [if_pos ((one_sign r 61).mpr h2)]
          exact q
        · rw [if_neg (fun z => h2 z.2)] at q
          rw [if_neg (fun z => h2 ((one_sign r 61).mp z))]
          exact q
      · rw [if_neg (fun z => h1 z.1)] at q
        rw [if_neg (fun z => h1 (em.mp z))]
        exact q
    | true =>
      rw [if_neg Bool.noConfusion]
      rw [wlen_eq, ew, if_pos rfl] at q
      refine ⟨fun m σ H' => H' = H ∧ ∃ j : Nat, m = r.length - j ∧ j ≤ (r.takeWhile isW).length ∧ σ = [some (V.str z), some (V.int k), some (V.int ((k + 1 + j : Nat) : Int))], ⟨r.length - 0, rfl, 0, rfl, Nat.zero_le _, rfl⟩, ?_⟩
      rintro m σ H' ⟨rfl, j, rfl, hj, rfl⟩
      walk_at "wp"
      refine ⟨szL hz, ?_⟩
      have hlen : z.length = k + 1 + r.length := by
        have h1 : (z.cps.toList.drop k).length = z.length - k := by rw [List.length_drop]; simp [Str.length]
        rw [e1, List.length_cons] at h1
        omega
      have htw := (List.takeWhile_prefix (p := isW) (l := r)).length_le
      have fin : ∀ j' : Nat, j' = (r.takeWhile isW).length → Q (V.int (((k + 1 + j' : Nat) : Int) - k)) H' := fun j' e => by
        rw [show (((k + 1 + j' : Nat) : Int) - k) = ((1 + (r.takeWhile isW).length : Nat) : Int) by omega]
        exact q
      by_cases h1 : (((k + 1 + j : Nat) : Int)) < z.length
      · rw [if_pos h1]
        have hjr : j < r.length := by omega
        have ex : z.cps.toList[k + 1 + j]? = r[j]? := by
          rw [← e3, List.getElem?_drop]
        have ex2 : z.cps.toList[k + 1 + j]? = some r[j] := by
          rw [ex]
          simp [hjr]
        have tm := tw_more (p := isW) (l := r) (j := j) (c := r[j]) (by simp [hjr]) hj
        refine st_ixS hz (atI_nat ex2) ?_
        walk_at "wp"
        cases ec : isW r[j] with
        | true =>
          rw [if_pos rfl]
          refine ⟨fun σ' H2 => ∃ m', m' < r.length - j ∧ (H2 = H' ∧ ∃ i : Nat, m' = r.length - i ∧ i ≤ (r.takeWhile isW).length ∧ σ' = [some (V.str z), some (V.int k), some (V.int ((k + 1 + i : Nat) : Int))]), fun _ _ h => h, ?_⟩
          refine ⟨_, rfl, _, _, rfl, rfl, ?_⟩
          exact ⟨r.length - (j + 1), by omega, rfl, j + 1, rfl, tm.1 ec, rfl⟩
        | false =>
          rw [if_neg Bool.false_ne_true]
          exact fin j (tm.2 ec).symm
      · rw [if_neg h1]
        exact fin j (by omega)
end
end K31
set_option Elab.async false
set_option linter.all false
set_option maxRecDepth 100000
set_option maxHeartbeats 4000000
namespace K31
open PySem PySem.Spec PyProof.Rows L2
/-! two lists side by side; rows of words in the heap; a comprehension whose elements are new objects -/
inductive F2 {α β : Type} (R : α → β → Prop) : List α → List β → Prop where
  | nil : F2 R [] []
  | cons {a : α} {b : β} {as : List α} {bs : List β} (h : R a b) (r : F2 R as bs) : F2 R (a :: as) (b :: bs)
section
variable {α β : Type} {R S : α → β → Prop}
theorem F2.imp (h : ∀ a b, R a b → S a b) : ∀ {as : List α} {bs : List β}, F2 R as bs → F2 S as bs
  | _, _, .nil => .nil
  | _, _, .cons x r => .cons (h _ _ x) (r.imp h)
theorem F2.len : ∀ {as : List α} {bs : List β}, F2 R as bs → as.length = bs.length
  | _, _, .nil => rfl
  | _, _, .cons _ r => congrArg (· + 1) r.len
theorem F2.app {cs : List α} {ds : List β} (q : F2 R cs ds) : ∀ {as : List α} {bs : List β}, F2 R as bs → F2 R (as ++ cs) (bs ++ ds)
  | _, _, .nil => q
  | _, _, .cons x r => .cons x (q.app r)
theorem F2.snoc {as : List α} {bs : List β} {a : α} {b : β} (r : F2 R as bs) (h : R a b) : F2 R (as ++ [a]) (bs ++ [b]) := F2.app (.cons h .nil) r
theorem F2.get : ∀ {as : List α} {bs : List β} {i : Nat} {b : β}, F2 R as bs → bs[i]? = some b → ∃ a, as[i]? = some a ∧ R a b
  | _, _, i, b, .nil, h => by simp at h
  | a :: _, c :: _, 0, b, .cons x r, h => by
    have e : c = b := Option.some.inj h
    subst e
    exact ⟨a, rfl, x⟩
  | _ :: _, _ :: _, i + 1, b, .cons x r, h => r.get (i := i) (by simpa using h)
theorem F2.get' : ∀ {as : List α} {bs : List β} {i : Nat} {a : α}, F2 R as bs → as[i]? = some a → ∃ b, bs[i]? = some b ∧ R a b
  | _, _, i, b, .nil, h => by simp at h
  | c :: _, b :: _, 0, a, .cons x r, h => by
    have e : c = a := Option.some.inj h
    subst e
    exact ⟨b, rfl, x⟩
  | _ :: _, _ :: _, i + 1, b, .cons x r, h => r.get' (i := i) (by simpa using h)
end
theorem F2.self {α β : Type} (f : β → α) : ∀ l : List β, F2 (fun a b => a = f b) (l.map f) l
  | [] => .nil
  | b :: l => .cons rfl (F2.self f l)
theorem F2.eqMap {α β : Type} {f : β → α} : ∀ {as : List α} {l : List β}, F2 (fun a b => a = f b) as l → as = l.map f
  | _, _, .nil => rfl
  | _, _, .cons h r => by
    rw [h, List.map_cons, F2.eqMap r]
theorem F2.zip1 {α β : Type} {R : α → β → Prop} : ∀ {as : List α} {bs : List β}, F2 R as bs → (as.zip bs).map Prod.fst = as
  | _, _, .nil => rfl
  | _, _, .cons h r => by rw [List.zip_cons_cons, List.map_cons, F2.zip1 r]
theorem F2.zip2 {α β : Type} {R : α → β → Prop} : ∀ {as : List α} {bs : List β}, F2 R as bs → (as.zip bs).map Prod.snd = bs
  | _, _, .nil => rfl
  | _, _, .cons h r => by rw [List.zip_cons_cons, List.map_cons, F2.zip2 r]
theorem F2.zipM {α β : Type} {R : α → β → Prop} : ∀ {as : List α} {bs : List β}, F2 R as bs → ∀ q ∈ as.zip bs, R q.1 q.2
  | _, _, .nil, q, h => by cases h
  | a :: as, b :: bs, .cons h r, q, m => by
    rw [List.zip_cons_cons] at m
    rcases List.mem_cons.mp m with rfl | m
    · exact h
    · exact F2.zipM r q m
theorem F2.mapR {α β γ : Type} {T : α → γ → Prop} {g : β → γ} : ∀ {as : List α} {bs : List β}, F2 (fun a b => T a (g b)) as bs → F2 T as (bs.map g)
  | _, _, .nil => .nil
  | _, _, .cons h r => .cons h (F2.mapR r)
/-- the tuple of a spot and a word -/
def TokAt (H : Hp) (v : V) (q : Nat × Str) : Prop := ∃ p, v = .ref p ∧ H p = some (.tup [.int (q.1 : Nat), .str q.2])
def RowAt (H : Hp) (a : Addr) (l : List (Nat × Str)) : Prop := ∃ vs, H a = some (.lst vs) ∧ F2 (TokAt H) vs l
def RowsAt (H : Hp) (a : Addr) (ls : List (List (Nat × Str))) : Prop := ∃ vs, H a = some (.lst vs) ∧ F2 (fun v l => ∃ p, v = .ref p ∧ RowAt H p l) vs ls
/-- the tuples, the lists of objects: what no mutation of pots, walks touches -/
def TkS : HO → Prop := fun o => (∃ xs, o = .tup xs) ∨ ∃ p vs, o = .lst (V.ref p :: vs) ∨ o = .lst []
theorem TokAt.kp {S : HO → Prop} {H H' : Hp} (e : Kp S H H') (hS : ∀ xs, S (.tup xs)) {v : V} {q : Nat × Str} (h : TokAt H v q) : TokAt H' v q := by
  obtain ⟨p, rfl, h⟩ := h
  exact ⟨p, rfl, e _ _ h (hS _)⟩
theorem RowAt.kp {S : HO → Prop} {H H' : Hp} (e : Kp S H H') (hS : ∀ xs, S (.tup xs)) (hL : ∀ vs l, F2 (TokAt H) vs l → S (.lst vs)) {a : Addr} {l : List (Nat × Str)} (h : RowAt H a l) : RowAt H' a l := by
  obtain ⟨vs, h1, h2⟩ := h
  exact ⟨vs, e _ _ h1 (hL _ _ h2), h2.imp fun _ _ => TokAt.kp e hS⟩
theorem RowAt.all {H H' : Hp} (e : Kp AllS H H') {a : Addr} {l : List (Nat × Str)} (h : RowAt H a l) : RowAt H' a l := h.kp e (fun _ => trivial) fun _ _ _ => trivial
theorem RowsAt.kp {S : HO → Prop} {H H' : Hp} (e : Kp S H H') (hS : ∀ xs, S (.tup xs)) (hL : ∀ vs l, F2 (TokAt H) vs l → S (.lst vs)) (hM : ∀ vs ls, F2 (fun v l => ∃ p, v = V.ref p ∧ RowAt H p l) vs ls → S (.lst vs)) {a : Addr} {l : List (List (Nat × Str))} (h : RowsAt H a l) : RowsAt H' a l := by
  obtain ⟨vs, h1, h2⟩ := h
  exact ⟨vs, e _ _ h1 (hM _ _ h2), h2.imp fun _ _ ⟨p, h3, h4⟩ => ⟨p, h3, h4.kp e hS hL⟩⟩
theorem RowsAt.all {H H' : Hp} (e : Kp AllS H H') {a : Addr} {l : List (List (Nat × Str))} (h : RowsAt H a l) : RowsAt H' a l := h.kp e (fun _ => trivial) (fun _ _ _ => trivial) fun _ _ _ => trivial
/-- a heap without what stands at D -/
def hid (D : Addr) (H : Hp) : Hp := fun a => if a = D then none else H a
theorem hid_ne {D a : Addr} {H : Hp} (h : a ≠ D) : hid D H a = H a := if_neg h
theorem hid_at {D : Addr} {H : Hp} : hid D H D = none := if_pos rfl
theorem hid_upd {D : Addr} {H : Hp} {o : HO} : hid D (upd H D o) = hid D H := by
  funext a
  by_cases h : a = D
  · rw [h, hid_at, hid_at]
  · rw [hid_ne h, hid_ne h, upd_ne h]
theorem Kp.hidI {S : HO → Prop} {H H1 : Hp} {D : Addr} (e : Kp S H H1) (h : H D = Option.none) : Kp S H (hid D H1) := fun a o q s => by
  rw [hid_ne (ne_of_none q h)]
  exact e a o q s
theorem Kp.hid2 {S : HO → Prop} {H H1 : Hp} {D : Addr} (e : Kp S H H1) : Kp S (hid D H) (hid D H1) := fun a o q s => by
  by_cases h : a = D
  · rw [h, hid_at] at q
    cases q
  · rw [hid_ne h] at q ⊢
    exact e a o q s
theorem Kp.hidO {S : HO → Prop} {H H1 : Hp} {D : Addr} (e : Kp S H (hid D H1)) : Kp S H H1 := fun a o q s => by
  have h2 := e a o q s
  by_cases h : a = D
  · rw [h, hid_at] at h2
    cases h2
  · rw [hid_ne h] at h2
    exact h2
theorem Kp.nn {H H' : Hp} (e : Kp AllS H H') {p : Addr} (h : H' p = Option.none) : H p = Option.none := Kp.none (S := AllS) e h
theorem st_tup2 {K : PySem.W.Frag} {a : Addr} {x y : V} {i j : Nat} {σ : L2.St} {H : Hp} {Q : L2.St → Hp → Prop} (h : SqT K H a [x, y]) (q : Q ((σ.set i (some x)).set j (some y)) H) : gTup K 2 (gCons (gName i) (gCons (gName j) gNil)) (.ref a) σ H Q :=
  ⟨a, _, rfl, h, rfl, _, _, rfl, _, _, rfl, rfl, q⟩
theorem st_tup3 {K : PySem.W.Frag} {a : Addr} {x y z : V} {i j k : Nat} {σ : L2.St} {H : Hp} {Q : L2.St → Hp → Prop} (h : SqT K H a [x, y, z]) (q : Q (((σ.set i (some x)).set j (some y)).set k (some z)) H) : gTup K 3 (gCons (gName i) (gCons (gName j) (gCons (gName k) gNil))) (.ref a) σ H Q :=
  ⟨a, _, rfl, h, rfl, _, _, rfl, _, _, rfl, _, _, rfl, rfl, q⟩
theorem st_unl3 {K : PySem.W.Frag} {a : Addr} {x y z : V} {i j k : Nat} {σ : L2.St} {H : Hp} {Q : L2.St → Hp → Prop} (h : SqL K H a [x, y, z]) (q : Q (((σ.set i (some x)).set j (some y)).set k (some z)) H) : gUnl K 3 (gCons (gName i) (gCons (gName j) (gCons (gName k) gNil))) (.ref a) σ H Q :=
  ⟨a, _, rfl, h, rfl, _, _, rfl, _, _, rfl, _, _, rfl, rfl, q⟩
/-- a while's next turn, closed -/
theorem mkN (Iv : Nat → L2.St → Hp → Prop) (m : Nat) : ∃ N : L2.St → Hp → Prop, (∀ σ' H', N σ' H' → ∃ m', m' < m ∧ Iv m' σ' H') ∧ ∀ m' σ' H', m' < m → Iv m' σ' H' → N σ' H' := ⟨_, fun _ _ h => h, fun m' _ _ a b => ⟨m', a, b⟩⟩
/-- an invariant, closed -/
theorem mkI {α : Type} (I : α → L2.St → Hp → Prop) : ∃ Iv : α → L2.St → Hp → Prop, ∀ m σ H, Iv m σ H ↔ I m σ H := ⟨I, fun _ _ _ => Iff.rfl⟩
theorem st_app {l : Addr} {xs : List V} {v : V} {H : Hp} {Q : VK} (h : H l = some (.lst xs)) (hz : xs.length < 100000) (q : Q .non (upd H l (.lst (xs ++ [v])))) : rAppend (.ref l) [v] H Q := ⟨l, xs, v, rfl, rfl, h, szT hz, q⟩
theorem st_tyL {K : PySem.W.Frag} {l : Addr} {xs : List V} {H : Hp} (h : H l = some (.lst xs)) : tyV K "list" (.ref l) H := .inl ⟨rfl, xs, SqL.of h⟩
/-- a row is no part of a list that grows -/
theorem RowAt.updL {H : Hp} {D a : Addr} {acc : List V} {l : List (Nat × Str)} (h : RowAt H a l) (hD : H D = some (.lst acc)) (n : a ≠ D) (u : HO) : RowAt (upd H D u) a l := by
  obtain ⟨vs, h1, h2⟩ := h
  refine ⟨vs, by rw [upd_ne n]; exact h1, h2.imp ?_⟩
  rintro v q ⟨p, rfl, h⟩
  exact ⟨p, rfl, by rw [upd_ne (fun z => by rw [z, hD] at h; cases h)]; exact h⟩
/-- one turn of a comprehension: R tells what it adds -/
def LrTurn (g : TG) (te : TE) (vs : List Nat) (σ : L2.St) (x : V) (H0 H' : Hp) (R : V → Hp → Prop) (D : Addr) : Prop :=
  ∀ (Yv : V → Hp → Prop), (∀ y H4, Kp AllS H0 H4 → (∀ u, R y (upd H4 D u)) → Yv y H4) → g x (wipe σ vs) H' fun σ2 H2 => wipe σ2 vs = wipe σ vs ∧ te σ2 H2 Yv
theorem upd_upd {H : Hp} {D : Addr} {o u : HO} : upd (upd H D o) D u = upd H D u := by
  funext a
  by_cases h : a = D
  · subst h
    rw [upd_same, upd_same]
  · rw [upd_ne h, upd_ne h, upd_ne h]
theorem Kp.upd2 {S : HO → Prop} {H H' : Hp} (e : Kp S H H') {D : Addr} {u : HO} : Kp S (upd H D u) (upd H' D u) := fun a o h s => by
  by_cases q : a = D
  · subst q
    rw [upd_same] at h ⊢
    exact h
  · rw [upd_ne q] at h ⊢
    exact e a o h s
theorem Kp.hide {H H1 : Hp} {D : Addr} (e : Kp AllS H (fun a => if a = D then Option.none else H1 a)) : Kp AllS H H1 := fun a o h _ => by
  have h2 : (if a = D then Option.none else H1 a) = some o := e a o h trivial
  by_cases q : a = D
  · rw [if_pos q] at h2
    cases h2
  · rw [if_neg q] at h2
    exact h2
/-- a comprehension's turns over an iterator -/
abbrev lcAt (J : It) (g : TG) (tt : TT) (te : TE) (vs : List Nat) (σ : L2.St) (H1 : Hp) (Q : VK) : Prop := ∀ D, H1 D = none → ∃ W : Nat → Nat → Hp → Prop, (∃ m, W 0 m (upd H1 D (.lst []))) ∧ ∀ i m H, W i m H →
  (J.stop i H ∧ Q (.ref D) H) ∨ (J.go i H ∧ ∃ Nx : Hp → Prop, (∀ H', Nx H' → ∃ m', m' < m ∧ W (i + 1) m' H') ∧ ∀ x H', J.yld i H x H' → g x (wipe σ vs) H' fun σ2 H2 => wipe σ2 vs = wipe σ vs ∧ tt σ2 H2 fun b H3 =>
    if b = true then te σ2 H3 fun y H4 => ∃ acc, H4 D = some (.lst acc) ∧ acc.length < sizeLine ∧ Nx (upd H4 D (.lst (acc ++ [y]))) else Nx H3)
/-- over a list whose items are told by f -/
theorem lc_lstR0 {ι : Type} {l : List ι} {f : ι → V} {K : PySem.W.Frag} {a : Addr} {σ : L2.St} {H : Hp} {Q : VK} {g : TG} {te : TE} {vs : List Nat} (R : ι → V → Hp → Prop) (hz : l.length ≤ 100000) (ha : SqL K H a (l.map f))
    (mono : ∀ x y H1 H2, Kp AllS H1 H2 → R x y H1 → R x y H2)
    (hs : ∀ x H1 D, x ∈ l → Kp AllS H H1 → H D = none → (∃ acc, H1 D = some (.lst acc)) → LrTurn g te vs σ (f x) H1 H1 (R x) D)
    (hd : ∀ p H1 ys, H p = none → Kp AllS H H1 → H1 p = some (.lst ys) → F2 (fun y x => R x y H1) ys l → Q (.ref p) H1) : lcAt (Itl K a) g tYes te vs σ H Q := by
  intro D hD
  have e0 : (l.map f).length = l.length := List.length_map f
  have hw : Walk (Itl K a) l.length (fun H => SqL K H a (l.map f)) (YAt (l.map f)) := by
    rw [← e0]
    exact walk_list (xs := l.map f)
  refine lc_it hw (fun i H1 => i ≤ l.length ∧ Kp AllS H (fun a => if a = D then none else H1 a) ∧ ∃ ys, H1 D = some (.lst ys) ∧ ∀ u, F2 (fun y x => R x y (upd H1 D u)) ys (l.take i)) ⟨Nat.zero_le _, ?_, [], upd_same, fun u => by rw [List.take_zero]; exact .nil⟩ (fun i H1 _ p => Kp.seq (Kp.hide p.2.1) ha) (fun i x H1 H' hi p y => ?_) (fun H1 p => ?_)
  · intro a o h _
    have q : a ≠ D := fun e => by rw [e, hD] at h; cases h
    show (if a = D then none else upd H D _ a) = some o
    rw [if_neg q, upd_ne q]
    exact h
  · obtain ⟨rfl, y⟩ := y
    obtain ⟨b, hb⟩ : ∃ b, l[i]? = some b := ⟨l[i], by simp [hi]⟩
    rw [List.getElem?_map, hb] at y
    have e : f b = x := Option.some.inj y
    subst e
    obtain ⟨_, p2, ys, p3, p4⟩ := p
    have ly := (p4 (.lst [])).len
    refine hs b H' D (List.mem_of_getElem? hb) (Kp.hide p2) hD ⟨_, p3⟩ _ (fun y H4 e r => ⟨ys, e _ _ p3 trivial, szT (by rw [ly]; have := List.length_take_le i l; omega), hi, ?_, _, upd_same, fun u => ?_⟩)
    · intro a o h _
      have h2 := p2 a o h trivial
      by_cases q : a = D
      · replace h2 : (if a = D then none else H' a) = some o := h2
        rw [if_pos q] at h2
        cases h2
      · replace h2 : (if a = D then none else H' a) = some o := h2
        rw [if_neg q] at h2
        show (if a = D then none else upd H4 D _ a) = some o
        rw [if_neg q, upd_ne q]
        exact e _ _ h2 trivial
    · rw [upd_upd, List.take_succ, hb]
      exact (F2.imp (fun y x h => mono x y _ _ e.upd2 h) (p4 u)).snoc (r u)
  · obtain ⟨_, p2, ys, p3, p4⟩ := p
    refine hd D H1 ys hD (Kp.hide p2) p3 ?_
    have h := p4 (.lst ys)
    rw [List.take_length] at h
    have e : upd H1 D (.lst ys) = H1 := by
      funext a
      by_cases q : a = D
      · rw [q, upd_same, p3]
      · rw [upd_ne q]
    rw [e] at h
    exact h
theorem lc_lstR {ι : Type} {l : List ι} {f : ι → V} {K : PySem.W.Frag} {k : Nat} {a : Addr} {σ : L2.St} {H : Hp} {Q : VK} {g : TG} {te : TE} {vs : List Nat} (R : ι → V → Hp → Prop) (hz : l.length ≤ 100000) (hk : σ[k]? = some (some (.ref a))) (ha : SqL K H a (l.map f))
    (mono : ∀ x y H1 H2, Kp AllS H1 H2 → R x y H1 → R x y H2)
    (hs : ∀ x H1 D, x ∈ l → Kp AllS H H1 → H D = none → (∃ acc, H1 D = some (.lst acc)) → LrTurn g te vs σ (f x) H1 H1 (R x) D)
    (hd : ∀ p H1 ys, H p = none → Kp AllS H H1 → H1 p = some (.lst ys) → F2 (fun y x => R x y H1) ys l → Q (.ref p) H1) : tLc (iList K (tVar k)) g tYes te vs σ H Q := ⟨_, hk, a, rfl, ⟨_, ha⟩, lc_lstR0 R hz ha mono hs hd⟩
/-- .. each told by a function -/
theorem lc_lst0 {ι : Type} {l : List ι} {f : ι → V} {K : PySem.W.Frag} {σ : L2.St} {H : Hp} {Q : VK} {g : TG} {tt : TT} {te : TE} {vs : List Nat} {a : Addr} (r : ι → Option V) (hz : l.length ≤ 100000) (ha : SqL K H a (l.map f)) (hs : ∀ x H1, x ∈ l → Kp AllS H H1 → LcTurn g tt te vs σ (f x) H1 H1 (r x))
    (hd : ∀ p H1, H p = none → Kp AllS H H1 → H1 p = some (.lst (l.filterMap r)) → Q (.ref p) H1) : lcAt (Itl K a) g tt te vs σ H Q := by
  intro D hD
  have e0 : (l.map f).length = l.length := List.length_map f
  have hw : Walk (Itl K a) l.length (fun H => SqL K H a (l.map f)) (YAt (l.map f)) := by
    rw [← e0]
    exact walk_list (xs := l.map f)
  refine lc_gen (l := l) (w := hw) r hz hD (fun H' k => Same.seq (fun b o q => k b o q trivial) ha) (fun i b x H1 H' hi k y => ?_) (fun H1 k q => hd D H1 hD k q)
  obtain ⟨rfl, y⟩ := y
  rw [List.getElem?_map, hi] at y
  have e : f b = x := Option.some.inj y
  subst e
  exact hs b H' (List.mem_of_getElem? hi) k
end K31
set_option Elab.async false
set_option linter.all false
set_option maxRecDepth 100000
set_option maxHeartbeats 4000000
namespace K31
open PySem PySem.Spec PyProof.Rows L2
/-! lines and their words -/
local macro_rules | `(tactic| walk_at "st") => `(tactic| try simp only [L2.start, List.map_cons, List.map_nil, List.length_cons, List.length_nil, Nat.reduceAdd, Nat.reduceSub, Nat.add_zero, Nat.zero_add, List.replicate, List.cons_append, List.nil_append, List.append_nil])
local macro_rules | `(tactic| walk_at "wp") => `(tactic| try simp only [tSeq, tIfS, tRet, tOr, tAnd, tNot, tTest, tB, tOp, rI0, rI, rU, tCB, tCons, tNil, tVar, tC, tAsg, gName, tNext, tDrop, tOrV, tAndV, tNotV, tIf, tUn, tYes, wipe, tCall, tTup, tLst, tSl, tPart, tNoPart, tM0, tM1, tIsN, tNotN, tChain, tPar, tBM, tFld, tMeth,
  List.getElem?_cons_zero, List.getElem?_cons_succ, Option.some.injEq, exists_eq_left, exists_eq_left', V.str.injEq, V.int.injEq, V.bl.injEq, V.ref.injEq, List.cons.injEq, and_true, true_and, and_self, exists_and_left, exists_and_right, exists_eq_right, exists_eq, exists_const, reduceCtorEq, decide_eq_true_eq, decide_eq_false_iff_not, List.set_cons_zero, List.set_cons_succ, sg_inj, rEq_ss, rNe_ss, rEq_ii, rNe_ii, ↓reduceIte, Bool.false_eq_true, List.nil_append, List.cons_append, List.append_nil, not_true_eq_false, not_false_eq_true, Bool.not_eq_true', Bool.not_true, Bool.not_false, decide_true, decide_false, or_false, false_or, or_true, true_or, false_and, and_false])
/-- the words of a list of signs that begins at spot s -/
inductive Tk : Nat → List Nat → List (Nat × Str) → Prop where
  | nil (s : Nat) : Tk s [] []
  | sp {s : Nat} {r : List Nat} {l : List (Nat × Str)} (h : Tk (s + 1) r l) : Tk s (32 :: r) l
  | wd {s c : Nat} {r : List Nat} {l : List (Nat × Str)} (n : c ≠ 32) (h : Tk (s + wlen (c :: r)) ((c :: r).drop (wlen (c :: r))) l) : Tk s (c :: r) ((s, ⟨((c :: r).take (wlen (c :: r))).toArray⟩) :: l)
/-- a line without its remark -/
def toldOf (z : Str) : List Nat := z.cps.toList.takeWhile fun c => decide (c ≠ 35)
/-- the row of a line -/
def RowOf (z : Str) (l : List (Nat × Str)) : Prop := ∃ l0, Tk 0 (toldOf z) l0 ∧ l = l0 ++ [(z.length, ("" : Str))]
theorem tk_len : ∀ {s : Nat} {t : List Nat} {l : List (Nat × Str)}, Tk s t l → l.length ≤ t.length
  | _, _, _, .nil s => Nat.le_refl _
  | _, _, _, .sp h => Nat.le_succ_of_le (tk_len h)
  | _, _, _, .wd (c := c) (r := r) n h => by
    have h1 := tk_len h
    have h2 := wlen_pos c r
    have h3 := wlen_le (c :: r)
    rw [List.length_drop] at h1
    rw [List.length_cons]
    omega
theorem told_len (z : Str) : (toldOf z).length ≤ z.length := by
  have h := (List.takeWhile_prefix (p := fun c : Nat => decide (c ≠ 35)) (l := z.cps.toList)).length_le
  simpa [Str.length, toldOf] using h
theorem part_told (z : Str) : (Txt.partition z "#").1 = ⟨(toldOf z).toArray⟩ := by
  have ey : TL.tl "#" = 35 :: [] := by decide +kernel
  have hn : 35 ∉ toldOf z := fun h => by
    have h2 := List.all_takeWhile (p := fun c : Nat => decide (c ≠ 35)) (l := z.cps.toList)
    have h3 := List.all_eq_true.mp h2 35 h
    simp at h3
  have e := List.takeWhile_append_dropWhile (p := fun c : Nat => decide (c ≠ 35)) (l := z.cps.toList)
  cases hd : z.cps.toList.dropWhile (fun c : Nat => decide (c ≠ 35)) with
  | nil =>
    rw [hd, List.append_nil] at e
    have e2 : toldOf z = TL.tl z := e
    rw [e2] at hn ⊢
    rw [TL.partition_none ey hn]
  | cons c r =>
    have hc : c = 35 := by
      have h4 := List.head?_dropWhile_not (p := fun c : Nat => decide (c ≠ 35)) z.cps.toList
      rw [hd] at h4
      simpa using h4
    subst hc
    rw [hd] at e
    have e3 : z = (⟨(toldOf z).toArray⟩ : Str) ++ "#" ++ ⟨r.toArray⟩ := by
      refine TL.ext_tl ?_
      rw [TL.tl_append, TL.tl_append, ey]
      show z.cps.toList = toldOf z ++ [35] ++ r
      rw [List.append_assoc]
      exact e.symm
    have h5 := TL.partition_app (y := "#") ey (a := ⟨(toldOf z).toArray⟩) (b := ⟨r.toArray⟩) (by simpa [TL.tl] using hn)
    rw [← e3] at h5
    rw [h5]
/-- a line, its row -/
def spWol : Sp := fun vs H Q _ => ∃ (z : Str) (l : List (Nat × Str)), vs = [.str z] ∧ z.length ≤ 50000 ∧ RowOf z l ∧ ∀ r H', H r = none → Kp AllS H H' → RowAt H' r l → Q (.ref r) H'
section
variable {P : Program} {w : World} {K : PySem.W.Frag} {mg : Str → Option Value} {base : Heap}
abbrev N_words_of_line : List Str := ["line", "told", "words", "spot", "long"]
abbrev P_words_of_line : List Str := ["line"]
theorem sc_words_of_line : FnScope N_words_of_line P_words_of_line (defScope s_words_of_line) := ⟨rfl, rfl, rfl, by decide +kernel, rfl, by decide +kernel, by decide +kernel⟩
theorem ok_words_of_line (T : Tx w K mg) : Cl P w K mg base 3 "words_of_line" P_words_of_line spWol := by
  refine Cl.mk T.d_words_of_line rfl T.g_words_of_line sc_words_of_line (fun _ _ _ _ _ _ us hl => match us, hl with | [_], _ => rfl) (fun vs H Q E h => ?_) (fun cdv A outer s H vs Q E hr h => ?_)
  · obtain ⟨_, _, rfl, _⟩ := h
    rfl
  · obtain ⟨z, l, rfl, hz, ⟨l0, ht, rfl⟩, q⟩ := h
    refine ⟨_, (pss_cons (ps_set (i := 1) sc_words_of_line.nd rfl (Or.inl rfl) (pe_ix ix_tup (pe_partition (pv 0) pe_str) pe_int (fun _ _ => rfl)))
      (pss_cons (ps_set (i := 2) sc_words_of_line.nd rfl (Or.inl rfl) (pe_lst pa_nil))
      (pss_cons (ps_set (i := 3) sc_words_of_line.nd rfl (Or.inl rfl) pe_int)
      (pss_cons (ps_while (passes_of rfl) (pt_cmpR op_lt (pv 3) (pe_callB call_len_str (by rfl) T.f_len PySem.boot_len (pa_cons (pv 1) pa_nil)) (nomark _)) (pss_one (ps_if (pt_cmpR op_eq (pe_ix ix_str (pv 1) (pv 3) (fun _ _ => rfl)) pe_str (nomark _)) (pss_one (ps_aug (i := 3) sc_words_of_line.nd rfl (Or.inl rfl) pe_int ip_add)) (pss_cons (ps_set (i := 4) sc_words_of_line.nd rfl (Or.inl rfl) (pe_fn (ok_word_length T) hr (by decide) (by rfl) (pa_cons (pv 1) (pa_cons (pv 3) pa_nil))))
      (pss_cons (ps_expr (pe_bm PySem.F.plainAttrs_list PySem.F.slot_list_append PySem.F.type_list_append mt_append (pv 2) (pa_cons (pe_tup (pa_cons (pv 3) (pa_cons (pe_slice sl_str (pv 1) (po_some (pv 3)) (po_some (pe_op op_add (pv 3) (pv 4)))) pa_nil))) pa_nil)))
      (pss_one (ps_aug (i := 3) sc_words_of_line.nd rfl (Or.inl rfl) (pv 4) ip_add)))))))
      (pss_cons (ps_expr (pe_bm PySem.F.plainAttrs_list PySem.F.slot_list_append PySem.F.type_list_append mt_append (pv 2) (pa_cons (pe_tup (pa_cons (pe_callB call_len_str (by rfl) T.f_len PySem.boot_len (pa_cons (pv 0) pa_nil)) (pa_cons pe_str pa_nil))) pa_nil)))
      (pss_one (ps_ret (pv 2)))))))), ?_⟩
    walk_at "st"
    walk_at "wp"
    refine ⟨⟨_, rfl⟩, by decide +kernel, szL (by omega), ?_⟩
    (intro p hp; generalize hg0 : upd _ p _ = H1; obtain ⟨e1, h1⟩ := upd_ex hp hg0; clear hg0)
    refine st_ixT (sqT h1) (atI_nat (j := 0) (List.getElem?_cons_zero)) ?_
    rw [part_told]
    generalize etl : toldOf z = tl at ht ⊢
    have htl : tl.length ≤ 50000 := by
      have := told_len z
      rw [etl] at this
      omega
    refine ⟨Nat.zero_le _, ?_⟩
    (intro D hD; generalize hg0 : upd _ D _ = H2; obtain ⟨e2, h2⟩ := upd_ex hD hg0; clear hg0)
    have hD0 : H D = none := e1.nn hD
    replace e2 := e1.trans e2
    clear e1 h1 hD
    have etz : (⟨tl.toArray⟩ : Str).length = tl.length := by simp [Str.length]
    obtain ⟨Iv, hI⟩ := mkI fun (m : Nat) σ H' => ∃ (s : Nat) (d r : List (Nat × Str)) (o : Option V) (vs : List V), m = tl.length - s ∧ s ≤ tl.length ∧ σ = [some (V.str z), some (V.str ⟨tl.toArray⟩), some (V.ref D), some (V.int s), o] ∧ Kp AllS H (hid D H') ∧ H' D = some (.lst vs) ∧ F2 (TokAt H') vs d ∧ Tk s (tl.drop s) r ∧ d ++ r = l0
    refine ⟨Iv, ⟨_, (hI _ _ _).mpr ⟨0, [], l0, none, [], rfl, Nat.zero_le _, rfl, Kp.hidI e2 hD0, h2, .nil, ht, rfl⟩⟩, ?_⟩
    intro m σ H' hm
    obtain ⟨s, d, r, o, vs, rfl, hs, rfl, e3, h3, f3, t3, hdr⟩ := (hI _ _ _).mp hm
    walk_at "wp"
    refine ⟨szL (by rw [etz]; omega), ?_⟩
    rw [etz]
    have lv := f3.len
    have lr := tk_len t3
    have ld := congrArg List.length hdr
    rw [List.length_append] at ld
    have l0l := tk_len ht
    obtain ⟨N, hN1, hN2⟩ := mkN Iv (tl.length - s)
    by_cases c1 : (s : Int) < tl.length
    · rw [if_pos c1]
      obtain ⟨c, rr, g1, g2, g3⟩ := drop_at (l := tl) (k := s) (by omega)
      rw [g1] at t3
      refine ⟨N, hN1, ?_⟩
      refine st_ixS (z := ⟨tl.toArray⟩) (by rw [etz]; omega) (atI_nat (by simpa using g2)) ?_
      rw [show Str.ofString " " = (⟨#[32]⟩ : Str) by decide +kernel]
      walk_at "wp"
      by_cases c2 : c = 32
      · rw [if_pos c2]
        subst c2
        cases t3 with
        | wd n _ => exact absurd rfl n
        | sp t4 =>
          refine ⟨_, rfl, _, _, rfl, rfl, ?_⟩
          exact hN2 (tl.length - (s + 1)) _ _ (by omega) ((hI _ _ _).mpr ⟨s + 1, d, r, o, vs, rfl, by omega, rfl, e3, h3, f3, by rw [g3]; exact t4, hdr⟩)
      · rw [if_neg c2]
        cases t3 with
        | sp t4 => exact absurd rfl c2
        | @wd _ _ _ l4 n t4 =>
          have wp := wlen_pos c rr
          have wl := wlen_le (c :: rr)
          have ll := congrArg List.length g1
          rw [List.length_drop] at ll
          refine ⟨_, s, rfl, by rw [etz]; omega, by rw [etz]; omega, ?_⟩
          show _ ∧ _
          rw [show (List.drop s (Str.mk tl.toArray).cps.toList) = c :: rr by simpa using g1]
          refine ⟨st_tyL h3, ?_⟩
          walk_at "wp"
          refine ⟨_, rfl, szL (by rw [etz]; omega), ?_⟩
          rw [show ((s : Int) + (wlen (c :: rr) : Nat)) = ((s + wlen (c :: rr) : Nat) : Int) by omega, cutS_nat, show s + wlen (c :: rr) - s = wlen (c :: rr) by omega, show (List.drop s (Str.mk tl.toArray).cps.toList) = c :: rr by simpa using g1]
          refine ⟨szL (by show 2 ≤ 100000; omega), ?_⟩
          (intro p5 hp5; generalize hg0 : upd _ p5 _ = H5; obtain ⟨e5, h5⟩ := upd_ex hp5 hg0; clear hg0)
          have q5 := e5 _ _ h3 trivial
          have nD : p5 ≠ D := fun z => by rw [z, h3] at hp5; cases hp5
          refine st_app q5 (by rw [lv]; omega) ?_
          refine ⟨_, rfl, _, rfl, _, _, rfl, rfl, ?_⟩
          refine hN2 (tl.length - (s + wlen (c :: rr))) _ _ (by omega) ((hI _ _ _).mpr ⟨s + wlen (c :: rr), d ++ [(s, (⟨((c :: rr).take (wlen (c :: rr))).toArray⟩ : Str))], l4, _, _, rfl, by omega, rfl, ?_, upd_same, F2.snoc (f3.imp fun a b => ?_) ⟨p5, rfl, ?_⟩, ?_, ?_⟩)
          · rw [hid_upd]
            exact e3.trans e5.hid2
          · rintro ⟨p6, rfl, h6⟩
            have n6 : p6 ≠ D := fun z => by rw [z, h3] at h6; cases h6
            exact ⟨p6, rfl, by rw [upd_ne n6]; exact e5 _ _ h6 trivial⟩
          · rw [upd_ne nD]
            exact h5
          · rw [← List.drop_drop, g1]
            exact t4
          · rw [List.append_assoc]
            exact hdr
    · rw [if_neg c1]
      have ed : tl.drop s = [] := List.drop_eq_nil_of_le (by omega)
      rw [ed] at t3
      cases t3
      refine ⟨st_tyL h3, szL (by omega), szL (by show 2 ≤ 100000; omega), ?_⟩
      rw [List.append_nil] at hdr
      subst hdr
      (intro p5 hp5; generalize hg0 : upd _ p5 _ = H5; obtain ⟨e5, h5⟩ := upd_ex hp5 hg0; clear hg0)
      have q5 := e5 _ _ h3 trivial
      have nD : p5 ≠ D := fun z => by rw [z, h3] at hp5; cases hp5
      refine st_app q5 (by rw [lv]; omega) ?_
      refine q D _ hD0 (Kp.mut (e3.hidO.trans e5) hD0) ⟨_, upd_same, F2.snoc (f3.imp fun a b => ?_) ⟨p5, rfl, ?_⟩⟩
      · rintro ⟨p6, rfl, h6⟩
        have n6 : p6 ≠ D := fun z => by rw [z, h3] at h6; cases h6
        exact ⟨p6, rfl, by rw [upd_ne n6]; exact e5 _ _ h6 trivial⟩
      · rw [upd_ne nD]
        exact h5
end
/-- a text and the rows of its lines -/
def TextOf (z : Str) (rows : List (List (Nat × Str))) : Prop := z.length ≤ 50000 ∧ (Txt.split z "\n").length ≤ 50000 ∧ (∀ l ∈ Txt.split z "\n", l.length ≤ 50000) ∧ F2 RowOf (Txt.split z "\n") rows
def spLines : Sp := fun vs H Q _ => ∃ (z : Str) (rows : List (List (Nat × Str))), vs = [.str z] ∧ TextOf z rows ∧ ∀ r H', H r = none → Kp AllS H H' → RowsAt H' r rows → Q (.ref r) H'
section
variable {P : Program} {w : World} {K : PySem.W.Frag} {mg : Str → Option Value} {base : Heap}
abbrev N_lines : List Str := ["text", "line"]
abbrev P_lines : List Str := ["text"]
theorem sc_lines : FnScope N_lines P_lines (defScope s_lines) := ⟨rfl, rfl, rfl, by decide +kernel, rfl, by decide +kernel, by decide +kernel⟩
theorem ok_lines (T : Tx w K mg) : Cl P w K mg base 4 "lines" P_lines spLines := by
  refine Cl.mk T.d_lines rfl T.g_lines sc_lines (fun _ _ _ _ _ _ us hl => match us, hl with | [_], _ => rfl) (fun vs H Q E h => ?_) (fun cdv A outer s H vs Q E hr h => ?_)
  · obtain ⟨_, _, rfl, _⟩ := h
    rfl
  · obtain ⟨z, rows, rfl, ⟨hz, hn, hl, hf⟩, q⟩ := h
    refine ⟨_, (pss_one (ps_ret (pe_lc (own := [("line", 1)]) (g := (gName 1)) rfl sc_lines.nd (pi_list (pe_split (pv 0) pe_str)) (blkOk_by (own := [("line", 1)]) (N := N_lines) (sc := defScope s_lines) (by decide +kernel)) (fun _ _ _ _ _ => (pg_name (i := 1) sc_lines.nd rfl (Or.inl rfl))) (fun _ _ _ _ _ => pts_nil) (fun _ _ _ _ _ => (pe_fn (ok_words_of_line T) hr (by decide) (by rfl) (pa_cons (pv 1) pa_nil)))))), ?_⟩
    walk_at "st"
    walk_at "wp"
    refine ⟨_, rfl, ⟨_, rfl⟩, z, rfl, _, rfl, by decide +kernel, szL (by omega), ?_⟩
    (intro p hp; generalize hg0 : upd _ p _ = H1; obtain ⟨e1, h1⟩ := upd_ex hp hg0; clear hg0)
    have ez := hf.zip1
    have lz : ((Txt.split z "\n").zip rows).length ≤ 100000 := by
      have := congrArg List.length ez
      rw [List.length_map] at this
      omega
    refine ⟨p, rfl, ⟨_, sqS h1⟩, lc_lstR0 (l := (Txt.split z "\n").zip rows) (f := fun x => V.str x.1) (fun x v H => ∃ r, v = .ref r ∧ RowAt H r x.2) lz ?_ ?_ ?_ ?_⟩
    · rw [show ((Txt.split z "\n").zip rows).map (fun x => V.str x.1) = (((Txt.split z "\n").zip rows).map Prod.fst).map V.str by rw [List.map_map] <;> rfl, ez]
      exact sqS h1
    · rintro x y H2 H3 e ⟨r, rfl, b⟩
      exact ⟨r, rfl, b.all e⟩
    · intro x H2 D hx e2 hD hD2 Yv hy
      have hro := hf.zipM x hx
      obtain ⟨acc, hD2⟩ := hD2
      walk_at "wp"
      refine ⟨x.1, x.2, rfl, hl x.1 (by rw [← ez]; exact List.mem_map_of_mem hx), hro, fun r H3 hr e3 h3 => hy _ _ e3 fun u => ⟨r, rfl, h3.updL (e3 _ _ hD2 trivial) (fun z => by rw [z, hD2] at hr; cases hr) u⟩⟩
    · intro r H2 ys hr0 e2 h2 f2
      refine q r H2 (e1.nn hr0) (e1.trans e2) ⟨ys, h2, ?_⟩
      have f3 := F2.mapR (T := fun y row => ∃ r, y = V.ref r ∧ RowAt H2 r row) (g := Prod.snd) f2
      rw [hf.zip2] at f3
      exact f3
end
end K31
set_option Elab.async false
set_option linter.all false
set_option maxRecDepth 100000
set_option maxHeartbeats 4000000
namespace K31
open PySem PySem.Spec PyProof.Rows L2
/-! what the top has written: the table of states, the two tuples of words -/
/-- the tuple of two texts, tracked or written -/
def PairAt (K : PySem.W.Frag) (H : Hp) (v : V) (q : Str × Str) : Prop := ∃ p, v = .ref p ∧ SqT K H p [.str q.1, .str q.2]
theorem PairAt.kp {S : HO → Prop} {K : PySem.W.Frag} {H H' : Hp} (e : Kp AllS H H') {v : V} {q : Str × Str} (h : PairAt K H v q) : PairAt K H' v q := by
  obtain ⟨p, rfl, h⟩ := h
  exact ⟨p, rfl, e.seqT h⟩
theorem tupAt_ok {K : PySem.W.Frag} {v : Value} {p : List Value → Bool} (h : tupAt K v p = true) : ∃ t us, v = .ref t ∧ p us = true ∧ ∀ H xs, Vals xs us → SqT K H t xs := by
  unfold tupAt at h
  split at h
  · rename_i t
    split at h
    · rename_i o c d its n sl lk
      simp only [Bool.and_eq_true, decide_eq_true_eq] at h
      obtain ⟨rfl, h2, h3⟩ := h
      exact ⟨t, _, rfl, h3, fun H xs r => .inr ⟨_, its, n, lk, rfl, rfl, Nat.le_trans h2 (by decide), r⟩⟩
    · cases h
  · cases h
theorem isS_ok {x : Str} {v : Value} (h : isS x v = true) : RelV (.str x) v := by
  unfold isS at h
  split at h
  · rename_i y t
    have e := of_decide_eq_true h
    subst e
    exact ⟨t, rfl⟩
  · cases h
theorem pairB_ok {K : PySem.W.Frag} {q : Str × Str} {v : Value} (h : pairB K q v = true) : ∃ p, v = .ref p ∧ ∀ H, SqT K H p [.str q.1, .str q.2] := by
  obtain ⟨t, us, rfl, h2, h3⟩ := tupAt_ok h
  refine ⟨t, rfl, fun H => h3 H _ ?_⟩
  split at h2
  · simp only [Bool.and_eq_true] at h2
    exact .cons (isS_ok h2.1) (.cons (isS_ok h2.2) .nil)
  · cases h2
theorem pairsB_ok {K : PySem.W.Frag} : ∀ {l : List (Str × Str)} {us : List Value}, pairsB K l us = true → ∃ vs, Vals vs us ∧ ∀ H, F2 (PairAt K H) vs l
  | [], [], _ => ⟨[], .nil, fun _ => .nil⟩
  | q :: l, u :: us, h => by
    unfold pairsB at h
    simp only [Bool.and_eq_true] at h
    obtain ⟨p, rfl, h1⟩ := pairB_ok h.1
    obtain ⟨vs, r, h2⟩ := pairsB_ok h.2
    exact ⟨.ref p :: vs, .cons rfl r, fun H => .cons ⟨p, rfl, h1 H⟩ (h2 H)⟩
  | [], _ :: _, h => by cases h
  | _ :: _, [], h => by cases h
theorem strs_ok : ∀ {xs : List Str} {us : List Value}, us.length = xs.length → (xs.zip us).all (fun q => isS q.1 q.2) = true → Vals (xs.map V.str) us
  | [], [], _, _ => .nil
  | x :: xs, u :: us, hl, h => by
    rw [List.zip_cons_cons, List.all_cons, Bool.and_eq_true] at h
    exact .cons (isS_ok h.1) (strs_ok (by simpa using hl) h.2)
  | [], _ :: _, h, _ => by cases h
  | _ :: _, [], h, _ => by cases h
theorem strsB_ok {K : PySem.W.Frag} {xs : List Str} {a : Addr} (h : strsB K xs a = true) (H : Hp) : SqT K H a (xs.map V.str) := by
  obtain ⟨t, us, e, h2, h3⟩ := tupAt_ok h
  obtain rfl : a = t := by cases e <;> rfl
  simp only [Bool.and_eq_true, decide_eq_true_eq] at h2
  exact h3 H _ (strs_ok h2.1 h2.2)
/-- what the top has written, besides the defs -/
structure Ex (w : World) (K : PySem.W.Frag) : Prop where
  oex : ∃ nm q N bs bm sn sub ab col dd k0 k1 k2 k3 k5, K.lookup (He.ga K "BadText") = some (excClassObj nm q (He.ga K "BadText") N bs bm true sn sub ab col dd k0 k1 k2 k3 k5 "ValueError.__new__") ∧ PySem.HandSPX.refsVE bm = true
  xfB : xfB K (He.ga K "BadText") = true
  sattr : PySem.W.findIn K (.ref (He.ga K "BadText")) "__setattr__" = some (some (.builtin "object.__setattr__"))
  type : PySem.W.typeIn K (.ref (He.ga K "BadText")) = some (.type "type")
  keep : PySem.W.keepIn K (.ref (He.ga K "BadText")) = true
  init : PySem.W.findIn K (.ref (He.ga K "BadText")) "__init__" = some (some (.ref (He.ma K (He.ga K "BadText") "__init__")))
  itype : PySem.W.typeIn K (.ref (He.ma K (He.ga K "BadText") "__init__")) = some (.type "function")
  nrow : PySem.W.findIn K (.ref (He.ga K "BadText")) "row" = some none
  nspot : PySem.W.findIn K (.ref (He.ga K "BadText")) "spot" = some none
  ccls : PySem.W.findIn K (.ref (He.ga K "BadText")) "__class__" = some (some (.builtin "object.__class__"))
  cget : PySem.W.specialIn K (.builtin "object.__class__") "__get__" = some (some (.builtin "getset_descriptor.__get__"))
  ctk : PySem.W.takesIn K (.builtin "object.__class__") = some true
  mro : PySem.W.mroIn K (He.ga K "BadText") (.type "object") = some true
  isTerm : PySem.W.kitOne K (.ref (He.ga K "BadText")) (.ref (He.ga K "TermError")) = some true
  isVal : PySem.W.kitOne K (.ref (He.ga K "BadText")) (.type "ValueError") = some true
  isNot : PySem.W.kitAny K (.ref (He.ga K "BadText")) [.ref (He.ga K "MissingError"), .ref (He.ga K "IdleSensor"), .ref (He.ga K "TakenName"), .ref (He.ga K "WrongMoment")] = some false
  gcd : PySem.W.nsIn K mainGlobals "gcd" = some (some (.builtin "math.gcd"))
  plains : plainsB K (He.ga K "PLAINS") = true
  heads : strsB K heads (He.ga K "HEADS") = true
  signs : strsB K signs (He.ga K "SIGNS") = true
theorem eqO_ok {a b : Option (Option Value)} (h : He.eqO a b = true) : a = b := by
  unfold He.eqO at h
  first
    | exact of_decide_eq_true h
    | exact eq_of_beq h
    | (split at h <;> first | rfl | cases h | simp_all)
theorem Tx.ex {w : World} {K : PySem.W.Frag} {mg : Str → Option Value} (T : Tx w K mg) : Ex w K := by
  have h := T.more
  unfold exB at h
  simp only [Bool.and_eq_true, decide_eq_true_eq] at h
  obtain ⟨h1, h2, h3, h4, h5, h6, h7, h8, h9, h10, h11, h12, h13, h14, h15, h16, h17, h18, h19, h20⟩ := h
  exact ⟨oexB_ok h1, h2, eqO_ok h3, h4, h5, eqO_ok h6, h7, eqO_ok h8, eqO_ok h9, eqO_ok h10, h11, h12, h13, h14, h15, h16, h17, h18, h19, h20⟩
section
variable {w : World} {K : PySem.W.Frag} {mg : Str → Option Value}
theorem Tx.gcd (T : Tx w K mg) : mg "gcd" = some (.builtin "math.gcd") := by
  obtain ⟨hp, X, G⟩ := T.hx
  exact PySem.W.mg_of X G T.ex.gcd
theorem Tx.heads (T : Tx w K mg) (H : Hp) : SqT K H (He.ga K "HEADS") (K31.heads.map V.str) := strsB_ok T.ex.heads H
theorem Tx.signs (T : Tx w K mg) (H : Hp) : SqT K H (He.ga K "SIGNS") (K31.signs.map V.str) := strsB_ok T.ex.signs H
theorem Tx.plainD (T : Tx w K mg) : ∃ es n, KDict K w (He.ga K "PLAINS") es n := T.says.tab 0
/-- a plain state: its pairs -/
theorem Tx.plain (T : Tx w K mg) {s : Str} {l : List (Str × Str)} (h : (s, l) ∈ K31.plains) : ∃ p vs, KDct K w (He.ga K "PLAINS") s (.ref p) ∧ (PySem.W.nsIn K (He.ga K "PLAINS") s = some (some (.ref p))) ∧ ∀ H, SqT K H p vs ∧ F2 (PairAt K H) vs l := by
  have h1 := T.ex.plains
  unfold plainsB at h1
  rw [Bool.and_eq_true] at h1
  have h2 := List.all_eq_true.mp h1.1 _ h
  dsimp only at h2
  split at h2
  · rename_i v e
    obtain ⟨p, us, rfl, h3, h4⟩ := tupAt_ok h2
    obtain ⟨vs, r, f⟩ := pairsB_ok h3
    obtain ⟨es, n, D⟩ := T.plainD
    exact ⟨p, vs, ⟨es, n, _, D.at_, D.lit, e, rfl⟩, e, fun H => ⟨h4 H vs r, f H⟩⟩
  · cases h2
theorem Tx.noPlain (T : Tx w K mg) {s : Str} (h : s ∈ formStates) : PySem.W.nsIn K (He.ga K "PLAINS") s = some none := by
  have h1 := T.ex.plains
  unfold plainsB at h1
  rw [Bool.and_eq_true] at h1
  have h2 := List.all_eq_true.mp h1.2 _ h
  split at h2
  · assumption
  · cases h2
end
end K31
set_option Elab.async false
set_option linter.all false
set_option maxRecDepth 100000
set_option maxHeartbeats 4000000
namespace K31
open PySem PySem.Spec PyProof.Rows L2
/-! the machine of beginnings -/
local macro_rules | `(tactic| walk_at "st") => `(tactic| try simp only [L2.start, List.map_cons, List.map_nil, List.length_cons, List.length_nil, Nat.reduceAdd, Nat.reduceSub, Nat.add_zero, Nat.zero_add, List.replicate, List.cons_append, List.nil_append, List.append_nil])
local macro_rules | `(tactic| walk_at "wp") => `(tactic| try simp only [tSeq, tIfS, tRet, tOr, tAnd, tNot, tTest, tB, tOp, rI0, rI, rU, tCB, tCons, tNil, tVar, tC, tAsg, gName, tNext, tDrop, tOrV, tAndV, tNotV, tIf, tUn, tYes, wipe, tCall, tTup, tLst, tSl, tPart, tNoPart, tM0, tM1, tIsN, tNotN, tChain, tPar, tBM, tFld, tMeth,
  List.getElem?_cons_zero, List.getElem?_cons_succ, Option.some.injEq, exists_eq_left, exists_eq_left', V.str.injEq, V.int.injEq, V.bl.injEq, V.ref.injEq, List.cons.injEq, and_true, true_and, and_self, exists_and_left, exists_and_right, exists_eq_right, exists_eq, exists_const, reduceCtorEq, decide_eq_true_eq, decide_eq_false_iff_not, List.set_cons_zero, List.set_cons_succ, sg_inj, rEq_ss, rNe_ss, rEq_ii, rNe_ii, ↓reduceIte, Bool.false_eq_true, List.nil_append, List.cons_append, List.append_nil, not_true_eq_false, not_false_eq_true, Bool.not_eq_true', Bool.not_true, Bool.not_false, decide_true, decide_false, or_false, false_or, or_true, true_or, false_and, and_false])
/-- does a word fit a kind? -/
def wfits (k z : Str) : Bool :=
  if k = "NUMBER" then isNumber z
  else if k = "BELOW" then isNumber z && decide (Txt.stripChars z "0" ≠ "")
  else if k = "NAME" then isName z
  else if k = "UNKNOWN" then isUnknown z
  else if k = "END" then decide (z = "")
  else decide (z = k)
def spFits : Sp := fun vs H Q _ => ∃ k z : Str, vs = [.str k, .str z] ∧ z.length ≤ 100000 ∧ ∀ H', Kp AllS H H' → Q (.bl (wfits k z)) H'
/-- the name of a form's state -/
def fs (f s t : Str) : Str := Str.empty ++ f ++ " " ++ s ++ t
def fr (f : Str) : Str := Str.empty ++ f ++ " right first"
def wOut (f s : Str) : List (Str × Str) :=
  if f = "sensor" then [("+", fs f s " term"), ("-", fs f s " term"), ("slack", "n3")]
  else if s = "right" then [("+", fs f s " term"), ("-", fs f s " term"), ("END", "done")]
  else if f = "ask" then [("+", fs f s " term"), ("-", fs f s " term"), ("<=", fr f), (">=", fr f)]
  else [("+", fs f s " term"), ("-", fs f s " term"), ("<=", fr f), (">=", fr f), ("=", fr f)]
theorem wOut_len (f s : Str) : (wOut f s).length ≤ 5 := by
  unfold wOut
  split
  · exact Nat.le_of_ble_eq_true rfl
  · split
    · exact Nat.le_of_ble_eq_true rfl
    · split <;> exact Nat.le_of_ble_eq_true rfl
def wIn (f s p : Str) : List (Str × Str) :=
  if p = "first" then [("-", fs f s " term"), ("NUMBER", fs f s " number"), ("UNKNOWN", fs f s " name")]
  else if p = "term" then [("NUMBER", fs f s " number"), ("UNKNOWN", fs f s " name")]
  else if p = "at" then [("NUMBER", fs f s " whole")]
  else if p = "name" ∧ f = "ask" then [("at", fs f s " at")]
  else if f = "sensor" ∧ p = "number" then [("UNKNOWN", fs f s " name")]
  else if p = "number" then ("UNKNOWN", fs f s " name") :: wOut f s
  else if p = "name" ∧ f = "step" then ("'", fs f s " whole") :: wOut f s
  else wOut f s
def PairsAt (K : PySem.W.Frag) (H : Hp) (a : Addr) (l : List (Str × Str)) : Prop := ∃ vs, H a = some (.lst vs) ∧ F2 (PairAt K H) vs l
def spOut (K : PySem.W.Frag) : Sp := fun vs H Q _ => ∃ f s : Str, vs = [.str f, .str s] ∧ f.length ≤ 10 ∧ s.length ≤ 10 ∧ ∀ r H', H r = none → Kp AllS H H' → PairsAt K H' r (wOut f s) → Q (.ref r) H'
def spIn (K : PySem.W.Frag) : Sp := fun vs H Q _ => ∃ f s p : Str, vs = [.str f, .str s, .str p] ∧ f.length ≤ 10 ∧ s.length ≤ 10 ∧ ∀ r H', H r = none → Kp AllS H H' → PairsAt K H' r (wIn f s p) → Q (.ref r) H'
theorem str_len_app (x y : Str) : (x ++ y).length = x.length + y.length := by
  rw [TL.len_tl, TL.tl_append, List.length_append, ← TL.len_tl, ← TL.len_tl]
theorem st_js4 {f s t : Str} {rest : L2.St} {H : Hp} {Q : Str → Hp → Prop} (hf : f.length ≤ 10) (hs : s.length ≤ 10) (ht : t.length ≤ 10) (q : Q (fs f s t) H) :
    tJs [tFmt (tVar 0), tC (.str " "), tFmt (tVar 1), tC (.str t)] Str.empty (some (.str f) :: some (.str s) :: rest) H Q := by
  have e0 : Str.empty.length = 0 := rfl
  have e1 : Str.length " " = 1 := by decide +kernel
  refine ⟨_, rfl, .inl ⟨f, rfl, szL (by omega), _, rfl, szL ?_, _, rfl, szL ?_, _, rfl, .inl ⟨s, rfl, szL (by omega), _, rfl, szL ?_, _, rfl, szL ?_, q⟩⟩⟩
  all_goals simp only [str_len_app, e0, e1]
  all_goals omega
theorem st_js2 {f : Str} {rest : L2.St} {H : Hp} {Q : Str → Hp → Prop} (hf : f.length ≤ 10) (q : Q (fr f) H) :
    tJs [tFmt (tVar 0), tC (.str " right first")] Str.empty (some (.str f) :: rest) H Q := by
  have e0 : Str.empty.length = 0 := rfl
  have e1 : Str.length " right first" = 12 := by decide +kernel
  refine ⟨_, rfl, .inl ⟨f, rfl, szL (by omega), _, rfl, szL ?_, _, rfl, szL ?_, q⟩⟩
  all_goals simp only [str_len_app, e0, e1]
  all_goals omega
theorem PairAt.mk {K : PySem.W.Frag} {H H' : Hp} {p : Addr} {a b : Str} (h : H p = some (.tup [.str a, .str b])) (e : Kp AllS H H') : PairAt K H' (.ref p) (a, b) := ⟨p, rfl, e.seqT (sqT h)⟩
theorem sz3 {n : Nat} (h : n ≤ 100) : n ≤ sizeLine := szL (by omega)
section
variable {P : Program} {w : World} {K : PySem.W.Frag} {mg : Str → Option Value} {base : Heap}
abbrev N_word_fits : List Str := ["kind", "word"]
abbrev P_word_fits : List Str := ["kind", "word"]
theorem sc_word_fits : FnScope N_word_fits P_word_fits (defScope s_word_fits) := ⟨rfl, rfl, rfl, by decide +kernel, rfl, by decide +kernel, by decide +kernel⟩
theorem ok_word_fits (T : Tx w K mg) : Cl P w K mg base 3 "word_fits" P_word_fits spFits := by
  refine Cl.mk T.d_word_fits rfl T.g_word_fits sc_word_fits (fun _ _ _ _ _ _ us hl => match us, hl with | [_, _], _ => rfl) (fun vs H Q E h => ?_) (fun cdv A outer s H vs Q E hr h => ?_)
  · obtain ⟨_, _, rfl, _⟩ := h
    rfl
  · obtain ⟨k, z, rfl, hz, q⟩ := h
    refine ⟨_, (pss_cons (ps_if (pt_cmpR op_eq (pv 0) pe_str (nomark _)) (pss_one (ps_ret (pe_fn (ok_is_number_word T) hr (by decide) (by rfl) (pa_cons (pv 1) pa_nil)))) pss_nil)
      (pss_cons (ps_if (pt_cmpR op_eq (pv 0) pe_str (nomark _)) (pss_one (ps_ret (pe_and (pe_fn (ok_is_number_word T) hr (by decide) (by rfl) (pa_cons (pv 1) pa_nil)) (pe_one (pe_cmpR op_ne (pe_m1 PySem.F.slot_str_strip PySem.F.type_str_strip mt_stripChars (pv 1) pe_str) pe_str (nomark _)))))) pss_nil)
      (pss_cons (ps_if (pt_cmpR op_eq (pv 0) pe_str (nomark _)) (pss_one (ps_ret (pe_fn (ok_is_name T) hr (by decide) (by rfl) (pa_cons (pv 1) pa_nil)))) pss_nil)
      (pss_cons (ps_if (pt_cmpR op_eq (pv 0) pe_str (nomark _)) (pss_one (ps_ret (pe_fn (ok_is_unknown T) hr (by decide) (by rfl) (pa_cons (pv 1) pa_nil)))) pss_nil)
      (pss_cons (ps_if (pt_cmpR op_eq (pv 0) pe_str (nomark _)) (pss_one (ps_ret (pe_cmpR op_eq (pv 1) pe_str (nomark _)))) pss_nil)
      (pss_one (ps_ret (pe_cmpR op_eq (pv 1) (pv 0) (nomark _))))))))), ?_⟩
    walk_at "st"
    walk_at "wp"
    unfold wfits at q
    by_cases c1 : k = "NUMBER"
    · simp only [if_pos c1] at q ⊢
      exact ⟨z, rfl, hz, q⟩
    · simp only [if_neg c1] at q ⊢
      by_cases c2 : k = "BELOW"
      · simp only [if_pos c2] at q ⊢
        refine ⟨z, rfl, hz, fun H1 e1 => ⟨_, rfl, ?_⟩⟩
        have q1 := q H1 e1
        cases c3 : isNumber z with
        | true =>
          rw [c3] at q1
          rw [if_pos rfl]
          refine ⟨⟨_, rfl⟩, szL hz, ?_⟩
          simpa using q1
        | false =>
          rw [c3] at q1
          rw [if_neg Bool.false_ne_true]
          exact q1
      · simp only [if_neg c2] at q ⊢
        by_cases c3 : k = "NAME"
        · simp only [if_pos c3] at q ⊢
          exact ⟨z, rfl, hz, q⟩
        · simp only [if_neg c3] at q ⊢
          by_cases c4 : k = "UNKNOWN"
          · simp only [if_pos c4] at q ⊢
            exact ⟨z, rfl, hz, q⟩
          · simp only [if_neg c4] at q ⊢
            have q1 := q H (Kp.refl H)
            by_cases c5 : k = "END"
            · rw [if_pos c5] at q1 ⊢
              exact q1
            · rw [if_neg c5] at q1 ⊢
              exact q1
abbrev N_ways_out : List Str := ["form", "side", "told", "signs", "sign"]
abbrev P_ways_out : List Str := ["form", "side"]
theorem sc_ways_out : FnScope N_ways_out P_ways_out (defScope s_ways_out) := ⟨rfl, rfl, rfl, by decide +kernel, rfl, by decide +kernel, by decide +kernel⟩
theorem ok_ways_out (T : Tx w K mg) : Cl P w K mg base 1 "ways_out" P_ways_out (spOut K) := by
  refine Cl.mk T.d_ways_out rfl T.g_ways_out sc_ways_out (fun _ _ _ _ _ _ us hl => match us, hl with | [_, _], _ => rfl) (fun vs H Q E h => ?_) (fun cdv A outer s H vs Q E hr h => ?_)
  · obtain ⟨_, _, rfl, _⟩ := h
    rfl
  · obtain ⟨f, s, rfl, hf, hs, q⟩ := h
    refine ⟨_, (pss_cons (ps_set (i := 2) sc_ways_out.nd rfl (Or.inl rfl) (pe_lst (pa_cons (pe_tup (pa_cons pe_str (pa_cons (pe_joined (PJ.cons (pe_fmt (pv 0)) (PJ.cons pe_str (PJ.cons (pe_fmt (pv 1)) (PJ.cons pe_str PJ.nil))))) pa_nil))) (pa_cons (pe_tup (pa_cons pe_str (pa_cons (pe_joined (PJ.cons (pe_fmt (pv 0)) (PJ.cons pe_str (PJ.cons (pe_fmt (pv 1)) (PJ.cons pe_str PJ.nil))))) pa_nil))) pa_nil))))
      (pss_cons (ps_if (pt_cmpR op_eq (pv 0) pe_str (nomark _)) (pss_one (ps_ret (pe_op op_cat (pv 2) (pe_lst (pa_cons (pe_tup (pa_cons pe_str (pa_cons pe_str pa_nil))) pa_nil))))) pss_nil)
      (pss_cons (ps_if (pt_cmpR op_eq (pv 1) pe_str (nomark _)) (pss_one (ps_ret (pe_op op_cat (pv 2) (pe_lst (pa_cons (pe_tup (pa_cons pe_str (pa_cons pe_str pa_nil))) pa_nil))))) pss_nil)
      (pss_cons (ps_set (i := 3) sc_ways_out.nd rfl (Or.inl rfl) (pe_ifExp (pt_cmpR op_eq (pv 0) pe_str (nomark _)) (pe_lst (pa_cons pe_str (pa_cons pe_str pa_nil))) (pe_lst (pa_cons pe_str (pa_cons pe_str (pa_cons pe_str pa_nil))))))
      (pss_one (ps_ret (pe_op op_cat (pv 2) (pe_lc (own := [("sign", 4)]) (g := (gName 4)) rfl sc_ways_out.nd (pi_list (pv 3)) (blkOk_by (own := [("sign", 4)]) (N := N_ways_out) (sc := defScope s_ways_out) (by decide +kernel)) (fun _ _ _ _ _ => (pg_name (i := 4) sc_ways_out.nd rfl (Or.inl rfl))) (fun _ _ _ _ _ => pts_nil) (fun _ _ _ _ _ => (pe_tup (pa_cons (pv 4) (pa_cons (pe_joined (PJ.cons (pe_fmt (pv 0)) (PJ.cons pe_str PJ.nil))) pa_nil)))))))))))), ?_⟩
    walk_at "st"
    have t1 : Str.length " term" ≤ 10 := by decide +kernel
    refine st_js4 hf hs t1 ⟨sz3 (Nat.le_of_ble_eq_true rfl), ?_⟩
    (intro p1 hp1; generalize hg0 : upd _ p1 _ = H1; obtain ⟨e1, h1⟩ := upd_ex hp1 hg0; clear hg0)
    refine st_js4 hf hs t1 ⟨sz3 (Nat.le_of_ble_eq_true rfl), ?_⟩
    (intro p2 hp2; generalize hg0 : upd _ p2 _ = H2; obtain ⟨e2, h2⟩ := upd_ex hp2 hg0; clear hg0)
    refine ⟨sz3 (Nat.le_of_ble_eq_true rfl), ?_⟩
    (intro l hl; generalize hg0 : upd _ l _ = H3; obtain ⟨e3, h3⟩ := upd_ex hl hg0; clear hg0)
    walk_at "wp"
    have l0 := (e1.trans e2).nn hl
    have e13 := (e1.trans e2).trans e3
    unfold wOut at q
    by_cases c1 : f = "sensor"
    · rw [if_pos c1] at q ⊢
      refine ⟨sz3 (Nat.le_of_ble_eq_true rfl), ?_⟩
      (intro p3 hp3; generalize hg0 : upd _ p3 _ = H4; obtain ⟨e4, h4⟩ := upd_ex hp3 hg0; clear hg0)
      refine ⟨sz3 (Nat.le_of_ble_eq_true rfl), ?_⟩
      (intro l2 hl2; generalize hg0 : upd _ l2 _ = H5; obtain ⟨e5, h5⟩ := upd_ex hl2 hg0; clear hg0)
      refine st_cat (e5 _ _ (e4 _ _ h3 trivial) trivial) h5 (Nat.le_of_ble_eq_true rfl) fun r H6 hr6 e6 h6 => ?_
      have e46 := (e4.trans e5).trans e6
      exact q r H6 (((e13.trans e4).trans e5).nn hr6) (e13.trans e46) ⟨_, h6, .cons (.mk h1 ((e2.trans e3).trans e46)) (.cons (.mk h2 (e3.trans e46)) (.cons (.mk h4 (e5.trans e6)) .nil))⟩
    · rw [if_neg c1] at q ⊢
      by_cases c2 : s = "right"
      · rw [if_pos c2] at q ⊢
        refine ⟨sz3 (Nat.le_of_ble_eq_true rfl), ?_⟩
        (intro p3 hp3; generalize hg0 : upd _ p3 _ = H4; obtain ⟨e4, h4⟩ := upd_ex hp3 hg0; clear hg0)
        refine ⟨sz3 (Nat.le_of_ble_eq_true rfl), ?_⟩
        (intro l2 hl2; generalize hg0 : upd _ l2 _ = H5; obtain ⟨e5, h5⟩ := upd_ex hl2 hg0; clear hg0)
        refine st_cat (e5 _ _ (e4 _ _ h3 trivial) trivial) h5 (Nat.le_of_ble_eq_true rfl) fun r H6 hr6 e6 h6 => ?_
        have e46 := (e4.trans e5).trans e6
        exact q r H6 (((e13.trans e4).trans e5).nn hr6) (e13.trans e46) ⟨_, h6, .cons (.mk h1 ((e2.trans e3).trans e46)) (.cons (.mk h2 (e3.trans e46)) (.cons (.mk h4 (e5.trans e6)) .nil))⟩
      · rw [if_neg c2] at q ⊢
        have lc : ∀ (gs : List Str) (H4 : Hp) (a : Addr), gs.length ≤ 100 → H4 a = some (.lst (gs.map V.str)) → Kp AllS H3 H4 → (∀ r H', H r = none → Kp AllS H H' → PairsAt K H' r (("+", fs f s " term") :: ("-", fs f s " term") :: gs.map fun g => (g, fr f)) → Q (.ref r) H') →
            tLc (iList K (tVar 3)) (gName 4) tYes (tTup (tCons (tVar 4) (tCons (fun σ H Q => tJs [tFmt (tVar 0), tC (V.str (Str.ofString " right first"))] Str.empty σ H fun out H1 => Q (V.str out) H1) tNil))) [4] [some (V.str f), some (V.str s), some (V.ref l), some (V.ref a), none] H4 fun y H2 => rCat (V.ref l) y H2 Q := by
          intro gs H4 a hg ha e4 q
          refine lc_lstR (fun g v H => PairAt K H v (g, fr f)) (by omega) rfl (sqS ha) (fun _ _ _ _ e h => h.kp (S := AllS) e) (fun g H5 D hg e5 hD ⟨acc, hD5⟩ Yv hy => ?_) (fun p H5 ys hp0 e5 h5 f5 => ?_)
          · walk_at "wp"
            refine st_js2 hf ⟨sz3 (Nat.le_of_ble_eq_true rfl), ?_⟩
            (intro p4 hp4; generalize hg0 : upd _ p4 _ = H6; obtain ⟨e6, h6⟩ := upd_ex hp4 hg0; clear hg0)
            refine hy _ _ e6 fun u => ⟨p4, rfl, sqT ?_⟩
            rw [upd_ne (fun z => by rw [z, hD5] at hp4; cases hp4)]
            exact h6
          · have f6 : F2 (PairAt K H5) ys (gs.map fun g => (g, fr f)) := F2.mapR (T := PairAt K H5) (g := fun g => (g, fr f)) f5
            refine st_cat (e5 _ _ (e4 _ _ h3 trivial) trivial) h5 (by rw [f5.len]; show 2 + _ ≤ _; omega) fun r H6 hr6 e6 h6 => ?_
            have e46 := (e4.trans e5).trans e6
            exact q r H6 (((e13.trans e4).trans e5).nn hr6) (e13.trans e46) ⟨_, h6, .cons (.mk h1 ((e2.trans e3).trans e46)) (.cons (.mk h2 (e3.trans e46)) (f6.imp fun _ _ h => h.kp (S := AllS) e6))⟩
        by_cases c3 : f = "ask"
        · rw [if_pos c3] at q ⊢
          refine ⟨sz3 (Nat.le_of_ble_eq_true rfl), ?_⟩
          (intro p3 hp3; generalize hg0 : upd _ p3 _ = H4; obtain ⟨e4, h4⟩ := upd_ex hp3 hg0; clear hg0)
          exact lc ["<=", ">="] H4 p3 (by decide) h4 e4 q
        · rw [if_neg c3] at q ⊢
          refine ⟨sz3 (Nat.le_of_ble_eq_true rfl), ?_⟩
          (intro p3 hp3; generalize hg0 : upd _ p3 _ = H4; obtain ⟨e4, h4⟩ := upd_ex hp3 hg0; clear hg0)
          exact lc ["<=", ">=", "="] H4 p3 (by decide) h4 e4 q
abbrev N_ways_in_form : List Str := ["form", "side", "spot", "term", "told"]
abbrev P_ways_in_form : List Str := ["form", "side", "spot"]
theorem sc_ways_in_form : FnScope N_ways_in_form P_ways_in_form (defScope s_ways_in_form) := ⟨rfl, rfl, rfl, by decide +kernel, rfl, by decide +kernel, by decide +kernel⟩
theorem ok_ways_in_form (T : Tx w K mg) : Cl P w K mg base 2 "ways_in_form" P_ways_in_form (spIn K) := by
  refine Cl.mk T.d_ways_in_form rfl T.g_ways_in_form sc_ways_in_form (fun _ _ _ _ _ _ us hl => match us, hl with | [_, _, _], _ => rfl) (fun vs H Q E h => ?_) (fun cdv A outer s H vs Q E hr h => ?_)
  · obtain ⟨_, _, _, rfl, _⟩ := h
    rfl
  · obtain ⟨f, s, p, rfl, hf, hs, q⟩ := h
    refine ⟨_, (pss_cons (ps_set (i := 3) sc_ways_in_form.nd rfl (Or.inl rfl) (pe_lst (pa_cons (pe_tup (pa_cons pe_str (pa_cons (pe_joined (PJ.cons (pe_fmt (pv 0)) (PJ.cons pe_str (PJ.cons (pe_fmt (pv 1)) (PJ.cons pe_str PJ.nil))))) pa_nil))) (pa_cons (pe_tup (pa_cons pe_str (pa_cons (pe_joined (PJ.cons (pe_fmt (pv 0)) (PJ.cons pe_str (PJ.cons (pe_fmt (pv 1)) (PJ.cons pe_str PJ.nil))))) pa_nil))) pa_nil))))
      (pss_cons (ps_if (pt_cmpR op_eq (pv 2) pe_str (nomark _)) (pss_one (ps_ret (pe_op op_cat (pe_lst (pa_cons (pe_tup (pa_cons pe_str (pa_cons (pe_joined (PJ.cons (pe_fmt (pv 0)) (PJ.cons pe_str (PJ.cons (pe_fmt (pv 1)) (PJ.cons pe_str PJ.nil))))) pa_nil))) pa_nil)) (pv 3)))) pss_nil)
      (pss_cons (ps_if (pt_cmpR op_eq (pv 2) pe_str (nomark _)) (pss_one (ps_ret (pv 3))) pss_nil)
      (pss_cons (ps_if (pt_cmpR op_eq (pv 2) pe_str (nomark _)) (pss_one (ps_ret (pe_lst (pa_cons (pe_tup (pa_cons pe_str (pa_cons (pe_joined (PJ.cons (pe_fmt (pv 0)) (PJ.cons pe_str (PJ.cons (pe_fmt (pv 1)) (PJ.cons pe_str PJ.nil))))) pa_nil))) pa_nil)))) pss_nil)
      (pss_cons (ps_if ((pw_and (pt_cmpR op_eq (pv 2) pe_str (nomark _)) (pw_and1 (pt_cmpR op_eq (pv 0) pe_str (nomark _))))).pt (pss_one (ps_ret (pe_lst (pa_cons (pe_tup (pa_cons pe_str (pa_cons (pe_joined (PJ.cons (pe_fmt (pv 0)) (PJ.cons pe_str (PJ.cons (pe_fmt (pv 1)) (PJ.cons pe_str PJ.nil))))) pa_nil))) pa_nil)))) pss_nil)
      (pss_cons (ps_set (i := 4) sc_ways_in_form.nd rfl (Or.inl rfl) (pe_ifExp ((pw_and (pt_cmpR op_eq (pv 0) pe_str (nomark _)) (pw_and1 (pt_cmpR op_eq (pv 2) pe_str (nomark _))))).pt (pe_lst pa_nil) (pe_fn (ok_ways_out T) hr (by decide) (by rfl) (pa_cons (pv 0) (pa_cons (pv 1) pa_nil)))))
      (pss_cons (ps_if (pt_cmpR op_eq (pv 2) pe_str (nomark _)) (pss_one (ps_ret (pe_op op_cat (pe_lst (pa_cons (pe_tup (pa_cons pe_str (pa_cons (pe_joined (PJ.cons (pe_fmt (pv 0)) (PJ.cons pe_str (PJ.cons (pe_fmt (pv 1)) (PJ.cons pe_str PJ.nil))))) pa_nil))) pa_nil)) (pv 4)))) pss_nil)
      (pss_cons (ps_if ((pw_and (pt_cmpR op_eq (pv 2) pe_str (nomark _)) (pw_and1 (pt_cmpR op_eq (pv 0) pe_str (nomark _))))).pt (pss_one (ps_ret (pe_op op_cat (pe_lst (pa_cons (pe_tup (pa_cons pe_str (pa_cons (pe_joined (PJ.cons (pe_fmt (pv 0)) (PJ.cons pe_str (PJ.cons (pe_fmt (pv 1)) (PJ.cons pe_str PJ.nil))))) pa_nil))) pa_nil)) (pv 4)))) pss_nil)
      (pss_one (ps_ret (pv 4))))))))))), ?_⟩
    have t1 : Str.length " term" ≤ 10 := by decide +kernel
    have t2 : Str.length " number" ≤ 10 := by decide +kernel
    have t3 : Str.length " name" ≤ 10 := by decide +kernel
    have t4 : Str.length " whole" ≤ 10 := by decide +kernel
    have t5 : Str.length " at" ≤ 10 := by decide +kernel
    walk_at "st"
    walk_at "wp"
    refine st_js4 hf hs t2 ⟨sz3 (Nat.le_of_ble_eq_true rfl), ?_⟩
    (intro p1 hp1; generalize hg0 : upd _ p1 _ = H1; obtain ⟨e1, h1⟩ := upd_ex hp1 hg0; clear hg0)
    refine st_js4 hf hs t3 ⟨sz3 (Nat.le_of_ble_eq_true rfl), ?_⟩
    (intro p2 hp2; generalize hg0 : upd _ p2 _ = H2; obtain ⟨e2, h2⟩ := upd_ex hp2 hg0; clear hg0)
    refine ⟨sz3 (Nat.le_of_ble_eq_true rfl), ?_⟩
    (intro l hl; generalize hg0 : upd _ l _ = H3; obtain ⟨e3, h3⟩ := upd_ex hl hg0; clear hg0)
    walk_at "wp"
    have e12 := e1.trans e2
    have l0 := e12.nn hl
    have e13 := e12.trans e3
    unfold wIn at q
    by_cases c1 : p = "first"
    · rw [if_pos c1] at q ⊢
      refine st_js4 hf hs t1 ⟨sz3 (Nat.le_of_ble_eq_true rfl), ?_⟩
      (intro p3 hp3; generalize hg0 : upd _ p3 _ = H4; obtain ⟨e4, h4⟩ := upd_ex hp3 hg0; clear hg0)
      refine ⟨sz3 (Nat.le_of_ble_eq_true rfl), ?_⟩
      (intro l2 hl2; generalize hg0 : upd _ l2 _ = H5; obtain ⟨e5, h5⟩ := upd_ex hl2 hg0; clear hg0)
      refine st_cat h5 (e5 _ _ (e4 _ _ h3 trivial) trivial) (Nat.le_of_ble_eq_true rfl) fun r H6 hr6 e6 h6 => ?_
      have e46 := (e4.trans e5).trans e6
      exact q r H6 (((e13.trans e4).trans e5).nn hr6) (e13.trans e46) ⟨_, h6, .cons (.mk h4 (e5.trans e6)) (.cons (.mk h1 ((e2.trans e3).trans e46)) (.cons (.mk h2 (e3.trans e46)) .nil))⟩
    · rw [if_neg c1] at q ⊢
      by_cases c2 : p = "term"
      · rw [if_pos c2] at q ⊢
        exact q l H3 l0 e13 ⟨_, h3, .cons (.mk h1 (e2.trans e3)) (.cons (.mk h2 e3) .nil)⟩
      · rw [if_neg c2] at q ⊢
        by_cases c3 : p = "at"
        · rw [if_pos c3] at q ⊢
          refine st_js4 hf hs t4 ⟨sz3 (Nat.le_of_ble_eq_true rfl), ?_⟩
          (intro p3 hp3; generalize hg0 : upd _ p3 _ = H4; obtain ⟨e4, h4⟩ := upd_ex hp3 hg0; clear hg0)
          refine ⟨sz3 (Nat.le_of_ble_eq_true rfl), ?_⟩
          (intro l2 hl2; generalize hg0 : upd _ l2 _ = H5; obtain ⟨e5, h5⟩ := upd_ex hl2 hg0; clear hg0)
          exact q l2 H5 ((e13.trans e4).nn hl2) ((e13.trans e4).trans e5) ⟨_, h5, .cons (.mk h4 e5) .nil⟩
        · rw [if_neg c3] at q ⊢
          have nn : ¬ ("name" : Str) = "number" := by decide +kernel
          have n2 : ¬ ("number" : Str) = "name" := by decide +kernel
          by_cases c4 : p = "name"
          · subst c4
            simp only [nn, and_false, true_and, ↓reduceIte, ite_self] at q ⊢
            by_cases c5 : f = "ask"
            · rw [if_pos c5] at q ⊢
              refine st_js4 hf hs t5 ⟨sz3 (Nat.le_of_ble_eq_true rfl), ?_⟩
              (intro p3 hp3; generalize hg0 : upd _ p3 _ = H4; obtain ⟨e4, h4⟩ := upd_ex hp3 hg0; clear hg0)
              refine ⟨sz3 (Nat.le_of_ble_eq_true rfl), ?_⟩
              (intro l2 hl2; generalize hg0 : upd _ l2 _ = H5; obtain ⟨e5, h5⟩ := upd_ex hl2 hg0; clear hg0)
              exact q l2 H5 ((e13.trans e4).nn hl2) ((e13.trans e4).trans e5) ⟨_, h5, .cons (.mk h4 e5) .nil⟩
            · rw [if_neg c5] at q ⊢
              refine ⟨f, s, rfl, hf, hs, fun x H4 hx e4 ⟨vs, h4, f4⟩ => ?_⟩
              have lv := wOut_len f s
              by_cases c6 : f = "step"
              · simp only [if_pos c6] at q ⊢
                refine st_js4 hf hs t4 ⟨sz3 (Nat.le_of_ble_eq_true rfl), ?_⟩
                (intro p3 hp3; generalize hg0 : upd _ p3 _ = H5; obtain ⟨e5, h5⟩ := upd_ex hp3 hg0; clear hg0)
                refine ⟨sz3 (Nat.le_of_ble_eq_true rfl), ?_⟩
                (intro l2 hl2; generalize hg0 : upd _ l2 _ = H6; obtain ⟨e6, h6⟩ := upd_ex hl2 hg0; clear hg0)
                refine st_cat h6 (e6 _ _ (e5 _ _ h4 trivial) trivial) (by rw [f4.len]; show 1 + _ ≤ _; omega) fun r H7 hr7 e7 h7 => ?_
                have e57 := (e5.trans e6).trans e7
                exact q r H7 ((((e13.trans e4).trans e5).trans e6).nn hr7) ((e13.trans e4).trans e57) ⟨_, h7, .cons (.mk h5 (e6.trans e7)) (f4.imp fun _ _ h => h.kp (S := AllS) e57)⟩
              · simp only [if_neg c6] at q ⊢
                exact q x H4 (e13.nn hx) (e13.trans e4) ⟨vs, h4, f4⟩
          · by_cases c5 : p = "number"
            · subst c5
              simp only [n2, and_true, false_and, ↓reduceIte] at q ⊢
              by_cases c6 : f = "sensor"
              · rw [if_pos c6] at q ⊢
                refine ⟨sz3 (Nat.le_of_ble_eq_true rfl), ?_⟩
                (intro x hx; generalize hg0 : upd _ x _ = H4; obtain ⟨e4, h4⟩ := upd_ex hx hg0; clear hg0)
                refine st_js4 hf hs t3 ⟨sz3 (Nat.le_of_ble_eq_true rfl), ?_⟩
                (intro p3 hp3; generalize hg0 : upd _ p3 _ = H5; obtain ⟨e5, h5⟩ := upd_ex hp3 hg0; clear hg0)
                refine ⟨sz3 (Nat.le_of_ble_eq_true rfl), ?_⟩
                (intro l2 hl2; generalize hg0 : upd _ l2 _ = H6; obtain ⟨e6, h6⟩ := upd_ex hl2 hg0; clear hg0)
                refine st_cat h6 (e6 _ _ (e5 _ _ h4 trivial) trivial) (Nat.le_of_ble_eq_true rfl) fun r H7 hr7 e7 h7 => ?_
                have e57 := (e5.trans e6).trans e7
                exact q r H7 ((((e13.trans e4).trans e5).trans e6).nn hr7) ((e13.trans e4).trans e57) ⟨_, h7, .cons (.mk h5 (e6.trans e7)) .nil⟩
              · rw [if_neg c6] at q ⊢
                refine ⟨f, s, rfl, hf, hs, fun x H4 hx e4 ⟨vs, h4, f4⟩ => ?_⟩
                have lv := wOut_len f s
                refine st_js4 hf hs t3 ⟨sz3 (Nat.le_of_ble_eq_true rfl), ?_⟩
                (intro p3 hp3; generalize hg0 : upd _ p3 _ = H5; obtain ⟨e5, h5⟩ := upd_ex hp3 hg0; clear hg0)
                refine ⟨sz3 (Nat.le_of_ble_eq_true rfl), ?_⟩
                (intro l2 hl2; generalize hg0 : upd _ l2 _ = H6; obtain ⟨e6, h6⟩ := upd_ex hl2 hg0; clear hg0)
                refine st_cat h6 (e6 _ _ (e5 _ _ h4 trivial) trivial) (by rw [f4.len]; show 1 + _ ≤ _; omega) fun r H7 hr7 e7 h7 => ?_
                have e57 := (e5.trans e6).trans e7
                exact q r H7 ((((e13.trans e4).trans e5).trans e6).nn hr7) ((e13.trans e4).trans e57) ⟨_, h7, .cons (.mk h5 (e6.trans e7)) (f4.imp fun _ _ h => h.kp (S := AllS) e57)⟩
            · simp only [if_neg c4, if_neg c5, c4, c5, and_false, false_and, ↓reduceIte, ite_self] at q ⊢
              refine ⟨f, s, rfl, hf, hs, fun x H4 hx e4 h4 => ?_⟩
              exact q x H4 (e13.nn hx) (e13.trans e4) h4
end
end K31
set_option Elab.async false
set_option linter.all false
set_option maxRecDepth 100000
set_option maxHeartbeats 4000000
namespace K31
open PySem PySem.Spec PyProof.Rows L2
/-! the machine of beginnings: its states, its walks -/
local macro_rules | `(tactic| walk_at "st") => `(tactic| try simp only [L2.start, List.map_cons, List.map_nil, List.length_cons, List.length_nil, Nat.reduceAdd, Nat.reduceSub, Nat.add_zero, Nat.zero_add, List.replicate, List.cons_append, List.nil_append, List.append_nil])
local macro_rules | `(tactic| walk_at "wp") => `(tactic| try simp only [tSeq, tIfS, tRet, tOr, tAnd, tNot, tTest, tB, tOp, rI0, rI, rU, tCB, tCons, tNil, tVar, tC, tAsg, gName, tNext, tDrop, tOrV, tAndV, tNotV, tIf, tUn, tYes, wipe, tCall, tTup, tLst, tSl, tPart, tNoPart, tM0, tM1, tIsN, tNotN, tChain, tPar, tBM, tFld, tMeth,
  List.getElem?_cons_zero, List.getElem?_cons_succ, Option.some.injEq, exists_eq_left, exists_eq_left', V.str.injEq, V.int.injEq, V.bl.injEq, V.ref.injEq, List.cons.injEq, and_true, true_and, and_self, exists_and_left, exists_and_right, exists_eq_right, exists_eq, exists_const, reduceCtorEq, decide_eq_true_eq, decide_eq_false_iff_not, List.set_cons_zero, List.set_cons_succ, sg_inj, rEq_ss, rNe_ss, rEq_ii, rNe_ii, ↓reduceIte, Bool.false_eq_true, List.nil_append, List.cons_append, List.append_nil, not_true_eq_false, not_false_eq_true, Bool.not_eq_true', Bool.not_true, Bool.not_false, decide_true, decide_false, or_false, false_or, or_true, true_or, false_and, and_false])
def formT : List (Str × (Str × Str × Str)) := (["one", "step", "ask", "sensor"] : List Str).flatMap fun f => (["left", "right"] : List Str).flatMap fun s => (["first", "term", "number", "name", "at", "whole"] : List Str).map fun p => (f ++ " " ++ s ++ " " ++ p, (f, s, p))
/-- every state: its ways -/
def tbl : List (Str × List (Str × Str)) := plains ++ formT.map fun q => (q.1, wIn q.2.1 q.2.2.1 q.2.2.2)
def look (s : Str) : List (Str × Str) := (tbl.lookup s).getD []
def behL : List (Str × Str) → Str → Str
  | [], _ => ""
  | q :: r, z => if wfits q.1 z = true then q.2 else behL r z
theorem behL_cons (q : Str × Str) (r : List (Str × Str)) (z : Str) : behL (q :: r) z = if wfits q.1 z = true then q.2 else behL r z := rfl
def keys : List Str := tbl.map (·.1)
theorem tbl_ok : tbl.all (fun q => decide (tbl.lookup q.1 = some q.2) && (q.2.all fun r => decide (r.2 ∈ keys)) && decide (q.2.length ≤ 10)) = true := by decide +kernel
theorem tbl_at {q : Str × List (Str × Str)} (h : q ∈ tbl) : look q.1 = q.2 ∧ (∀ r ∈ q.2, r.2 ∈ keys) ∧ q.2.length ≤ 10 := by
  have h1 := List.all_eq_true.mp tbl_ok q h
  simp only [Bool.and_eq_true, decide_eq_true_eq] at h1
  refine ⟨by unfold look; rw [h1.1.1] <;> rfl, fun r hr => ?_, h1.2⟩
  have h2 := List.all_eq_true.mp h1.1.2 r hr
  simpa using h2
theorem key_in {s : Str} (h : s ∈ keys) : (s, look s) ∈ tbl := by
  obtain ⟨q, hq, rfl⟩ := List.mem_map.mp h
  have e := (tbl_at hq).1
  rw [e]
  exact hq
theorem noKey : ("" : Str) ∉ keys := by decide +kernel
theorem headKey : ("head" : Str) ∈ keys := by decide +kernel
theorem behL_in : ∀ {l : List (Str × Str)} {z : Str}, (∀ r ∈ l, r.2 ∈ keys) → behL l z ∈ keys ∨ behL l z = ""
  | [], z, _ => .inr rfl
  | q :: r, z, h => by
    unfold behL
    split
    · exact .inl (h q (List.mem_cons_self ..))
    · exact behL_in fun a b => h a (List.mem_cons_of_mem _ b)
theorem beh_in {s z : Str} (h : s ∈ keys) : behL (look s) z ∈ keys ∨ behL (look s) z = "" := behL_in (tbl_at (key_in h)).2.1
def spWays (K : PySem.W.Frag) : Sp := fun vs H Q _ => ∃ s : Str, vs = [.str s] ∧ s ∈ keys ∧ ∀ r H', H r = none → Kp AllS H H' → PairsAt K H' r (look s) → Q (.ref r) H'
def spBeh : Sp := fun vs H Q _ => ∃ s z : Str, vs = [.str s, .str z] ∧ s ∈ keys ∧ z.length ≤ 100000 ∧ ∀ H', Kp AllS H H' → Q (.str (behL (look s) z)) H'
def nxt (s z : Str) : Str := if s = "" then "" else behL (look s) z
def runW (ws : List Str) : Str := ws.foldl nxt "head"
def WordsAt (H : Hp) (a : Addr) (ws : List Str) : Prop := H a = some (.lst (ws.map V.str))
def Short (ws : List Str) : Prop := ws.length ≤ 100000 ∧ ∀ z ∈ ws, z.length ≤ 100000
def spState : Sp := fun vs H Q _ => ∃ (a : Addr) (ws : List Str), vs = [.ref a] ∧ WordsAt H a ws ∧ Short ws ∧ ∀ H', Kp AllS H H' → Q (.str (runW ws)) H'
def isBeg (ws : List Str) : Bool := !decide (("" : Str) ∈ ws) && !decide (runW ws = "")
def isSta (ws : List Str) : Bool := isBeg ws && decide (behL (look (runW ws)) "" = "done")
def spBeg (f : List Str → Bool) : Sp := fun vs H Q _ => ∃ (a : Addr) (ws : List Str), vs = [.ref a] ∧ WordsAt H a ws ∧ Short ws ∧ ∀ H', Kp AllS H H' → Q (.bl (f ws)) H'
def faultL : Str → List (Nat × Str) → Option Nat
  | _, [] => none
  | s, q :: r => if behL (look s) q.2 = "" then some q.1 else faultL (behL (look s) q.2) r
theorem faultL_cons (s : Str) (q : Nat × Str) (r : List (Nat × Str)) : faultL s (q :: r) = if behL (look s) q.2 = "" then some q.1 else faultL (behL (look s) q.2) r := rfl
def foundI : Option Nat → Int
  | none => -1
  | some k => k
def ShortR (l : List (Nat × Str)) : Prop := l.length ≤ 100000 ∧ ∀ q ∈ l, q.2.length ≤ 100000
def spFault : Sp := fun vs H Q _ => ∃ (a : Addr) (l : List (Nat × Str)), vs = [.ref a] ∧ RowAt H a l ∧ ShortR l ∧ ∀ H', Kp AllS H H' → Q (.int (foundI (faultL "head" l))) H'
def ffault : Nat → List (List (Nat × Str)) → Option (Nat × Nat)
  | _, [] => none
  | n, r :: rs => if r.length = 1 then ffault (n + 1) rs else match faultL "head" r with
    | some s => some (n + 1, s)
    | none => ffault (n + 1) rs
theorem ffault_cons (n : Nat) (r : List (Nat × Str)) (rs : List (List (Nat × Str))) : ffault n (r :: rs) = if r.length = 1 then ffault (n + 1) rs else match faultL "head" r with
    | some s => some (n + 1, s)
    | none => ffault (n + 1) rs := rfl
def spFirst : Sp := fun vs H Q _ => ∃ (z : Str) (rows : List (List (Nat × Str))), vs = [.str z] ∧ TextOf z rows ∧ (∀ r ∈ rows, ShortR r) ∧ (ffault 0 rows = none → ∀ H', Kp AllS H H' → Q .non H') ∧ ∀ a b, ffault 0 rows = some (a, b) → ∀ p H', H p = none → Kp AllS H H' → H' p = some (.tup [.int (a : Nat), .int (b : Nat)]) → Q (.ref p) H'
theorem formT_ok : formT.all (fun t => decide (t.1 ∈ formStates) && decide (Txt.split t.1 " " = [t.2.1, t.2.2.1, t.2.2.2]) && decide (t.2.1.length ≤ 10) && decide (t.2.2.1.length ≤ 10) && decide (t.1.length ≤ 100)) = true := by decide +kernel
theorem form_at {t : Str × (Str × Str × Str)} (h : t ∈ formT) : t.1 ∈ formStates ∧ Txt.split t.1 " " = [t.2.1, t.2.2.1, t.2.2.2] ∧ t.2.1.length ≤ 10 ∧ t.2.2.1.length ≤ 10 ∧ t.1.length ≤ 100 := by
  have h1 := List.all_eq_true.mp formT_ok t h
  simp only [Bool.and_eq_true, decide_eq_true_eq] at h1
  exact ⟨h1.1.1.1.1, h1.1.1.1.2, h1.1.1.2, h1.1.2, h1.2⟩
theorem nxt_in {s z : Str} (h : s ∈ keys ∨ s = "") : nxt s z ∈ keys ∨ nxt s z = "" := by
  unfold nxt
  split
  · exact .inr rfl
  · rename_i n
    rcases h with h | h
    · exact beh_in h
    · exact absurd h n
theorem run_in (ws : List Str) : ∀ {s : Str}, (s ∈ keys ∨ s = "") → (ws.foldl nxt s ∈ keys ∨ ws.foldl nxt s = "") := by
  induction ws with
  | nil => exact fun h => h
  | cons a ws ih => exact fun h => ih (nxt_in h)
theorem runW_in (ws : List Str) : runW ws ∈ keys ∨ runW ws = "" := run_in ws (.inl headKey)
theorem runW_snoc (ws : List Str) (z : Str) : runW (ws ++ [z]) = nxt (runW ws) z := by
  unfold runW
  rw [List.foldl_append] <;> rfl
section
variable {P : Program} {w : World} {K : PySem.W.Frag} {mg : Str → Option Value} {base : Heap}
abbrev N_ways : List Str := ["state", "form", "side", "spot"]
abbrev P_ways : List Str := ["state"]
theorem sc_ways : FnScope N_ways P_ways (defScope s_ways) := ⟨rfl, rfl, rfl, by decide +kernel, rfl, by decide +kernel, by decide +kernel⟩
theorem ok_ways (T : Tx w K mg) : Cl P w K mg base 3 "ways" P_ways (spWays K) := by
  obtain ⟨es, n, Dk⟩ := T.plainD
  refine Cl.mk T.d_ways rfl T.g_ways sc_ways (fun _ _ _ _ _ _ us hl => match us, hl with | [_], _ => rfl) (fun vs H Q E h => ?_) (fun cdv A outer s H vs Q E hr h => ?_)
  · obtain ⟨_, rfl, _⟩ := h
    rfl
  · obtain ⟨s, rfl, hs, q⟩ := h
    refine ⟨_, (pss_cons (ps_if (pt_cmpR (op_in_kd Dk) (pv 0) (pe_glob (v := V.ref (He.ga K "PLAINS")) (by rfl) T.g_PLAINS rfl) (by with_unfolding_all rfl)) (pss_one (ps_ret (pe_callTy call_list_of (by rfl) T.f_list (by decide +kernel) (pa_cons (pe_ix ix_kdict (pe_glob (v := V.ref (He.ga K "PLAINS")) (by rfl) T.g_PLAINS rfl) (pv 0) (fun _ _ => rfl)) pa_nil)))) pss_nil)
      (pss_cons (ps_asg (pe_split (pv 0) pe_str) (pg_unl (n := 3) rfl (pgs_cons (pg_name (i := 1) sc_ways.nd rfl (Or.inl rfl)) (pgs_cons (pg_name (i := 2) sc_ways.nd rfl (Or.inl rfl)) (pgs_cons (pg_name (i := 3) sc_ways.nd rfl (Or.inl rfl)) pgs_nil)))))
      (pss_one (ps_ret (pe_fn (ok_ways_in_form T) hr (by decide) (by rfl) (pa_cons (pv 1) (pa_cons (pv 2) (pa_cons (pv 3) pa_nil)))))))), ?_⟩
    walk_at "st"
    walk_at "wp"
    obtain ⟨q0, hq0, rfl⟩ := List.mem_map.mp hs
    have e0 := (tbl_at hq0).1
    rw [e0] at q
    rcases List.mem_append.mp hq0 with hp | hf
    · obtain ⟨p, vs, kd, hn, hv⟩ := T.plain (s := q0.1) (l := q0.2) hp
      refine ⟨_, hn, ?_⟩
      rw [if_pos (show (some (Value.ref p)).isSome = true from rfl)]
      refine ⟨_, _, _, rfl, rfl, kd, p, rfl, vs, .inr (hv H).1, ?_⟩
      (intro l hl; generalize hg0 : upd _ l _ = H1; obtain ⟨e1, h1⟩ := upd_ex hl hg0; clear hg0)
      exact q l H1 hl e1 ⟨vs, h1, (hv H1).2⟩
    · obtain ⟨t, ht, rfl⟩ := List.mem_map.mp hf
      obtain ⟨f1, f2, f3, f4, f5⟩ := form_at ht
      refine ⟨_, T.noPlain f1, ?_⟩
      rw [if_neg (by simp)]
      refine ⟨⟨_, rfl⟩, by decide +kernel, szL (show t.1.length + 2 ≤ 100000 by omega), ?_⟩
      (intro l hl; generalize hg0 : upd _ l _ = H1; obtain ⟨e1, h1⟩ := upd_ex hl hg0; clear hg0)
      rw [f2] at h1
      refine st_unl3 (sqS h1) ?_
      walk_at "wp"
      exact ⟨_, _, _, rfl, f3, f4, fun r H2 hr e2 h2 => q r H2 (e1.nn hr) (e1.trans e2) h2⟩
abbrev N_state_behind : List Str := ["state", "word", "kind", "then"]
abbrev P_state_behind : List Str := ["state", "word"]
theorem sc_state_behind : FnScope N_state_behind P_state_behind (defScope s_state_behind) := ⟨rfl, rfl, rfl, by decide +kernel, rfl, by decide +kernel, by decide +kernel⟩
theorem ok_state_behind (T : Tx w K mg) : Cl P w K mg base 4 "state_behind" P_state_behind spBeh := by
  refine Cl.mk T.d_state_behind rfl T.g_state_behind sc_state_behind (fun _ _ _ _ _ _ us hl => match us, hl with | [_, _], _ => rfl) (fun vs H Q E h => ?_) (fun cdv A outer s H vs Q E hr h => ?_)
  · obtain ⟨_, _, rfl, _⟩ := h
    rfl
  · obtain ⟨s, z, rfl, hs, hz, q⟩ := h
    refine ⟨_, (pss_cons (ps_for (passes_of rfl) rfl (pi_list (pe_fn (ok_ways T) hr (by decide) (by rfl) (pa_cons (pv 0) pa_nil))) (pg_tup (n := 2) rfl (pgs_cons (pg_name (i := 2) sc_state_behind.nd rfl (Or.inl rfl)) (pgs_cons (pg_name (i := 3) sc_state_behind.nd rfl (Or.inl rfl)) pgs_nil))) (pss_one (ps_if (pt_val (pe_fn (ok_word_fits T) hr (by decide) (by rfl) (pa_cons (pv 2) (pa_cons (pv 1) pa_nil)))) (pss_one (ps_ret (pv 3))) pss_nil)))
      (pss_one (ps_ret pe_str))), ?_⟩
    walk_at "st"
    walk_at "wp"
    refine ⟨_, rfl, s, rfl, hs, fun r H1 hr e1 ⟨vs, h1, f1⟩ => ⟨r, rfl, ⟨_, sqS h1⟩, ?_⟩⟩
    obtain ⟨Pv, hP⟩ := mkI fun (i : Nat) σ H2 => ∃ o1 o2 : Option V, σ = [some (V.str s), some (V.str z), o1, o2] ∧ Kp AllS H1 H2 ∧ behL ((look s).drop i) z = behL (look s) z
    refine for_list (xs := vs) Pv ((hP _ _ _).mpr ⟨none, none, rfl, Kp.refl _, rfl⟩) (fun i σ H2 _ p => ?_) (fun i x σ H2 hx p => ?_) (fun σ H2 p => ?_)
    · obtain ⟨_, _, _, e2, _⟩ := (hP _ _ _).mp p
      exact e2.seq (sqS h1)
    · obtain ⟨o1, o2, rfl, e2, hb⟩ := (hP _ _ _).mp p
      obtain ⟨b, hbx, p5, rfl, sq⟩ := f1.get' hx
      obtain ⟨c, rr, g1, g2, g3⟩ := drop_at (l := look s) (k := i) (List.getElem?_eq_some_iff.mp hbx).1
      obtain rfl : b = c := Option.some.inj (hbx.symm.trans g2)
      refine st_tup2 (e2.seqT sq) ?_
      walk_at "wp"
      refine ⟨_, _, rfl, hz, fun H3 e3 => ⟨_, rfl, ?_⟩⟩
      rw [g1] at hb
      rw [behL_cons] at hb
      by_cases c1 : wfits b.1 z = true
      · rw [if_pos c1] at hb ⊢
        have q1 := q H3 ((e1.trans e2).trans e3)
        rw [← hb] at q1
        exact q1
      · rw [if_neg c1] at hb ⊢
        exact (hP _ _ _).mpr ⟨_, _, rfl, e2.trans e3, by rw [g3]; exact hb⟩
    · obtain ⟨o1, o2, rfl, e2, hb⟩ := (hP _ _ _).mp p
      rw [f1.len, List.drop_length] at hb
      have q1 := q H2 (e1.trans e2)
      rw [← hb] at q1
      exact q1
abbrev N_state_of : List Str := ["words", "state", "word"]
abbrev P_state_of : List Str := ["words"]
theorem sc_state_of : FnScope N_state_of P_state_of (defScope s_state_of) := ⟨rfl, rfl, rfl, by decide +kernel, rfl, by decide +kernel, by decide +kernel⟩
theorem ok_state_of (T : Tx w K mg) : Cl P w K mg base 5 "state_of" P_state_of spState := by
  refine Cl.mk T.d_state_of rfl T.g_state_of sc_state_of (fun _ _ _ _ _ _ us hl => match us, hl with | [_], _ => rfl) (fun vs H Q E h => ?_) (fun cdv A outer s H vs Q E hr h => ?_)
  · obtain ⟨_, _, rfl, _⟩ := h
    rfl
  · obtain ⟨a, ws, rfl, ha, hz, q⟩ := h
    refine ⟨_, (pss_cons (ps_set (i := 1) sc_state_of.nd rfl (Or.inl rfl) (pe_gs (by rfl) T.s_HEAD))
      (pss_cons (ps_for (passes_of rfl) rfl (pi_list (pv 0)) (pg_name (i := 2) sc_state_of.nd rfl (Or.inl rfl)) (pss_one (ps_if (pt_cmpR op_ne (pv 1) pe_str (nomark _)) (pss_one (ps_set (i := 1) sc_state_of.nd rfl (Or.inl rfl) (pe_fn (ok_state_behind T) hr (by decide) (by rfl) (pa_cons (pv 1) (pa_cons (pv 2) pa_nil))))) pss_nil)))
      (pss_one (ps_ret (pv 1))))), ?_⟩
    walk_at "st"
    walk_at "wp"
    refine ⟨_, rfl, a, rfl, ⟨_, sqS ha⟩, ?_⟩
    obtain ⟨Pv, hP⟩ := mkI fun (i : Nat) σ H2 => ∃ o : Option V, σ = [some (V.ref a), some (V.str (runW (ws.take i))), o] ∧ Kp AllS H H2
    refine for_list (xs := ws.map V.str) Pv ((hP _ _ _).mpr ⟨none, rfl, Kp.refl _⟩) (fun i σ H2 _ p => ?_) (fun i x σ H2 hx p => ?_) (fun σ H2 p => ?_)
    · obtain ⟨_, _, e2⟩ := (hP _ _ _).mp p
      exact e2.seq (sqS ha)
    · obtain ⟨o, rfl, e2⟩ := (hP _ _ _).mp p
      rw [List.getElem?_map] at hx
      obtain ⟨z, hzi, rfl⟩ := Option.map_eq_some_iff.mp hx
      have et : runW (ws.take (i + 1)) = nxt (runW (ws.take i)) z := by rw [List.take_succ, hzi]; exact runW_snoc _ _
      walk_at "wp"
      rcases runW_in (ws.take i) with hk | hk
      · have n1 : ¬ runW (ws.take i) = "" := fun h => by rw [h] at hk; exact noKey hk
        rw [if_pos n1]
        refine ⟨_, _, rfl, hk, hz.2 z (List.mem_of_getElem? hzi), fun H3 e3 => ?_⟩
        refine (hP _ _ _).mpr ⟨some (V.str z), ?_, e2.trans e3⟩
        rw [et]
        unfold nxt
        rw [if_neg n1]
      · rw [if_neg (not_not_intro hk)]
        refine (hP _ _ _).mpr ⟨some (V.str z), ?_, e2⟩
        rw [et]
        unfold nxt
        rw [if_pos hk, hk]
    · obtain ⟨o, rfl, e2⟩ := (hP _ _ _).mp p
      have q1 := q H2 e2
      have et : ws.take (ws.map V.str).length = ws := by rw [List.length_map, List.take_length]
      refine ⟨_, rfl, ?_⟩
      rw [et]
      exact q1
abbrev N_is_beginning : List Str := ["words"]
abbrev P_is_beginning : List Str := ["words"]
theorem sc_is_beginning : FnScope N_is_beginning P_is_beginning (defScope s_is_beginning) := ⟨rfl, rfl, rfl, by decide +kernel, rfl, by decide +kernel, by decide +kernel⟩
theorem ok_is_beginning (T : Tx w K mg) : Cl P w K mg base 6 "is_beginning" P_is_beginning (spBeg isBeg) := by
  refine Cl.mk T.d_is_beginning rfl T.g_is_beginning sc_is_beginning (fun _ _ _ _ _ _ us hl => match us, hl with | [_], _ => rfl) (fun vs H Q E h => ?_) (fun cdv A outer s H vs Q E hr h => ?_)
  · obtain ⟨_, _, rfl, _⟩ := h
    rfl
  · obtain ⟨a, ws, rfl, ha, hz, q⟩ := h
    refine ⟨_, (pss_one (ps_ret (pe_and (pe_cmpR op_notIn_seq pe_str (pv 0) (by with_unfolding_all rfl)) (pe_one (pe_cmpR op_ne (pe_fn (ok_state_of T) hr (by decide) (by rfl) (pa_cons (pv 0) pa_nil)) pe_str (nomark _)))))), ?_⟩
    walk_at "st"
    walk_at "wp"
    refine st_ni (ws := ws) rfl (.inl (sqS ha)) ?_
    refine ⟨_, rfl, ?_⟩
    unfold isBeg at q
    by_cases c1 : ("" : Str) ∈ ws
    · rw [decide_eq_true c1] at q ⊢
      rw [if_neg (by simp)]
      exact q H (Kp.refl H)
    · rw [decide_eq_false c1] at q ⊢
      rw [if_pos (show (!false) = true from rfl)]
      refine ⟨a, ws, rfl, ha, hz, fun H1 e1 => ?_⟩
      walk_at "wp"
      have q1 := q H1 e1
      simpa using q1
abbrev N_is_statement : List Str := ["words"]
abbrev P_is_statement : List Str := ["words"]
theorem sc_is_statement : FnScope N_is_statement P_is_statement (defScope s_is_statement) := ⟨rfl, rfl, rfl, by decide +kernel, rfl, by decide +kernel, by decide +kernel⟩
theorem ok_is_statement (T : Tx w K mg) : Cl P w K mg base 7 "is_statement" P_is_statement (spBeg isSta) := by
  refine Cl.mk T.d_is_statement rfl T.g_is_statement sc_is_statement (fun _ _ _ _ _ _ us hl => match us, hl with | [_], _ => rfl) (fun vs H Q E h => ?_) (fun cdv A outer s H vs Q E hr h => ?_)
  · obtain ⟨_, _, rfl, _⟩ := h
    rfl
  · obtain ⟨a, ws, rfl, ha, hz, q⟩ := h
    refine ⟨_, (pss_one (ps_ret (pe_and (pe_fn (ok_is_beginning T) hr (by decide) (by rfl) (pa_cons (pv 0) pa_nil)) (pe_one (pe_cmpR op_eq (pe_fn (ok_state_behind T) hr (by decide) (by rfl) (pa_cons (pe_fn (ok_state_of T) hr (by decide) (by rfl) (pa_cons (pv 0) pa_nil)) (pa_cons pe_str pa_nil))) pe_str (nomark _)))))), ?_⟩
    walk_at "st"
    walk_at "wp"
    refine ⟨a, ws, rfl, ha, hz, fun H1 e1 => ⟨_, rfl, ?_⟩⟩
    unfold isSta at q
    by_cases c1 : isBeg ws = true
    · rw [if_pos c1]
      refine ⟨a, ws, rfl, e1 _ _ ha trivial, hz, fun H2 e2 => ?_⟩
      have hk : runW ws ∈ keys := by
        rcases runW_in ws with h | h
        · exact h
        · unfold isBeg at c1
          rw [h] at c1
          simp at c1
      refine ⟨_, _, rfl, hk, by decide +kernel, fun H3 e3 => ?_⟩
      walk_at "wp"
      have q1 := q H3 ((e1.trans e2).trans e3)
      rw [c1] at q1
      simpa using q1
    · rw [if_neg c1]
      have q1 := q H1 e1
      rw [Bool.eq_false_iff.mpr c1] at q1
      exact q1
abbrev N_fault_of_line : List Str := ["words", "state", "spot", "word"]
abbrev P_fault_of_line : List Str := ["words"]
theorem sc_fault_of_line : FnScope N_fault_of_line P_fault_of_line (defScope s_fault_of_line) := ⟨rfl, rfl, rfl, by decide +kernel, rfl, by decide +kernel, by decide +kernel⟩
theorem ok_fault_of_line (T : Tx w K mg) : Cl P w K mg base 5 "fault_of_line" P_fault_of_line spFault := by
  refine Cl.mk T.d_fault_of_line rfl T.g_fault_of_line sc_fault_of_line (fun _ _ _ _ _ _ us hl => match us, hl with | [_], _ => rfl) (fun vs H Q E h => ?_) (fun cdv A outer s H vs Q E hr h => ?_)
  · obtain ⟨_, _, rfl, _⟩ := h
    rfl
  · obtain ⟨a, l, rfl, ha, hz, q⟩ := h
    refine ⟨_, (pss_cons (ps_set (i := 1) sc_fault_of_line.nd rfl (Or.inl rfl) (pe_gs (by rfl) T.s_HEAD))
      (pss_cons (ps_for (passes_of rfl) rfl (pi_list (pv 0)) (pg_tup (n := 2) rfl (pgs_cons (pg_name (i := 2) sc_fault_of_line.nd rfl (Or.inl rfl)) (pgs_cons (pg_name (i := 3) sc_fault_of_line.nd rfl (Or.inl rfl)) pgs_nil))) (pss_cons (ps_set (i := 1) sc_fault_of_line.nd rfl (Or.inl rfl) (pe_fn (ok_state_behind T) hr (by decide) (by rfl) (pa_cons (pv 1) (pa_cons (pv 3) pa_nil))))
      (pss_one (ps_if (pt_cmpR op_eq (pv 1) pe_str (nomark _)) (pss_one (ps_ret (pv 2))) pss_nil))))
      (pss_one (ps_ret (pe_un un_neg pe_int))))), ?_⟩
    walk_at "st"
    walk_at "wp"
    obtain ⟨vs, ha, fa⟩ := ha
    refine ⟨_, rfl, a, rfl, ⟨_, sqS ha⟩, ?_⟩
    obtain ⟨Pv, hP⟩ := mkI fun (i : Nat) σ H2 => ∃ (s : Str) (o1 o2 : Option V), σ = [some (V.ref a), some (V.str s), o1, o2] ∧ Kp AllS H H2 ∧ s ∈ keys ∧ faultL s (l.drop i) = faultL "head" l
    refine for_list (xs := vs) Pv ((hP _ _ _).mpr ⟨_, none, none, rfl, Kp.refl _, headKey, rfl⟩) (fun i σ H2 _ p => ?_) (fun i x σ H2 hx p => ?_) (fun σ H2 p => ?_)
    · obtain ⟨_, _, _, _, e2, _⟩ := (hP _ _ _).mp p
      exact e2.seq (sqS ha)
    · obtain ⟨s, o1, o2, rfl, e2, hk, hb⟩ := (hP _ _ _).mp p
      obtain ⟨b, hbx, p5, rfl, sq⟩ := fa.get' hx
      obtain ⟨c, rr, g1, g2, g3⟩ := drop_at (l := l) (k := i) (List.getElem?_eq_some_iff.mp hbx).1
      obtain rfl : b = c := Option.some.inj (hbx.symm.trans g2)
      refine st_tup2 (e2.seqT (sqT sq)) ?_
      walk_at "wp"
      refine ⟨_, _, rfl, hk, hz.2 b (List.mem_of_getElem? hbx), fun H3 e3 => ?_⟩
      walk_at "wp"
      rw [g1] at hb
      rw [faultL_cons] at hb
      by_cases c1 : behL (look s) b.2 = ""
      · rw [if_pos c1] at hb ⊢
        have q1 := q H3 (e2.trans e3)
        rw [← hb] at q1
        exact q1
      · rw [if_neg c1] at hb ⊢
        refine (hP _ _ _).mpr ⟨_, _, _, rfl, e2.trans e3, ?_, by rw [g3]; exact hb⟩
        rcases beh_in (z := b.2) hk with h | h
        · exact h
        · exact absurd h c1
    · obtain ⟨s, o1, o2, rfl, e2, hk, hb⟩ := (hP _ _ _).mp p
      rw [fa.len, List.drop_length] at hb
      have q1 := q H2 e2
      rw [← hb] at q1
      walk_at "wp"
      exact q1
abbrev N_first_fault : List Str := ["text", "row", "words", "spot"]
abbrev P_first_fault : List Str := ["text"]
theorem sc_first_fault : FnScope N_first_fault P_first_fault (defScope s_first_fault) := ⟨rfl, rfl, rfl, by decide +kernel, rfl, by decide +kernel, by decide +kernel⟩
theorem ok_first_fault (T : Tx w K mg) : Cl P w K mg base 6 "first_fault" P_first_fault spFirst := by
  refine Cl.mk T.d_first_fault rfl T.g_first_fault sc_first_fault (fun _ _ _ _ _ _ us hl => match us, hl with | [_], _ => rfl) (fun vs H Q E h => ?_) (fun cdv A outer s H vs Q E hr h => ?_)
  · obtain ⟨_, _, rfl, _⟩ := h
    rfl
  · obtain ⟨z, rows, rfl, hz, hs, q1, q2⟩ := h
    refine ⟨_, (pss_cons (ps_set (i := 1) sc_first_fault.nd rfl (Or.inl rfl) pe_int)
      (pss_cons (ps_for (passes_of rfl) rfl (pi_list (pe_fn (ok_lines T) hr (by decide) (by rfl) (pa_cons (pv 0) pa_nil))) (pg_name (i := 2) sc_first_fault.nd rfl (Or.inl rfl)) (pss_cons (ps_aug (i := 1) sc_first_fault.nd rfl (Or.inl rfl) pe_int ip_add)
      (pss_cons (ps_set (i := 3) sc_first_fault.nd rfl (Or.inl rfl) (pe_ifExp (pt_cmpR op_eq (pe_callB call_len_seq (by rfl) T.f_len PySem.boot_len (pa_cons (pv 2) pa_nil)) pe_int (nomark _)) (pe_un un_neg pe_int) (pe_fn (ok_fault_of_line T) hr (by decide) (by rfl) (pa_cons (pv 2) pa_nil))))
      (pss_one (ps_if (pt_cmpR op_ge (pv 3) pe_int (nomark _)) (pss_one (ps_ret (pe_tup (pa_cons (pv 1) (pa_cons (pv 3) pa_nil))))) pss_nil)))))
      (pss_one (ps_ret pe_non)))), ?_⟩
    walk_at "st"
    walk_at "wp"
    refine ⟨_, rfl, z, rows, rfl, hz, fun r H1 hr e1 ⟨vs, h1, f1⟩ => ⟨r, rfl, ⟨_, sqS h1⟩, ?_⟩⟩
    obtain ⟨Pv, hP⟩ := mkI fun (i : Nat) σ H2 => ∃ (o1 o2 : Option V), σ = [some (V.str z), some (V.int (i : Nat)), o1, o2] ∧ Kp AllS H1 H2 ∧ ffault i (rows.drop i) = ffault 0 rows
    refine for_list (xs := vs) Pv ((hP _ _ _).mpr ⟨none, none, rfl, Kp.refl _, rfl⟩) (fun i σ H2 _ p => ?_) (fun i x σ H2 hx p => ?_) (fun σ H2 p => ?_)
    · obtain ⟨_, _, _, e2, _⟩ := (hP _ _ _).mp p
      exact e2.seq (sqS h1)
    · obtain ⟨o1, o2, rfl, e2, hb⟩ := (hP _ _ _).mp p
      obtain ⟨b, hbx, p5, rfl, vs5, h5, f5⟩ := f1.get' hx
      obtain ⟨c, rr, g1, g2, g3⟩ := drop_at (l := rows) (k := i) (List.getElem?_eq_some_iff.mp hbx).1
      obtain rfl : b = c := Option.some.inj (hbx.symm.trans g2)
      rw [g1] at hb
      rw [ffault_cons] at hb
      walk_at "wp"
      refine ⟨_, rfl, _, _, rfl, rfl, ?_⟩
      walk_at "wp"
      refine ⟨vs5, .inl (sqS (e2 _ _ h5 trivial)), ?_⟩
      rw [f5.len]
      have ei : ((i : Nat) : Int) + 1 = ((i + 1 : Nat) : Int) := by omega
      by_cases c1 : b.length = 1
      · rw [if_pos c1] at hb
        rw [if_pos (by omega), if_neg (by omega), ei]
        exact (hP _ _ _).mpr ⟨_, _, rfl, e2, by rw [g3]; exact hb⟩
      · rw [if_neg c1] at hb
        rw [if_neg (by omega)]
        refine ⟨p5, b, rfl, RowAt.all e2 ⟨vs5, h5, f5⟩, hs b (List.mem_of_getElem? hbx), fun H3 e3 => ?_⟩
        cases cf : faultL "head" b with
        | none =>
          rw [cf] at hb
          refine ⟨_, rfl, ?_⟩
          rw [if_neg (by decide), ei]
          exact (hP _ _ _).mpr ⟨_, _, rfl, e2.trans e3, by rw [g3]; exact hb⟩
        | some k =>
          rw [cf] at hb
          refine ⟨_, rfl, ?_⟩
          rw [show foundI (some k) = (k : Int) from rfl, if_pos (show (0 : Int) ≤ (k : Nat) by omega), ei]
          refine ⟨sz3 (Nat.le_of_ble_eq_true rfl), ?_⟩
          (intro t ht; generalize hg0 : upd _ t _ = H4; obtain ⟨e4, h4⟩ := upd_ex ht hg0; clear hg0)
          exact q2 _ _ hb.symm t H4 (((e1.trans e2).trans e3).nn ht) (((e1.trans e2).trans e3).trans e4) h4
    · obtain ⟨o1, o2, rfl, e2, hb⟩ := (hP _ _ _).mp p
      rw [f1.len, List.drop_length] at hb
      walk_at "wp"
      exact q1 hb.symm H2 (e1.trans e2)
end
end K31
set_option Elab.async false
set_option linter.all false
set_option maxRecDepth 100000
set_option maxHeartbeats 4000000
namespace K31
open PySem PySem.Spec PyProof.Rows L2
/-! the parser: numbers of words, data in the heap, the walk's object, what a step of the parser lets out -/
/-! ### numbers -/
/-- a word's number -/
def intOf (z : Str) : Int := ((NumText.digitsVal z.cps.toList : Nat) : Int)
theorem digits_mem {c : Nat} (h : isD c = true) : 48 ≤ c ∧ c ≤ 57 := by
  have e : digitsS.cps.toList = [48, 49, 50, 51, 52, 53, 54, 55, 56, 57] := by decide +kernel
  have h2 := of_decide_eq_true h
  rw [e] at h2
  simp only [List.mem_cons, List.not_mem_nil, or_false] at h2
  omega
theorem foldl_lt : ∀ (cs : List Nat) (a : Nat), (∀ c ∈ cs, c ≤ 57) → cs.foldl (fun acc c => acc * 10 + (c - 48)) a < (a + 1) * 10 ^ cs.length
  | [], a, _ => by simp
  | c :: cs, a, h => by
    have h1 := foldl_lt cs (a * 10 + (c - 48)) fun d hd => h d (List.mem_cons_of_mem _ hd)
    have h2 := h c (List.mem_cons_self ..)
    rw [List.foldl_cons, List.length_cons, Nat.pow_succ']
    refine Nat.lt_of_lt_of_le h1 ?_
    rw [← Nat.mul_assoc]
    exact Nat.mul_le_mul_right _ (by omega)
theorem number_ok {z : Str} (h : isNumber z = true) : PySem.intText? z = some (intOf z) ∧ z.length ≤ 100 ∧ 0 ≤ intOf z ∧ (intOf z).natAbs < 2 ^ 340 := by
  unfold isNumber at h
  simp only [Bool.and_eq_true, decide_eq_true_eq] at h
  obtain ⟨h1, h2, h3⟩ := h
  have ha : NumText.AllDigits z.cps.toList := fun c hc => digits_mem (List.all_eq_true.mp h3 c hc)
  have hl : z.cps.toList.length = z.length := (TL.len_tl z).symm
  refine ⟨PySem.intText_digits ha (fun e => by rw [e] at hl; simp at hl; omega) (by omega), h2, Int.natCast_nonneg _, ?_⟩
  have h4 := foldl_lt z.cps.toList 0 fun c hc => (ha c hc).2
  show (((NumText.digitsVal z.cps.toList : Nat) : Int)).natAbs < _
  rw [Int.natAbs_natCast]
  refine Nat.lt_of_lt_of_le h4 ?_
  rw [hl]
  refine Nat.le_trans (Nat.mul_le_mul_left _ (Nat.pow_le_pow_right (by decide) h2)) (by decide +kernel)
/-- a fraction in its lowest terms -/
def frac (a b : Int) : Int × Int := (a / ((Nat.gcd a.natAbs b.natAbs : Nat) : Int), b / ((Nat.gcd a.natAbs b.natAbs : Nat) : Int))
/-! ### data -/
mutual
theorem dp_map {K : PySem.W.Frag} {H H' : Hp} (hL : ∀ a xs, SqL K H a xs → SqL K H' a xs) (hT : ∀ a xs, SqT K H a xs → SqT K H' a xs) : ∀ (d : PyData) (v : V), Dp K H v d → Dp K H' v d
  | .none, _, h => by
    cases h
    exact .non
  | .bool b, _, h => by
    cases h
    exact .bl b
  | .int i, _, h => by
    cases h
    exact .int i
  | .str x, _, h => by
    cases h
    exact .str x
  | .list ds, _, h => by
    cases h with
    | lst q r => exact .lst (hL _ _ q) (dpAll_map hL hT ds _ r)
  | .tuple ds, _, h => by
    cases h with
    | tup q r => exact .tup (hT _ _ q) (dpAll_map hL hT ds _ r)
  | .dict _, _, h => by cases h
theorem dpAll_map {K : PySem.W.Frag} {H H' : Hp} (hL : ∀ a xs, SqL K H a xs → SqL K H' a xs) (hT : ∀ a xs, SqT K H a xs → SqT K H' a xs) : ∀ (ds : List PyData) (vs : List V), DpAll K H vs ds → DpAll K H' vs ds
  | [], _, h => by
    cases h
    exact .nil
  | d :: ds, _, h => by
    cases h with
    | cons q r => exact .cons (dp_map hL hT d _ q) (dpAll_map hL hT ds _ r)
end
/-- no instance: what a parser's steps leave as it was -/
def NoIns : HO → Prop := fun o => ∀ C dx fs, o ≠ .ins C dx fs
theorem Kp.seqLN {K : PySem.W.Frag} {H H' : Hp} {a : Addr} {xs : List V} (e : Kp NoIns H H') (h : SqL K H a xs) : SqL K H' a xs := by
  rcases h with (h | ⟨o, h⟩) | h
  · exact .inl (.inl (e _ _ h fun _ _ _ z => by cases z))
  · exact .inl (.inr ⟨o, e _ _ h fun _ _ _ z => by cases z⟩)
  · exact .inr h
theorem Kp.seqTN {K : PySem.W.Frag} {H H' : Hp} {a : Addr} {xs : List V} (e : Kp NoIns H H') (h : SqT K H a xs) : SqT K H' a xs := by
  rcases h with (h | ⟨o, h⟩) | h
  · exact .inl (.inl (e _ _ h fun _ _ _ z => by cases z))
  · exact .inl (.inr ⟨o, e _ _ h fun _ _ _ z => by cases z⟩)
  · exact .inr h
theorem Kp.dp {K : PySem.W.Frag} {H H' : Hp} (e : Kp NoIns H H') {v : V} {d : PyData} (h : Dp K H v d) : Dp K H' v d := dp_map (fun _ _ => e.seqLN) (fun _ _ => e.seqTN) d v h
theorem Kp.dpAll {K : PySem.W.Frag} {H H' : Hp} (e : Kp NoIns H H') {v : List V} {d : List PyData} (h : DpAll K H v d) : DpAll K H' v d := dpAll_map (fun _ _ => e.seqLN) (fun _ _ => e.seqTN) d v h
/-! ### the walk's object -/
abbrev Tok2 := Nat × Str
def wf (row : Nat) (a : Addr) (k : Nat) : List (Str × V) := [("own_row", .int row), ("own_words", .ref a), ("own_place", .int k)]
theorem wf_row (row : Nat) (a : Addr) (k : Nat) : (wf row a k).lookup ("own_row" : Str) = some (.int row) := by
  unfold wf
  simp only [List.lookup, show (("own_row" : Str) == "own_row") = true by decide +kernel]
theorem wf_words (row : Nat) (a : Addr) (k : Nat) : (wf row a k).lookup ("own_words" : Str) = some (.ref a) := by
  unfold wf
  simp only [List.lookup, show (("own_words" : Str) == "own_row") = false by decide +kernel, show (("own_words" : Str) == "own_words") = true by decide +kernel]
theorem wf_place (row : Nat) (a : Addr) (k : Nat) : (wf row a k).lookup ("own_place" : Str) = some (.int k) := by
  unfold wf
  simp only [List.lookup, show (("own_place" : Str) == "own_row") = false by decide +kernel, show (("own_place" : Str) == "own_words") = false by decide +kernel, show (("own_place" : Str) == "own_place") = true by decide +kernel]
theorem wf_put (row : Nat) (a : Addr) (k j : Nat) : putF "own_place" (.int j) (wf row a k) = wf row a j := by
  unfold wf
  simp only [putF, show ¬ (("own_row" : Str) = "own_place") by decide +kernel, show ¬ (("own_words" : Str) = "own_place") by decide +kernel, if_false, if_true]
theorem wf_no (row : Nat) (a : Addr) (k : Nat) {m : Str} (h1 : (m == "own_row") = false) (h2 : (m == "own_words") = false) (h3 : (m == "own_place") = false) : (wf row a k).lookup m = none := by
  unfold wf
  simp only [List.lookup, h1, h2, h3]
/-- some words, then the line's end -/
def Good (rest : List Tok2) : Prop := ∃ (l : List Tok2) (s : Nat), rest = l ++ [(s, ("" : Str))] ∧ (∀ q ∈ l, q.2 ≠ ("" : Str)) ∧ (∀ q ∈ l, q.2.length ≤ 100000) ∧ l.length ≤ 50000
def wd : List Tok2 → Str
  | [] => ""
  | q :: _ => q.2
def spt : List Tok2 → Nat
  | [] => 0
  | q :: _ => q.1
theorem Good.cases {rest : List Tok2} (g : Good rest) : (∃ s, rest = [(s, ("" : Str))]) ∨ ∃ q r, rest = q :: r ∧ q.2 ≠ "" ∧ q.2.length ≤ 100000 ∧ Good r := by
  obtain ⟨l, s, rfl, h1, h2, h3⟩ := g
  cases l with
  | nil => exact .inl ⟨s, rfl⟩
  | cons q l => exact .inr ⟨q, l ++ [(s, ("" : Str))], rfl, h1 q (List.mem_cons_self ..), h2 q (List.mem_cons_self ..), l, s, rfl, fun a b => h1 a (List.mem_cons_of_mem _ b), fun a b => h2 a (List.mem_cons_of_mem _ b), Nat.le_of_succ_le h3⟩
theorem Good.tail {rest : List Tok2} (g : Good rest) (h : wd rest ≠ "") : Good rest.tail := by
  rcases g.cases with ⟨s, rfl⟩ | ⟨q, r, rfl, _, _, g2⟩
  · exact absurd rfl h
  · exact g2
theorem Good.short {rest : List Tok2} (g : Good rest) : (wd rest).length ≤ 100000 := by
  rcases g.cases with ⟨s, rfl⟩ | ⟨q, r, rfl, _, h, _⟩
  · exact Nat.zero_le _
  · exact h
theorem Good.cons {rest : List Tok2} (g : Good rest) : rest = (spt rest, wd rest) :: rest.tail := by
  rcases g.cases with ⟨s, rfl⟩ | ⟨q, r, rfl, _, h, _⟩
  · rfl
  · rfl
theorem Good.len {rest : List Tok2} (g : Good rest) : rest.length ≤ 50001 := by
  obtain ⟨l, s, rfl, h1, h2, h3⟩ := g
  rw [List.length_append, List.length_singleton]
  omega
/-- the walk at w over a row (its number, its list), rest to come -/
def WS (K : PySem.W.Frag) (H : Hp) (w : Addr) (row : Nat × Addr) (rest : List Tok2) : Prop :=
  ∃ dx k l, H w = some (.ins (He.ga K "Walk") dx (wf row.1 row.2 k)) ∧ RowAt H row.2 l ∧ l.drop k = rest ∧ Good rest
theorem RowAt.noIns {H H' : Hp} (e : Kp NoIns H H') {a : Addr} {l : List Tok2} (h : RowAt H a l) : RowAt H' a l := h.kp e (fun _ _ _ _ z => by cases z) fun _ _ _ _ _ _ z => by cases z
theorem WS.all {K : PySem.W.Frag} {H H' : Hp} {w : Addr} {row : Nat × Addr} {rest : List Tok2} (h : WS K H w row rest) (e : Kp AllS H H') : WS K H' w row rest := by
  obtain ⟨dx, k, l, h1, h2, h3, h4⟩ := h
  exact ⟨dx, k, l, e _ _ h1 trivial, h2.all e, h3, h4⟩
theorem WS.good {K : PySem.W.Frag} {H : Hp} {w : Addr} {row : Nat × Addr} {rest : List Tok2} (h : WS K H w row rest) : Good rest := by
  obtain ⟨dx, k, l, h1, h2, h3, h4⟩ := h
  exact h4
theorem WS.upd {K : PySem.W.Frag} {H1 H3 : Hp} {o p : Addr} {row : Nat × Addr} {r r1 : List Tok2} {xs : List V} {u : HO} (w3 : WS K H3 o row r) (w1 : WS K H1 o row r1) (hp : H1 p = none) (h3 : H3 p = some (.lst xs)) : WS K (upd H3 p u) o row r := by
  obtain ⟨dx, k, l, a1, a2, a3, a4⟩ := w3
  obtain ⟨_, _, _, b1, ⟨vs, b2, _⟩, _⟩ := w1
  exact ⟨dx, k, l, by rw [upd_ne (ne_of_none b1 hp)]; exact a1, a2.updL h3 (ne_of_none b2 hp) u, a3, a4⟩
theorem Kp.mutN {H H1 H3 : Hp} {p : Addr} {u : HO} (e : Kp NoIns H H1) (hp : H1 p = Option.none) (e3 : Kp NoIns H H3) : Kp NoIns H (L2.upd H3 p u) := fun a o ha s => by
  rw [upd_ne (ne_of_none (e a o ha s) hp)]
  exact e3 a o ha s
/-- a statement's end, closed -/
theorem tSeq_op {a b : TS} {D : Ends} {σ : L2.St} {H : Hp} (h : ∀ R : L2.St → Hp → Prop, (∀ σ' H', b D σ' H' → R σ' H') → a { D with nx := R } σ H) : tSeq a b D σ H := h (fun σ' H' => b D σ' H') fun _ _ h => h
theorem tSeq_op2 {a b c : TS} {D : Ends} {σ : L2.St} {H : Hp} (h : ∀ R : L2.St → Hp → Prop, (∀ σ' H', c D σ' H' → R σ' H') → tSeq a b { D with nx := R } σ H) : tSeq a (tSeq b c) D σ H := h (fun σ' H' => c D σ' H') fun _ _ h => h
/-- what a step of the parser answers: a value and what is left, or the spot of the wrong word -/
abbrev PR (α : Type) := Except Nat (α × List Tok2)
def Out {α : Type} (K : PySem.W.Frag) (H : Hp) (w : Addr) (row : Nat × Addr) (r : PR α) (rep : V → α → Hp → Hp → Prop) (Q : VK) (E : XK) : Prop :=
  (∀ x rest', r = .ok (x, rest') → ∀ v H', Kp NoIns H H' → WS K H' w row rest' → rep v x H H' → Q v H') ∧
  ∀ s, r = .error s → ∀ d H', Kp NoIns H H' → H' d = some (.xd [("spot", .int (s : Nat)), ("row", .int row.1)]) → E (.ref (He.ga K "BadText")) (some d) H'
def andThen {α β : Type} (m : PR α) (f : α → List Tok2 → PR β) : PR β := match m with
  | .ok (x, r) => f x r
  | .error s => .error s
/-- a step within a walk: its errors are the walk's -/
theorem Out.step {α β : Type} {K : PySem.W.Frag} {H0 H : Hp} {w : Addr} {row : Nat × Addr} {m : PR α} {f : α → List Tok2 → PR β} {rep : V → β → Hp → Hp → Prop} {rep1 : V → α → Hp → Hp → Prop} {Q Q1 : VK} {E : XK} (k : Out K H0 w row (andThen m f) rep Q E) (e : Kp NoIns H0 H)
    (go : ∀ x r', m = .ok (x, r') → Out K H0 w row (f x r') rep Q E → ∀ v H', Kp NoIns H H' → WS K H' w row r' → rep1 v x H H' → Q1 v H') : Out K H w row m rep1 Q1 E := by
  cases m with
  | ok p =>
    obtain ⟨x, r⟩ := p
    refine ⟨fun x2 r2 h => ?_, fun s h => ?_⟩
    · cases h
      exact go x r rfl k
    · cases h
  | error s =>
    refine ⟨fun x2 r2 h => ?_, fun s2 h => ?_⟩
    · cases h
    · cases h
      exact fun d H' e2 hd => k.2 s rfl d H' (e.trans e2) hd
/-- .. the last: its answer is the walk's -/
theorem Out.last {α : Type} {K : PySem.W.Frag} {H0 H : Hp} {w : Addr} {row : Nat × Addr} {m : PR α} {rep : V → α → Hp → Hp → Prop} {Q : VK} {E : XK} (k : Out K H0 w row m rep Q E) (e : Kp NoIns H0 H) (hb : ∀ v x H', Kp NoIns H H' → rep v x H H' → rep v x H0 H') : Out K H w row m rep Q E :=
  ⟨fun x r h v H' e2 ws rp => k.1 x r h v H' (e.trans e2) ws (hb v x H' e2 rp), fun s h d H' e2 hd => k.2 s h d H' (e.trans e2) hd⟩
def insB : HO → Bool
  | .ins _ _ _ => true
  | _ => false
theorem insB_no {o : HO} (h : NoIns o) : insB o = false := by
  cases o <;> first | rfl | exact absurd rfl (h _ _ _)
theorem insB_of {o : HO} (h : insB o = false) : NoIns o := fun C dx fs e => by
  rw [e] at h
  cases h
/-- what of H is not known in the heap before -/
def hidB (H0 H : Hp) : Hp := fun a => match H0 a with
  | some o => if insB o = true then H a else none
  | none => H a
/-- data that stands in H, none of it known in the heap before -/
def DpF (K : PySem.W.Frag) (H0 H : Hp) (v : V) (d : PyData) : Prop := Dp K (hidB H0 H) v d
def DpFs (K : PySem.W.Frag) (H0 H : Hp) (vs : List V) (ds : List PyData) : Prop := DpAll K (hidB H0 H) vs ds
section
variable {K : PySem.W.Frag} {H0 H1 H H' : Hp} {v : V} {vs : List V} {d : PyData} {ds : List PyData} {p : Addr}
theorem hidB_at {a : Addr} {o : HO} (h : hidB H0 H a = some o) : H a = some o ∧ ∀ u, H0 a = some u → insB u = true := by
  unfold hidB at h
  split at h
  · rename_i u e
    split at h
    · rename_i c
      exact ⟨h, fun x ex => by rw [e] at ex; cases ex; exact c⟩
    · cases h
  · rename_i e
    exact ⟨h, fun x ex => by rw [e] at ex; cases ex⟩
theorem hidB_mk {a : Addr} {o : HO} (h : H a = some o) (n : ∀ u, H0 a = some u → insB u = true) : hidB H0 H a = some o := by
  unfold hidB
  split
  · rename_i u e
    rw [if_pos (n u e)]
    exact h
  · exact h
theorem hidB_le : Kp AllS (hidB H0 H) H := fun a o h _ => (hidB_at h).1
theorem hidB_base (e : Kp NoIns H0 H1) : Kp AllS (hidB H1 H) (hidB H0 H) := fun a o h _ => by
  obtain ⟨h1, h2⟩ := hidB_at h
  refine hidB_mk h1 fun u hu => ?_
  cases q : insB u with
  | true => rfl
  | false =>
    have h3 := h2 u (e _ _ hu (insB_of q))
    rw [q] at h3
    cases h3
theorem hidB_kp (e : Kp NoIns H H') : Kp NoIns (hidB H0 H) (hidB H0 H') := fun a o h s => by
  obtain ⟨h1, h2⟩ := hidB_at h
  exact hidB_mk (e _ _ h1 s) h2
theorem hidB_new (e : Kp NoIns H0 H) (hp : H p = none) {o : HO} (h : H' p = some o) : hidB H0 H' p = some o := hidB_mk h fun u hu => by
  cases q : insB u with
  | true => rfl
  | false =>
    have h3 := e _ _ hu (insB_of q)
    rw [hp] at h3
    cases h3
/-- .. nor at D, where the later heap knows it -/
theorem hidB_hid (e : Kp NoIns H0 H1) {D : Addr} {o : HO} (hD : H1 D = some o) (n : NoIns o) : Kp AllS (hidB H1 H) (hid D (hidB H0 H)) := fun a u h _ => by
  have h1 := hidB_base e a u h trivial
  have ne : a ≠ D := fun z => by
    obtain ⟨_, h2⟩ := hidB_at h
    have h3 := h2 o (by rw [z]; exact hD)
    rw [insB_no n] at h3
    cases h3
  rw [hid_ne ne]
  exact h1
theorem hidB_free (e : Kp NoIns H0 H1) {D : Addr} (hD : H D = none) : Kp AllS (hidB H1 H) (hid D (hidB H0 H)) := fun a u h _ => by
  have h1 := hidB_base e a u h trivial
  have ne : a ≠ D := fun z => by
    rw [z] at h
    rw [(hidB_at h).1] at hD
    cases hD
  rw [hid_ne ne]
  exact h1
theorem hidB_dom (e : ∀ a o, H0 a = some o → NoIns o → ∃ u, H1 a = some u ∧ NoIns u) : Kp AllS (hidB H1 H) (hidB H0 H) := fun a o h _ => by
  obtain ⟨h1, h2⟩ := hidB_at h
  refine hidB_mk h1 fun u hu => ?_
  cases q : insB u with
  | true => rfl
  | false =>
    obtain ⟨x, hx, nx⟩ := e _ _ hu (insB_of q)
    have h3 := h2 x hx
    rw [insB_no nx] at h3
    cases h3
theorem hidB_updK {D : Addr} {o u : HO} (hD : H0 D = some o) (n : NoIns o) : hidB H0 (upd H D u) = hidB H0 H := by
  funext a
  unfold hidB
  by_cases z : a = D
  · rw [z, hD]
    dsimp only
    rw [insB_no n, if_neg Bool.false_ne_true, if_neg Bool.false_ne_true]
  · rw [upd_ne z]
theorem hidB_D {D : Addr} {o : HO} (hD : H0 D = some o) (n : NoIns o) : Kp AllS (hidB H0 H) (hid D H) := fun a u h _ => by
  have ne : a ≠ D := fun z => by
    have h3 := (hidB_at h).2 o (by rw [z]; exact hD)
    rw [insB_no n] at h3
    cases h3
  rw [hid_ne ne]
  exact (hidB_at h).1
theorem DpF.dp (h : DpF K H0 H v d) : Dp K H v d := Kp.dp hidB_le.all h
theorem DpF.base (h : DpF K H1 H v d) (e : Kp NoIns H0 H1) : DpF K H0 H v d := Kp.dp (hidB_base e).all h
theorem DpF.kp (h : DpF K H0 H v d) (e : Kp NoIns H H') : DpF K H0 H' v d := (hidB_kp e).dp h
theorem DpFs.base (h : DpFs K H1 H vs ds) (e : Kp NoIns H0 H1) : DpFs K H0 H vs ds := Kp.dpAll (hidB_base e).all h
theorem DpFs.kp (h : DpFs K H0 H vs ds) (e : Kp NoIns H H') : DpFs K H0 H' vs ds := (hidB_kp e).dpAll h
theorem DpFs.nil : DpFs K H0 H [] [] := DpAll.nil
theorem DpFs.cons (h : DpF K H0 H v d) (r : DpFs K H0 H vs ds) : DpFs K H0 H (v :: vs) (d :: ds) := DpAll.cons h r
theorem DpF.int {i : Int} : DpF K H0 H (.int i) (.int i) := Dp.int i
theorem DpF.str {z : Str} : DpF K H0 H (.str z) (.str z) := Dp.str z
theorem DpF.tup (e : Kp NoIns H0 H) (hp : H p = none) (h : H' p = some (.tup vs)) (r : DpFs K H0 H' vs ds) : DpF K H0 H' (.ref p) (.tuple ds) := Dp.tup (sqT (hidB_new e hp h)) r
theorem DpF.lst (e : Kp NoIns H0 H) (hp : H p = none) (h : H' p = some (.lst vs)) (r : DpFs K H0 H' vs ds) : DpF K H0 H' (.ref p) (.list ds) := Dp.lst (sqS (hidB_new e hp h)) r
theorem dpAll_snoc {H : Hp} : ∀ {vs : List V} {ds : List PyData} {v : V} {d : PyData}, DpAll K H vs ds → Dp K H v d → DpAll K H (vs ++ [v]) (ds ++ [d])
  | _, _, _, _, .nil, h => .cons h .nil
  | _, _, _, _, .cons x r, h => .cons x (dpAll_snoc r h)
theorem dpAll_len {H : Hp} : ∀ {vs : List V} {ds : List PyData}, DpAll K H vs ds → vs.length = ds.length
  | _, _, .nil => rfl
  | _, _, .cons _ r => congrArg (· + 1) (dpAll_len r)
end
/-- the step that asks whether a minus stands there: it refuses nothing -/
theorem Kp.unhid {H : Hp} {D : Addr} : Kp AllS (hid D H) H := fun a o h _ => by
  by_cases q : a = D
  · rw [q, hid_at] at h
    cases h
  · rw [hid_ne q] at h
    exact h
theorem F2.memImp {α β : Type} {R S : α → β → Prop} : ∀ {as : List α} {bs : List β}, (∀ a b, b ∈ bs → R a b → S a b) → F2 R as bs → F2 S as bs
  | _, _, _, .nil => .nil
  | _, _, h, .cons x r => .cons (h _ _ (List.mem_cons_self ..) x) (r.memImp fun a b m => h a b (List.mem_cons_of_mem _ m))
theorem RowAt.hideD {H : Hp} {D a : Addr} {l : List Tok2} (h : RowAt H a l) (hl : l ≠ []) (hD : H D = some (.lst [])) : RowAt (hid D H) a l := by
  obtain ⟨vs, h1, h2⟩ := h
  have n : a ≠ D := fun z => by
    rw [z, hD] at h1
    cases h1
    cases h2
    exact hl rfl
  refine ⟨vs, by rw [hid_ne n]; exact h1, h2.imp ?_⟩
  rintro v q ⟨p, rfl, h⟩
  exact ⟨p, rfl, by rw [hid_ne (fun z => by rw [z, hD] at h; cases h)]; exact h⟩
theorem Good.ne {rest : List Tok2} (g : Good rest) : rest ≠ [] := fun e => by
  have := g.cons
  rw [e] at this
  cases this
theorem Kp.nin {H H' : Hp} (e : Kp AllS H H') : Kp NoIns H H' := e.all
/-! ### rules -/
section
variable {X : Cx} {x : Str} {ps : List Str} {sp : Sp} {j k : Nat} {p pos pos' : Pos} {e : Expr} {es : List Expr} {t : TA} {E : XK}
/-- Walk(..) -/
theorem pe_mkW (c : Cm X.prog X.w X.K X.mg X.base k x "__init__" ps sp) (M : Mk X.K (He.ga X.K x) (He.ma X.K (He.ga X.K x) "__init__")) (hm : X.mg x = some (.ref (He.ga X.K x))) (hr : Room j X.A) (hk : k + 1 ≤ j) (hg : Gl X x) (ha : PA X (e :: es) t) (hdb : (x == ("__debug__" : Str)) = false := by decide)
    (he : starEach (e :: es) X.env = (false, eval e X.env) :: starEach es X.env := by rfl) (hpl : (backTo pos (starEach es X.env)).any (·.1) = false := by rfl) : PE X (.Call (.Name x p) (e :: es) [] pos) (tMake (He.ga X.K x) sp [] E0 t) := by
  obtain ⟨fd, F, b⟩ := c
  exact pe_make M F (hr.mono hk) hg hm b .nil passL ha hdb he hpl
theorem oexC {w : World} {K : PySem.W.Frag} (T : Ex w K) : OexC K (He.ga K "BadText") := ⟨T.oex, T.sattr, (xfB_ok T.xfB).exC, T.type, T.keep⟩
/-- raise BadText(..) -/
theorem ps_bad (T : Ex X.w X.K) (c : Cm X.prog X.w X.K X.mg X.base k "BadText" "__init__" ps sp) (hm : X.mg "BadText" = some (.ref (He.ga X.K "BadText"))) (hr : Room j X.A) (hk : k + 1 ≤ j) (hg : Gl X "BadText") (hc : X.calm = true) (tk : Takes X (fun cls d _ H => E cls d H)) (ha : PA X (e :: es) t)
    (he : starEach (e :: es) X.env = (false, eval e X.env) :: starEach es X.env := by rfl) (hpl : (backTo pos (starEach es X.env)).any (·.1) = false := by rfl) :
    PS X (.Raise (some (.Call (.Name "BadText" p) (e :: es) [] pos)) none pos') (fun _ σ H => tMkO (He.ga X.K "BadText") sp [] t σ H fun cls d H' => E cls d H') := by
  obtain ⟨fd, F, b⟩ := c
  exact ps_raise (W := fun cls d _ H => E cls d H) hc tk (pmk_oex (oexC T) T.init T.itype F (hr.mono hk) b .nil passL hg hm ha (by decide) he hpl)
end
end K31
set_option Elab.async false
set_option linter.all false
set_option maxRecDepth 100000
set_option maxHeartbeats 4000000
namespace K31
open PySem PySem.Spec PyProof.Rows L2
/-! fractions, the error's making, the walk's own methods -/
local macro_rules | `(tactic| walk_at "st") => `(tactic| try simp only [L2.start, List.map_cons, List.map_nil, List.length_cons, List.length_nil, Nat.reduceAdd, Nat.reduceSub, Nat.add_zero, Nat.zero_add, List.replicate, List.cons_append, List.nil_append, List.append_nil])
local macro_rules | `(tactic| walk_at "wp") => `(tactic| try simp only [tSeq, tIfS, tRet, tOr, tAnd, tNot, tTest, tB, tOp, rI0, rI, rU, tCB, tCons, tNil, tVar, tC, tAsg, gName, tNext, tDrop, tOrV, tAndV, tNotV, tIf, tUn, tYes, wipe, tCall, tTup, tLst, tSl, tPart, tNoPart, tM0, tM1, tIsN, tNotN, tChain, tPar, tBM, tFld, tMeth,
  List.getElem?_cons_zero, List.getElem?_cons_succ, Option.some.injEq, exists_eq_left, exists_eq_left', V.str.injEq, V.int.injEq, V.bl.injEq, V.ref.injEq, List.cons.injEq, and_true, true_and, and_self, exists_and_left, exists_and_right, exists_eq_right, exists_eq, exists_const, reduceCtorEq, decide_eq_true_eq, decide_eq_false_iff_not, List.set_cons_zero, List.set_cons_succ, sg_inj, rEq_ss, rNe_ss, rEq_ii, rNe_ii, ↓reduceIte, Bool.false_eq_true, List.nil_append, List.cons_append, List.append_nil, not_true_eq_false, not_false_eq_true, Bool.not_eq_true', Bool.not_true, Bool.not_false, decide_true, decide_false, or_false, false_or, or_true, true_or, false_and, and_false])
def spFrac (K : PySem.W.Frag) : Sp := fun vs H Q _ => ∃ a b : Int, vs = [.int a, .int b] ∧ 0 < b ∧ a.natAbs < 2 ^ 400 ∧ b.natAbs < 2 ^ 400 ∧ ∀ p H', H p = none → Kp AllS H H' → H' p = some (.tup [.int (frac a b).1, .int (frac a b).2]) → Q (.ref p) H'
def spBadI (K : PySem.W.Frag) : Sp := fun vs H Q _ => ∃ (a : Addr) (r s : V), vs = [.ref a, r, s] ∧ H a = some (exo a (He.ga K "BadText") none) ∧ ∀ dx, H dx = none → dx ≠ a → Q .non (upd (upd (upd H dx (exd dx [("row", r)])) a (exo a (He.ga K "BadText") (some dx))) dx (exd dx [("spot", s), ("row", r)]))
def spWInit (K : PySem.W.Frag) : Sp := fun vs H Q _ => ∃ (w a dx : Addr) (row : Nat), vs = [.ref w, .int row, .ref a] ∧ H w = some (.ins (He.ga K "Walk") dx []) ∧ ∀ H', (∀ b, b ≠ w → H' b = H b) → H' w = some (.ins (He.ga K "Walk") dx (wf row a 0)) → Q .non H'
theorem wf_mk (row : Nat) (a : Addr) : putF "own_place" (.int 0) (putF "own_words" (.ref a) (putF "own_row" (.int row) [])) = wf row a 0 := by
  unfold wf
  simp only [putF, show ¬ (("own_row" : Str) = "own_place") by decide +kernel, show ¬ (("own_words" : Str) = "own_place") by decide +kernel, show ¬ (("own_row" : Str) = "own_words") by decide +kernel, if_false, if_true]
  rfl
def spWord (K : PySem.W.Frag) : Sp := fun vs H Q _ => ∃ w row rest, vs = [.ref w] ∧ WS K H w row rest ∧ Q (.str (wd rest)) H
def spRefuse (K : PySem.W.Frag) : Sp := fun vs H Q E => ∃ w row rest, vs = [.ref w] ∧ WS K H w row rest ∧ ∀ d H', Kp AllS H H' → H' d = some (.xd [("spot", .int (spt rest : Nat)), ("row", .int row.1)]) → E (.ref (He.ga K "BadText")) (some d) H'
def spGo (K : PySem.W.Frag) : Sp := fun vs H Q _ => ∃ w row rest, vs = [.ref w] ∧ WS K H w row rest ∧ wd rest ≠ "" ∧ ∀ H', Kp NoIns H H' → WS K H' w row rest.tail → Q (.str (wd rest)) H'
def repS : V → Str → Hp → Hp → Prop := fun v z _ _ => v = .str z
def repI : V → Int → Hp → Hp → Prop := fun v z _ _ => v = .int z
/-- a step without arguments -/
def spM {α : Type} (K : PySem.W.Frag) (m : List Tok2 → PR α) (rep : V → α → Hp → Hp → Prop) : Sp := fun vs H Q E => ∃ w row rest, vs = [.ref w] ∧ WS K H w row rest ∧ Out K H w row (m rest) rep Q E
def mOne (cs : List Str) (rest : List Tok2) : PR Str := if wd rest ∈ cs then .ok (wd rest, rest.tail) else .error (spt rest)
def mIf (f : Str → Bool) (rest : List Tok2) : PR Str := if f (wd rest) = true then .ok (wd rest, rest.tail) else .error (spt rest)
def mNum (rest : List Tok2) : PR Int := if isNumber (wd rest) = true then .ok (intOf (wd rest), rest.tail) else .error (spt rest)
def mBelow (rest : List Tok2) : PR Int := if isNumber (wd rest) = true ∧ intOf (wd rest) ≠ 0 then .ok (intOf (wd rest), rest.tail) else .error (spt rest)
def mWorth (t : Int) (rest : List Tok2) : PR (Int × Int) := andThen (mNum rest) fun n r => if wd r = "/" then andThen (mBelow r.tail) fun b r2 => .ok (frac (t * n) b, r2) else .ok (frac (t * n) 1, r)
def mTurn (rest : List Tok2) : PR Int := if wd rest = "-" then .ok (-1, rest.tail) else .ok (1, rest)
def mEnd (rest : List Tok2) : PR Unit := if wd rest = "" then .ok ((), rest) else .error (spt rest)
def spOne (K : PySem.W.Frag) : Sp := fun vs H Q E => ∃ w row rest c cs, vs = [.ref w, .ref c] ∧ WS K H w row rest ∧ SqT K H c (cs.map V.str) ∧ ("" : Str) ∉ cs ∧ Out K H w row (mOne cs rest) repS Q E
def fracD (q : Int × Int) : PyData := .tuple [.int q.1, .int q.2]
def repF (K : PySem.W.Frag) : V → (Int × Int) → Hp → Hp → Prop := fun v q H0 H => DpF K H0 H v (fracD q)
def spWorth (K : PySem.W.Frag) : Sp := fun vs H Q E => ∃ w row rest t, vs = [.ref w, .int t] ∧ (t = 1 ∨ t = -1) ∧ WS K H w row rest ∧ Out K H w row (mWorth t rest) (repF K) Q E
def repU : V → Unit → Hp → Hp → Prop := fun v _ _ _ => v = .non
theorem number_ne {z : Str} (h : isNumber z = true) : z ≠ "" := fun e => by
  rw [e] at h
  exact absurd h (by decide +kernel)
theorem name_ne {z : Str} (h : isName z = true) : z ≠ "" := fun e => by
  rw [e] at h
  exact absurd h (by decide +kernel)
theorem unknown_ne {z : Str} (h : isUnknown z = true) : z ≠ "" := fun e => by
  rw [e] at h
  exact absurd h (by decide +kernel)
theorem mNum_ok {rest r : List Tok2} {n : Int} (h : mNum rest = .ok (n, r)) : 0 ≤ n ∧ n.natAbs < 2 ^ 340 := by
  unfold mNum at h
  split at h
  · rename_i c
    cases h
    exact (number_ok c).2.2
  · cases h
theorem mBelow_ok {rest r : List Tok2} {n : Int} (h : mBelow rest = .ok (n, r)) : 0 < n ∧ n.natAbs < 2 ^ 340 := by
  unfold mBelow at h
  split at h
  · rename_i c
    cases h
    have h2 := (number_ok c.1).2.2
    have h3 := c.2
    omega
  · cases h
theorem Out.turn {β : Type} {K : PySem.W.Frag} {H0 H : Hp} {w : Addr} {row : Nat × Addr} {rest : List Tok2} {f : Int → List Tok2 → PR β} {rep : V → β → Hp → Hp → Prop} {rep1 : V → Int → Hp → Hp → Prop} {Q Q1 : VK} {E E1 : XK} (k : Out K H0 w row (andThen (mTurn rest) f) rep Q E) (e : Kp NoIns H0 H)
    (go : ∀ x r', mTurn rest = .ok (x, r') → Out K H0 w row (f x r') rep Q E → ∀ v H', Kp NoIns H H' → WS K H' w row r' → rep1 v x H H' → Q1 v H') : Out K H w row (mTurn rest) rep1 Q1 E1 := by
  cases hm : mTurn rest with
  | ok p =>
    obtain ⟨x, r⟩ := p
    rw [hm] at k
    refine ⟨fun x2 r2 h => ?_, fun s h => by cases h⟩
    cases h
    exact go x r hm k
  | error s =>
    exfalso
    unfold mTurn at hm
    split at hm <;> cases hm
section
variable {K : PySem.W.Frag} {H : Hp} {o : Addr} {row : Nat × Addr} {rest : List Tok2}
/-- the walk's object for a method's call -/
theorem WS.meth (h : WS K H o row rest) {m : Str} {S : Prop} (s : S) (hm : ((m == "own_row") || ((m == "own_words") || (m == "own_place"))) = false := by decide +kernel) : ∃ dx fs, H o = some (.ins (He.ga K "Walk") dx fs) ∧ List.lookup m fs = none ∧ S := by
  obtain ⟨dx, k, l, h1, _⟩ := h
  simp only [Bool.or_eq_false_iff] at hm
  exact ⟨dx, _, h1, wf_no row.1 row.2 k hm.1 hm.2.1 hm.2.2, s⟩
theorem WS.word (h : WS K H o row rest) {Q : VK} {E : XK} (q : Q (.str (wd rest)) H) : ∃ dx fs, H o = some (.ins (He.ga K "Walk") dx fs) ∧ List.lookup ("word" : Str) fs = none ∧ spWord K [.ref o] H Q E := h.meth ⟨o, row, rest, rfl, h, q⟩
theorem WS.go_ (h : WS K H o row rest) (n : wd rest ≠ "") {Q : VK} {E : XK} (q : ∀ H', Kp NoIns H H' → WS K H' o row rest.tail → Q (.str (wd rest)) H') : ∃ dx fs, H o = some (.ins (He.ga K "Walk") dx fs) ∧ List.lookup ("go" : Str) fs = none ∧ spGo K [.ref o] H Q E := h.meth ⟨o, row, rest, rfl, h, n, q⟩
theorem WS.no (h : WS K H o row rest) {Q : VK} {E : XK} (q : ∀ d H', Kp AllS H H' → H' d = some (.xd [("spot", .int (spt rest : Nat)), ("row", .int row.1)]) → E (.ref (He.ga K "BadText")) (some d) H') : ∃ dx fs, H o = some (.ins (He.ga K "Walk") dx fs) ∧ List.lookup ("refuse" : Str) fs = none ∧ spRefuse K [.ref o] H Q E := h.meth ⟨o, row, rest, rfl, h, q⟩
/-- the token in sight -/
theorem WS.sight (h : WS K H o row rest) : ∃ dx k l vs p, H o = some (.ins (He.ga K "Walk") dx (wf row.1 row.2 k)) ∧ H row.2 = some (.lst vs) ∧ vs[k]? = some (.ref p) ∧ H p = some (.tup [.int (spt rest : Nat), .str (wd rest)]) ∧ RowAt H row.2 l ∧ l.drop k = rest := by
  obtain ⟨dx, k, l, h1, h2, h3, h4⟩ := h
  obtain ⟨vs, h5, f⟩ := id h2
  have e := h4.cons
  have h6 : l[k]? = some (spt rest, wd rest) := by
    have h7 : (l.drop k)[0]? = some (spt rest, wd rest) := by rw [h3, e] <;> rfl
    rw [List.getElem?_drop] at h7
    simpa using h7
  obtain ⟨v, h8, p, rfl, h9⟩ := f.get h6
  exact ⟨dx, k, l, vs, p, h1, h5, h8, h9, h2, h3⟩
end
section
variable {P : Program} {w : World} {K : PySem.W.Frag} {mg : Str → Option Value} {base : Heap}
abbrev N_fraction : List Str := ["above", "below", "divisor"]
abbrev P_fraction : List Str := ["above", "below"]
theorem sc_fraction : FnScope N_fraction P_fraction (defScope s_fraction) := ⟨rfl, rfl, rfl, by decide +kernel, rfl, by decide +kernel, by decide +kernel⟩
theorem ok_fraction (T : Tx w K mg) : Cl P w K mg base 1 "fraction" P_fraction (spFrac K) := by
  refine Cl.mk T.d_fraction rfl T.g_fraction sc_fraction (fun _ _ _ _ _ _ us hl => match us, hl with | [_, _], _ => rfl) (fun vs H Q E h => ?_) (fun cdv A outer s H vs Q E hr h => ?_)
  · obtain ⟨_, _, rfl, _⟩ := h
    rfl
  · obtain ⟨a, b, rfl, hb, za, zb, q⟩ := h
    refine ⟨_, (pss_cons (ps_if (pt_cmpR op_eq (pv 1) pe_int (nomark _)) (pss_one ps_never) pss_nil)
      (pss_cons (ps_set (i := 2) sc_fraction.nd rfl (Or.inl rfl) (pe_callBfun cr_gcd (by rfl) T.gcd (pa_cons (pv 0) (pa_cons (pv 1) pa_nil))))
      (pss_cons (ps_if (pt_cmpR op_lt (pv 1) pe_int (nomark _)) (pss_one (ps_set (i := 2) sc_fraction.nd rfl (Or.inl rfl) (pe_un un_neg (pv 2)))) pss_nil)
      (pss_one (ps_ret (pe_tup (pa_cons (pe_op op_fdivW (pv 0) (pv 2)) (pa_cons (pe_op op_fdivW (pv 1) (pv 2)) pa_nil)))))))), ?_⟩
    walk_at "st"
    walk_at "wp"
    rw [if_neg (by omega)]
    have gp : 0 < Nat.gcd a.natAbs b.natAbs := Nat.gcd_pos_of_pos_right _ (by omega)
    have gl : Nat.gcd a.natAbs b.natAbs ≤ b.natAbs := Nat.gcd_le_right _ (by omega)
    refine ⟨a, b, rfl, ?_⟩
    walk_at "wp"
    rw [if_neg (by omega)]
    have cd : ∀ i : Int, CDivW i ((Nat.gcd a.natAbs b.natAbs : Nat) : Int) := fun i => wide_div (b := 400) (by omega) (by rw [Int.natAbs_natCast]; omega) (by decide) (by decide)
    refine ⟨cd a, cd b, sz3 (Nat.le_of_ble_eq_true rfl), ?_⟩
    (intro p hp; generalize hg0 : upd _ p _ = H1; obtain ⟨e1, h1⟩ := upd_ex hp hg0; clear hg0)
    exact q p H1 hp e1 h1
abbrev N_BadText_init : List Str := ["self", "row", "spot"]
abbrev P_BadText_init : List Str := ["self", "row", "spot"]
theorem sc_BadText_init : FnScope N_BadText_init P_BadText_init (defScope s_BadText_init) := ⟨rfl, rfl, rfl, by decide +kernel, rfl, by decide +kernel, by decide +kernel⟩
theorem ok_BadText_init (T : Tx w K mg) : Cm P w K mg base 1 "BadText" "__init__" P_BadText_init (spBadI K) := by
  refine Cm.mk T.d_BadText_init rfl sc_BadText_init (fun _ _ _ _ _ _ us hl => match us, hl with | [_, _, _], _ => rfl) (fun vs H Q E h => ?_) (fun cdv A outer s H vs Q E hr h => ?_)
  · obtain ⟨_, _, _, rfl, _⟩ := h
    rfl
  · obtain ⟨a, r, z, rfl, ha, q⟩ := h
    refine ⟨_, (pss_cons (ps_ost (pv 0) (pv 1))
      (pss_one (ps_ost (pv 0) (pv 2)))), ?_⟩
    walk_at "st"
    walk_at "wp"
    refine ⟨_, rfl, _, rfl, a, He.ga K "BadText", rfl, oexC T.ex, T.ex.nrow, .inl ⟨ha, fun dx hdx ne => ?_⟩⟩
    exact ⟨_, rfl, _, rfl, a, He.ga K "BadText", rfl, oexC T.ex, T.ex.nspot, .inr ⟨dx, _, upd_same, by rw [upd_ne ne, upd_same], by show 1 ≤ 900; omega, q dx hdx ne⟩⟩
abbrev N_Walk_init : List Str := ["self", "row", "words"]
abbrev P_Walk_init : List Str := ["self", "row", "words"]
theorem sc_Walk_init : FnScope N_Walk_init P_Walk_init (defScope s_Walk_init) := ⟨rfl, rfl, rfl, by decide +kernel, rfl, by decide +kernel, by decide +kernel⟩
theorem ok_Walk_init (T : Tx w K mg) : Cm P w K mg base 1 "Walk" "__init__" P_Walk_init (spWInit K) := by
  refine Cm.mk T.d_Walk_init rfl sc_Walk_init (fun _ _ _ _ _ _ us hl => match us, hl with | [_, _, _], _ => rfl) (fun vs H Q E h => ?_) (fun cdv A outer s H vs Q E hr h => ?_)
  · obtain ⟨_, _, _, _, rfl, _⟩ := h
    rfl
  · obtain ⟨o, a, dx, row, rfl, ha, q⟩ := h
    refine ⟨_, (pss_cons (ps_fld (pv 0) (pv 1) rfl)
      (pss_cons (ps_fld (pv 0) (pv 2) rfl)
      (pss_one (ps_fld (pv 0) pe_int rfl)))), ?_⟩
    walk_at "st"
    walk_at "wp"
    refine ⟨_, rfl, _, rfl, o, _, dx, [], rfl, ha, T.wCls, T.n_own_row, by show 0 < 1000; omega, ?_⟩
    refine ⟨_, rfl, _, rfl, o, _, dx, _, rfl, upd_same, T.wCls, T.n_own_words, by show 1 < 1000; omega, ?_⟩
    refine ⟨_, rfl, o, _, dx, _, rfl, upd_same, T.wCls, T.n_own_place, Nat.lt_of_le_of_lt (length_putF _ _ _) (by show 2 < 1000; omega), ?_⟩
    refine q _ (fun b hb => by rw [upd_ne hb, upd_ne hb, upd_ne hb]) ?_
    rw [upd_same, ← wf_mk]
abbrev N_Walk_word : List Str := ["self"]
abbrev P_Walk_word : List Str := ["self"]
theorem sc_Walk_word : FnScope N_Walk_word P_Walk_word (defScope s_Walk_word) := ⟨rfl, rfl, rfl, by decide +kernel, rfl, by decide +kernel, by decide +kernel⟩
theorem ok_Walk_word (T : Tx w K mg) : Cm P w K mg base 1 "Walk" "word" P_Walk_word (spWord K) := by
  refine Cm.mk T.d_Walk_word rfl sc_Walk_word (fun _ _ _ _ _ _ us hl => match us, hl with | [_], _ => rfl) (fun vs H Q E h => ?_) (fun cdv A outer s H vs Q E hr h => ?_)
  · obtain ⟨_, _, _, rfl, _⟩ := h
    rfl
  · obtain ⟨o, row, rest, rfl, ho, q⟩ := h
    refine ⟨_, (pss_one (ps_ret (pe_ix ix_tup (pe_ix ix_list (pe_fld (pv 0) rfl) (pe_fld (pv 0) rfl) (fun _ _ => rfl)) pe_int (fun _ _ => rfl)))), ?_⟩
    walk_at "st"
    walk_at "wp"
    obtain ⟨dx, k, l, vs, p, h1, h2, h3, h4, _⟩ := ho.sight
    refine ⟨_, _, _, h1, T.wCls, T.n_own_words, _, wf_words _ _ _, _, _, _, h1, T.wCls, T.n_own_place, _, wf_place _ _ _, ?_⟩
    exact st_ixL (sqS h2) (atI_nat h3) (st_ixT (sqT h4) (atI_nat (j := 1) rfl) q)
abbrev N_Walk_refuse : List Str := ["self"]
abbrev P_Walk_refuse : List Str := ["self"]
theorem sc_Walk_refuse : FnScope N_Walk_refuse P_Walk_refuse (defScope s_Walk_refuse) := ⟨rfl, rfl, rfl, by decide +kernel, rfl, by decide +kernel, by decide +kernel⟩
theorem ok_Walk_refuse (T : Tx w K mg) : Cm P w K mg base 3 "Walk" "refuse" P_Walk_refuse (spRefuse K) := by
  refine Cm.mk T.d_Walk_refuse rfl sc_Walk_refuse (fun _ _ _ _ _ _ us hl => match us, hl with | [_], _ => rfl) (fun vs H Q E h => ?_) (fun cdv A outer s H vs Q E hr h => ?_)
  · obtain ⟨_, _, _, rfl, _⟩ := h
    rfl
  · obtain ⟨o, row, rest, rfl, ho, q⟩ := h
    refine ⟨_, (pss_one (ps_bad T.ex (ok_BadText_init T) T.g_BadText hr (by decide) (by rfl) rfl (takes_of rfl rfl rfl rfl) (pa_cons (pe_fld (pv 0) rfl) (pa_cons (pe_ix ix_tup (pe_ix ix_list (pe_fld (pv 0) rfl) (pe_fld (pv 0) rfl) (fun _ _ => rfl)) pe_int (fun _ _ => rfl)) pa_nil)))), ?_⟩
    walk_at "st"
    walk_at "wp"
    obtain ⟨dx, k, l, vs, p, h1, h2, h3, h4, _⟩ := ho.sight
    refine ⟨_, rfl, _, _, _, _, _, rfl, h1, T.wCls, T.n_own_row, wf_row _ _ _, ?_⟩
    refine ⟨_, rfl, _, _, _, _, _, rfl, h1, T.wCls, T.n_own_words, wf_words _ _ _, _, rfl, _, _, _, _, _, rfl, h1, T.wCls, T.n_own_place, wf_place _ _ _, ?_⟩
    refine st_ixL (sqS h2) (atI_nat h3) (st_ixT (sqT h4) (atI_nat (j := 0) rfl) ?_)
    refine ⟨by show 2 ≤ 1000; omega, fun x hx => ⟨x, _, _, rfl, upd_same, fun d hd ne => ?_⟩⟩
    have hd0 : H d = none := by
      rw [upd_ne ne] at hd
      exact hd
    refine ⟨rfl, d, _, by rw [upd_ne (Ne.symm ne), upd_same], upd_same, hd0, ?_⟩
    refine q d _ (fun b u hb _ => ?_) upd_same
    have nd : b ≠ d := ne_of_none hb hd0
    have nx : b ≠ x := ne_of_none hb hx
    rw [upd_ne nd, del_ne nx, upd_ne nd, upd_ne nx, upd_ne nd, upd_ne nx]
    exact hb
abbrev N_Walk_go : List Str := ["self", "word"]
abbrev P_Walk_go : List Str := ["self"]
theorem sc_Walk_go : FnScope N_Walk_go P_Walk_go (defScope s_Walk_go) := ⟨rfl, rfl, rfl, by decide +kernel, rfl, by decide +kernel, by decide +kernel⟩
theorem ok_Walk_go (T : Tx w K mg) : Cm P w K mg base 2 "Walk" "go" P_Walk_go (spGo K) := by
  refine Cm.mk T.d_Walk_go rfl sc_Walk_go (fun _ _ _ _ _ _ us hl => match us, hl with | [_], _ => rfl) (fun vs H Q E h => ?_) (fun cdv A outer s H vs Q E hr h => ?_)
  · obtain ⟨_, _, _, rfl, _⟩ := h
    rfl
  · obtain ⟨o, row, rest, rfl, ho, hne, q⟩ := h
    refine ⟨_, (pss_cons (ps_set (i := 1) sc_Walk_go.nd rfl (Or.inl rfl) (pe_mt0 (ok_Walk_word T) T.wCls T.m_word hr (by decide) (pv 0)))
      (pss_cons (ps_fldaug (pv 0) pe_int in_add)
      (pss_one (ps_ret (pv 1))))), ?_⟩
    walk_at "st"
    walk_at "wp"
    refine ho.word ?_
    obtain ⟨dx, k, l, vs, p, h1, h2, h3, h4, h5, h6⟩ := ho.sight
    refine ⟨_, rfl, o, _, dx, _, _, rfl, h1, T.wCls, T.n_own_place, wf_place _ _ _, _, _, rfl, rfl, dx, _, h1, by show 3 < 1000; omega, ?_⟩
    rw [show ((k : Int) + 1) = ((k + 1 : Nat) : Int) by omega, wf_put]
    have e1 : Kp NoIns H (upd H o (.ins (He.ga K "Walk") dx (wf row.1 row.2 (k + 1)))) := (Kp.refl H).mutS h1 fun z => z _ _ _ rfl
    refine ⟨_, rfl, q _ e1 ⟨dx, k + 1, l, upd_same, h5.noIns e1, ?_, ho.good.tail hne⟩⟩
    rw [← h6, List.tail_drop]
abbrev N_Walk_take_one : List Str := ["self", "choices"]
abbrev P_Walk_take_one : List Str := ["self", "choices"]
theorem sc_Walk_take_one : FnScope N_Walk_take_one P_Walk_take_one (defScope s_Walk_take_one) := ⟨rfl, rfl, rfl, by decide +kernel, rfl, by decide +kernel, by decide +kernel⟩
theorem ok_Walk_take_one (T : Tx w K mg) : Cm P w K mg base 4 "Walk" "take_one" P_Walk_take_one (spOne K) := by
  refine Cm.mk T.d_Walk_take_one rfl sc_Walk_take_one (fun _ _ _ _ _ _ us hl => match us, hl with | [_, _], _ => rfl) (fun vs H Q E h => ?_) (fun cdv A outer s H vs Q E hr h => ?_)
  · obtain ⟨_, _, _, _, _, rfl, _⟩ := h
    rfl
  · obtain ⟨o, row, rest, c, cs, rfl, ho, hc, hn, k⟩ := h
    refine ⟨_, (pss_cons (ps_if (pt_cmpR op_notIn_seq (pe_mt0 (ok_Walk_word T) T.wCls T.m_word hr (by decide) (pv 0)) (pv 1) (by with_unfolding_all rfl)) (pss_one (ps_expr (pe_mtX0 (ok_Walk_refuse T) T.wCls T.m_refuse hr (by decide) (takes_of rfl rfl rfl rfl) (pv 0)))) pss_nil)
      (pss_one (ps_ret (pe_mt0 (ok_Walk_go T) T.wCls T.m_go hr (by decide) (pv 0))))), ?_⟩
    walk_at "st"
    walk_at "wp"
    refine ho.word ?_
    unfold mOne at k
    refine st_ni (ws := cs) rfl (.inr hc) ?_
    walk_at "wp"
    by_cases c1 : wd rest ∈ cs
    · rw [if_neg (not_not_intro c1)]
      rw [if_pos c1] at k
      exact ho.go_ (fun e => hn (e ▸ c1)) fun H' e ws => k.1 _ _ rfl _ H' e ws rfl
    · rw [if_pos c1]
      rw [if_neg c1] at k
      exact ho.no fun d H' e hd => k.2 _ rfl d H' e.nin hd
abbrev N_Walk_take_number : List Str := ["self"]
abbrev P_Walk_take_number : List Str := ["self"]
theorem sc_Walk_take_number : FnScope N_Walk_take_number P_Walk_take_number (defScope s_Walk_take_number) := ⟨rfl, rfl, rfl, by decide +kernel, rfl, by decide +kernel, by decide +kernel⟩
theorem ok_Walk_take_number (T : Tx w K mg) : Cm P w K mg base 4 "Walk" "take_number" P_Walk_take_number (spM K mNum repI) := by
  refine Cm.mk T.d_Walk_take_number rfl sc_Walk_take_number (fun _ _ _ _ _ _ us hl => match us, hl with | [_], _ => rfl) (fun vs H Q E h => ?_) (fun cdv A outer s H vs Q E hr h => ?_)
  · obtain ⟨_, _, _, rfl, _⟩ := h
    rfl
  · obtain ⟨o, row, rest, rfl, ho, k⟩ := h
    refine ⟨_, (pss_cons (ps_if (pt_not (pt_val (pe_fn (ok_is_number_word T) hr (by decide) (by rfl) (pa_cons (pe_mt0 (ok_Walk_word T) T.wCls T.m_word hr (by decide) (pv 0)) pa_nil)))) (pss_one (ps_expr (pe_mtX0 (ok_Walk_refuse T) T.wCls T.m_refuse hr (by decide) (takes_of rfl rfl rfl rfl) (pv 0)))) pss_nil)
      (pss_one (ps_ret (pe_callTy call_int_str (by rfl) T.f_int (by decide +kernel) (pa_cons (pe_mt0 (ok_Walk_go T) T.wCls T.m_go hr (by decide) (pv 0)) pa_nil))))), ?_⟩
    walk_at "st"
    walk_at "wp"
    refine ho.word ?_
    unfold mNum at k
    refine ⟨_, rfl, ho.good.short, fun H1 e1 => ⟨_, rfl, ?_⟩⟩
    have h1 := ho.all e1
    by_cases c1 : isNumber (wd rest) = true
    · rw [if_neg (by rw [c1]; exact Bool.noConfusion)]
      rw [if_pos c1] at k
      obtain ⟨n1, n2, _⟩ := number_ok c1
      exact h1.go_ (number_ne c1) fun H' e ws => ⟨_, rfl, _, n1, by omega, k.1 _ _ rfl _ H' (e1.nin.trans e) ws rfl⟩
    · rw [if_pos (Bool.eq_false_iff.mpr c1)]
      rw [if_neg c1] at k
      exact h1.no fun d H' e hd => k.2 _ rfl d H' (e1.trans e).nin hd
abbrev N_Walk_take_name : List Str := ["self"]
abbrev P_Walk_take_name : List Str := ["self"]
theorem sc_Walk_take_name : FnScope N_Walk_take_name P_Walk_take_name (defScope s_Walk_take_name) := ⟨rfl, rfl, rfl, by decide +kernel, rfl, by decide +kernel, by decide +kernel⟩
theorem ok_Walk_take_name (T : Tx w K mg) : Cm P w K mg base 4 "Walk" "take_name" P_Walk_take_name (spM K (mIf isName) repS) := by
  refine Cm.mk T.d_Walk_take_name rfl sc_Walk_take_name (fun _ _ _ _ _ _ us hl => match us, hl with | [_], _ => rfl) (fun vs H Q E h => ?_) (fun cdv A outer s H vs Q E hr h => ?_)
  · obtain ⟨_, _, _, rfl, _⟩ := h
    rfl
  · obtain ⟨o, row, rest, rfl, ho, k⟩ := h
    refine ⟨_, (pss_cons (ps_if (pt_not (pt_val (pe_fn (ok_is_name T) hr (by decide) (by rfl) (pa_cons (pe_mt0 (ok_Walk_word T) T.wCls T.m_word hr (by decide) (pv 0)) pa_nil)))) (pss_one (ps_expr (pe_mtX0 (ok_Walk_refuse T) T.wCls T.m_refuse hr (by decide) (takes_of rfl rfl rfl rfl) (pv 0)))) pss_nil)
      (pss_one (ps_ret (pe_mt0 (ok_Walk_go T) T.wCls T.m_go hr (by decide) (pv 0))))), ?_⟩
    walk_at "st"
    walk_at "wp"
    refine ho.word ?_
    unfold mIf at k
    refine ⟨_, rfl, ho.good.short, fun H1 e1 => ⟨_, rfl, ?_⟩⟩
    have h1 := ho.all e1
    by_cases c1 : isName (wd rest) = true
    · rw [if_neg (by rw [c1]; exact Bool.noConfusion)]
      rw [if_pos c1] at k
      exact h1.go_ (name_ne c1) fun H' e ws => k.1 _ _ rfl _ H' (e1.nin.trans e) ws rfl
    · rw [if_pos (Bool.eq_false_iff.mpr c1)]
      rw [if_neg c1] at k
      exact h1.no fun d H' e hd => k.2 _ rfl d H' (e1.trans e).nin hd
abbrev N_Walk_take_unknown : List Str := ["self"]
abbrev P_Walk_take_unknown : List Str := ["self"]
theorem sc_Walk_take_unknown : FnScope N_Walk_take_unknown P_Walk_take_unknown (defScope s_Walk_take_unknown) := ⟨rfl, rfl, rfl, by decide +kernel, rfl, by decide +kernel, by decide +kernel⟩
theorem ok_Walk_take_unknown (T : Tx w K mg) : Cm P w K mg base 4 "Walk" "take_unknown" P_Walk_take_unknown (spM K (mIf isUnknown) repS) := by
  refine Cm.mk T.d_Walk_take_unknown rfl sc_Walk_take_unknown (fun _ _ _ _ _ _ us hl => match us, hl with | [_], _ => rfl) (fun vs H Q E h => ?_) (fun cdv A outer s H vs Q E hr h => ?_)
  · obtain ⟨_, _, _, rfl, _⟩ := h
    rfl
  · obtain ⟨o, row, rest, rfl, ho, k⟩ := h
    refine ⟨_, (pss_cons (ps_if (pt_not (pt_val (pe_fn (ok_is_unknown T) hr (by decide) (by rfl) (pa_cons (pe_mt0 (ok_Walk_word T) T.wCls T.m_word hr (by decide) (pv 0)) pa_nil)))) (pss_one (ps_expr (pe_mtX0 (ok_Walk_refuse T) T.wCls T.m_refuse hr (by decide) (takes_of rfl rfl rfl rfl) (pv 0)))) pss_nil)
      (pss_one (ps_ret (pe_mt0 (ok_Walk_go T) T.wCls T.m_go hr (by decide) (pv 0))))), ?_⟩
    walk_at "st"
    walk_at "wp"
    refine ho.word ?_
    unfold mIf at k
    refine ⟨_, rfl, ho.good.short, fun H1 e1 => ⟨_, rfl, ?_⟩⟩
    have h1 := ho.all e1
    by_cases c1 : isUnknown (wd rest) = true
    · rw [if_neg (by rw [c1]; exact Bool.noConfusion)]
      rw [if_pos c1] at k
      exact h1.go_ (unknown_ne c1) fun H' e ws => k.1 _ _ rfl _ H' (e1.nin.trans e) ws rfl
    · rw [if_pos (Bool.eq_false_iff.mpr c1)]
      rw [if_neg c1] at k
      exact h1.no fun d H' e hd => k.2 _ rfl d H' (e1.trans e).nin hd
abbrev N_Walk_take_below : List Str := ["self"]
abbrev P_Walk_take_below : List Str := ["self"]
theorem sc_Walk_take_below : FnScope N_Walk_take_below P_Walk_take_below (defScope s_Walk_take_below) := ⟨rfl, rfl, rfl, by decide +kernel, rfl, by decide +kernel, by decide +kernel⟩
theorem ok_Walk_take_below (T : Tx w K mg) : Cm P w K mg base 4 "Walk" "take_below" P_Walk_take_below (spM K mBelow repI) := by
  refine Cm.mk T.d_Walk_take_below rfl sc_Walk_take_below (fun _ _ _ _ _ _ us hl => match us, hl with | [_], _ => rfl) (fun vs H Q E h => ?_) (fun cdv A outer s H vs Q E hr h => ?_)
  · obtain ⟨_, _, _, rfl, _⟩ := h
    rfl
  · obtain ⟨o, row, rest, rfl, ho, k⟩ := h
    refine ⟨_, (pss_cons (ps_if ((pw_or (pt_not (pt_val (pe_fn (ok_is_number_word T) hr (by decide) (by rfl) (pa_cons (pe_mt0 (ok_Walk_word T) T.wCls T.m_word hr (by decide) (pv 0)) pa_nil)))) (pw_or1 (pt_cmpR op_eq (pe_callTy call_int_str (by rfl) T.f_int (by decide +kernel) (pa_cons (pe_mt0 (ok_Walk_word T) T.wCls T.m_word hr (by decide) (pv 0)) pa_nil)) pe_int (nomark _))))).pt (pss_one (ps_expr (pe_mtX0 (ok_Walk_refuse T) T.wCls T.m_refuse hr (by decide) (takes_of rfl rfl rfl rfl) (pv 0)))) pss_nil)
      (pss_one (ps_ret (pe_callTy call_int_str (by rfl) T.f_int (by decide +kernel) (pa_cons (pe_mt0 (ok_Walk_go T) T.wCls T.m_go hr (by decide) (pv 0)) pa_nil))))), ?_⟩
    walk_at "st"
    walk_at "wp"
    refine ho.word ?_
    unfold mBelow at k
    refine ⟨_, rfl, ho.good.short, fun H1 e1 => ⟨_, rfl, ?_⟩⟩
    have h1 := ho.all e1
    by_cases c1 : isNumber (wd rest) = true
    · rw [if_neg (by rw [c1]; exact Bool.noConfusion)]
      obtain ⟨n1, n2, _⟩ := number_ok c1
      refine h1.word ⟨_, rfl, _, n1, by omega, ?_⟩
      by_cases c2 : intOf (wd rest) = 0
      · rw [if_pos c2]
        rw [if_neg (fun z => z.2 c2)] at k
        exact h1.no fun d H' e hd => k.2 _ rfl d H' (e1.trans e).nin hd
      · rw [if_neg c2]
        rw [if_pos ⟨c1, c2⟩] at k
        exact h1.go_ (number_ne c1) fun H' e ws => ⟨_, rfl, _, n1, by omega, k.1 _ _ rfl _ H' (e1.nin.trans e) ws rfl⟩
    · rw [if_pos (Bool.eq_false_iff.mpr c1)]
      rw [if_neg (fun z => c1 z.1)] at k
      exact h1.no fun d H' e hd => k.2 _ rfl d H' (e1.trans e).nin hd
abbrev N_Walk_take_worth : List Str := ["self", "turned", "above"]
abbrev P_Walk_take_worth : List Str := ["self", "turned"]
theorem sc_Walk_take_worth : FnScope N_Walk_take_worth P_Walk_take_worth (defScope s_Walk_take_worth) := ⟨rfl, rfl, rfl, by decide +kernel, rfl, by decide +kernel, by decide +kernel⟩
theorem ok_Walk_take_worth (T : Tx w K mg) : Cm P w K mg base 5 "Walk" "take_worth" P_Walk_take_worth (spWorth K) := by
  refine Cm.mk T.d_Walk_take_worth rfl sc_Walk_take_worth (fun _ _ _ _ _ _ us hl => match us, hl with | [_, _], _ => rfl) (fun vs H Q E h => ?_) (fun cdv A outer s H vs Q E hr h => ?_)
  · obtain ⟨_, _, _, _, rfl, _⟩ := h
    rfl
  · obtain ⟨o, row, rest, t, rfl, ht, ho, k⟩ := h
    refine ⟨_, (pss_cons (ps_set (i := 2) sc_Walk_take_worth.nd rfl (Or.inl rfl) (pe_op op_mulX (pv 1) (pe_mtX0 (ok_Walk_take_number T) T.wCls T.m_take_number hr (by decide) (takes_of rfl rfl rfl rfl) (pv 0))))
      (pss_cons (ps_if (pt_cmpR op_ne (pe_mt0 (ok_Walk_word T) T.wCls T.m_word hr (by decide) (pv 0)) pe_str (nomark _)) (pss_one (ps_ret (pe_fn (ok_fraction T) hr (by decide) (by rfl) (pa_cons (pv 2) (pa_cons pe_int pa_nil))))) pss_nil)
      (pss_cons (ps_expr (pe_mt0 (ok_Walk_go T) T.wCls T.m_go hr (by decide) (pv 0)))
      (pss_one (ps_ret (pe_fn (ok_fraction T) hr (by decide) (by rfl) (pa_cons (pv 2) (pa_cons (pe_mtX0 (ok_Walk_take_below T) T.wCls T.m_take_below hr (by decide) (takes_of rfl rfl rfl rfl) (pv 0)) pa_nil)))))))), ?_⟩
    walk_at "st"
    walk_at "wp"
    unfold mWorth at k
    refine ho.meth ⟨o, row, rest, rfl, ho, k.step (Kp.refl H) fun n r hm k1 v H1 e1 w1 rp => ?_⟩
    obtain rfl : v = .int n := rp
    obtain ⟨n0, hn⟩ := mNum_ok hm
    have ht1 : t.natAbs < 2 ^ 2 := by rcases ht with rfl | rfl <;> decide
    have tn : (t * n).natAbs < 2 ^ 400 := Nat.lt_of_lt_of_le (wide_lt ht1 hn) (Nat.pow_le_pow_right (by decide) (by decide))
    refine ⟨_, rfl, mulx_ok ht1 hn (by decide), ?_⟩
    refine w1.word ?_
    walk_at "wp"
    by_cases c1 : wd r = "/"
    · rw [if_neg (not_not_intro c1)]
      rw [if_pos c1] at k1
      refine w1.go_ (by rw [c1]; decide +kernel) fun H2 e2 w2 => ?_
      refine w2.meth ⟨o, row, _, rfl, w2, k1.step (e1.trans e2) fun b r2 hm2 k2 v H3 e3 w3 rp3 => ?_⟩
      obtain rfl : v = .int b := rp3
      obtain ⟨b0, hb⟩ := mBelow_ok hm2
      exact ⟨_, _, rfl, b0, tn, Nat.lt_of_lt_of_le hb (Nat.pow_le_pow_right (by decide) (by decide)), fun p H4 hp e4 h4 => k2.1 _ _ rfl _ H4 (((e1.trans e2).trans e3).trans e4.nin) (w3.all e4) (.tup ((e1.trans e2).trans e3) hp h4 (.cons .int (.cons .int .nil)))⟩
    · rw [if_pos c1]
      rw [if_neg c1] at k1
      exact ⟨_, _, rfl, by decide, tn, by decide, fun p H2 hp e2 h2 => k1.1 _ _ rfl _ H2 (e1.trans e2.nin) (w1.all e2) (.tup e1 hp h2 (.cons .int (.cons .int .nil)))⟩
abbrev N_Walk_take_turn : List Str := ["self"]
abbrev P_Walk_take_turn : List Str := ["self"]
theorem sc_Walk_take_turn : FnScope N_Walk_take_turn P_Walk_take_turn (defScope s_Walk_take_turn) := ⟨rfl, rfl, rfl, by decide +kernel, rfl, by decide +kernel, by decide +kernel⟩
theorem ok_Walk_take_turn (T : Tx w K mg) : Cm P w K mg base 3 "Walk" "take_turn" P_Walk_take_turn (spM K mTurn repI) := by
  refine Cm.mk T.d_Walk_take_turn rfl sc_Walk_take_turn (fun _ _ _ _ _ _ us hl => match us, hl with | [_], _ => rfl) (fun vs H Q E h => ?_) (fun cdv A outer s H vs Q E hr h => ?_)
  · obtain ⟨_, _, _, rfl, _⟩ := h
    rfl
  · obtain ⟨o, row, rest, rfl, ho, k⟩ := h
    refine ⟨_, (pss_cons (ps_if (pt_cmpR op_ne (pe_mt0 (ok_Walk_word T) T.wCls T.m_word hr (by decide) (pv 0)) pe_str (nomark _)) (pss_one (ps_ret pe_int)) pss_nil)
      (pss_cons (ps_expr (pe_mt0 (ok_Walk_go T) T.wCls T.m_go hr (by decide) (pv 0)))
      (pss_one (ps_ret (pe_un un_neg pe_int))))), ?_⟩
    walk_at "st"
    walk_at "wp"
    refine ho.word ?_
    unfold mTurn at k
    walk_at "wp"
    by_cases c1 : wd rest = "-"
    · rw [if_neg (not_not_intro c1)]
      rw [if_pos c1] at k
      refine ho.go_ (by rw [c1]; decide +kernel) fun H' e ws => ?_
      exact k.1 _ _ rfl _ H' e ws rfl
    · rw [if_pos c1]
      rw [if_neg c1] at k
      exact k.1 _ _ rfl _ H (Kp.refl H) ho rfl
abbrev N_Walk_take_end : List Str := ["self"]
abbrev P_Walk_take_end : List Str := ["self"]
theorem sc_Walk_take_end : FnScope N_Walk_take_end P_Walk_take_end (defScope s_Walk_take_end) := ⟨rfl, rfl, rfl, by decide +kernel, rfl, by decide +kernel, by decide +kernel⟩
theorem ok_Walk_take_end (T : Tx w K mg) : Cm P w K mg base 4 "Walk" "take_end" P_Walk_take_end (spM K mEnd repU) := by
  refine Cm.mk T.d_Walk_take_end rfl sc_Walk_take_end (fun _ _ _ _ _ _ us hl => match us, hl with | [_], _ => rfl) (fun vs H Q E h => ?_) (fun cdv A outer s H vs Q E hr h => ?_)
  · obtain ⟨_, _, _, rfl, _⟩ := h
    rfl
  · obtain ⟨o, row, rest, rfl, ho, k⟩ := h
    refine ⟨_, (pss_one (ps_if (pt_cmpR op_ne (pe_mt0 (ok_Walk_word T) T.wCls T.m_word hr (by decide) (pv 0)) pe_str (nomark _)) (pss_one (ps_expr (pe_mtX0 (ok_Walk_refuse T) T.wCls T.m_refuse hr (by decide) (takes_of rfl rfl rfl rfl) (pv 0)))) pss_nil)), ?_⟩
    walk_at "st"
    walk_at "wp"
    refine ho.word ?_
    unfold mEnd at k
    walk_at "wp"
    by_cases c1 : wd rest = ""
    · rw [if_neg (not_not_intro c1)]
      rw [if_pos c1] at k
      exact k.1 _ _ rfl _ H (Kp.refl H) ho rfl
    · rw [if_pos c1]
      rw [if_neg c1] at k
      exact ho.no fun d H' e hd => k.2 _ rfl d H' e.nin hd
end
end K31
set_option Elab.async false
set_option linter.all false
set_option maxRecDepth 100000
set_option maxHeartbeats 4000000
namespace K31
open PySem PySem.Spec PyProof.Rows L2
/-! the parser's own defs -/
local macro_rules | `(tactic| walk_at "st") => `(tactic| try simp only [L2.start, List.map_cons, List.map_nil, List.length_cons, List.length_nil, Nat.reduceAdd, Nat.reduceSub, Nat.add_zero, Nat.zero_add, List.replicate, List.cons_append, List.nil_append, List.append_nil])
local macro_rules | `(tactic| walk_at "wp") => `(tactic| try simp only [tSeq, tIfS, tRet, tOr, tAnd, tNot, tTest, tB, tOp, rI0, rI, rU, tCB, tCons, tNil, tVar, tC, tAsg, gName, tNext, tDrop, tOrV, tAndV, tNotV, tIf, tUn, tYes, wipe, tCall, tTup, tLst, tSl, tPart, tNoPart, tM0, tM1, tIsN, tNotN, tChain, tPar, tBM, tFld, tMeth,
  List.getElem?_cons_zero, List.getElem?_cons_succ, Option.some.injEq, exists_eq_left, exists_eq_left', V.str.injEq, V.int.injEq, V.bl.injEq, V.ref.injEq, List.cons.injEq, and_true, true_and, and_self, exists_and_left, exists_and_right, exists_eq_right, exists_eq, exists_const, reduceCtorEq, decide_eq_true_eq, decide_eq_false_iff_not, List.set_cons_zero, List.set_cons_succ, sg_inj, rEq_ss, rNe_ss, rEq_ii, rNe_ii, ↓reduceIte, Bool.false_eq_true, List.nil_append, List.cons_append, List.append_nil, not_true_eq_false, not_false_eq_true, Bool.not_eq_true', Bool.not_true, Bool.not_false, decide_true, decide_false, or_false, false_or, or_true, true_or, false_and, and_false])
abbrev TermV := Int × Str × Int
def termD (q : TermV) : PyData := .tuple [.int q.1, .str q.2.1, .int q.2.2]
def mTermT (kind : Str) (turned n : Int) (rest : List Tok2) : PR TermV := andThen (mIf isUnknown rest) fun nm r =>
  if kind = "step" ∧ wd r = "'" then .ok ((turned * n, nm, 1), r.tail)
  else if kind = "ask" then andThen (mOne ["at"] r) fun _ r3 => andThen (mNum r3) fun p r4 => .ok ((turned * n, nm, p), r4)
  else .ok ((turned * n, nm, 0), r)
def mTerm (kind : Str) (turned : Int) (rest : List Tok2) : PR TermV :=
  if isNumber (wd rest) = true then andThen (mNum rest) fun n r => if kind ≠ "sensor" ∧ isUnknown (wd r) = false then .ok ((turned * n, "", 0), r) else mTermT kind turned n r
  else mTermT kind turned 1 rest
def mMore (kind : Str) : Nat → List TermV → List Tok2 → PR (List TermV)
  | 0, acc, r => .ok (acc, r)
  | n + 1, acc, r => if wd r = "+" ∨ wd r = "-" then andThen (mTerm kind (if wd r = "+" then 1 else -1) r.tail) fun t r2 => mMore kind n (acc ++ [t]) r2 else .ok (acc, r)
def mForm (kind : Str) (rest : List Tok2) : PR (List TermV) := andThen (mTurn rest) fun t r => andThen (mTerm kind t r) fun v r2 => mMore kind r2.length [v] r2
def mComp (kind : Str) (rest : List Tok2) : PR (List TermV × Str × List TermV) := andThen (mForm kind rest) fun l r => andThen (mOne (if kind = "ask" then (["<=", ">="] : List Str) else signs) r) fun s r2 => andThen (mForm kind r2) fun rr r3 => .ok ((l, s, rr), r3)
def formD (l : List TermV) : PyData := .list (l.map termD)
def mUnknowns (row : Nat) (rest : List Tok2) : PR PyData := andThen (mIf isUnknown rest) fun a r => if wd r ≠ "" then andThen (mIf isUnknown r) fun b r2 => .ok (.tuple [.str "unknowns", .int row, .list [.str a, .str b]], r2) else .ok (.tuple [.str "unknowns", .int row, .list [.str a]], r)
def mSensor (row : Nat) (rest : List Tok2) : PR PyData := andThen (mIf isName rest) fun nm r => andThen (mOne [":"] r) fun _ r => andThen (mForm "sensor" r) fun f r => andThen (mOne ["slack"] r) fun _ r => andThen (mWorth 1 r) fun q r =>
  .ok (.tuple [.str "sensor", .int row, .str nm, formD f, fracD q], r)
def mReading (row : Nat) (rest : List Tok2) : PR PyData := andThen (mIf isName rest) fun lb r => andThen (mIf isName r) fun sn r => andThen (mOne ["at"] r) fun _ r => andThen (mNum r) fun m r => andThen (mOne ["="] r) fun _ r => andThen (mTurn r) fun t r => andThen (mWorth t r) fun q r =>
  .ok (.tuple [.str "reading", .int row, .str lb, .str sn, .int m, fracD q], r)
def mStep (row : Nat) (rest : List Tok2) : PR PyData := andThen (mNum rest) fun m r => andThen (mOne [":"] r) fun _ r => andThen (mComp "step" r) fun c r => .ok (.tuple [.str "step", .int row, .int m, formD c.1, .str c.2.1, formD c.2.2], r)
def kindOf (h : Str) : Str := if h = "start" then "one" else if h = "steps" then "step" else "ask"
def mRest (row : Nat) (h : Str) (rest : List Tok2) : PR PyData :=
  if h = "unknowns" then mUnknowns row rest
  else if h = "moments" then andThen (mNum rest) fun m r => .ok (.tuple [.str "moments", .int row, .int m], r)
  else if h = "step" then mStep row rest
  else if h = "sensor" then mSensor row rest
  else if h = "reading" then mReading row rest
  else if h = "back" then andThen (mIf isName rest) fun nm r => .ok (.tuple [.str "back", .int row, .str nm], r)
  else andThen (mComp (kindOf h) rest) fun c r => .ok (.tuple [.str h, .int row, formD c.1, .str c.2.1, formD c.2.2], r)
def mStat (row : Nat) (rest : List Tok2) : PR PyData := andThen (mOne heads rest) fun h r => andThen (mRest row h r) fun d r2 => andThen (mEnd r2) fun _ r3 => .ok (d, r3)
def mAll : Nat → List PyData → List (List Tok2) → Except (Nat × Nat) (List PyData)
  | _, acc, [] => .ok acc
  | n, acc, r :: rs => if 1 < r.length then (match mStat (n + 1) r with
    | .ok (d, _) => mAll (n + 1) (acc ++ [d]) rs
    | .error s => .error (n + 1, s)) else mAll (n + 1) acc rs
/-! the reps -/
def repT (K : PySem.W.Frag) : V → TermV → Hp → Hp → Prop := fun v q H0 H => DpF K H0 H v (termD q)
def repTs (K : PySem.W.Frag) : V → List TermV → Hp → Hp → Prop := fun v q H0 H => DpF K H0 H v (formD q)
def repD (K : PySem.W.Frag) : V → PyData → Hp → Hp → Prop := fun v d H0 H => DpF K H0 H v d
def repC (K : PySem.W.Frag) : V → (List TermV × Str × List TermV) → Hp → Hp → Prop := fun v c H0 H => ∃ p l r, v = .ref p ∧ H p = some (.tup [l, .str c.2.1, r]) ∧ DpF K H0 H l (formD c.1) ∧ DpF K H0 H r (formD c.2.2)
theorem andThen_ok {α β : Type} {m : PR α} {f : α → List Tok2 → PR β} {y : β × List Tok2} (h : andThen m f = .ok y) : ∃ x r, m = .ok (x, r) ∧ f x r = .ok y := by
  cases m with
  | ok p => exact ⟨p.1, p.2, rfl, h⟩
  | error s => cases h
theorem mIf_tl {f : Str → Bool} {rest r : List Tok2} {x : Str} (h : mIf f rest = .ok (x, r)) : x = wd rest ∧ r = rest.tail ∧ f (wd rest) = true := by
  unfold mIf at h
  split at h
  · rename_i c
    cases h
    exact ⟨rfl, rfl, c⟩
  · cases h
theorem mOne_tl {cs : List Str} {rest r : List Tok2} {x : Str} (h : mOne cs rest = .ok (x, r)) : x = wd rest ∧ r = rest.tail ∧ wd rest ∈ cs := by
  unfold mOne at h
  split at h
  · rename_i c
    cases h
    exact ⟨rfl, rfl, c⟩
  · cases h
theorem mNum_tl {rest r : List Tok2} {x : Int} (h : mNum rest = .ok (x, r)) : x = intOf (wd rest) ∧ r = rest.tail ∧ isNumber (wd rest) = true := by
  unfold mNum at h
  split at h
  · rename_i c
    cases h
    exact ⟨rfl, rfl, c⟩
  · cases h
theorem tail_le (r : List Tok2) : r.tail.length ≤ r.length := by
  rw [List.length_tail]
  omega
theorem mTermT_len {kind : Str} {t n : Int} {rest r : List Tok2} {x : TermV} (h : mTermT kind t n rest = .ok (x, r)) : r.length ≤ rest.length := by
  unfold mTermT at h
  obtain ⟨nm, r1, m1, h⟩ := andThen_ok h
  obtain ⟨_, rfl, _⟩ := mIf_tl m1
  have l1 := tail_le rest
  have l2 := tail_le rest.tail
  split at h
  · cases h
    omega
  · split at h
    · obtain ⟨_, r2, m2, h⟩ := andThen_ok h
      obtain ⟨_, rfl, _⟩ := mOne_tl m2
      obtain ⟨_, r3, m3, h⟩ := andThen_ok h
      obtain ⟨_, rfl, _⟩ := mNum_tl m3
      cases h
      have l3 := tail_le rest.tail.tail
      omega
    · cases h
      omega
theorem mTerm_len {kind : Str} {t : Int} {rest r : List Tok2} {x : TermV} (h : mTerm kind t rest = .ok (x, r)) : r.length ≤ rest.length := by
  unfold mTerm at h
  split at h
  · obtain ⟨n, r1, m1, h⟩ := andThen_ok h
    obtain ⟨_, rfl, _⟩ := mNum_tl m1
    have l1 := tail_le rest
    split at h
    · cases h
      omega
    · have l2 := mTermT_len h
      omega
  · exact mTermT_len h
theorem mTurn_ok {rest r : List Tok2} {t : Int} (h : mTurn rest = .ok (t, r)) : t = 1 ∨ t = -1 := by
  unfold mTurn at h
  split at h <;> cases h
  · exact .inr rfl
  · exact .inl rfl
theorem mOne_in {cs : List Str} {rest r : List Tok2} {x : Str} (h : mOne cs rest = .ok (x, r)) : x ∈ cs := by
  unfold mOne at h
  split at h
  · rename_i c
    cases h
    exact c
  · cases h
def Kinds (k : Str) : Prop := k = "one" ∨ k = "step" ∨ k = "ask" ∨ k = "sensor"
def spTerm (K : PySem.W.Frag) : Sp := fun vs H Q E => ∃ w row rest kind t, vs = [.ref w, .str kind, .int t] ∧ (t = 1 ∨ t = -1) ∧ WS K H w row rest ∧ Out K H w row (mTerm kind t rest) (repT K) Q E
def spForm (K : PySem.W.Frag) : Sp := fun vs H Q E => ∃ w row rest kind, vs = [.ref w, .str kind] ∧ WS K H w row rest ∧ Out K H w row (mForm kind rest) (repTs K) Q E
def spComp (K : PySem.W.Frag) : Sp := fun vs H Q E => ∃ w row rest kind, vs = [.ref w, .str kind] ∧ WS K H w row rest ∧ Out K H w row (mComp kind rest) (repC K) Q E
def spRow (K : PySem.W.Frag) (m : Nat → List Tok2 → PR PyData) : Sp := fun vs H Q E => ∃ w row rest, vs = [.ref w, .int (row.1 : Nat)] ∧ WS K H w row rest ∧ Out K H w row (m row.1 rest) (repD K) Q E
def spRest (K : PySem.W.Frag) : Sp := fun vs H Q E => ∃ w row rest h, vs = [.ref w, .int (row.1 : Nat), .str h] ∧ h ∈ heads ∧ WS K H w row rest ∧ Out K H w row (mRest row.1 h rest) (repD K) Q E
def spStat (K : PySem.W.Frag) : Sp := fun vs H Q E => ∃ a row rest, vs = [.int (row : Nat), .ref a] ∧ RowAt H a rest ∧ Good rest ∧
  (∀ x rest', mStat row rest = .ok (x, rest') → ∀ v H', Kp NoIns H H' → DpF K H H' v x → Q v H') ∧ ∀ s, mStat row rest = .error s → ∀ d H', Kp NoIns H H' → H' d = some (.xd [("spot", .int (s : Nat)), ("row", .int row)]) → E (.ref (He.ga K "BadText")) (some d) H'
def spAll (K : PySem.W.Frag) : Sp := fun vs H Q E => ∃ (z : Str) (rows : List (List Tok2)), vs = [.str z] ∧ TextOf z rows ∧ (∀ r ∈ rows, Good r) ∧
  (∀ ds, mAll 0 [] rows = .ok ds → ∀ p vs H', Kp NoIns H H' → (∀ o, H p = some o → ¬ NoIns o) → H' p = some (.lst vs) → DpAll K (hid p H') vs ds → Q (.ref p) H') ∧ ∀ q : Nat × Nat, mAll 0 [] rows = .error q → ∀ d H', Kp NoIns H H' → H' d = some (.xd [("spot", .int q.2), ("row", .int q.1)]) → E (.ref (He.ga K "BadText")) (some d) H'
section
variable {P : Program} {w : World} {K : PySem.W.Frag} {mg : Str → Option Value} {base : Heap}
abbrev N_take_term : List Str := ["walk", "kind", "turned", "number", "name", "place"]
abbrev P_take_term : List Str := ["walk", "kind", "turned"]
theorem sc_take_term : FnScope N_take_term P_take_term (defScope s_take_term) := ⟨rfl, rfl, rfl, by decide +kernel, rfl, by decide +kernel, by decide +kernel⟩
theorem ok_take_term (T : Tx w K mg) : Cl P w K mg base 5 "take_term" P_take_term (spTerm K) := by
  refine Cl.mk T.d_take_term rfl T.g_take_term sc_take_term (fun _ _ _ _ _ _ us hl => match us, hl with | [_, _, _], _ => rfl) (fun vs H Q E h => ?_) (fun cdv A outer s H vs Q E hr h => ?_)
  · obtain ⟨_, _, _, _, _, rfl, _⟩ := h
    rfl
  · obtain ⟨o, row, rest, kind, t, rfl, ht, ho, k⟩ := h
    refine ⟨_, (pss_cons (ps_set (i := 3) sc_take_term.nd rfl (Or.inl rfl) pe_int)
      (pss_cons (ps_if (pt_val (pe_fn (ok_is_number_word T) hr (by decide) (by rfl) (pa_cons (pe_mt0 (ok_Walk_word T) T.wCls T.m_word hr (by decide) (pv 0)) pa_nil))) (pss_cons (ps_set (i := 3) sc_take_term.nd rfl (Or.inl rfl) (pe_mtX0 (ok_Walk_take_number T) T.wCls T.m_take_number hr (by decide) (takes_of rfl rfl rfl rfl) (pv 0)))
      (pss_one (ps_if ((pw_and (pt_cmpR op_ne (pv 1) pe_str (nomark _)) (pw_and1 (pt_not (pt_val (pe_fn (ok_is_unknown T) hr (by decide) (by rfl) (pa_cons (pe_mt0 (ok_Walk_word T) T.wCls T.m_word hr (by decide) (pv 0)) pa_nil))))))).pt (pss_one (ps_ret (pe_tup (pa_cons (pe_op op_mulX (pv 2) (pv 3)) (pa_cons pe_str (pa_cons pe_int pa_nil)))))) pss_nil))) pss_nil)
      (pss_cons (ps_set (i := 4) sc_take_term.nd rfl (Or.inl rfl) (pe_mtX0 (ok_Walk_take_unknown T) T.wCls T.m_take_unknown hr (by decide) (takes_of rfl rfl rfl rfl) (pv 0)))
      (pss_cons (ps_set (i := 5) sc_take_term.nd rfl (Or.inl rfl) pe_int)
      (pss_cons (ps_if ((pw_and (pt_cmpR op_eq (pv 1) pe_str (nomark _)) (pw_and1 (pt_cmpR op_eq (pe_mt0 (ok_Walk_word T) T.wCls T.m_word hr (by decide) (pv 0)) pe_str (nomark _))))).pt (pss_cons (ps_expr (pe_mt0 (ok_Walk_go T) T.wCls T.m_go hr (by decide) (pv 0)))
      (pss_one (ps_set (i := 5) sc_take_term.nd rfl (Or.inl rfl) pe_int))) pss_nil)
      (pss_cons (ps_if (pt_cmpR op_eq (pv 1) pe_str (nomark _)) (pss_cons (ps_expr (pe_mtX (ok_Walk_take_one T) T.wCls T.m_take_one hr (by decide) (takes_of rfl rfl rfl rfl) (pv 0) (pa_cons (pe_tup (pa_cons pe_str pa_nil)) pa_nil)))
      (pss_one (ps_set (i := 5) sc_take_term.nd rfl (Or.inl rfl) (pe_mtX0 (ok_Walk_take_number T) T.wCls T.m_take_number hr (by decide) (takes_of rfl rfl rfl rfl) (pv 0))))) pss_nil)
      (pss_one (ps_ret (pe_tup (pa_cons (pe_op op_mulX (pv 2) (pv 3)) (pa_cons (pv 4) (pa_cons (pv 5) pa_nil)))))))))))), ?_⟩
    walk_at "st"
    refine tSeq_op2 fun R hR => ?_
    walk_at "wp"
    have tail : ∀ (n : Int) (r : List Tok2) (H2 : Hp), n.natAbs < 2 ^ 340 → Kp NoIns H H2 → WS K H2 o row r → Out K H o row (mTermT kind t n r) (repT K) Q E → R [some (V.ref o), some (V.str kind), some (V.int t), some (V.int n), none, none] H2 := by
      intro n r H2 hn e2 h2 k2
      refine hR _ _ ?_
      unfold mTermT at k2
      walk_at "wp"
      refine h2.meth ⟨o, row, r, rfl, h2, k2.step e2 fun nm r3 hm k3 v H3 e3 h3 rp => ?_⟩
      obtain rfl : v = .str nm := rp
      walk_at "wp"
      have cm : CMulX t n := by
        have ht1 : t.natAbs < 2 ^ 2 := by rcases ht with rfl | rfl <;> decide
        exact mulx_ok ht1 hn (by decide)
      have f3 := e2.trans e3
      have ns : ¬ ("step" : Str) = "ask" := by decide +kernel
      by_cases c1 : kind = "step"
      · subst c1
        rw [if_pos rfl]
        refine h3.word ?_
        walk_at "wp"
        by_cases c2 : wd r3 = "'"
        · rw [if_pos c2]
          rw [if_pos ⟨rfl, c2⟩] at k3
          refine h3.go_ (by rw [c2]; decide +kernel) fun H4 e4 h4 => ?_
          rw [if_neg ns]
          refine ⟨cm, sz3 (Nat.le_of_ble_eq_true rfl), ?_⟩
          (intro p5 hp5; generalize hg0 : upd _ p5 _ = H5; obtain ⟨e5, h5⟩ := upd_ex hp5 hg0; clear hg0)
          exact k3.1 _ _ rfl _ H5 ((f3.trans e4).trans e5.nin) (h4.all e5) (.tup (f3.trans e4) hp5 h5 (.cons .int (.cons .str (.cons .int .nil))))
        · rw [if_neg c2]
          rw [if_neg (fun z => c2 z.2), if_neg ns] at k3
          rw [if_neg ns]
          refine ⟨cm, sz3 (Nat.le_of_ble_eq_true rfl), ?_⟩
          (intro p5 hp5; generalize hg0 : upd _ p5 _ = H5; obtain ⟨e5, h5⟩ := upd_ex hp5 hg0; clear hg0)
          exact k3.1 _ _ rfl _ H5 (f3.trans e5.nin) (h3.all e5) (.tup f3 hp5 h5 (.cons .int (.cons .str (.cons .int .nil))))
      · rw [if_neg c1]
        rw [if_neg (fun z => c1 z.1)] at k3
        by_cases c3 : kind = "ask"
        · rw [if_pos c3] at k3 ⊢
          refine h3.meth ⟨sz3 (Nat.le_of_ble_eq_true rfl), ?_⟩
          (intro p4 hp4; generalize hg0 : upd _ p4 _ = H4; obtain ⟨e4, h4⟩ := upd_ex hp4 hg0; clear hg0)
          have f4 := f3.trans e4.nin
          refine ⟨o, row, r3, p4, ["at"], rfl, h3.all e4, sqT h4, by decide +kernel, k3.step f4 fun _ r5 m5 k5 v5 H5 e5 w5 rp5 => ?_⟩
          have f5 := f4.trans e5
          refine w5.meth ⟨o, row, r5, rfl, w5, k5.step f5 fun pl r6 m6 k6 v6 H6 e6 w6 rp6 => ?_⟩
          obtain rfl : v6 = .int pl := rp6
          have f6 := f5.trans e6
          refine ⟨cm, sz3 (Nat.le_of_ble_eq_true rfl), ?_⟩
          (intro p7 hp7; generalize hg0 : upd _ p7 _ = H7; obtain ⟨e7, h7⟩ := upd_ex hp7 hg0; clear hg0)
          exact k6.1 _ _ rfl _ H7 (f6.trans e7.nin) (w6.all e7) (.tup f6 hp7 h7 (.cons .int (.cons .str (.cons .int .nil))))
        · rw [if_neg c3] at k3 ⊢
          refine ⟨cm, sz3 (Nat.le_of_ble_eq_true rfl), ?_⟩
          (intro p5 hp5; generalize hg0 : upd _ p5 _ = H5; obtain ⟨e5, h5⟩ := upd_ex hp5 hg0; clear hg0)
          exact k3.1 _ _ rfl _ H5 (f3.trans e5.nin) (h3.all e5) (.tup f3 hp5 h5 (.cons .int (.cons .str (.cons .int .nil))))
    unfold mTerm at k
    refine ho.word ⟨_, rfl, ho.good.short, fun H1 e1 => ⟨_, rfl, ?_⟩⟩
    have h1 := ho.all e1
    by_cases c1 : isNumber (wd rest) = true
    · rw [if_pos c1] at k ⊢
      refine h1.meth ⟨o, row, rest, rfl, h1, k.step e1.nin fun n r2 m2 k2 v2 H2 e2 w2 rp2 => ?_⟩
      obtain rfl : v2 = .int n := rp2
      have f2 := e1.nin.trans e2
      have hn := (mNum_ok m2).2
      have ht1 : t.natAbs < 2 ^ 2 := by rcases ht with rfl | rfl <;> decide
      walk_at "wp"
      by_cases c2 : kind = "sensor"
      · rw [if_neg (not_not_intro c2)]
        rw [if_neg (fun z => z.1 c2)] at k2
        exact tail n r2 H2 hn f2 w2 k2
      · rw [if_pos c2]
        refine w2.word ⟨_, rfl, w2.good.short, fun H3 e3 => ⟨_, rfl, ?_⟩⟩
        have w3 := w2.all e3
        have f3 := f2.trans e3.nin
        by_cases c3 : isUnknown (wd r2) = true
        · rw [if_neg (by rw [c3]; exact Bool.noConfusion)]
          rw [if_neg (fun z => by rw [c3] at z; cases z.2)] at k2
          exact tail n r2 H3 hn f3 w3 k2
        · have c4 := Bool.eq_false_iff.mpr c3
          rw [if_pos c4]
          rw [if_pos ⟨c2, c4⟩] at k2
          refine ⟨mulx_ok ht1 hn (by decide), sz3 (Nat.le_of_ble_eq_true rfl), ?_⟩
          (intro p5 hp5; generalize hg0 : upd _ p5 _ = H5; obtain ⟨e5, h5⟩ := upd_ex hp5 hg0; clear hg0)
          exact k2.1 _ _ rfl _ H5 (f3.trans e5.nin) (w3.all e5) (.tup f3 hp5 h5 (.cons .int (.cons .str (.cons .int .nil))))
    · rw [if_neg c1] at k ⊢
      exact tail 1 rest H1 (by decide) e1.nin h1 k
abbrev N_take_form : List Str := ["walk", "kind", "terms", "turned"]
abbrev P_take_form : List Str := ["walk", "kind"]
theorem sc_take_form : FnScope N_take_form P_take_form (defScope s_take_form) := ⟨rfl, rfl, rfl, by decide +kernel, rfl, by decide +kernel, by decide +kernel⟩
theorem ok_take_form (T : Tx w K mg) : Cl P w K mg base 6 "take_form" P_take_form (spForm K) := by
  refine Cl.mk T.d_take_form rfl T.g_take_form sc_take_form (fun _ _ _ _ _ _ us hl => match us, hl with | [_, _], _ => rfl) (fun vs H Q E h => ?_) (fun cdv A outer s H vs Q E hr h => ?_)
  · obtain ⟨_, _, _, _, rfl, _⟩ := h
    rfl
  · obtain ⟨o, row, rest, kind, rfl, ho, k⟩ := h
    refine ⟨_, (pss_cons (ps_set (i := 2) sc_take_form.nd rfl (Or.inl rfl) (pe_lst (pa_cons (pe_fnX (ok_take_term T) hr (by decide) (takes_of rfl rfl rfl rfl) (by rfl) (pa_cons (pv 0) (pa_cons (pv 1) (pa_cons (pe_mt0 (ok_Walk_take_turn T) T.wCls T.m_take_turn hr (by decide) (pv 0)) pa_nil)))) pa_nil)))
      (pss_cons (ps_while (passes_of rfl) (pt_cmpR op_in_seq (pe_mt0 (ok_Walk_word T) T.wCls T.m_word hr (by decide) (pv 0)) (pe_tup (pa_cons pe_str (pa_cons pe_str pa_nil))) (by with_unfolding_all rfl)) (pss_cons (ps_set (i := 3) sc_take_form.nd rfl (Or.inl rfl) (pe_ifExp (pt_cmpR op_eq (pe_mt0 (ok_Walk_go T) T.wCls T.m_go hr (by decide) (pv 0)) pe_str (nomark _)) pe_int (pe_un un_neg pe_int)))
      (pss_one (ps_expr (pe_bm PySem.F.plainAttrs_list PySem.F.slot_list_append PySem.F.type_list_append mt_append (pv 2) (pa_cons (pe_fnX (ok_take_term T) hr (by decide) (takes_of rfl rfl rfl rfl) (by rfl) (pa_cons (pv 0) (pa_cons (pv 1) (pa_cons (pv 3) pa_nil)))) pa_nil))))))
      (pss_one (ps_ret (pv 2))))), ?_⟩
    walk_at "st"
    walk_at "wp"
    unfold mForm at k
    refine ho.meth ⟨o, row, rest, rfl, ho, k.turn (Kp.refl H) fun t r1 m1 k1 v1 H1 e1 w1 rp1 => ?_⟩
    obtain rfl : v1 = .int t := rp1
    refine ⟨o, row, r1, kind, t, rfl, mTurn_ok m1, w1, k1.step e1 fun q r2 m2 k2 v2 H2 e2 w2 rp2 => ?_⟩
    have f2 := e1.trans e2
    refine ⟨sz3 (Nat.le_of_ble_eq_true rfl), ?_⟩
    (intro D hD; generalize hg0 : upd _ D _ = H3; obtain ⟨e3, h3⟩ := upd_ex hD hg0; clear hg0)
    have gl := w2.good.len
    obtain ⟨Iv, hI⟩ := mkI fun (m : Nat) σ H4 => ∃ (acc : List TermV) (r : List Tok2) (vs : List V) (o1 : Option V), r.length ≤ m ∧ σ = [some (V.ref o), some (V.str kind), some (V.ref D), o1] ∧ Kp NoIns H H4 ∧ WS K H4 o row r ∧ H4 D = some (.lst vs) ∧ DpAll K (hid D (hidB H H4)) vs (acc.map termD) ∧ vs.length + r.length ≤ 60000 ∧ Out K H o row (mMore kind m acc r) (repTs K) Q E
    refine ⟨Iv, ⟨_, (hI _ _ _).mpr ⟨[q], r2, [v2], none, Nat.le_refl _, rfl, f2.trans e3.nin, w2.all e3, h3, .cons ?_ .nil, by show 1 + _ ≤ _; omega, k2⟩⟩, ?_⟩
    · exact (Kp.hid2 (hidB_kp e3.nin)).dp (Kp.dp (hidB_free e1 hD).all rp2)
    intro m σ H4 hm
    obtain ⟨acc, r, vs, o1, hrm, rfl, f4, w4, h4, d4, l4, k4⟩ := (hI _ _ _).mp hm
    obtain ⟨N, hN1, hN2⟩ := mkN Iv m
    have h0 : H2 D = none := hD
    walk_at "wp"
    refine w4.word ⟨sz3 (Nat.le_of_ble_eq_true rfl), ?_⟩
    (intro p5 hp5; generalize hg0 : upd _ p5 _ = H5; obtain ⟨e5, h5⟩ := upd_ex hp5 hg0; clear hg0)
    have w5 := w4.all e5
    have hin : wd r ∈ (["+", "-"] : List Str) ↔ wd r = "+" ∨ wd r = "-" := by simp
    refine st_in (ws := ["+", "-"]) rfl (.inr (sqT h5)) ?_
    walk_at "wp"
    have er : r.length = r.tail.length + 1 := by rw [w4.good.cons] <;> rfl
    by_cases c1 : wd r = "+" ∨ wd r = "-"
    · rw [if_pos (hin.mpr c1)]
      refine ⟨N, hN1, ?_⟩
      refine w5.go_ (by rcases c1 with c1 | c1 <;> rw [c1] <;> decide +kernel) fun H6 e6 w6 => ?_
      walk_at "wp"
      obtain ⟨n, rfl⟩ : ∃ n, m = n + 1 := ⟨m - 1, by omega⟩
      rw [mMore, if_pos c1] at k4
      have f6 := (f4.trans e5.nin).trans e6
      have h6 : H6 D = some (.lst vs) := e6 _ _ (e5 _ _ h4 trivial) fun _ _ _ z => by cases z
      have d6 : DpAll K (hid D (hidB H H6)) vs (acc.map termD) := (Kp.hid2 (hidB_kp (e5.nin.trans e6))).dpAll d4
      have fin : ∀ tt : Int, (tt = 1 ∨ tt = -1) → Out K H o row (andThen (mTerm kind tt r.tail) fun t r2 => mMore kind n (acc ++ [t]) r2) (repTs K) Q E → tyV K "list" (V.ref D) H6 ∧ spTerm K [V.ref o, V.str kind, V.int tt] H6 (fun x H1 => rAppend (V.ref D) [x] H1 fun x H1 => N [some (V.ref o), some (V.str kind), some (V.ref D), some (V.int tt)] H1) E := by
        intro tt htt k5
        refine ⟨st_tyL h6, o, row, r.tail, kind, tt, rfl, htt, w6, k5.step f6 fun t7 r7 m7 k7 v7 H7 e7 w7 rp7 => ?_⟩
        have h7 : H7 D = some (.lst vs) := e7 _ _ h6 fun _ _ _ z => by cases z
        have l7 := mTerm_len m7
        refine st_app h7 (by omega) (hN2 n _ _ (by omega) ((hI _ _ _).mpr ⟨acc ++ [t7], r7, vs ++ [v7], _, by omega, rfl, Kp.mutN f2 h0 (f6.trans e7), w7.upd w2 h0 h7, upd_same, ?_, by rw [List.length_append, List.length_singleton]; omega, k7⟩))
        rw [List.map_append]
        have eh : hid D (hidB H (upd H7 D (.lst (vs ++ [v7])))) = hid D (hidB H H7) := by
          funext a
          by_cases z : a = D
          · rw [z, hid_at, hid_at]
          · rw [hid_ne z, hid_ne z]
            unfold hidB
            rw [upd_ne z]
        rw [eh]
        exact dpAll_snoc ((Kp.hid2 (hidB_kp e7)).dpAll d6) (Kp.dp (hidB_hid f6 h6 fun _ _ _ z => by cases z).all rp7)
      by_cases c2 : wd r = "+"
      · rw [if_pos c2] at k4 ⊢
        exact fin 1 (.inl rfl) k4
      · rw [if_neg c2] at k4 ⊢
        exact fin (-1) (.inr rfl) k4
    · rw [if_neg (fun z => c1 (hin.mp z))]
      have h5' := e5 _ _ h4 trivial
      have k5 : Out K H o row (Except.ok (acc, r)) (repTs K) Q E := by
        cases m with
        | zero => omega
        | succ n =>
          rw [mMore, if_neg c1] at k4
          exact k4
      refine k5.1 _ _ rfl _ H5 (f4.trans e5.nin) w5 ?_
      exact Dp.lst (sqS (hidB_new f2 h0 h5')) (Kp.dpAll (Kp.unhid (D := D)).all ((Kp.hid2 (hidB_kp e5.nin)).dpAll d4))
abbrev N_take_comparison : List Str := ["walk", "kind", "left", "sign"]
abbrev P_take_comparison : List Str := ["walk", "kind"]
theorem sc_take_comparison : FnScope N_take_comparison P_take_comparison (defScope s_take_comparison) := ⟨rfl, rfl, rfl, by decide +kernel, rfl, by decide +kernel, by decide +kernel⟩
theorem ok_take_comparison (T : Tx w K mg) : Cl P w K mg base 7 "take_comparison" P_take_comparison (spComp K) := by
  refine Cl.mk T.d_take_comparison rfl T.g_take_comparison sc_take_comparison (fun _ _ _ _ _ _ us hl => match us, hl with | [_, _], _ => rfl) (fun vs H Q E h => ?_) (fun cdv A outer s H vs Q E hr h => ?_)
  · obtain ⟨_, _, _, _, rfl, _⟩ := h
    rfl
  · obtain ⟨o, row, rest, kind, rfl, ho, k⟩ := h
    refine ⟨_, (pss_cons (ps_set (i := 2) sc_take_comparison.nd rfl (Or.inl rfl) (pe_fnX (ok_take_form T) hr (by decide) (takes_of rfl rfl rfl rfl) (by rfl) (pa_cons (pv 0) (pa_cons (pv 1) pa_nil))))
      (pss_cons (ps_set (i := 3) sc_take_comparison.nd rfl (Or.inl rfl) (pe_mtX (ok_Walk_take_one T) T.wCls T.m_take_one hr (by decide) (takes_of rfl rfl rfl rfl) (pv 0) (pa_cons (pe_ifExp (pt_cmpR op_eq (pv 1) pe_str (nomark _)) (pe_slice sl_tup (pe_glob (v := V.ref (He.ga K "SIGNS")) (by rfl) T.g_SIGNS rfl) po_none (po_some pe_int)) (pe_glob (v := V.ref (He.ga K "SIGNS")) (by rfl) T.g_SIGNS rfl)) pa_nil)))
      (pss_one (ps_ret (pe_tup (pa_cons (pv 2) (pa_cons (pv 3) (pa_cons (pe_fnX (ok_take_form T) hr (by decide) (takes_of rfl rfl rfl rfl) (by rfl) (pa_cons (pv 0) (pa_cons (pv 1) pa_nil))) pa_nil)))))))), ?_⟩
    walk_at "st"
    walk_at "wp"
    unfold mComp at k
    refine ⟨o, row, rest, kind, rfl, ho, k.step (Kp.refl H) fun l r1 m1 k1 v1 H1 e1 w1 rp1 => ?_⟩
    have fin : ∀ (c : Addr) (cs : List Str) (H2 : Hp), Kp AllS H1 H2 → SqT K H2 c (cs.map V.str) → ("" : Str) ∉ cs → cs = (if kind = "ask" then (["<=", ">="] : List Str) else signs) → spOne K [V.ref o, V.ref c] H2 (fun x_4 H1 => spForm K [V.ref o, V.str kind] H1 (fun x_5 H1 => [v1, x_4, x_5].length ≤ sizeLine ∧ ∀ (p : Addr), H1 p = none → Q (V.ref p) (upd H1 p (HO.tup [v1, x_4, x_5]))) E) E := by
      rintro c cs H2 e2 hc hn rfl
      have f2 := e1.trans e2.nin
      refine ⟨o, row, r1, c, _, rfl, w1.all e2, hc, hn, k1.step f2 fun sg r3 m3 k3 v3 H3 e3 w3 rp3 => ?_⟩
      obtain rfl : v3 = .str sg := rp3
      have f3 := f2.trans e3
      refine ⟨o, row, r3, kind, rfl, w3, k3.step f3 fun rr r4 m4 k4 v4 H4 e4 w4 rp4 => ?_⟩
      have f4 := f3.trans e4
      refine ⟨sz3 (Nat.le_of_ble_eq_true rfl), ?_⟩
      (intro p hp; generalize hg0 : upd _ p _ = H5; obtain ⟨e5, h5⟩ := upd_ex hp hg0; clear hg0)
      exact k4.1 _ _ rfl _ H5 (f4.trans e5.nin) (w4.all e5) ⟨p, _, _, rfl, h5, DpF.kp rp1 ((e2.nin.trans e3).trans (e4.trans e5.nin)), DpF.kp (DpF.base rp4 f3) e5.nin⟩
    refine w1.meth ?_
    by_cases c1 : kind = "ask"
    · rw [if_pos c1]
      refine ⟨_, _, rfl, T.signs H1, by decide +kernel, fun p hp => ?_⟩
      generalize hg0 : upd _ p _ = H2
      obtain ⟨e2, h2⟩ := upd_ex hp hg0
      exact fin p ["<=", ">="] H2 e2 (sqT h2) (by decide +kernel) (by rw [if_pos c1])
    · rw [if_neg c1]
      exact fin _ signs H1 (Kp.refl H1) (T.signs H1) (by decide +kernel) (by rw [if_neg c1])
abbrev N_take_unknowns : List Str := ["walk", "row", "names"]
abbrev P_take_unknowns : List Str := ["walk", "row"]
theorem sc_take_unknowns : FnScope N_take_unknowns P_take_unknowns (defScope s_take_unknowns) := ⟨rfl, rfl, rfl, by decide +kernel, rfl, by decide +kernel, by decide +kernel⟩
theorem ok_take_unknowns (T : Tx w K mg) : Cl P w K mg base 5 "take_unknowns" P_take_unknowns (spRow K mUnknowns) := by
  refine Cl.mk T.d_take_unknowns rfl T.g_take_unknowns sc_take_unknowns (fun _ _ _ _ _ _ us hl => match us, hl with | [_, _], _ => rfl) (fun vs H Q E h => ?_) (fun cdv A outer s H vs Q E hr h => ?_)
  · obtain ⟨_, _, _, rfl, _⟩ := h
    rfl
  · obtain ⟨o, row, rest, rfl, ho, k⟩ := h
    refine ⟨_, (pss_cons (ps_set (i := 2) sc_take_unknowns.nd rfl (Or.inl rfl) (pe_lst (pa_cons (pe_mtX0 (ok_Walk_take_unknown T) T.wCls T.m_take_unknown hr (by decide) (takes_of rfl rfl rfl rfl) (pv 0)) pa_nil)))
      (pss_cons (ps_if (pt_cmpR op_ne (pe_mt0 (ok_Walk_word T) T.wCls T.m_word hr (by decide) (pv 0)) pe_str (nomark _)) (pss_one (ps_expr (pe_bm PySem.F.plainAttrs_list PySem.F.slot_list_append PySem.F.type_list_append mt_append (pv 2) (pa_cons (pe_mtX0 (ok_Walk_take_unknown T) T.wCls T.m_take_unknown hr (by decide) (takes_of rfl rfl rfl rfl) (pv 0)) pa_nil)))) pss_nil)
      (pss_one (ps_ret (pe_tup (pa_cons pe_str (pa_cons (pv 1) (pa_cons (pv 2) pa_nil)))))))), ?_⟩
    walk_at "st"
    walk_at "wp"
    unfold mUnknowns at k
    refine ho.meth ⟨o, row, rest, rfl, ho, k.step (Kp.refl H) fun a r1 m1 k1 v1 H1 e1 w1 rp1 => ?_⟩
    obtain rfl : v1 = .str a := rp1
    refine ⟨sz3 (Nat.le_of_ble_eq_true rfl), ?_⟩
    (intro p hp; generalize hg0 : upd _ p _ = H2; obtain ⟨e2, h2⟩ := upd_ex hp hg0; clear hg0)
    have w2 := w1.all e2
    refine w2.word ?_
    walk_at "wp"
    have f2 := e1.trans e2.nin
    by_cases c1 : wd r1 = ""
    · rw [if_neg (not_not_intro c1)] at k1 ⊢
      refine ⟨sz3 (Nat.le_of_ble_eq_true rfl), ?_⟩
      (intro p3 hp3; generalize hg0 : upd _ p3 _ = H3; obtain ⟨e3, h3⟩ := upd_ex hp3 hg0; clear hg0)
      exact k1.1 _ _ rfl _ H3 (f2.trans e3.nin) (w2.all e3) (.tup f2 hp3 h3 (.cons .str (.cons .int (.cons (.lst e1 hp (e3 _ _ h2 trivial) (.cons .str .nil)) .nil))))
    · rw [if_pos c1] at k1 ⊢
      refine ⟨st_tyL h2, w2.meth ⟨o, row, r1, rfl, w2, k1.step f2 fun b r3 m3 k3 v3 H3 e3 w3 rp3 => ?_⟩⟩
      obtain rfl : v3 = .str b := rp3
      have h3 := e3 _ _ h2 fun _ _ _ z => by cases z
      refine st_app h3 (by show 1 < 100000; omega) ?_
      walk_at "wp"
      generalize hg : upd H3 p _ = H4
      have w4 : WS K H4 o row r3 := by
        rw [← hg]
        exact w3.upd w1 hp h3
      have f4 : Kp NoIns H H4 := by
        rw [← hg]
        exact Kp.mutN e1 hp (f2.trans e3)
      have h4 : H4 p = some (.lst [.str a, .str b]) := by
        rw [← hg]
        exact upd_same
      refine ⟨sz3 (Nat.le_of_ble_eq_true rfl), ?_⟩
      (intro p5 hp5; generalize hg0 : upd _ p5 _ = H5; obtain ⟨e5, h5⟩ := upd_ex hp5 hg0; clear hg0)
      exact k3.1 _ _ rfl _ H5 (f4.trans e5.nin) (w4.all e5) (.tup f4 hp5 h5 (.cons .str (.cons .int (.cons (.lst e1 hp (e5 _ _ h4 trivial) (.cons .str (.cons .str .nil))) .nil))))
abbrev N_take_sensor : List Str := ["walk", "row", "name", "form"]
abbrev P_take_sensor : List Str := ["walk", "row"]
theorem sc_take_sensor : FnScope N_take_sensor P_take_sensor (defScope s_take_sensor) := ⟨rfl, rfl, rfl, by decide +kernel, rfl, by decide +kernel, by decide +kernel⟩
theorem ok_take_sensor (T : Tx w K mg) : Cl P w K mg base 7 "take_sensor" P_take_sensor (spRow K mSensor) := by
  refine Cl.mk T.d_take_sensor rfl T.g_take_sensor sc_take_sensor (fun _ _ _ _ _ _ us hl => match us, hl with | [_, _], _ => rfl) (fun vs H Q E h => ?_) (fun cdv A outer s H vs Q E hr h => ?_)
  · obtain ⟨_, _, _, rfl, _⟩ := h
    rfl
  · obtain ⟨o, row, rest, rfl, ho, k⟩ := h
    refine ⟨_, (pss_cons (ps_set (i := 2) sc_take_sensor.nd rfl (Or.inl rfl) (pe_mtX0 (ok_Walk_take_name T) T.wCls T.m_take_name hr (by decide) (takes_of rfl rfl rfl rfl) (pv 0)))
      (pss_cons (ps_expr (pe_mtX (ok_Walk_take_one T) T.wCls T.m_take_one hr (by decide) (takes_of rfl rfl rfl rfl) (pv 0) (pa_cons (pe_tup (pa_cons pe_str pa_nil)) pa_nil)))
      (pss_cons (ps_set (i := 3) sc_take_sensor.nd rfl (Or.inl rfl) (pe_fnX (ok_take_form T) hr (by decide) (takes_of rfl rfl rfl rfl) (by rfl) (pa_cons (pv 0) (pa_cons pe_str pa_nil))))
      (pss_cons (ps_expr (pe_mtX (ok_Walk_take_one T) T.wCls T.m_take_one hr (by decide) (takes_of rfl rfl rfl rfl) (pv 0) (pa_cons (pe_tup (pa_cons pe_str pa_nil)) pa_nil)))
      (pss_one (ps_ret (pe_tup (pa_cons pe_str (pa_cons (pv 1) (pa_cons (pv 2) (pa_cons (pv 3) (pa_cons (pe_mtX (ok_Walk_take_worth T) T.wCls T.m_take_worth hr (by decide) (takes_of rfl rfl rfl rfl) (pv 0) (pa_cons pe_int pa_nil)) pa_nil)))))))))))), ?_⟩
    walk_at "st"
    walk_at "wp"
    unfold mSensor at k
    refine ho.meth ⟨o, row, rest, rfl, ho, k.step (Kp.refl H) fun nm r1 m1 k1 v1 H1 e1 w1 rp1 => ?_⟩
    obtain rfl : v1 = .str nm := rp1
    refine w1.meth ⟨sz3 (Nat.le_of_ble_eq_true rfl), ?_⟩
    (intro p hp; generalize hg0 : upd _ p _ = H2; obtain ⟨e2, h2⟩ := upd_ex hp hg0; clear hg0)
    have f2 := e1.trans e2.nin
    refine ⟨o, row, r1, p, [":"], rfl, w1.all e2, sqT h2, by decide +kernel, k1.step f2 fun _ r3 m3 k3 v3 H3 e3 w3 rp3 => ?_⟩
    have f3 := f2.trans e3
    refine ⟨o, row, r3, "sensor", rfl, w3, k3.step f3 fun fm r4 m4 k4 v4 H4 e4 w4 rp4 => ?_⟩
    have f4 := f3.trans e4
    refine w4.meth ⟨sz3 (Nat.le_of_ble_eq_true rfl), ?_⟩
    (intro p5 hp5; generalize hg0 : upd _ p5 _ = H5; obtain ⟨e5, h5⟩ := upd_ex hp5 hg0; clear hg0)
    have f5 := f4.trans e5.nin
    refine ⟨o, row, r4, p5, ["slack"], rfl, w4.all e5, sqT h5, by decide +kernel, k4.step f5 fun _ r6 m6 k6 v6 H6 e6 w6 rp6 => ?_⟩
    have f6 := f5.trans e6
    refine w6.meth ⟨o, row, r6, 1, rfl, .inl rfl, w6, k6.step f6 fun q r7 m7 k7 v7 H7 e7 w7 rp7 => ?_⟩
    have f7 := f6.trans e7
    refine ⟨sz3 (Nat.le_of_ble_eq_true rfl), ?_⟩
    (intro p8 hp8; generalize hg0 : upd _ p8 _ = H8; obtain ⟨e8, h8⟩ := upd_ex hp8 hg0; clear hg0)
    exact k7.1 _ _ rfl _ H8 (f7.trans e8.nin) (w7.all e8) (.tup f7 hp8 h8 (.cons .str (.cons .int (.cons .str (.cons (DpF.kp (DpF.base rp4 f3) (((e5.nin.trans e6).trans e7).trans e8.nin)) (.cons (DpF.kp (DpF.base rp7 f6) e8.nin) .nil))))))
abbrev N_take_reading : List Str := ["walk", "row", "label", "sensor", "moment"]
abbrev P_take_reading : List Str := ["walk", "row"]
theorem sc_take_reading : FnScope N_take_reading P_take_reading (defScope s_take_reading) := ⟨rfl, rfl, rfl, by decide +kernel, rfl, by decide +kernel, by decide +kernel⟩
theorem ok_take_reading (T : Tx w K mg) : Cl P w K mg base 6 "take_reading" P_take_reading (spRow K mReading) := by
  refine Cl.mk T.d_take_reading rfl T.g_take_reading sc_take_reading (fun _ _ _ _ _ _ us hl => match us, hl with | [_, _], _ => rfl) (fun vs H Q E h => ?_) (fun cdv A outer s H vs Q E hr h => ?_)
  · obtain ⟨_, _, _, rfl, _⟩ := h
    rfl
  · obtain ⟨o, row, rest, rfl, ho, k⟩ := h
    refine ⟨_, (pss_cons (ps_set (i := 2) sc_take_reading.nd rfl (Or.inl rfl) (pe_mtX0 (ok_Walk_take_name T) T.wCls T.m_take_name hr (by decide) (takes_of rfl rfl rfl rfl) (pv 0)))
      (pss_cons (ps_set (i := 3) sc_take_reading.nd rfl (Or.inl rfl) (pe_mtX0 (ok_Walk_take_name T) T.wCls T.m_take_name hr (by decide) (takes_of rfl rfl rfl rfl) (pv 0)))
      (pss_cons (ps_expr (pe_mtX (ok_Walk_take_one T) T.wCls T.m_take_one hr (by decide) (takes_of rfl rfl rfl rfl) (pv 0) (pa_cons (pe_tup (pa_cons pe_str pa_nil)) pa_nil)))
      (pss_cons (ps_set (i := 4) sc_take_reading.nd rfl (Or.inl rfl) (pe_mtX0 (ok_Walk_take_number T) T.wCls T.m_take_number hr (by decide) (takes_of rfl rfl rfl rfl) (pv 0)))
      (pss_cons (ps_expr (pe_mtX (ok_Walk_take_one T) T.wCls T.m_take_one hr (by decide) (takes_of rfl rfl rfl rfl) (pv 0) (pa_cons (pe_tup (pa_cons pe_str pa_nil)) pa_nil)))
      (pss_one (ps_ret (pe_tup (pa_cons pe_str (pa_cons (pv 1) (pa_cons (pv 2) (pa_cons (pv 3) (pa_cons (pv 4) (pa_cons (pe_mtX (ok_Walk_take_worth T) T.wCls T.m_take_worth hr (by decide) (takes_of rfl rfl rfl rfl) (pv 0) (pa_cons (pe_mt0 (ok_Walk_take_turn T) T.wCls T.m_take_turn hr (by decide) (pv 0)) pa_nil)) pa_nil)))))))))))))), ?_⟩
    walk_at "st"
    walk_at "wp"
    unfold mReading at k
    refine ho.meth ⟨o, row, rest, rfl, ho, k.step (Kp.refl H) fun lb r1 m1 k1 v1 H1 e1 w1 rp1 => ?_⟩
    obtain rfl : v1 = .str lb := rp1
    refine w1.meth ⟨o, row, r1, rfl, w1, k1.step e1 fun sn r2 m2 k2 v2 H2 e2 w2 rp2 => ?_⟩
    obtain rfl : v2 = .str sn := rp2
    have f2 := e1.trans e2
    refine w2.meth ⟨sz3 (Nat.le_of_ble_eq_true rfl), ?_⟩
    (intro p3 hp3; generalize hg0 : upd _ p3 _ = H3; obtain ⟨e3, h3⟩ := upd_ex hp3 hg0; clear hg0)
    have f3 := f2.trans e3.nin
    refine ⟨o, row, r2, p3, ["at"], rfl, w2.all e3, sqT h3, by decide +kernel, k2.step f3 fun _ r4 m4 k4 v4 H4 e4 w4 rp4 => ?_⟩
    have f4 := f3.trans e4
    refine w4.meth ⟨o, row, r4, rfl, w4, k4.step f4 fun mo r5 m5 k5 v5 H5 e5 w5 rp5 => ?_⟩
    obtain rfl : v5 = .int mo := rp5
    have f5 := f4.trans e5
    refine w5.meth ⟨sz3 (Nat.le_of_ble_eq_true rfl), ?_⟩
    (intro p6 hp6; generalize hg0 : upd _ p6 _ = H6; obtain ⟨e6, h6⟩ := upd_ex hp6 hg0; clear hg0)
    have f6 := f5.trans e6.nin
    refine ⟨o, row, r5, p6, ["="], rfl, w5.all e6, sqT h6, by decide +kernel, k5.step f6 fun _ r7 m7 k7 v7 H7 e7 w7 rp7 => ?_⟩
    have f7 := f6.trans e7
    refine w7.meth (w7.meth ⟨o, row, r7, rfl, w7, k7.turn f7 fun t r8 m8 k8 v8 H8 e8 w8 rp8 => ?_⟩)
    obtain rfl : v8 = .int t := rp8
    have f8 := f7.trans e8
    refine ⟨o, row, r8, t, rfl, mTurn_ok m8, w8, k8.step f8 fun q r9 m9 k9 v9 H9 e9 w9 rp9 => ?_⟩
    have f9 := f8.trans e9
    refine ⟨sz3 (Nat.le_of_ble_eq_true rfl), ?_⟩
    (intro p10 hp10; generalize hg0 : upd _ p10 _ = H10; obtain ⟨e10, h10⟩ := upd_ex hp10 hg0; clear hg0)
    exact k9.1 _ _ rfl _ H10 (f9.trans e10.nin) (w9.all e10) (.tup f9 hp10 h10 (.cons .str (.cons .int (.cons .str (.cons .str (.cons .int (.cons (DpF.kp (DpF.base rp9 f8) e10.nin) .nil)))))))
abbrev N_take_step : List Str := ["walk", "row", "moment", "left", "sign", "right"]
abbrev P_take_step : List Str := ["walk", "row"]
theorem sc_take_step : FnScope N_take_step P_take_step (defScope s_take_step) := ⟨rfl, rfl, rfl, by decide +kernel, rfl, by decide +kernel, by decide +kernel⟩
theorem ok_take_step (T : Tx w K mg) : Cl P w K mg base 8 "take_step" P_take_step (spRow K mStep) := by
  refine Cl.mk T.d_take_step rfl T.g_take_step sc_take_step (fun _ _ _ _ _ _ us hl => match us, hl with | [_, _], _ => rfl) (fun vs H Q E h => ?_) (fun cdv A outer s H vs Q E hr h => ?_)
  · obtain ⟨_, _, _, rfl, _⟩ := h
    rfl
  · obtain ⟨o, row, rest, rfl, ho, k⟩ := h
    refine ⟨_, (pss_cons (ps_set (i := 2) sc_take_step.nd rfl (Or.inl rfl) (pe_mtX0 (ok_Walk_take_number T) T.wCls T.m_take_number hr (by decide) (takes_of rfl rfl rfl rfl) (pv 0)))
      (pss_cons (ps_expr (pe_mtX (ok_Walk_take_one T) T.wCls T.m_take_one hr (by decide) (takes_of rfl rfl rfl rfl) (pv 0) (pa_cons (pe_tup (pa_cons pe_str pa_nil)) pa_nil)))
      (pss_cons (ps_asg (pe_fnX (ok_take_comparison T) hr (by decide) (takes_of rfl rfl rfl rfl) (by rfl) (pa_cons (pv 0) (pa_cons pe_str pa_nil))) (pg_tup (n := 3) rfl (pgs_cons (pg_name (i := 3) sc_take_step.nd rfl (Or.inl rfl)) (pgs_cons (pg_name (i := 4) sc_take_step.nd rfl (Or.inl rfl)) (pgs_cons (pg_name (i := 5) sc_take_step.nd rfl (Or.inl rfl)) pgs_nil)))))
      (pss_one (ps_ret (pe_tup (pa_cons pe_str (pa_cons (pv 1) (pa_cons (pv 2) (pa_cons (pv 3) (pa_cons (pv 4) (pa_cons (pv 5) pa_nil)))))))))))), ?_⟩
    walk_at "st"
    walk_at "wp"
    unfold mStep at k
    refine ho.meth ⟨o, row, rest, rfl, ho, k.step (Kp.refl H) fun mo r1 m1 k1 v1 H1 e1 w1 rp1 => ?_⟩
    obtain rfl : v1 = .int mo := rp1
    refine w1.meth ⟨sz3 (Nat.le_of_ble_eq_true rfl), ?_⟩
    (intro p2 hp2; generalize hg0 : upd _ p2 _ = H2; obtain ⟨e2, h2⟩ := upd_ex hp2 hg0; clear hg0)
    have f2 := e1.trans e2.nin
    refine ⟨o, row, r1, p2, [":"], rfl, w1.all e2, sqT h2, by decide +kernel, k1.step f2 fun _ r3 m3 k3 v3 H3 e3 w3 rp3 => ?_⟩
    have f3 := f2.trans e3
    refine ⟨o, row, r3, "step", rfl, w3, k3.step f3 fun c r4 m4 k4 v4 H4 e4 w4 ⟨p4, l4, x4, ev4, h4, dl, dr⟩ => ?_⟩
    subst ev4
    have f4 := f3.trans e4
    refine st_tup3 (sqT h4) ?_
    walk_at "wp"
    refine ⟨sz3 (Nat.le_of_ble_eq_true rfl), ?_⟩
    (intro p5 hp5; generalize hg0 : upd _ p5 _ = H5; obtain ⟨e5, h5⟩ := upd_ex hp5 hg0; clear hg0)
    exact k4.1 _ _ rfl _ H5 (f4.trans e5.nin) (w4.all e5) (.tup f4 hp5 h5 (.cons .str (.cons .int (.cons .int (.cons ((dl.base f3).kp e5.nin) (.cons .str (.cons ((dr.base f3).kp e5.nin) .nil)))))))
abbrev N_take_rest : List Str := ["walk", "row", "head", "kinds", "left", "sign", "right"]
abbrev P_take_rest : List Str := ["walk", "row", "head"]
theorem sc_take_rest : FnScope N_take_rest P_take_rest (defScope s_take_rest) := ⟨rfl, rfl, rfl, by decide +kernel, rfl, by decide +kernel, by decide +kernel⟩
theorem ok_take_rest (T : Tx w K mg) : Cl P w K mg base 9 "take_rest" P_take_rest (spRest K) := by
  refine Cl.mk T.d_take_rest rfl T.g_take_rest sc_take_rest (fun _ _ _ _ _ _ us hl => match us, hl with | [_, _, _], _ => rfl) (fun vs H Q E h => ?_) (fun cdv A outer s H vs Q E hr h => ?_)
  · obtain ⟨_, _, _, _, rfl, _⟩ := h
    rfl
  · obtain ⟨o, row, rest, h, rfl, hh, ho, k⟩ := h
    refine ⟨_, (pss_cons (ps_if (pt_cmpR op_eq (pv 2) pe_str (nomark _)) (pss_one (ps_ret (pe_fnX (ok_take_unknowns T) hr (by decide) (takes_of rfl rfl rfl rfl) (by rfl) (pa_cons (pv 0) (pa_cons (pv 1) pa_nil))))) pss_nil)
      (pss_cons (ps_if (pt_cmpR op_eq (pv 2) pe_str (nomark _)) (pss_one (ps_ret (pe_tup (pa_cons pe_str (pa_cons (pv 1) (pa_cons (pe_mtX0 (ok_Walk_take_number T) T.wCls T.m_take_number hr (by decide) (takes_of rfl rfl rfl rfl) (pv 0)) pa_nil)))))) pss_nil)
      (pss_cons (ps_if (pt_cmpR op_eq (pv 2) pe_str (nomark _)) (pss_one (ps_ret (pe_fnX (ok_take_step T) hr (by decide) (takes_of rfl rfl rfl rfl) (by rfl) (pa_cons (pv 0) (pa_cons (pv 1) pa_nil))))) pss_nil)
      (pss_cons (ps_if (pt_cmpR op_eq (pv 2) pe_str (nomark _)) (pss_one (ps_ret (pe_fnX (ok_take_sensor T) hr (by decide) (takes_of rfl rfl rfl rfl) (by rfl) (pa_cons (pv 0) (pa_cons (pv 1) pa_nil))))) pss_nil)
      (pss_cons (ps_if (pt_cmpR op_eq (pv 2) pe_str (nomark _)) (pss_one (ps_ret (pe_fnX (ok_take_reading T) hr (by decide) (takes_of rfl rfl rfl rfl) (by rfl) (pa_cons (pv 0) (pa_cons (pv 1) pa_nil))))) pss_nil)
      (pss_cons (ps_if (pt_cmpR op_eq (pv 2) pe_str (nomark _)) (pss_one (ps_ret (pe_tup (pa_cons pe_str (pa_cons (pv 1) (pa_cons (pe_mtX0 (ok_Walk_take_name T) T.wCls T.m_take_name hr (by decide) (takes_of rfl rfl rfl rfl) (pv 0)) pa_nil)))))) pss_nil)
      (pss_cons (ps_set (i := 3) sc_take_rest.nd rfl (Or.inl rfl) (pe_disp (pps_cons pe_str pe_str (pps_cons pe_str pe_str (pps_cons pe_str pe_str pps_nil))) (by rfl) (by rfl) (fun z => by cases z) (by decide)))
      (pss_cons (ps_asg (pe_fnX (ok_take_comparison T) hr (by decide) (takes_of rfl rfl rfl rfl) (by rfl) (pa_cons (pv 0) (pa_cons (pe_dget (hu_of hr) (pv 3) (pv 2) (fun _ _ => rfl)) pa_nil))) (pg_tup (n := 3) rfl (pgs_cons (pg_name (i := 4) sc_take_rest.nd rfl (Or.inl rfl)) (pgs_cons (pg_name (i := 5) sc_take_rest.nd rfl (Or.inl rfl)) (pgs_cons (pg_name (i := 6) sc_take_rest.nd rfl (Or.inl rfl)) pgs_nil)))))
      (pss_one (ps_ret (pe_tup (pa_cons (pv 2) (pa_cons (pv 1) (pa_cons (pv 4) (pa_cons (pv 5) (pa_cons (pv 6) pa_nil)))))))))))))))), ?_⟩
    walk_at "st"
    walk_at "wp"
    unfold mRest at k
    by_cases c1 : h = "unknowns"
    · rw [if_pos c1] at k ⊢
      exact ⟨o, row, rest, rfl, ho, k⟩
    rw [if_neg c1] at k ⊢
    by_cases c2 : h = "moments"
    · rw [if_pos c2] at k ⊢
      refine ho.meth ⟨o, row, rest, rfl, ho, k.step (Kp.refl H) fun mo r1 m1 k1 v1 H1 e1 w1 rp1 => ?_⟩
      obtain rfl : v1 = .int mo := rp1
      refine ⟨sz3 (Nat.le_of_ble_eq_true rfl), ?_⟩
      (intro p5 hp5; generalize hg0 : upd _ p5 _ = H5; obtain ⟨e5, h5⟩ := upd_ex hp5 hg0; clear hg0)
      exact k1.1 _ _ rfl _ H5 (e1.trans e5.nin) (w1.all e5) (.tup e1 hp5 h5 (.cons .str (.cons .int (.cons .int .nil))))
    rw [if_neg c2] at k ⊢
    by_cases c3 : h = "step"
    · rw [if_pos c3] at k ⊢
      exact ⟨o, row, rest, rfl, ho, k⟩
    rw [if_neg c3] at k ⊢
    by_cases c4 : h = "sensor"
    · rw [if_pos c4] at k ⊢
      exact ⟨o, row, rest, rfl, ho, k⟩
    rw [if_neg c4] at k ⊢
    by_cases c5 : h = "reading"
    · rw [if_pos c5] at k ⊢
      exact ⟨o, row, rest, rfl, ho, k⟩
    rw [if_neg c5] at k ⊢
    by_cases c6 : h = "back"
    · rw [if_pos c6] at k ⊢
      refine ho.meth ⟨o, row, rest, rfl, ho, k.step (Kp.refl H) fun mo r1 m1 k1 v1 H1 e1 w1 rp1 => ?_⟩
      obtain rfl : v1 = .str mo := rp1
      refine ⟨sz3 (Nat.le_of_ble_eq_true rfl), ?_⟩
      (intro p5 hp5; generalize hg0 : upd _ p5 _ = H5; obtain ⟨e5, h5⟩ := upd_ex hp5 hg0; clear hg0)
      exact k1.1 _ _ rfl _ H5 (e1.trans e5.nin) (w1.all e5) (.tup e1 hp5 h5 (.cons .str (.cons .int (.cons .str .nil))))
    rw [if_neg c6] at k ⊢
    have kinds : h = "start" ∨ h = "steps" ∨ h = "ask" := by
      have h2 := hh
      unfold K31.heads at h2
      simp only [List.mem_cons, List.not_mem_nil, or_false] at h2
      rcases h2 with h2 | h2 | h2 | h2 | h2 | h2 | h2 | h2 | h2
      · exact absurd h2 c1
      · exact absurd h2 c2
      · exact .inl h2
      · exact absurd h2 c3
      · exact .inr (.inl h2)
      · exact absurd h2 c4
      · exact absurd h2 c5
      · exact absurd h2 c6
      · exact .inr (.inr h2)
    have hv : valV (mergeK [] [((Sum.inr "start" : Key), V.str "one"), (Sum.inr "steps", .str "step"), (Sum.inr "ask", .str "ask")]) (Sum.inr h) = some (V.str (kindOf h)) := by
      rcases kinds with rfl | rfl | rfl <;> decide +kernel
    intro d hd
    refine ⟨upd_same, [((Sum.inr "start" : Key), V.str "one"), (Sum.inr "steps", .str "step"), (Sum.inr "ask", .str "ask")], rfl, Nat.le_of_ble_eq_true rfl, ?_⟩
    rw [upd_upd]
    generalize hg0 : upd H d _ = H1
    obtain ⟨e1, h1⟩ := upd_ex hd hg0
    refine ⟨_, rfl, _, rfl, d, .str (kindOf h), rfl, by rw [← hv]; exact DGet.k (k := Sum.inr h) h1, ?_⟩
    refine ⟨o, row, rest, kindOf h, rfl, ho.all e1, k.step e1.nin fun c r2 m2 k2 v2 H2 e2 w2 ⟨p2, l2, x2, ev2, h2, dl, dr⟩ => ?_⟩
    subst ev2
    have f2 := e1.nin.trans e2
    refine st_tup3 (sqT h2) ?_
    walk_at "wp"
    refine ⟨sz3 (Nat.le_of_ble_eq_true rfl), ?_⟩
    (intro p5 hp5; generalize hg0 : upd _ p5 _ = H5; obtain ⟨e5, h5⟩ := upd_ex hp5 hg0; clear hg0)
    exact k2.1 _ _ rfl _ H5 (f2.trans e5.nin) (w2.all e5) (.tup f2 hp5 h5 (.cons .str (.cons .int (.cons ((dl.base e1.nin).kp e5.nin) (.cons .str (.cons ((dr.base e1.nin).kp e5.nin) .nil))))))
abbrev N_statement_of : List Str := ["row", "words", "walk", "told"]
abbrev P_statement_of : List Str := ["row", "words"]
theorem sc_statement_of : FnScope N_statement_of P_statement_of (defScope s_statement_of) := ⟨rfl, rfl, rfl, by decide +kernel, rfl, by decide +kernel, by decide +kernel⟩
theorem ok_statement_of (T : Tx w K mg) : Cl P w K mg base 10 "statement_of" P_statement_of (spStat K) := by
  refine Cl.mk T.d_statement_of rfl T.g_statement_of sc_statement_of (fun _ _ _ _ _ _ us hl => match us, hl with | [_, _], _ => rfl) (fun vs H Q E h => ?_) (fun cdv A outer s H vs Q E hr h => ?_)
  · obtain ⟨_, _, _, rfl, _⟩ := h
    rfl
  · obtain ⟨a, row, rest, rfl, ha, hg, k1, k2⟩ := h
    refine ⟨_, (pss_cons (ps_set (i := 2) sc_statement_of.nd rfl (Or.inl rfl) (pe_mkW (ok_Walk_init T) T.wMk T.g_Walk hr (by decide) (by rfl) (pa_cons (pv 0) (pa_cons (pv 1) pa_nil))))
      (pss_cons (ps_set (i := 3) sc_statement_of.nd rfl (Or.inl rfl) (pe_fnX (ok_take_rest T) hr (by decide) (takes_of rfl rfl rfl rfl) (by rfl) (pa_cons (pv 2) (pa_cons (pv 0) (pa_cons (pe_mtX (ok_Walk_take_one T) T.wCls T.m_take_one hr (by decide) (takes_of rfl rfl rfl rfl) (pv 2) (pa_cons (pe_glob (v := V.ref (He.ga K "HEADS")) (by rfl) T.g_HEADS rfl) pa_nil)) pa_nil)))))
      (pss_cons (ps_expr (pe_mtX0 (ok_Walk_take_end T) T.wCls T.m_take_end hr (by decide) (takes_of rfl rfl rfl rfl) (pv 2)))
      (pss_one (ps_ret (pv 3)))))), ?_⟩
    walk_at "st"
    walk_at "wp"
    refine ⟨_, rfl, _, rfl, fun x dx hx hdx ne => ⟨x, a, dx, row, rfl, upd_same, fun H1 hb hw => ⟨rfl, _, rfl, ?_⟩⟩⟩
    have e1 : Kp AllS H H1 := fun b u hu _ => by
      have nx := ne_of_none hu hx
      rw [hb b nx, upd_ne nx, upd_ne (ne_of_none hu hdx)]
      exact hu
    have w1 : WS K H1 x (row, a) rest := ⟨dx, 0, rest, hw, ha.all e1, rfl, hg⟩
    have k : Out K H x (row, a) (mStat row rest) (repD K) Q E := ⟨fun y r e v H' e2 _ rp => k1 y r e v H' e2 rp, k2⟩
    unfold mStat at k
    refine w1.meth ⟨x, (row, a), rest, _, K31.heads, rfl, w1, T.heads H1, by decide +kernel, k.step e1.nin fun hd r2 m2 k2 v2 H2 e2 w2 rp2 => ?_⟩
    obtain rfl : v2 = .str hd := rp2
    have f2 := e1.nin.trans e2
    refine ⟨x, (row, a), r2, hd, rfl, mOne_in m2, w2, k2.step f2 fun d r3 m3 k3 v3 H3 e3 w3 rp3 => ⟨x, rfl, ?_⟩⟩
    have f3 := f2.trans e3
    refine w3.meth ⟨x, (row, a), r3, rfl, w3, k3.step f3 fun _ r4 m4 k4 v4 H4 e4 w4 rp4 => ?_⟩
    exact k4.1 _ _ rfl _ H4 (f3.trans e4) w4 (DpF.kp (DpF.base rp3 f2) e4)
abbrev N_statements : List Str := ["text", "told", "row", "words"]
abbrev P_statements : List Str := ["text"]
theorem sc_statements : FnScope N_statements P_statements (defScope s_statements) := ⟨rfl, rfl, rfl, by decide +kernel, rfl, by decide +kernel, by decide +kernel⟩
theorem ok_statements (T : Tx w K mg) : Cl P w K mg base 11 "statements" P_statements (spAll K) := by
  refine Cl.mk T.d_statements rfl T.g_statements sc_statements (fun _ _ _ _ _ _ us hl => match us, hl with | [_], _ => rfl) (fun vs H Q E h => ?_) (fun cdv A outer s H vs Q E hr h => ?_)
  · obtain ⟨_, _, rfl, _⟩ := h
    rfl
  · obtain ⟨z, rows, rfl, hz, hg, k1, k2⟩ := h
    refine ⟨_, (pss_cons (ps_set (i := 1) sc_statements.nd rfl (Or.inl rfl) (pe_lst pa_nil))
      (pss_cons (ps_set (i := 2) sc_statements.nd rfl (Or.inl rfl) pe_int)
      (pss_cons (ps_for (passes_of rfl) rfl (pi_list (pe_fn (ok_lines T) hr (by decide) (by rfl) (pa_cons (pv 0) pa_nil))) (pg_name (i := 3) sc_statements.nd rfl (Or.inl rfl)) (pss_cons (ps_aug (i := 2) sc_statements.nd rfl (Or.inl rfl) pe_int ip_add)
      (pss_one (ps_if (pt_cmpR op_gt (pe_callB call_len_seq (by rfl) T.f_len PySem.boot_len (pa_cons (pv 3) pa_nil)) pe_int (nomark _)) (pss_one (ps_expr (pe_bm PySem.F.plainAttrs_list PySem.F.slot_list_append PySem.F.type_list_append mt_append (pv 1) (pa_cons (pe_fnX (ok_statement_of T) hr (by decide) (takes_of rfl rfl rfl rfl) (by rfl) (pa_cons (pv 2) (pa_cons (pv 3) pa_nil))) pa_nil)))) pss_nil))))
      (pss_one (ps_ret (pv 1)))))), ?_⟩
    walk_at "st"
    walk_at "wp"
    refine ⟨sz3 (Nat.le_of_ble_eq_true rfl), ?_⟩
    (intro D hD; generalize hg0 : upd _ D _ = H1; obtain ⟨e1, h1⟩ := upd_ex hD hg0; clear hg0)
    refine ⟨_, rfl, z, rows, rfl, hz, fun r H2 hr2 e2 ⟨vr, hv, fv⟩ => ⟨r, rfl, ⟨_, sqS hv⟩, ?_⟩⟩
    have hD2 := e2 _ _ h1 trivial
    have nr : r ≠ D := fun e => by rw [e, h1] at hr2; cases hr2
    have fh : F2 (fun v l => ∃ p, v = V.ref p ∧ RowAt (hid D H2) p l ∧ Good l) vr rows := F2.memImp (fun v l m ⟨p, ev, h⟩ => ⟨p, ev, h.hideD (hg l m).ne hD2, hg l m⟩) fv
    obtain ⟨Pv, hP⟩ := mkI fun (i : Nat) σ H3 => ∃ (o : Option V) (vs : List V) (acc : List PyData), σ = [some (V.str z), some (V.ref D), some (V.int (i : Nat)), o] ∧ Kp NoIns (hid D H2) (hid D H3) ∧ H3 D = some (.lst vs) ∧ DpAll K (hidB H2 H3) vs acc ∧ vs.length ≤ i ∧ mAll i acc (rows.drop i) = mAll 0 [] rows
    refine for_list (xs := vr) Pv ((hP _ _ _).mpr ⟨none, [], [], rfl, Kp.refl _, hD2, .nil, Nat.le_refl _, rfl⟩) (fun i σ H3 _ p => ?_) (fun i x σ H3 hx p => ?_) (fun σ H3 p => ?_)
    · obtain ⟨_, _, _, _, e3, _⟩ := (hP _ _ _).mp p
      have h4 : hid D H2 r = some (.lst vr) := by rw [hid_ne nr]; exact hv
      exact sqS (Kp.unhid (D := D) _ _ (e3 _ _ h4 fun _ _ _ z => by cases z) trivial)
    · obtain ⟨o, vs, acc, rfl, e3, h3, d3, l3, hb⟩ := (hP _ _ _).mp p
      obtain ⟨b, hbx, p5, rfl, ro5, gb⟩ := fh.get' hx
      obtain ⟨c, rr, g1, g2, g3⟩ := drop_at (l := rows) (k := i) (List.getElem?_eq_some_iff.mp hbx).1
      obtain rfl : b = c := Option.some.inj (hbx.symm.trans g2)
      have ro3 : RowAt H3 p5 b := (ro5.noIns e3).all Kp.unhid
      have il : i < rows.length := (List.getElem?_eq_some_iff.mp hbx).1
      have rl : rows.length ≤ 50000 := by
        have := hz.2.2.2.len
        have := hz.2.1
        omega
      obtain ⟨vs5, h5, f5⟩ := id ro3
      have e03 : Kp NoIns H H3 := fun a u ha s => by
        have na : a ≠ D := ne_of_none ha hD
        have h6 : hid D H2 a = some u := by rw [hid_ne na]; exact e2 _ _ (e1 _ _ ha trivial) trivial
        exact Kp.unhid (D := D) _ _ (e3 _ _ h6 s) trivial
      have e23 : Kp NoIns H2 H3 ∨ True := .inr trivial
      rw [g1, mAll] at hb
      walk_at "wp"
      refine ⟨_, rfl, _, _, rfl, rfl, ?_⟩
      walk_at "wp"
      refine ⟨vs5, .inl (sqS h5), ?_⟩
      rw [f5.len]
      have ei : ((i : Nat) : Int) + 1 = ((i + 1 : Nat) : Int) := by omega
      rw [ei]
      by_cases c1 : 1 < b.length
      · rw [if_pos c1] at hb
        rw [if_pos (by omega)]
        refine ⟨st_tyL h3, p5, i + 1, b, rfl, ro3, gb, fun x r4 m4 v4 H4 e4 d4 => ?_, fun s4 m4 d H4 e4 hd => ?_⟩
        · have h4 := e4 _ _ h3 fun _ _ _ z => by cases z
          refine st_app h4 (by omega) ((hP _ _ _).mpr ⟨_, vs ++ [v4], acc ++ [x], rfl, ?_, upd_same, ?_, by rw [List.length_append, List.length_singleton]; omega, ?_⟩)
          · rw [hid_upd]
            exact e3.trans (Kp.hid2 e4)
          · rw [hidB_updK hD2 fun _ _ _ z => by cases z]
            refine dpAll_snoc ((hidB_kp e4).dpAll d3) (Kp.dp (hidB_dom fun a o ha s => ?_).all d4)
            by_cases na : a = D
            · exact ⟨_, by rw [na]; exact h3, fun _ _ _ z => by cases z⟩
            · have h6 : hid D H2 a = some o := by rw [hid_ne na]; exact ha
              exact ⟨o, Kp.unhid (D := D) _ _ (e3 _ _ h6 s) trivial, s⟩
          · rw [m4] at hb
            rw [g3]
            exact hb
        · rw [m4] at hb
          exact k2 _ hb.symm d H4 (e03.trans e4) hd
      · rw [if_neg c1] at hb
        rw [if_neg (by omega)]
        exact (hP _ _ _).mpr ⟨_, vs, acc, rfl, e3, h3, d3, by omega, by rw [g3]; exact hb⟩
    · obtain ⟨o, vs, acc, rfl, e3, h3, d3, l3, hb⟩ := (hP _ _ _).mp p
      rw [fh.len, List.drop_length, mAll] at hb
      have e03 : Kp NoIns H H3 := fun a u ha s => by
        have na : a ≠ D := ne_of_none ha hD
        have h6 : hid D H2 a = some u := by rw [hid_ne na]; exact e2 _ _ (e1 _ _ ha trivial) trivial
        exact Kp.unhid (D := D) _ _ (e3 _ _ h6 s) trivial
      exact ⟨_, rfl, k1 acc hb.symm D vs H3 e03 (fun o ho => by rw [hD] at ho; cases ho) h3 (Kp.dpAll (hidB_D hD2 fun _ _ _ z => by cases z).all d3)⟩
end
end K31
set_option Elab.async false
set_option linter.all false
set_option maxRecDepth 100000
set_option maxHeartbeats 4000000
namespace K31
open PySem PySem.Spec PyProof.Rows L2
/-! rules that the layer lacks: a text times a number; xs[i] op= e; pots, words of the law's generator -/
section
variable {X : Cx}
def rRepS : R2 := fun x y H Q => ∃ z n, x = .str z ∧ y = .int n ∧ MulOk z n ∧ Q (.str (Txt.mul z n)) H
theorem op_repS : OpR X (binaryOp .Mult) rRepS := by
  intro pins s σ H x y v u Q I rx ry h
  obtain ⟨z, n, rfl, rfl, hm, q⟩ := h
  obtain ⟨t, rfl⟩ := rx
  obtain ⟨t', rfl⟩ := ry
  exact SB.mul hm fun t2 k => ⟨.str _, H, I.tok k, ⟨t2, rfl⟩, q⟩
/-- xs[i], 0 ≤ i, for xs[i] op= e -/
theorem get_list : PGet X (rIxL X.K) := by
  intro pins s σ H o i ov iv Q I ro ri h
  obtain ⟨p, xs, i, z, rfl, rfl, hq, he, q⟩ := h
  cases ro
  obtain ⟨t, rfl⟩ := ri
  obtain ⟨its, r, pl, hz⟩ := I.list hq
  obtain ⟨j, h1, h2, h3, h4, h5⟩ := atI_get he
  obtain ⟨w, ew, rw'⟩ := r.get h2
  have hl := r.length
  have hn := line63
  have fin : EP X pins σ Q w s := ⟨z, H, I, rw', q⟩
  by_cases h0 : 0 ≤ i
  · have hj : i.toNat = j := by
      rw [seqIndex_of h0 h5] at h1
      exact Option.some.inj h1
    exact wpAny_getItem_list pl.isList h0 (by omega) (by rw [hj]; simpa using ew) fin
  · have hj : (i + (its.toArray.size : Int)).toNat = j := by
      rw [seqIndex_neg (by omega) h4] at h1
      rw [List.size_toArray, ← hl]
      exact Option.some.inj h1
    exact wpAny_getItem_list_neg pl.isList (by omega) (by rw [List.size_toArray] <;> omega) (by omega) (by rw [hj]; simpa using ew) fin
end
/-! ### pots -/
/-- no list of three whole numbers: what a draw leaves as it was -/
def PotS : HO → Prop := fun o => ∀ a b c, o ≠ .lst [.int a, .int b, .int c]
def PotAt (H : Hp) (p : Addr) : Prop := ∃ a b c : Int, H p = some (.lst [.int a, .int b, .int c]) ∧ 0 ≤ b ∧ b < 2 ^ 32
theorem PotAt.all {H H' : Hp} {p : Addr} (h : PotAt H p) (e : Kp AllS H H') : PotAt H' p := by
  obtain ⟨a, b, c, h, k⟩ := h
  exact ⟨a, b, c, e _ _ h trivial, k⟩
theorem potT {xs : List V} : PotS (.tup xs) := fun _ _ _ z => by cases z
theorem potN {xs : List V} (h : xs.length ≠ 3) : PotS (.lst xs) := fun _ _ _ z => by
  cases z
  exact h rfl
theorem potI {v : V} {vs : List V} (h : ∀ i, v ≠ .int i) : PotS (.lst (v :: vs)) := fun _ _ _ z => by
  cases z
  exact h _ rfl
theorem potW (ws : List Str) : PotS (.lst (ws.map V.str)) := by
  cases ws with
  | nil => exact potN (by decide)
  | cons w ws => exact potI fun i z => by cases z
theorem potR {H : Hp} {vs : List V} {l : List (Nat × Str)} (h : F2 (TokAt H) vs l) : PotS (.lst vs) := by
  cases h with
  | nil => exact potN (by decide)
  | cons h r =>
    obtain ⟨p, rfl, _⟩ := h
    exact potI fun i z => by cases z
theorem Kp.pot {H H' : Hp} (e : Kp AllS H H') : Kp PotS H H' := e.all
theorem WordsAt.pot {H H' : Hp} {a : Addr} {ws : List Str} (h : WordsAt H a ws) (e : Kp PotS H H') : WordsAt H' a ws := e _ _ h (potW ws)
theorem WordsAt.all {H H' : Hp} {a : Addr} {ws : List Str} (h : WordsAt H a ws) (e : Kp AllS H H') : WordsAt H' a ws := e _ _ h trivial
theorem RowAt.pot {H H' : Hp} {a : Addr} {l : List (Nat × Str)} (h : RowAt H a l) (e : Kp PotS H H') : RowAt H' a l := h.kp e (fun _ => potT) fun _ _ => potR
/-- a pot changed: the rest stays -/
theorem Kp.potUpd {H H' : Hp} {p : Addr} {a b c : Int} {u : HO} (e : Kp PotS H H') (h : H' p = some (.lst [.int a, .int b, .int c])) : Kp PotS H (L2.upd H' p u) := e.mutS h fun z => z _ _ _ rfl
theorem Kp.mutP {H H1 H3 : Hp} {p : Addr} {u : HO} (e : Kp PotS H H1) (hp : H1 p = Option.none) (e3 : Kp PotS H H3) : Kp PotS H (L2.upd H3 p u) := fun a o ha s => by
  rw [upd_ne (ne_of_none (e a o ha s) hp)]
  exact e3 a o ha s
theorem PotAt.updL {H : Hp} {p a : Addr} {xs : List V} {u : HO} (h : PotAt H p) (ha : H a = some (.lst xs)) (n : PotS (.lst xs)) : PotAt (L2.upd H a u) p := by
  obtain ⟨x, y, z, h, k⟩ := h
  refine ⟨x, y, z, ?_, k⟩
  rw [upd_ne (fun e => by rw [e, ha] at h; cases h; exact n _ _ _ rfl)]
  exact h
/-! ### the words that are drawn -/
/-- a word that stands by itself in a line -/
def Wd (z : Str) : Bool := (decide (1 ≤ z.length) && (decide (z.length ≤ 101) && z.cps.toList.all isW)) || decide (z ∈ (["+", "-", "=", "<", ":", "/", "'", "(", "A", "<=", ">="] : List Str))
def Gen (ws : List Str) (n : Nat) : Prop := (∀ z ∈ ws, Wd z = true) ∧ ws.length ≤ n
/-- a draw below n -/
def spDraw : Sp := fun vs H Q _ => ∃ (p : Addr) (n : Int), vs = [.ref p, .int n] ∧ 1 ≤ n ∧ n < 2 ^ 20 ∧ PotAt H p ∧ ∀ r H', 0 ≤ r → r < n → Kp PotS H H' → PotAt H' p → Q (.int r) H'
/-- one of some -/
def spPick (K : PySem.W.Frag) : Sp := fun vs H Q _ => ∃ (p : Addr) (s : V), vs = [.ref p, s] ∧ PotAt H p ∧
  ((∃ a xs, s = .ref a ∧ H a = some (.lst xs) ∧ PotS (.lst xs) ∧ 1 ≤ xs.length ∧ xs.length ≤ 1000 ∧ ∀ v H', v ∈ xs → Kp PotS H H' → PotAt H' p → Q v H') ∨
   ∃ z, s = .str z ∧ 1 ≤ z.length ∧ z.length ≤ 1000 ∧ ∀ c H', c ∈ z.cps.toList → Kp PotS H H' → PotAt H' p → Q (.str ⟨#[c]⟩) H')
/-- a word drawn -/
def spW1 : Sp := fun vs H Q _ => ∃ (p : Addr), vs = [.ref p] ∧ PotAt H p ∧ ∀ z H', Wd z = true → Kp PotS H H' → PotAt H' p → Q (.str z) H'
/-- not known before, but perhaps as a pot -/
def Fr (H : Hp) (r : Addr) : Prop := ∀ o, H r = some o → ¬ PotS o
theorem Fr.of {H H' : Hp} {r : Addr} (e : Kp PotS H H') (h : H' r = none) : Fr H r := fun o ho s => by
  rw [e _ _ ho s] at h
  cases h
theorem Fr.base {H H1 : Hp} {r : Addr} (h : Fr H1 r) (e : Kp PotS H H1) : Fr H r := fun o ho s => h o (e _ _ ho s) s
/-- words drawn, in a new list -/
def GenQ (H : Hp) (p : Addr) (n : Nat) (Q : VK) : Prop := ∀ r ws H', Fr H r → Kp PotS H H' → PotAt H' p → WordsAt H' r ws → Gen ws n → Q (.ref r) H'
def spWs (n : Nat) : Sp := fun vs H Q _ => ∃ (p : Addr), vs = [.ref p] ∧ PotAt H p ∧ GenQ H p n Q
def spWsK (n : Nat) : Sp := fun vs H Q _ => ∃ (p : Addr) (k : Str), vs = [.ref p, .str k] ∧ PotAt H p ∧ GenQ H p n Q
end K31
set_option Elab.async false
set_option linter.all false
set_option maxRecDepth 100000
set_option maxHeartbeats 4000000
namespace K31
open PySem PySem.Spec PyProof.Rows L2
/-! the law's generator -/
local macro_rules | `(tactic| walk_at "st") => `(tactic| try simp only [L2.start, List.map_cons, List.map_nil, List.length_cons, List.length_nil, Nat.reduceAdd, Nat.reduceSub, Nat.add_zero, Nat.zero_add, List.replicate, List.cons_append, List.nil_append, List.append_nil])
local macro_rules | `(tactic| walk_at "wp") => `(tactic| try simp only [tSeq, tIfS, tRet, tOr, tAnd, tNot, tTest, tB, tOp, rI0, rI, rU, tCB, tCons, tNil, tVar, tC, tAsg, gName, tNext, tDrop, tOrV, tAndV, tNotV, tIf, tUn, tYes, wipe, tCall, tTup, tLst, tSl, tPart, tNoPart, tM0, tM1, tIsN, tNotN, tChain, tPar, tBM, tFld, tMeth,
  List.getElem?_cons_zero, List.getElem?_cons_succ, Option.some.injEq, exists_eq_left, exists_eq_left', V.str.injEq, V.int.injEq, V.bl.injEq, V.ref.injEq, List.cons.injEq, and_true, true_and, and_self, exists_and_left, exists_and_right, exists_eq_right, exists_eq, exists_const, reduceCtorEq, decide_eq_true_eq, decide_eq_false_iff_not, List.set_cons_zero, List.set_cons_succ, sg_inj, rEq_ss, rNe_ss, rEq_ii, rNe_ii, ↓reduceIte, Bool.false_eq_true, List.nil_append, List.cons_append, List.append_nil, not_true_eq_false, not_false_eq_true, Bool.not_eq_true', Bool.not_true, Bool.not_false, decide_true, decide_false, or_false, false_or, or_true, true_or, false_and, and_false])
def spPot (K : PySem.W.Frag) : Sp := fun vs H Q _ => ∃ (a : Addr) (ns : List Int), vs = [.ref a, .int 0] ∧ SqL K H a (ns.map V.int) ∧ ns.length ≤ 1000 ∧ ∀ r H', H r = none → Kp AllS H H' → PotAt H' r → Q (.ref r) H'
theorem Gen.mk {ws : List Str} {n : Nat} (h : ws.all Wd = true) (l : ws.length ≤ n) : Gen ws n := ⟨fun z hz => List.all_eq_true.mp h z hz, l⟩
theorem Gen.app {xs ys : List Str} {n m k : Nat} (h : Gen xs n) (g : Gen ys m) (l : n + m ≤ k) : Gen (xs ++ ys) k := ⟨fun z hz => by
    rcases List.mem_append.mp hz with hz | hz
    · exact h.1 z hz
    · exact g.1 z hz, by
    have h2 := h.2
    have g2 := g.2
    rw [List.length_append]
    omega⟩
theorem Gen.nil {n : Nat} : Gen [] n := ⟨fun z hz => (by cases hz), Nat.zero_le _⟩
theorem Gen.cons {z : Str} {ws : List Str} {n : Nat} (h : Wd z = true) (g : Gen ws n) : Gen (z :: ws) (n + 1) := ⟨fun y hy => by
    rcases List.mem_cons.mp hy with rfl | hy
    · exact h
    · exact g.1 y hy, Nat.succ_le_succ g.2⟩
theorem Gen.le {ws : List Str} {n m : Nat} (h : Gen ws n) (l : n ≤ m) : Gen ws m := ⟨h.1, Nat.le_trans h.2 l⟩
/-- words and words, in a new list -/
theorem st_catW {H0 H : Hp} {Q : VK} {a b p : Addr} {xs ys : List Str} {n m k : Nat} (e : Kp PotS H0 H) (pt : PotAt H p) (h1 : WordsAt H a xs) (h2 : WordsAt H b ys) (g1 : Gen xs n) (g2 : Gen ys m) (l : n + m ≤ k) (hk : k ≤ 1000)
    (q : ∀ r H', Fr H0 r → Kp PotS H0 H' → Kp AllS H H' → PotAt H' p → WordsAt H' r (xs ++ ys) → Gen (xs ++ ys) k → Q (.ref r) H') : rCat (.ref a) (.ref b) H Q := by
  have l1 := g1.2
  have l2 := g2.2
  refine st_cat h1 h2 (by rw [List.length_map, List.length_map]; omega) fun r H' hr e' h' => ?_
  exact q r H' (Fr.of e hr) (e.trans e'.pot) e' (pt.all e') (by rw [← List.map_append] at h'; exact h') (g1.app g2 l)
theorem mulOk9 : MulOk "9" 100 := by unfold MulOk; decide +kernel
theorem mulOk0 : MulOk "0" 99 := by unfold MulOk; decide +kernel
theorem mulOk7 : MulOk "7" 100 := by unfold MulOk; decide +kernel
theorem mulOk00 : MulOk "0" 100 := by unfold MulOk; decide +kernel
theorem mulOk77 : MulOk "7" 101 := by unfold MulOk; decide +kernel
theorem wd_small : (List.range 40).all (fun n => Wd ("" ++ Str.ofString (toString ((n : Nat) : Int))) && Wd ("0" ++ Str.ofString (toString ((n : Nat) : Int))) && decide ((Str.ofString (toString ((n : Nat) : Int))).length ≤ 10)) = true := by decide +kernel
theorem wd_num {r : Int} (h0 : 0 ≤ r) (h1 : r < 40) : Wd ("" ++ Str.ofString (toString r)) = true ∧ Wd ("0" ++ Str.ofString (toString r)) = true ∧ (Str.ofString (toString r)).length ≤ 10 := by
  obtain ⟨k, rfl⟩ := Int.eq_ofNat_of_zero_le h0
  have h2 := List.all_eq_true.mp wd_small k (List.mem_range.mpr (by omega))
  simp only [Bool.and_eq_true, decide_eq_true_eq] at h2
  exact ⟨h2.1.1, h2.1.2, h2.2⟩
section
variable {P : Program} {w : World} {K : PySem.W.Frag} {mg : Str → Option Value} {base : Heap}
abbrev N_Lpot : List Str := ["_law_script", "_law_k", "_law_cell", "_law_mixed"]
abbrev P_Lpot : List Str := ["_law_script", "_law_k"]
theorem sc_Lpot : FnScope N_Lpot P_Lpot (defScope s_Lpot) := ⟨rfl, rfl, rfl, by decide +kernel, rfl, by decide +kernel, by decide +kernel⟩
theorem ok_Lpot (T : Tx w K mg) : Cl P w K mg base 1 "_law_pot" P_Lpot (spPot K) := by
  refine Cl.mk T.d_Lpot rfl T.g_Lpot sc_Lpot (fun _ _ _ _ _ _ us hl => match us, hl with | [_, _], _ => rfl) (fun vs H Q E h => ?_) (fun cdv A outer s H vs Q E hr h => ?_)
  · obtain ⟨_, _, rfl, _⟩ := h
    rfl
  · obtain ⟨a, ns, rfl, ha, hn, q⟩ := h
    refine ⟨_, (pss_cons (ps_set (i := 2) sc_Lpot.nd rfl (Or.inl rfl) (pe_op op_add (pe_op op_mulX pe_int (pv 1)) pe_int))
      (pss_cons (ps_if (pt_cmpR op_lt (pv 1) (pe_callB call_len_seq (by rfl) T.f_len PySem.boot_len (pa_cons (pv 0) pa_nil)) (nomark _)) (pss_one (ps_set (i := 2) sc_Lpot.nd rfl (Or.inl rfl) (pe_callB call_abs (by rfl) T.f_abs (by decide +kernel) (pa_cons (pe_ix ix_list (pv 0) (pv 1) (fun _ _ => rfl)) pa_nil)))) pss_nil)
      (pss_cons (ps_set (i := 3) sc_Lpot.nd rfl (Or.inl rfl) (pe_op op_mod (pe_callTy call_int1 (by rfl) T.f_int (by decide +kernel) (pa_cons (pe_op op_add (pe_op op_add (pe_op op_mulX (pe_op op_mod (pe_callTy call_int1 (by rfl) T.f_int (by decide +kernel) (pa_cons (pv 2) pa_nil)) pe_int) pe_int) (pe_op op_mulX pe_int (pv 1))) pe_int) pa_nil)) pe_int))
      (pss_one (ps_ret (pe_lst (pa_cons (pe_callB (call_max2 rfl) (by rfl) T.f_max (by decide +kernel) (pa_cons pe_int (pa_cons (pe_op op_sub (pv 2) (pe_op op_pow pe_int pe_int)) pa_nil))) (pa_cons (pe_op op_add (pv 3) pe_int) (pa_cons pe_int pa_nil))))))))), ?_⟩
    walk_at "st"
    refine tSeq_op2 fun R hR => ?_
    walk_at "wp"
    have tail : ∀ c : Int, R [some (V.ref a), some (V.int 0), some (V.int c), none] H := by
      intro c
      refine hR _ _ ?_
      walk_at "wp"
      have b1 : (c % 2147483549).natAbs < 2 ^ 40 := by omega
      refine ⟨by decide, mulx_ok b1 (b := 40) (by decide) (by decide), mulx_ok (a := 20) (b := 20) (by decide) (by decide) (by decide), by decide, ⟨by decide, by decide, by decide⟩, _, _, ⟨rfl, rfl⟩, sz3 (Nat.le_of_ble_eq_true rfl), ?_⟩
      (intro p hp; generalize hg0 : upd _ p _ = H1; obtain ⟨e1, h1⟩ := upd_ex hp hg0; clear hg0)
      exact q p H1 hp e1 ⟨_, _, _, h1, by omega, by omega⟩
    refine ⟨mulx_ok (a := 20) (b := 20) (by decide) (by decide) (by decide), _, .inl ha, ?_⟩
    rw [List.length_map]
    by_cases c1 : (0 : Int) < ns.length
    · rw [if_pos c1]
      cases ns with
      | nil => exact absurd c1 (by simp)
      | cons n ns => exact st_ixL ha (atI_nat (j := 0) rfl) ⟨n, rfl, tail _⟩
    · rw [if_neg c1]
      exact tail _
abbrev N_Ldraw : List Str := ["_law_pot_here", "_law_size", "_law_digit"]
abbrev P_Ldraw : List Str := ["_law_pot_here", "_law_size"]
theorem sc_Ldraw : FnScope N_Ldraw P_Ldraw (defScope s_Ldraw) := ⟨rfl, rfl, rfl, by decide +kernel, rfl, by decide +kernel, by decide +kernel⟩
theorem ok_Ldraw (T : Tx w K mg) : Cl P w K mg base 1 "_law_draw" P_Ldraw (spDraw) := by
  refine Cl.mk T.d_Ldraw rfl T.g_Ldraw sc_Ldraw (fun _ _ _ _ _ _ us hl => match us, hl with | [_, _], _ => rfl) (fun vs H Q E h => ?_) (fun cdv A outer s H vs Q E hr h => ?_)
  · obtain ⟨_, _, rfl, _⟩ := h
    rfl
  · obtain ⟨p, n, rfl, h1, h2, hp, q⟩ := h
    refine ⟨_, (pss_cons (ps_if (pt_cmpR op_gt (pe_ix ix_list (pv 0) pe_int (fun _ _ => rfl)) pe_int (nomark _)) (pss_cons (ps_asg (pe_callB call_divmodW (by rfl) T.f_divmod (by decide +kernel) (pa_cons (pe_ix ix_list (pv 0) pe_int (fun _ _ => rfl)) (pa_cons (pv 1) pa_nil))) (pg_tup (n := 2) rfl (pgs_cons (pg_sub (pv 0) pe_int set_list) (pgs_cons (pg_name (i := 2) sc_Ldraw.nd rfl (Or.inl rfl)) pgs_nil))))
      (pss_one (ps_ret (pv 2)))) pss_nil)
      (pss_cons (ps_asg (pe_op op_mod (pe_callTy call_int1 (by rfl) T.f_int (by decide +kernel) (pa_cons (pe_op op_add (pe_op op_mulX (pe_ix ix_list (pv 0) pe_int (fun _ _ => rfl)) pe_int) pe_int) pa_nil)) pe_int) (pg_sub (pv 0) pe_int set_list))
      (pss_one (ps_ret (pe_op op_mod (pe_callTy call_int1 (by rfl) T.f_int (by decide +kernel) (pa_cons (pe_op op_fdivW (pe_op op_mod (pe_callTy call_int1 (by rfl) T.f_int (by decide +kernel) (pa_cons (pe_op op_mulX (pe_ix ix_list (pv 0) pe_int (fun _ _ => rfl)) (pe_ix ix_list (pv 0) pe_int (fun _ _ => rfl))) pa_nil)) pe_int) pe_int) pa_nil)) (pv 1)))))), ?_⟩
    walk_at "st"
    walk_at "wp"
    obtain ⟨a, b, c, hH, b0, b1⟩ := hp
    refine st_ixL (sqS hH) (atI_nat (j := 0) (List.getElem?_cons_zero)) ?_
    walk_at "wp"
    by_cases c1 : 0 < a
    · rw [if_pos c1]
      refine st_ixL (sqS hH) (atI_nat (j := 0) (List.getElem?_cons_zero)) ?_
      walk_at "wp"
      refine ⟨a, n, ⟨rfl, rfl⟩, ⟨by omega, PyProof.noPylong_small (by omega)⟩, ?_⟩
      (intro t ht; generalize hg0 : upd _ t _ = H1; obtain ⟨e1, h1⟩ := upd_ex ht hg0; clear hg0)
      have hp1 := e1 _ _ hH trivial
      refine ⟨t, _, rfl, sqT h1, rfl, _, _, rfl, _, rfl, p, _, _, 0, rfl, rfl, hp1, rfl, _, _, rfl, rfl, _, rfl, ?_⟩
      exact q _ _ (Int.emod_nonneg _ (by omega)) (Int.emod_lt_of_pos _ (by omega)) (Kp.potUpd e1.pot hp1) ⟨_, b, c, upd_same, b0, b1⟩
    · rw [if_neg c1]
      have bb : b.natAbs < 2 ^ 40 := by omega
      refine st_ixL (sqS hH) (atI_nat (j := 1) rfl) ?_
      refine ⟨b, rfl, mulx_ok bb (b := 40) (by decide) (by decide), by decide, ?_⟩
      generalize hb2 : (b * 40813 + 2213) % 2147483587 = b2
      have b20 : 0 ≤ b2 := by rw [← hb2]; exact Int.emod_nonneg _ (by decide)
      have b21 : b2 < 2147483587 := by rw [← hb2]; exact Int.emod_lt_of_pos _ (by decide)
      have bb2 : b2.natAbs < 2 ^ 40 := by omega
      refine ⟨_, rfl, p, _, _, 1, rfl, rfl, hH, rfl, ?_⟩
      walk_at "wp"
      generalize hg : upd H p _ = H1
      have h1 : H1 p = some (.lst [.int a, .int b2, .int c]) := by rw [← hg]; exact upd_same
      have e1 : Kp PotS H H1 := by rw [← hg]; exact Kp.potUpd (Kp.refl H) hH
      refine st_ixL (sqS h1) (atI_nat (j := 1) rfl) ?_
      walk_at "wp"
      refine st_ixL (sqS h1) (atI_nat (j := 1) rfl) ?_
      refine ⟨b2, rfl, mulx_ok bb2 bb2 (by decide), by decide, ⟨by decide, by decide +kernel⟩, by omega, ?_⟩
      exact q _ H1 (Int.emod_nonneg _ (by omega)) (Int.emod_lt_of_pos _ (by omega)) e1 ⟨a, b2, c, h1, b20, by omega⟩
abbrev N_Lpick : List Str := ["_law_pot_here", "_law_some"]
abbrev P_Lpick : List Str := ["_law_pot_here", "_law_some"]
theorem sc_Lpick : FnScope N_Lpick P_Lpick (defScope s_Lpick) := ⟨rfl, rfl, rfl, by decide +kernel, rfl, by decide +kernel, by decide +kernel⟩
theorem ok_Lpick (T : Tx w K mg) : Cl P w K mg base 2 "_law_pick" P_Lpick (spPick K) := by
  refine Cl.mk T.d_Lpick rfl T.g_Lpick sc_Lpick (fun _ _ _ _ _ _ us hl => match us, hl with | [_, _], _ => rfl) (fun vs H Q E h => ?_) (fun cdv A outer s H vs Q E hr h => ?_)
  · obtain ⟨_, _, rfl, _⟩ := h
    rfl
  · obtain ⟨p, s, rfl, hp, hs⟩ := h
    refine ⟨_, (pss_one (ps_ret (pe_ix ix_seq (pv 1) (pe_fn (ok_Ldraw T) hr (by decide) (by rfl) (pa_cons (pv 0) (pa_cons (pe_callB call_len (by rfl) T.f_len PySem.boot_len (pa_cons (pv 1) pa_nil)) pa_nil))) (fun _ _ => rfl)))), ?_⟩
    walk_at "st"
    walk_at "wp"
    rcases hs with ⟨a, xs, rfl, ha, sa, n1, n2, q⟩ | ⟨z, rfl, n1, n2, q⟩
    · refine ⟨xs.length, .inl ⟨xs, sqS ha, rfl⟩, p, _, rfl, by omega, by omega, hp, fun r H1 r0 r1 e1 p1 => .inl ?_⟩
      obtain ⟨k, rfl⟩ := Int.eq_ofNat_of_zero_le r0
      have hk : k < xs.length := by omega
      exact st_ixL (sqS (e1 _ _ ha sa)) (atI_nat (List.getElem?_eq_getElem hk)) (q _ H1 (List.getElem_mem hk) e1 p1)
    · refine ⟨z.length, ⟨szL (by omega), rfl⟩, p, _, rfl, by omega, by omega, hp, fun r H1 r0 r1 e1 p1 => .inr (.inr ?_)⟩
      obtain ⟨k, rfl⟩ := Int.eq_ofNat_of_zero_le r0
      have hk : k < z.cps.toList.length := by rw [← TL.len_tl]; omega
      exact st_ixS (by omega) (atI_nat (List.getElem?_eq_getElem hk)) (q _ H1 (List.getElem_mem hk) e1 p1)
abbrev N_Lname : List Str := ["_law_pot_here"]
abbrev P_Lname : List Str := ["_law_pot_here"]
theorem sc_Lname : FnScope N_Lname P_Lname (defScope s_Lname) := ⟨rfl, rfl, rfl, by decide +kernel, rfl, by decide +kernel, by decide +kernel⟩
theorem ok_Lname (T : Tx w K mg) : Cl P w K mg base 3 "_law_name" P_Lname (spW1) := by
  refine Cl.mk T.d_Lname rfl T.g_Lname sc_Lname (fun _ _ _ _ _ _ us hl => match us, hl with | [_], _ => rfl) (fun vs H Q E h => ?_) (fun cdv A outer s H vs Q E hr h => ?_)
  · obtain ⟨_, rfl, _⟩ := h
    rfl
  · obtain ⟨p, rfl, hp, q⟩ := h
    refine ⟨_, (pss_cons (ps_if (pt_cmpR op_eq (pe_fn (ok_Ldraw T) hr (by decide) (by rfl) (pa_cons (pv 0) (pa_cons pe_int pa_nil))) pe_int (nomark _)) (pss_one (ps_ret (pe_fn (ok_Lpick T) hr (by decide) (by rfl) (pa_cons (pv 0) (pa_cons (pe_lst (pa_cons pe_str (pa_cons pe_str (pa_cons pe_str (pa_cons pe_str (pa_cons pe_str (pa_cons pe_str (pa_cons pe_str (pa_cons pe_str pa_nil))))))))) pa_nil))))) pss_nil)
      (pss_one (ps_ret (pe_fn (ok_Lpick T) hr (by decide) (by rfl) (pa_cons (pv 0) (pa_cons (pe_lst (pa_cons pe_str (pa_cons pe_str (pa_cons pe_str (pa_cons pe_str (pa_cons pe_str (pa_cons pe_str (pa_cons pe_str (pa_cons pe_str (pa_cons pe_str pa_nil)))))))))) pa_nil)))))), ?_⟩
    walk_at "st"
    walk_at "wp"
    refine ⟨p, _, rfl, by decide, by decide, hp, fun r H1 r0 r1 e1 p1 => ?_⟩
    walk_at "wp"
    have fin : ∀ (ws : List Str) (H2 : Hp) (a : Addr), H2 a = some (.lst (ws.map V.str)) → Kp AllS H1 H2 → 1 ≤ ws.length → ws.length ≤ 1000 → (∀ z ∈ ws, Wd z = true) → spPick K [V.ref p, V.ref a] H2 Q E0 := by
      intro ws H2 a ha e2 n1 n2 hw
      refine ⟨p, _, rfl, p1.all e2, .inl ⟨a, _, rfl, ha, potW ws, by rw [List.length_map]; exact n1, by rw [List.length_map]; exact n2, fun v H3 hv e3 p3 => ?_⟩⟩
      obtain ⟨z, hz, rfl⟩ := List.mem_map.mp hv
      exact q z H3 (hw z hz) ((e1.trans e2.pot).trans e3) p3
    by_cases c1 : r = 0
    · rw [if_pos c1]
      refine ⟨sz3 (Nat.le_of_ble_eq_true rfl), ?_⟩
      (intro a ha; generalize hg0 : upd _ a _ = H2; obtain ⟨e2, h2⟩ := upd_ex ha hg0; clear hg0)
      exact fin ["at", "slack", "abcdefghi", "1a", "start", "ask", "A", "0x"] H2 a h2 e2 (by decide) (by decide) (by decide +kernel)
    · rw [if_neg c1]
      refine ⟨sz3 (Nat.le_of_ble_eq_true rfl), ?_⟩
      (intro a ha; generalize hg0 : upd _ a _ = H2; obtain ⟨e2, h2⟩ := upd_ex ha hg0; clear hg0)
      exact fin ["x", "y", "v2", "r", "abcdefgh", "steps", "z0", "slacks", "a"] H2 a h2 e2 (by decide) (by decide) (by decide +kernel)
abbrev N_Lnumber : List Str := ["_law_pot_here", "_law_some"]
abbrev P_Lnumber : List Str := ["_law_pot_here"]
theorem sc_Lnumber : FnScope N_Lnumber P_Lnumber (defScope s_Lnumber) := ⟨rfl, rfl, rfl, by decide +kernel, rfl, by decide +kernel, by decide +kernel⟩
theorem ok_Lnumber (T : Tx w K mg) : Cl P w K mg base 3 "_law_number" P_Lnumber (spW1) := by
  refine Cl.mk T.d_Lnumber rfl T.g_Lnumber sc_Lnumber (fun _ _ _ _ _ _ us hl => match us, hl with | [_], _ => rfl) (fun vs H Q E h => ?_) (fun cdv A outer s H vs Q E hr h => ?_)
  · obtain ⟨_, rfl, _⟩ := h
    rfl
  · obtain ⟨p, rfl, hp, q⟩ := h
    refine ⟨_, (pss_cons (ps_if ((pw_and (pt_cmpR op_lt (pe_ix ix_list (pv 0) pe_int (fun _ _ => rfl)) pe_int (nomark _)) (pw_and1 (pt_cmpR op_eq (pe_fn (ok_Ldraw T) hr (by decide) (by rfl) (pa_cons (pv 0) (pa_cons pe_int pa_nil))) pe_int (nomark _))))).pt (pss_cons (ps_augS (pv 0) pe_int get_list pe_int ip_add set_list)
      (pss_cons (ps_set (i := 1) sc_Lnumber.nd rfl (Or.inl rfl) (pe_lst (pa_cons pe_str (pa_cons pe_str (pa_cons (pe_op op_repS pe_str pe_int) (pa_cons (pe_op op_add_str (pe_op op_repS pe_str pe_int) pe_str) (pa_cons pe_str (pa_cons (pe_op op_repS pe_str pe_int) pa_nil))))))))
      (pss_one (ps_ret (pe_fn (ok_Lpick T) hr (by decide) (by rfl) (pa_cons (pv 0) (pa_cons (pe_op op_cat (pv 1) (pe_lst (pa_cons (pe_op op_add_str pe_str (pe_op op_repS pe_str pe_int)) (pa_cons (pe_op op_repS pe_str pe_int) pa_nil)))) pa_nil))))))) pss_nil)
      (pss_one (ps_ret (pe_op op_add_str (pe_fn (ok_Lpick T) hr (by decide) (by rfl) (pa_cons (pv 0) (pa_cons (pe_lst (pa_cons pe_str (pa_cons pe_str (pa_cons pe_str pa_nil)))) pa_nil))) (pe_callTy call_str_int (by rfl) T.f_str (by decide +kernel) (pa_cons (pe_fn (ok_Ldraw T) hr (by decide) (by rfl) (pa_cons (pv 0) (pa_cons pe_int pa_nil))) pa_nil)))))), ?_⟩
    walk_at "st"
    refine tSeq_op fun R hR => ?_
    have tail : ∀ H1, Kp PotS H H1 → PotAt H1 p → R [some (V.ref p), none] H1 := by
      intro H1 e1 p1
      refine hR _ _ ?_
      walk_at "wp"
      refine ⟨sz3 (Nat.le_of_ble_eq_true rfl), ?_⟩
      (intro a ha; generalize hg0 : upd _ a _ = H2; obtain ⟨e2, h2⟩ := upd_ex ha hg0; clear hg0)
      refine ⟨p, _, rfl, p1.all e2, .inl ⟨a, _, rfl, h2, potI (fun i z => by cases z), Nat.le_of_ble_eq_true rfl, Nat.le_of_ble_eq_true rfl, fun v H3 hv e3 p3 => ?_⟩⟩
      have f3 := (e1.trans e2.pot).trans e3
      refine ⟨p, _, rfl, by decide, by decide, p3, fun r H4 r0 r1 e4 p4 => ⟨r, rfl, ?_, ?_⟩⟩
      · have := PySem.Flt.log2_lt_of (n := r.natAbs) (k := 6) (by decide) (by omega)
        omega
      obtain ⟨w1, w2, w3⟩ := wd_num r0 r1
      have l0 : Str.length "" = 0 := by decide +kernel
      have l1 : Str.length "0" = 1 := by decide +kernel
      simp only [List.mem_cons, List.not_mem_nil, or_false] at hv
      rcases hv with rfl | rfl | rfl
      · exact ⟨_, rfl, szL (by omega), q _ H4 w1 (f3.trans e4) p4⟩
      · exact ⟨_, rfl, szL (by omega), q _ H4 w1 (f3.trans e4) p4⟩
      · exact ⟨_, rfl, szL (by omega), q _ H4 w2 (f3.trans e4) p4⟩
    walk_at "wp"
    obtain ⟨a, b, c, hH, b0, b1⟩ := hp
    refine st_ixL (sqS hH) (atI_nat (j := 2) rfl) ?_
    refine ⟨c, rfl, ?_⟩
    by_cases c1 : c < 6
    · rw [if_pos c1]
      refine ⟨p, _, rfl, by decide, by decide, ⟨a, b, c, hH, b0, b1⟩, fun r H1 r0 r1 e1 p1 => ?_⟩
      walk_at "wp"
      by_cases c2 : r = 0
      · rw [if_pos c2]
        obtain ⟨a1, b2, c3, h1, b3, b4⟩ := id p1
        refine ⟨_, rfl, p, _, _, _, rfl, rfl, sqS h1, atI_nat (j := 2) rfl, _, _, rfl, rfl, p, _, _, 2, rfl, rfl, h1, rfl, ?_⟩
        walk_at "wp"
        generalize hg : upd H1 p _ = H2
        have h2 : H2 p = some (.lst [.int a1, .int b2, .int (c3 + 1)]) := by rw [← hg]; exact upd_same
        have e2 : Kp PotS H H2 := by rw [← hg]; exact Kp.potUpd e1 h1
        have p2 : PotAt H2 p := ⟨_, _, _, h2, b3, b4⟩
        refine ⟨_, _, rfl, rfl, mulOk9, _, _, rfl, rfl, mulOk0, ?_⟩
        refine ⟨_, rfl, szL (by decide +kernel), _, _, rfl, rfl, mulOk7, sz3 (Nat.le_of_ble_eq_true rfl), ?_⟩
        (intro a3 ha3; generalize hg0 : upd _ a3 _ = H3; obtain ⟨e3, h3⟩ := upd_ex ha3 hg0; clear hg0)
        refine ⟨_, _, rfl, rfl, mulOk00, _, rfl, szL (by decide +kernel), _, _, rfl, rfl, mulOk77, sz3 (Nat.le_of_ble_eq_true rfl), ?_⟩
        (intro a4 ha4; generalize hg0 : upd _ a4 _ = H4; obtain ⟨e4, h4⟩ := upd_ex ha4 hg0; clear hg0)
        refine st_cat (e4 _ _ h3 trivial) h4 (Nat.le_of_ble_eq_true rfl) fun a5 H5 ha5 e5 h5 => ?_
        have f5 := ((e2.trans e3.pot).trans e4.pot).trans e5.pot
        refine ⟨p, _, rfl, ((p2.all e3).all e4).all e5, .inl ⟨a5, _, rfl, h5, potI (fun i z => by cases z), Nat.le_of_ble_eq_true rfl, Nat.le_of_ble_eq_true rfl, fun v H6 hv e6 p6 => ?_⟩⟩
        simp only [List.cons_append, List.nil_append, List.mem_cons, List.not_mem_nil, or_false] at hv
        rcases hv with rfl | rfl | rfl | rfl | rfl | rfl | rfl | rfl <;> exact q _ H6 (by decide +kernel) (f5.trans e6) p6
      · rw [if_neg c2]
        exact tail H1 e1 p1
    · rw [if_neg c1]
      exact tail H (Kp.refl H) ⟨a, b, c, hH, b0, b1⟩
abbrev N_Lterm : List Str := ["_law_pot_here", "_law_kind", "_law_way", "_law_name_here", "_law_words"]
abbrev P_Lterm : List Str := ["_law_pot_here", "_law_kind"]
theorem sc_Lterm : FnScope N_Lterm P_Lterm (defScope s_Lterm) := ⟨rfl, rfl, rfl, by decide +kernel, rfl, by decide +kernel, by decide +kernel⟩
theorem ok_Lterm (T : Tx w K mg) : Cl P w K mg base 4 "_law_term" P_Lterm (spWsK 4) := by
  refine Cl.mk T.d_Lterm rfl T.g_Lterm sc_Lterm (fun _ _ _ _ _ _ us hl => match us, hl with | [_, _], _ => rfl) (fun vs H Q E h => ?_) (fun cdv A outer s H vs Q E hr h => ?_)
  · obtain ⟨_, _, rfl, _⟩ := h
    rfl
  · obtain ⟨p, kd, rfl, hp, q⟩ := h
    refine ⟨_, (pss_cons (ps_par (i := 2) (j := 3) rfl sc_Lterm.nd rfl rfl (by decide) rfl rfl (pa_cons (pe_fn (ok_Ldraw T) hr (by decide) (by rfl) (pa_cons (pv 0) (pa_cons pe_int pa_nil))) (pa_cons (pe_fn (ok_Lname T) hr (by decide) (by rfl) (pa_cons (pv 0) pa_nil)) pa_nil)) (by with_unfolding_all rfl))
      (pss_cons (ps_if ((pw_and (pt_cmpR op_eq (pv 2) pe_int (nomark _)) (pw_and (pt_cmpR op_eq (pv 1) pe_str (nomark _)) (pw_and1 (pt_cmpR op_gt (pe_fn (ok_Ldraw T) hr (by decide) (by rfl) (pa_cons (pv 0) (pa_cons pe_int pa_nil))) pe_int (nomark _)))))).pt (pss_one (ps_set (i := 2) sc_Lterm.nd rfl (Or.inl rfl) pe_int)) pss_nil)
      (pss_cons (ps_set (i := 4) sc_Lterm.nd rfl (Or.inl rfl) (pe_ix ix_list (pe_lst (pa_cons (pe_lst (pa_cons (pe_fn (ok_Lnumber T) hr (by decide) (by rfl) (pa_cons (pv 0) pa_nil)) pa_nil)) (pa_cons (pe_lst (pa_cons (pv 3) pa_nil)) (pa_cons (pe_lst (pa_cons (pe_fn (ok_Lnumber T) hr (by decide) (by rfl) (pa_cons (pv 0) pa_nil)) (pa_cons (pv 3) pa_nil))) (pa_cons (pe_lst (pa_cons (pv 3) pa_nil)) pa_nil))))) (pv 2) (fun _ _ => rfl)))
      (pss_cons (ps_if ((pw_and (pt_cmpR op_eq (pv 2) pe_int (nomark _)) (pw_and1 (pt_cmpR op_ne (pv 1) pe_str (nomark _))))).pt (pss_one (ps_ret (pv 4))) pss_nil)
      (pss_cons (ps_if (pt_cmpR op_eq (pv 1) pe_str (nomark _)) (pss_one (ps_ret (pe_op op_cat (pv 4) (pe_lst (pa_cons pe_str (pa_cons (pe_fn (ok_Lnumber T) hr (by decide) (by rfl) (pa_cons (pv 0) pa_nil)) pa_nil)))))) pss_nil)
      (pss_one (ps_ret (pe_ifExp ((pw_and (pt_cmpR op_eq (pv 1) pe_str (nomark _)) (pw_and1 (pt_cmpR op_eq (pe_fn (ok_Ldraw T) hr (by decide) (by rfl) (pa_cons (pv 0) (pa_cons pe_int pa_nil))) pe_int (nomark _))))).pt (pe_op op_cat (pv 4) (pe_lst (pa_cons pe_str pa_nil))) (pv 4))))))))), ?_⟩
    walk_at "st"
    refine tSeq_op2 fun R hR => ?_
    have tail : ∀ (r : Int) (z : Str) (H1 : Hp), 0 ≤ r → r < 4 → Wd z = true → Kp PotS H H1 → PotAt H1 p → R [some (V.ref p), some (V.str kd), some (V.int r), some (V.str z), none] H1 := by
      intro r z H1 r0 r1 hz e1 p1
      refine hR _ _ ?_
      refine tSeq_op fun R2 hR2 => ?_
      have tail2 : ∀ (a : Addr) (ws : List Str) (H2 : Hp), Fr H a → WordsAt H2 a ws → Gen ws 2 → Kp PotS H H2 → PotAt H2 p → R2 [some (V.ref p), some (V.str kd), some (V.int r), some (V.str z), some (V.ref a)] H2 := by
        intro a ws H2 fa ha hg e2 p2
        refine hR2 _ _ ?_
        refine tSeq_op fun R3 hR3 => ?_
        have tail3 : R3 [some (V.ref p), some (V.str kd), some (V.int r), some (V.str z), some (V.ref a)] H2 := by
          refine hR3 _ _ ?_
          walk_at "wp"
          by_cases c1 : kd = "ask"
          · rw [if_pos c1]
            refine ⟨p, rfl, p2, fun y H3 hy e3 p3 => ⟨sz3 (Nat.le_of_ble_eq_true rfl), ?_⟩⟩
            (intro b hb; generalize hg0 : upd _ b _ = H4; obtain ⟨e4, h4⟩ := upd_ex hb hg0; clear hg0)
            refine st_catW (n := 2) (m := 2) (k := 4) (ys := ["at", y]) ((e2.trans e3).trans e4.pot) (p3.all e4) ((ha.pot e3).all e4) h4 hg (.cons (by decide +kernel) (.cons hy .nil)) (by decide) (by decide) fun r5 H5 f5 e5 _ p5 h5 g5 => ?_
            exact q r5 _ H5 f5 e5 p5 h5 g5
          · rw [if_neg c1]
            by_cases c2 : kd = "step"
            · rw [if_pos c2]
              refine ⟨p, _, rfl, by decide, by decide, p2, fun r3 H3 _ _ e3 p3 => ?_⟩
              walk_at "wp"
              by_cases c3 : r3 = 0
              · rw [if_pos c3]
                refine ⟨sz3 (Nat.le_of_ble_eq_true rfl), ?_⟩
                (intro b hb; generalize hg0 : upd _ b _ = H4; obtain ⟨e4, h4⟩ := upd_ex hb hg0; clear hg0)
                refine st_catW (n := 2) (m := 1) (k := 3) (ys := ["'"]) ((e2.trans e3).trans e4.pot) (p3.all e4) ((ha.pot e3).all e4) h4 hg (.cons (by decide +kernel) .nil) (by decide) (by decide) fun r5 H5 f5 e5 _ p5 h5 g5 => ?_
                exact q r5 _ H5 f5 e5 p5 h5 (g5.le (by decide : 3 ≤ 4))
              · rw [if_neg c3]
                exact q a ws H3 fa (e2.trans e3) p3 (ha.pot e3) (hg.le (by decide))
            · rw [if_neg c2]
              exact q a ws H2 fa e2 p2 ha (hg.le (by decide))
        walk_at "wp"
        by_cases c1 : r = 0
        · rw [if_pos c1]
          by_cases c2 : kd = "sensor"
          · rw [if_neg (not_not_intro c2)]
            exact tail3
          · rw [if_pos c2]
            exact q a ws H2 fa e2 p2 ha (hg.le (by decide))
        · rw [if_neg c1]
          exact tail3
      walk_at "wp"
      refine ⟨p, rfl, p1, fun x H2 hx e2 p2 => ⟨sz3 (Nat.le_of_ble_eq_true rfl), ?_⟩⟩
      have f2 := e1.trans e2
      (intro a1 ha1; generalize hg0 : upd _ a1 _ = H3; obtain ⟨e3, h3⟩ := upd_ex ha1 hg0; clear hg0)
      refine ⟨sz3 (Nat.le_of_ble_eq_true rfl), ?_⟩
      (intro a2 ha2; generalize hg0 : upd _ a2 _ = H4; obtain ⟨e4, h4⟩ := upd_ex ha2 hg0; clear hg0)
      refine ⟨p, rfl, (p2.all e3).all e4, fun y H5 hy e5 p5 => ⟨sz3 (Nat.le_of_ble_eq_true rfl), ?_⟩⟩
      have f5 := ((f2.trans e3.pot).trans e4.pot).trans e5
      (intro a3 ha3; generalize hg0 : upd _ a3 _ = H6; obtain ⟨e6, h6⟩ := upd_ex ha3 hg0; clear hg0)
      refine ⟨sz3 (Nat.le_of_ble_eq_true rfl), ?_⟩
      (intro a4 ha4; generalize hg0 : upd _ a4 _ = H7; obtain ⟨e7, h7⟩ := upd_ex ha4 hg0; clear hg0)
      refine ⟨sz3 (Nat.le_of_ble_eq_true rfl), ?_⟩
      (intro a5 ha5; generalize hg0 : upd _ a5 _ = H8; obtain ⟨e8, h8⟩ := upd_ex ha5 hg0; clear hg0)
      have e68 := (e6.trans e7).trans e8
      have f8 := f5.trans e68.pot
      have p8 := p5.all e68
      have w1 : WordsAt H8 a1 [x] := WordsAt.all (WordsAt.pot (WordsAt.all (show WordsAt H3 a1 [x] from h3) e4) e5) e68
      have w2 : WordsAt H8 a2 [z] := WordsAt.all (WordsAt.pot (show WordsAt H4 a2 [z] from h4) e5) e68
      have w3 : WordsAt H8 a3 [y, z] := WordsAt.all (show WordsAt H6 a3 [y, z] from h6) (e7.trans e8)
      have w4 : WordsAt H8 a4 [z] := WordsAt.all (show WordsAt H7 a4 [z] from h7) e8
      have fr1 : Fr H a1 := Fr.of f2 ha1
      have fr2 : Fr H a2 := Fr.of (f2.trans e3.pot) ha2
      have fr3 : Fr H a3 := Fr.of f5 ha3
      have fr4 : Fr H a4 := Fr.of (f5.trans e6.pot) ha4
      have rr : r = 0 ∨ r = 1 ∨ r = 2 ∨ r = 3 := by omega
      rcases rr with rfl | rfl | rfl | rfl
      · exact st_ixL (sqS h8) (atI_nat (j := 0) rfl) (tail2 a1 _ H8 fr1 w1 ((Gen.cons hx .nil).le (by decide : 1 ≤ 2)) f8 p8)
      · exact st_ixL (sqS h8) (atI_nat (j := 1) rfl) (tail2 a2 _ H8 fr2 w2 ((Gen.cons hz .nil).le (by decide : 1 ≤ 2)) f8 p8)
      · exact st_ixL (sqS h8) (atI_nat (j := 2) rfl) (tail2 a3 _ H8 fr3 w3 (.cons hy (.cons hz .nil)) f8 p8)
      · exact st_ixL (sqS h8) (atI_nat (j := 3) rfl) (tail2 a4 _ H8 fr4 w4 ((Gen.cons hz .nil).le (by decide : 1 ≤ 2)) f8 p8)
    walk_at "wp"
    refine ⟨p, _, rfl, by decide, by decide, hp, fun r H1 r0 r1 e1 p1 => ⟨p, rfl, p1, fun z H2 hz e2 p2 => ⟨_, _, ⟨rfl, rfl⟩, ?_⟩⟩⟩
    have f2 := e1.trans e2
    walk_at "wp"
    by_cases c1 : r = 0
    · rw [if_pos c1]
      by_cases c2 : kd = "sensor"
      · rw [if_pos c2]
        refine ⟨p, _, rfl, by decide, by decide, p2, fun r3 H3 _ _ e3 p3 => ⟨_, rfl, ?_⟩⟩
        by_cases c3 : 0 < r3
        · rw [if_pos c3]
          exact tail 1 z H3 (by decide) (by decide) hz (f2.trans e3) p3
        · rw [if_neg c3]
          exact tail r z H3 r0 r1 hz (f2.trans e3) p3
      · rw [if_neg c2]
        exact tail r z H2 r0 r1 hz f2 p2
    · rw [if_neg c1]
      exact tail r z H2 r0 r1 hz f2 p2
abbrev N_Lform : List Str := ["_law_pot_here", "_law_kind", "_law_words", "_law_turn"]
abbrev P_Lform : List Str := ["_law_pot_here", "_law_kind"]
theorem sc_Lform : FnScope N_Lform P_Lform (defScope s_Lform) := ⟨rfl, rfl, rfl, by decide +kernel, rfl, by decide +kernel, by decide +kernel⟩
theorem ok_Lform (T : Tx w K mg) : Cl P w K mg base 5 "_law_form" P_Lform (spWsK 21) := by
  refine Cl.mk T.d_Lform rfl T.g_Lform sc_Lform (fun _ _ _ _ _ _ us hl => match us, hl with | [_, _], _ => rfl) (fun vs H Q E h => ?_) (fun cdv A outer s H vs Q E hr h => ?_)
  · obtain ⟨_, _, rfl, _⟩ := h
    rfl
  · obtain ⟨p, kd, rfl, hp, q⟩ := h
    refine ⟨_, (pss_cons (ps_set (i := 2) sc_Lform.nd rfl (Or.inl rfl) (pe_ifExp (pt_cmpR op_eq (pe_fn (ok_Ldraw T) hr (by decide) (by rfl) (pa_cons (pv 0) (pa_cons pe_int pa_nil))) pe_int (nomark _)) (pe_lst (pa_cons pe_str pa_nil)) (pe_lst pa_nil)))
      (pss_cons (ps_for (passes_of rfl) rfl (pi_range1 rfl T.f_range (pa_cons (pe_op op_add pe_int (pe_fn (ok_Lpick T) hr (by decide) (by rfl) (pa_cons (pv 0) (pa_cons (pe_lst (pa_cons pe_int (pa_cons pe_int (pa_cons pe_int (pa_cons pe_int (pa_cons pe_int pa_nil)))))) pa_nil)))) pa_nil)) (pg_name (i := 3) sc_Lform.nd rfl (Or.inl rfl)) (pss_one (ps_set (i := 2) sc_Lform.nd rfl (Or.inl rfl) (pe_op op_cat (pe_op op_cat (pv 2) (pe_ifExp (pt_cmpR op_gt (pv 3) pe_int (nomark _)) (pe_lst (pa_cons (pe_fn (ok_Lpick T) hr (by decide) (by rfl) (pa_cons (pv 0) (pa_cons pe_str pa_nil))) pa_nil)) (pe_lst pa_nil))) (pe_fn (ok_Lterm T) hr (by decide) (by rfl) (pa_cons (pv 0) (pa_cons (pv 1) pa_nil)))))))
      (pss_one (ps_ret (pv 2))))), ?_⟩
    walk_at "st"
    refine tSeq_op fun R hR => ?_
    have tail : ∀ (a : Addr) (ws : List Str) (H1 : Hp), Fr H a → WordsAt H1 a ws → Gen ws 1 → Kp PotS H H1 → PotAt H1 p → R [some (V.ref p), some (V.str kd), some (V.ref a), none] H1 := by
      intro a ws H1 fa ha hg e1 p1
      refine hR _ _ ?_
      refine ⟨_, rfl, sz3 (Nat.le_of_ble_eq_true rfl), ?_⟩
      (intro b hb; generalize hg0 : upd _ b _ = H2; obtain ⟨e2, h2⟩ := upd_ex hb hg0; clear hg0)
      refine ⟨p, _, rfl, p1.all e2, .inl ⟨b, _, rfl, h2, potN (by decide), Nat.le_of_ble_eq_true rfl, Nat.le_of_ble_eq_true rfl, fun v H3 hv e3 p3 => ?_⟩⟩
      have f3 := (e1.trans e2.pot).trans e3
      obtain ⟨k, rfl, hk⟩ : ∃ k : Nat, v = .int k ∧ k ≤ 3 := by
        simp only [List.mem_cons, List.not_mem_nil, or_false] at hv
        rcases hv with rfl | rfl | rfl | rfl | rfl
        · exact ⟨0, rfl, by decide⟩
        · exact ⟨0, rfl, by decide⟩
        · exact ⟨1, rfl, by decide⟩
        · exact ⟨2, rfl, by decide⟩
        · exact ⟨3, rfl, by decide⟩
      refine ⟨_, _, rfl, rfl, _, rfl, by omega, by omega, ?_⟩
      rw [show ((1 : Int) + (k : Nat)).toNat = k + 1 by omega]
      obtain ⟨Pv, hP⟩ := mkI fun (i : Nat) σ H4 => ∃ (b : Addr) (ws : List Str) (o : Option V), σ = [some (V.ref p), some (V.str kd), some (V.ref b), o] ∧ Fr H b ∧ WordsAt H4 b ws ∧ Gen ws (1 + 5 * i) ∧ Kp PotS H H4 ∧ PotAt H4 p
      refine for_range Pv ((hP _ _ _).mpr ⟨a, ws, none, rfl, fa, (ha.all e2).pot e3, hg, f3, p3⟩) (fun i σ H4 hi pv => ?_) (fun σ H4 pv => ?_)
      · obtain ⟨b4, ws4, o4, rfl, fb4, hb4, g4, f4, p4⟩ := (hP _ _ _).mp pv
        walk_at "wp"
        have fin : ∀ (c : Addr) (wc : List Str) (H5 : Hp), Kp PotS H H5 → PotAt H5 p → WordsAt H5 b4 ws4 → WordsAt H5 c wc → Gen wc 1 → rCat (V.ref b4) (V.ref c) H5 fun x H1 => spWsK 4 [V.ref p, V.str kd] H1 (fun y H2 => rCat x y H2 fun x H1 => Pv (i + 1) [some (V.ref p), some (V.str kd), some x, some (V.int (0 + ↑i))] H1) E0 := by
          intro c wc H5 f5 p5 h5 hc gc
          refine st_catW (n := 1 + 5 * i) (m := 1) (k := 2 + 5 * i) f5 p5 h5 hc g4 gc (by omega) (by omega) fun r6 H6 fr6 f6 _ p6 h6 g6 => ?_
          refine ⟨p, _, rfl, p6, fun r7 w7 H7 fr7 e7 p7 h7 g7 => ?_⟩
          refine st_catW (n := 2 + 5 * i) (m := 4) (k := 1 + 5 * (i + 1)) (f6.trans e7) p7 (h6.pot e7) h7 g6 g7 (by omega) (by omega) fun r8 H8 fr8 f8 _ p8 h8 g8 => ?_
          exact (hP _ _ _).mpr ⟨r8, _, _, rfl, fr8, h8, g8, f8, p8⟩
        by_cases ci : (0 : Int) < 0 + (i : Nat)
        · rw [if_pos ci]
          refine ⟨p, _, rfl, p4, .inr ⟨"+-", rfl, by decide +kernel, by decide +kernel, fun c H5 hc e5 p5 => ⟨sz3 (Nat.le_of_ble_eq_true rfl), ?_⟩⟩⟩
          have ec : (Str.ofString "+-").cps.toList = [43, 45] := by decide +kernel
          rw [ec] at hc
          have wc : Wd ⟨#[c]⟩ = true := by
            simp only [List.mem_cons, List.not_mem_nil, or_false] at hc
            rcases hc with rfl | rfl <;> decide +kernel
          (intro c6 hc6; generalize hg0 : upd _ c6 _ = H6; obtain ⟨e6, h6⟩ := upd_ex hc6 hg0; clear hg0)
          exact fin c6 [⟨#[c]⟩] H6 ((f4.trans e5).trans e6.pot) (p5.all e6) ((hb4.pot e5).all e6) h6 (.cons wc .nil)
        · rw [if_neg ci]
          refine ⟨sz3 (Nat.le_of_ble_eq_true rfl), ?_⟩
          (intro c6 hc6; generalize hg0 : upd _ c6 _ = H6; obtain ⟨e6, h6⟩ := upd_ex hc6 hg0; clear hg0)
          exact fin c6 [] H6 (f4.trans e6.pot) (p4.all e6) (hb4.all e6) h6 .nil
      · obtain ⟨b4, ws4, o4, rfl, fb4, hb4, g4, f4, p4⟩ := (hP _ _ _).mp pv
        exact ⟨_, rfl, q b4 ws4 H4 fb4 f4 p4 hb4 (g4.le (by omega))⟩
    walk_at "wp"
    refine ⟨p, _, rfl, by decide, by decide, hp, fun r H1 r0 r1 e1 p1 => ?_⟩
    walk_at "wp"
    by_cases c1 : r = 0
    · rw [if_pos c1]
      refine ⟨sz3 (Nat.le_of_ble_eq_true rfl), ?_⟩
      (intro a ha; generalize hg0 : upd _ a _ = H2; obtain ⟨e2, h2⟩ := upd_ex ha hg0; clear hg0)
      exact tail a ["-"] H2 (Fr.of e1 ha) h2 (.cons (by decide +kernel) .nil) (e1.trans e2.pot) (p1.all e2)
    · rw [if_neg c1]
      refine ⟨sz3 (Nat.le_of_ble_eq_true rfl), ?_⟩
      (intro a ha; generalize hg0 : upd _ a _ = H2; obtain ⟨e2, h2⟩ := upd_ex ha hg0; clear hg0)
      exact tail a [] H2 (Fr.of e1 ha) h2 .nil (e1.trans e2.pot) (p1.all e2)
abbrev N_Lworth : List Str := ["_law_pot_here"]
abbrev P_Lworth : List Str := ["_law_pot_here"]
theorem sc_Lworth : FnScope N_Lworth P_Lworth (defScope s_Lworth) := ⟨rfl, rfl, rfl, by decide +kernel, rfl, by decide +kernel, by decide +kernel⟩
theorem ok_Lworth (T : Tx w K mg) : Cl P w K mg base 4 "_law_worth" P_Lworth (spWs 3) := by
  refine Cl.mk T.d_Lworth rfl T.g_Lworth sc_Lworth (fun _ _ _ _ _ _ us hl => match us, hl with | [_], _ => rfl) (fun vs H Q E h => ?_) (fun cdv A outer s H vs Q E hr h => ?_)
  · obtain ⟨_, rfl, _⟩ := h
    rfl
  · obtain ⟨p, rfl, hp, q⟩ := h
    refine ⟨_, (pss_one (ps_ret (pe_op op_cat (pe_lst (pa_cons (pe_fn (ok_Lnumber T) hr (by decide) (by rfl) (pa_cons (pv 0) pa_nil)) pa_nil)) (pe_ifExp (pt_cmpR op_eq (pe_fn (ok_Ldraw T) hr (by decide) (by rfl) (pa_cons (pv 0) (pa_cons pe_int pa_nil))) pe_int (nomark _)) (pe_lst (pa_cons pe_str (pa_cons (pe_fn (ok_Lnumber T) hr (by decide) (by rfl) (pa_cons (pv 0) pa_nil)) pa_nil))) (pe_lst pa_nil))))), ?_⟩
    walk_at "st"
    walk_at "wp"
    refine ⟨p, rfl, hp, fun z H1 z1 e1 p1 => ?_⟩
    refine ⟨sz3 (Nat.le_of_ble_eq_true rfl), ?_⟩
    (intro a ha; generalize hg0 : upd _ a _ = H2; obtain ⟨e2, h2⟩ := upd_ex ha hg0; clear hg0)
    have fa := Fr.of e1 ha
    refine ⟨p, _, rfl, by decide, by decide, p1.all e2, fun r H3 r0 r1 e3 p3 => ?_⟩
    walk_at "wp"
    have f3 := (e1.trans e2.pot).trans e3
    have h3 : WordsAt H3 a [z] := WordsAt.pot h2 e3
    by_cases c1 : r = 0
    · rw [if_pos c1]
      refine ⟨p, rfl, p3, fun y H4 y1 e4 p4 => ?_⟩
      refine ⟨sz3 (Nat.le_of_ble_eq_true rfl), ?_⟩
      (intro b hb; generalize hg0 : upd _ b _ = H5; obtain ⟨e5, h5⟩ := upd_ex hb hg0; clear hg0)
      refine st_cat ((h3.pot e4).all e5) h5 (Nat.le_of_ble_eq_true rfl) fun r6 H6 hr6 e6 h6 => ?_
      exact q r6 [z, "/", y] H6 (Fr.of ((f3.trans e4).trans e5.pot) hr6) (((f3.trans e4).trans e5.pot).trans e6.pot) ((p4.all e5).all e6) h6 (.cons z1 (.cons (by decide +kernel) (.cons y1 .nil)))
    · rw [if_neg c1]
      refine ⟨sz3 (Nat.le_of_ble_eq_true rfl), ?_⟩
      (intro b hb; generalize hg0 : upd _ b _ = H5; obtain ⟨e5, h5⟩ := upd_ex hb hg0; clear hg0)
      refine st_cat (h3.all e5) h5 (Nat.le_of_ble_eq_true rfl) fun r6 H6 hr6 e6 h6 => ?_
      exact q r6 [z] H6 (Fr.of (f3.trans e5.pot) hr6) ((f3.trans e5.pot).trans e6.pot) ((p3.all e5).all e6) h6 ((Gen.cons z1 .nil).le (by decide : 1 ≤ 3))
abbrev N_Lstatement : List Str := ["_law_pot_here", "_law_way", "_law_number_here", "_law_name_here", "_law_words", "_law_kind", "_law_sign"]
abbrev P_Lstatement : List Str := ["_law_pot_here"]
theorem sc_Lstatement : FnScope N_Lstatement P_Lstatement (defScope s_Lstatement) := ⟨rfl, rfl, rfl, by decide +kernel, rfl, by decide +kernel, by decide +kernel⟩
theorem ok_Lstatement (T : Tx w K mg) : Cl P w K mg base 6 "_law_statement" P_Lstatement (spWs 46) := by
  refine Cl.mk T.d_Lstatement rfl T.g_Lstatement sc_Lstatement (fun _ _ _ _ _ _ us hl => match us, hl with | [_], _ => rfl) (fun vs H Q E h => ?_) (fun cdv A outer s H vs Q E hr h => ?_)
  · obtain ⟨_, rfl, _⟩ := h
    rfl
  · obtain ⟨p, rfl, hp, q⟩ := h
    refine ⟨_, (pss_cons (ps_par3 (i := 1) (j := 2) (l := 3) rfl sc_Lstatement.nd rfl rfl rfl (by decide) (by decide) (by decide) rfl rfl rfl (pa_cons (pe_fn (ok_Ldraw T) hr (by decide) (by rfl) (pa_cons (pv 0) (pa_cons pe_int pa_nil))) (pa_cons (pe_fn (ok_Lnumber T) hr (by decide) (by rfl) (pa_cons (pv 0) pa_nil)) (pa_cons (pe_fn (ok_Lname T) hr (by decide) (by rfl) (pa_cons (pv 0) pa_nil)) pa_nil))) (by with_unfolding_all rfl))
      (pss_cons (ps_if (pt_cmpR op_eq (pv 1) pe_int (nomark _)) (pss_one (ps_ret (pe_op op_cat (pe_lst (pa_cons pe_str (pa_cons (pv 3) pa_nil))) (pe_ifExp (pt_cmpR op_eq (pe_fn (ok_Ldraw T) hr (by decide) (by rfl) (pa_cons (pv 0) (pa_cons pe_int pa_nil))) pe_int (nomark _)) (pe_lst (pa_cons (pe_fn (ok_Lname T) hr (by decide) (by rfl) (pa_cons (pv 0) pa_nil)) pa_nil)) (pe_lst pa_nil))))) pss_nil)
      (pss_cons (ps_if (pt_cmpR op_eq (pv 1) pe_int (nomark _)) (pss_one (ps_ret (pe_lst (pa_cons pe_str (pa_cons (pv 2) pa_nil))))) pss_nil)
      (pss_cons (ps_if (pt_cmpR op_eq (pv 1) pe_int (nomark _)) (pss_one (ps_ret (pe_op op_cat (pe_op op_cat (pe_op op_cat (pe_lst (pa_cons pe_str (pa_cons (pv 3) (pa_cons pe_str pa_nil)))) (pe_fn (ok_Lform T) hr (by decide) (by rfl) (pa_cons (pv 0) (pa_cons pe_str pa_nil)))) (pe_lst (pa_cons pe_str pa_nil))) (pe_fn (ok_Lworth T) hr (by decide) (by rfl) (pa_cons (pv 0) pa_nil))))) pss_nil)
      (pss_cons (ps_if (pt_cmpR op_eq (pv 1) pe_int (nomark _)) (pss_cons (ps_set (i := 4) sc_Lstatement.nd rfl (Or.inl rfl) (pe_lst (pa_cons pe_str (pa_cons (pv 3) (pa_cons (pe_fn (ok_Lname T) hr (by decide) (by rfl) (pa_cons (pv 0) pa_nil)) (pa_cons pe_str (pa_cons (pv 2) (pa_cons pe_str pa_nil))))))))
      (pss_one (ps_ret (pe_op op_cat (pe_op op_cat (pv 4) (pe_ifExp (pt_cmpR op_eq (pe_fn (ok_Ldraw T) hr (by decide) (by rfl) (pa_cons (pv 0) (pa_cons pe_int pa_nil))) pe_int (nomark _)) (pe_lst (pa_cons pe_str pa_nil)) (pe_lst pa_nil))) (pe_fn (ok_Lworth T) hr (by decide) (by rfl) (pa_cons (pv 0) pa_nil)))))) pss_nil)
      (pss_cons (ps_if (pt_cmpR op_eq (pv 1) pe_int (nomark _)) (pss_one (ps_ret (pe_lst (pa_cons pe_str (pa_cons (pv 3) pa_nil))))) pss_nil)
      (pss_cons (ps_set (i := 5) sc_Lstatement.nd rfl (Or.inl rfl) (pe_ix ix_list (pe_lst (pa_cons pe_str (pa_cons pe_str (pa_cons pe_str (pa_cons pe_str pa_nil))))) (pe_op op_sub (pv 1) pe_int) (fun _ _ => rfl)))
      (pss_cons (ps_set (i := 4) sc_Lstatement.nd rfl (Or.inl rfl) (pe_ix ix_list (pe_lst (pa_cons (pe_lst (pa_cons pe_str pa_nil)) (pa_cons (pe_lst (pa_cons pe_str (pa_cons (pv 2) (pa_cons pe_str pa_nil)))) (pa_cons (pe_lst (pa_cons pe_str pa_nil)) (pa_cons (pe_lst (pa_cons pe_str pa_nil)) pa_nil))))) (pe_op op_sub (pv 1) pe_int) (fun _ _ => rfl)))
      (pss_cons (ps_set (i := 6) sc_Lstatement.nd rfl (Or.inl rfl) (pe_fn (ok_Lpick T) hr (by decide) (by rfl) (pa_cons (pv 0) (pa_cons (pe_lst (pa_cons pe_str (pa_cons pe_str (pa_cons pe_str (pa_cons (pe_ifExp (pt_cmpR op_eq (pv 5) pe_str (nomark _)) pe_str pe_str) pa_nil))))) pa_nil))))
      (pss_one (ps_ret (pe_op op_cat (pe_op op_cat (pe_op op_cat (pv 4) (pe_fn (ok_Lform T) hr (by decide) (by rfl) (pa_cons (pv 0) (pa_cons (pv 5) pa_nil)))) (pe_lst (pa_cons (pv 6) pa_nil))) (pe_fn (ok_Lform T) hr (by decide) (by rfl) (pa_cons (pv 0) (pa_cons (pv 5) pa_nil))))))))))))))), ?_⟩
    walk_at "st"
    refine tSeq_op fun R hR => ?_
    have tail : ∀ (r : Int) (y z : Str) (H1 : Hp), 0 ≤ r → r < 9 → Wd y = true → Wd z = true → Kp PotS H H1 → PotAt H1 p → R [some (V.ref p), some (V.int r), some (V.str y), some (V.str z), none, none, none] H1 := by
      intro r y z H1 r0 r1 hy hz e1 p1
      refine hR _ _ ?_
      walk_at "wp"
      by_cases c0 : r = 0
      · rw [if_pos c0]
        refine ⟨sz3 (Nat.le_of_ble_eq_true rfl), ?_⟩
        (intro a ha; generalize hg0 : upd _ a _ = H2; obtain ⟨e2, h2⟩ := upd_ex ha hg0; clear hg0)
        refine ⟨p, _, rfl, by decide, by decide, p1.all e2, fun r3 H3 _ _ e3 p3 => ?_⟩
        walk_at "wp"
        have f3 := (e1.trans e2.pot).trans e3
        have h3 : WordsAt H3 a ["unknowns", z] := WordsAt.pot (show WordsAt H2 a ["unknowns", z] from h2) e3
        have g3 : Gen ["unknowns", z] 2 := .cons (by decide +kernel) (.cons hz .nil)
        by_cases c : r3 = 0
        · rw [if_pos c]
          refine ⟨p, rfl, p3, fun x H4 hx e4 p4 => ⟨sz3 (Nat.le_of_ble_eq_true rfl), ?_⟩⟩
          (intro b hb; generalize hg0 : upd _ b _ = H5; obtain ⟨e5, h5⟩ := upd_ex hb hg0; clear hg0)
          exact st_catW (n := 2) (m := 1) (k := 46) (ys := [x]) ((f3.trans e4).trans e5.pot) (p4.all e5) ((h3.pot e4).all e5) h5 g3 (.cons hx .nil) (by decide) (by decide) fun r6 H6 f6 e6 _ p6 h6 g6 => q r6 _ H6 f6 e6 p6 h6 g6
        · rw [if_neg c]
          refine ⟨sz3 (Nat.le_of_ble_eq_true rfl), ?_⟩
          (intro b hb; generalize hg0 : upd _ b _ = H5; obtain ⟨e5, h5⟩ := upd_ex hb hg0; clear hg0)
          exact st_catW (n := 2) (m := 0) (k := 46) (ys := []) (f3.trans e5.pot) (p3.all e5) (h3.all e5) h5 g3 .nil (by decide) (by decide) fun r6 H6 f6 e6 _ p6 h6 g6 => q r6 _ H6 f6 e6 p6 h6 g6
      rw [if_neg c0]
      by_cases c1 : r = 1
      · rw [if_pos c1]
        refine ⟨sz3 (Nat.le_of_ble_eq_true rfl), ?_⟩
        (intro a ha; generalize hg0 : upd _ a _ = H2; obtain ⟨e2, h2⟩ := upd_ex ha hg0; clear hg0)
        exact q a ["moments", y] H2 (Fr.of e1 ha) (e1.trans e2.pot) (p1.all e2) h2 (Gen.le (.cons (by decide +kernel) (.cons hy .nil)) (by decide : 2 ≤ 46))
      rw [if_neg c1]
      by_cases c2 : r = 2
      · rw [if_pos c2]
        refine ⟨sz3 (Nat.le_of_ble_eq_true rfl), ?_⟩
        (intro a ha; generalize hg0 : upd _ a _ = H2; obtain ⟨e2, h2⟩ := upd_ex ha hg0; clear hg0)
        refine ⟨p, _, rfl, p1.all e2, fun b wb H3 fb e3 p3 hb gb => ?_⟩
        have f3 := (e1.trans e2.pot).trans e3
        have h3 : WordsAt H3 a ["sensor", z, ":"] := WordsAt.pot (show WordsAt H2 a ["sensor", z, ":"] from h2) e3
        refine st_catW (n := 3) (m := 21) (k := 24) f3 p3 h3 hb (.cons (by decide +kernel) (.cons hz (.cons (by decide +kernel) .nil))) gb (by decide) (by decide) fun r4 H4 f4 e4 a4 p4 h4 g4 => ⟨sz3 (Nat.le_of_ble_eq_true rfl), ?_⟩
        (intro b5 hb5; generalize hg0 : upd _ b5 _ = H5; obtain ⟨e5, h5⟩ := upd_ex hb5 hg0; clear hg0)
        refine st_catW (n := 24) (m := 1) (k := 25) (ys := ["slack"]) (e4.trans e5.pot) (p4.all e5) (h4.all e5) h5 g4 (.cons (by decide +kernel) .nil) (by decide) (by decide) fun r6 H6 f6 e6 a6 p6 h6 g6 => ?_
        refine ⟨p, rfl, p6, fun b7 wb7 H7 fb7 e7 p7 hb7 gb7 => ?_⟩
        exact st_catW (n := 25) (m := 3) (k := 46) (e6.trans e7) p7 (h6.pot e7) hb7 g6 gb7 (by decide) (by decide) fun r8 H8 f8 e8 _ p8 h8 g8 => q r8 _ H8 f8 e8 p8 h8 g8
      rw [if_neg c2]
      by_cases c3 : r = 3
      · rw [if_pos c3]
        refine ⟨p, rfl, p1, fun x H2 hx e2 p2 => ⟨sz3 (Nat.le_of_ble_eq_true rfl), ?_⟩⟩
        have f2 := e1.trans e2
        (intro a ha; generalize hg0 : upd _ a _ = H3; obtain ⟨e3, h3⟩ := upd_ex ha hg0; clear hg0)
        refine ⟨p, _, rfl, by decide, by decide, p2.all e3, fun r3 H4 _ _ e4 p4 => ?_⟩
        walk_at "wp"
        have f4 := (f2.trans e3.pot).trans e4
        have h4 : WordsAt H4 a ["reading", z, x, "at", y, "="] := WordsAt.pot (show WordsAt H3 a ["reading", z, x, "at", y, "="] from h3) e4
        have g4 : Gen ["reading", z, x, "at", y, "="] 6 := .cons (by decide +kernel) (.cons hz (.cons hx (.cons (by decide +kernel) (.cons hy (.cons (by decide +kernel) .nil)))))
        by_cases c : r3 = 0
        · rw [if_pos c]
          refine ⟨sz3 (Nat.le_of_ble_eq_true rfl), ?_⟩
          (intro b hb; generalize hg0 : upd _ b _ = H5; obtain ⟨e5, h5⟩ := upd_ex hb hg0; clear hg0)
          refine st_catW (n := 6) (m := 1) (k := 7) (ys := ["-"]) (f4.trans e5.pot) (p4.all e5) (h4.all e5) h5 g4 (.cons (by decide +kernel) .nil) (by decide) (by decide) fun r6 H6 f6 e6 a6 p6 h6 g6 => ?_
          refine ⟨p, rfl, p6, fun b7 wb7 H7 fb7 e7 p7 hb7 gb7 => ?_⟩
          exact st_catW (n := 7) (m := 3) (k := 46) (e6.trans e7) p7 (h6.pot e7) hb7 g6 gb7 (by decide) (by decide) fun r8 H8 f8 e8 _ p8 h8 g8 => q r8 _ H8 f8 e8 p8 h8 g8
        · rw [if_neg c]
          refine ⟨sz3 (Nat.le_of_ble_eq_true rfl), ?_⟩
          (intro b hb; generalize hg0 : upd _ b _ = H5; obtain ⟨e5, h5⟩ := upd_ex hb hg0; clear hg0)
          refine st_catW (n := 6) (m := 0) (k := 6) (ys := []) (f4.trans e5.pot) (p4.all e5) (h4.all e5) h5 g4 .nil (by decide) (by decide) fun r6 H6 f6 e6 a6 p6 h6 g6 => ?_
          refine ⟨p, rfl, p6, fun b7 wb7 H7 fb7 e7 p7 hb7 gb7 => ?_⟩
          exact st_catW (n := 6) (m := 3) (k := 46) (e6.trans e7) p7 (h6.pot e7) hb7 g6 gb7 (by decide) (by decide) fun r8 H8 f8 e8 _ p8 h8 g8 => q r8 _ H8 f8 e8 p8 h8 g8
      rw [if_neg c3]
      by_cases c4 : r = 4
      · rw [if_pos c4]
        refine ⟨sz3 (Nat.le_of_ble_eq_true rfl), ?_⟩
        (intro a ha; generalize hg0 : upd _ a _ = H2; obtain ⟨e2, h2⟩ := upd_ex ha hg0; clear hg0)
        exact q a ["back", z] H2 (Fr.of e1 ha) (e1.trans e2.pot) (p1.all e2) h2 (Gen.le (.cons (by decide +kernel) (.cons hz .nil)) (by decide : 2 ≤ 46))
      rw [if_neg c4]
      refine ⟨sz3 (Nat.le_of_ble_eq_true rfl), ?_⟩
      (intro a0 ha0; generalize hg0 : upd _ a0 _ = H2; obtain ⟨e2, h2⟩ := upd_ex ha0 hg0; clear hg0)
      have rr : r - 5 = 0 ∨ r - 5 = 1 ∨ r - 5 = 2 ∨ r - 5 = 3 := by omega
      have rest : ∀ (kd : Str), True → R = R := fun _ _ => rfl
      obtain ⟨kd, hkd⟩ : ∃ kd : Str, atI [V.str "one", V.str "step", V.str "step", V.str "ask"] (r - 5) = some (V.str kd) := by
        rcases rr with e | e | e | e <;> rw [e]
        · exact ⟨_, atI_nat (j := 0) rfl⟩
        · exact ⟨_, atI_nat (j := 1) rfl⟩
        · exact ⟨_, atI_nat (j := 2) rfl⟩
        · exact ⟨_, atI_nat (j := 3) rfl⟩
      refine st_ixL (sqS h2) hkd ⟨sz3 (Nat.le_of_ble_eq_true rfl), ?_⟩
      (intro a1 ha1; generalize hg0 : upd _ a1 _ = H3; obtain ⟨e3, h3⟩ := upd_ex ha1 hg0; clear hg0)
      refine ⟨sz3 (Nat.le_of_ble_eq_true rfl), ?_⟩
      (intro a2 ha2; generalize hg0 : upd _ a2 _ = H4; obtain ⟨e4, h4⟩ := upd_ex ha2 hg0; clear hg0)
      refine ⟨sz3 (Nat.le_of_ble_eq_true rfl), ?_⟩
      (intro a3 ha3; generalize hg0 : upd _ a3 _ = H5; obtain ⟨e5, h5⟩ := upd_ex ha3 hg0; clear hg0)
      refine ⟨sz3 (Nat.le_of_ble_eq_true rfl), ?_⟩
      (intro a4 ha4; generalize hg0 : upd _ a4 _ = H6; obtain ⟨e6, h6⟩ := upd_ex ha4 hg0; clear hg0)
      refine ⟨sz3 (Nat.le_of_ble_eq_true rfl), ?_⟩
      (intro a5 ha5; generalize hg0 : upd _ a5 _ = H7; obtain ⟨e7, h7⟩ := upd_ex ha5 hg0; clear hg0)
      have w1 : WordsAt H7 a1 ["start"] := WordsAt.all (show WordsAt H3 a1 ["start"] from h3) (((e4.trans e5).trans e6).trans e7)
      have w2 : WordsAt H7 a2 ["step", y, ":"] := WordsAt.all (show WordsAt H4 a2 ["step", y, ":"] from h4) ((e5.trans e6).trans e7)
      have w3 : WordsAt H7 a3 ["steps"] := WordsAt.all (show WordsAt H5 a3 ["steps"] from h5) (e6.trans e7)
      have w4 : WordsAt H7 a4 ["ask"] := WordsAt.all (show WordsAt H6 a4 ["ask"] from h6) e7
      have e27 := ((((e2.trans e3).trans e4).trans e5).trans e6).trans e7
      have f7 := e1.trans e27.pot
      have p7 := p1.all e27
      obtain ⟨b, wb, hat, hwb, hgb⟩ : ∃ (b : Addr) (wb : List Str), atI [V.ref a1, V.ref a2, V.ref a3, V.ref a4] (r - 5) = some (V.ref b) ∧ WordsAt H7 b wb ∧ Gen wb 3 := by
        rcases rr with e | e | e | e <;> rw [e]
        · exact ⟨a1, _, atI_nat (j := 0) rfl, w1, Gen.le (.cons (by decide +kernel) .nil) (by decide : 1 ≤ 3)⟩
        · exact ⟨a2, _, atI_nat (j := 1) rfl, w2, .cons (by decide +kernel) (.cons hy (.cons (by decide +kernel) .nil))⟩
        · exact ⟨a3, _, atI_nat (j := 2) rfl, w3, Gen.le (.cons (by decide +kernel) .nil) (by decide : 1 ≤ 3)⟩
        · exact ⟨a4, _, atI_nat (j := 3) rfl, w4, Gen.le (.cons (by decide +kernel) .nil) (by decide : 1 ≤ 3)⟩
      refine st_ixL (sqS h7) hat ?_
      walk_at "wp"
      have fin : ∀ (sg : List Str) (c : Addr) (H8 : Hp), Kp AllS H7 H8 → WordsAt H8 c sg → (∀ z ∈ sg, Wd z = true) → 1 ≤ sg.length → sg.length ≤ 4 → sg.length ≠ 3 → spPick K [V.ref p, V.ref c] H8 (fun x H1 => spWsK 21 [V.ref p, V.str kd] H1 (fun y H2 => rCat (V.ref b) y H2 fun x_1 H1 => [x].length ≤ sizeLine ∧ ∀ (p_2 : Addr), H1 p_2 = none → rCat x_1 (V.ref p_2) (upd H1 p_2 (HO.lst [x])) fun x H1 => spWsK 21 [V.ref p, V.str kd] H1 (fun y H2 => rCat x y H2 Q) E0) E0) E0 := by
        intro sg c H8 e8 hc hsg n1 n2 n3
        refine ⟨p, _, rfl, p7.all e8, .inl ⟨c, _, rfl, hc, potW sg, by rw [List.length_map]; exact n1, by rw [List.length_map]; omega, fun v H9 hv e9 p9 => ?_⟩⟩
        obtain ⟨sx, hsx, rfl⟩ := List.mem_map.mp hv
        have gx := hsg sx hsx
        have f9 := (f7.trans e8.pot).trans e9
        refine ⟨p, _, rfl, p9, fun b10 w10 H10 fb10 e10 p10 h10 g10 => ?_⟩
        have f10 := f9.trans e10
        refine st_catW (n := 3) (m := 21) (k := 24) f10 p10 (((hwb.all e8).pot e9).pot e10) h10 hgb g10 (by decide) (by decide) fun r11 H11 fr11 f11 _ p11 h11 g11 => ⟨sz3 (Nat.le_of_ble_eq_true rfl), ?_⟩
        (intro b12 hb12; generalize hg0 : upd _ b12 _ = H12; obtain ⟨e12, h12⟩ := upd_ex hb12 hg0; clear hg0)
        refine st_catW (n := 24) (m := 1) (k := 25) (ys := [sx]) (f11.trans e12.pot) (p11.all e12) (h11.all e12) h12 g11 (.cons gx .nil) (by decide) (by decide) fun r13 H13 fr13 f13 _ p13 h13 g13 => ?_
        refine ⟨p, _, rfl, p13, fun b14 w14 H14 fb14 e14 p14 h14 g14 => ?_⟩
        exact st_catW (n := 25) (m := 21) (k := 46) (f13.trans e14) p14 (h13.pot e14) h14 g13 g14 (by decide) (by decide) fun r15 H15 f15 e15 _ p15 h15 g15 => q r15 _ H15 f15 e15 p15 h15 g15
      by_cases ca : kd = "ask"
      · rw [if_pos ca]
        refine ⟨sz3 (Nat.le_of_ble_eq_true rfl), ?_⟩
        (intro c8 hc8; generalize hg0 : upd _ c8 _ = H8; obtain ⟨e8, h8⟩ := upd_ex hc8 hg0; clear hg0)
        exact fin ["<=", ">=", "=", "<="] c8 H8 e8 h8 (by decide +kernel) (by decide) (by decide) (by decide)
      · rw [if_neg ca]
        refine ⟨sz3 (Nat.le_of_ble_eq_true rfl), ?_⟩
        (intro c8 hc8; generalize hg0 : upd _ c8 _ = H8; obtain ⟨e8, h8⟩ := upd_ex hc8 hg0; clear hg0)
        exact fin ["<=", ">=", "=", "="] c8 H8 e8 h8 (by decide +kernel) (by decide) (by decide) (by decide)
    refine ⟨_, rfl, p, 9, rfl, by decide, by decide, hp, fun r H1 r0 r1 e1 p1 => ⟨_, rfl, p, rfl, p1, fun y H2 hy e2 p2 => ⟨_, rfl, p, rfl, p2, fun z H3 hz e3 p3 => ⟨_, _, _, rfl, ?_⟩⟩⟩⟩
    exact tail r y z H3 r0 r1 hy hz ((e1.trans e2).trans e3) p3
end
end K31
set_option Elab.async false
set_option linter.all false
set_option maxRecDepth 100000
set_option maxHeartbeats 4000000
namespace K31
open PySem PySem.Spec PyProof.Rows L2
/-! plain: what the law lays, the program parts again -/
abbrev cd (z : Str) : List Nat := z.cps.toList
def al (c : Nat) : Bool := Txt.isalnum ⟨#[c]⟩
def partedB (l w : Str) : Bool := if l = "" then false else if ((cd l).getLast?.any al && (cd w).head?.any al) = true then true else decide (l ∈ (["<", ">"] : List Str)) && decide ((cd w).head? = some 61)
/-- what may follow a word at once -/
def Brk (l : Str) (t : List Nat) : Prop := (cd l ≠ [] → (cd l).all isW = true → ∀ c, t.head? = some c → isW c = false) ∧ (l = "<" ∨ l = ">" → t.head? ≠ some 61)
theorem isW_in {c : Nat} (h : isW c = true) : c ∈ cd lettersS ++ cd digitsS := by
  unfold isW isL isD at h
  simp only [Bool.or_eq_true, decide_eq_true_eq] at h
  exact List.mem_append.mpr h
theorem isW_al {c : Nat} (h : isW c = true) : al c = true := by
  have h2 : (cd lettersS ++ cd digitsS).all al = true := by decide +kernel
  exact List.all_eq_true.mp h2 c (isW_in h)
theorem isW_clean {c : Nat} (h : isW c = true) : c ≠ 32 ∧ c ≠ 35 ∧ c ≠ 10 := by
  have h2 : (cd lettersS ++ cd digitsS).all (fun c => decide (c ≠ 32) && (decide (c ≠ 35) && decide (c ≠ 10))) = true := by decide +kernel
  have h3 := List.all_eq_true.mp h2 c (isW_in h)
  simpa using h3
def odds : List Str := ["+", "-", "=", "<", ":", "/", "'", "(", "A", "<=", ">="]
theorem wd_cases {z : Str} (h : Wd z = true) : (cd z ≠ [] ∧ z.length ≤ 101 ∧ (cd z).all isW = true) ∨ z ∈ odds := by
  unfold Wd at h
  simp only [Bool.or_eq_true, Bool.and_eq_true, decide_eq_true_eq] at h
  rcases h with ⟨h1, h2, h3⟩ | h
  · refine .inl ⟨fun e => ?_, h2, h3⟩
    rw [TL.len_tl] at h1
    rw [show TL.tl z = [] from e] at h1
    exact absurd h1 (by decide)
  · exact .inr h
theorem odds_ok : odds.all (fun z => decide (z ≠ "") && (decide (z.length ≤ 101) && (cd z).all fun c => decide (c ≠ 32) && (decide (c ≠ 35) && decide (c ≠ 10)))) = true := by decide +kernel
theorem wd_clean {z : Str} (h : Wd z = true) : ∀ c ∈ cd z, c ≠ 32 ∧ c ≠ 35 ∧ c ≠ 10 := fun c hc => by
  rcases wd_cases h with ⟨_, _, h3⟩ | h
  · exact isW_clean (List.all_eq_true.mp h3 c hc)
  · have h2 := List.all_eq_true.mp odds_ok z h
    simp only [Bool.and_eq_true] at h2
    have h3 := List.all_eq_true.mp h2.2.2 c hc
    simpa using h3
theorem wd_ne {z : Str} (h : Wd z = true) : cd z ≠ [] := by
  rcases wd_cases h with ⟨h1, _⟩ | h
  · exact h1
  · have h2 : odds.all (fun z => decide (cd z ≠ [])) = true := by decide +kernel
    simpa using List.all_eq_true.mp h2 z h
theorem wd_len {z : Str} (h : Wd z = true) : z.length ≤ 101 := by
  rcases wd_cases h with ⟨_, h1, _⟩ | h
  · exact h1
  · have h2 := List.all_eq_true.mp odds_ok z h
    simp only [Bool.and_eq_true, decide_eq_true_eq] at h2
    exact h2.2.1
theorem wd_pos {z : Str} (h : Wd z = true) : 1 ≤ z.length := by
  have h1 := wd_ne h
  rw [TL.len_tl]
  cases e : TL.tl z with
  | nil => exact absurd e h1
  | cons c r => rw [List.length_cons]; omega
theorem tw_app : ∀ (r t : List Nat), r.all isW = true → (∀ c, t.head? = some c → isW c = false) → (r ++ t).takeWhile isW = r
  | [], t, _, h => by
    cases t with
    | nil => rfl
    | cons c t =>
      have := h c rfl
      show (c :: t).takeWhile isW = []
      rw [List.takeWhile_cons_of_neg (by rw [this]; exact Bool.false_ne_true)]
  | a :: r, t, h, g => by
    rw [List.all_cons, Bool.and_eq_true] at h
    rw [List.cons_append, List.takeWhile_cons_of_pos h.1, tw_app r t h.2 g]
/-- a word with what may follow: its length is its own -/
theorem wlen_word {z : Str} {t : List Nat} (h : Wd z = true) (b : Brk z t) : wlen (cd z ++ t) = (cd z).length := by
  rcases wd_cases h with ⟨h1, _, h3⟩ | h
  · have b1 := b.1 h1 h3
    cases e : cd z with
    | nil => exact absurd e h1
    | cons c r =>
      rw [e, List.all_cons, Bool.and_eq_true] at h3
      rw [List.cons_append, wlen_eq, if_pos h3.1, tw_app r t h3.2 b1, List.length_cons]
      omega
  · have hb := b.2
    unfold odds at h
    simp only [List.mem_cons, List.not_mem_nil, or_false] at h
    have one : ∀ c : Nat, isW c = false → c ≠ 60 → c ≠ 62 → cd z = [c] → wlen (cd z ++ t) = (cd z).length := fun c w n1 n2 e => by
      rw [e, List.cons_append, List.nil_append, wlen_eq, if_neg (by rw [w]; exact Bool.false_ne_true), if_neg (fun q => by rcases q.1 with q | q <;> contradiction)]
      rfl
    rcases h with h | h | h | h | h | h | h | h | h | h | h
    · exact one 43 (by decide +kernel) (by decide) (by decide) (by rw [h]; decide +kernel)
    · exact one 45 (by decide +kernel) (by decide) (by decide) (by rw [h]; decide +kernel)
    · exact one 61 (by decide +kernel) (by decide) (by decide) (by rw [h]; decide +kernel)
    · have e : cd z = [60] := by rw [h]; decide +kernel
      have hn := hb (.inl h)
      rw [e, List.cons_append, List.nil_append, wlen_eq, if_neg (by decide +kernel), if_neg (fun q => hn q.2)]
      rfl
    · exact one 58 (by decide +kernel) (by decide) (by decide) (by rw [h]; decide +kernel)
    · exact one 47 (by decide +kernel) (by decide) (by decide) (by rw [h]; decide +kernel)
    · exact one 39 (by decide +kernel) (by decide) (by decide) (by rw [h]; decide +kernel)
    · exact one 40 (by decide +kernel) (by decide) (by decide) (by rw [h]; decide +kernel)
    · exact one 65 (by decide +kernel) (by decide) (by decide) (by rw [h]; decide +kernel)
    · have e : cd z = [60, 61] := by rw [h]; decide +kernel
      rw [e]
      show wlen (60 :: 61 :: t) = 2
      rw [wlen_eq, if_neg (by decide +kernel), if_pos ⟨.inl rfl, rfl⟩]
    · have e : cd z = [62, 61] := by rw [h]; decide +kernel
      rw [e]
      show wlen (62 :: 61 :: t) = 2
      rw [wlen_eq, if_neg (by decide +kernel), if_pos ⟨.inr rfl, rfl⟩]
/-- not parted: the next word may follow at once -/
theorem brk_word {l z : Str} {t : List Nat} (hl : l = "" ∨ Wd l = true) (hz : Wd z = true) (hp : partedB l z = false) : Brk l (cd z ++ t) := by
  have hh : (cd z ++ t).head? = (cd z).head? := by
    cases e : cd z with
    | nil => exact absurd e (wd_ne hz)
    | cons c r => rfl
  rw [Brk, hh]
  unfold partedB at hp
  by_cases e : l = ""
  · refine ⟨fun h => absurd ?_ h, fun h => ?_⟩
    · rw [e]
      decide +kernel
    · rw [e] at h
      exact absurd h (by decide +kernel)
  rw [if_neg e] at hp
  split at hp
  · cases hp
  · rename_i n
    refine ⟨fun h1 h2 c hc => ?_, fun h => ?_⟩
    · cases q : isW c with
      | false => rfl
      | true =>
        exfalso
        apply n
        rw [Bool.and_eq_true]
        refine ⟨?_, by rw [hc]; exact isW_al q⟩
        rw [List.getLast?_eq_some_getLast h1]
        exact isW_al (List.all_eq_true.mp h2 _ (List.getLast_mem h1))
    · intro q
      rw [q] at hp
      have hm : l ∈ (["<", ">"] : List Str) := by
        rcases h with h | h <;> rw [h] <;> decide +kernel
      rw [decide_eq_true hm] at hp
      exact absurd hp (by decide)
theorem brk_sp {l : Str} {t : List Nat} : Brk l (32 :: t) := ⟨fun _ _ c hc => by
  have e : (32 : Nat) = c := Option.some.inj hc
  rw [← e]
  decide +kernel, fun _ h => by
  have e : (32 : Nat) = 61 := Option.some.inj h
  exact absurd e (by decide)⟩
theorem brk_nil {l : Str} : Brk l [] := ⟨fun _ _ c hc => (by cases hc), fun _ h => (by cases h)⟩
theorem tk_sp : ∀ (g t : List Nat) (s : Nat) (l : List (Nat × Str)), (∀ c ∈ g, c = 32) → Tk (s + g.length) t l → Tk s (g ++ t) l
  | [], t, s, l, _, h => h
  | c :: g, t, s, l, hg, h => by
    have e := hg c (List.mem_cons_self ..)
    subst e
    refine .sp (tk_sp g t (s + 1) l (fun c hc => hg c (List.mem_cons_of_mem _ hc)) ?_)
    rw [List.length_cons] at h
    rw [show s + 1 + g.length = s + (g.length + 1) by omega]
    exact h
/-- a line under way: its signs, the last word, the words with their spots -/
structure LineInv (L : List Nat) (last : Str) (fnd : List (Nat × Str)) : Prop where
  clean : ∀ c ∈ L, c ≠ 35 ∧ c ≠ 10
  lastW : last = "" ∨ Wd last = true
  tk : ∀ t l, Brk last t → Tk L.length t l → Tk 0 (L ++ t) (fnd ++ l)
theorem LineInv.start {L : List Nat} (h : ∀ c ∈ L, c = 32) : LineInv L "" [] := ⟨fun c hc => by rw [h c hc]; decide, .inl rfl, fun t l _ k => tk_sp L t 0 l h (by rw [Nat.zero_add]; exact k)⟩
theorem LineInv.step {L : List Nat} {last z : Str} {fnd : List (Nat × Str)} (I : LineInv L last fnd) {g : List Nat} (hg : ∀ c ∈ g, c = 32) (hz : Wd z = true) (hp : g = [] → partedB last z = false) : LineInv (L ++ g ++ cd z) z (fnd ++ [((L ++ g).length, z)]) := by
  refine ⟨fun c hc => ?_, .inr hz, fun t l b k => ?_⟩
  · rcases List.mem_append.mp hc with hc | hc
    · rcases List.mem_append.mp hc with hc | hc
      · exact I.clean c hc
      · rw [hg c hc]
        decide
    · exact (wd_clean hz c hc).2
  · have wl := wlen_word hz b
    have h1 : Tk (L ++ g).length (cd z ++ t) (((L ++ g).length, z) :: l) := by
      cases e : cd z with
      | nil => exact absurd e (wd_ne hz)
      | cons c r =>
        rw [e] at wl
        have n32 := (wd_clean hz c (by show c ∈ cd z; rw [e]; exact List.mem_cons_self ..)).1
        have hw : wlen (c :: (r ++ t)) = (c :: r).length := wl
        have hk := Tk.wd (s := (L ++ g).length) (c := c) (r := r ++ t) (l := l) n32 (by
          rw [hw]
          rw [show (c :: (r ++ t)).drop (c :: r).length = t by rw [← List.cons_append, List.drop_left]]
          rw [List.length_append (as := L ++ g), e] at k
          exact k)
        rw [hw, show (c :: (r ++ t)).take (c :: r).length = c :: r by rw [← List.cons_append, List.take_left]] at hk
        have ez : (⟨(c :: r).toArray⟩ : Str) = z := by
          rw [← e]
        rw [ez] at hk
        exact hk
    have h2 : Tk L.length (g ++ (cd z ++ t)) (((L ++ g).length, z) :: l) := tk_sp g _ _ _ hg (by rw [← List.length_append]; exact h1)
    have h3 : Brk last (g ++ (cd z ++ t)) := by
      cases g with
      | nil => exact brk_word I.lastW hz (hp rfl)
      | cons c g =>
        rw [hg c (List.mem_cons_self ..)]
        exact brk_sp
    have h4 := I.tk _ _ h3 h2
    rw [List.append_assoc, List.append_assoc, List.append_assoc]
    exact h4
/-- the line's end -/
theorem LineInv.row {L : List Nat} {last z : Str} {fnd : List (Nat × Str)} (I : LineInv L last fnd) {s rm : List Nat} (hs : s = [] ∨ s = [32]) (hr : rm = [] ∨ ∃ r, rm = 35 :: r) (hz : cd z = L ++ s ++ rm) : RowOf z (fnd ++ [(z.length, ("" : Str))]) := by
  refine ⟨fnd, ?_, rfl⟩
  have h1 : Tk 0 (L ++ s) fnd := by
    have h2 := I.tk s [] (by rcases hs with rfl | rfl <;> first | exact brk_nil | exact brk_sp) (by rcases hs with rfl | rfl <;> first | exact .nil _ | exact .sp (.nil _))
    rw [List.append_nil] at h2
    exact h2
  have h3 : toldOf z = L ++ s := by
    unfold toldOf
    rw [show z.cps.toList = L ++ s ++ rm from hz]
    have hc : ∀ c ∈ L ++ s, decide (c ≠ 35) = true := fun c hc => by
      rcases List.mem_append.mp hc with hc | hc
      · exact decide_eq_true (I.clean c hc).1
      · rcases hs with rfl | rfl
        · cases hc
        · rw [List.mem_singleton.mp hc]
          decide
    rw [List.takeWhile_append_of_pos hc]
    rcases hr with rfl | ⟨r, rfl⟩
    · rw [List.takeWhile_nil, List.append_nil]
    · rw [List.takeWhile_cons_of_neg (by decide), List.append_nil]
  rw [h3]
  exact h1
/-- lines one under the other -/
def joinLF (ls : List Str) : Str := Txt.join "\n" ls
theorem text_of {ls : List Str} {rows : List (List (Nat × Str))} (hne : ls ≠ []) (hn : ∀ z ∈ ls, 10 ∉ cd z) (hf : F2 RowOf ls rows) (h1 : (joinLF ls).length ≤ 50000) (h2 : ls.length ≤ 50000) (h3 : ∀ z ∈ ls, z.length ≤ 50000) : TextOf (joinLF ls) rows := by
  have ey : TL.tl "\n" = 10 :: [] := by decide +kernel
  have e : Txt.split (joinLF ls) "\n" = ls := TL.split_join (y := "\n") ey (by decide +kernel) hne hn
  exact ⟨h1, by rw [e]; exact h2, by rw [e]; exact h3, by rw [e]; exact hf⟩
theorem joinLF_one (z : Str) : joinLF [z] = "" ++ "" ++ z := by
  unfold joinLF
  rw [TL.join_eq]
  refine TL.ext_tl ?_
  rw [TL.tl_join, TL.tl_append, TL.tl_append]
  have e : TL.tl "" = [] := by decide +kernel
  rw [e]
  rfl
theorem joinL_snoc (y : List Nat) : ∀ (ls : List (List Nat)) (z : List Nat), ls ≠ [] → TL.joinL y (ls ++ [z]) = TL.joinL y ls ++ (y ++ z)
  | [], _, h => absurd rfl h
  | [a], z, _ => by
    show a ++ (y ++ z) = a ++ (y ++ z)
    rfl
  | a :: b :: r, z, _ => by
    have ih := joinL_snoc y (b :: r) z (by simp)
    show a ++ (y ++ TL.joinL y ((b :: r) ++ [z])) = a ++ (y ++ TL.joinL y (b :: r)) ++ (y ++ z)
    rw [ih]
    simp only [List.append_assoc]
theorem joinLF_snoc {ls : List Str} (z : Str) (h : ls ≠ []) : joinLF (ls ++ [z]) = joinLF ls ++ "\n" ++ z := by
  unfold joinLF
  rw [TL.join_eq, TL.join_eq]
  refine TL.ext_tl ?_
  rw [TL.tl_join, TL.tl_append, TL.tl_append, TL.tl_join, List.map_append]
  rw [show [z].map TL.tl = [TL.tl z] from rfl, joinL_snoc _ _ _ (fun e => h (List.map_eq_nil_iff.mp e)), List.append_assoc]
end K31
set_option Elab.async false
set_option linter.all false
set_option maxRecDepth 100000
set_option maxHeartbeats 4000000
namespace K31
open PySem PySem.Spec PyProof.Rows L2
/-! the law's generator: words spoilt, texts laid -/
local macro_rules | `(tactic| walk_at "st") => `(tactic| try simp only [L2.start, List.map_cons, List.map_nil, List.length_cons, List.length_nil, Nat.reduceAdd, Nat.reduceSub, Nat.add_zero, Nat.zero_add, List.replicate, List.cons_append, List.nil_append, List.append_nil])
local macro_rules | `(tactic| walk_at "wp") => `(tactic| try simp only [tSeq, tIfS, tRet, tOr, tAnd, tNot, tTest, tB, tOp, rI0, rI, rU, tCB, tCons, tNil, tVar, tC, tAsg, gName, tNext, tDrop, tOrV, tAndV, tNotV, tIf, tUn, tYes, wipe, tCall, tTup, tLst, tSl, tPart, tNoPart, tM0, tM1, tIsN, tNotN, tChain, tPar, tBM, tFld, tMeth,
  List.getElem?_cons_zero, List.getElem?_cons_succ, Option.some.injEq, exists_eq_left, exists_eq_left', V.str.injEq, V.int.injEq, V.bl.injEq, V.ref.injEq, List.cons.injEq, and_true, true_and, and_self, exists_and_left, exists_and_right, exists_eq_right, exists_eq, exists_const, reduceCtorEq, decide_eq_true_eq, decide_eq_false_iff_not, List.set_cons_zero, List.set_cons_succ, sg_inj, rEq_ss, rNe_ss, rEq_ii, rNe_ii, ↓reduceIte, Bool.false_eq_true, List.nil_append, List.cons_append, List.append_nil, not_true_eq_false, not_false_eq_true, Bool.not_eq_true', Bool.not_true, Bool.not_false, decide_true, decide_false, or_false, false_or, or_true, true_or, false_and, and_false])
def spSpoilt : Sp := fun vs H Q _ => ∃ (p a : Addr) (ws : List Str), vs = [.ref p, .ref a] ∧ PotAt H p ∧ WordsAt H a ws ∧ Gen ws 46 ∧ GenQ H p 49 Q
def spParted : Sp := fun vs H Q _ => ∃ (l z : Str), vs = [.str l, .str z] ∧ l.length ≤ 1000 ∧ 1 ≤ z.length ∧ z.length ≤ 1000 ∧ ∀ H', Kp AllS H H' → Q (.bl (partedB l z)) H'
/-- a laid row: words, then the line's end -/
def RowOk (r : List (Nat × Str)) : Prop := ∃ (l : List (Nat × Str)) (s : Nat), r = l ++ [(s, ("" : Str))] ∧ (∀ q ∈ l, Wd q.2 = true) ∧ l.length ≤ 49
def spLaid : Sp := fun vs H Q _ => ∃ (p : Addr), vs = [.ref p] ∧ PotAt H p ∧ ∀ t a z rows H', Kp PotS H H' → PotAt H' p → H' t = some (.tup [.str z, .ref a]) → RowsAt H' a rows → TextOf z rows → (∀ r ∈ rows, RowOk r) → 1 ≤ rows.length → rows.length ≤ 6 → Q (.ref t) H'
/-! rows as data -/
def tokD (q : Nat × Str) : PyData := .tuple [.int (q.1 : Nat), .str q.2]
def rowD (r : List (Nat × Str)) : PyData := .list (r.map tokD)
def rowsD (rs : List (List (Nat × Str))) : PyData := .list (rs.map rowD)
theorem F2.dpAll {α : Type} {K : PySem.W.Frag} {H : Hp} {f : α → PyData} : ∀ {vs : List V} {l : List α}, F2 (fun v x => Dp K H v (f x)) vs l → DpAll K H vs (l.map f)
  | _, _, .nil => .nil
  | _, _, .cons h r => .cons h r.dpAll
theorem RowAt.dp {K : PySem.W.Frag} {H : Hp} {a : Addr} {l : List (Nat × Str)} (h : RowAt H a l) : Dp K H (.ref a) (rowD l) := by
  obtain ⟨vs, h1, h2⟩ := h
  refine .lst (sqS h1) (F2.dpAll (h2.imp ?_))
  rintro v q ⟨p, rfl, h⟩
  exact .tup (sqT h) (.cons (.int _) (.cons (.str _) .nil))
theorem RowsAt.dp {K : PySem.W.Frag} {H : Hp} {a : Addr} {l : List (List (Nat × Str))} (h : RowsAt H a l) : Dp K H (.ref a) (rowsD l) := by
  obtain ⟨vs, h1, h2⟩ := h
  refine .lst (sqS h1) (F2.dpAll (h2.imp ?_))
  rintro v q ⟨p, rfl, h⟩
  exact h.dp
theorem all_lay {α : Type} {f : α → PyData} {k : Nat} : ∀ {l : List α}, (∀ x ∈ l, (f x).canLay0 = true ∧ (f x).depth ≤ k) → PyData.canLayAll0 (l.map f) = true ∧ PyData.depthAll (l.map f) ≤ k
  | [], _ => ⟨rfl, Nat.zero_le _⟩
  | a :: l, h => by
    have h1 := h a (List.mem_cons_self ..)
    have h2 := all_lay (l := l) fun x hx => h x (List.mem_cons_of_mem _ hx)
    rw [List.map_cons]
    unfold PyData.canLayAll0 PyData.depthAll
    rw [h1.1, h2.1]
    exact ⟨rfl, Nat.max_le.mpr ⟨h1.2, h2.2⟩⟩
theorem strOk_wd {z : Str} (h : Wd z = true ∨ z = "") : PyData.strOk z = true := by
  rcases h with h | h
  · unfold PyData.strOk
    rw [Array.all_eq_true']
    intro c hc
    have hc2 : c ∈ cd z := by simpa using hc
    rcases wd_cases h with ⟨_, _, h3⟩ | h
    · have h2 : (cd lettersS ++ cd digitsS).all (fun c => decide (c < 0x110000)) = true := by decide +kernel
      exact List.all_eq_true.mp h2 c (isW_in (List.all_eq_true.mp h3 c hc2))
    · have h2 : odds.all (fun z => (cd z).all fun c => decide (c < 0x110000)) = true := by decide +kernel
      exact List.all_eq_true.mp (List.all_eq_true.mp h2 z h) c hc2
  · rw [h]
    decide +kernel
theorem rowOk_lay {r : List (Nat × Str)} (h : RowOk r) : (rowD r).canLay0 = true ∧ (rowD r).depth ≤ 2 := by
  obtain ⟨l, s, rfl, hw, _⟩ := h
  have h1 := all_lay (f := tokD) (k := 1) (l := l ++ [(s, ("" : Str))]) fun q hq => by
    have hz : PyData.strOk q.2 = true := by
      rcases List.mem_append.mp hq with hq | hq
      · exact strOk_wd (.inl (hw q hq))
      · rw [List.mem_singleton.mp hq]
        exact strOk_wd (.inr rfl)
    unfold tokD
    simp only [PyData.canLay0, PyData.canLayAll0, hz, PyData.depth, PyData.depthAll]
    exact ⟨rfl, by decide⟩
  unfold rowD PyData.canLay0 PyData.depth
  exact ⟨h1.1, Nat.succ_le_succ h1.2⟩
theorem rowsD_shaped {rs : List (List (Nat × Str))} (h : ∀ r ∈ rs, RowOk r) : SeqAt.shaped (rowsD rs) = true := by
  have h1 := all_lay (f := rowD) (k := 2) (l := rs) fun r hr => rowOk_lay (h r hr)
  unfold SeqAt.shaped rowsD
  have e1 : (PyData.list (rs.map rowD)).canLay0 = true := by
    unfold PyData.canLay0
    exact h1.1
  have e2 : (PyData.list (rs.map rowD)).depth ≤ 64 := by
    unfold PyData.depth
    have := h1.2
    omega
  rw [e1, decide_eq_true e2]
  rfl
/-- for over enumerate of a list -/
theorem for_enumL {K : PySem.W.Frag} {a : Addr} {xs : List V} {g : TG} {tb : TS} {D : Ends} {σ : L2.St} {H : Hp} (Pv : Nat → L2.St → Hp → Prop) (h0 : Pv 0 σ H) (hl : ∀ i σ H, i ≤ xs.length → Pv i σ H → SqL K H a xs)
    (hs : ∀ i x T σ H, xs[i]? = some x → Pv i σ H → H T = none → g (.ref T) σ (upd H T (.tup [.int (i : Nat), x])) fun σ2 H2 => tb { D with nx := Pv (i + 1), ct := Pv (i + 1), bk := D.nx } σ2 H2) (hd : ∀ σ H, Pv xs.length σ H → D.nx σ H) :
    ∃ W : Nat → Nat → L2.St → Hp → Prop, (∃ m, W 0 m σ H) ∧ ∀ i m σ H, W i m σ H →
      ((Ite K a).stop i H ∧ D.nx σ H) ∨ ((Ite K a).go i H ∧ ∃ N : L2.St → Hp → Prop, (∀ σ' H', N σ' H' → ∃ m', m' < m ∧ W (i + 1) m' σ' H') ∧ ∀ x H', (Ite K a).yld i H x H' → g x σ H' fun σ2 H2 => tb { D with nx := N, ct := N, bk := D.nx } σ2 H2) := by
  refine for_it (walk_enum (xs := xs)) Pv h0 hl (fun i x σ H H' hi p y => ?_) hd
  obtain ⟨T, x1, x2, rfl, hT, rfl, e1, e2⟩ := y
  have e3 : V.int (i : Nat) = x1 := Option.some.inj e1
  subst e3
  exact hs i x2 T σ H e2 p hT
/-- some lists of words in a list -/
def RowsW (H : Hp) (D : Addr) (vs : List V) (rws : List (List Str)) : Prop := H D = some (.lst vs) ∧ F2 (fun v ws => ∃ a, v = .ref a ∧ a ≠ D ∧ WordsAt H a ws ∧ Gen ws 49) vs rws
theorem refPot {α : Type} {R : Addr → α → Prop} {vs : List V} {l : List α} (h : F2 (fun v x => ∃ a, v = V.ref a ∧ R a x) vs l) : PotS (.lst vs) := by
  cases h with
  | nil => exact potN (by decide)
  | cons h r =>
    obtain ⟨p, rfl, _⟩ := h
    exact potI fun i z => by cases z
theorem RowsW.pot {H H' : Hp} {D : Addr} {vs : List V} {rws : List (List Str)} (h : RowsW H D vs rws) (e : Kp PotS H H') : RowsW H' D vs rws :=
  ⟨e _ _ h.1 (refPot h.2), h.2.imp fun v ws ⟨a, ev, n, w, g⟩ => ⟨a, ev, n, w.pot e, g⟩⟩
theorem Kp.potK {H H' : Hp} (e : Kp PotS H H') {p : Addr} {xs : List V} (h : H p = some (.lst xs)) (n : PotS (.lst xs)) : H' p = some (.lst xs) := e _ _ h n
theorem cutV_pre {α : Type} (f : α → V) (ws : List α) (k : Nat) : cutV (ws.map f) none (some (k : Int)) = (ws.take k).map f := by
  unfold cutV
  rw [HT.sIx_nat, HT.sIx_none, List.drop_zero, Nat.sub_zero, List.length_map, List.map_take]
  by_cases h : k ≤ ws.length
  · rw [Nat.min_eq_left h]
  · rw [Nat.min_eq_right (by omega), List.take_of_length_le (by rw [List.length_map]; omega), List.take_of_length_le (by rw [List.length_map]; omega)]
theorem cutV_suf {α : Type} (f : α → V) (ws : List α) (k : Nat) : cutV (ws.map f) (some (k : Int)) none = (ws.drop k).map f := by
  unfold cutV
  rw [HT.sIx_nat, HT.sIx_none, List.length_map, List.map_drop]
  by_cases h : k ≤ ws.length
  · rw [Nat.min_eq_left h, List.take_of_length_le (by rw [List.length_drop, List.length_map]; omega)]
  · rw [Nat.min_eq_right (by omega), List.drop_eq_nil_of_le (by rw [List.length_map]; omega), List.drop_eq_nil_of_le (by rw [List.length_map]; omega), List.take_nil]
section
variable {P : Program} {w : World} {K : PySem.W.Frag} {mg : Str → Option Value} {base : Heap}
abbrev N_Lspoilt : List Str := ["_law_pot_here", "_law_words", "_law_found", "_law_turn", "_law_at", "_law_way", "_law_some", "_law_odd"]
abbrev P_Lspoilt : List Str := ["_law_pot_here", "_law_words"]
theorem sc_Lspoilt : FnScope N_Lspoilt P_Lspoilt (defScope s_Lspoilt) := ⟨rfl, rfl, rfl, by decide +kernel, rfl, by decide +kernel, by decide +kernel⟩
theorem ok_Lspoilt (T : Tx w K mg) : Cl P w K mg base 3 "_law_spoilt" P_Lspoilt (spSpoilt) := by
  refine Cl.mk T.d_Lspoilt rfl T.g_Lspoilt sc_Lspoilt (fun _ _ _ _ _ _ us hl => match us, hl with | [_, _], _ => rfl) (fun vs H Q E h => ?_) (fun cdv A outer s H vs Q E hr h => ?_)
  · obtain ⟨_, _, _, rfl, _⟩ := h
    rfl
  · obtain ⟨p, a, ws, rfl, hp, ha, hg, q⟩ := h
    refine ⟨_, (pss_cons (ps_set (i := 2) sc_Lspoilt.nd rfl (Or.inl rfl) (pe_callTy call_list_of (by rfl) T.f_list (by decide +kernel) (pa_cons (pv 1) pa_nil)))
      (pss_cons (ps_for (passes_of rfl) rfl (pi_range1 rfl T.f_range (pa_cons (pe_fn (ok_Lpick T) hr (by decide) (by rfl) (pa_cons (pv 0) (pa_cons (pe_lst (pa_cons pe_int (pa_cons pe_int (pa_cons pe_int (pa_cons pe_int (pa_cons pe_int (pa_cons pe_int pa_nil))))))) pa_nil))) pa_nil)) (pg_name (i := 3) sc_Lspoilt.nd rfl (Or.inl rfl)) (pss_cons (ps_par (i := 4) (j := 5) rfl sc_Lspoilt.nd rfl rfl (by decide) rfl rfl (pa_cons (pe_fn (ok_Ldraw T) hr (by decide) (by rfl) (pa_cons (pv 0) (pa_cons (pe_op op_add (pe_callB call_len_seq (by rfl) T.f_len PySem.boot_len (pa_cons (pv 2) pa_nil)) pe_int) pa_nil))) (pa_cons (pe_fn (ok_Ldraw T) hr (by decide) (by rfl) (pa_cons (pv 0) (pa_cons pe_int pa_nil))) pa_nil)) (by with_unfolding_all rfl))
      (pss_cons (ps_set (i := 6) sc_Lspoilt.nd rfl (Or.inl rfl) (pe_lst (pa_cons pe_str (pa_cons pe_str (pa_cons pe_str (pa_cons pe_str (pa_cons pe_str (pa_cons pe_str (pa_cons pe_str (pa_cons pe_str (pa_cons pe_str (pa_cons pe_str (pa_cons pe_str (pa_cons pe_str (pa_cons pe_str (pa_cons pe_str (pa_cons pe_str pa_nil)))))))))))))))))
      (pss_cons (ps_set (i := 7) sc_Lspoilt.nd rfl (Or.inl rfl) (pe_fn (ok_Lpick T) hr (by decide) (by rfl) (pa_cons (pv 0) (pa_cons (pe_op op_cat (pv 6) (pe_lst (pa_cons pe_str (pa_cons pe_str (pa_cons pe_str (pa_cons pe_str (pa_cons pe_str (pa_cons pe_str (pa_cons (pe_op op_repS pe_str pe_int) pa_nil))))))))) pa_nil))))
      (pss_one (ps_if (pt_cmpR op_eq (pv 5) pe_int (nomark _)) (pss_one (ps_set (i := 2) sc_Lspoilt.nd rfl (Or.inl rfl) (pe_slice sl_list (pv 2) po_none (po_some (pv 4))))) (pss_one (ps_set (i := 2) sc_Lspoilt.nd rfl (Or.inl rfl) (pe_op op_cat (pe_op op_cat (pe_slice sl_list (pv 2) po_none (po_some (pv 4))) (pe_ix ix_list (pe_lst (pa_cons (pe_lst pa_nil) (pa_cons (pe_lst (pa_cons (pv 7) pa_nil)) (pa_cons (pe_lst (pa_cons (pv 7) pa_nil)) pa_nil)))) (pv 5) (fun _ _ => rfl))) (pe_slice sl_list (pv 2) (po_some (pe_op op_add (pv 4) (pe_ix ix_list (pe_lst (pa_cons pe_int (pa_cons pe_int (pa_cons pe_int pa_nil)))) (pv 5) (fun _ _ => rfl)))) po_none))))))))))
      (pss_one (ps_ret (pv 2))))), ?_⟩
    walk_at "st"
    walk_at "wp"
    refine ⟨_, .inl (sqS ha), ?_⟩
    (intro f hf; generalize hg0 : upd _ f _ = H1; obtain ⟨e1, h1⟩ := upd_ex hf hg0; clear hg0)
    refine ⟨_, rfl, sz3 (Nat.le_of_ble_eq_true rfl), ?_⟩
    (intro b hb; generalize hg0 : upd _ b _ = H2; obtain ⟨e2, h2⟩ := upd_ex hb hg0; clear hg0)
    refine ⟨p, _, rfl, (hp.all e1).all e2, .inl ⟨b, _, rfl, h2, potN (by decide), Nat.le_of_ble_eq_true rfl, Nat.le_of_ble_eq_true rfl, fun v H3 hv e3 p3 => ?_⟩⟩
    have f3 := (e1.trans e2).pot.trans e3
    obtain ⟨k, rfl, hk⟩ : ∃ k : Nat, v = .int k ∧ k ≤ 3 := by
      simp only [List.mem_cons, List.not_mem_nil, or_false] at hv
      rcases hv with rfl | rfl | rfl | rfl | rfl | rfl
      · exact ⟨0, rfl, by decide⟩
      · exact ⟨0, rfl, by decide⟩
      · exact ⟨1, rfl, by decide⟩
      · exact ⟨1, rfl, by decide⟩
      · exact ⟨2, rfl, by decide⟩
      · exact ⟨3, rfl, by decide⟩
    refine ⟨_, rfl, by omega, by omega, ?_⟩
    rw [Int.toNat_natCast]
    have w3 : WordsAt H3 f ws := (WordsAt.all (show WordsAt H1 f ws from h1) e2).pot e3
    obtain ⟨Pv, hP⟩ := mkI fun (i : Nat) σ H4 => ∃ (c : Addr) (wc : List Str) (o3 o4 o5 o6 o7 : Option V), σ = [some (V.ref p), some (V.ref a), some (V.ref c), o3, o4, o5, o6, o7] ∧ Fr H c ∧ WordsAt H4 c wc ∧ Gen wc (46 + i) ∧ Kp PotS H H4 ∧ PotAt H4 p
    refine for_range Pv ((hP _ _ _).mpr ⟨f, ws, none, none, none, none, none, rfl, Fr.of (Kp.refl H) hf, w3, hg, f3, p3⟩) (fun i σ H4 hi pv => ?_) (fun σ H4 pv => ?_)
    · obtain ⟨c, wc, o3, o4, o5, o6, o7, rfl, fc, hc, gc, f4, p4⟩ := (hP _ _ _).mp pv
      walk_at "wp"
      have lc := gc.2
      refine ⟨_, .inl (sqS hc), p, _, rfl, by omega, by rw [List.length_map]; omega, p4, fun r1 H5 r10 r11 e5 p5 => ⟨p, _, rfl, by decide, by decide, p5, fun r2 H6 r20 r21 e6 p6 => ⟨_, _, ⟨rfl, rfl⟩, sz3 (Nat.le_of_ble_eq_true rfl), ?_⟩⟩⟩
      have f6 := (f4.trans e5).trans e6
      (intro b1 hb1; generalize hg0 : upd _ b1 _ = H7; obtain ⟨e7, h7⟩ := upd_ex hb1 hg0; clear hg0)
      refine ⟨_, _, rfl, rfl, mulOk77, sz3 (Nat.le_of_ble_eq_true rfl), ?_⟩
      (intro b2 hb2; generalize hg0 : upd _ b2 _ = H8; obtain ⟨e8, h8⟩ := upd_ex hb2 hg0; clear hg0)
      refine st_cat (e8 _ _ h7 trivial) h8 (Nat.le_of_ble_eq_true rfl) fun b3 H9 hb3 e9 h9 => ?_
      have f9 := ((f6.trans e7.pot).trans e8.pot).trans e9.pot
      refine ⟨p, _, rfl, ((p6.all e7).all e8).all e9, .inl ⟨b3, _, rfl, h9, potI (fun i z => by cases z), Nat.le_of_ble_eq_true rfl, Nat.le_of_ble_eq_true rfl, fun v H10 hv e10 p10 => ?_⟩⟩
      obtain ⟨od, rfl, god⟩ : ∃ od : Str, v = .str od ∧ Wd od = true := by
        simp only [List.cons_append, List.nil_append, List.mem_cons, List.not_mem_nil, or_false] at hv
        rcases hv with rfl | rfl | rfl | rfl | rfl | rfl | rfl | rfl | rfl | rfl | rfl | rfl | rfl | rfl | rfl | rfl | rfl | rfl | rfl | rfl | rfl | rfl <;> exact ⟨_, rfl, by decide +kernel⟩
      have f10 := f9.trans e10
      have hc10 : WordsAt H10 c wc := ((((hc.pot e5).pot e6).all ((e7.trans e8).trans e9))).pot e10
      walk_at "wp"
      obtain ⟨k1, rfl⟩ := Int.eq_ofNat_of_zero_le r10
      have ev1 := cutV_pre V.str wc k1
      have m1 : ∀ z ∈ wc.take k1, Wd z = true := fun z hz => gc.1 z (List.mem_of_mem_take hz)
      have n1 : (wc.take k1).length ≤ k1 := by rw [List.length_take]; omega
      have n1' : (wc.take k1).length ≤ wc.length := by rw [List.length_take]; omega
      rw [List.length_map] at r11
      by_cases c3 : r2 = 3
      · rw [if_pos c3]
        refine ⟨c, _, rfl, sqS hc10, ?_⟩
        (intro b4 hb4; generalize hg0 : upd _ b4 _ = H11; obtain ⟨e11, h11⟩ := upd_ex hb4 hg0; clear hg0)
        rw [ev1] at h11
        exact (hP _ _ _).mpr ⟨b4, wc.take k1, _, _, _, _, _, rfl, Fr.of f10 hb4, h11, ⟨m1, by omega⟩, f10.trans e11.pot, p10.all e11⟩
      · rw [if_neg c3]
        refine ⟨c, _, rfl, sqS hc10, ?_⟩
        (intro b4 hb4; generalize hg0 : upd _ b4 _ = H11; obtain ⟨e11, h11⟩ := upd_ex hb4 hg0; clear hg0)
        rw [ev1] at h11
        walk_at "wp"
        refine ⟨sz3 (Nat.le_of_ble_eq_true rfl), ?_⟩
        (intro c1 hc1; generalize hg0 : upd _ c1 _ = H12; obtain ⟨e12, h12⟩ := upd_ex hc1 hg0; clear hg0)
        refine ⟨sz3 (Nat.le_of_ble_eq_true rfl), ?_⟩
        (intro c2 hc2; generalize hg0 : upd _ c2 _ = H13; obtain ⟨e13, h13⟩ := upd_ex hc2 hg0; clear hg0)
        refine ⟨sz3 (Nat.le_of_ble_eq_true rfl), ?_⟩
        (intro c4 hc4; generalize hg0 : upd _ c4 _ = H14; obtain ⟨e14, h14⟩ := upd_ex hc4 hg0; clear hg0)
        refine ⟨sz3 (Nat.le_of_ble_eq_true rfl), ?_⟩
        (intro c5 hc5; generalize hg0 : upd _ c5 _ = H15; obtain ⟨e15, h15⟩ := upd_ex hc5 hg0; clear hg0)
        have x1 : WordsAt H15 c1 [] := WordsAt.all (show WordsAt H12 c1 [] from h12) ((e13.trans e14).trans e15)
        have x2 : WordsAt H15 c2 [od] := WordsAt.all (show WordsAt H13 c2 [od] from h13) (e14.trans e15)
        have x4 : WordsAt H15 c4 [od] := WordsAt.all (show WordsAt H14 c4 [od] from h14) e15
        have e1115 := (((e11.trans e12).trans e13).trans e14).trans e15
        have f15 := f10.trans e1115.pot
        have p15 := p10.all e1115
        have hc15 := hc10.all e1115
        have hb15 : WordsAt H15 b4 (wc.take k1) := WordsAt.all (show WordsAt H11 b4 (wc.take k1) from h11) (((e12.trans e13).trans e14).trans e15)
        have rr : r2 = 0 ∨ r2 = 1 ∨ r2 = 2 := by omega
        obtain ⟨cm, wm, xm, km, hat, hwm, hgm, hax, hkm⟩ : ∃ (cm : Addr) (wm : List Str) (xm : Int) (km : Nat), atI [V.ref c1, V.ref c2, V.ref c4] r2 = some (V.ref cm) ∧ WordsAt H15 cm wm ∧ Gen wm 1 ∧ atI [V.int 1, V.int 0, V.int 1] r2 = some (V.int xm) ∧ xm = (km : Nat) := by
          rcases rr with e | e | e <;> rw [e]
          · exact ⟨c1, [], 1, 1, atI_nat (j := 0) rfl, x1, .nil, atI_nat (j := 0) rfl, rfl⟩
          · exact ⟨c2, [od], 0, 0, atI_nat (j := 1) rfl, x2, .cons god .nil, atI_nat (j := 1) rfl, rfl⟩
          · exact ⟨c4, [od], 1, 1, atI_nat (j := 2) rfl, x4, .cons god .nil, atI_nat (j := 2) rfl, rfl⟩
        refine st_ixL (sqS h15) hat ?_
        have g1 : Gen (wc.take k1) k1 := ⟨m1, n1⟩
        refine st_catW (n := k1) (m := 1) (k := k1 + 1) f15 p15 hb15 hwm g1 hgm (by omega) (by omega) fun r16 H16 fr16 f16 a16 p16 h16 g16 => ⟨sz3 (Nat.le_of_ble_eq_true rfl), ?_⟩
        (intro c17 hc17; generalize hg0 : upd _ c17 _ = H17; obtain ⟨e17, h17⟩ := upd_ex hc17 hg0; clear hg0)
        refine st_ixL (sqS h17) hax ⟨xm, rfl, ?_⟩
        have hc17' : WordsAt H17 c wc := (hc15.all a16).all e17
        refine ⟨c, _, rfl, sqS hc17', ?_⟩
        (intro c18 hc18; generalize hg0 : upd _ c18 _ = H18; obtain ⟨e18, h18⟩ := upd_ex hc18 hg0; clear hg0)
        rw [hkm, show ((k1 : Nat) : Int) + (km : Nat) = ((k1 + km : Nat) : Int) by omega, cutV_suf] at h18
        have g2 : Gen (wc.drop (k1 + km)) (wc.length - k1) := ⟨fun z hz => gc.1 z (List.mem_of_mem_drop hz), by rw [List.length_drop]; omega⟩
        refine st_catW (n := k1 + 1) (m := wc.length - k1) (k := 46 + (i + 1)) ((f16.trans e17.pot).trans e18.pot) ((p16.all e17).all e18) ((h16.all e17).all e18) h18 g16 g2 (by omega) (by omega) fun r19 H19 fr19 f19 a19 p19 h19 g19 => ?_
        exact (hP _ _ _).mpr ⟨r19, _, _, _, _, _, _, rfl, fr19, h19, g19, f19, p19⟩
    · obtain ⟨c, wc, o3, o4, o5, o6, o7, rfl, fc, hc, gc, f4, p4⟩ := (hP _ _ _).mp pv
      exact ⟨_, rfl, q c wc H4 fc f4 p4 hc (gc.le (by omega))⟩
abbrev N_Lis_parted : List Str := ["_law_last", "_law_word"]
abbrev P_Lis_parted : List Str := ["_law_last", "_law_word"]
theorem sc_Lis_parted : FnScope N_Lis_parted P_Lis_parted (defScope s_Lis_parted) := ⟨rfl, rfl, rfl, by decide +kernel, rfl, by decide +kernel, by decide +kernel⟩
theorem ok_Lis_parted (T : Tx w K mg) : Cl P w K mg base 1 "_law_is_parted" P_Lis_parted (spParted) := by
  refine Cl.mk T.d_Lis_parted rfl T.g_Lis_parted sc_Lis_parted (fun _ _ _ _ _ _ us hl => match us, hl with | [_, _], _ => rfl) (fun vs H Q E h => ?_) (fun cdv A outer s H vs Q E hr h => ?_)
  · obtain ⟨_, _, rfl, _⟩ := h
    rfl
  · obtain ⟨l, z, rfl, hl, hz1, hz, q⟩ := h
    refine ⟨_, (pss_cons (ps_if (pt_cmpR op_eq (pv 0) pe_str (nomark _)) (pss_one (ps_ret pe_bl)) pss_nil)
      (pss_cons (ps_if ((pw_and (pt_val (pe_m0 PySem.F.slot_str_isalnum PySem.F.type_str_isalnum mt_isalnum (pe_ix ix_str (pv 0) (pe_un un_neg pe_int) (fun _ _ => rfl)))) (pw_and1 (pt_val (pe_m0 PySem.F.slot_str_isalnum PySem.F.type_str_isalnum mt_isalnum (pe_ix ix_str (pv 1) pe_int (fun _ _ => rfl))))))).pt (pss_one (ps_ret pe_bl)) pss_nil)
      (pss_one (ps_ret (pe_and (pe_cmpR op_in_seq (pv 0) (pe_lst (pa_cons pe_str (pa_cons pe_str pa_nil))) (by with_unfolding_all rfl)) (pe_one (pe_cmpR op_eq (pe_ix ix_str (pv 1) pe_int (fun _ _ => rfl)) pe_str (nomark _)))))))), ?_⟩
    walk_at "st"
    walk_at "wp"
    unfold partedB at q
    by_cases c0 : l = ""
    · simp only [if_pos c0] at q ⊢
      exact q H (Kp.refl H)
    simp only [if_neg c0] at q
    rw [if_neg c0]
    have nl : cd l ≠ [] := fun e => c0 (TL.ext_tl (by rw [show TL.tl l = [] from e]; decide +kernel))
    obtain ⟨li, c, el⟩ : ∃ li c, cd l = li ++ [c] := ⟨_, _, (List.dropLast_concat_getLast nl).symm⟩
    have hlast : (cd l).getLast? = some c := by rw [el, List.getLast?_concat]
    obtain ⟨d, hd, had⟩ := head_sign hz1
    have hd2 : (cd z).head? = some d := hd
    simp only [hlast, hd2, Option.any_some] at q
    refine st_ixS (by omega) (by show atI (cd l) (-1) = some c; rw [el]; exact atI_last _ _) ⟨⟨_, rfl⟩, _, rfl, ?_⟩
    have tail : [V.str (Str.ofString "<"), V.str (Str.ofString ">")].length ≤ sizeLine ∧ ∀ (p : Addr), H p = none → rIn K false (V.str l) (V.ref p) (upd H p (HO.lst [V.str (Str.ofString "<"), V.str (Str.ofString ">")])) (fun x H1 => ∃ c, x = V.bl c ∧ if c = true then rIxS (V.str z) (V.int 0) H1 fun x H1 => rEq x (V.str (Str.ofString "=")) H1 Q else Q (V.bl false) H1) ∨ (al c && al d) = true := by
      refine ⟨sz3 (Nat.le_of_ble_eq_true rfl), ?_⟩
      (intro p hp; generalize hg0 : upd _ p _ = H1; obtain ⟨e1, h1⟩ := upd_ex hp hg0; clear hg0)
      by_cases cc : (al c && al d) = true
      · exact .inr cc
      refine .inl (st_in (ws := ["<", ">"]) rfl (.inl (sqS h1)) ⟨_, rfl, ?_⟩)
      have q1 := q H1 e1
      rw [if_neg cc] at q1
      by_cases cm : l ∈ (["<", ">"] : List Str)
      · rw [decide_eq_true cm] at q1 ⊢
        rw [if_pos rfl]
        refine st_ixS (by omega) had ?_
        rw [rEq_ss, show Str.ofString "=" = (⟨#[61]⟩ : Str) by decide +kernel]
        by_cases ce : d = 61
        · subst ce
          simpa using q1
        · have n1 : ¬ ((⟨#[d]⟩ : Str) = ⟨#[61]⟩) := fun e => ce (sg_inj.mp e)
          rw [decide_eq_false n1]
          have n2 : ¬ (some d = some 61) := fun e => ce (Option.some.inj e)
          simpa [n2] using q1
      · rw [decide_eq_false cm] at q1 ⊢
        rw [if_neg Bool.false_ne_true]
        exact q1
    by_cases c1 : Txt.isalnum ⟨#[c]⟩ = true
    · rw [if_pos c1]
      refine st_ixS (by omega) had ⟨⟨_, rfl⟩, _, rfl, ?_⟩
      by_cases c2 : Txt.isalnum ⟨#[d]⟩ = true
      · rw [if_pos c2]
        have q1 := q H (Kp.refl H)
        have e : (al c && al d) = true := by
          unfold al
          rw [c1, c2]
          rfl
        rw [if_pos e] at q1
        exact q1
      · rw [if_neg c2]
        refine ⟨tail.1, fun p hp => (tail.2 p hp).resolve_right fun h => c2 ?_⟩
        rw [Bool.and_eq_true] at h
        exact h.2
    · rw [if_neg c1]
      refine ⟨tail.1, fun p hp => (tail.2 p hp).resolve_right fun h => c1 ?_⟩
      rw [Bool.and_eq_true] at h
      exact h.1
abbrev N_Llaid : List Str := ["_law_pot_here", "_law_rows", "_law_many", "_law_is_spoilt", "_law_turn", "_law_words", "_law_is_here", "_law_text", "_law_laid_here", "_law_at", "_law_line", "_law_last", "_law_found", "_law_word", "_law_gap"]
abbrev P_Llaid : List Str := ["_law_pot_here"]
theorem sc_Llaid : FnScope N_Llaid P_Llaid (defScope s_Llaid) := ⟨rfl, rfl, rfl, by decide +kernel, rfl, by decide +kernel, by decide +kernel⟩
theorem ok_Llaid (T : Tx w K mg) : Cl P w K mg base 7 "_law_laid" P_Llaid (spLaid) := by
  refine Cl.mk T.d_Llaid rfl T.g_Llaid sc_Llaid (fun _ _ _ _ _ _ us hl => match us, hl with | [_], _ => rfl) (fun vs H Q E h => ?_) (fun cdv A outer s H vs Q E hr h => ?_)
  · obtain ⟨_, rfl, _⟩ := h
    rfl
  · obtain ⟨p, rfl, hp, q⟩ := h
    refine ⟨_, (pss_cons (ps_par3 (i := 1) (j := 2) (l := 3) rfl sc_Llaid.nd rfl rfl rfl (by decide) (by decide) (by decide) rfl rfl rfl (pa_cons (pe_lst pa_nil) (pa_cons (pe_fn (ok_Ldraw T) hr (by decide) (by rfl) (pa_cons (pv 0) (pa_cons pe_int pa_nil))) (pa_cons (pe_cmpR op_gt (pe_fn (ok_Ldraw T) hr (by decide) (by rfl) (pa_cons (pv 0) (pa_cons pe_int pa_nil))) pe_int (nomark _)) pa_nil))) (by with_unfolding_all rfl))
      (pss_cons (ps_for (passes_of rfl) rfl (pi_range1 rfl T.f_range (pa_cons (pv 2) pa_nil)) (pg_name (i := 4) sc_Llaid.nd rfl (Or.inl rfl)) (pss_cons (ps_set (i := 5) sc_Llaid.nd rfl (Or.inl rfl) (pe_ifExp (pt_cmpR op_gt (pe_fn (ok_Ldraw T) hr (by decide) (by rfl) (pa_cons (pv 0) (pa_cons pe_int pa_nil))) pe_int (nomark _)) (pe_fn (ok_Lstatement T) hr (by decide) (by rfl) (pa_cons (pv 0) pa_nil)) (pe_lst pa_nil)))
      (pss_cons (ps_set (i := 6) sc_Llaid.nd rfl (Or.inl rfl) (pe_and (pv 3) (pe_one (pe_cmpR op_eq (pe_fn (ok_Ldraw T) hr (by decide) (by rfl) (pa_cons (pv 0) (pa_cons pe_int pa_nil))) pe_int (nomark _)))))
      (pss_one (ps_expr (pe_bm PySem.F.plainAttrs_list PySem.F.slot_list_append PySem.F.type_list_append mt_append (pv 1) (pa_cons (pe_ifExp (pt_val (pv 6)) (pe_fn (ok_Lspoilt T) hr (by decide) (by rfl) (pa_cons (pv 0) (pa_cons (pv 5) pa_nil))) (pv 5)) pa_nil)))))))
      (pss_cons (ps_par (i := 7) (j := 8) rfl sc_Llaid.nd rfl rfl (by decide) rfl rfl (pa_cons pe_str (pa_cons (pe_lst pa_nil) pa_nil)) (by with_unfolding_all rfl))
      (pss_cons (ps_for (passes_of rfl) rfl (pi_enum rfl T.f_enumerate (pa_cons (pv 1) pa_nil)) (pg_tup (n := 2) rfl (pgs_cons (pg_name (i := 9) sc_Llaid.nd rfl (Or.inl rfl)) (pgs_cons (pg_name (i := 5) sc_Llaid.nd rfl (Or.inl rfl)) pgs_nil))) (pss_cons (ps_par3 (i := 10) (j := 11) (l := 12) rfl sc_Llaid.nd rfl rfl rfl (by decide) (by decide) (by decide) rfl rfl rfl (pa_cons (pe_fn (ok_Lpick T) hr (by decide) (by rfl) (pa_cons (pv 0) (pa_cons (pe_lst (pa_cons pe_str (pa_cons pe_str (pa_cons pe_str pa_nil)))) pa_nil))) (pa_cons pe_str (pa_cons (pe_lst pa_nil) pa_nil))) (by with_unfolding_all rfl))
      (pss_cons (ps_for (passes_of rfl) rfl (pi_list (pv 5)) (pg_name (i := 13) sc_Llaid.nd rfl (Or.inl rfl)) (pss_cons (ps_set (i := 14) sc_Llaid.nd rfl (Or.inl rfl) (pe_fn (ok_Lpick T) hr (by decide) (by rfl) (pa_cons (pv 0) (pa_cons (pe_lst (pa_cons pe_str (pa_cons pe_str (pa_cons pe_str (pa_cons pe_str pa_nil))))) pa_nil))))
      (pss_cons (ps_set (i := 10) sc_Llaid.nd rfl (Or.inl rfl) (pe_op op_add_str (pv 10) (pe_ifExp ((pw_and (pt_cmpR op_eq (pv 14) pe_str (nomark _)) (pw_and1 (pt_val (pe_fn (ok_Lis_parted T) hr (by decide) (by rfl) (pa_cons (pv 11) (pa_cons (pv 13) pa_nil))))))).pt pe_str (pv 14))))
      (pss_cons (ps_expr (pe_bm PySem.F.plainAttrs_list PySem.F.slot_list_append PySem.F.type_list_append mt_append (pv 12) (pa_cons (pe_tup (pa_cons (pe_callB call_len_str (by rfl) T.f_len PySem.boot_len (pa_cons (pv 10) pa_nil)) (pa_cons (pv 13) pa_nil))) pa_nil)))
      (pss_one (ps_par (i := 10) (j := 11) rfl sc_Llaid.nd rfl rfl (by decide) rfl rfl (pa_cons (pe_op op_add_str (pv 10) (pv 13)) (pa_cons (pv 13) pa_nil)) (by with_unfolding_all rfl)))))))
      (pss_cons (ps_set (i := 10) sc_Llaid.nd rfl (Or.inl rfl) (pe_op op_add_str (pv 10) (pe_fn (ok_Lpick T) hr (by decide) (by rfl) (pa_cons (pv 0) (pa_cons (pe_lst (pa_cons pe_str (pa_cons pe_str (pa_cons pe_str (pa_cons pe_str (pa_cons pe_str pa_nil)))))) pa_nil)))))
      (pss_cons (ps_expr (pe_bm PySem.F.plainAttrs_list PySem.F.slot_list_append PySem.F.type_list_append mt_append (pv 8) (pa_cons (pe_op op_cat (pv 12) (pe_lst (pa_cons (pe_tup (pa_cons (pe_callB call_len_str (by rfl) T.f_len PySem.boot_len (pa_cons (pv 10) pa_nil)) (pa_cons pe_str pa_nil))) pa_nil))) pa_nil)))
      (pss_one (ps_set (i := 7) sc_Llaid.nd rfl (Or.inl rfl) (pe_op op_add_str (pe_op op_add_str (pv 7) (pe_ifExp (pt_cmpR op_gt (pv 9) pe_int (nomark _)) pe_str pe_str)) (pv 10)))))))))
      (pss_one (ps_ret (pe_tup (pa_cons (pv 7) (pa_cons (pe_ifExp (pt_cmpR (op_neD hr.units) (pv 8) (pe_lst pa_nil) (nomark _)) (pv 8) (pe_lst (pa_cons (pe_lst (pa_cons (pe_tup (pa_cons pe_int (pa_cons pe_str pa_nil))) pa_nil)) pa_nil))) pa_nil))))))))), ?_⟩
    walk_at "st"
    refine tSeq_op2 fun R hR => ?_
    have tail : ∀ (Dr : Addr) (vs : List V) (rws : List (List Str)) (mn : Int) (bs : Bool) (o4 o5 o6 : Option V) (H1 : Hp), RowsW H1 Dr vs rws → rws.length ≤ 6 → Kp PotS H H1 → PotAt H1 p → R [some (V.ref p), some (V.ref Dr), some (V.int mn), some (V.bl bs), o4, o5, o6, none, none, none, none, none, none, none, none] H1 := by
      intro Dr vs rws mn bs o4 o5 o6 H1 hrw hrl e1 p1
      refine hR _ _ ?_
      refine tSeq_op2 fun R2 hR2 => ?_
      have fin : ∀ (Dl : Addr) (z : Str) (rows : List (List (Nat × Str))) (H2 : Hp), Kp PotS H H2 → PotAt H2 p → RowsAt H2 Dl rows → ((rows = [] ∧ z = "") ∨ (rows ≠ [] ∧ TextOf z rows)) → (∀ r ∈ rows, RowOk r) → rows.length ≤ 6 → ∀ (o5 o6 o9 o10 o11 o12 o13 o14 : Option V), R2 [some (V.ref p), some (V.ref Dr), some (V.int mn), some (V.bl bs), o4, o5, o6, some (V.str z), some (V.ref Dl), o9, o10, o11, o12, o13, o14] H2 := by
        intro Dl z rows H2 e2 p2 hrw2 hz hro hl6 o5 o6 o9 o10 o11 o12 o13 o14
        refine hR2 _ _ ?_
        walk_at "wp"
        refine ⟨sz3 (Nat.le_of_ble_eq_true rfl), ?_⟩
        (intro em hem; generalize hg0 : upd _ em _ = H3; obtain ⟨e3, h3⟩ := upd_ex hem hg0; clear hg0)
        have hrw3 := hrw2.all e3
        refine ⟨rowsD rows, .list [], hrw3.dp, .lst (sqS h3) .nil, rowsD_shaped hro, by decide, ?_⟩
        refine ⟨_, rfl, ?_⟩
        have f3 := e2.trans e3.pot
        have p3 := p2.all e3
        cases rows with
        | nil =>
          obtain ⟨_, rfl⟩ : ([] : List (List (Nat × Str))) = [] ∧ z = "" := by
            rcases hz with h | ⟨h, _⟩
            · exact h
            · exact absurd rfl h
          rw [if_neg (by decide)]
          refine ⟨sz3 (Nat.le_of_ble_eq_true rfl), ?_⟩
          (intro a4 ha4; generalize hg0 : upd _ a4 _ = H4; obtain ⟨e4, h4⟩ := upd_ex ha4 hg0; clear hg0)
          refine ⟨sz3 (Nat.le_of_ble_eq_true rfl), ?_⟩
          (intro a5 ha5; generalize hg0 : upd _ a5 _ = H5; obtain ⟨e5, h5⟩ := upd_ex ha5 hg0; clear hg0)
          refine ⟨sz3 (Nat.le_of_ble_eq_true rfl), ?_⟩
          (intro a6 ha6; generalize hg0 : upd _ a6 _ = H6; obtain ⟨e6, h6⟩ := upd_ex ha6 hg0; clear hg0)
          refine ⟨sz3 (Nat.le_of_ble_eq_true rfl), ?_⟩
          (intro a7 ha7; generalize hg0 : upd _ a7 _ = H7; obtain ⟨e7, h7⟩ := upd_ex ha7 hg0; clear hg0)
          have r7 : RowAt H7 a5 [(0, ("" : Str))] := ⟨_, e7 _ _ (e6 _ _ h5 trivial) trivial, .cons ⟨a4, rfl, e7 _ _ (e6 _ _ (e5 _ _ h4 trivial) trivial) trivial⟩ .nil⟩
          refine q a7 a6 "" [[(0, "")]] H7 ((((f3.trans e4.pot).trans e5.pot).trans e6.pot).trans e7.pot) ((((p3.all e4).all e5).all e6).all e7) h7 ⟨_, e7 _ _ h6 trivial, .cons ⟨a5, rfl, r7⟩ .nil⟩ ?_ ?_ (by decide) (by decide)
          · have ht : TextOf (joinLF [""]) [[(0, "")]] := text_of (by simp) (by decide +kernel) (.cons ((LineInv.start (L := []) (fun c h => by cases h)).row (.inl rfl) (.inl rfl) (by decide +kernel)) .nil) (by decide +kernel) (by decide) (by decide +kernel)
            rw [show joinLF [""] = "" by decide +kernel] at ht
            exact ht
          · intro r hr
            rw [List.mem_singleton.mp hr]
            exact ⟨[], 0, rfl, (fun q h => by cases h), Nat.zero_le _⟩
        | cons r0 rs =>
          have ht : TextOf z (r0 :: rs) := by
            rcases hz with ⟨h, _⟩ | ⟨_, h⟩
            · cases h
            · exact h
          rw [if_pos (by rfl)]
          refine ⟨sz3 (Nat.le_of_ble_eq_true rfl), ?_⟩
          (intro a7 ha7; generalize hg0 : upd _ a7 _ = H7; obtain ⟨e7, h7⟩ := upd_ex ha7 hg0; clear hg0)
          exact q a7 Dl z _ H7 (f3.trans e7.pot) (p3.all e7) h7 (hrw3.all e7) ht hro (Nat.succ_le_succ (Nat.zero_le _)) hl6
      walk_at "wp"
      refine ⟨sz3 (Nat.le_of_ble_eq_true rfl), ?_⟩
      (intro Dl hDl; generalize hg0 : upd _ Dl _ = H2; obtain ⟨e2, h2⟩ := upd_ex hDl hg0; clear hg0)
      refine ⟨_, _, ⟨rfl, rfl⟩, ?_⟩
      have hrw2 := hrw.pot e2.pot
      have f2 := e1.trans e2.pot
      have nDl : Dl ≠ Dr := fun e => by rw [e, hrw.1] at hDl; cases hDl
      refine ⟨_, rfl, Dr, vs, rfl, sqS hrw2.1, ?_⟩
      obtain ⟨Pv, hP⟩ := mkI fun (i : Nat) σ H3 => ∃ (z : Str) (ls : List Str) (vl : List V) (rows : List (List (Nat × Str))) (o5 o9 o10 o11 o12 o13 o14 : Option V), σ = [some (V.ref p), some (V.ref Dr), some (V.int mn), some (V.bl bs), o4, o5, o6, some (V.str z), some (V.ref Dl), o9, o10, o11, o12, o13, o14] ∧ Kp PotS H1 H3 ∧ PotAt H3 p ∧
        H3 Dl = some (.lst vl) ∧ F2 (fun v r => ∃ a, v = V.ref a ∧ a ≠ Dl ∧ RowAt H3 a r) vl rows ∧ F2 RowOf ls rows ∧ (∀ r ∈ rows, RowOk r) ∧ (∀ y ∈ ls, 10 ∉ cd y ∧ y.length ≤ 5100) ∧ ls.length = i ∧ z.length ≤ 5101 * i ∧ ((ls = [] ∧ z = "") ∨ (ls ≠ [] ∧ z = joinLF ls))
      refine for_enumL (xs := vs) Pv ((hP _ _ _).mpr ⟨"", [], [], [], _, _, _, _, _, _, _, rfl, e2.pot, p1.all e2, h2, .nil, .nil, (fun r h => by cases h), (fun r h => by cases h), rfl, Nat.zero_le _, .inl ⟨rfl, rfl⟩⟩) (fun i σ H3 _ pv => ?_) (fun i x TT σ H3 hx pv hT => ?_) (fun σ H3 pv => ?_)
      · obtain ⟨z, ls, vl, rows, o5, o9, o10, o11, o12, o13, o14, rfl, f3, p3, h3, fr3, fl3, ro3, cl3, ll3, lz3, tz3⟩ := (hP _ _ _).mp pv
        exact sqS (hrw.pot f3).1
      · obtain ⟨z, ls, vl, rows, o5, o9, o10, o11, o12, o13, o14, rfl, f3, p3, h3, fr3, fl3, ro3, cl3, ll3, lz3, tz3⟩ := (hP _ _ _).mp pv
        obtain ⟨ws, hws, a5, rfl, n5, w5, g5⟩ := (hrw.pot f3).2.get' hx
        generalize hg4 : upd H3 TT _ = H4
        obtain ⟨e4, h4⟩ := upd_ex hT hg4
        refine st_tup2 (sqT h4) ?_
        refine tSeq_op2 fun R3 hR3 => ?_
        refine ⟨_, rfl, sz3 (Nat.le_of_ble_eq_true rfl), ?_⟩
        (intro b5 hb5; generalize hg0 : upd _ b5 _ = H5; obtain ⟨e5, h5⟩ := upd_ex hb5 hg0; clear hg0)
        refine ⟨p, _, rfl, (p3.all e4).all e5, .inl ⟨b5, _, rfl, h5, potI (fun i z => by cases z), Nat.le_of_ble_eq_true rfl, Nat.le_of_ble_eq_true rfl, fun v H6 hv e6 p6 => ⟨sz3 (Nat.le_of_ble_eq_true rfl), ?_⟩⟩⟩
        (intro Df hDf; generalize hg0 : upd _ Df _ = H7; obtain ⟨e7, h7⟩ := upd_ex hDf hg0; clear hg0)
        obtain ⟨y0, rfl, hy0, ly0⟩ : ∃ y0 : Str, v = .str y0 ∧ (∀ c ∈ cd y0, c = 32) ∧ y0.length ≤ 1 := by
          simp only [List.mem_cons, List.not_mem_nil, or_false] at hv
          rcases hv with rfl | rfl | rfl
          · exact ⟨_, rfl, by decide +kernel, by decide +kernel⟩
          · exact ⟨_, rfl, by decide +kernel, by decide +kernel⟩
          · exact ⟨_, rfl, by decide +kernel, by decide +kernel⟩
        refine ⟨_, _, _, rfl, ?_⟩
        have e36 : Kp PotS H3 H6 := (e4.trans e5).pot.trans e6
        have f6 := (f3.trans e36)
        have w7 : WordsAt H7 a5 ws := (w5.pot e36).all e7
        refine ⟨_, rfl, a5, rfl, ⟨_, sqS w7⟩, ?_⟩
        obtain ⟨Pw, hW⟩ := mkI fun (j : Nat) σ H8 => ∃ (y last : Str) (fnd : List (Nat × Str)) (vf : List V) (o13 o14 : Option V), σ = [some (V.ref p), some (V.ref Dr), some (V.int mn), some (V.bl bs), o4, some (V.ref a5), o6, some (V.str z), some (V.ref Dl), some (V.int (i : Nat)), some (V.str y), some (V.str last), some (V.ref Df), o13, o14] ∧
          LineInv (cd y) last fnd ∧ H8 Df = some (.lst vf) ∧ F2 (TokAt H8) vf fnd ∧ (∀ q ∈ fnd, Wd q.2 = true) ∧ fnd.length = j ∧ y.length ≤ 1 + 103 * j ∧ Kp PotS H6 H8 ∧ PotAt H8 p
        have g5l := g5.2
        refine for_list (xs := ws.map V.str) Pw ((hW _ _ _).mpr ⟨y0, "", [], [], _, _, rfl, LineInv.start hy0, h7, .nil, (fun q h => by cases h), rfl, by omega, e7.pot, p6.all e7⟩) (fun j σ H8 _ pw => ?_) (fun j x8 σ H8 hx8 pw => ?_) (fun σ H8 pw => ?_)
        · obtain ⟨y, last, fnd, vf, o13, o14, rfl, I8, h8, t8, wd8, fl8, ly8, f8, p8⟩ := (hW _ _ _).mp pw
          exact sqS ((w5.pot e36).pot f8)
        · obtain ⟨y, last, fnd, vf, o13, o14, rfl, I8, h8, t8, wd8, fl8, ly8, f8, p8⟩ := (hW _ _ _).mp pw
          rw [List.getElem?_map] at hx8
          obtain ⟨w, hwi, rfl⟩ := Option.map_eq_some_iff.mp hx8
          have hw : Wd w = true := g5.1 w (List.mem_of_getElem? hwi)
          have jl : j < ws.length := (List.getElem?_eq_some_iff.mp hwi).1
          refine tSeq_op2 fun R4 hR4 => ?_
          have t4 : ∀ (g : Str) (H9 : Hp) (o : Option V), (∀ c ∈ cd g, c = 32) → g.length ≤ 2 → (cd g = [] → partedB last w = false) → Kp PotS H8 H9 → PotAt H9 p → R4 [some (V.ref p), some (V.ref Dr), some (V.int mn), some (V.bl bs), o4, some (V.ref a5), o6, some (V.str z), some (V.ref Dl), some (V.int (i : Nat)), some (V.str (y ++ g)), some (V.str last), some (V.ref Df), some (V.str w), o] H9 := by
            intro g H9 o hg lg hp9 e9 p9
            refine hR4 _ _ ?_
            walk_at "wp"
            have h9 := e9.potK h8 (potR t8)
            have lw := wd_len hw
            refine ⟨st_tyL h9, szL (by rw [str_len_app]; omega), sz3 (Nat.le_of_ble_eq_true rfl), ?_⟩
            (intro TK hTK; generalize hg0 : upd _ TK _ = H10; obtain ⟨e10, h10⟩ := upd_ex hTK hg0; clear hg0)
            have h10' := e10 _ _ h9 trivial
            have nT : TK ≠ Df := fun z => by rw [z, h9] at hTK; cases hTK
            have lvf := t8.len
            refine st_app h10' (by omega) ⟨szL (by rw [str_len_app]; omega), _, _, ⟨rfl, rfl⟩, ?_⟩
            refine (hW _ _ _).mpr ⟨y ++ g ++ w, w, fnd ++ [((y ++ g).length, w)], vf ++ [V.ref TK], _, _, rfl, ?_, upd_same, F2.snoc (t8.imp fun a b => ?_) ⟨TK, rfl, by rw [upd_ne nT]; exact h10⟩, fun q hq => ?_, by rw [List.length_append, List.length_singleton, fl8], by rw [str_len_app, str_len_app]; omega, Kp.mutP (Kp.refl H6) hDf ((f8.trans e9).trans e10.pot), (p9.all e10).updL h10' (potR t8)⟩
            · have st := I8.step hg hw hp9
              have e1 : cd (y ++ g ++ w) = cd y ++ cd g ++ cd w := by rw [show cd (y ++ g ++ w) = TL.tl (y ++ g ++ w) from rfl, TL.tl_append, TL.tl_append]
              have e2 : (y ++ g).length = (cd y ++ cd g).length := by rw [TL.len_tl, TL.tl_append]
              rw [e1, e2]
              exact st
            · rintro ⟨p6, rfl, h6'⟩
              have n6 : p6 ≠ Df := fun z => by rw [z, h8] at h6'; cases h6'
              exact ⟨p6, rfl, by rw [upd_ne n6]; exact e10 _ _ (e9 _ _ h6' potT) trivial⟩
            · rcases List.mem_append.mp hq with hq | hq
              · exact wd8 q hq
              · rw [List.mem_singleton.mp hq]
                exact hw
          walk_at "wp"
          refine ⟨sz3 (Nat.le_of_ble_eq_true rfl), ?_⟩
          (intro b9 hb9; generalize hg0 : upd _ b9 _ = H9; obtain ⟨e9, h9⟩ := upd_ex hb9 hg0; clear hg0)
          refine ⟨p, _, rfl, p8.all e9, .inl ⟨b9, _, rfl, h9, potI (fun i z => by cases z), Nat.le_of_ble_eq_true rfl, Nat.le_of_ble_eq_true rfl, fun v H10 hv e10 p10 => ?_⟩⟩
          obtain ⟨g, rfl, hg, lg⟩ : ∃ g : Str, v = .str g ∧ (∀ c ∈ cd g, c = 32) ∧ g.length ≤ 2 := by
            simp only [List.mem_cons, List.not_mem_nil, or_false] at hv
            rcases hv with rfl | rfl | rfl | rfl <;> exact ⟨_, rfl, by decide +kernel, by decide +kernel⟩
          have ll : last.length ≤ 101 := by
            rcases I8.lastW with e | e
            · rw [e]
              decide +kernel
            · exact wd_len e
          have f10 := e9.pot.trans e10
          rw [rEq_ss]
          refine ⟨_, rfl, ?_⟩
          by_cases cg : g = ""
          · rw [decide_eq_true cg, if_pos rfl]
            refine ⟨last, w, rfl, by omega, wd_pos hw, Nat.le_trans (wd_len hw) (by decide), fun H11 e11 => ⟨_, rfl, ?_⟩⟩
            by_cases cp : partedB last w = true
            · rw [if_pos cp]
              have l1 : Str.length " " = 1 := by decide +kernel
              exact ⟨szL (by omega), t4 " " H11 _ (by decide +kernel) (by decide +kernel) (fun e => absurd e (by decide +kernel)) (f10.trans e11.pot) (p10.all e11)⟩
            · rw [if_neg cp]
              exact ⟨g, rfl, szL (by omega), t4 g H11 _ hg lg (fun _ => Bool.eq_false_iff.mpr cp) (f10.trans e11.pot) (p10.all e11)⟩
          · rw [decide_eq_false cg, if_neg Bool.false_ne_true]
            refine ⟨g, rfl, szL (by omega), t4 g H10 _ hg lg (fun e => absurd (TL.ext_tl ?_) cg) f10 p10⟩
            rw [show TL.tl g = [] from e]
            decide +kernel
        · obtain ⟨y, last, fnd, vf, o13, o14, rfl, I8, h8, t8, wd8, fl8, ly8, f8, p8⟩ := (hW _ _ _).mp pw
          refine hR3 _ _ ?_
          walk_at "wp"
          refine ⟨sz3 (Nat.le_of_ble_eq_true rfl), ?_⟩
          (intro b9 hb9; generalize hg0 : upd _ b9 _ = H9; obtain ⟨e9, h9⟩ := upd_ex hb9 hg0; clear hg0)
          refine ⟨p, _, rfl, p8.all e9, .inl ⟨b9, _, rfl, h9, potI (fun i z => by cases z), Nat.le_of_ble_eq_true rfl, Nat.le_of_ble_eq_true rfl, fun v H10 hv e10 p10 => ?_⟩⟩
          obtain ⟨g, rfl, ss, rm, eg, hss, hrm, lg, cg⟩ : ∃ g : Str, v = .str g ∧ ∃ ss rm : List Nat, cd g = ss ++ rm ∧ (ss = [] ∨ ss = [32]) ∧ (rm = [] ∨ ∃ r, rm = 35 :: r) ∧ g.length ≤ 20 ∧ 10 ∉ cd g := by
            simp only [List.mem_cons, List.not_mem_nil, or_false] at hv
            rcases hv with rfl | rfl | rfl | rfl | rfl
            · exact ⟨_, rfl, [], [], by decide +kernel, .inl rfl, .inl rfl, by decide +kernel, by decide +kernel⟩
            · exact ⟨_, rfl, [], [], by decide +kernel, .inl rfl, .inl rfl, by decide +kernel, by decide +kernel⟩
            · exact ⟨_, rfl, [32], [], by decide +kernel, .inr rfl, .inl rfl, by decide +kernel, by decide +kernel⟩
            · exact ⟨_, rfl, [], cd "# start 1 = 1", rfl, .inl rfl, .inr ⟨(cd "# start 1 = 1").tail, by decide +kernel⟩, by decide +kernel, by decide +kernel⟩
            · exact ⟨_, rfl, [32], (cd " ##").tail, by decide +kernel, .inr rfl, .inr ⟨[35], by decide +kernel⟩, by decide +kernel, by decide +kernel⟩
          have f10 := (f8.trans e9.pot).trans e10
          have h10 : H10 Df = some (.lst vf) := e10.potK (e9 _ _ h8 trivial) (potR t8)
          have t10 : F2 (TokAt H10) vf fnd := t8.imp fun v q h => h.kp (e9.pot.trans e10) fun _ => potT
          have frD := refPot fr3
          have hD10 : H10 Dl = some (.lst vl) := (e36.trans f10).potK h3 frD
          rw [List.length_map] at fl8 ly8
          have ly : (y ++ g).length ≤ 5100 := by rw [str_len_app]; omega
          have lvf := t8.len
          refine ⟨g, rfl, szL (by rw [← str_len_app]; omega), st_tyL hD10, szL (by omega), sz3 (Nat.le_of_ble_eq_true rfl), ?_⟩
          (intro tk htk; generalize hg0 : upd _ tk _ = H11; obtain ⟨e11, h11⟩ := upd_ex htk hg0; clear hg0)
          refine ⟨sz3 (Nat.le_of_ble_eq_true rfl), ?_⟩
          (intro lt hlt; generalize hg0 : upd _ lt _ = H12; obtain ⟨e12, h12⟩ := upd_ex hlt hg0; clear hg0)
          refine st_cat (e12 _ _ (e11 _ _ h10 trivial) trivial) h12 (by show vf.length + 1 ≤ _; omega) fun ra H13 hra e13 h13 => ?_
          have e1013 := (e11.trans e12).trans e13
          have hD13 : H13 Dl = some (.lst vl) := e1013 _ _ hD10 trivial
          have na : ra ≠ Dl := fun z => by
            rw [z, e12 _ _ (e11 _ _ hD10 trivial) trivial] at hra
            cases hra
          have lvl := fr3.len
          have lfl := fl3.len
          have irw : i < 6 := by
            have h1 := (List.getElem?_eq_some_iff.mp hx).1
            have h2 := hrw.2.len
            omega
          refine st_app hD13 (by omega) ?_
          generalize hg14 : upd H13 Dl _ = H14
          have hD14 : H14 Dl = some (.lst (vl ++ [V.ref ra])) := by rw [← hg14]; exact upd_same
          have row14 : RowAt H14 ra (fnd ++ [((y ++ g).length, ("" : Str))]) := by
            have r13 : RowAt H13 ra (fnd ++ [((y ++ g).length, ("" : Str))]) := ⟨_, h13, F2.snoc (t10.imp fun v q h => h.kp (e1013.all (S := AllS)) fun _ => trivial) ⟨tk, rfl, e13 _ _ (e12 _ _ h11 trivial) trivial⟩⟩
            rw [← hg14]
            exact r13.updL hD13 na _
          have rows14 : F2 (fun v r => ∃ a, v = V.ref a ∧ a ≠ Dl ∧ RowAt H14 a r) vl rows := fr3.imp fun v r ⟨a, ev, n, ra'⟩ => ⟨a, ev, n, by
            rw [← hg14]
            exact ((ra'.pot (e36.trans f10)).all e1013).updL hD13 n _⟩
          have f14 : Kp PotS H1 H14 := by
            rw [← hg14]
            exact Kp.mutP (Kp.refl H1) hDl ((f6.trans f10).trans e1013.pot)
          have p14 : PotAt H14 p := by
            rw [← hg14]
            exact (p10.all e1013).updL hD13 frD
          have cyg : cd (y ++ g) = cd y ++ ss ++ rm := by
            rw [show cd (y ++ g) = TL.tl (y ++ g) from rfl, TL.tl_append, show TL.tl g = ss ++ rm from eg, List.append_assoc]
          have rof : RowOf (y ++ g) (fnd ++ [((y ++ g).length, ("" : Str))]) := I8.row hss hrm cyg
          have rok : RowOk (fnd ++ [((y ++ g).length, ("" : Str))]) := ⟨fnd, _, rfl, wd8, by omega⟩
          have n10 : 10 ∉ cd (y ++ g) := fun h => by
            rw [show cd (y ++ g) = TL.tl (y ++ g) from rfl, TL.tl_append] at h
            rcases List.mem_append.mp h with h | h
            · exact (I8.clean 10 h).2 rfl
            · exact cg h
          have fin2 : ∀ zz : Str, zz = joinLF (ls ++ [y ++ g]) → zz.length ≤ 5101 * (i + 1) → Pv (i + 1) [some (V.ref p), some (V.ref Dr), some (V.int mn), some (V.bl bs), o4, some (V.ref a5), o6, some (V.str zz), some (V.ref Dl), some (V.int ↑i), some (V.str (y ++ g)), some (V.str last), some (V.ref Df), o13, o14] H14 := by
            intro zz hzz lzz
            refine (hP _ _ _).mpr ⟨zz, ls ++ [y ++ g], _, rows ++ [_], _, _, _, _, _, _, _, rfl, f14, p14, hD14, rows14.snoc ⟨ra, rfl, na, row14⟩, fl3.snoc rof, fun r hr => ?_, fun y2 hy2 => ?_, by rw [List.length_append, List.length_singleton, ll3], lzz, .inr ⟨by simp, hzz⟩⟩
            · rcases List.mem_append.mp hr with hr | hr
              · exact ro3 r hr
              · rw [List.mem_singleton.mp hr]
                exact rok
            · rcases List.mem_append.mp hy2 with hy2 | hy2
              · exact cl3 y2 hy2
              · rw [List.mem_singleton.mp hy2]
                exact ⟨n10, ly⟩
          have l0 : Str.length "" = 0 := by decide +kernel
          have l1 : Str.length "\n" = 1 := by decide +kernel
          have lyg := str_len_app y g
          by_cases ci : (0 : Int) < (i : Nat)
          · rw [if_pos ci]
            have hne : ls ≠ [] := fun e => by
              rw [e] at ll3
              have : (0 : Nat) = i := ll3
              omega
            have hz : z = joinLF ls := by
              rcases tz3 with ⟨e, _⟩ | ⟨_, e⟩
              · exact absurd e hne
              · exact e
            refine ⟨szL (by omega), szL (by rw [str_len_app]; omega), fin2 _ (by rw [hz, joinLF_snoc _ hne]) (by rw [str_len_app, str_len_app]; omega)⟩
          · rw [if_neg ci]
            have hz : ls = [] ∧ z = "" := by
              rcases tz3 with h | ⟨n, _⟩
              · exact h
              · exfalso
                apply n
                cases ls with
                | nil => rfl
                | cons a l =>
                  rw [List.length_cons] at ll3
                  omega
            obtain ⟨rfl, rfl⟩ := hz
            refine ⟨szL (by omega), szL (by rw [str_len_app]; omega), fin2 _ (by rw [List.nil_append, joinLF_one]) (by rw [str_len_app, str_len_app]; omega)⟩
      · obtain ⟨z, ls, vl, rows, o5, o9, o10, o11, o12, o13, o14, rfl, f3, p3, h3, fr3, fl3, ro3, cl3, ll3, lz3, tz3⟩ := (hP _ _ _).mp pv
        have l1 := hrw.2.len
        have l2 := fl3.len
        refine fin Dl z rows H3 (e1.trans f3) p3 ⟨vl, h3, fr3.imp fun v r ⟨a, ev, n, ra⟩ => ⟨a, ev, ra⟩⟩ ?_ ro3 (by omega) _ _ _ _ _ _ _ _
        rcases tz3 with ⟨rfl, rfl⟩ | ⟨hne, rfl⟩
        · cases fl3
          exact .inl ⟨rfl, rfl⟩
        · refine .inr ⟨fun e => hne ?_, text_of hne (fun y hy => (cl3 y hy).1) fl3 (by omega) (by omega) fun y hy => Nat.le_trans (cl3 y hy).2 (by decide)⟩
          rw [e] at fl3
          cases fl3
          rfl
    refine ⟨sz3 (Nat.le_of_ble_eq_true rfl), ?_⟩
    (intro Dr hDr; generalize hg0 : upd _ Dr _ = H1; obtain ⟨e1, h1⟩ := upd_ex hDr hg0; clear hg0)
    refine ⟨_, rfl, p, 7, rfl, by decide, by decide, hp.all e1, fun m H2 m0 m1 e2 p2 => ?_⟩
    refine ⟨_, rfl, p, 3, rfl, by decide, by decide, p2, fun b H3 b0 b1 e3 p3 => ?_⟩
    have f3 := (e1.pot.trans e2).trans e3
    have h3 : H3 Dr = some (.lst []) := e3 _ _ (e2 _ _ h1 (potN (by decide))) (potN (by decide))
    refine ⟨_, _, rfl, rfl, _, _, _, rfl, ?_⟩
    refine ⟨_, rfl, m, rfl, by omega, by omega, ?_⟩
    obtain ⟨Pv, hP⟩ := mkI fun (i : Nat) σ H4 => ∃ (vs : List V) (rws : List (List Str)) (o4 o5 o6 : Option V), σ = [some (V.ref p), some (V.ref Dr), some (V.int m), some (V.bl (decide (0 < b))), o4, o5, o6, none, none, none, none, none, none, none, none] ∧ RowsW H4 Dr vs rws ∧ rws.length = i ∧ Kp PotS H H4 ∧ PotAt H4 p
    refine for_range Pv ((hP _ _ _).mpr ⟨[], [], none, none, none, rfl, ⟨h3, .nil⟩, rfl, f3, p3⟩) (fun i σ H4 hi pv => ?_) (fun σ H4 pv => ?_)
    · obtain ⟨vs, rws, o4, o5, o6, rfl, hw, hl, f4, p4⟩ := (hP _ _ _).mp pv
      refine tSeq_op fun R1 hR1 => ?_
      have t1 : ∀ (a : Addr) (ws : List Str) (H5 : Hp), Fr H4 a → WordsAt H5 a ws → Gen ws 46 → Kp PotS H4 H5 → PotAt H5 p → R1 [some (V.ref p), some (V.ref Dr), some (V.int m), some (V.bl (decide (0 < b))), some (V.int (0 + (i : Nat))), some (V.ref a), o6, none, none, none, none, none, none, none, none] H5 := by
        intro a ws H5 fa ha ga f5 p5
        refine hR1 _ _ ?_
        refine tSeq_op fun R2 hR2 => ?_
        have t2 : ∀ (hb : Bool) (H6 : Hp), Kp PotS H5 H6 → PotAt H6 p → R2 [some (V.ref p), some (V.ref Dr), some (V.int m), some (V.bl (decide (0 < b))), some (V.int (0 + (i : Nat))), some (V.ref a), some (V.bl hb), none, none, none, none, none, none, none, none] H6 := by
          intro hb H6 f6 p6
          refine hR2 _ _ ?_
          walk_at "wp"
          have app : ∀ (c : Addr) (wc : List Str) (H7 : Hp), Fr H4 c → WordsAt H7 c wc → Gen wc 49 → Kp PotS H4 H7 → PotAt H7 p → rAppend (V.ref Dr) [V.ref c] H7 fun x H1 => Pv (i + 1) [some (V.ref p), some (V.ref Dr), some (V.int m), some (V.bl (decide (0 < b))), some (V.int (0 + ↑i)), some (V.ref a), some (V.bl hb), none, none, none, none, none, none, none, none] H1 := by
            intro c wc H7 fc hc gc f7 p7
            have hw7 := hw.pot f7
            have nc : c ≠ Dr := fun e => fc _ (by rw [e]; exact hw.1) (refPot hw.2)
            have lw := hw7.2.len
            refine st_app hw7.1 (by omega) ((hP _ _ _).mpr ⟨vs ++ [V.ref c], rws ++ [wc], _, _, _, rfl, ⟨upd_same, F2.snoc (hw7.2.imp fun v ws ⟨x, ev, nx, wx, gx⟩ => ⟨x, ev, nx, by unfold WordsAt; rw [upd_ne nx]; exact wx, gx⟩) ⟨c, rfl, nc, by unfold WordsAt; rw [upd_ne nc]; exact hc, gc⟩⟩, by rw [List.length_append, List.length_singleton, hl], Kp.mutP (Kp.refl H) hDr (f4.trans f7), p7.updL hw7.1 (refPot hw7.2)⟩)
          refine ⟨st_tyL (hw.pot (f5.trans f6)).1, ?_⟩
          by_cases ch : hb = true
          · rw [if_pos ch]
            exact ⟨p, a, ws, rfl, p6, ha.pot f6, ga, fun r wr H7 fr f7 p7 h7 g7 => app r wr H7 (fr.base (f5.trans f6)) h7 g7 ((f5.trans f6).trans f7) p7⟩
          · rw [if_neg ch]
            exact app a ws H6 fa (ha.pot f6) (ga.le (by decide)) (f5.trans f6) p6
        walk_at "wp"
        by_cases cb : 0 < b
        · rw [if_pos cb]
          refine ⟨p, _, rfl, by decide, by decide, p5, fun r H6 _ _ e6 p6 => ?_⟩
          show rEq (V.int r) (V.int 0) H6 _
          rw [rEq_ii]
          exact t2 _ H6 e6 p6
        · rw [if_neg cb]
          exact t2 false H5 (Kp.refl H5) p5
      walk_at "wp"
      refine ⟨p, _, rfl, by decide, by decide, p4, fun r H5 _ _ e5 p5 => ⟨_, rfl, ?_⟩⟩
      by_cases cr : 0 < r
      · rw [if_pos cr]
        exact ⟨p, rfl, p5, fun c wc H6 fc e6 p6 hc gc => t1 c wc H6 (fc.base e5) hc gc (e5.trans e6) p6⟩
      · rw [if_neg cr]
        refine ⟨sz3 (Nat.le_of_ble_eq_true rfl), ?_⟩
        (intro c hc; generalize hg0 : upd _ c _ = H6; obtain ⟨e6, h6⟩ := upd_ex hc hg0; clear hg0)
        exact t1 c [] H6 (Fr.of e5 hc) h6 .nil (e5.trans e6.pot) (p5.all e6)
    · obtain ⟨vs, rws, o4, o5, o6, rfl, hw, hl, f4, p4⟩ := (hP _ _ _).mp pv
      exact tail Dr vs rws m _ o4 o5 o6 H4 hw (by omega) f4 p4
end
end K31
set_option Elab.async false
set_option linter.all false
set_option maxRecDepth 100000
set_option maxHeartbeats 4000000
namespace K31
open PySem PySem.Spec PyProof.Rows L2
/-! the law's own walk -/
local macro_rules | `(tactic| walk_at "st") => `(tactic| try simp only [L2.start, List.map_cons, List.map_nil, List.length_cons, List.length_nil, Nat.reduceAdd, Nat.reduceSub, Nat.add_zero, Nat.zero_add, List.replicate, List.cons_append, List.nil_append, List.append_nil])
local macro_rules | `(tactic| walk_at "wp") => `(tactic| try simp only [tSeq, tIfS, tRet, tOr, tAnd, tNot, tTest, tB, tOp, rI0, rI, rU, tCB, tCons, tNil, tVar, tC, tAsg, gName, tNext, tDrop, tOrV, tAndV, tNotV, tIf, tUn, tYes, wipe, tCall, tTup, tLst, tSl, tPart, tNoPart, tM0, tM1, tIsN, tNotN, tChain, tPar, tBM, tFld, tMeth,
  List.getElem?_cons_zero, List.getElem?_cons_succ, Option.some.injEq, exists_eq_left, exists_eq_left', V.str.injEq, V.int.injEq, V.bl.injEq, V.ref.injEq, List.cons.injEq, and_true, true_and, and_self, exists_and_left, exists_and_right, exists_eq_right, exists_eq, exists_const, reduceCtorEq, decide_eq_true_eq, decide_eq_false_iff_not, List.set_cons_zero, List.set_cons_succ, sg_inj, rEq_ss, rNe_ss, rEq_ii, rNe_ii, ↓reduceIte, Bool.false_eq_true, List.nil_append, List.cons_append, List.append_nil, not_true_eq_false, not_false_eq_true, Bool.not_eq_true', Bool.not_true, Bool.not_false, decide_true, decide_false, or_false, false_or, or_true, true_or, false_and, and_false])
/-- a state of the law's walk: its spot, kind, side -/
abbrev LSt := Str × Str × Int
def StAt (K : PySem.W.Frag) (H : Hp) (v : V) (s : LSt) : Prop := ∃ p, v = .ref p ∧ SqT K H p [.str s.1, .str s.2.1, .int s.2.2]
/-- None or a new state -/
def OutSt (K : PySem.W.Frag) (H : Hp) (Q : VK) (o : Option LSt) : Prop := match o with
  | none => ∀ H', Kp AllS H H' → Q .non H'
  | some s => ∀ v H', Kp AllS H H' → StAt K H' v s → Q v H'
def lBehind (kind : Str) (side : Int) (z : Str) : Option LSt :=
  if z = "+" ∨ z = "-" then some ("term", kind, side)
  else if kind = "sensor" then (if z = "slack" then some ("w0", "", 0) else none)
  else if side = 0 ∧ z ∈ (if kind = "ask" then (["<=", ">="] : List Str) else ["<=", ">=", "="]) then some ("first", kind, 1)
  else if side = 1 ∧ z = "" then some ("done", "", 0) else none
def lFree (z : Str) : Bool := isName z && !decide (z ∈ (["at", "slack"] : List Str))
def lInForm (s : LSt) (z : Str) : Option LSt :=
  if s.1 = "at" then (if isNumber z = true then some ("whole", s.2.1, s.2.2) else none)
  else if s.1 = "first" ∨ s.1 = "term" then
    (if s.1 = "first" ∧ z = "-" then some ("term", s.2.1, s.2.2)
    else if isNumber z = true then some ("number", s.2.1, s.2.2)
    else if lFree z = true then some ("name", s.2.1, s.2.2) else none)
  else if s.1 = "number" ∧ lFree z = true then some ("name", s.2.1, s.2.2)
  else if s.1 = "number" ∧ s.2.1 = "sensor" then none
  else if s.1 = "name" ∧ s.2.1 = "ask" then (if z = "at" then some ("at", s.2.1, s.2.2) else none)
  else if s.1 = "name" ∧ s.2.1 = "step" ∧ z = "'" then some ("whole", s.2.1, s.2.2)
  else lBehind s.2.1 s.2.2 z
def lFits (k z : Str) : Bool :=
  if k = "NUMBER" then isNumber z
  else if k = "BELOW" then isNumber z && decide (Txt.stripChars z "0" ≠ "")
  else if k = "NAME" then isName z
  else if k = "FREE" then lFree z
  else decide (z = k)
def lTable : List (Str × Str × Str) := [("head", "unknowns", "u1"), ("u1", "FREE", "u2"), ("u2", "FREE", "end"), ("u2", "", "done"), ("head", "moments", "m1"), ("m1", "NUMBER", "end"), ("head", "step", "t1"), ("t1", "NUMBER", "t2"), ("head", "sensor", "s1"), ("s1", "NAME", "s2"), ("head", "reading", "r1"), ("r1", "NAME", "r2"), ("r2", "NAME", "r3"), ("r3", "at", "r4"), ("r4", "NUMBER", "r5"), ("r5", "=", "r6"), ("r6", "-", "w0"), ("r6", "NUMBER", "w1"), ("w0", "NUMBER", "w1"), ("w1", "/", "w2"), ("w1", "", "done"), ("w2", "BELOW", "end"), ("head", "back", "b1"), ("b1", "NAME", "end"), ("end", "", "done")]
def lOpens : List (Str × Str × Str) := [("head", "start", "one"), ("head", "steps", "step"), ("head", "ask", "ask"), ("t2", ":", "step"), ("s2", ":", "sensor")]
def lStepO : List (Str × Str × Str) → Str → Str → Option LSt
  | [], _, _ => none
  | r :: rs, s, z => if s = r.1 ∧ z = r.2.1 then some ("first", r.2.2, 0) else lStepO rs s z
def lStepT : List (Str × Str × Str) → Str → Str → Option LSt
  | [], _, _ => none
  | r :: rs, s, z => if s = r.1 ∧ lFits r.2.1 z = true then some (r.2.2, "", 0) else lStepT rs s z
def lStep (s : LSt) (z : Str) : Option LSt :=
  if s.2.1 ≠ "" then lInForm s z
  else match lStepO lOpens s.1 z with
    | some t => some t
    | none => lStepT lTable s.1 z
/-- how many words the walk takes -/
def lWalkN : LSt → List Str → Nat → Nat
  | _, [], n => n
  | s, z :: zs, n => match lStep s z with
    | some t => lWalkN t zs (n + 1)
    | none => n
def lWalk (ws : List Str) : Nat := lWalkN ("head", "", 0) ws 0
def Okw (z : Str) : Prop := z.length ≤ 100000 ∧ PyData.strOk z = true
def spB1k (f : Str → Bool) : Sp := fun vs H Q _ => ∃ z : Str, vs = [.str z] ∧ Okw z ∧ ∀ H', Kp AllS H H' → Q (.bl (f z)) H'
def spBehind (K : PySem.W.Frag) : Sp := fun vs H Q _ => ∃ (k z : Str) (d : Int), vs = [.str k, .int d, .str z] ∧ OutSt K H Q (lBehind k d z)
def spStep (K : PySem.W.Frag) (f : LSt → Str → Option LSt) : Sp := fun vs H Q _ => ∃ (v : V) (s : LSt) (z : Str), vs = [v, .str z] ∧ StAt K H v s ∧ Okw z ∧ OutSt K H Q (f s z)
def TripAt (K : PySem.W.Frag) (H : Hp) (v : V) (q : Str × Str × Str) : Prop := ∃ p, v = .ref p ∧ SqT K H p [.str q.1, .str q.2.1, .str q.2.2]
def spTable (K : PySem.W.Frag) : Sp := fun vs H Q _ => vs = [] ∧ ∀ r ys H', H r = none → Kp AllS H H' → H' r = some (.lst ys) → F2 (TripAt K H') ys lTable → Q (.ref r) H'
def spLFits : Sp := fun vs H Q _ => ∃ k z : Str, vs = [.str k, .str z] ∧ Okw z ∧ ∀ H', Kp AllS H H' → Q (.bl (lFits k z)) H'
def spLWalk : Sp := fun vs H Q _ => ∃ (a : Addr) (ws : List Str), vs = [.ref a] ∧ WordsAt H a ws ∧ ws.length ≤ 100000 ∧ (∀ z ∈ ws, Okw z) ∧ ∀ H', Kp AllS H H' → Q (.int (lWalk ws : Nat)) H'
theorem OutSt.mono {K : PySem.W.Frag} {H H1 : Hp} {Q : VK} {o : Option LSt} (h : OutSt K H Q o) (e : Kp AllS H H1) : OutSt K H1 Q o := by
  unfold OutSt at h ⊢
  split
  · exact fun H' e' => h H' (e.trans e')
  · exact fun v H' e' s => h v H' (e.trans e') s
/-- triples of texts, written one by one -/
def taL : List (Str × Str × Str) → TA
  | [] => tNil
  | q :: r => tCons (tTup (tCons (tC (.str q.1)) (tCons (tC (.str q.2.1)) (tCons (tC (.str q.2.2)) tNil)))) (taL r)
theorem TripAt.kp {K : PySem.W.Frag} {H H' : Hp} (e : Kp AllS H H') {v : V} {q : Str × Str × Str} (h : TripAt K H v q) : TripAt K H' v q := by
  obtain ⟨p, rfl, h⟩ := h
  exact ⟨p, rfl, e.seqT h⟩
theorem st_trips {K : PySem.W.Frag} {σ : L2.St} : ∀ {l : List (Str × Str × Str)} {H : Hp} {Q : List V → Hp → Prop}, (∀ vs H', Kp AllS H H' → F2 (TripAt K H') vs l → Q vs H') → taL l σ H Q
  | [], H, Q, h => h [] H (Kp.refl H) .nil
  | q :: r, H, Q, h => by
    refine ⟨sz3 (by show 3 ≤ 100; decide), fun p hp => ?_⟩
    generalize hg0 : upd H p _ = H1
    obtain ⟨e1, h1⟩ := upd_ex hp hg0
    exact st_trips (l := r) fun vs H' e' f => h (.ref p :: vs) H' (e1.trans e') (.cons ⟨p, rfl, sqT (e' _ _ h1 trivial)⟩ f)
theorem eqvAll_nil (xs : List PyData) : PyData.eqv (.list xs) (.list []) = decide (xs = []) := by
  cases xs with
  | nil => rfl
  | cons a l =>
    show false = _
    simp
theorem filt_str (z : Str) (f : Nat → Bool) : z.cps.toList.filterMap (fun c => if f c = true then none else some (V.str ⟨#[c]⟩)) = (z.cps.toList.filter fun c => !f c).map fun c => V.str ⟨#[c]⟩ := by
  induction z.cps.toList with
  | nil => rfl
  | cons a l ih =>
    rw [List.filterMap_cons, List.filter_cons]
    cases q : f a with
    | true =>
      rw [if_pos rfl]
      simpa using ih
    | false =>
      rw [if_neg Bool.false_ne_true]
      simpa using ih
theorem chars_lay {l : List Nat} (h : ∀ c ∈ l, decide (c < 0x110000) = true) : SeqAt.shaped (.list (l.map fun c => PyData.str ⟨#[c]⟩)) = true := by
  have h1 := all_lay (f := fun c => PyData.str ⟨#[c]⟩) (k := 0) (l := l) fun c hc => ⟨by
    have h2 := h c hc
    show PyData.strOk ⟨#[c]⟩ = true
    unfold PyData.strOk
    simpa using h2, Nat.le_refl _⟩
  unfold SeqAt.shaped
  have e1 : (PyData.list (l.map fun c => PyData.str ⟨#[c]⟩)).canLay0 = true := by
    unfold PyData.canLay0
    exact h1.1
  have e2 : (PyData.list (l.map fun c => PyData.str ⟨#[c]⟩)).depth ≤ 64 := by
    unfold PyData.depth
    have := h1.2
    omega
  rw [e1, decide_eq_true e2]
  rfl
theorem strOk_mem {z : Str} (h : PyData.strOk z = true) : ∀ c ∈ z.cps.toList, decide (c < 0x110000) = true := fun c hc => by
  unfold PyData.strOk at h
  rw [Array.all_eq_true'] at h
  exact h c (by simpa using hc)
section
variable {P : Program} {w : World} {K : PySem.W.Frag} {mg : Str → Option Value} {base : Heap}
abbrev N_Lis_number : List Str := ["_law_word", "_law_odd", "_law_sign"]
abbrev P_Lis_number : List Str := ["_law_word"]
theorem sc_Lis_number : FnScope N_Lis_number P_Lis_number (defScope s_Lis_number) := ⟨rfl, rfl, rfl, by decide +kernel, rfl, by decide +kernel, by decide +kernel⟩
theorem ok_Lis_number (T : Tx w K mg) : Cl P w K mg base 1 "_law_is_number" P_Lis_number (spB1k isNumber) := by
  refine Cl.mk T.d_Lis_number rfl T.g_Lis_number sc_Lis_number (fun _ _ _ _ _ _ us hl => match us, hl with | [_], _ => rfl) (fun vs H Q E h => ?_) (fun cdv A outer s H vs Q E hr h => ?_)
  · obtain ⟨_, rfl, _⟩ := h
    rfl
  · obtain ⟨z, rfl, hz, k⟩ := h
    refine ⟨_, (pss_cons (ps_setLc (i := 1) (own := [("_law_sign", 2)]) (g := (gName 2)) rfl sc_Lis_number.nd rfl rfl (sw_true rfl rfl rfl (by decide +kernel)) (pi_str (pv 0)) (blkOk_by (own := [("_law_sign", 2)]) (N := N_Lis_number) (sc := defScope s_Lis_number) (by decide +kernel)) (fun _ _ _ _ _ => (pg_name (i := 2) sc_Lis_number.nd rfl (Or.inl rfl))) (fun _ _ _ _ _ => pts_one (pt_cmpR op_notIn_sign (pv 2) pe_str (by with_unfolding_all rfl))) (fun _ _ _ _ _ => (pv 2)))
      (pss_one (ps_ret (pe_and (pe_cmpR (op_eqD hr.units) (pv 1) (pe_lst pa_nil) (nomark _)) (pe_one (pe_chain op_lt op_lt pe_int (pe_callB call_len_str (by rfl) T.f_len PySem.boot_len (pa_cons (pv 0) pa_nil)) pe_int)))))), ?_⟩
    walk_at "st"
    walk_at "wp"
    obtain ⟨hz, so⟩ := hz
    refine lc_str (fun c => if isD c = true then none else some (.str ⟨#[c]⟩)) hz rfl (fun c H1 e1 Yv N hy hn => ?_) (fun p H1 hp e1 h1 => ?_)
    · walk_at "wp"
      by_cases cc : c ∈ (Str.ofString "0123456789").cps.toList
      · rw [if_neg (not_not_intro cc)]
        have ed : isD c = true := decide_eq_true cc
        exact hn (by rw [if_pos ed]) _ (Kp.refl H1)
      · rw [if_pos cc]
        have ed : isD c = false := decide_eq_false cc
        exact hy _ _ (by rw [ed]; rfl) (Kp.refl H1)
    · rw [filt_str] at h1
      refine ⟨sz3 (Nat.le_of_ble_eq_true rfl), ?_⟩
      (intro em hem; generalize hg0 : upd _ em _ = H2; obtain ⟨e2, h2⟩ := upd_ex hem hg0; clear hg0)
      have hl : Dp K H2 (.ref p) (.list ((z.cps.toList.filter fun c => !isD c).map fun c => PyData.str ⟨#[c]⟩)) := by
        refine .lst (sqS (e2 _ _ h1 trivial)) ?_
        generalize z.cps.toList.filter (fun c => !isD c) = l
        induction l with
        | nil => exact .nil
        | cons a l ih => exact .cons (.str _) ih
      refine ⟨_, .list [], hl, .lst (sqS h2) .nil, chars_lay (fun c hc => strOk_mem so c ((List.mem_filter.mp hc).1)), by decide, ?_⟩
      rw [eqvAll_nil]
      refine ⟨_, rfl, ?_⟩
      have k1 := k H2 (e1.trans e2)
      unfold isNumber at k1
      have ea : (z.cps.toList.all isD) = decide (((z.cps.toList.filter fun c => !isD c).map fun c => PyData.str ⟨#[c]⟩) = []) := by
        rw [Bool.eq_iff_iff, decide_eq_true_iff, List.map_eq_nil_iff, List.filter_eq_nil_iff, List.all_eq_true]
        simp
      rw [ea] at k1
      by_cases c1 : ((z.cps.toList.filter fun c => !isD c).map fun c => PyData.str ⟨#[c]⟩) = []
      · rw [decide_eq_true c1] at k1 ⊢
        rw [if_pos rfl]
        refine ⟨szL hz, ?_⟩
        by_cases c2 : (0 : Int) < z.length
        · rw [if_pos c2]
          rw [decide_eq_true (show 1 ≤ z.length by omega)] at k1
          have e3 : decide ((z.length : Int) < 101) = decide (z.length ≤ 100) := by
            rw [decide_eq_decide]
            omega
          rw [e3]
          simpa using k1
        · rw [if_neg c2]
          rw [decide_eq_false (show ¬ 1 ≤ z.length by omega)] at k1
          exact k1
      · rw [decide_eq_false c1] at k1 ⊢
        rw [if_neg Bool.false_ne_true]
        simpa using k1
abbrev N_Lis_name : List Str := ["_law_word", "_law_odd", "_law_sign"]
abbrev P_Lis_name : List Str := ["_law_word"]
theorem sc_Lis_name : FnScope N_Lis_name P_Lis_name (defScope s_Lis_name) := ⟨rfl, rfl, rfl, by decide +kernel, rfl, by decide +kernel, by decide +kernel⟩
theorem ok_Lis_name (T : Tx w K mg) : Cl P w K mg base 1 "_law_is_name" P_Lis_name (spB1k isName) := by
  refine Cl.mk T.d_Lis_name rfl T.g_Lis_name sc_Lis_name (fun _ _ _ _ _ _ us hl => match us, hl with | [_], _ => rfl) (fun vs H Q E h => ?_) (fun cdv A outer s H vs Q E hr h => ?_)
  · obtain ⟨_, rfl, _⟩ := h
    rfl
  · obtain ⟨z, rfl, hz, k⟩ := h
    refine ⟨_, (pss_cons (ps_setLc (i := 1) (own := [("_law_sign", 2)]) (g := (gName 2)) rfl sc_Lis_name.nd rfl rfl (sw_true rfl rfl rfl (by decide +kernel)) (pi_str (pv 0)) (blkOk_by (own := [("_law_sign", 2)]) (N := N_Lis_name) (sc := defScope s_Lis_name) (by decide +kernel)) (fun _ _ _ _ _ => (pg_name (i := 2) sc_Lis_name.nd rfl (Or.inl rfl))) (fun _ _ _ _ _ => pts_one (pt_cmpR op_notIn_sign (pv 2) pe_str (by with_unfolding_all rfl))) (fun _ _ _ _ _ => (pv 2)))
      (pss_one (ps_ret (pe_and (pe_cmpR (op_eqD hr.units) (pv 1) (pe_lst pa_nil) (nomark _)) (pe_and (pe_chain op_lt op_lt pe_int (pe_callB call_len_str (by rfl) T.f_len PySem.boot_len (pa_cons (pv 0) pa_nil)) pe_int) (pe_one (pe_cmpR op_notIn_sign (pe_ix ix_str (pv 0) pe_int (fun _ _ => rfl)) pe_str (by with_unfolding_all rfl)))))))), ?_⟩
    walk_at "st"
    walk_at "wp"
    obtain ⟨hz, so⟩ := hz
    have ew : ∀ c, isW c = decide (c ∈ (Str.ofString "abcdefghijklmnopqrstuvwxyz0123456789").cps.toList) := fun c => by
      have e : (Str.ofString "abcdefghijklmnopqrstuvwxyz0123456789").cps.toList = lettersS.cps.toList ++ digitsS.cps.toList := by decide +kernel
      rw [e]
      unfold isW isL isD
      rw [Bool.eq_iff_iff]
      simp
    refine lc_str (fun c => if isW c = true then none else some (.str ⟨#[c]⟩)) hz rfl (fun c H1 e1 Yv N hy hn => ?_) (fun p H1 hp e1 h1 => ?_)
    · walk_at "wp"
      have ec := ew c
      by_cases cc : c ∈ (Str.ofString "abcdefghijklmnopqrstuvwxyz0123456789").cps.toList
      · rw [if_neg (not_not_intro cc)]
        rw [decide_eq_true cc] at ec
        exact hn (by rw [if_pos ec]) _ (Kp.refl H1)
      · rw [if_pos cc]
        rw [decide_eq_false cc] at ec
        exact hy _ _ (by rw [ec]; rfl) (Kp.refl H1)
    · rw [filt_str] at h1
      refine ⟨sz3 (Nat.le_of_ble_eq_true rfl), ?_⟩
      (intro em hem; generalize hg0 : upd _ em _ = H2; obtain ⟨e2, h2⟩ := upd_ex hem hg0; clear hg0)
      have hl : Dp K H2 (.ref p) (.list ((z.cps.toList.filter fun c => !isW c).map fun c => PyData.str ⟨#[c]⟩)) := by
        refine .lst (sqS (e2 _ _ h1 trivial)) ?_
        generalize z.cps.toList.filter (fun c => !isW c) = l
        induction l with
        | nil => exact .nil
        | cons a l ih => exact .cons (.str _) ih
      refine ⟨_, .list [], hl, .lst (sqS h2) .nil, chars_lay (fun c hc => strOk_mem so c (List.mem_filter.mp hc).1), by decide, ?_⟩
      rw [eqvAll_nil]
      refine ⟨_, rfl, ?_⟩
      have k1 := k H2 (e1.trans e2)
      unfold isName at k1
      have ea : (z.cps.toList.all isW) = decide (((z.cps.toList.filter fun c => !isW c).map fun c => PyData.str ⟨#[c]⟩) = []) := by
        rw [Bool.eq_iff_iff, decide_eq_true_iff, List.map_eq_nil_iff, List.filter_eq_nil_iff, List.all_eq_true]
        simp
      have ea2 := ea
      rw [ea] at k1
      by_cases c1 : ((z.cps.toList.filter fun c => !isW c).map fun c => PyData.str ⟨#[c]⟩) = []
      · rw [decide_eq_true c1] at k1 ea2 ⊢
        rw [if_pos rfl]
        refine ⟨szL hz, ?_⟩
        by_cases c2 : (0 : Int) < z.length
        · rw [if_pos c2]
          rw [decide_eq_true (show 1 ≤ z.length by omega)] at k1
          by_cases c3 : (z.length : Int) < 9
          · rw [if_pos c3]
            rw [decide_eq_true (show z.length ≤ 8 by omega)] at k1
            obtain ⟨c, hc, ha⟩ := head_sign (show 1 ≤ z.length by omega)
            rw [hc] at k1
            refine st_ixS hz ha ⟨c, rfl, ?_⟩
            have hw : isW c = true := List.all_eq_true.mp ea2 c (List.mem_of_mem_head? hc)
            have e4 : (!decide (c ∈ (Str.ofString "0123456789").cps.toList)) = isL c := by
              have h5 : isD c = decide (c ∈ (Str.ofString "0123456789").cps.toList) := rfl
              rw [← h5]
              unfold isW at hw
              cases cd : isD c with
              | false =>
                rw [cd] at hw
                simpa using hw.symm
              | true =>
                have h6 : digitsS.cps.toList.all (fun c => !isL c) = true := by decide +kernel
                have h7 := List.all_eq_true.mp h6 c (of_decide_eq_true cd)
                simpa using h7
            rw [e4]
            simpa using k1
          · rw [if_neg c3]
            rw [decide_eq_false (show ¬ z.length ≤ 8 by omega)] at k1
            simpa using k1
        · rw [if_neg c2]
          rw [decide_eq_false (show ¬ 1 ≤ z.length by omega)] at k1
          exact k1
      · rw [decide_eq_false c1] at k1 ⊢
        rw [if_neg Bool.false_ne_true]
        simpa using k1
abbrev N_Lbehind : List Str := ["_law_kind", "_law_side", "_law_word"]
abbrev P_Lbehind : List Str := ["_law_kind", "_law_side", "_law_word"]
theorem sc_Lbehind : FnScope N_Lbehind P_Lbehind (defScope s_Lbehind) := ⟨rfl, rfl, rfl, by decide +kernel, rfl, by decide +kernel, by decide +kernel⟩
theorem ok_Lbehind (T : Tx w K mg) : Cl P w K mg base 1 "_law_behind" P_Lbehind (spBehind K) := by
  refine Cl.mk T.d_Lbehind rfl T.g_Lbehind sc_Lbehind (fun _ _ _ _ _ _ us hl => match us, hl with | [_, _, _], _ => rfl) (fun vs H Q E h => ?_) (fun cdv A outer s H vs Q E hr h => ?_)
  · obtain ⟨_, _, _, rfl, _⟩ := h
    rfl
  · obtain ⟨kd, z, sd, rfl, q⟩ := h
    refine ⟨_, (pss_cons (ps_if (pt_cmpR op_in_seq (pv 2) (pe_lst (pa_cons pe_str (pa_cons pe_str pa_nil))) (by with_unfolding_all rfl)) (pss_one (ps_ret (pe_tup (pa_cons pe_str (pa_cons (pv 0) (pa_cons (pv 1) pa_nil)))))) pss_nil)
      (pss_cons (ps_if (pt_cmpR op_eq (pv 0) pe_str (nomark _)) (pss_one (ps_ret (pe_ifExp (pt_cmpR op_eq (pv 2) pe_str (nomark _)) (pe_tup (pa_cons pe_str (pa_cons pe_str (pa_cons pe_int pa_nil)))) pe_non))) pss_nil)
      (pss_cons (ps_if ((pw_and (pt_cmpR op_eq (pv 1) pe_int (nomark _)) (pw_and1 (pt_cmpR op_in_seq (pv 2) (pe_ifExp (pt_cmpR op_eq (pv 0) pe_str (nomark _)) (pe_lst (pa_cons pe_str (pa_cons pe_str pa_nil))) (pe_lst (pa_cons pe_str (pa_cons pe_str (pa_cons pe_str pa_nil))))) (by with_unfolding_all rfl))))).pt (pss_one (ps_ret (pe_tup (pa_cons pe_str (pa_cons (pv 0) (pa_cons pe_int pa_nil)))))) pss_nil)
      (pss_one (ps_ret (pe_ifExp ((pw_and (pt_cmpR op_eq (pv 1) pe_int (nomark _)) (pw_and1 (pt_cmpR op_eq (pv 2) pe_str (nomark _))))).pt (pe_tup (pa_cons pe_str (pa_cons pe_str (pa_cons pe_int pa_nil)))) pe_non)))))), ?_⟩
    walk_at "st"
    walk_at "wp"
    unfold lBehind at q
    refine ⟨sz3 (Nat.le_of_ble_eq_true rfl), ?_⟩
    (intro p1 hp1; generalize hg0 : upd _ p1 _ = H1; obtain ⟨e1, h1⟩ := upd_ex hp1 hg0; clear hg0)
    refine st_in (ws := ["+", "-"]) rfl (.inl (sqS h1)) ?_
    refine ⟨_, rfl, ?_⟩
    have hin : z ∈ (["+", "-"] : List Str) ↔ z = "+" ∨ z = "-" := by simp
    by_cases c1 : z = "+" ∨ z = "-"
    · rw [if_pos c1] at q
      rw [decide_eq_true (hin.mpr c1), if_pos rfl]
      refine ⟨sz3 (Nat.le_of_ble_eq_true rfl), ?_⟩
      (intro p2 hp2; generalize hg0 : upd _ p2 _ = H2; obtain ⟨e2, h2⟩ := upd_ex hp2 hg0; clear hg0)
      exact q _ H2 (e1.trans e2) ⟨p2, rfl, sqT h2⟩
    rw [if_neg c1] at q
    rw [decide_eq_false (fun h => c1 (hin.mp h)), if_neg Bool.false_ne_true]
    by_cases c2 : kd = "sensor"
    · rw [if_pos c2] at q ⊢
      by_cases c3 : z = "slack"
      · rw [if_pos c3] at q ⊢
        refine ⟨sz3 (Nat.le_of_ble_eq_true rfl), ?_⟩
        (intro p2 hp2; generalize hg0 : upd _ p2 _ = H2; obtain ⟨e2, h2⟩ := upd_ex hp2 hg0; clear hg0)
        exact q _ H2 (e1.trans e2) ⟨p2, rfl, sqT h2⟩
      · rw [if_neg c3] at q ⊢
        exact q H1 e1
    rw [if_neg c2] at q ⊢
    have fin : ∀ H2, Kp AllS H H2 → OutSt K H Q (if sd = 1 ∧ z = "" then some ("done", "", 0) else none) → (if sd = 1 then if z = Str.ofString "" then [V.str (Str.ofString "done"), V.str (Str.ofString ""), V.int 0].length ≤ sizeLine ∧ ∀ (p : Addr), H2 p = none → Q (V.ref p) (upd H2 p (HO.tup [V.str (Str.ofString "done"), V.str (Str.ofString ""), V.int 0])) else Q V.non H2 else Q V.non H2) := by
      intro H2 e2 q
      by_cases d1 : sd = 1
      · rw [if_pos d1]
        by_cases d2 : z = ""
        · rw [if_pos ⟨d1, d2⟩] at q
          rw [if_pos d2]
          refine ⟨sz3 (Nat.le_of_ble_eq_true rfl), ?_⟩
          (intro p3 hp3; generalize hg0 : upd _ p3 _ = H3; obtain ⟨e3, h3⟩ := upd_ex hp3 hg0; clear hg0)
          exact q _ H3 (e2.trans e3) ⟨p3, rfl, sqT h3⟩
        · rw [if_neg (fun h => d2 h.2)] at q
          rw [if_neg d2]
          exact q H2 e2
      · rw [if_neg (fun h => d1 h.1)] at q
        rw [if_neg d1]
        exact q H2 e2
    by_cases c4 : sd = 0
    · rw [if_pos c4]
      by_cases c5 : kd = "ask"
      · rw [if_pos c5] at q ⊢
        refine ⟨sz3 (Nat.le_of_ble_eq_true rfl), ?_⟩
        (intro p2 hp2; generalize hg0 : upd _ p2 _ = H2; obtain ⟨e2, h2⟩ := upd_ex hp2 hg0; clear hg0)
        refine st_in (ws := ["<=", ">="]) rfl (.inl (sqS h2)) ?_
        refine ⟨_, rfl, ?_⟩
        by_cases c6 : z ∈ (["<=", ">="] : List Str)
        · rw [if_pos ⟨c4, c6⟩] at q
          rw [decide_eq_true c6, if_pos rfl]
          refine ⟨sz3 (Nat.le_of_ble_eq_true rfl), ?_⟩
          (intro p3 hp3; generalize hg0 : upd _ p3 _ = H3; obtain ⟨e3, h3⟩ := upd_ex hp3 hg0; clear hg0)
          exact q _ H3 ((e1.trans e2).trans e3) ⟨p3, rfl, sqT h3⟩
        · rw [if_neg (fun h => c6 h.2)] at q
          rw [decide_eq_false c6, if_neg Bool.false_ne_true]
          exact fin H2 (e1.trans e2) q
      · rw [if_neg c5] at q ⊢
        refine ⟨sz3 (Nat.le_of_ble_eq_true rfl), ?_⟩
        (intro p2 hp2; generalize hg0 : upd _ p2 _ = H2; obtain ⟨e2, h2⟩ := upd_ex hp2 hg0; clear hg0)
        refine st_in (ws := ["<=", ">=", "="]) rfl (.inl (sqS h2)) ?_
        refine ⟨_, rfl, ?_⟩
        by_cases c6 : z ∈ (["<=", ">=", "="] : List Str)
        · rw [if_pos ⟨c4, c6⟩] at q
          rw [decide_eq_true c6, if_pos rfl]
          refine ⟨sz3 (Nat.le_of_ble_eq_true rfl), ?_⟩
          (intro p3 hp3; generalize hg0 : upd _ p3 _ = H3; obtain ⟨e3, h3⟩ := upd_ex hp3 hg0; clear hg0)
          exact q _ H3 ((e1.trans e2).trans e3) ⟨p3, rfl, sqT h3⟩
        · rw [if_neg (fun h => c6 h.2)] at q
          rw [decide_eq_false c6, if_neg Bool.false_ne_true]
          exact fin H2 (e1.trans e2) q
    · rw [if_neg c4]
      rw [if_neg (fun h => c4 h.1)] at q
      exact fin H1 e1 q
abbrev N_Lin_form : List Str := ["_law_state", "_law_word", "_law_spot", "_law_kind", "_law_side", "_law_is_free"]
abbrev P_Lin_form : List Str := ["_law_state", "_law_word"]
theorem sc_Lin_form : FnScope N_Lin_form P_Lin_form (defScope s_Lin_form) := ⟨rfl, rfl, rfl, by decide +kernel, rfl, by decide +kernel, by decide +kernel⟩
theorem ok_Lin_form (T : Tx w K mg) : Cl P w K mg base 2 "_law_in_form" P_Lin_form (spStep K lInForm) := by
  refine Cl.mk T.d_Lin_form rfl T.g_Lin_form sc_Lin_form (fun _ _ _ _ _ _ us hl => match us, hl with | [_, _], _ => rfl) (fun vs H Q E h => ?_) (fun cdv A outer s H vs Q E hr h => ?_)
  · obtain ⟨_, _, _, rfl, _⟩ := h
    rfl
  · obtain ⟨v, st, z, rfl, hs, hz, q⟩ := h
    refine ⟨_, (pss_cons (ps_asg (pv 0) (pg_tup (n := 3) rfl (pgs_cons (pg_name (i := 2) sc_Lin_form.nd rfl (Or.inl rfl)) (pgs_cons (pg_name (i := 3) sc_Lin_form.nd rfl (Or.inl rfl)) (pgs_cons (pg_name (i := 4) sc_Lin_form.nd rfl (Or.inl rfl)) pgs_nil)))))
      (pss_cons (ps_set (i := 5) sc_Lin_form.nd rfl (Or.inl rfl) (pe_and (pe_fn (ok_Lis_name T) hr (by decide) (by rfl) (pa_cons (pv 1) pa_nil)) (pe_one (pe_cmpR op_notIn_seq (pv 1) (pe_lst (pa_cons pe_str (pa_cons pe_str pa_nil))) (by with_unfolding_all rfl)))))
      (pss_cons (ps_if (pt_cmpR op_eq (pv 2) pe_str (nomark _)) (pss_one (ps_ret (pe_ifExp (pt_val (pe_fn (ok_Lis_number T) hr (by decide) (by rfl) (pa_cons (pv 1) pa_nil))) (pe_tup (pa_cons pe_str (pa_cons (pv 3) (pa_cons (pv 4) pa_nil)))) pe_non))) pss_nil)
      (pss_cons (ps_if (pt_cmpR op_in_seq (pv 2) (pe_lst (pa_cons pe_str (pa_cons pe_str pa_nil))) (by with_unfolding_all rfl)) (pss_cons (ps_if ((pw_and (pt_cmpR op_eq (pv 2) pe_str (nomark _)) (pw_and1 (pt_cmpR op_eq (pv 1) pe_str (nomark _))))).pt (pss_one (ps_ret (pe_tup (pa_cons pe_str (pa_cons (pv 3) (pa_cons (pv 4) pa_nil)))))) pss_nil)
      (pss_cons (ps_if (pt_val (pe_fn (ok_Lis_number T) hr (by decide) (by rfl) (pa_cons (pv 1) pa_nil))) (pss_one (ps_ret (pe_tup (pa_cons pe_str (pa_cons (pv 3) (pa_cons (pv 4) pa_nil)))))) pss_nil)
      (pss_one (ps_ret (pe_ifExp (pt_val (pv 5)) (pe_tup (pa_cons pe_str (pa_cons (pv 3) (pa_cons (pv 4) pa_nil)))) pe_non))))) pss_nil)
      (pss_cons (ps_if ((pw_and (pt_cmpR op_eq (pv 2) pe_str (nomark _)) (pw_and1 (pt_val (pv 5))))).pt (pss_one (ps_ret (pe_tup (pa_cons pe_str (pa_cons (pv 3) (pa_cons (pv 4) pa_nil)))))) pss_nil)
      (pss_cons (ps_if ((pw_and (pt_cmpR op_eq (pv 2) pe_str (nomark _)) (pw_and1 (pt_cmpR op_eq (pv 3) pe_str (nomark _))))).pt (pss_one (ps_ret pe_non)) pss_nil)
      (pss_cons (ps_if ((pw_and (pt_cmpR op_eq (pv 2) pe_str (nomark _)) (pw_and1 (pt_cmpR op_eq (pv 3) pe_str (nomark _))))).pt (pss_one (ps_ret (pe_ifExp (pt_cmpR op_eq (pv 1) pe_str (nomark _)) (pe_tup (pa_cons pe_str (pa_cons (pv 3) (pa_cons (pv 4) pa_nil)))) pe_non))) pss_nil)
      (pss_cons (ps_if ((pw_and (pt_cmpR op_eq (pv 2) pe_str (nomark _)) (pw_and (pt_cmpR op_eq (pv 3) pe_str (nomark _)) (pw_and1 (pt_cmpR op_eq (pv 1) pe_str (nomark _)))))).pt (pss_one (ps_ret (pe_tup (pa_cons pe_str (pa_cons (pv 3) (pa_cons (pv 4) pa_nil)))))) pss_nil)
      (pss_one (ps_ret (pe_fn (ok_Lbehind T) hr (by decide) (by rfl) (pa_cons (pv 3) (pa_cons (pv 4) (pa_cons (pv 1) pa_nil)))))))))))))), ?_⟩
    walk_at "st"
    obtain ⟨p, rfl, hs⟩ := hs
    unfold lInForm at q
    refine tSeq_op2 fun R hR => ?_
    have tail : ∀ H1, Kp AllS H H1 → R [some (V.ref p), some (V.str z), some (V.str st.1), some (V.str st.2.1), some (V.int st.2.2), some (V.bl (lFree z))] H1 := by
      intro H1 e1
      refine hR _ _ ?_
      refine tSeq_op fun R2 hR2 => ?_
      have tail2 : ¬ st.1 = "at" → R2 [some (V.ref p), some (V.str z), some (V.str st.1), some (V.str st.2.1), some (V.int st.2.2), some (V.bl (lFree z))] H1 := by
        intro n1
        rw [if_neg n1] at q
        refine hR2 _ _ ?_
        refine tSeq_op fun R3 hR3 => ?_
        have tail3 : ∀ H2, Kp AllS H H2 → ¬ (st.1 = "first" ∨ st.1 = "term") → R3 [some (V.ref p), some (V.str z), some (V.str st.1), some (V.str st.2.1), some (V.int st.2.2), some (V.bl (lFree z))] H2 := by
          intro H2 e2 n2
          rw [if_neg n2] at q
          refine hR3 _ _ ?_
          refine tSeq_op fun R4 hR4 => ?_
          have tail4 : ¬ (st.1 = "number" ∧ lFree z = true) → R4 [some (V.ref p), some (V.str z), some (V.str st.1), some (V.str st.2.1), some (V.int st.2.2), some (V.bl (lFree z))] H2 := by
            intro n3
            rw [if_neg n3] at q
            refine hR4 _ _ ?_
            refine tSeq_op fun R5 hR5 => ?_
            have tail5 : ¬ (st.1 = "number" ∧ st.2.1 = "sensor") → R5 [some (V.ref p), some (V.str z), some (V.str st.1), some (V.str st.2.1), some (V.int st.2.2), some (V.bl (lFree z))] H2 := by
              intro n4
              rw [if_neg n4] at q
              refine hR5 _ _ ?_
              refine tSeq_op fun R6 hR6 => ?_
              have tail6 : ¬ (st.1 = "name" ∧ st.2.1 = "ask") → R6 [some (V.ref p), some (V.str z), some (V.str st.1), some (V.str st.2.1), some (V.int st.2.2), some (V.bl (lFree z))] H2 := by
                intro n5
                rw [if_neg n5] at q
                refine hR6 _ _ ?_
                refine tSeq_op fun R7 hR7 => ?_
                have tail7 : ¬ (st.1 = "name" ∧ st.2.1 = "step" ∧ z = "'") → R7 [some (V.ref p), some (V.str z), some (V.str st.1), some (V.str st.2.1), some (V.int st.2.2), some (V.bl (lFree z))] H2 := by
                  intro n6
                  rw [if_neg n6] at q
                  refine hR7 _ _ ?_
                  walk_at "wp"
                  exact ⟨_, _, _, rfl, q.mono e2⟩
                walk_at "wp"
                by_cases d1 : st.1 = "name"
                · rw [if_pos d1]
                  by_cases d2 : st.2.1 = "step"
                  · rw [if_pos d2]
                    by_cases d3 : z = "'"
                    · rw [if_pos d3]
                      rw [if_pos ⟨d1, d2, d3⟩] at q
                      refine ⟨sz3 (Nat.le_of_ble_eq_true rfl), ?_⟩
                      (intro a ha; generalize hg0 : upd _ a _ = H3; obtain ⟨e3, h3⟩ := upd_ex ha hg0; clear hg0)
                      exact q _ H3 (e2.trans e3) ⟨a, rfl, sqT h3⟩
                    · rw [if_neg d3]
                      exact tail7 fun h => d3 h.2.2
                  · rw [if_neg d2]
                    exact tail7 fun h => d2 h.2.1
                · rw [if_neg d1]
                  exact tail7 fun h => d1 h.1
              walk_at "wp"
              by_cases d1 : st.1 = "name"
              · rw [if_pos d1]
                by_cases d2 : st.2.1 = "ask"
                · rw [if_pos d2]
                  rw [if_pos ⟨d1, d2⟩] at q
                  by_cases d3 : z = "at"
                  · rw [if_pos d3] at q ⊢
                    refine ⟨sz3 (Nat.le_of_ble_eq_true rfl), ?_⟩
                    (intro a ha; generalize hg0 : upd _ a _ = H3; obtain ⟨e3, h3⟩ := upd_ex ha hg0; clear hg0)
                    exact q _ H3 (e2.trans e3) ⟨a, rfl, sqT h3⟩
                  · rw [if_neg d3] at q ⊢
                    exact q H2 e2
                · rw [if_neg d2]
                  exact tail6 fun h => d2 h.2
              · rw [if_neg d1]
                exact tail6 fun h => d1 h.1
            walk_at "wp"
            by_cases d1 : st.1 = "number"
            · rw [if_pos d1]
              by_cases d2 : st.2.1 = "sensor"
              · rw [if_pos d2]
                rw [if_pos ⟨d1, d2⟩] at q
                exact q H2 e2
              · rw [if_neg d2]
                exact tail5 fun h => d2 h.2
            · rw [if_neg d1]
              exact tail5 fun h => d1 h.1
          walk_at "wp"
          by_cases d1 : st.1 = "number"
          · rw [if_pos d1]
            by_cases d2 : lFree z = true
            · rw [if_pos d2]
              rw [if_pos ⟨d1, d2⟩] at q
              refine ⟨sz3 (Nat.le_of_ble_eq_true rfl), ?_⟩
              (intro a ha; generalize hg0 : upd _ a _ = H3; obtain ⟨e3, h3⟩ := upd_ex ha hg0; clear hg0)
              exact q _ H3 (e2.trans e3) ⟨a, rfl, sqT h3⟩
            · rw [if_neg d2]
              exact tail4 fun h => d2 h.2
          · rw [if_neg d1]
            exact tail4 fun h => d1 h.1
        walk_at "wp"
        refine ⟨sz3 (Nat.le_of_ble_eq_true rfl), ?_⟩
        (intro a ha; generalize hg0 : upd _ a _ = H2; obtain ⟨e2, h2⟩ := upd_ex ha hg0; clear hg0)
        have f2 := e1.trans e2
        refine st_in (ws := ["first", "term"]) rfl (.inl (sqS h2)) ?_
        refine ⟨_, rfl, ?_⟩
        have hin : st.1 ∈ (["first", "term"] : List Str) ↔ st.1 = "first" ∨ st.1 = "term" := by simp
        by_cases d1 : st.1 = "first" ∨ st.1 = "term"
        · rw [decide_eq_true (hin.mpr d1), if_pos rfl]
          rw [if_pos d1] at q
          have fin : ¬ (st.1 = "first" ∧ z = "-") → spB1k isNumber [V.str z] H2 (fun x H1 => ∃ k, x = V.bl k ∧ if k = true then [V.str (Str.ofString "number"), V.str st.2.1, V.int st.2.2].length ≤ sizeLine ∧ ∀ (p : Addr), H1 p = none → Q (V.ref p) (upd H1 p (HO.tup [V.str (Str.ofString "number"), V.str st.2.1, V.int st.2.2])) else if lFree z = true then [V.str (Str.ofString "name"), V.str st.2.1, V.int st.2.2].length ≤ sizeLine ∧ ∀ (p : Addr), H1 p = none → Q (V.ref p) (upd H1 p (HO.tup [V.str (Str.ofString "name"), V.str st.2.1, V.int st.2.2])) else Q V.non H1) E0 := by
            intro n3
            rw [if_neg n3] at q
            refine ⟨z, rfl, hz, fun H3 e3 => ⟨_, rfl, ?_⟩⟩
            by_cases d2 : isNumber z = true
            · rw [if_pos d2] at q ⊢
              refine ⟨sz3 (Nat.le_of_ble_eq_true rfl), ?_⟩
              (intro b hb; generalize hg0 : upd _ b _ = H4; obtain ⟨e4, h4⟩ := upd_ex hb hg0; clear hg0)
              exact q _ H4 ((f2.trans e3).trans e4) ⟨b, rfl, sqT h4⟩
            · rw [if_neg d2] at q ⊢
              by_cases d3 : lFree z = true
              · rw [if_pos d3] at q ⊢
                refine ⟨sz3 (Nat.le_of_ble_eq_true rfl), ?_⟩
                (intro b hb; generalize hg0 : upd _ b _ = H4; obtain ⟨e4, h4⟩ := upd_ex hb hg0; clear hg0)
                exact q _ H4 ((f2.trans e3).trans e4) ⟨b, rfl, sqT h4⟩
              · rw [if_neg d3] at q ⊢
                exact q H3 (f2.trans e3)
          by_cases d2 : st.1 = "first"
          · rw [if_pos d2]
            by_cases d3 : z = "-"
            · rw [if_pos d3]
              rw [if_pos ⟨d2, d3⟩] at q
              refine ⟨sz3 (Nat.le_of_ble_eq_true rfl), ?_⟩
              (intro b hb; generalize hg0 : upd _ b _ = H3; obtain ⟨e3, h3⟩ := upd_ex hb hg0; clear hg0)
              exact q _ H3 (f2.trans e3) ⟨b, rfl, sqT h3⟩
            · rw [if_neg d3]
              exact fin fun h => d3 h.2
          · rw [if_neg d2]
            exact fin fun h => d2 h.1
        · rw [decide_eq_false (fun h => d1 (hin.mp h)), if_neg Bool.false_ne_true]
          exact tail3 H2 f2 d1
      walk_at "wp"
      by_cases d1 : st.1 = "at"
      · rw [if_pos d1] at q ⊢
        refine ⟨z, rfl, hz, fun H2 e2 => ⟨_, rfl, ?_⟩⟩
        by_cases d2 : isNumber z = true
        · rw [if_pos d2] at q ⊢
          refine ⟨sz3 (Nat.le_of_ble_eq_true rfl), ?_⟩
          (intro b hb; generalize hg0 : upd _ b _ = H3; obtain ⟨e3, h3⟩ := upd_ex hb hg0; clear hg0)
          exact q _ H3 ((e1.trans e2).trans e3) ⟨b, rfl, sqT h3⟩
        · rw [if_neg d2] at q ⊢
          exact q H2 (e1.trans e2)
      · rw [if_neg d1]
        exact tail2 d1
    refine ⟨_, rfl, ?_⟩
    refine st_tup3 hs ?_
    walk_at "wp"
    refine ⟨z, rfl, hz, fun H1 e1 => ⟨_, rfl, ?_⟩⟩
    unfold lFree at tail
    cases c5 : isName z with
    | true =>
      rw [if_pos rfl]
      refine ⟨sz3 (Nat.le_of_ble_eq_true rfl), ?_⟩
      (intro a ha; generalize hg0 : upd _ a _ = H2; obtain ⟨e2, h2⟩ := upd_ex ha hg0; clear hg0)
      refine st_ni (ws := ["at", "slack"]) rfl (.inl (sqS h2)) ?_
      have t1 := tail H2 (e1.trans e2)
      rw [c5] at t1
      exact t1
    | false =>
      rw [if_neg Bool.false_ne_true]
      have t1 := tail H1 e1
      rw [c5] at t1
      exact t1
abbrev N_Ltable : List Str := []
abbrev P_Ltable : List Str := []
theorem sc_Ltable : FnScope N_Ltable P_Ltable (defScope s_Ltable) := ⟨rfl, rfl, rfl, by decide +kernel, rfl, by decide +kernel, by decide +kernel⟩
theorem ok_Ltable (T : Tx w K mg) : Cl P w K mg base 1 "_law_table" P_Ltable (spTable K) := by
  refine Cl.mk T.d_Ltable rfl T.g_Ltable sc_Ltable (fun _ _ _ _ _ _ us hl => match us, hl with | [], _ => rfl) (fun vs H Q E h => ?_) (fun cdv A outer s H vs Q E hr h => ?_)
  · obtain ⟨rfl, _⟩ := h
    rfl
  · obtain ⟨rfl, q⟩ := h
    refine ⟨_, (pss_one (ps_ret (pe_lst (pa_cons (pe_tup (pa_cons pe_str (pa_cons pe_str (pa_cons pe_str pa_nil)))) (pa_cons (pe_tup (pa_cons pe_str (pa_cons pe_str (pa_cons pe_str pa_nil)))) (pa_cons (pe_tup (pa_cons pe_str (pa_cons pe_str (pa_cons pe_str pa_nil)))) (pa_cons (pe_tup (pa_cons pe_str (pa_cons pe_str (pa_cons pe_str pa_nil)))) (pa_cons (pe_tup (pa_cons pe_str (pa_cons pe_str (pa_cons pe_str pa_nil)))) (pa_cons (pe_tup (pa_cons pe_str (pa_cons pe_str (pa_cons pe_str pa_nil)))) (pa_cons (pe_tup (pa_cons pe_str (pa_cons pe_str (pa_cons pe_str pa_nil)))) (pa_cons (pe_tup (pa_cons pe_str (pa_cons pe_str (pa_cons pe_str pa_nil)))) (pa_cons (pe_tup (pa_cons pe_str (pa_cons pe_str (pa_cons pe_str pa_nil)))) (pa_cons (pe_tup (pa_cons pe_str (pa_cons pe_str (pa_cons pe_str pa_nil)))) (pa_cons (pe_tup (pa_cons pe_str (pa_cons pe_str (pa_cons pe_str pa_nil)))) (pa_cons (pe_tup (pa_cons pe_str (pa_cons pe_str (pa_cons pe_str pa_nil)))) (pa_cons (pe_tup (pa_cons pe_str (pa_cons pe_str (pa_cons pe_str pa_nil)))) (pa_cons (pe_tup (pa_cons pe_str (pa_cons pe_str (pa_cons pe_str pa_nil)))) (pa_cons (pe_tup (pa_cons pe_str (pa_cons pe_str (pa_cons pe_str pa_nil)))) (pa_cons (pe_tup (pa_cons pe_str (pa_cons pe_str (pa_cons pe_str pa_nil)))) (pa_cons (pe_tup (pa_cons pe_str (pa_cons pe_str (pa_cons pe_str pa_nil)))) (pa_cons (pe_tup (pa_cons pe_str (pa_cons pe_str (pa_cons pe_str pa_nil)))) (pa_cons (pe_tup (pa_cons pe_str (pa_cons pe_str (pa_cons pe_str pa_nil)))) (pa_cons (pe_tup (pa_cons pe_str (pa_cons pe_str (pa_cons pe_str pa_nil)))) (pa_cons (pe_tup (pa_cons pe_str (pa_cons pe_str (pa_cons pe_str pa_nil)))) (pa_cons (pe_tup (pa_cons pe_str (pa_cons pe_str (pa_cons pe_str pa_nil)))) (pa_cons (pe_tup (pa_cons pe_str (pa_cons pe_str (pa_cons pe_str pa_nil)))) (pa_cons (pe_tup (pa_cons pe_str (pa_cons pe_str (pa_cons pe_str pa_nil)))) (pa_cons (pe_tup (pa_cons pe_str (pa_cons pe_str (pa_cons pe_str pa_nil)))) pa_nil)))))))))))))))))))))))))))), ?_⟩
    walk_at "st"
    show tRet (tLst (taL lTable)) _ _ _
    refine st_trips (K := K) fun vs H1 e1 f1 => ?_
    have lv := f1.len
    refine ⟨sz3 (by rw [lv]; decide), ?_⟩
    (intro r hr; generalize hg0 : upd _ r _ = H2; obtain ⟨e2, h2⟩ := upd_ex hr hg0; clear hg0)
    exact q r vs H2 (e1.nn hr) (e1.trans e2) h2 (f1.imp fun _ _ h => h.kp e2)
abbrev N_Lfits : List Str := ["_law_kind", "_law_word"]
abbrev P_Lfits : List Str := ["_law_kind", "_law_word"]
theorem sc_Lfits : FnScope N_Lfits P_Lfits (defScope s_Lfits) := ⟨rfl, rfl, rfl, by decide +kernel, rfl, by decide +kernel, by decide +kernel⟩
theorem ok_Lfits (T : Tx w K mg) : Cl P w K mg base 2 "_law_fits" P_Lfits (spLFits) := by
  refine Cl.mk T.d_Lfits rfl T.g_Lfits sc_Lfits (fun _ _ _ _ _ _ us hl => match us, hl with | [_, _], _ => rfl) (fun vs H Q E h => ?_) (fun cdv A outer s H vs Q E hr h => ?_)
  · obtain ⟨_, _, rfl, _⟩ := h
    rfl
  · obtain ⟨k, z, rfl, hz, q⟩ := h
    refine ⟨_, (pss_cons (ps_if (pt_cmpR op_eq (pv 0) pe_str (nomark _)) (pss_one (ps_ret (pe_fn (ok_Lis_number T) hr (by decide) (by rfl) (pa_cons (pv 1) pa_nil)))) pss_nil)
      (pss_cons (ps_if (pt_cmpR op_eq (pv 0) pe_str (nomark _)) (pss_one (ps_ret (pe_and (pe_fn (ok_Lis_number T) hr (by decide) (by rfl) (pa_cons (pv 1) pa_nil)) (pe_one (pe_cmpR op_ne (pe_m1 PySem.F.slot_str_strip PySem.F.type_str_strip mt_stripChars (pv 1) pe_str) pe_str (nomark _)))))) pss_nil)
      (pss_cons (ps_if (pt_cmpR op_eq (pv 0) pe_str (nomark _)) (pss_one (ps_ret (pe_fn (ok_Lis_name T) hr (by decide) (by rfl) (pa_cons (pv 1) pa_nil)))) pss_nil)
      (pss_cons (ps_if (pt_cmpR op_eq (pv 0) pe_str (nomark _)) (pss_one (ps_ret (pe_and (pe_fn (ok_Lis_name T) hr (by decide) (by rfl) (pa_cons (pv 1) pa_nil)) (pe_one (pe_cmpR op_notIn_seq (pv 1) (pe_lst (pa_cons pe_str (pa_cons pe_str pa_nil))) (by with_unfolding_all rfl)))))) pss_nil)
      (pss_one (ps_ret (pe_cmpR op_eq (pv 1) (pv 0) (nomark _)))))))), ?_⟩
    walk_at "st"
    walk_at "wp"
    unfold lFits at q
    by_cases c1 : k = "NUMBER"
    · simp only [if_pos c1] at q ⊢
      exact ⟨z, rfl, hz, q⟩
    · simp only [if_neg c1] at q ⊢
      by_cases c2 : k = "BELOW"
      · simp only [if_pos c2] at q ⊢
        refine ⟨z, rfl, hz, fun H1 e1 => ⟨_, rfl, ?_⟩⟩
        have q1 := q H1 e1
        cases c3 : isNumber z with
        | true =>
          rw [c3] at q1
          rw [if_pos rfl]
          refine ⟨⟨_, rfl⟩, szL hz.1, ?_⟩
          simpa using q1
        | false =>
          rw [c3] at q1
          rw [if_neg Bool.false_ne_true]
          exact q1
      · simp only [if_neg c2] at q ⊢
        by_cases c3 : k = "NAME"
        · simp only [if_pos c3] at q ⊢
          exact ⟨z, rfl, hz, q⟩
        · simp only [if_neg c3] at q ⊢
          by_cases c4 : k = "FREE"
          · simp only [if_pos c4] at q ⊢
            refine ⟨z, rfl, hz, fun H1 e1 => ⟨_, rfl, ?_⟩⟩
            unfold lFree at q
            cases c5 : isName z with
            | true =>
              rw [if_pos rfl]
              refine ⟨sz3 (Nat.le_of_ble_eq_true rfl), ?_⟩
              (intro p hp; generalize hg0 : upd _ p _ = H2; obtain ⟨e2, h2⟩ := upd_ex hp hg0; clear hg0)
              refine st_ni (ws := ["at", "slack"]) rfl (.inl (sqS h2)) ?_
              have q1 := q H2 (e1.trans e2)
              rw [c5] at q1
              exact q1
            | false =>
              rw [if_neg Bool.false_ne_true]
              have q1 := q H1 e1
              rw [c5] at q1
              exact q1
          · simp only [if_neg c4] at q ⊢
            exact q H (Kp.refl H)
abbrev N_Lstep : List Str := ["_law_state", "_law_word", "_law_opens", "_law_ahead", "_law_sign", "_law_kind", "_law_then"]
abbrev P_Lstep : List Str := ["_law_state", "_law_word"]
theorem sc_Lstep : FnScope N_Lstep P_Lstep (defScope s_Lstep) := ⟨rfl, rfl, rfl, by decide +kernel, rfl, by decide +kernel, by decide +kernel⟩
theorem ok_Lstep (T : Tx w K mg) : Cl P w K mg base 3 "_law_step" P_Lstep (spStep K lStep) := by
  refine Cl.mk T.d_Lstep rfl T.g_Lstep sc_Lstep (fun _ _ _ _ _ _ us hl => match us, hl with | [_, _], _ => rfl) (fun vs H Q E h => ?_) (fun cdv A outer s H vs Q E hr h => ?_)
  · obtain ⟨_, _, _, rfl, _⟩ := h
    rfl
  · obtain ⟨v, st, z, rfl, hs, hz, q⟩ := h
    refine ⟨_, (pss_cons (ps_if (pt_cmpR op_ne (pe_ix ix_tup (pv 0) pe_int (fun _ _ => rfl)) pe_str (nomark _)) (pss_one (ps_ret (pe_fn (ok_Lin_form T) hr (by decide) (by rfl) (pa_cons (pv 0) (pa_cons (pv 1) pa_nil))))) pss_nil)
      (pss_cons (ps_set (i := 2) sc_Lstep.nd rfl (Or.inl rfl) (pe_lst (pa_cons (pe_tup (pa_cons pe_str (pa_cons pe_str (pa_cons pe_str pa_nil)))) (pa_cons (pe_tup (pa_cons pe_str (pa_cons pe_str (pa_cons pe_str pa_nil)))) (pa_cons (pe_tup (pa_cons pe_str (pa_cons pe_str (pa_cons pe_str pa_nil)))) pa_nil)))))
      (pss_cons (ps_for (passes_of rfl) rfl (pi_list (pe_op op_cat (pv 2) (pe_lst (pa_cons (pe_tup (pa_cons pe_str (pa_cons pe_str (pa_cons pe_str pa_nil)))) (pa_cons (pe_tup (pa_cons pe_str (pa_cons pe_str (pa_cons pe_str pa_nil)))) pa_nil))))) (pg_tup (n := 3) rfl (pgs_cons (pg_name (i := 3) sc_Lstep.nd rfl (Or.inl rfl)) (pgs_cons (pg_name (i := 4) sc_Lstep.nd rfl (Or.inl rfl)) (pgs_cons (pg_name (i := 5) sc_Lstep.nd rfl (Or.inl rfl)) pgs_nil)))) (pss_one (ps_if ((pw_and (pt_cmpR op_eq (pe_ix ix_tup (pv 0) pe_int (fun _ _ => rfl)) (pv 3) (nomark _)) (pw_and1 (pt_cmpR op_eq (pv 1) (pv 4) (nomark _))))).pt (pss_one (ps_ret (pe_tup (pa_cons pe_str (pa_cons (pv 5) (pa_cons pe_int pa_nil)))))) pss_nil)))
      (pss_cons (ps_for (passes_of rfl) rfl (pi_list (pe_fn0 (ok_Ltable T) hr (by decide) (by rfl))) (pg_tup (n := 3) rfl (pgs_cons (pg_name (i := 3) sc_Lstep.nd rfl (Or.inl rfl)) (pgs_cons (pg_name (i := 5) sc_Lstep.nd rfl (Or.inl rfl)) (pgs_cons (pg_name (i := 6) sc_Lstep.nd rfl (Or.inl rfl)) pgs_nil)))) (pss_one (ps_if ((pw_and (pt_cmpR op_eq (pe_ix ix_tup (pv 0) pe_int (fun _ _ => rfl)) (pv 3) (nomark _)) (pw_and1 (pt_val (pe_fn (ok_Lfits T) hr (by decide) (by rfl) (pa_cons (pv 5) (pa_cons (pv 1) pa_nil))))))).pt (pss_one (ps_ret (pe_tup (pa_cons (pv 6) (pa_cons pe_str (pa_cons pe_int pa_nil)))))) pss_nil)))
      (pss_one (ps_ret pe_non)))))), ?_⟩
    walk_at "st"
    obtain ⟨p, rfl, hs⟩ := hs
    unfold lStep at q
    refine tSeq_op fun R hR => ?_
    have tail : st.2.1 = "" → R [some (V.ref p), some (V.str z), none, none, none, none, none] H := by
      intro he
      rw [if_neg (not_not_intro he)] at q
      refine hR _ _ ?_
      refine tSeq_op2 fun R2 hR2 => ?_
      have tail2 : lStepO lOpens st.1 z = none → ∀ (H2 : Hp) (o2 o3 o4 o5 o6 : Option V), Kp AllS H H2 → R2 [some (V.ref p), some (V.str z), o2, o3, o4, o5, o6] H2 := by
        intro ho H2 o2 o3 o4 o5 o6 e2
        rw [ho] at q
        refine hR2 _ _ ?_
        refine ⟨rfl, fun r ys H3 hr e3 h3 f3 => ⟨r, rfl, ⟨_, sqS h3⟩, ?_⟩⟩
        obtain ⟨Pv, hP⟩ := mkI fun (i : Nat) σ H4 => ∃ (o2 o3 o4 o5 o6 : Option V), σ = [some (V.ref p), some (V.str z), o2, o3, o4, o5, o6] ∧ Kp AllS H3 H4 ∧ lStepT (lTable.drop i) st.1 z = lStepT lTable st.1 z
        refine for_list (xs := ys) Pv ((hP _ _ _).mpr ⟨_, _, _, _, _, rfl, Kp.refl _, rfl⟩) (fun i σ H4 _ pv => ?_) (fun i x σ H4 hx pv => ?_) (fun σ H4 pv => ?_)
        · obtain ⟨_, _, _, _, _, _, e4, _⟩ := (hP _ _ _).mp pv
          exact e4.seq (sqS h3)
        · obtain ⟨o2, o3, o4, o5, o6, rfl, e4, hw⟩ := (hP _ _ _).mp pv
          obtain ⟨b, hbx, p5, rfl, sq⟩ := f3.get' hx
          obtain ⟨c, rr, g1, g2, g3⟩ := drop_at (l := lTable) (k := i) (List.getElem?_eq_some_iff.mp hbx).1
          obtain rfl : b = c := Option.some.inj (hbx.symm.trans g2)
          refine st_tup3 (e4.seqT sq) ?_
          have e04 := (e2.trans e3).trans e4
          rw [g1, lStepT] at hw
          walk_at "wp"
          refine st_ixT (e04.seqT hs) (atI_nat (j := 0) rfl) ?_
          rw [rEq_ss]
          refine ⟨_, rfl, ?_⟩
          by_cases c1 : st.1 = b.1
          · rw [decide_eq_true c1, if_pos rfl]
            refine ⟨_, _, rfl, hz, fun H5 e5 => ⟨_, rfl, ?_⟩⟩
            by_cases c2 : lFits b.2.1 z = true
            · rw [if_pos c2]
              rw [if_pos ⟨c1, c2⟩] at hw
              rw [← hw] at q
              refine ⟨sz3 (Nat.le_of_ble_eq_true rfl), ?_⟩
              (intro a6 ha6; generalize hg0 : upd _ a6 _ = H6; obtain ⟨e6, h6⟩ := upd_ex ha6 hg0; clear hg0)
              exact q _ H6 ((e04.trans e5).trans e6) ⟨a6, rfl, sqT h6⟩
            · rw [if_neg c2]
              rw [if_neg (fun h => c2 h.2)] at hw
              exact (hP _ _ _).mpr ⟨_, _, _, _, _, rfl, e4.trans e5, by rw [g3]; exact hw⟩
          · rw [decide_eq_false c1, if_neg Bool.false_ne_true]
            rw [if_neg (fun h => c1 h.1)] at hw
            exact (hP _ _ _).mpr ⟨_, _, _, _, _, rfl, e4, by rw [g3]; exact hw⟩
        · obtain ⟨o2, o3, o4, o5, o6, rfl, e4, hw⟩ := (hP _ _ _).mp pv
          rw [f3.len, List.drop_length, lStepT] at hw
          rw [← hw] at q
          exact q H4 ((e2.trans e3).trans e4)
      walk_at "wp"
      refine ⟨sz3 (Nat.le_of_ble_eq_true rfl), ?_⟩
      (intro a1 ha1; generalize hg0 : upd _ a1 _ = H1; obtain ⟨e1, h1⟩ := upd_ex ha1 hg0; clear hg0)
      refine ⟨sz3 (Nat.le_of_ble_eq_true rfl), ?_⟩
      (intro a2 ha2; generalize hg0 : upd _ a2 _ = H2; obtain ⟨e2, h2⟩ := upd_ex ha2 hg0; clear hg0)
      refine ⟨sz3 (Nat.le_of_ble_eq_true rfl), ?_⟩
      (intro a3 ha3; generalize hg0 : upd _ a3 _ = H3; obtain ⟨e3, h3⟩ := upd_ex ha3 hg0; clear hg0)
      refine ⟨sz3 (Nat.le_of_ble_eq_true rfl), ?_⟩
      (intro a4 ha4; generalize hg0 : upd _ a4 _ = H4; obtain ⟨e4, h4⟩ := upd_ex ha4 hg0; clear hg0)
      refine ⟨_, rfl, sz3 (Nat.le_of_ble_eq_true rfl), ?_⟩
      (intro a5 ha5; generalize hg0 : upd _ a5 _ = H5; obtain ⟨e5, h5⟩ := upd_ex ha5 hg0; clear hg0)
      refine ⟨sz3 (Nat.le_of_ble_eq_true rfl), ?_⟩
      (intro a6 ha6; generalize hg0 : upd _ a6 _ = H6; obtain ⟨e6, h6⟩ := upd_ex ha6 hg0; clear hg0)
      refine ⟨sz3 (Nat.le_of_ble_eq_true rfl), ?_⟩
      (intro a7 ha7; generalize hg0 : upd _ a7 _ = H7; obtain ⟨e7, h7⟩ := upd_ex ha7 hg0; clear hg0)
      refine st_cat (e7 _ _ (e6 _ _ (e5 _ _ h4 trivial) trivial) trivial) h7 (Nat.le_of_ble_eq_true rfl) fun a8 H8 ha8 e8 h8 => ⟨a8, rfl, ⟨_, sqS h8⟩, ?_⟩
      have e58 := ((e5.trans e6).trans e7).trans e8
      have f8 : F2 (TripAt K H8) [V.ref a1, V.ref a2, V.ref a3, V.ref a5, V.ref a6] lOpens := .cons ⟨a1, rfl, sqT ((((e2.trans e3).trans e4).trans e58) _ _ h1 trivial)⟩ (.cons ⟨a2, rfl, sqT (((e3.trans e4).trans e58) _ _ h2 trivial)⟩ (.cons ⟨a3, rfl, sqT ((e4.trans e58) _ _ h3 trivial)⟩ (.cons ⟨a5, rfl, sqT (((e6.trans e7).trans e8) _ _ h5 trivial)⟩ (.cons ⟨a6, rfl, sqT ((e7.trans e8) _ _ h6 trivial)⟩ .nil))))
      have e08 := (((e1.trans e2).trans e3).trans e4).trans e58
      obtain ⟨Pv, hP⟩ := mkI fun (i : Nat) σ H9 => ∃ (o2 o3 o4 o5 o6 : Option V), σ = [some (V.ref p), some (V.str z), o2, o3, o4, o5, o6] ∧ Kp AllS H8 H9 ∧ lStepO (lOpens.drop i) st.1 z = lStepO lOpens st.1 z
      refine for_list (xs := [V.ref a1, V.ref a2, V.ref a3, V.ref a5, V.ref a6]) Pv ((hP _ _ _).mpr ⟨_, _, _, _, _, rfl, Kp.refl _, rfl⟩) (fun i σ H9 _ pv => ?_) (fun i x σ H9 hx pv => ?_) (fun σ H9 pv => ?_)
      · obtain ⟨_, _, _, _, _, _, e9, _⟩ := (hP _ _ _).mp pv
        exact e9.seq (sqS h8)
      · obtain ⟨o2, o3, o4, o5, o6, rfl, e9, hw⟩ := (hP _ _ _).mp pv
        obtain ⟨b, hbx, p5, rfl, sq⟩ := f8.get' hx
        obtain ⟨c, rr, g1, g2, g3⟩ := drop_at (l := lOpens) (k := i) (List.getElem?_eq_some_iff.mp hbx).1
        obtain rfl : b = c := Option.some.inj (hbx.symm.trans g2)
        refine st_tup3 (e9.seqT sq) ?_
        have e09 := e08.trans e9
        rw [g1, lStepO] at hw
        walk_at "wp"
        refine st_ixT (e09.seqT hs) (atI_nat (j := 0) rfl) ?_
        rw [rEq_ss]
        refine ⟨_, rfl, ?_⟩
        by_cases c1 : st.1 = b.1
        · rw [decide_eq_true c1, if_pos rfl]
          by_cases c2 : z = b.2.1
          · rw [if_pos c2]
            rw [if_pos ⟨c1, c2⟩] at hw
            rw [← hw] at q
            refine ⟨sz3 (Nat.le_of_ble_eq_true rfl), ?_⟩
            (intro a10 ha10; generalize hg0 : upd _ a10 _ = H10; obtain ⟨e10, h10⟩ := upd_ex ha10 hg0; clear hg0)
            exact q _ H10 (e09.trans e10) ⟨a10, rfl, sqT h10⟩
          · rw [if_neg c2]
            rw [if_neg (fun h => c2 h.2)] at hw
            exact (hP _ _ _).mpr ⟨_, _, _, _, _, rfl, e9, by rw [g3]; exact hw⟩
        · rw [decide_eq_false c1, if_neg Bool.false_ne_true]
          rw [if_neg (fun h => c1 h.1)] at hw
          exact (hP _ _ _).mpr ⟨_, _, _, _, _, rfl, e9, by rw [g3]; exact hw⟩
      · obtain ⟨o2, o3, o4, o5, o6, rfl, e9, hw⟩ := (hP _ _ _).mp pv
        rw [f8.len, List.drop_length, lStepO] at hw
        exact tail2 hw.symm H9 _ _ _ _ _ (e08.trans e9)
    walk_at "wp"
    refine st_ixT hs (atI_nat (j := 1) rfl) ?_
    walk_at "wp"
    by_cases c1 : st.2.1 = ""
    · rw [if_neg (not_not_intro c1)]
      exact tail c1
    · rw [if_pos c1] at q ⊢
      exact ⟨_, st, z, rfl, ⟨p, rfl, hs⟩, hz, q⟩
abbrev N_Lwalk : List Str := ["_law_words", "_law_state", "_law_at", "_law_word"]
abbrev P_Lwalk : List Str := ["_law_words"]
theorem sc_Lwalk : FnScope N_Lwalk P_Lwalk (defScope s_Lwalk) := ⟨rfl, rfl, rfl, by decide +kernel, rfl, by decide +kernel, by decide +kernel⟩
theorem ok_Lwalk (T : Tx w K mg) : Cl P w K mg base 4 "_law_walk" P_Lwalk (spLWalk) := by
  refine Cl.mk T.d_Lwalk rfl T.g_Lwalk sc_Lwalk (fun _ _ _ _ _ _ us hl => match us, hl with | [_], _ => rfl) (fun vs H Q E h => ?_) (fun cdv A outer s H vs Q E hr h => ?_)
  · obtain ⟨_, _, rfl, _⟩ := h
    rfl
  · obtain ⟨a, ws, rfl, ha, hl, hz, q⟩ := h
    refine ⟨_, (pss_cons (ps_set (i := 1) sc_Lwalk.nd rfl (Or.inl rfl) (pe_tup (pa_cons pe_str (pa_cons pe_str (pa_cons pe_int pa_nil)))))
      (pss_cons (ps_for (passes_of rfl) rfl (pi_enum rfl T.f_enumerate (pa_cons (pv 0) pa_nil)) (pg_tup (n := 2) rfl (pgs_cons (pg_name (i := 2) sc_Lwalk.nd rfl (Or.inl rfl)) (pgs_cons (pg_name (i := 3) sc_Lwalk.nd rfl (Or.inl rfl)) pgs_nil))) (pss_cons (ps_set (i := 1) sc_Lwalk.nd rfl (Or.inl rfl) (pe_fn (ok_Lstep T) hr (by decide) (by rfl) (pa_cons (pv 1) (pa_cons (pv 3) pa_nil))))
      (pss_one (ps_if (pt_cmp (pc_isN (pv 1))) (pss_one (ps_ret (pv 2))) pss_nil))))
      (pss_one (ps_ret (pe_callB call_len_seq (by rfl) T.f_len PySem.boot_len (pa_cons (pv 0) pa_nil)))))), ?_⟩
    walk_at "st"
    walk_at "wp"
    refine ⟨sz3 (Nat.le_of_ble_eq_true rfl), ?_⟩
    (intro p hp; generalize hg0 : upd _ p _ = H1; obtain ⟨e1, h1⟩ := upd_ex hp hg0; clear hg0)
    refine ⟨_, rfl, a, _, rfl, sqS (ha.all e1), ?_⟩
    obtain ⟨Pv, hP⟩ := mkI fun (i : Nat) σ H2 => ∃ (v : V) (s : LSt) (o1 o2 : Option V), σ = [some (V.ref a), some v, o1, o2] ∧ StAt K H2 v s ∧ Kp AllS H H2 ∧ lWalkN s (ws.drop i) i = lWalk ws
    refine for_enumL (xs := ws.map V.str) Pv ((hP _ _ _).mpr ⟨_, _, none, none, rfl, ⟨p, rfl, sqT h1⟩, e1, rfl⟩) (fun i σ H2 _ pv => ?_) (fun i x TT σ H2 hx pv hT => ?_) (fun σ H2 pv => ?_)
    · obtain ⟨_, _, _, _, _, _, e2, _⟩ := (hP _ _ _).mp pv
      exact sqS (ha.all e2)
    · obtain ⟨v, s, o1, o2, rfl, hs, e2, hw⟩ := (hP _ _ _).mp pv
      rw [List.getElem?_map] at hx
      obtain ⟨z, hzi, rfl⟩ := Option.map_eq_some_iff.mp hx
      obtain ⟨c, rr, g1, g2, g3⟩ := drop_at (l := ws) (k := i) (List.getElem?_eq_some_iff.mp hzi).1
      obtain rfl : z = c := Option.some.inj (hzi.symm.trans g2)
      generalize hg4 : upd H2 TT _ = H4
      obtain ⟨e4, h4⟩ := upd_ex hT hg4
      refine st_tup2 (sqT h4) ?_
      walk_at "wp"
      rw [g1, lWalkN] at hw
      have hs4 : StAt K H4 v s := by
        obtain ⟨p9, ev, h9⟩ := hs
        exact ⟨p9, ev, e4.seqT h9⟩
      refine ⟨v, s, z, rfl, hs4, hz z (List.mem_of_getElem? hzi), ?_⟩
      unfold OutSt
      cases ho : lStep s z with
      | none =>
        rw [ho] at hw
        intro H5 e5
        rw [if_pos rfl]
        have q1 := q H5 ((e2.trans e4).trans e5)
        rw [← hw] at q1
        exact q1
      | some t =>
        rw [ho] at hw
        intro v5 H5 e5 hs5
        have nv : ¬ v5 = V.non := fun e => by
          obtain ⟨p9, ev, _⟩ := hs5
          rw [ev] at e
          cases e
        rw [if_neg nv]
        exact (hP _ _ _).mpr ⟨v5, t, _, _, rfl, hs5, (e2.trans e4).trans e5, by rw [g3]; exact hw⟩
    · obtain ⟨v, s, o1, o2, rfl, hs, e2, hw⟩ := (hP _ _ _).mp pv
      rw [List.length_map, List.drop_length, lWalkN] at hw
      walk_at "wp"
      refine ⟨_, .inl (sqS (ha.all e2)), ?_⟩
      rw [List.length_map, hw]
      exact q H2 e2
end
end K31
set_option Elab.async false
set_option linter.all false
set_option maxRecDepth 100000
set_option maxHeartbeats 4000000
namespace K31
open PySem PySem.Spec PyProof.Rows L2
/-! the law's own reading of statements -/
local macro_rules | `(tactic| walk_at "st") => `(tactic| try simp only [L2.start, List.map_cons, List.map_nil, List.length_cons, List.length_nil, Nat.reduceAdd, Nat.reduceSub, Nat.add_zero, Nat.zero_add, List.replicate, List.cons_append, List.nil_append, List.append_nil])
local macro_rules | `(tactic| walk_at "wp") => `(tactic| try simp only [tSeq, tIfS, tRet, tOr, tAnd, tNot, tTest, tB, tOp, rI0, rI, rU, tCB, tCons, tNil, tVar, tC, tAsg, gName, tNext, tDrop, tOrV, tAndV, tNotV, tIf, tUn, tYes, wipe, tCall, tTup, tLst, tSl, tPart, tNoPart, tM0, tM1, tIsN, tNotN, tChain, tPar, tBM, tFld, tMeth,
  List.getElem?_cons_zero, List.getElem?_cons_succ, Option.some.injEq, exists_eq_left, exists_eq_left', V.str.injEq, V.int.injEq, V.bl.injEq, V.ref.injEq, List.cons.injEq, and_true, true_and, and_self, exists_and_left, exists_and_right, exists_eq_right, exists_eq, exists_const, reduceCtorEq, decide_eq_true_eq, decide_eq_false_iff_not, List.set_cons_zero, List.set_cons_succ, sg_inj, rEq_ss, rNe_ss, rEq_ii, rNe_ii, ↓reduceIte, Bool.false_eq_true, List.nil_append, List.cons_append, List.append_nil, not_true_eq_false, not_false_eq_true, Bool.not_eq_true', Bool.not_true, Bool.not_false, decide_true, decide_false, or_false, false_or, or_true, true_or, false_and, and_false])
structure TmS where
  found : List TermV
  turn : Int
  num : Str
  name : Str
  place : Int
  last : Str
def tmEnd (s : TmS) : List TermV := if s.num ≠ "" ∨ s.name ≠ "" then s.found ++ [(s.turn * (if s.num ≠ "" then intOf s.num else 1), s.name, s.place)] else s.found
def tmStep (s : TmS) (z : Str) : TmS :=
  if z = "+" ∨ z = "-" then { found := tmEnd s, turn := if z = "+" then 1 else -1, num := "", name := "", place := 0, last := z }
  else if z = "'" then { s with place := 1, last := z }
  else if isNumber z = true ∧ s.last = "at" then { s with place := intOf z, last := z }
  else if isNumber z = true then { s with num := z, last := z }
  else if z ≠ "at" then { s with name := z, last := z }
  else { s with last := z }
def tm0 : TmS := ⟨[], 1, "", "", 0, "+"⟩
def lTerms (ws : List Str) : List TermV := ((ws ++ [("+" : Str)]).foldl tmStep tm0).found
/-- the words of a fraction: its sign, its two numbers -/
inductive FracW : List Str → Int → Int → Int → Prop where
  | one {n : Str} (hn : isNumber n = true) : FracW [n] 1 (intOf n) 1
  | two {n b : Str} (hn : isNumber n = true) (hb : isNumber b = true) (h0 : intOf b ≠ 0) : FracW [n, "/", b] 1 (intOf n) (intOf b)
  | mone {n : Str} (hn : isNumber n = true) : FracW ["-", n] (-1) (intOf n) 1
  | mtwo {n b : Str} (hn : isNumber n = true) (hb : isNumber b = true) (h0 : intOf b ≠ 0) : FracW ["-", n, "/", b] (-1) (intOf n) (intOf b)
def isSign (z : Str) : Prop := z ∈ (["<=", ">=", "="] : List Str)
/-- the words of a whole statement, its tuple -/
inductive Shape : List Str → (Nat → PyData) → Prop where
  | unknowns (r : List Str) : Shape ("unknowns" :: r) fun row => .tuple [.str "unknowns", .int row, .list (r.map PyData.str)]
  | moments {n : Str} (h : isNumber n = true) : Shape ["moments", n] fun row => .tuple [.str "moments", .int row, .int (intOf n)]
  | back (n : Str) : Shape ["back", n] fun row => .tuple [.str "back", .int row, .str n]
  | reading {a b m : Str} {fr : List Str} {t n d : Int} (h : isNumber m = true) (hf : FracW fr t n d) : Shape ("reading" :: a :: b :: "at" :: m :: "=" :: fr) fun row => .tuple [.str "reading", .int row, .str a, .str b, .int (intOf m), fracD (frac (t * n) d)]
  | sensor {a : Str} {fw fr : List Str} {t n d : Int} (h : ("slack" : Str) ∉ fw) (hf : FracW fr t n d) : Shape ("sensor" :: a :: ":" :: (fw ++ ("slack" : Str) :: fr)) fun row => .tuple [.str "sensor", .int row, .str a, formD (lTerms fw), fracD (frac (t * n) d)]
  | step {m sg : Str} {l r : List Str} (h : isNumber m = true) (hl : ∀ z ∈ l, ¬ isSign z) (hs : isSign sg) : Shape ("step" :: m :: ":" :: (l ++ sg :: r)) fun row => .tuple [.str "step", .int row, .int (intOf m), formD (lTerms l), .str sg, formD (lTerms r)]
  | comp {h sg : Str} {l r : List Str} (hh : h = "start" ∨ h = "steps" ∨ h = "ask") (hl : ∀ z ∈ l, ¬ isSign z) (hs : isSign sg) : Shape (h :: (l ++ sg :: r)) fun row => .tuple [.str h, .int row, formD (lTerms l), .str sg, formD (lTerms r)]
inductive Due : Nat → List PyData → List (List (Nat × Str)) → List PyData → Option (Nat × Nat) → Prop where
  | nil {n : Nat} {acc : List PyData} : Due n acc [] acc none
  | skip {n : Nat} {acc ds : List PyData} {r : List (Nat × Str)} {rs : List (List (Nat × Str))} {o : Option (Nat × Nat)} (h : r.length ≤ 1) (d : Due (n + 1) acc rs ds o) : Due n acc (r :: rs) ds o
  | fault {n : Nat} {acc : List PyData} {r : List (Nat × Str)} {rs : List (List (Nat × Str))} {q : Nat × Str} (h : 1 < r.length) (m : lWalk (r.map (·.2)) < r.length) (hq : r[lWalk (r.map (·.2))]? = some q) : Due n acc (r :: rs) acc (some (n + 1, q.1))
  | ok {n : Nat} {acc ds : List PyData} {r : List (Nat × Str)} {rs : List (List (Nat × Str))} {o : Option (Nat × Nat)} {f : Nat → PyData} (h : 1 < r.length) (m : lWalk (r.map (·.2)) = r.length) (s : Shape (r.map (·.2)).dropLast f) (d : Due (n + 1) (acc ++ [f (n + 1)]) rs ds o) : Due n acc (r :: rs) ds o
def spTerms (K : PySem.W.Frag) : Sp := fun vs H Q _ => ∃ (a : Addr) (ws : List Str), vs = [.ref a] ∧ WordsAt H a ws ∧ ws.length ≤ 1000 ∧ (∀ z ∈ ws, Okw z) ∧ ∀ v H', Kp AllS H H' → DpF K H H' v (formD (lTerms ws)) → Q v H'
def spFraction (K : PySem.W.Frag) : Sp := fun vs H Q _ => ∃ (a : Addr) (ws : List Str) (t n d : Int), vs = [.ref a] ∧ WordsAt H a ws ∧ FracW ws t n d ∧ ∀ v H', Kp AllS H H' → DpF K H H' v (fracD (frac (t * n) d)) → Q v H'
def spTuple (K : PySem.W.Frag) : Sp := fun vs H Q _ => ∃ (row : Nat) (a : Addr) (ws : List Str) (f : Nat → PyData), vs = [.int row, .ref a] ∧ WordsAt H a ws ∧ ws.length ≤ 1000 ∧ (∀ z ∈ ws, Okw z) ∧ Shape ws f ∧ ∀ v H', Kp AllS H H' → DpF K H H' v (f row) → Q v H'
def spDue (K : PySem.W.Frag) : Sp := fun vs H Q _ => ∃ (a : Addr) (rows : List (List (Nat × Str))) (ds : List PyData) (o : Option (Nat × Nat)), vs = [.ref a] ∧ RowsAt H a rows ∧ rows.length ≤ 1000 ∧ (∀ r ∈ rows, RowOk r) ∧ Due 0 [] rows ds o ∧
  ∀ t l v H', Kp AllS H H' → H' t = some (.tup [.ref l, v]) → Dp K H' (.ref l) (.list ds) → (match o with
    | none => v = .non
    | some q => ∃ p, v = .ref p ∧ H' p = some (.tup [.int (q.1 : Nat), .int (q.2 : Nat)])) → Q (.ref t) H'
theorem st_tup4 {K : PySem.W.Frag} {a : Addr} {x y z u : V} {i j k l : Nat} {σ : L2.St} {H : Hp} {Q : L2.St → Hp → Prop} (h : SqT K H a [x, y, z, u]) (q : Q ((((σ.set i (some x)).set j (some y)).set k (some z)).set l (some u)) H) : gTup K 4 (gCons (gName i) (gCons (gName j) (gCons (gName k) (gCons (gName l) gNil)))) (.ref a) σ H Q :=
  ⟨a, _, rfl, h, rfl, _, _, rfl, _, _, rfl, _, _, rfl, _, _, rfl, rfl, q⟩
theorem st_tup6 {K : PySem.W.Frag} {a : Addr} {x y z u v t : V} {i j k l m n : Nat} {σ : L2.St} {H : Hp} {Q : L2.St → Hp → Prop} (h : SqT K H a [x, y, z, u, v, t]) (q : Q ((((((σ.set i (some x)).set j (some y)).set k (some z)).set l (some u)).set m (some v)).set n (some t)) H) :
    gTup K 6 (gCons (gName i) (gCons (gName j) (gCons (gName k) (gCons (gName l) (gCons (gName m) (gCons (gName n) gNil)))))) (.ref a) σ H Q :=
  ⟨a, _, rfl, h, rfl, _, _, rfl, _, _, rfl, _, _, rfl, _, _, rfl, _, _, rfl, _, _, rfl, rfl, q⟩
theorem hid_hidB_upd {H H1 : Hp} {D : Addr} {u : HO} : hid D (hidB H (upd H1 D u)) = hid D (hidB H H1) := by
  funext a
  by_cases z : a = D
  · rw [z, hid_at, hid_at]
  · rw [hid_ne z, hid_ne z]
    unfold hidB
    rw [upd_ne z]
theorem hid_hidB_new {H H1 H2 : Hp} {D p : Addr} {o : HO} (e : Kp NoIns H H1) (hp : H1 p = none) (h : H2 p = some o) (n : p ≠ D) : hid D (hidB H H2) p = some o := by
  rw [hid_ne n]
  exact hidB_new e hp h
def frR (z : Str) : Option V := if z ∈ (["-", "/"] : List Str) then none else some (V.int (intOf z))
theorem frR_num {z : Str} (h : isNumber z = true) : frR z = some (V.int (intOf z)) := by
  unfold frR
  rw [if_neg]
  intro hm
  simp only [List.mem_cons, List.not_mem_nil, or_false] at hm
  rcases hm with e | e <;> rw [e] at h <;> exact absurd h (by decide +kernel)
theorem frR_m : frR "-" = none := by
  unfold frR
  rw [if_pos (by decide +kernel)]
theorem frR_s : frR "/" = none := by
  unfold frR
  rw [if_pos (by decide +kernel)]
theorem num_nm {z : Str} (h : isNumber z = true) : ¬ z = "-" := fun e => by
  rw [e] at h
  exact absurd h (by decide +kernel)
theorem fracW_ok {ws : List Str} {t n d : Int} (h : FracW ws t n d) : ∃ nn dd : Nat, n = nn ∧ d = dd ∧ 0 < dd ∧ nn < 2 ^ 340 ∧ dd < 2 ^ 340 ∧ (t = 1 ∨ t = -1) ∧ ws.length ≤ 4 ∧ (∃ z : Str, ws[0]? = some z ∧ ((z = "-" ∧ t = -1) ∨ (¬ z = "-" ∧ t = 1))) ∧
    (∀ z ∈ ws, z ∈ (["-", "/"] : List Str) ∨ isNumber z = true) ∧ ((ws.filterMap frR = [V.int n] ∧ d = 1) ∨ ws.filterMap frR = [V.int n, V.int d]) := by
  have nb : ∀ {z : Str}, isNumber z = true → ∃ k : Nat, intOf z = (k : Int) ∧ k < 2 ^ 340 := fun {z} hz => ⟨_, rfl, by
    have h2 := (number_ok hz).2.2.2
    unfold intOf at h2
    rw [Int.natAbs_natCast] at h2
    exact h2⟩
  have hm : ("-" : Str) ∈ (["-", "/"] : List Str) := by decide +kernel
  have hs : ("/" : Str) ∈ (["-", "/"] : List Str) := by decide +kernel
  cases h with
  | one hn =>
    obtain ⟨k, e, l⟩ := nb hn
    exact ⟨k, 1, e, rfl, by decide, l, Nat.one_lt_two_pow (by decide), .inl rfl, Nat.le_of_ble_eq_true rfl, ⟨_, rfl, .inr ⟨num_nm hn, rfl⟩⟩, fun z hz => by rw [List.mem_singleton.mp hz]; exact .inr hn, .inl ⟨by simp [frR_num hn], rfl⟩⟩
  | two hn hb h0 =>
    obtain ⟨k, e, l⟩ := nb hn
    obtain ⟨j, e2, l2⟩ := nb hb
    refine ⟨k, j, e, e2, by omega, l, l2, .inl rfl, by show 3 ≤ 4; decide, ⟨_, rfl, .inr ⟨num_nm hn, rfl⟩⟩, fun z hz => ?_, .inr (by simp [frR_num hn, frR_num hb, frR_s])⟩
    simp only [List.mem_cons, List.not_mem_nil, or_false] at hz
    rcases hz with rfl | rfl | rfl
    · exact .inr hn
    · exact .inl hs
    · exact .inr hb
  | mone hn =>
    obtain ⟨k, e, l⟩ := nb hn
    refine ⟨k, 1, e, rfl, by decide, l, Nat.one_lt_two_pow (by decide), .inr rfl, by show 2 ≤ 4; decide, ⟨_, rfl, .inl ⟨rfl, rfl⟩⟩, fun z hz => ?_, .inl ⟨by simp [frR_num hn, frR_m], rfl⟩⟩
    simp only [List.mem_cons, List.not_mem_nil, or_false] at hz
    rcases hz with rfl | rfl
    · exact .inl hm
    · exact .inr hn
  | mtwo hn hb h0 =>
    obtain ⟨k, e, l⟩ := nb hn
    obtain ⟨j, e2, l2⟩ := nb hb
    refine ⟨k, j, e, e2, by omega, l, l2, .inr rfl, by show 4 ≤ 4; decide, ⟨_, rfl, .inl ⟨rfl, rfl⟩⟩, fun z hz => ?_, .inr (by simp [frR_num hn, frR_num hb, frR_s, frR_m])⟩
    simp only [List.mem_cons, List.not_mem_nil, or_false] at hz
    rcases hz with rfl | rfl | rfl | rfl
    · exact .inl hm
    · exact .inr hn
    · exact .inl hs
    · exact .inr hb
theorem frac_eq {t : Int} (ht : t = 1 ∨ t = -1) (n d : Nat) : frac (t * (n : Int)) (d : Int) = (t * ((n : Int) / ((Nat.gcd n d : Nat) : Int)), (d : Int) / ((Nat.gcd n d : Nat) : Int)) := by
  have e : (t * (n : Int)).natAbs = n := by
    rcases ht with rfl | rfl <;> omega
  unfold frac
  rw [e, Int.natAbs_natCast, Int.mul_ediv_assoc t (Int.natCast_dvd_natCast.mpr (Nat.gcd_dvd_left n d))]
theorem half_mod {x y : Nat} (h : y < x) (h0 : 0 < y) : y * (x % y) * 2 ≤ x * y := by
  have h1 : x % y < y := Nat.mod_lt _ h0
  have h2 : x % y + y ≤ x := by
    have h3 := Nat.mod_add_div x y
    have h4 : 1 ≤ x / y := (Nat.one_le_div_iff h0).mpr (Nat.le_of_lt h)
    have h5 : y * 1 ≤ y * (x / y) := Nat.mul_le_mul_left _ h4
    omega
  have h6 : (x % y) * 2 ≤ x := by omega
  calc y * (x % y) * 2 = y * ((x % y) * 2) := by rw [Nat.mul_assoc]
    _ ≤ y * x := Nat.mul_le_mul_left _ h6
    _ = x * y := Nat.mul_comm _ _
theorem cutV_mid {α : Type} (f : α → V) (ws : List α) (i j : Nat) : cutV (ws.map f) (some (i : Int)) (some (j : Int)) = ((ws.drop i).take (j - i)).map f := by
  unfold cutV
  rw [HT.sIx_nat, HT.sIx_nat, List.length_map, List.map_take, List.map_drop]
  by_cases h : i ≤ ws.length
  · rw [Nat.min_eq_left h]
    by_cases h2 : j ≤ ws.length
    · rw [Nat.min_eq_left h2]
    · rw [Nat.min_eq_right (by omega), List.take_of_length_le (by rw [List.length_drop, List.length_map]; omega), List.take_of_length_le (by rw [List.length_drop, List.length_map]; omega)]
  · rw [Nat.min_eq_right (show ws.length ≤ i by omega), List.drop_eq_nil_of_le (by rw [List.length_map]; omega), List.drop_eq_nil_of_le (by rw [List.length_map]; omega), List.take_nil, List.take_nil]
theorem dps_str {K : PySem.W.Frag} {H0 H : Hp} (r : List Str) : DpFs K H0 H (r.map V.str) (r.map PyData.str) := by
  induction r with
  | nil => exact .nil
  | cons z r ih => exact .cons .str ih
/-- the places of those that g tells: the first -/
theorem first_at (g : Nat → Str → Bool) (l : List Str) (z : Str) (r : List Str) (h : ∀ i y, l[i]? = some y → g i y = false) (hz : g l.length z = true) : ∃ rest, ((l ++ z :: r).zipIdx.filterMap fun q => if g q.2 q.1 = true then some (V.int (q.2 : Nat)) else none) = V.int (l.length : Nat) :: rest := by
  rw [List.zipIdx_append, List.filterMap_append, List.zipIdx_cons, List.filterMap_cons]
  have e1 : (l.zipIdx.filterMap fun q => if g q.2 q.1 = true then some (V.int (q.2 : Nat)) else none) = [] := by
    rw [List.filterMap_eq_nil_iff]
    rintro ⟨y, i⟩ hq
    have h2 := List.mem_zipIdx_iff_getElem?.mp hq
    have h3 := h i y h2
    simp only at h3 ⊢
    rw [h3, if_neg Bool.false_ne_true]
  rw [e1]
  simp only [Nat.zero_add, hz, if_true, List.nil_append]
  exact ⟨_, rfl⟩
theorem st_eqN {x y : Str} {H : Hp} {A B : Hp → Prop} (n : decide (x = y) = false) (h : B H) : rEq (.str x) (.str y) H fun v H' => ∃ k, v = V.bl k ∧ if k = true then A H' else B H' := by
  rw [rEq_ss]
  refine ⟨_, rfl, ?_⟩
  rw [n, if_neg Bool.false_ne_true]
  exact h
theorem st_eqY {x y : Str} {H : Hp} {A B : Hp → Prop} (n : decide (x = y) = true) (h : A H) : rEq (.str x) (.str y) H fun v H' => ∃ k, v = V.bl k ∧ if k = true then A H' else B H' := by
  rw [rEq_ss]
  refine ⟨_, rfl, ?_⟩
  rw [n, if_pos rfl]
  exact h
section
variable {P : Program} {w : World} {K : PySem.W.Frag} {mg : Str → Option Value} {base : Heap}
abbrev N_Lterms : List Str := ["_law_words", "_law_found", "_law_turn", "_law_number_here", "_law_name_here", "_law_place", "_law_last", "_law_word"]
abbrev P_Lterms : List Str := ["_law_words"]
theorem sc_Lterms : FnScope N_Lterms P_Lterms (defScope s_Lterms) := ⟨rfl, rfl, rfl, by decide +kernel, rfl, by decide +kernel, by decide +kernel⟩
theorem ok_Lterms (T : Tx w K mg) : Cl P w K mg base 2 "_law_terms" P_Lterms (spTerms K) := by
  refine Cl.mk T.d_Lterms rfl T.g_Lterms sc_Lterms (fun _ _ _ _ _ _ us hl => match us, hl with | [_], _ => rfl) (fun vs H Q E h => ?_) (fun cdv A outer s H vs Q E hr h => ?_)
  · obtain ⟨_, _, rfl, _⟩ := h
    rfl
  · obtain ⟨a, ws, rfl, ha, hl, hz, q⟩ := h
    refine ⟨_, (pss_cons (ps_asg (pe_tup (pa_cons (pe_lst pa_nil) (pa_cons pe_int (pa_cons pe_str (pa_cons pe_str (pa_cons pe_int (pa_cons pe_str pa_nil))))))) (pg_tup (n := 6) rfl (pgs_cons (pg_name (i := 1) sc_Lterms.nd rfl (Or.inl rfl)) (pgs_cons (pg_name (i := 2) sc_Lterms.nd rfl (Or.inl rfl)) (pgs_cons (pg_name (i := 3) sc_Lterms.nd rfl (Or.inl rfl)) (pgs_cons (pg_name (i := 4) sc_Lterms.nd rfl (Or.inl rfl)) (pgs_cons (pg_name (i := 5) sc_Lterms.nd rfl (Or.inl rfl)) (pgs_cons (pg_name (i := 6) sc_Lterms.nd rfl (Or.inl rfl)) pgs_nil))))))))
      (pss_cons (ps_for (passes_of rfl) rfl (pi_list (pe_op op_cat (pv 0) (pe_lst (pa_cons pe_str pa_nil)))) (pg_name (i := 7) sc_Lterms.nd rfl (Or.inl rfl)) (pss_cons (ps_if (pt_cmpR op_in_seq (pv 7) (pe_lst (pa_cons pe_str (pa_cons pe_str pa_nil))) (by with_unfolding_all rfl)) (pss_cons (ps_if ((pw_or (pt_cmpR op_ne (pv 3) pe_str (nomark _)) (pw_or1 (pt_cmpR op_ne (pv 4) pe_str (nomark _))))).pt (pss_one (ps_expr (pe_bm PySem.F.plainAttrs_list PySem.F.slot_list_append PySem.F.type_list_append mt_append (pv 1) (pa_cons (pe_tup (pa_cons (pe_op op_mulX (pv 2) (pe_ifExp (pt_cmpR op_ne (pv 3) pe_str (nomark _)) (pe_callTy call_int_str (by rfl) T.f_int (by decide +kernel) (pa_cons (pv 3) pa_nil)) pe_int)) (pa_cons (pv 4) (pa_cons (pv 5) pa_nil)))) pa_nil)))) pss_nil)
      (pss_one (ps_asg (pe_tup (pa_cons (pe_ifExp (pt_cmpR op_eq (pv 7) pe_str (nomark _)) pe_int (pe_un un_neg pe_int)) (pa_cons pe_str (pa_cons pe_str (pa_cons pe_int pa_nil))))) (pg_tup (n := 4) rfl (pgs_cons (pg_name (i := 2) sc_Lterms.nd rfl (Or.inl rfl)) (pgs_cons (pg_name (i := 3) sc_Lterms.nd rfl (Or.inl rfl)) (pgs_cons (pg_name (i := 4) sc_Lterms.nd rfl (Or.inl rfl)) (pgs_cons (pg_name (i := 5) sc_Lterms.nd rfl (Or.inl rfl)) pgs_nil)))))))) (pss_one (ps_if (pt_cmpR op_eq (pv 7) pe_str (nomark _)) (pss_one (ps_set (i := 5) sc_Lterms.nd rfl (Or.inl rfl) pe_int)) (pss_one (ps_if ((pw_and (pt_val (pe_fn (ok_Lis_number T) hr (by decide) (by rfl) (pa_cons (pv 7) pa_nil))) (pw_and1 (pt_cmpR op_eq (pv 6) pe_str (nomark _))))).pt (pss_one (ps_set (i := 5) sc_Lterms.nd rfl (Or.inl rfl) (pe_callTy call_int_str (by rfl) T.f_int (by decide +kernel) (pa_cons (pv 7) pa_nil)))) (pss_one (ps_if (pt_val (pe_fn (ok_Lis_number T) hr (by decide) (by rfl) (pa_cons (pv 7) pa_nil))) (pss_one (ps_set (i := 3) sc_Lterms.nd rfl (Or.inl rfl) (pv 7))) (pss_one (ps_if (pt_cmpR op_ne (pv 7) pe_str (nomark _)) (pss_one (ps_set (i := 4) sc_Lterms.nd rfl (Or.inl rfl) (pv 7))) pss_nil)))))))))
      (pss_one (ps_set (i := 6) sc_Lterms.nd rfl (Or.inl rfl) (pv 7)))))
      (pss_one (ps_ret (pv 1))))), ?_⟩
    walk_at "st"
    walk_at "wp"
    refine ⟨sz3 (Nat.le_of_ble_eq_true rfl), ?_⟩
    (intro D hD; generalize hg0 : upd _ D _ = H1; obtain ⟨e1, h1⟩ := upd_ex hD hg0; clear hg0)
    refine ⟨sz3 (Nat.le_of_ble_eq_true rfl), ?_⟩
    (intro t1 ht1; generalize hg0 : upd _ t1 _ = H2; obtain ⟨e2, h2⟩ := upd_ex ht1 hg0; clear hg0)
    refine st_tup6 (sqT h2) ?_
    walk_at "wp"
    refine ⟨_, rfl, sz3 (Nat.le_of_ble_eq_true rfl), ?_⟩
    (intro pl hpl; generalize hg0 : upd _ pl _ = H3; obtain ⟨e3, h3⟩ := upd_ex hpl hg0; clear hg0)
    have e03 := (e1.trans e2).trans e3
    refine st_cat (ha.all e03) h3 (by rw [List.length_map]; show _ + 1 ≤ _; omega) fun a4 H4 ha4 e4 h4 => ⟨a4, rfl, ⟨_, sqS h4⟩, ?_⟩
    have e04 := e03.trans e4
    have n4 : a4 ≠ D := fun z => by
      rw [z, e3 _ _ (e2 _ _ h1 trivial) trivial] at ha4
      cases ha4
    have h4' : H4 a4 = some (.lst ((ws ++ [("+" : Str)]).map V.str)) := by
      rw [List.map_append]
      exact h4
    have hD4 : H4 D = some (.lst []) := e4 _ _ (e3 _ _ (e2 _ _ h1 trivial) trivial) trivial
    obtain ⟨Pv, hP⟩ := mkI fun (i : Nat) σ H5 => ∃ (s : TmS) (vs : List V) (o : Option V), σ = [some (V.ref a), some (V.ref D), some (V.int s.turn), some (V.str s.num), some (V.str s.name), some (V.int s.place), some (V.str s.last), o] ∧ Kp AllS H H5 ∧ H5 D = some (.lst vs) ∧ H5 a4 = some (.lst ((ws ++ [("+" : Str)]).map V.str)) ∧
      DpAll K (hid D (hidB H H5)) vs (s.found.map termD) ∧ vs.length ≤ i ∧ (s.turn = 1 ∨ s.turn = -1) ∧ (s.num = "" ∨ isNumber s.num = true) ∧ s = ((ws ++ [("+" : Str)]).take i).foldl tmStep tm0
    have hx0 : ((ws.map V.str ++ [V.str "+"])) = (ws ++ [("+" : Str)]).map V.str := by
      rw [List.map_append]
      rfl
    refine for_list (xs := (ws ++ [("+" : Str)]).map V.str) Pv ((hP _ _ _).mpr ⟨tm0, [], none, rfl, e04, hD4, h4', .nil, Nat.le_refl _, .inl rfl, .inl rfl, rfl⟩) (fun i σ H5 _ pv => ?_) (fun i x σ H5 hx pv => ?_) (fun σ H5 pv => ?_)
    · obtain ⟨s, vs, o, rfl, e5, h5, hl5, d5, lv5, ht5, hn5, hs5⟩ := (hP _ _ _).mp pv
      exact sqS hl5
    · obtain ⟨s, vs, o, rfl, e5, h5, hl5, d5, lv5, ht5, hn5, hs5⟩ := (hP _ _ _).mp pv
      rw [List.getElem?_map] at hx
      obtain ⟨z, hzi, rfl⟩ := Option.map_eq_some_iff.mp hx
      have hzo : Okw z := by
        have hm := List.mem_of_getElem? hzi
        rcases List.mem_append.mp hm with hm | hm
        · exact hz z hm
        · rw [List.mem_singleton.mp hm]
          exact ⟨by decide +kernel, by decide +kernel⟩
      have il : i < ws.length + 1 := by
        have := (List.getElem?_eq_some_iff.mp hzi).1
        rw [List.length_append, List.length_singleton] at this
        exact this
      have fs : ((ws ++ [("+" : Str)]).take (i + 1)).foldl tmStep tm0 = tmStep s z := by
        rw [List.take_succ, hzi, List.foldl_append, ← hs5]
        rfl
      refine tSeq_op fun R hR => ?_
      have tail : ∀ (s2 : TmS) (vs2 : List V) (H6 : Hp), tmStep s z = { s2 with last := z } → Kp AllS H H6 → H6 D = some (.lst vs2) → H6 a4 = some (.lst ((ws ++ [("+" : Str)]).map V.str)) → DpAll K (hid D (hidB H H6)) vs2 (s2.found.map termD) → vs2.length ≤ i + 1 → (s2.turn = 1 ∨ s2.turn = -1) → (s2.num = "" ∨ isNumber s2.num = true) →
          R [some (V.ref a), some (V.ref D), some (V.int s2.turn), some (V.str s2.num), some (V.str s2.name), some (V.int s2.place), some (V.str s.last), some (V.str z)] H6 := by
        intro s2 vs2 H6 hst e6 h6 hl6 d6 lv6 ht6 hn6
        refine hR _ _ ⟨_, rfl, ?_⟩
        exact (hP _ _ _).mpr ⟨{ s2 with last := z }, vs2, _, rfl, e6, h6, hl6, d6, lv6, ht6, hn6, by rw [fs, hst]⟩
      have okn : ∀ y : Str, isNumber y = true → PySem.intText? y = some (intOf y) ∧ y.length ≤ 640 ∧ (intOf y).natAbs < 2 ^ 340 := fun y hy => by
        obtain ⟨g1, g2, _, g4⟩ := number_ok hy
        exact ⟨g1, by omega, g4⟩
      have ht1 : s.turn.natAbs < 2 ^ 2 := by rcases ht5 with e | e <;> rw [e] <;> decide
      have dk : ∀ H6, Kp AllS H5 H6 → DpAll K (hid D (hidB H H6)) vs (s.found.map termD) := fun H6 e6 => (Kp.hid2 (hidB_kp e6.nin)).dpAll d5
      walk_at "wp"
      refine ⟨sz3 (Nat.le_of_ble_eq_true rfl), ?_⟩
      (intro b6 hb6; generalize hg0 : upd _ b6 _ = H6; obtain ⟨e6, h6⟩ := upd_ex hb6 hg0; clear hg0)
      have e06 := e5.trans e6
      have h6D := e6 _ _ h5 trivial
      have h6l := e6 _ _ hl5 trivial
      refine st_in (ws := ["+", "-"]) rfl (.inl (sqS h6)) ?_
      refine ⟨_, rfl, ?_⟩
      have hin : z ∈ (["+", "-"] : List Str) ↔ z = "+" ∨ z = "-" := by simp
      by_cases c1 : z = "+" ∨ z = "-"
      · rw [decide_eq_true (hin.mpr c1), if_pos rfl]
        have fin : ∀ (HH : Hp) (vs2 : List V), Kp AllS H HH → HH D = some (.lst vs2) → HH a4 = some (.lst ((ws ++ [("+" : Str)]).map V.str)) → DpAll K (hid D (hidB H HH)) vs2 ((tmEnd s).map termD) → vs2.length ≤ i + 1 → (if z = Str.ofString "+" then [V.int 1, V.str (Str.ofString ""), V.str (Str.ofString ""), V.int 0].length ≤ sizeLine ∧ ∀ (p : Addr), HH p = none → gTup K 4 (gCons (gName 2) (gCons (gName 3) (gCons (gName 4) (gCons (gName 5) gNil)))) (V.ref p) [some (V.ref a), some (V.ref D), some (V.int s.turn), some (V.str s.num), some (V.str s.name), some (V.int s.place), some (V.str s.last), some (V.str z)] (upd HH p (HO.tup [V.int 1, V.str (Str.ofString ""), V.str (Str.ofString ""), V.int 0])) R
          else [V.int (-1), V.str (Str.ofString ""), V.str (Str.ofString ""), V.int 0].length ≤ sizeLine ∧ ∀ (p : Addr), HH p = none → gTup K 4 (gCons (gName 2) (gCons (gName 3) (gCons (gName 4) (gCons (gName 5) gNil)))) (V.ref p) [some (V.ref a), some (V.ref D), some (V.int s.turn), some (V.str s.num), some (V.str s.name), some (V.int s.place), some (V.str s.last), some (V.str z)] (upd HH p (HO.tup [V.int (-1), V.str (Str.ofString ""), V.str (Str.ofString ""), V.int 0])) R) := by
          intro HH vs2 eH hHD hHl dH lH
          have est : tmStep s z = { found := tmEnd s, turn := if z = "+" then 1 else -1, num := "", name := "", place := 0, last := z } := by
            unfold tmStep
            rw [if_pos c1]
          by_cases c2 : z = "+"
          · rw [if_pos c2]
            refine ⟨sz3 (Nat.le_of_ble_eq_true rfl), ?_⟩
            (intro b7 hb7; generalize hg0 : upd _ b7 _ = H7; obtain ⟨e7, h7⟩ := upd_ex hb7 hg0; clear hg0)
            refine st_tup4 (sqT h7) ?_
            exact tail ⟨tmEnd s, 1, "", "", 0, z⟩ vs2 H7 (by rw [est, if_pos c2]) (eH.trans e7) (e7 _ _ hHD trivial) (e7 _ _ hHl trivial) ((Kp.hid2 (hidB_kp e7.nin)).dpAll dH) lH (.inl rfl) (.inl rfl)
          · rw [if_neg c2]
            refine ⟨sz3 (Nat.le_of_ble_eq_true rfl), ?_⟩
            (intro b7 hb7; generalize hg0 : upd _ b7 _ = H7; obtain ⟨e7, h7⟩ := upd_ex hb7 hg0; clear hg0)
            refine st_tup4 (sqT h7) ?_
            exact tail ⟨tmEnd s, -1, "", "", 0, z⟩ vs2 H7 (by rw [est, if_neg c2]) (eH.trans e7) (e7 _ _ hHD trivial) (e7 _ _ hHl trivial) ((Kp.hid2 (hidB_kp e7.nin)).dpAll dH) lH (.inr rfl) (.inl rfl)
        have app : ∀ v : Int, tmEnd s = s.found ++ [(v, s.name, s.place)] → [V.int v, V.str s.name, V.int s.place].length ≤ sizeLine ∧ ∀ (p : Addr), H6 p = none → rAppend (V.ref D) [V.ref p] (upd H6 p (HO.tup [V.int v, V.str s.name, V.int s.place])) fun x HH => (if z = Str.ofString "+" then [V.int 1, V.str (Str.ofString ""), V.str (Str.ofString ""), V.int 0].length ≤ sizeLine ∧ ∀ (p : Addr), HH p = none → gTup K 4 (gCons (gName 2) (gCons (gName 3) (gCons (gName 4) (gCons (gName 5) gNil)))) (V.ref p) [some (V.ref a), some (V.ref D), some (V.int s.turn), some (V.str s.num), some (V.str s.name), some (V.int s.place), some (V.str s.last), some (V.str z)] (upd HH p (HO.tup [V.int 1, V.str (Str.ofString ""), V.str (Str.ofString ""), V.int 0])) R
          else [V.int (-1), V.str (Str.ofString ""), V.str (Str.ofString ""), V.int 0].length ≤ sizeLine ∧ ∀ (p : Addr), HH p = none → gTup K 4 (gCons (gName 2) (gCons (gName 3) (gCons (gName 4) (gCons (gName 5) gNil)))) (V.ref p) [some (V.ref a), some (V.ref D), some (V.int s.turn), some (V.str s.num), some (V.str s.name), some (V.int s.place), some (V.str s.last), some (V.str z)] (upd HH p (HO.tup [V.int (-1), V.str (Str.ofString ""), V.str (Str.ofString ""), V.int 0])) R) := by
          intro v hv
          refine ⟨sz3 (Nat.le_of_ble_eq_true rfl), ?_⟩
          (intro b8 hb8; generalize hg0 : upd _ b8 _ = H8; obtain ⟨e8, h8⟩ := upd_ex hb8 hg0; clear hg0)
          have h8D := e8 _ _ h6D trivial
          have n8 : b8 ≠ D := fun z => by rw [z, h6D] at hb8; cases hb8
          refine st_app h8D (by omega) ?_
          have e08 := e06.trans e8
          have hn8 : b8 ≠ a4 ∨ True := .inr trivial
          refine fin _ (vs ++ [V.ref b8]) (Kp.mut e08 hD) upd_same (by rw [upd_ne n4]; exact e8 _ _ h6l trivial) ?_ (by rw [List.length_append, List.length_singleton]; omega)
          rw [hid_hidB_upd, hv, List.map_append]
          exact dpAll_snoc (dk H8 (e6.trans e8)) (.tup (sqT (hid_hidB_new e06.nin hb8 h8 n8)) (.cons (.int _) (.cons (.str _) (.cons (.int _) .nil))))
        by_cases c3 : s.num = ""
        · rw [if_neg (not_not_intro c3)]
          by_cases c4 : s.name = ""
          · rw [if_neg (not_not_intro c4)]
            have et : tmEnd s = s.found := by
              unfold tmEnd
              rw [if_neg (fun h => h.elim (fun h => h c3) fun h => h c4)]
            exact fin H6 vs e06 h6D h6l (by rw [et]; exact dk H6 e6) (by omega)
          · rw [if_pos c4]
            refine ⟨st_tyL h6D, ?_⟩
            rw [if_neg (not_not_intro c3)]
            have cm : CMulX s.turn 1 := mulx_ok ht1 (b := 2) (by decide) (by decide)
            refine ⟨cm, app _ ?_⟩
            unfold tmEnd
            rw [if_pos (.inr c4), if_neg (not_not_intro c3)]
        · rw [if_pos c3]
          refine ⟨st_tyL h6D, ?_⟩
          rw [if_pos c3]
          obtain ⟨g1, g2, g3⟩ := okn s.num (hn5.resolve_left c3)
          refine ⟨_, g1, g2, mulx_ok ht1 g3 (by decide), app _ ?_⟩
          unfold tmEnd
          rw [if_pos (.inl c3), if_pos c3]
      · rw [decide_eq_false (fun h => c1 (hin.mp h)), if_neg Bool.false_ne_true]
        by_cases c2 : z = "'"
        · rw [if_pos c2]
          exact tail { s with place := 1 } vs H6 (by unfold tmStep; rw [if_neg c1, if_pos c2]) e06 h6D h6l (dk H6 e6) (by omega) ht5 hn5
        · rw [if_neg c2]
          refine ⟨z, rfl, hzo, fun H7 e7 => ⟨_, rfl, ?_⟩⟩
          have e07 := e06.trans e7
          have h7D := e7 _ _ h6D trivial
          have h7l := e7 _ _ h6l trivial
          have nxt : ∀ H8, Kp AllS H7 H8 → ¬ (isNumber z = true ∧ s.last = "at") → spB1k isNumber [V.str z] H8 (fun x H1 => ∃ k, x = V.bl k ∧ if k = true then R [some (V.ref a), some (V.ref D), some (V.int s.turn), some (V.str z), some (V.str s.name), some (V.int s.place), some (V.str s.last), some (V.str z)] H1 else if ¬z = Str.ofString "at" then R [some (V.ref a), some (V.ref D), some (V.int s.turn), some (V.str s.num), some (V.str z), some (V.int s.place), some (V.str s.last), some (V.str z)] H1 else R [some (V.ref a), some (V.ref D), some (V.int s.turn), some (V.str s.num), some (V.str s.name), some (V.int s.place), some (V.str s.last), some (V.str z)] H1) E0 := by
            intro H8 e8 nn
            refine ⟨z, rfl, hzo, fun H9 e9 => ⟨_, rfl, ?_⟩⟩
            have e79 := e8.trans e9
            have e09 := e07.trans e79
            have h9D := e79 _ _ h7D trivial
            have h9l := e79 _ _ h7l trivial
            have d9 := dk H9 ((e6.trans e7).trans e79)
            by_cases c4 : isNumber z = true
            · rw [if_pos c4]
              exact tail { s with num := z } vs H9 (by unfold tmStep; rw [if_neg c1, if_neg c2, if_neg nn, if_pos c4]) e09 h9D h9l d9 (by omega) ht5 (.inr c4)
            · rw [if_neg c4]
              by_cases c5 : z = "at"
              · rw [if_neg (not_not_intro c5)]
                exact tail s vs H9 (by unfold tmStep; rw [if_neg c1, if_neg c2, if_neg nn, if_neg c4, if_neg (not_not_intro c5)]) e09 h9D h9l d9 (by omega) ht5 hn5
              · rw [if_pos c5]
                exact tail { s with name := z } vs H9 (by unfold tmStep; rw [if_neg c1, if_neg c2, if_neg nn, if_neg c4, if_pos c5]) e09 h9D h9l d9 (by omega) ht5 hn5
          by_cases c3 : isNumber z = true
          · rw [if_pos c3]
            by_cases c4 : s.last = "at"
            · rw [if_pos c4]
              obtain ⟨g1, g2, g3⟩ := okn z c3
              exact ⟨_, g1, g2, tail { s with place := intOf z } vs H7 (by unfold tmStep; rw [if_neg c1, if_neg c2, if_pos ⟨c3, c4⟩]) e07 h7D h7l (dk H7 (e6.trans e7)) (by omega) ht5 hn5⟩
            · rw [if_neg c4]
              exact nxt H7 (Kp.refl H7) fun h => c4 h.2
          · rw [if_neg c3]
            exact nxt H7 (Kp.refl H7) fun h => c3 h.1
    · obtain ⟨s, vs, o, rfl, e5, h5, hl5, d5, lv5, ht5, hn5, hs5⟩ := (hP _ _ _).mp pv
      refine ⟨_, rfl, q _ H5 e5 ?_⟩
      have es : lTerms ws = s.found := by
        unfold lTerms
        rw [List.length_map, List.take_length] at hs5
        rw [hs5]
      rw [es]
      exact Dp.lst (sqS (hidB_mk h5 fun u hu => by
        have hD0 : H D = none := hD
        rw [hD0] at hu
        cases hu)) (Kp.dpAll (Kp.unhid (D := D)).all d5)
abbrev N_Lfraction : List Str := ["_law_words", "_law_turn", "_law_some", "_law_word", "_law_above", "_law_below", "_law_one", "_law_other", "_law_step_here"]
abbrev P_Lfraction : List Str := ["_law_words"]
theorem sc_Lfraction : FnScope N_Lfraction P_Lfraction (defScope s_Lfraction) := ⟨rfl, rfl, rfl, by decide +kernel, rfl, by decide +kernel, by decide +kernel⟩
theorem ok_Lfraction (T : Tx w K mg) : Cl P w K mg base 1 "_law_fraction" P_Lfraction (spFraction K) := by
  refine Cl.mk T.d_Lfraction rfl T.g_Lfraction sc_Lfraction (fun _ _ _ _ _ _ us hl => match us, hl with | [_], _ => rfl) (fun vs H Q E h => ?_) (fun cdv A outer s H vs Q E hr h => ?_)
  · obtain ⟨_, _, _, _, _, rfl, _⟩ := h
    rfl
  · obtain ⟨a, ws, t, n, d, rfl, ha, hf, q⟩ := h
    refine ⟨_, (pss_cons (ps_set (i := 1) sc_Lfraction.nd rfl (Or.inl rfl) (pe_ifExp (pt_cmpR op_eq (pe_ix ix_list (pv 0) pe_int (fun _ _ => rfl)) pe_str (nomark _)) (pe_un un_neg pe_int) pe_int))
      (pss_cons (ps_setLc (i := 2) (own := [("_law_word", 3)]) (g := (gName 3)) rfl sc_Lfraction.nd rfl rfl (sw_true rfl rfl rfl (by decide +kernel)) (pi_list (pv 0)) (blkOk_by (own := [("_law_word", 3)]) (N := N_Lfraction) (sc := defScope s_Lfraction) (by decide +kernel)) (fun _ _ _ _ _ => (pg_name (i := 3) sc_Lfraction.nd rfl (Or.inl rfl))) (fun _ _ _ _ _ => pts_one (pt_cmpR (show OpR _ (compareOp .NotIn) (rIn K true) from op_notIn_seq) (pv 3) (pe_lst (pa_cons pe_str (pa_cons pe_str pa_nil))) (by with_unfolding_all rfl))) (fun _ _ _ _ _ => (pe_callTy call_int_str (by rfl) T.f_int (by decide +kernel) (pa_cons (pv 3) pa_nil))))
      (pss_cons (ps_par (i := 4) (j := 5) rfl sc_Lfraction.nd rfl rfl (by decide) rfl rfl (pa_cons (pe_ix ix_list (pv 2) pe_int (fun _ _ => rfl)) (pa_cons (pe_ifExp (pt_cmpR op_gt (pe_callB call_len_seq (by rfl) T.f_len PySem.boot_len (pa_cons (pv 2) pa_nil)) pe_int (nomark _)) (pe_ix ix_list (pv 2) pe_int (fun _ _ => rfl)) pe_int) pa_nil)) (by with_unfolding_all rfl))
      (pss_cons (ps_par (i := 6) (j := 7) rfl sc_Lfraction.nd rfl rfl (by decide) rfl rfl (pa_cons (pv 4) (pa_cons (pv 5) pa_nil)) (by with_unfolding_all rfl))
      (pss_cons (ps_for (passes_of rfl) rfl (pi_range1 rfl T.f_range (pa_cons pe_int pa_nil)) (pg_name (i := 8) sc_Lfraction.nd rfl (Or.inl rfl)) (pss_cons (ps_if (pt_cmpR op_eq (pv 7) pe_int (nomark _)) (pss_one ps_break) pss_nil)
      (pss_one (ps_par (i := 6) (j := 7) rfl sc_Lfraction.nd rfl rfl (by decide) rfl rfl (pa_cons (pv 7) (pa_cons (pe_op op_mod (pe_callTy call_int1 (by rfl) T.f_int (by decide +kernel) (pa_cons (pv 6) pa_nil)) (pv 7)) pa_nil)) (by with_unfolding_all rfl)))))
      (pss_one (ps_ret (pe_tup (pa_cons (pe_op op_mulX (pv 1) (pe_op op_fdivW (pv 4) (pv 6))) (pa_cons (pe_op op_fdivW (pv 5) (pv 6)) pa_nil)))))))))), ?_⟩
    obtain ⟨n, d, rfl, rfl, d0, nb, db, ht, lw, ⟨z0, hz0, hzt⟩, hal, hfm⟩ := fracW_ok hf
    walk_at "st"
    refine tSeq_op fun R1 hR1 => ?_
    have tail1 : R1 [some (V.ref a), some (V.int t), none, none, none, none, none, none, none] H := by
      refine hR1 _ _ ?_
      refine tSeq_op fun R2 hR2 => ?_
      have tail2 : ∀ (p : Addr) (H2 : Hp), Kp AllS H H2 → H2 p = some (.lst (ws.filterMap frR)) → R2 [some (V.ref a), some (V.int t), some (V.ref p), none, none, none, none, none, none] H2 := by
        intro p H2 e2 h2
        refine hR2 _ _ ?_
        refine tSeq_op fun R3 hR3 => ?_
        have tail3 : R3 [some (V.ref a), some (V.int t), some (V.ref p), none, some (V.int (n : Nat)), some (V.int (d : Nat)), none, none, none] H2 := by
          refine hR3 _ _ ?_
          walk_at "wp"
          refine ⟨_, _, ⟨rfl, rfl⟩, ?_⟩
          have ret : ∀ (x : Nat) (H3 : Hp), x = Nat.gcd n d → Kp AllS H2 H3 → CDivW (n : Int) (x : Int) ∧ CMulX t ((n : Int) / (x : Int)) ∧ CDivW (d : Int) (x : Int) ∧ [V.int (t * ((n : Int) / (x : Int))), V.int ((d : Int) / (x : Int))].length ≤ sizeLine ∧ ∀ (p : Addr), H3 p = none → Q (V.ref p) (upd H3 p (HO.tup [V.int (t * ((n : Int) / (x : Int))), V.int ((d : Int) / (x : Int))])) := by
            intro x H3 hx e3
            have xp : 0 < x := by rw [hx]; exact Nat.gcd_pos_of_pos_right _ d0
            have xl : x ≤ d := by rw [hx]; exact Nat.gcd_le_right _ d0
            have cd : ∀ i : Int, CDivW i (x : Int) := fun i => wide_div (b := 340) (by omega) (by rw [Int.natAbs_natCast]; omega) (by decide) (by decide)
            have ht1 : t.natAbs < 2 ^ 2 := by rcases ht with e | e <;> rw [e] <;> decide
            have nx : ((n : Int) / (x : Int)).natAbs < 2 ^ 340 := by
              rw [← Int.natCast_ediv, Int.natAbs_natCast]
              exact Nat.lt_of_le_of_lt (Nat.div_le_self _ _) nb
            refine ⟨cd _, mulx_ok ht1 nx (by decide), cd _, sz3 (Nat.le_of_ble_eq_true rfl), ?_⟩
            (intro b4 hb4; generalize hg0 : upd _ b4 _ = H4; obtain ⟨e4, h4⟩ := upd_ex hb4 hg0; clear hg0)
            refine q _ H4 ((e2.trans e3).trans e4) ?_
            rw [frac_eq ht, ← hx]
            exact .tup (e2.trans e3).nin hb4 h4 (.cons .int (.cons .int .nil))
          refine ⟨1000, rfl, by decide, by decide, ?_⟩
          obtain ⟨Pv, hP⟩ := mkI fun (i : Nat) σ H3 => ∃ (x y : Nat) (o : Option V), σ = [some (V.ref a), some (V.int t), some (V.ref p), none, some (V.int (n : Nat)), some (V.int (d : Nat)), some (V.int (x : Nat)), some (V.int (y : Nat)), o] ∧ Kp AllS H2 H3 ∧ Nat.gcd x y = Nat.gcd n d ∧ ((i = 0 ∧ x = n ∧ y = d) ∨ (1 ≤ i ∧ y < x ∧ x * y * 2 ^ (i - 1) < 2 ^ 680))
          refine for_range (n := 1000) Pv ((hP _ _ _).mpr ⟨n, d, none, rfl, Kp.refl _, rfl, .inl ⟨rfl, rfl, rfl⟩⟩) (fun i σ H3 hi pv => ?_) (fun σ H3 pv => ?_)
          · obtain ⟨x, y, o, rfl, e3, hg, hxy⟩ := (hP _ _ _).mp pv
            walk_at "wp"
            by_cases c1 : (y : Int) = 0
            · rw [if_pos c1]
              have y0 : y = 0 := by omega
              subst y0
              rw [Nat.gcd_zero_right] at hg
              simp only [tBreak]
              walk_at "wp"
              exact ret x H3 hg e3
            · rw [if_neg c1]
              have yp : 0 < y := by omega
              refine ⟨by omega, _, _, ⟨rfl, rfl⟩, ?_⟩
              rw [show ((x : Int) % (y : Int)) = ((x % y : Nat) : Int) from rfl]
              refine (hP _ _ _).mpr ⟨y, x % y, _, rfl, e3, ?_, .inr ⟨Nat.succ_le_succ (Nat.zero_le _), Nat.mod_lt _ yp, ?_⟩⟩
              · rw [← hg, Nat.gcd_comm y, ← Nat.gcd_rec, Nat.gcd_comm]
              · rw [Nat.add_sub_cancel]
                rcases hxy with ⟨rfl, rfl, rfl⟩ | ⟨h1, h2, h3⟩
                · rw [Nat.pow_zero, Nat.mul_one]
                  have m1 : x % y < 2 ^ 340 := Nat.lt_trans (Nat.mod_lt _ yp) db
                  exact Nat.lt_of_lt_of_le (Nat.mul_lt_mul'' db m1) (by rw [← Nat.pow_add]; exact Nat.le_refl _)
                · refine Nat.lt_of_le_of_lt ?_ h3
                  obtain ⟨j, rfl⟩ : ∃ j, i = j + 1 := ⟨i - 1, by omega⟩
                  rw [Nat.add_sub_cancel, Nat.pow_succ, Nat.mul_comm (2 ^ j) 2, ← Nat.mul_assoc]
                  exact Nat.mul_le_mul_right _ (half_mod h2 yp)
          · obtain ⟨x, y, o, rfl, e3, hg, hxy⟩ := (hP _ _ _).mp pv
            have y0 : y = 0 := by
              rcases hxy with ⟨h, _⟩ | ⟨_, h1, h2⟩
              · exact absurd h (by decide)
              · rcases Nat.eq_zero_or_pos y with h | h
                · exact h
                · exfalso
                  have h3 : 1 ≤ x * y := Nat.mul_pos (by omega) h
                  have h4 : 2 ^ 680 ≤ x * y * 2 ^ (1000 - 1) := Nat.le_trans (Nat.pow_le_pow_right (by decide) (by decide : 680 ≤ 999)) (by rw [show 1000 - 1 = 999 from rfl]; exact Nat.le_mul_of_pos_left _ h3)
                  omega
            subst y0
            rw [Nat.gcd_zero_right] at hg
            walk_at "wp"
            exact ret x H3 hg e3
        walk_at "wp"
        rcases hfm with ⟨hfm, hd1⟩ | hfm
        · rw [hfm] at h2
          refine st_ixL (sqS h2) (atI_nat (j := 0) rfl) ⟨_, .inl (sqS h2), ?_⟩
          rw [if_neg (by show ¬ (1 : Int) < ((1 : Nat) : Int); decide)]
          refine ⟨_, _, ⟨rfl, rfl⟩, ?_⟩
          have t3 := tail3
          rw [hd1] at t3
          exact t3
        · rw [hfm] at h2
          refine st_ixL (sqS h2) (atI_nat (j := 0) rfl) ⟨_, .inl (sqS h2), ?_⟩
          rw [if_pos (by show (1 : Int) < ((2 : Nat) : Int); decide)]
          exact st_ixL (sqS h2) (atI_nat (j := 1) rfl) ⟨_, _, ⟨rfl, rfl⟩, tail3⟩
      walk_at "wp"
      refine lc_lst frR (by omega) rfl (sqS ha) (fun z H1 hz e1 Yv N hy hn => ?_) (fun p H1 hp e1 h1 => tail2 p H1 e1 h1)
      walk_at "wp"
      refine ⟨sz3 (Nat.le_of_ble_eq_true rfl), ?_⟩
      (intro b2 hb2; generalize hg0 : upd _ b2 _ = H2; obtain ⟨e2, h2⟩ := upd_ex hb2 hg0; clear hg0)
      refine st_ni (ws := ["-", "/"]) rfl (.inl (sqS h2)) ?_
      refine ⟨_, rfl, ?_⟩
      by_cases cm : z ∈ (["-", "/"] : List Str)
      · rw [decide_eq_true cm, if_neg (by decide)]
        exact hn (by unfold frR; rw [if_pos cm]) _ e2
      · rw [decide_eq_false cm, if_pos (by decide)]
        obtain ⟨g1, g2, _⟩ := number_ok ((hal z hz).resolve_left cm)
        exact ⟨_, g1, by omega, hy _ _ (by unfold frR; rw [if_neg cm]) e2⟩
    walk_at "wp"
    refine st_ixL (sqS ha) (atI_nat (j := 0) (by rw [List.getElem?_map, hz0] <;> rfl)) ?_
    walk_at "wp"
    rcases hzt with ⟨c1, rfl⟩ | ⟨c1, rfl⟩
    · rw [if_pos c1]
      exact tail1
    · rw [if_neg c1]
      exact tail1
abbrev N_Ltuple : List Str := ["_law_row", "_law_words", "_law_word", "_law_at", "_law_k", "_law_some", "_law_begin", "_law_left", "_law_right"]
abbrev P_Ltuple : List Str := ["_law_row", "_law_words"]
theorem sc_Ltuple : FnScope N_Ltuple P_Ltuple (defScope s_Ltuple) := ⟨rfl, rfl, rfl, by decide +kernel, rfl, by decide +kernel, by decide +kernel⟩
theorem ok_Ltuple (T : Tx w K mg) : Cl P w K mg base 3 "_law_tuple" P_Ltuple (spTuple K) := by
  refine Cl.mk T.d_Ltuple rfl T.g_Ltuple sc_Ltuple (fun _ _ _ _ _ _ us hl => match us, hl with | [_, _], _ => rfl) (fun vs H Q E h => ?_) (fun cdv A outer s H vs Q E hr h => ?_)
  · obtain ⟨_, _, _, _, rfl, _⟩ := h
    rfl
  · obtain ⟨row, a, ws, f, rfl, ha, hl, hz, hs, q⟩ := h
    refine ⟨_, (pss_cons (ps_set (i := 2) sc_Ltuple.nd rfl (Or.inl rfl) (pe_ix ix_list (pv 1) pe_int (fun _ _ => rfl)))
      (pss_cons (ps_if (pt_cmpR op_eq (pv 2) pe_str (nomark _)) (pss_one (ps_ret (pe_tup (pa_cons (pv 2) (pa_cons (pv 0) (pa_cons (pe_slice sl_list (pv 1) (po_some pe_int) po_none) pa_nil)))))) pss_nil)
      (pss_cons (ps_if (pt_cmpR op_eq (pv 2) pe_str (nomark _)) (pss_one (ps_ret (pe_tup (pa_cons (pv 2) (pa_cons (pv 0) (pa_cons (pe_callTy call_int_str (by rfl) T.f_int (by decide +kernel) (pa_cons (pe_ix ix_list (pv 1) pe_int (fun _ _ => rfl)) pa_nil)) pa_nil)))))) pss_nil)
      (pss_cons (ps_if (pt_cmpR op_eq (pv 2) pe_str (nomark _)) (pss_one (ps_ret (pe_tup (pa_cons (pv 2) (pa_cons (pv 0) (pa_cons (pe_ix ix_list (pv 1) pe_int (fun _ _ => rfl)) pa_nil)))))) pss_nil)
      (pss_cons (ps_if (pt_cmpR op_eq (pv 2) pe_str (nomark _)) (pss_one (ps_ret (pe_tup (pa_cons (pv 2) (pa_cons (pv 0) (pa_cons (pe_ix ix_list (pv 1) pe_int (fun _ _ => rfl)) (pa_cons (pe_ix ix_list (pv 1) pe_int (fun _ _ => rfl)) (pa_cons (pe_callTy call_int_str (by rfl) T.f_int (by decide +kernel) (pa_cons (pe_ix ix_list (pv 1) pe_int (fun _ _ => rfl)) pa_nil)) (pa_cons (pe_fn (ok_Lfraction T) hr (by decide) (by rfl) (pa_cons (pe_slice sl_list (pv 1) (po_some pe_int) po_none) pa_nil)) pa_nil))))))))) pss_nil)
      (pss_cons (ps_if (pt_cmpR op_eq (pv 2) pe_str (nomark _)) (pss_cons (ps_set (i := 3) sc_Ltuple.nd rfl (Or.inl rfl) (pe_ix ix_list (pe_lc (own := [("_law_k", 4), ("_law_some", 5)]) (g := (gTup K 2 (gCons (gName 4) (gCons (gName 5) gNil)))) rfl sc_Ltuple.nd (pi_enum rfl T.f_enumerate (pa_cons (pv 1) pa_nil)) (blkOk_by (own := [("_law_k", 4), ("_law_some", 5)]) (N := N_Ltuple) (sc := defScope s_Ltuple) (by decide +kernel)) (fun _ _ _ _ _ => (pg_tup (n := 2) rfl (pgs_cons (pg_name (i := 4) sc_Ltuple.nd rfl (Or.inl rfl)) (pgs_cons (pg_name (i := 5) sc_Ltuple.nd rfl (Or.inl rfl)) pgs_nil)))) (fun _ _ _ _ _ => pts_one ((pw_and (pt_cmpR op_eq (pv 5) pe_str (nomark _)) (pw_and1 (pt_cmpR op_gt (pv 4) pe_int (nomark _))))).pt) (fun _ _ _ _ _ => (pv 4))) pe_int (fun _ _ => rfl)))
      (pss_one (ps_ret (pe_tup (pa_cons (pv 2) (pa_cons (pv 0) (pa_cons (pe_ix ix_list (pv 1) pe_int (fun _ _ => rfl)) (pa_cons (pe_fn (ok_Lterms T) hr (by decide) (by rfl) (pa_cons (pe_slice sl_list (pv 1) (po_some pe_int) (po_some (pv 3))) pa_nil)) (pa_cons (pe_fn (ok_Lfraction T) hr (by decide) (by rfl) (pa_cons (pe_slice sl_list (pv 1) (po_some (pe_op op_add (pv 3) pe_int)) po_none) pa_nil)) pa_nil))))))))) pss_nil)
      (pss_cons (ps_set (i := 6) sc_Ltuple.nd rfl (Or.inl rfl) (pe_ifExp (pt_cmpR op_eq (pv 2) pe_str (nomark _)) pe_int pe_int))
      (pss_cons (ps_set (i := 3) sc_Ltuple.nd rfl (Or.inl rfl) (pe_ix ix_list (pe_lc (own := [("_law_k", 4), ("_law_some", 5)]) (g := (gTup K 2 (gCons (gName 4) (gCons (gName 5) gNil)))) rfl sc_Ltuple.nd (pi_enum rfl T.f_enumerate (pa_cons (pv 1) pa_nil)) (blkOk_by (own := [("_law_k", 4), ("_law_some", 5)]) (N := N_Ltuple) (sc := defScope s_Ltuple) (by decide +kernel)) (fun _ _ _ _ _ => (pg_tup (n := 2) rfl (pgs_cons (pg_name (i := 4) sc_Ltuple.nd rfl (Or.inl rfl)) (pgs_cons (pg_name (i := 5) sc_Ltuple.nd rfl (Or.inl rfl)) pgs_nil)))) (fun _ _ _ _ _ => pts_one (pt_cmpR (show OpR _ (compareOp .In) (rIn K false) from op_in_seq) (pv 5) (pe_lst (pa_cons pe_str (pa_cons pe_str (pa_cons pe_str pa_nil)))) (by with_unfolding_all rfl))) (fun _ _ _ _ _ => (pv 4))) pe_int (fun _ _ => rfl)))
      (pss_cons (ps_par (i := 7) (j := 8) rfl sc_Ltuple.nd rfl rfl (by decide) rfl rfl (pa_cons (pe_fn (ok_Lterms T) hr (by decide) (by rfl) (pa_cons (pe_slice sl_list (pv 1) (po_some (pv 6)) (po_some (pv 3))) pa_nil)) (pa_cons (pe_fn (ok_Lterms T) hr (by decide) (by rfl) (pa_cons (pe_slice sl_list (pv 1) (po_some (pe_op op_add (pv 3) pe_int)) po_none) pa_nil)) pa_nil)) (by with_unfolding_all rfl))
      (pss_cons (ps_if (pt_cmpR op_eq (pv 2) pe_str (nomark _)) (pss_one (ps_ret (pe_tup (pa_cons (pv 2) (pa_cons (pv 0) (pa_cons (pe_callTy call_int_str (by rfl) T.f_int (by decide +kernel) (pa_cons (pe_ix ix_list (pv 1) pe_int (fun _ _ => rfl)) pa_nil)) (pa_cons (pv 7) (pa_cons (pe_ix ix_list (pv 1) (pv 3) (fun _ _ => rfl)) (pa_cons (pv 8) pa_nil))))))))) pss_nil)
      (pss_one (ps_ret (pe_tup (pa_cons (pv 2) (pa_cons (pv 0) (pa_cons (pv 7) (pa_cons (pe_ix ix_list (pv 1) (pv 3) (fun _ _ => rfl)) (pa_cons (pv 8) pa_nil)))))))))))))))))), ?_⟩
    walk_at "st"
    cases hs with
    | unknowns r =>
      walk_at "wp"
      refine st_ixL (sqS ha) (atI_nat (j := 0) rfl) ?_
      refine st_eqY (by decide +kernel) ?_
      refine ⟨a, _, rfl, sqS ha, ?_⟩
      (intro b1 hb1; generalize hg0 : upd _ b1 _ = H1; obtain ⟨e1, h1⟩ := upd_ex hb1 hg0; clear hg0)
      refine ⟨sz3 (Nat.le_of_ble_eq_true rfl), ?_⟩
      (intro b2 hb2; generalize hg0 : upd _ b2 _ = H2; obtain ⟨e2, h2⟩ := upd_ex hb2 hg0; clear hg0)
      rw [show (1 : Int) = ((1 : Nat) : Int) from rfl, cutV_suf] at h1
      exact q _ H2 (e1.trans e2) (.tup e1.nin hb2 h2 (.cons .str (.cons .int (.cons (.lst (Kp.refl _) hb1 (e2 _ _ h1 trivial) (dps_str r)) .nil))))
    | moments hn =>
      walk_at "wp"
      refine st_ixL (sqS ha) (atI_nat (j := 0) rfl) ?_
      refine st_eqN (by decide +kernel) ?_
      refine st_eqY (by decide +kernel) ?_
      obtain ⟨g1, g2, _⟩ := number_ok hn
      refine st_ixL (sqS ha) (atI_nat (j := 1) rfl) ⟨_, rfl, _, g1, by omega, sz3 (Nat.le_of_ble_eq_true rfl), ?_⟩
      (intro b2 hb2; generalize hg0 : upd _ b2 _ = H2; obtain ⟨e2, h2⟩ := upd_ex hb2 hg0; clear hg0)
      exact q _ H2 e2 (.tup (Kp.refl _) hb2 h2 (.cons .str (.cons .int (.cons .int .nil))))
    | back n =>
      walk_at "wp"
      refine st_ixL (sqS ha) (atI_nat (j := 0) rfl) ?_
      refine st_eqN (by decide +kernel) ?_
      refine st_eqN (by decide +kernel) ?_
      refine st_eqY (by decide +kernel) ?_
      refine st_ixL (sqS ha) (atI_nat (j := 1) rfl) ⟨sz3 (Nat.le_of_ble_eq_true rfl), ?_⟩
      (intro b2 hb2; generalize hg0 : upd _ b2 _ = H2; obtain ⟨e2, h2⟩ := upd_ex hb2 hg0; clear hg0)
      exact q _ H2 e2 (.tup (Kp.refl _) hb2 h2 (.cons .str (.cons .int (.cons .str .nil))))
    | reading hm hf =>
      walk_at "wp"
      refine st_ixL (sqS ha) (atI_nat (j := 0) rfl) ?_
      refine st_eqN (by decide +kernel) ?_
      refine st_eqN (by decide +kernel) ?_
      refine st_eqN (by decide +kernel) ?_
      refine st_eqY (by decide +kernel) ?_
      obtain ⟨g1, g2, _⟩ := number_ok hm
      refine st_ixL (sqS ha) (atI_nat (j := 1) rfl) ?_
      refine st_ixL (sqS ha) (atI_nat (j := 2) rfl) ?_
      refine st_ixL (sqS ha) (atI_nat (j := 4) rfl) ⟨_, rfl, _, g1, by omega, ?_⟩
      refine ⟨a, _, rfl, sqS ha, ?_⟩
      (intro b1 hb1; generalize hg0 : upd _ b1 _ = H1; obtain ⟨e1, h1⟩ := upd_ex hb1 hg0; clear hg0)
      rw [show (6 : Int) = ((6 : Nat) : Int) from rfl, cutV_suf] at h1
      refine ⟨b1, _, _, _, _, rfl, h1, hf, fun v H2 e2 d2 => ⟨sz3 (Nat.le_of_ble_eq_true rfl), ?_⟩⟩
      (intro b3 hb3; generalize hg0 : upd _ b3 _ = H3; obtain ⟨e3, h3⟩ := upd_ex hb3 hg0; clear hg0)
      have f2 := (e1.trans e2)
      exact q _ H3 (f2.trans e3) (.tup f2.nin hb3 h3 (.cons .str (.cons .int (.cons .str (.cons .str (.cons .int (.cons ((d2.base e1.nin).kp e3.nin) .nil)))))))
    | @sensor an fw fr _ _ _ hn hf =>
      walk_at "wp"
      refine st_ixL (sqS ha) (atI_nat (j := 0) rfl) ?_
      refine st_eqN (by decide +kernel) ?_
      refine st_eqN (by decide +kernel) ?_
      refine st_eqN (by decide +kernel) ?_
      refine st_eqN (by decide +kernel) ?_
      refine st_eqY (by decide +kernel) ?_
      refine lc_enum (l := ("sensor" : Str) :: an :: ":" :: (fw ++ ("slack" : Str) :: fr)) (f := V.str) (fun q => if (decide (q.2 = ("slack" : Str)) && decide (1 < q.1)) = true then some (V.int (q.1 : Nat)) else none) (by omega) rfl (sqS ha) (fun i x TT H1 hx e1 hT Yv N hy hn' => ?_) (fun p H1 hp e1 h1 => ?_)
      · generalize hg2 : upd H1 TT _ = H2
        obtain ⟨e2, h2⟩ := upd_ex hT hg2
        refine st_tup2 (sqT h2) ⟨rfl, ?_⟩
        walk_at "wp"
        by_cases c1 : x = "slack"
        · rw [if_pos c1]
          by_cases c2 : (1 : Int) < (i : Nat)
          · rw [if_pos c2]
            exact hy _ _ (if_pos (by rw [decide_eq_true c1, decide_eq_true (show 1 < i by omega)] <;> rfl)) e2
          · rw [if_neg c2]
            exact hn' (if_neg (by rw [decide_eq_true c1, decide_eq_false (show ¬ 1 < i by omega)] <;> decide)) _ e2
        · rw [if_neg c1]
          exact hn' (if_neg (by rw [decide_eq_false c1] <;> exact Bool.false_ne_true)) _ e2
      · obtain ⟨rest, hr1⟩ := first_at (fun i z => decide (z = ("slack" : Str)) && decide (1 < i)) (("sensor" : Str) :: an :: ":" :: fw) "slack" fr (fun i y hy => by
          cases i with
          | zero => rw [decide_eq_false (show ¬ 1 < 0 by omega), Bool.and_false]
          | succ i =>
            cases i with
            | zero => rw [decide_eq_false (show ¬ 1 < 0 + 1 by omega), Bool.and_false]
            | succ i =>
              have ny : ¬ y = "slack" := fun e => by
                cases i with
                | zero =>
                  have h3 : (":" : Str) = y := Option.some.inj hy
                  rw [e] at h3
                  exact absurd h3 (by decide +kernel)
                | succ i =>
                  have h3 : fw[i]? = some y := hy
                  rw [e] at h3
                  exact hn (List.mem_of_getElem? h3)
              rw [decide_eq_false ny, Bool.false_and]) (by rw [decide_eq_true rfl, Bool.true_and]; exact decide_eq_true (by show 1 < fw.length + 1 + 1 + 1; omega))
        have h1' : H1 p = some (.lst (V.int ((fw.length + 3 : Nat) : Int) :: rest)) := by
          rw [h1]
          exact congrArg (fun z => some (HO.lst z)) hr1
        have ha1 := ha.all e1
        refine st_ixL (sqS h1') (atI_nat (j := 0) rfl) ?_
        refine st_ixL (sqS ha1) (atI_nat (j := 1) rfl) ⟨_, rfl, a, _, rfl, sqS ha1, ?_⟩
        (intro b2 hb2; generalize hg0 : upd _ b2 _ = H2; obtain ⟨e2, h2⟩ := upd_ex hb2 hg0; clear hg0)
        rw [show (3 : Int) = ((3 : Nat) : Int) from rfl, cutV_mid] at h2
        have ef : ((("sensor" : Str) :: an :: ":" :: (fw ++ ("slack" : Str) :: fr)).drop 3).take (fw.length + 3 - 3) = fw := by
          show (fw ++ ("slack" : Str) :: fr).take _ = fw
          rw [Nat.add_sub_cancel, List.take_left]
        rw [ef] at h2
        have f2 := e1.trans e2
        have lfw : fw.length ≤ 1000 := by
          have h9 := hl
          simp only [List.length_cons, List.length_append] at h9
          omega
        refine ⟨b2, fw, rfl, h2, lfw, fun z hz' => hz z (List.mem_cons_of_mem _ (List.mem_cons_of_mem _ (List.mem_cons_of_mem _ (List.mem_append_left _ hz')))), fun v3 H3 e3 d3 => ⟨_, rfl, a, _, rfl, sqS ((ha1.all e2).all e3), ?_⟩⟩
        have f3 := f2.trans e3
        (intro b4 hb4; generalize hg0 : upd _ b4 _ = H4; obtain ⟨e4, h4⟩ := upd_ex hb4 hg0; clear hg0)
        rw [show (((fw.length + 3 : Nat) : Int) + 1) = ((fw.length + 4 : Nat) : Int) by omega, cutV_suf] at h4
        have eg : (("sensor" : Str) :: an :: ":" :: (fw ++ ("slack" : Str) :: fr)).drop (fw.length + 4) = fr := by
          show (fw ++ ("slack" : Str) :: fr).drop (fw.length + 1) = fr
          rw [← List.drop_drop, List.drop_left]
          rfl
        rw [eg] at h4
        refine ⟨b4, fr, _, _, _, rfl, h4, hf, fun v5 H5 e5 d5 => ⟨sz3 (Nat.le_of_ble_eq_true rfl), ?_⟩⟩
        (intro b6 hb6; generalize hg0 : upd _ b6 _ = H6; obtain ⟨e6, h6⟩ := upd_ex hb6 hg0; clear hg0)
        have f5 := (f3.trans e4).trans e5
        exact q _ H6 (f5.trans e6) (.tup f5.nin hb6 h6 (.cons .str (.cons .int (.cons .str (.cons ((d3.base f2.nin).kp ((e4.trans e5).trans e6).nin) (.cons ((d5.base (f3.trans e4).nin).kp e6.nin) .nil))))))
    | @step m sg l r hm hl' hs =>
      walk_at "wp"
      refine st_ixL (sqS ha) (atI_nat (j := 0) rfl) ?_
      refine st_eqN (by decide +kernel) ?_
      refine st_eqN (by decide +kernel) ?_
      refine st_eqN (by decide +kernel) ?_
      refine st_eqN (by decide +kernel) ?_
      refine st_eqN (by decide +kernel) ?_
      refine st_eqY (by decide +kernel) ?_
      refine lc_enum (l := ("step" : Str) :: m :: ":" :: (l ++ sg :: r)) (f := V.str) (fun q => if decide (q.2 ∈ (["<=", ">=", "="] : List Str)) = true then some (V.int (q.1 : Nat)) else none) (by omega) rfl (sqS ha) (fun i x TT H1 hx e1 hT Yv N hy hn' => ?_) (fun p H1 hp e1 h1 => ?_)
      · generalize hg2 : upd H1 TT _ = H2
        obtain ⟨e2, h2⟩ := upd_ex hT hg2
        refine st_tup2 (sqT h2) ⟨rfl, ?_⟩
        walk_at "wp"
        refine ⟨sz3 (Nat.le_of_ble_eq_true rfl), ?_⟩
        (intro b3 hb3; generalize hg0 : upd _ b3 _ = H3; obtain ⟨e3, h3⟩ := upd_ex hb3 hg0; clear hg0)
        refine st_in (ws := ["<=", ">=", "="]) rfl (.inl (sqS h3)) ?_
        refine ⟨_, rfl, ?_⟩
        by_cases c1 : x ∈ (["<=", ">=", "="] : List Str)
        · rw [decide_eq_true c1, if_pos rfl]
          exact hy _ _ (if_pos (decide_eq_true c1)) (e2.trans e3)
        · rw [decide_eq_false c1, if_neg Bool.false_ne_true]
          exact hn' (if_neg (by rw [decide_eq_false c1]; exact Bool.false_ne_true)) _ (e2.trans e3)
      · obtain ⟨rest, hr1⟩ := first_at (fun i z => decide (z ∈ (["<=", ">=", "="] : List Str))) (("step" : Str) :: m :: ":" :: l) sg r (fun i y hy => by
          refine decide_eq_false fun hs2 => ?_
          have hm2 := List.mem_of_getElem? hy
          rcases List.mem_cons.mp hm2 with e | hm2
          · rw [e] at hs2
            exact absurd hs2 (by decide +kernel)
          rcases List.mem_cons.mp hm2 with e | hm2
          · rw [e] at hs2
            simp only [List.mem_cons, List.not_mem_nil, or_false] at hs2
            rcases hs2 with e2 | e2 | e2 <;> rw [e2] at hm <;> exact absurd hm (by decide +kernel)
          rcases List.mem_cons.mp hm2 with e | hm2
          · rw [e] at hs2
            exact absurd hs2 (by decide +kernel)
          exact hl' y hm2 hs2) (decide_eq_true hs)
        have h1' : H1 p = some (.lst (V.int ((l.length + 3 : Nat) : Int) :: rest)) := by
          rw [h1]
          exact congrArg (fun z => some (HO.lst z)) hr1
        have ha1 := ha.all e1
        refine st_ixL (sqS h1') (atI_nat (j := 0) rfl) ⟨_, rfl, a, _, rfl, sqS ha1, ?_⟩
        (intro b2 hb2; generalize hg0 : upd _ b2 _ = H2; obtain ⟨e2, h2⟩ := upd_ex hb2 hg0; clear hg0)
        rw [show (3 : Int) = ((3 : Nat) : Int) from rfl, cutV_mid] at h2
        have ef : ((("step" : Str) :: m :: ":" :: (l ++ sg :: r)).drop 3).take (l.length + 3 - 3) = l := by
          show (l ++ sg :: r).take _ = l
          rw [Nat.add_sub_cancel, List.take_left]
        rw [ef] at h2
        have f2 := e1.trans e2
        have ll : l.length ≤ 1000 ∧ r.length ≤ 1000 := by
          have h9 := hl
          simp only [List.length_cons, List.length_append] at h9
          omega
        have hzl : ∀ z ∈ l ++ sg :: r, Okw z := fun z hz' => hz z (List.mem_cons_of_mem _ (List.mem_cons_of_mem _ (List.mem_cons_of_mem _ hz')))
        refine ⟨b2, l, rfl, h2, ll.1, fun z hz' => hzl z (List.mem_append_left _ hz'), fun v3 H3 e3 d3 => ⟨_, rfl, a, _, rfl, sqS ((ha1.all e2).all e3), ?_⟩⟩
        have f3 := f2.trans e3
        (intro b4 hb4; generalize hg0 : upd _ b4 _ = H4; obtain ⟨e4, h4⟩ := upd_ex hb4 hg0; clear hg0)
        rw [show (((l.length + 3 : Nat) : Int) + 1) = ((l.length + 4 : Nat) : Int) by omega, cutV_suf] at h4
        have eg : (("step" : Str) :: m :: ":" :: (l ++ sg :: r)).drop (l.length + 4) = r := by
          show (l ++ sg :: r).drop (l.length + 1) = r
          rw [← List.drop_drop, List.drop_left]
          rfl
        rw [eg] at h4
        refine ⟨b4, r, rfl, h4, ll.2, fun z hz' => hzl z (List.mem_append_right _ (List.mem_cons_of_mem _ hz')), fun v5 H5 e5 d5 => ⟨_, _, ⟨rfl, rfl⟩, ?_⟩⟩
        have f5 := (f3.trans e4).trans e5
        have ha5 := ((((ha1.all e2).all e3).all e4).all e5)
        have ix : atI ((("step" : Str) :: m :: ":" :: (l ++ sg :: r)).map V.str) ((l.length + 3 : Nat) : Int) = some (V.str sg) := atI_nat (by
          rw [List.getElem?_map]
          have h8 : (("step" : Str) :: m :: ":" :: (l ++ sg :: r))[l.length + 3]? = some sg := by
            show (l ++ sg :: r)[l.length]? = some sg
            rw [List.getElem?_append_right (Nat.le_refl _), Nat.sub_self]
            rfl
          rw [h8]
          rfl)
        refine st_eqY (by decide +kernel) ?_
        obtain ⟨g1, g2, _⟩ := number_ok hm
        refine st_ixL (sqS ha5) (atI_nat (j := 1) rfl) ⟨_, rfl, _, g1, by omega, ?_⟩
        refine st_ixL (sqS ha5) ix ⟨sz3 (Nat.le_of_ble_eq_true rfl), ?_⟩
        (intro b6 hb6; generalize hg0 : upd _ b6 _ = H6; obtain ⟨e6, h6⟩ := upd_ex hb6 hg0; clear hg0)
        exact q _ H6 (f5.trans e6) (.tup f5.nin hb6 h6 (.cons .str (.cons .int (.cons .int (.cons ((d3.base f2.nin).kp ((e4.trans e5).trans e6).nin) (.cons .str (.cons ((d5.base (f3.trans e4).nin).kp e6.nin) .nil)))))))
    | @comp h sg l r hh hl' hs =>
      have n1 : decide (h = "unknowns") = false := by rcases hh with rfl | rfl | rfl <;> decide +kernel
      have n2 : decide (h = "moments") = false := by rcases hh with rfl | rfl | rfl <;> decide +kernel
      have n3 : decide (h = "back") = false := by rcases hh with rfl | rfl | rfl <;> decide +kernel
      have n4 : decide (h = "reading") = false := by rcases hh with rfl | rfl | rfl <;> decide +kernel
      have n5 : decide (h = "sensor") = false := by rcases hh with rfl | rfl | rfl <;> decide +kernel
      have n6 : decide (h = "step") = false := by rcases hh with rfl | rfl | rfl <;> decide +kernel
      have n7 : ¬ isSign h := by rcases hh with rfl | rfl | rfl <;> (unfold isSign; decide +kernel)
      walk_at "wp"
      refine st_ixL (sqS ha) (atI_nat (j := 0) rfl) ?_
      refine st_eqN n1 ?_
      refine st_eqN n2 ?_
      refine st_eqN n3 ?_
      refine st_eqN n4 ?_
      refine st_eqN n5 ?_
      refine st_eqN n6 ?_
      refine lc_enum (l := h :: (l ++ sg :: r)) (f := V.str) (fun q => if decide (q.2 ∈ (["<=", ">=", "="] : List Str)) = true then some (V.int (q.1 : Nat)) else none) (by omega) rfl (sqS ha) (fun i x TT H1 hx e1 hT Yv N hy hn' => ?_) (fun p H1 hp e1 h1 => ?_)
      · generalize hg2 : upd H1 TT _ = H2
        obtain ⟨e2, h2⟩ := upd_ex hT hg2
        refine st_tup2 (sqT h2) ⟨rfl, ?_⟩
        walk_at "wp"
        refine ⟨sz3 (Nat.le_of_ble_eq_true rfl), ?_⟩
        (intro b3 hb3; generalize hg0 : upd _ b3 _ = H3; obtain ⟨e3, h3⟩ := upd_ex hb3 hg0; clear hg0)
        refine st_in (ws := ["<=", ">=", "="]) rfl (.inl (sqS h3)) ?_
        refine ⟨_, rfl, ?_⟩
        by_cases c1 : x ∈ (["<=", ">=", "="] : List Str)
        · rw [decide_eq_true c1, if_pos rfl]
          exact hy _ _ (if_pos (decide_eq_true c1)) (e2.trans e3)
        · rw [decide_eq_false c1, if_neg Bool.false_ne_true]
          exact hn' (if_neg (by rw [decide_eq_false c1]; exact Bool.false_ne_true)) _ (e2.trans e3)
      · obtain ⟨rest, hr1⟩ := first_at (fun i z => decide (z ∈ (["<=", ">=", "="] : List Str))) (h :: l) sg r (fun i y hy => by
          refine decide_eq_false fun hs2 => ?_
          have hm2 := List.mem_of_getElem? hy
          rcases List.mem_cons.mp hm2 with e | hm2
          · rw [e] at hs2
            exact n7 hs2
          exact hl' y hm2 hs2) (decide_eq_true hs)
        have h1' : H1 p = some (.lst (V.int ((l.length + 1 : Nat) : Int) :: rest)) := by
          rw [h1]
          exact congrArg (fun z => some (HO.lst z)) hr1
        have ha1 := ha.all e1
        refine st_ixL (sqS h1') (atI_nat (j := 0) rfl) ⟨_, rfl, a, _, rfl, sqS ha1, ?_⟩
        (intro b2 hb2; generalize hg0 : upd _ b2 _ = H2; obtain ⟨e2, h2⟩ := upd_ex hb2 hg0; clear hg0)
        rw [show (1 : Int) = ((1 : Nat) : Int) from rfl, cutV_mid] at h2
        have ef : ((h :: (l ++ sg :: r)).drop 1).take (l.length + 1 - 1) = l := by
          show (l ++ sg :: r).take _ = l
          rw [Nat.add_sub_cancel, List.take_left]
        rw [ef] at h2
        have f2 := e1.trans e2
        have ll : l.length ≤ 1000 ∧ r.length ≤ 1000 := by
          have h9 := hl
          simp only [List.length_cons, List.length_append] at h9
          omega
        have hzl : ∀ z ∈ l ++ sg :: r, Okw z := fun z hz' => hz z (List.mem_cons_of_mem _ hz')
        refine ⟨b2, l, rfl, h2, ll.1, fun z hz' => hzl z (List.mem_append_left _ hz'), fun v3 H3 e3 d3 => ⟨_, rfl, a, _, rfl, sqS ((ha1.all e2).all e3), ?_⟩⟩
        have f3 := f2.trans e3
        (intro b4 hb4; generalize hg0 : upd _ b4 _ = H4; obtain ⟨e4, h4⟩ := upd_ex hb4 hg0; clear hg0)
        rw [show (((l.length + 1 : Nat) : Int) + 1) = ((l.length + 2 : Nat) : Int) by omega, cutV_suf] at h4
        have eg : (h :: (l ++ sg :: r)).drop (l.length + 2) = r := by
          show (l ++ sg :: r).drop (l.length + 1) = r
          rw [← List.drop_drop, List.drop_left]
          rfl
        rw [eg] at h4
        refine ⟨b4, r, rfl, h4, ll.2, fun z hz' => hzl z (List.mem_append_right _ (List.mem_cons_of_mem _ hz')), fun v5 H5 e5 d5 => ⟨_, _, ⟨rfl, rfl⟩, ?_⟩⟩
        have f5 := (f3.trans e4).trans e5
        have ha5 := ((((ha1.all e2).all e3).all e4).all e5)
        have ix : atI ((h :: (l ++ sg :: r)).map V.str) ((l.length + 1 : Nat) : Int) = some (V.str sg) := atI_nat (by
          rw [List.getElem?_map]
          have h8 : (h :: (l ++ sg :: r))[l.length + 1]? = some sg := by
            show (l ++ sg :: r)[l.length]? = some sg
            rw [List.getElem?_append_right (Nat.le_refl _), Nat.sub_self]
            rfl
          rw [h8]
          rfl)
        refine st_eqN n6 ?_
        refine st_ixL (sqS ha5) ix ⟨sz3 (Nat.le_of_ble_eq_true rfl), ?_⟩
        (intro b6 hb6; generalize hg0 : upd _ b6 _ = H6; obtain ⟨e6, h6⟩ := upd_ex hb6 hg0; clear hg0)
        exact q _ H6 (f5.trans e6) (.tup f5.nin hb6 h6 (.cons .str (.cons .int (.cons ((d3.base f2.nin).kp ((e4.trans e5).trans e6).nin) (.cons .str (.cons ((d5.base (f3.trans e4).nin).kp e6.nin) .nil))))))
end
end K31
set_option Elab.async false
set_option linter.all false
set_option maxRecDepth 100000
set_option maxHeartbeats 4000000
namespace K31
open PySem PySem.Spec PyProof.Rows L2
/-! what is due -/
local macro_rules | `(tactic| walk_at "st") => `(tactic| try simp only [L2.start, List.map_cons, List.map_nil, List.length_cons, List.length_nil, Nat.reduceAdd, Nat.reduceSub, Nat.add_zero, Nat.zero_add, List.replicate, List.cons_append, List.nil_append, List.append_nil])
local macro_rules | `(tactic| walk_at "wp") => `(tactic| try simp only [tSeq, tIfS, tRet, tOr, tAnd, tNot, tTest, tB, tOp, rI0, rI, rU, tCB, tCons, tNil, tVar, tC, tAsg, gName, tNext, tDrop, tOrV, tAndV, tNotV, tIf, tUn, tYes, wipe, tCall, tTup, tLst, tSl, tPart, tNoPart, tM0, tM1, tIsN, tNotN, tChain, tPar, tBM, tFld, tMeth,
  List.getElem?_cons_zero, List.getElem?_cons_succ, Option.some.injEq, exists_eq_left, exists_eq_left', V.str.injEq, V.int.injEq, V.bl.injEq, V.ref.injEq, List.cons.injEq, and_true, true_and, and_self, exists_and_left, exists_and_right, exists_eq_right, exists_eq, exists_const, reduceCtorEq, decide_eq_true_eq, decide_eq_false_iff_not, List.set_cons_zero, List.set_cons_succ, sg_inj, rEq_ss, rNe_ss, rEq_ii, rNe_ii, ↓reduceIte, Bool.false_eq_true, List.nil_append, List.cons_append, List.append_nil, not_true_eq_false, not_false_eq_true, Bool.not_eq_true', Bool.not_true, Bool.not_false, decide_true, decide_false, or_false, false_or, or_true, true_or, false_and, and_false])
theorem cutV_init {α : Type} (f : α → V) (ws : List α) (h : 1 ≤ ws.length) : cutV (ws.map f) none (some (-1)) = ws.dropLast.map f := by
  unfold cutV
  have e : HT.sIx (ws.map f).length (ws.map f).length (some (-1)) = ws.length - 1 := by
    rw [List.length_map]
    show (if (-1 : Int) < 0 then ((-1 : Int) + (ws.length : Int)).toNat else min (-1 : Int).toNat ws.length) = _
    rw [if_pos (by decide)]
    omega
  rw [e, HT.sIx_none, List.drop_zero, Nat.sub_zero, List.dropLast_eq_take, List.map_take]
theorem F2.zipR {α β γ : Type} {R : α → β → Prop} {as : List α} {bs : List β} (h : F2 R as bs) (g : β → γ) : ((as.zip bs).filterMap fun q => some (g q.2)) = bs.map g := by
  rw [List.filterMap_eq_map']
  have e := congrArg (List.map g) h.zip2
  rw [List.map_map] at e
  exact e
theorem wd_okw {z : Str} (h : Wd z = true ∨ z = "") : Okw z := ⟨by
  rcases h with h | h
  · exact Nat.le_trans (wd_len h) (by decide)
  · rw [h]
    decide +kernel, strOk_wd h⟩
theorem rowOk_words {r : List (Nat × Str)} (h : RowOk r) : (∀ z ∈ r.map (·.2), Okw z) ∧ r.length ≤ 50 ∧ 1 ≤ r.length := by
  obtain ⟨l, s, rfl, hw, hl⟩ := h
  refine ⟨fun z hz => ?_, ?_, ?_⟩
  · obtain ⟨q, hq, rfl⟩ := List.mem_map.mp hz
    rcases List.mem_append.mp hq with hq | hq
    · exact wd_okw (.inl (hw q hq))
    · rw [List.mem_singleton.mp hq]
      exact wd_okw (.inr rfl)
  · rw [List.length_append, List.length_singleton]
    omega
  · rw [List.length_append, List.length_singleton]
    omega
section
variable {P : Program} {w : World} {K : PySem.W.Frag} {mg : Str → Option Value} {base : Heap}
abbrev N_Ldue : List Str := ["_law_laid_here", "_law_found", "_law_at", "_law_row", "_law_words", "_law_spot", "_law_word", "_law_many"]
abbrev P_Ldue : List Str := ["_law_laid_here"]
theorem sc_Ldue : FnScope N_Ldue P_Ldue (defScope s_Ldue) := ⟨rfl, rfl, rfl, by decide +kernel, rfl, by decide +kernel, by decide +kernel⟩
theorem ok_Ldue (T : Tx w K mg) : Cl P w K mg base 5 "_law_due" P_Ldue (spDue K) := by
  refine Cl.mk T.d_Ldue rfl T.g_Ldue sc_Ldue (fun _ _ _ _ _ _ us hl => match us, hl with | [_], _ => rfl) (fun vs H Q E h => ?_) (fun cdv A outer s H vs Q E hr h => ?_)
  · obtain ⟨_, _, _, _, rfl, _⟩ := h
    rfl
  · obtain ⟨a, rows, ds, o, rfl, ha, hl, hro, hd, q⟩ := h
    refine ⟨_, (pss_cons (ps_set (i := 1) sc_Ldue.nd rfl (Or.inl rfl) (pe_lst pa_nil))
      (pss_cons (ps_for (passes_of rfl) rfl (pi_enum rfl T.f_enumerate (pa_cons (pv 0) pa_nil)) (pg_tup (n := 2) rfl (pgs_cons (pg_name (i := 2) sc_Ldue.nd rfl (Or.inl rfl)) (pgs_cons (pg_name (i := 3) sc_Ldue.nd rfl (Or.inl rfl)) pgs_nil))) (pss_cons (ps_setLc (i := 4) (own := [("_law_spot", 5), ("_law_word", 6)]) (g := (gTup K 2 (gCons (gName 5) (gCons (gName 6) gNil)))) rfl sc_Ldue.nd rfl rfl (sw_true rfl rfl rfl (by decide +kernel)) (pi_list (pv 3)) (blkOk_by (own := [("_law_spot", 5), ("_law_word", 6)]) (N := N_Ldue) (sc := defScope s_Ldue) (by decide +kernel)) (fun _ _ _ _ _ => (pg_tup (n := 2) rfl (pgs_cons (pg_name (i := 5) sc_Ldue.nd rfl (Or.inl rfl)) (pgs_cons (pg_name (i := 6) sc_Ldue.nd rfl (Or.inl rfl)) pgs_nil)))) (fun _ _ _ _ _ => pts_nil) (fun _ _ _ _ _ => (pv 6)))
      (pss_one (ps_if (pt_cmpR op_gt (pe_callB call_len_seq (by rfl) T.f_len PySem.boot_len (pa_cons (pv 4) pa_nil)) pe_int (nomark _)) (pss_cons (ps_set (i := 7) sc_Ldue.nd rfl (Or.inl rfl) (pe_fn (ok_Lwalk T) hr (by decide) (by rfl) (pa_cons (pv 4) pa_nil)))
      (pss_cons (ps_if (pt_cmpR op_lt (pv 7) (pe_callB call_len_seq (by rfl) T.f_len PySem.boot_len (pa_cons (pv 4) pa_nil)) (nomark _)) (pss_one (ps_ret (pe_tup (pa_cons (pv 1) (pa_cons (pe_tup (pa_cons (pe_op op_add (pv 2) pe_int) (pa_cons (pe_ix ix_tup (pe_ix ix_list (pv 3) (pv 7) (fun _ _ => rfl)) pe_int (fun _ _ => rfl)) pa_nil))) pa_nil))))) pss_nil)
      (pss_one (ps_expr (pe_bm PySem.F.plainAttrs_list PySem.F.slot_list_append PySem.F.type_list_append mt_append (pv 1) (pa_cons (pe_fn (ok_Ltuple T) hr (by decide) (by rfl) (pa_cons (pe_op op_add (pv 2) pe_int) (pa_cons (pe_slice sl_list (pv 4) po_none (po_some (pe_un un_neg pe_int))) pa_nil))) pa_nil)))))) pss_nil))))
      (pss_one (ps_ret (pe_tup (pa_cons (pv 1) (pa_cons pe_non pa_nil))))))), ?_⟩
    walk_at "st"
    walk_at "wp"
    refine ⟨sz3 (Nat.le_of_ble_eq_true rfl), ?_⟩
    (intro D hD; generalize hg0 : upd _ D _ = H1; obtain ⟨e1, h1⟩ := upd_ex hD hg0; clear hg0)
    obtain ⟨vr, hv, fv⟩ := ha
    refine ⟨_, rfl, a, vr, rfl, sqS (e1 _ _ hv trivial), ?_⟩
    obtain ⟨Pv, hP⟩ := mkI fun (i : Nat) σ H3 => ∃ (vs : List V) (acc : List PyData) (o2 o3 o4 o5 o6 o7 : Option V), σ = [some (V.ref a), some (V.ref D), o2, o3, o4, o5, o6, o7] ∧ Kp AllS H H3 ∧ H3 D = some (.lst vs) ∧ DpAll K (hid D (hidB H H3)) vs acc ∧ vs.length ≤ i ∧ Due i acc (rows.drop i) ds o
    refine for_enumL (xs := vr) Pv ((hP _ _ _).mpr ⟨[], [], _, _, _, _, _, _, rfl, e1, h1, .nil, Nat.le_refl _, hd⟩) (fun i σ H3 _ pv => ?_) (fun i x TT σ H3 hx pv hT => ?_) (fun σ H3 pv => ?_)
    · obtain ⟨vs, acc, o2, o3, o4, o5, o6, o7, rfl, e3, h3, d3, l3, hd3⟩ := (hP _ _ _).mp pv
      exact sqS (e3 _ _ hv trivial)
    · obtain ⟨vs, acc, o2, o3, o4, o5, o6, o7, rfl, e3, h3, d3, l3, hd3⟩ := (hP _ _ _).mp pv
      obtain ⟨b, hbx, p5, rfl, ro5⟩ := fv.get' hx
      obtain ⟨c, rr, g1, g2, g3⟩ := drop_at (l := rows) (k := i) (List.getElem?_eq_some_iff.mp hbx).1
      obtain rfl : b = c := Option.some.inj (hbx.symm.trans g2)
      have hrb := hro b (List.mem_of_getElem? hbx)
      obtain ⟨okb, lb, lb1⟩ := rowOk_words hrb
      rw [g1] at hd3
      have il : i < rows.length := (List.getElem?_eq_some_iff.mp hbx).1
      generalize hg4 : upd H3 TT _ = H4
      obtain ⟨e4, h4⟩ := upd_ex hT hg4
      have f4 := e3.trans e4
      have ro4 := ro5.all f4
      obtain ⟨vs5, h5, t5⟩ := id ro4
      have l5 := t5.len
      have ez := t5.zip1
      refine st_tup2 (sqT h4) ?_
      refine tSeq_op fun R hR => ?_
      have tail : ∀ (pw : Addr) (H5 : Hp), Kp AllS H4 H5 → WordsAt H5 pw (b.map (·.2)) → R [some (V.ref a), some (V.ref D), some (V.int (i : Nat)), some (V.ref p5), some (V.ref pw), o5, o6, o7] H5 := by
        intro pw H5 e5 hw
        have f5 := f4.trans e5
        have h5D := (e4.trans e5) _ _ h3 trivial
        have d5 : DpAll K (hid D (hidB H H5)) vs acc := (Kp.hid2 (hidB_kp (e4.trans e5).nin)).dpAll d3
        refine hR _ _ ?_
        walk_at "wp"
        refine ⟨_, .inl (sqS hw), ?_⟩
        rw [List.length_map, List.length_map]
        have lwb : (b.map (·.2)).length = b.length := List.length_map _
        cases hd3 with
        | skip hsk hdd =>
          rw [if_neg (by omega)]
          exact (hP _ _ _).mpr ⟨vs, acc, _, _, _, _, _, _, rfl, f5, h5D, d5, by omega, by rw [g3]; exact hdd⟩
        | @fault _ _ _ _ qq h1b hm hq =>
          rw [if_pos (by omega)]
          refine ⟨pw, _, rfl, hw, by omega, okb, fun H6 e6 => ?_⟩
          have f6 := f5.trans e6
          refine ⟨_, .inl (sqS (hw.all e6)), _, rfl, ?_⟩
          rw [List.length_map, List.length_map, if_pos (by omega)]
          obtain ⟨v8, h8, p8, rfl, h9⟩ := t5.get hq
          have e46 := e5.trans e6
          refine st_ixL (sqS (e46 _ _ h5 trivial)) (atI_nat h8) ?_
          refine st_ixT (sqT (e46 _ _ h9 trivial)) (atI_nat (j := 0) rfl) ⟨sz3 (Nat.le_of_ble_eq_true rfl), ?_⟩
          (intro b7 hb7; generalize hg0 : upd _ b7 _ = H7; obtain ⟨e7, h7⟩ := upd_ex hb7 hg0; clear hg0)
          refine ⟨sz3 (Nat.le_of_ble_eq_true rfl), ?_⟩
          (intro b9 hb9; generalize hg0 : upd _ b9 _ = H9; obtain ⟨e9, h9'⟩ := upd_ex hb9 hg0; clear hg0)
          have f9 := (f6.trans e7).trans e9
          have hD9 := ((e6.trans e7).trans e9) _ _ h5D trivial
          have d9 : DpAll K H9 vs ds := Kp.dpAll ((Kp.unhid (D := D)).trans hidB_le).all ((Kp.hid2 (hidB_kp ((e6.trans e7).trans e9).nin)).dpAll d5)
          exact q b9 D _ H9 f9 h9' (.lst (sqS hD9) d9) ⟨b7, rfl, e9 _ _ h7 trivial⟩
        | @ok _ _ _ _ _ _ f h1b hm hs hdd =>
          rw [if_pos (by omega)]
          refine ⟨pw, _, rfl, hw, by omega, okb, fun H6 e6 => ?_⟩
          have f6 := f5.trans e6
          refine ⟨_, .inl (sqS (hw.all e6)), _, rfl, ?_⟩
          rw [List.length_map, List.length_map, if_neg (by omega)]
          have h6D := e6 _ _ h5D trivial
          refine ⟨st_tyL h6D, pw, _, rfl, sqS (hw.all e6), ?_⟩
          (intro b7 hb7; generalize hg0 : upd _ b7 _ = H7; obtain ⟨e7, h7⟩ := upd_ex hb7 hg0; clear hg0)
          rw [cutV_init V.str _ (by omega)] at h7
          have hbl : (b.map (·.2)).dropLast.length ≤ 1000 := by rw [List.length_dropLast, lwb]; omega
          refine ⟨i + 1, b7, _, f, by rw [show ((i : Nat) : Int) + 1 = ((i + 1 : Nat) : Int) by omega], h7, hbl, fun z hz' => okb z (List.dropLast_subset _ hz'), hs, fun v H8 e8 d8 => ?_⟩
          have e58 := (e6.trans e7).trans e8
          have h8D := e58 _ _ h5D trivial
          have f7 := f6.trans e7
          have f8 := f7.trans e8
          refine st_app h8D (by omega) ((hP _ _ _).mpr ⟨vs ++ [v], acc ++ [f (i + 1)], _, _, _, _, _, _, rfl, Kp.mut f8 hD, upd_same, ?_, by rw [List.length_append, List.length_singleton]; omega, by rw [g3]; exact hdd⟩)
          rw [hid_hidB_upd]
          refine dpAll_snoc ((Kp.hid2 (hidB_kp e58.nin)).dpAll d5) (Kp.dp (hidB_hid f7.nin (e7 _ _ h6D trivial) fun _ _ _ z => by cases z).all d8)
      walk_at "wp"
      refine lc_lst (l := vs5.zip b) (f := fun q => q.1) (fun q => some (V.str q.2.2)) ?_ rfl ?_ (fun x H5 hx5 e5 Yv N hy hn => ?_) (fun pw H5 hp5 e5 h5' => ?_)
      · rw [List.length_zip]
        omega
      · rw [ez]
        exact sqS h5
      · obtain ⟨p8, ep8, h8⟩ := t5.zipM x hx5
        rw [ep8]
        refine st_tup2 (sqT (e5 _ _ h8 trivial)) ⟨rfl, ?_⟩
        walk_at "wp"
        exact hy _ _ rfl (Kp.refl H5)
      · rw [t5.zipR fun q => V.str q.2] at h5'
        refine tail pw H5 e5 ?_
        unfold WordsAt
        rw [List.map_map]
        exact h5'
    · obtain ⟨vs, acc, o2, o3, o4, o5, o6, o7, rfl, e3, h3, d3, l3, hd3⟩ := (hP _ _ _).mp pv
      have lv := fv.len
      rw [lv, List.drop_length] at hd3
      cases hd3
      walk_at "wp"
      refine ⟨sz3 (Nat.le_of_ble_eq_true rfl), ?_⟩
      (intro b9 hb9; generalize hg0 : upd _ b9 _ = H9; obtain ⟨e9, h9⟩ := upd_ex hb9 hg0; clear hg0)
      exact q b9 D _ H9 (e3.trans e9) h9 (.lst (sqS (e9 _ _ h3 trivial)) (Kp.dpAll ((Kp.unhid (D := D)).trans hidB_le).all ((Kp.hid2 (hidB_kp e9.nin)).dpAll d3))) rfl
end
end K31
set_option Elab.async false
set_option linter.all false
set_option maxRecDepth 100000
set_option maxHeartbeats 4000000
namespace K31
open PySem PySem.Spec PyProof.Rows L2
/-! plain: the machine of beginnings and the law's walk step alike -/
/-! ### a word of noughts -/
theorem fold_zero : ∀ (cs : List Nat) (a : Nat), (∀ c ∈ cs, 48 ≤ c) → (cs.foldl (fun acc c => acc * 10 + (c - 48)) a = 0 ↔ a = 0 ∧ ∀ c ∈ cs, c = 48)
  | [], a, _ => by simp
  | c :: cs, a, h => by
    rw [List.foldl_cons, fold_zero cs _ fun d hd => h d (List.mem_cons_of_mem _ hd)]
    have h1 := h c (List.mem_cons_self ..)
    constructor
    · rintro ⟨h2, h3⟩
      refine ⟨by omega, fun d hd => ?_⟩
      rcases List.mem_cons.mp hd with rfl | hd
      · omega
      · exact h3 d hd
    · rintro ⟨h2, h3⟩
      exact ⟨by rw [h2, h3 c (List.mem_cons_self ..)], fun d hd => h3 d (List.mem_cons_of_mem _ hd)⟩
theorem intOf_zero {z : Str} (h : isNumber z = true) : intOf z = 0 ↔ ∀ c ∈ cd z, c = 48 := by
  unfold isNumber at h
  simp only [Bool.and_eq_true, decide_eq_true_eq] at h
  have h2 := fold_zero (cd z) 0 fun c hc => (digits_mem (List.all_eq_true.mp h.2.2 c hc)).1
  unfold intOf
  have h3 : NumText.digitsVal z.cps.toList = (cd z).foldl (fun acc c => acc * 10 + (c - 48)) 0 := rfl
  rw [h3]
  constructor
  · intro e
    exact (h2.mp (by omega)).2
  · intro e
    have := h2.mpr ⟨rfl, e⟩
    omega
theorem strip_zero (z : Str) : Txt.stripChars z "0" = "" ↔ ∀ c ∈ cd z, c = 48 := by
  have e0 : (Str.ofString "0").cps.contains = fun c => (c == 48) := by
    funext c
    have e : (Str.ofString "0").cps = #[48] := by decide +kernel
    rw [e]
    rw [Bool.eq_iff_iff]
    simp
  unfold Txt.stripChars
  rw [e0, stripBy_eq]
  have elo : stripLo (fun c => c == 48) true z = ((cd z).takeWhile fun c => c == 48).length := rfl
  have ehi : stripHi (fun c => c == 48) true z (stripLo (fun c => c == 48) true z) = z.length - (((cd z).drop (stripLo (fun c => c == 48) true z)).reverse.takeWhile fun c => c == 48).length := rfl
  rw [ehi, elo]
  have ln : z.length = (cd z).length := TL.len_tl z
  have happ := List.takeWhile_append_dropWhile (p := fun c : Nat => c == 48) (l := cd z)
  have hlen := congrArg List.length happ
  rw [List.length_append] at hlen
  have hdrop : (cd z).drop ((cd z).takeWhile fun c => c == 48).length = (cd z).dropWhile fun c => c == 48 := by
    have h1 := congrArg (List.drop ((cd z).takeWhile fun c : Nat => c == 48).length) happ
    rw [List.drop_left] at h1
    exact h1.symm
  rw [hdrop]
  have e0' : TL.tl "" = [] := by decide +kernel
  constructor
  · intro h c hc
    have ht := congrArg TL.tl h
    rw [TL.tl_strSub, e0'] at ht
    replace ht : ((cd z).drop ((cd z).takeWhile fun c => c == 48).length).take _ = [] := ht
    rw [hdrop] at ht
    cases hd : (cd z).dropWhile (fun c : Nat => c == 48) with
    | nil =>
      rw [hd, List.append_nil] at happ
      have h6 := List.all_takeWhile (p := fun c : Nat => c == 48) (l := cd z)
      rw [happ] at h6
      simpa using List.all_eq_true.mp h6 c hc
    | cons a r =>
      exfalso
      have ha : (a == 48) = false := by
        have h7 := List.head?_dropWhile_not (p := fun c : Nat => c == 48) (cd z)
        rw [hd] at h7
        simpa using h7
      rw [hd] at ht hlen
      have hk : ((a :: r).reverse.takeWhile fun c : Nat => c == 48).length ≤ r.length := by
        rcases Nat.lt_or_ge r.length ((a :: r).reverse.takeWhile fun c : Nat => c == 48).length with h8 | h8
        · exfalso
          have h9 := (List.takeWhile_prefix (p := fun c : Nat => c == 48) (l := (a :: r).reverse))
          have h10 : (a :: r).reverse.takeWhile (fun c : Nat => c == 48) = (a :: r).reverse := h9.eq_of_length_le (by rw [List.length_reverse, List.length_cons]; omega)
          have h11 := List.all_takeWhile (p := fun c : Nat => c == 48) (l := (a :: r).reverse)
          rw [h10] at h11
          have h12 := List.all_eq_true.mp h11 a (List.mem_reverse.mpr (List.mem_cons_self ..))
          rw [ha] at h12
          cases h12
        · exact h8
      rw [List.length_cons] at hlen
      have hpos : 1 ≤ z.length - ((a :: r).reverse.takeWhile fun c : Nat => c == 48).length - ((cd z).takeWhile fun c : Nat => c == 48).length := by omega
      cases hq : z.length - ((a :: r).reverse.takeWhile fun c : Nat => c == 48).length - ((cd z).takeWhile fun c : Nat => c == 48).length with
      | zero => omega
      | succ k =>
        rw [hq, List.take_succ_cons] at ht
        cases ht
  · intro h
    refine TL.ext_tl ?_
    rw [TL.tl_strSub, e0']
    show ((cd z).drop ((cd z).takeWhile fun c => c == 48).length).take _ = []
    have dw : ∀ l : List Nat, (∀ c ∈ l, c = 48) → l.dropWhile (fun c : Nat => c == 48) = [] := fun l => by
      induction l with
      | nil => intro _; rfl
      | cons a l ih =>
        intro hl
        have ea := hl a (List.mem_cons_self ..)
        subst ea
        exact ih fun c hc => hl c (List.mem_cons_of_mem _ hc)
    have h1 : (cd z).dropWhile (fun c : Nat => c == 48) = [] := dw _ h
    rw [hdrop, h1, List.take_nil]
/-! ### the two machines -/
/-- the name of the machine's state -/
def rho (s : LSt) : Str :=
  if s.2.1 = "" then (if s.1 = "s1" then "n1" else if s.1 = "s2" then "n2" else if s.1 = "r6" then "w1" else if s.1 = "w0" then "n3" else if s.1 = "w1" then "w2" else if s.1 = "w2" then "w3" else s.1)
  else fs s.2.1 (if s.2.1 = "sensor" then "right" else if s.2.2 = 0 then "left" else "right") (" " ++ s.1)
def lPlain : List Str := ["head", "u1", "u2", "end", "done", "m1", "t1", "t2", "s1", "s2", "r1", "r2", "r3", "r4", "r5", "r6", "w0", "w1", "w2", "b1"]
def lStates : List LSt := (lPlain.map fun s => (s, (("" : Str), (0 : Int)))) ++ ((["one", "step", "ask"] : List Str).flatMap fun k => ([0, 1] : List Int).flatMap fun d => (["first", "term", "number", "name", "at", "whole"] : List Str).map fun p => (p, (k, d))) ++ (["first", "term", "number", "name", "at", "whole"] : List Str).map fun p => (p, (("sensor" : Str), (0 : Int)))
def lits : List Str := ["unknowns", "moments", "start", "step", "steps", "sensor", "reading", "back", "ask", ":", "at", "=", "-", "+", "/", "'", "slack", "<=", ">=", ""]
def reps : List Str := ["7", "0", "q", "!"]
theorem bis_ok : lStates.all (fun s => (lits ++ reps).all fun z => match lStep s z with
    | none => decide (behL (look (rho s)) z = "")
    | some t => decide (t ∈ lStates) && decide (behL (look (rho s)) z = rho t)) = true := by decide +kernel
theorem rho_key : lStates.all (fun s => decide (rho s ∈ keys)) = true := by decide +kernel
def kinds : List Str := (["NUMBER", "BELOW", "NAME", "UNKNOWN", "END"] : List Str) ++ lits
theorem tbl_kinds : tbl.all (fun q => q.2.all fun r => decide (r.1 ∈ kinds)) = true := by decide +kernel
theorem behL_congr {z y : Str} (h : ∀ k ∈ kinds, wfits k z = wfits k y) : ∀ {l : List (Str × Str)}, (∀ r ∈ l, r.1 ∈ kinds) → behL l z = behL l y
  | [], _ => rfl
  | q :: r, hl => by
    rw [behL_cons, behL_cons, h _ (hl q (List.mem_cons_self ..)), behL_congr h fun x hx => hl x (List.mem_cons_of_mem _ hx)]
/-- two words that the machines cannot tell apart -/
structure Like (z y : Str) : Prop where
  num : isNumber z = isNumber y
  name : isName z = isName y
  zero : (isNumber z && decide (Txt.stripChars z "0" ≠ "")) = (isNumber y && decide (Txt.stripChars y "0" ≠ ""))
  nz : z ∉ lits
  ny : y ∉ lits
theorem notLit {z k : Str} (h : z ∉ lits) (hk : k ∈ lits) : decide (z = k) = false := decide_eq_false fun e => h (e ▸ hk)
theorem Like.unk {z y : Str} (h : Like z y) : isUnknown z = isUnknown y := by
  unfold isUnknown
  rw [h.name, notLit h.nz (by decide +kernel), notLit h.nz (by decide +kernel), notLit h.ny (by decide +kernel), notLit h.ny (by decide +kernel)]
theorem Like.free {z y : Str} (h : Like z y) : lFree z = lFree y := by
  have e : ∀ {x : Str}, x ∉ lits → decide (x ∈ (["at", "slack"] : List Str)) = false := fun {x} hx => decide_eq_false fun hm => by
    simp only [List.mem_cons, List.not_mem_nil, or_false] at hm
    rcases hm with rfl | rfl
    · exact hx (by decide +kernel)
    · exact hx (by decide +kernel)
  unfold lFree
  rw [h.name, e h.nz, e h.ny]
theorem wfits_lit {k z : Str} (hk : k ∈ lits) : wfits k z = decide (z = k) := by
  unfold wfits
  have n : ∀ c ∈ (["NUMBER", "BELOW", "NAME", "UNKNOWN", "END"] : List Str), ¬ k = c := fun c hc e => by
    have h2 : (["NUMBER", "BELOW", "NAME", "UNKNOWN", "END"] : List Str).all (fun c => decide (c ∉ lits)) = true := by decide +kernel
    have h3 := List.all_eq_true.mp h2 c hc
    rw [decide_eq_true_iff] at h3
    exact h3 (e ▸ hk)
  rw [if_neg (n _ (by decide +kernel)), if_neg (n _ (by decide +kernel)), if_neg (n _ (by decide +kernel)), if_neg (n _ (by decide +kernel)), if_neg (n _ (by decide +kernel))]
theorem Like.fits {z y : Str} (h : Like z y) : ∀ k ∈ kinds, wfits k z = wfits k y := fun k hk => by
  rcases List.mem_append.mp hk with hk | hk
  · have e1 := notLit h.nz (k := "") (by decide +kernel)
    have e2 := notLit h.ny (k := "") (by decide +kernel)
    have f : ∀ c : Str, wfits c z = wfits c y ∨ True := fun _ => .inr trivial
    unfold wfits
    rw [h.zero, h.num, h.name, h.unk, e1, e2]
    simp only [List.mem_cons, List.not_mem_nil, or_false] at hk
    rcases hk with rfl | rfl | rfl | rfl | rfl
    · rw [if_pos rfl, if_pos rfl]
    · rw [if_neg (by decide +kernel), if_pos rfl, if_neg (by decide +kernel), if_pos rfl]
    · rw [if_neg (by decide +kernel), if_neg (by decide +kernel), if_pos rfl, if_neg (by decide +kernel), if_neg (by decide +kernel), if_pos rfl]
    · rw [if_neg (by decide +kernel), if_neg (by decide +kernel), if_neg (by decide +kernel), if_pos rfl, if_neg (by decide +kernel), if_neg (by decide +kernel), if_neg (by decide +kernel), if_pos rfl]
    · rw [if_neg (by decide +kernel), if_neg (by decide +kernel), if_neg (by decide +kernel), if_neg (by decide +kernel), if_pos rfl, if_neg (by decide +kernel), if_neg (by decide +kernel), if_neg (by decide +kernel), if_neg (by decide +kernel), if_pos rfl]
  · rw [wfits_lit hk, wfits_lit hk, notLit h.nz hk, notLit h.ny hk]
theorem lFits_lit {k z : Str} (hk : k ∈ lits) : lFits k z = decide (z = k) := by
  unfold lFits
  have n : ∀ c ∈ (["NUMBER", "BELOW", "NAME", "FREE"] : List Str), ¬ k = c := fun c hc e => by
    have h2 : (["NUMBER", "BELOW", "NAME", "FREE"] : List Str).all (fun c => decide (c ∉ lits)) = true := by decide +kernel
    have h3 := List.all_eq_true.mp h2 c hc
    rw [decide_eq_true_iff] at h3
    exact h3 (e ▸ hk)
  rw [if_neg (n _ (by decide +kernel)), if_neg (n _ (by decide +kernel)), if_neg (n _ (by decide +kernel)), if_neg (n _ (by decide +kernel))]
def lkinds : List Str := (["NUMBER", "BELOW", "NAME", "FREE"] : List Str) ++ lits
theorem Like.lfits {z y : Str} (h : Like z y) : ∀ k ∈ lkinds, lFits k z = lFits k y := fun k hk => by
  rcases List.mem_append.mp hk with hk | hk
  · unfold lFits
    rw [h.zero, h.num, h.name, h.free]
    simp only [List.mem_cons, List.not_mem_nil, or_false] at hk
    rcases hk with rfl | rfl | rfl | rfl
    · rw [if_pos rfl, if_pos rfl]
    · rw [if_neg (by decide +kernel), if_pos rfl, if_neg (by decide +kernel), if_pos rfl]
    · rw [if_neg (by decide +kernel), if_neg (by decide +kernel), if_pos rfl, if_neg (by decide +kernel), if_neg (by decide +kernel), if_pos rfl]
    · rw [if_neg (by decide +kernel), if_neg (by decide +kernel), if_neg (by decide +kernel), if_pos rfl, if_neg (by decide +kernel), if_neg (by decide +kernel), if_neg (by decide +kernel), if_pos rfl]
  · rw [lFits_lit hk, lFits_lit hk, notLit h.nz hk, notLit h.ny hk]
theorem stepT_congr {z y s : Str} (h : ∀ k ∈ lkinds, lFits k z = lFits k y) : ∀ {l : List (Str × Str × Str)}, (∀ r ∈ l, r.2.1 ∈ lkinds) → lStepT l s z = lStepT l s y
  | [], _ => rfl
  | q :: r, hl => by
    rw [lStepT, lStepT, h _ (hl q (List.mem_cons_self ..)), stepT_congr h fun x hx => hl x (List.mem_cons_of_mem _ hx)]
theorem stepO_none {z s : Str} (h : z ∉ lits) : ∀ {l : List (Str × Str × Str)}, (∀ r ∈ l, r.2.1 ∈ lits) → lStepO l s z = none
  | [], _ => rfl
  | q :: r, hl => by
    rw [lStepO, if_neg (fun e : s = q.1 ∧ z = q.2.1 => h (e.2 ▸ hl q (List.mem_cons_self ..))), stepO_none h fun x hx => hl x (List.mem_cons_of_mem _ hx)]
theorem inForm_lit {z : Str} (h : z ∉ lits) (s : LSt) : lInForm s z = (if s.1 = "at" then (if isNumber z = true then some (("whole" : Str), s.2.1, s.2.2) else none)
    else if s.1 = "first" ∨ s.1 = "term" then (if isNumber z = true then some (("number" : Str), s.2.1, s.2.2) else if lFree z = true then some (("name" : Str), s.2.1, s.2.2) else none)
    else if s.1 = "number" ∧ lFree z = true then some (("name" : Str), s.2.1, s.2.2) else none) := by
  have n : ∀ k ∈ lits, ¬ z = k := fun k hk e => h (e ▸ hk)
  have nb : lBehind s.2.1 s.2.2 z = none := by
    unfold lBehind
    rw [if_neg (fun e => e.elim (n _ (by decide +kernel)) (n _ (by decide +kernel))), if_neg (n "slack" (by decide +kernel)), if_neg (fun e : s.2.2 = 1 ∧ z = "" => n _ (by decide +kernel) e.2)]
    split
    · rfl
    · rw [if_neg]
      rintro ⟨_, e⟩
      split at e <;> simp only [List.mem_cons, List.not_mem_nil, or_false] at e
      · rcases e with e | e
        · exact n _ (by decide +kernel) e
        · exact n _ (by decide +kernel) e
      · rcases e with e | e | e
        · exact n _ (by decide +kernel) e
        · exact n _ (by decide +kernel) e
        · exact n _ (by decide +kernel) e
  unfold lInForm
  rw [nb, if_neg (fun e : s.1 = "first" ∧ z = "-" => n _ (by decide +kernel) e.2), if_neg (n "at" (by decide +kernel)), if_neg (fun e : s.1 = "name" ∧ s.2.1 = "step" ∧ z = "'" => n _ (by decide +kernel) e.2.2)]
  simp only [ite_self]
theorem Like.step {z y : Str} (h : Like z y) (s : LSt) : lStep s z = lStep s y := by
  unfold lStep
  rw [inForm_lit h.nz, inForm_lit h.ny, h.num, h.free, stepO_none h.nz (by decide +kernel), stepO_none h.ny (by decide +kernel), stepT_congr h.lfits (by decide +kernel)]
theorem exc_name {z : Str} (h : isNumber z = true) : isName z = false := by
  cases e : isName z with
  | false => rfl
  | true =>
    exfalso
    unfold isNumber at h
    unfold isName at e
    simp only [Bool.and_eq_true, decide_eq_true_eq] at h e
    obtain ⟨c, hc⟩ : ∃ c, z.cps.toList.head? = some c := by
      cases e2 : z.cps.toList.head? with
      | none => rw [e2] at e; exact absurd e.2.2.1 (by decide)
      | some c => exact ⟨c, rfl⟩
    have h1 : isL c = true := by
      have := e.2.2.1
      rw [hc] at this
      exact this
    have h2 : isD c = true := List.all_eq_true.mp h.2.2 c (List.mem_of_mem_head? hc)
    have h3 : digitsS.cps.toList.all (fun c => !isL c) = true := by decide +kernel
    have h4 := List.all_eq_true.mp h3 c (of_decide_eq_true h2)
    rw [h1] at h4
    cases h4
/-- every word is like one of a few -/
theorem like_rep (z : Str) : z ∈ lits ∨ ∃ y ∈ reps, Like z y := by
  by_cases hz : z ∈ lits
  · exact .inl hz
  · refine .inr ?_
    have n7 : isNumber "7" = true := by decide +kernel
    have n0 : isNumber "0" = true := by decide +kernel
    have m7 : isName "7" = false := by decide +kernel
    have m0 : isName "0" = false := by decide +kernel
    have nq : isNumber "q" = false := by decide +kernel
    have mq : isName "q" = true := by decide +kernel
    have nx : isNumber "!" = false := by decide +kernel
    have mx : isName "!" = false := by decide +kernel
    cases hn : isNumber z with
    | true =>
      by_cases hs : Txt.stripChars z "0" = ""
      · refine ⟨"0", by decide +kernel, by rw [hn, n0], by rw [exc_name hn, m0], ?_, hz, by decide +kernel⟩
        have e : Txt.stripChars "0" "0" = "" := (strip_zero "0").mpr (by decide +kernel)
        rw [hn, n0, hs, e]
      · refine ⟨"7", by decide +kernel, by rw [hn, n7], by rw [exc_name hn, m7], ?_, hz, by decide +kernel⟩
        have e : ¬ Txt.stripChars "7" "0" = "" := fun h => absurd ((strip_zero "7").mp h) (by decide +kernel)
        rw [hn, n7, decide_eq_true hs, decide_eq_true e]
    | false =>
      cases hm : isName z with
      | true => exact ⟨"q", by decide +kernel, by rw [hn, nq], by rw [hm, mq], by rw [hn, nq, Bool.false_and, Bool.false_and], hz, by decide +kernel⟩
      | false => exact ⟨"!", by decide +kernel, by rw [hn, nx], by rw [hm, mx], by rw [hn, nx, Bool.false_and, Bool.false_and], hz, by decide +kernel⟩
/-- THE BISIMULATION -/
theorem bis {s : LSt} (hs : s ∈ lStates) (z : Str) : (lStep s z = none ∧ behL (look (rho s)) z = "") ∨ ∃ t, lStep s z = some t ∧ t ∈ lStates ∧ behL (look (rho s)) z = rho t := by
  have main : ∀ y ∈ lits ++ reps, (lStep s y = none ∧ behL (look (rho s)) y = "") ∨ ∃ t, lStep s y = some t ∧ t ∈ lStates ∧ behL (look (rho s)) y = rho t := fun y hy => by
    have h1 := List.all_eq_true.mp (List.all_eq_true.mp bis_ok s hs) y hy
    cases e : lStep s y with
    | none =>
      rw [e] at h1
      exact .inl ⟨rfl, of_decide_eq_true h1⟩
    | some t =>
      rw [e] at h1
      simp only [Bool.and_eq_true, decide_eq_true_eq] at h1
      exact .inr ⟨t, rfl, h1.1, h1.2⟩
  rcases like_rep z with hz | ⟨y, hy, L⟩
  · exact main z (List.mem_append_left _ hz)
  · have hk : rho s ∈ keys := by
      have h2 := List.all_eq_true.mp rho_key s hs
      simpa using h2
    have hkk : ∀ r ∈ look (rho s), r.1 ∈ kinds := fun r hr => by
      have h3 := List.all_eq_true.mp tbl_kinds _ (key_in hk)
      have h4 := List.all_eq_true.mp h3 r hr
      simpa using h4
    rw [L.step s, behL_congr L.fits hkk]
    exact main y (List.mem_append_right _ hy)
end K31
set_option Elab.async false
set_option linter.all false
set_option maxRecDepth 100000
set_option maxHeartbeats 4000000
namespace K31
open PySem PySem.Spec PyProof.Rows L2
/-! plain: the parser goes as the law's walk does, and reads as the law reads -/
/-- the law's walk over words with spots: the spot of the first wrong one -/
def runF : LSt → List Tok2 → Option Nat
  | _, [] => none
  | s, q :: r => match lStep s q.2 with
    | some t => runF t r
    | none => some q.1
theorem fault_run : ∀ {r : List Tok2} {s : LSt}, s ∈ lStates → faultL (rho s) r = runF s r
  | [], s, _ => rfl
  | q :: r, s, hs => by
    rw [faultL_cons, runF]
    rcases bis hs q.2 with ⟨h1, h2⟩ | ⟨t, h1, h2, h3⟩
    · rw [h1, h2, if_pos rfl]
    · have hk : rho t ∈ keys := by
        have h4 := List.all_eq_true.mp rho_key t h2
        simpa using h4
      rw [h1, h3, if_neg (fun e : rho t = "" => noKey (by rw [e] at hk; exact hk))]
      exact fault_run h2
/-- how far the law's walk goes -/
theorem walk_run : ∀ (r : List Tok2) (s : LSt) (n : Nat), (runF s r = none ∧ lWalkN s (r.map (·.2)) n = n + r.length) ∨ ∃ i q, r[i]? = some q ∧ runF s r = some q.1 ∧ lWalkN s (r.map (·.2)) n = n + i ∧ i < r.length
  | [], s, n => .inl ⟨rfl, rfl⟩
  | q :: r, s, n => by
    rw [runF, List.map_cons, lWalkN]
    cases e : lStep s q.2 with
    | none => exact .inr ⟨0, q, rfl, rfl, rfl, Nat.succ_pos _⟩
    | some t =>
      rcases walk_run r t (n + 1) with ⟨h1, h2⟩ | ⟨i, q2, h1, h2, h3, h4⟩
      · refine .inl ⟨h1, ?_⟩
        rw [List.length_cons]
        show lWalkN t (r.map (·.2)) (n + 1) = _
        rw [h2]
        omega
      · refine .inr ⟨i + 1, q2, h1, h2, ?_, Nat.succ_lt_succ h4⟩
        show lWalkN t (r.map (·.2)) (n + 1) = _
        rw [h3]
        omega
theorem run_good {s : LSt} {r : List Tok2} (g : Good r) : runF s r = (match lStep s (wd r) with
    | some t => runF t r.tail
    | none => some (spt r)) := by
  rw [g.cons, runF]
  rfl
theorem run_yes {s t : LSt} {r : List Tok2} (g : Good r) (h : lStep s (wd r) = some t) : runF s r = runF t r.tail := by rw [run_good g, h]
theorem run_no {s : LSt} {r : List Tok2} (g : Good r) (h : lStep s (wd r) = none) : runF s r = some (spt r) := by rw [run_good g, h]
/-! ### consumed words -/
abbrev wds (c : List Tok2) : List Str := c.map (·.2)
/-- words within a form: no comparison, no slack -/
def Inn (c : List Tok2) : Prop := ∀ z ∈ wds c, ¬ isSign z ∧ z ≠ "slack"
theorem Inn.app {c d : List Tok2} (h : Inn c) (g : Inn d) : Inn (c ++ d) := fun z hz => by
  rw [wds, List.map_append] at hz
  rcases List.mem_append.mp hz with hz | hz
  · exact h z hz
  · exact g z hz
theorem Inn.nil : Inn [] := fun z hz => by cases hz
theorem inn_one {q : Tok2} (h : ¬ isSign q.2 ∧ q.2 ≠ "slack") : Inn [q] := fun z hz => by
  rw [show z = q.2 from List.mem_singleton.mp hz]
  exact h
theorem num_inn {z : Str} (h : isNumber z = true) : ¬ isSign z ∧ z ≠ "slack" := ⟨fun hs => by
  unfold isSign at hs
  simp only [List.mem_cons, List.not_mem_nil, or_false] at hs
  rcases hs with e | e | e <;> rw [e] at h <;> exact absurd h (by decide +kernel), fun e => by
  rw [e] at h
  exact absurd h (by decide +kernel)⟩
theorem unk_inn {z : Str} (h : isUnknown z = true) : ¬ isSign z ∧ z ≠ "slack" := ⟨fun hs => by
  unfold isSign at hs
  simp only [List.mem_cons, List.not_mem_nil, or_false] at hs
  rcases hs with e | e | e <;> rw [e] at h <;> exact absurd h (by decide +kernel), fun e => by
  rw [e] at h
  exact absurd h (by decide +kernel)⟩
/-- a term's words, read by the law from a fresh term on -/
def TC (c : List Tok2) (t : Int) (v : TermV) : Prop := ∀ (found : List TermV) (last : Str), last ≠ "at" → ∃ s, (wds c).foldl tmStep ⟨found, t, "", "", 0, last⟩ = s ∧ s.found = found ∧ tmEnd s = found ++ [v]
theorem free_unk (z : Str) : lFree z = isUnknown z := by
  unfold lFree isUnknown
  congr 1
  have e : decide (z ∈ (["at", "slack"] : List Str)) = (decide (z = "at") || decide (z = "slack")) := by
    rw [Bool.eq_iff_iff]
    simp
  rw [e, Bool.not_or]
theorem unk_name {z : Str} (h : isUnknown z = true) : isName z = true ∧ z ≠ "at" ∧ z ≠ "slack" := by
  unfold isUnknown at h
  simp only [Bool.and_eq_true, Bool.not_eq_true', decide_eq_false_iff_not] at h
  exact ⟨h.1, h.2.1, h.2.2⟩
theorem unk_num {z : Str} (h : isUnknown z = true) : isNumber z = false := by
  cases e : isNumber z with
  | false => rfl
  | true =>
    have := (unk_name h).1
    rw [exc_name e] at this
    cases this
/-- unknown names are no literals -/
theorem unk_ne {z k : Str} (h : isUnknown z = true) (hk : isUnknown k = false) : ¬ z = k := fun e => by
  rw [e, hk] at h
  cases h
theorem num_ne {z k : Str} (h : isNumber z = true) (hk : isNumber k = false) : ¬ z = k := fun e => by
  rw [e, hk] at h
  cases h
theorem tm_num {s : TmS} {z : Str} (h : isNumber z = true) (hl : s.last ≠ "at") : tmStep s z = { s with num := z, last := z } := by
  unfold tmStep
  rw [if_neg (fun e => e.elim (num_ne h (by decide +kernel)) (num_ne h (by decide +kernel))), if_neg (num_ne h (by decide +kernel)), if_neg (fun e => hl e.2), if_pos h]
theorem tm_place {s : TmS} {z : Str} (h : isNumber z = true) (hl : s.last = "at") : tmStep s z = { s with place := intOf z, last := z } := by
  unfold tmStep
  rw [if_neg (fun e => e.elim (num_ne h (by decide +kernel)) (num_ne h (by decide +kernel))), if_neg (num_ne h (by decide +kernel)), if_pos ⟨h, hl⟩]
theorem tm_name {s : TmS} {z : Str} (h : isUnknown z = true) : tmStep s z = { s with name := z, last := z } := by
  have hn := unk_num h
  unfold tmStep
  rw [if_neg (fun e => e.elim (unk_ne h (by decide +kernel)) (unk_ne h (by decide +kernel))), if_neg (unk_ne h (by decide +kernel)), if_neg (fun e => by rw [hn] at e; cases e.1), if_neg (by rw [hn]; exact Bool.false_ne_true), if_pos (unk_name h).2.1]
theorem tm_quote {s : TmS} : tmStep s "'" = { s with place := 1, last := "'" } := by
  unfold tmStep
  rw [if_neg (by decide +kernel), if_pos rfl]
theorem tm_at {s : TmS} : tmStep s "at" = { s with last := "at" } := by
  unfold tmStep
  rw [if_neg (by decide +kernel), if_neg (by decide +kernel), if_neg (fun e => absurd e.1 (by decide +kernel)), if_neg (by decide +kernel), if_neg (by decide +kernel)]
/-- the state behind a term: what comes is what may come behind -/
def Behind (e : LSt) (kind : Str) (d : Int) (z : Str) : Prop := lStep e z = lBehind kind d z
theorem step_form {s : LSt} (h : s.2.1 ≠ "") (z : Str) : lStep s z = lInForm s z := by
  unfold lStep
  rw [if_pos h]
/-! ### steps of forms -/
abbrev stt (p kind : Str) (d : Int) : LSt := (p, kind, d)
theorem inF (p k : Str) (d : Int) (z : Str) : lInForm (stt p k d) z = (if p = "at" then (if isNumber z = true then some (stt "whole" k d) else none)
  else if p = "first" ∨ p = "term" then
    (if p = "first" ∧ z = "-" then some (stt "term" k d)
    else if isNumber z = true then some (stt "number" k d)
    else if lFree z = true then some (stt "name" k d) else none)
  else if p = "number" ∧ lFree z = true then some (stt "name" k d)
  else if p = "number" ∧ k = "sensor" then none
  else if p = "name" ∧ k = "ask" then (if z = "at" then some (stt "at" k d) else none)
  else if p = "name" ∧ k = "step" ∧ z = "'" then some (stt "whole" k d)
  else lBehind k d z) := rfl
section
variable {kind : Str} {d : Int} {z : Str}
theorem in_minus (hk : kind ≠ "") : lStep (stt "first" kind d) "-" = some (stt "term" kind d) := by
  rw [step_form hk, inF, if_neg (by decide +kernel), if_pos (.inl rfl), if_pos ⟨rfl, rfl⟩]
theorem in_term (hk : kind ≠ "") : lStep (stt "term" kind d) z = (if isNumber z = true then some (stt "number" kind d) else if isUnknown z = true then some (stt "name" kind d) else none) := by
  rw [step_form hk, inF, if_neg (by decide +kernel), if_pos (.inr rfl), if_neg (fun e : ("term" : Str) = "first" ∧ z = "-" => absurd e.1 (by decide +kernel)), free_unk]
theorem in_first (hk : kind ≠ "") (hm : ¬ z = "-") : lStep (stt "first" kind d) z = lStep (stt "term" kind d) z := by
  rw [in_term hk, step_form hk, inF, if_neg (by decide +kernel), if_pos (.inl rfl), if_neg (fun e : ("first" : Str) = "first" ∧ z = "-" => hm e.2), free_unk]
theorem in_number (hk : kind ≠ "") : lStep (stt "number" kind d) z = (if isUnknown z = true then some (stt "name" kind d) else if kind = "sensor" then none else lBehind kind d z) := by
  rw [step_form hk, inF, if_neg (by decide +kernel), if_neg (by decide +kernel), free_unk]
  by_cases h1 : isUnknown z = true
  · rw [if_pos ⟨rfl, h1⟩, if_pos h1]
  · rw [if_neg (fun e : ("number" : Str) = "number" ∧ isUnknown z = true => h1 e.2), if_neg h1]
    by_cases h2 : kind = "sensor"
    · rw [if_pos ⟨rfl, h2⟩, if_pos h2]
    · rw [if_neg (fun e : ("number" : Str) = "number" ∧ kind = "sensor" => h2 e.2), if_neg h2, if_neg (fun e : ("number" : Str) = "name" ∧ kind = "ask" => absurd e.1 (by decide +kernel)), if_neg (fun e : ("number" : Str) = "name" ∧ kind = "step" ∧ z = "'" => absurd e.1 (by decide +kernel))]
theorem in_name (hk : kind ≠ "") : lStep (stt "name" kind d) z = (if kind = "ask" then (if z = "at" then some (stt "at" kind d) else none) else if kind = "step" ∧ z = "'" then some (stt "whole" kind d) else lBehind kind d z) := by
  rw [step_form hk, inF, if_neg (by decide +kernel), if_neg (by decide +kernel), if_neg (fun e : ("name" : Str) = "number" ∧ lFree z = true => absurd e.1 (by decide +kernel)), if_neg (fun e : ("name" : Str) = "number" ∧ kind = "sensor" => absurd e.1 (by decide +kernel))]
  by_cases h1 : kind = "ask"
  · rw [if_pos ⟨rfl, h1⟩, if_pos h1]
  · rw [if_neg (fun e : ("name" : Str) = "name" ∧ kind = "ask" => h1 e.2), if_neg h1]
    by_cases h2 : kind = "step" ∧ z = "'"
    · rw [if_pos ⟨rfl, h2⟩, if_pos h2]
    · rw [if_neg (fun e : ("name" : Str) = "name" ∧ kind = "step" ∧ z = "'" => h2 e.2), if_neg h2]
theorem in_at (hk : kind ≠ "") : lStep (stt "at" kind d) z = (if isNumber z = true then some (stt "whole" kind d) else none) := by
  rw [step_form hk, inF, if_pos rfl]
theorem in_whole (hk : kind ≠ "") : lStep (stt "whole" kind d) z = lBehind kind d z := by
  rw [step_form hk, inF, if_neg (by decide +kernel), if_neg (by decide +kernel), if_neg (fun e : ("whole" : Str) = "number" ∧ lFree z = true => absurd e.1 (by decide +kernel)), if_neg (fun e : ("whole" : Str) = "number" ∧ kind = "sensor" => absurd e.1 (by decide +kernel)), if_neg (fun e : ("whole" : Str) = "name" ∧ kind = "ask" => absurd e.1 (by decide +kernel)), if_neg (fun e : ("whole" : Str) = "name" ∧ kind = "step" ∧ z = "'" => absurd e.1 (by decide +kernel))]
end
/-! ### terms -/
theorem tc_end {found : List TermV} {t : Int} {num name : Str} {place : Int} {last : Str} (h : num ≠ "" ∨ name ≠ "") : tmEnd ⟨found, t, num, name, place, last⟩ = found ++ [(t * (if num ≠ "" then intOf num else 1), name, place)] := by
  unfold tmEnd
  rw [if_pos h]
/-- what the parser's term tells, behind a number or none -/
theorem termT_law {kind : Str} {d t n : Int} {rest : List Tok2} (hk : kind ≠ "") (g : Good rest) {e0 : LSt} (h0 : ∀ z, isUnknown z = true → lStep e0 z = some (stt "name" kind d)) (h1 : isUnknown (wd rest) = false → lStep e0 (wd rest) = none) {num : Str} (hn : n = if num ≠ "" then intOf num else 1) :
    (∀ v r, mTermT kind t n rest = .ok (v, r) → ∃ e c, runF e0 rest = runF e r ∧ Behind e kind d (wd r) ∧ Good r ∧ rest = c ++ r ∧ Inn c ∧
      ∀ (found : List TermV) (last : Str), ∃ s, (wds c).foldl tmStep ⟨found, t, num, "", 0, last⟩ = s ∧ s.found = found ∧ tmEnd s = found ++ [v]) ∧
    ∀ s, mTermT kind t n rest = .error s → runF e0 rest = some s := by
  unfold mTermT mIf
  by_cases hu : isUnknown (wd rest) = true
  · rw [if_pos hu]
    have s0 := run_yes g (h0 _ hu)
    have g1 := g.tail (unknown_ne hu)
    have hname : wd rest ≠ "" := unknown_ne hu
    show (∀ v r, (if kind = "step" ∧ wd rest.tail = "'" then _ else _ : PR TermV) = .ok (v, r) → _) ∧ ∀ s, (if kind = "step" ∧ wd rest.tail = "'" then _ else _ : PR TermV) = .error s → _
    by_cases hq : kind = "step" ∧ wd rest.tail = "'"
    · rw [if_pos hq]
      refine ⟨fun v r h => ?_, fun s h => by cases h⟩
      cases h
      have hne : wd rest.tail ≠ "" := by rw [hq.2]; decide +kernel
      have s1 : lStep (stt "name" kind d) (wd rest.tail) = some (stt "whole" kind d) := by
        rw [in_name hk, if_neg (fun e => by rw [e] at hq; exact absurd hq.1 (by decide +kernel)), if_pos hq]
      refine ⟨stt "whole" kind d, [(spt rest, wd rest), (spt rest.tail, wd rest.tail)], by rw [s0, run_yes g1 s1], in_whole hk, g1.tail hne, ?_, ?_, fun found last => ?_⟩
      · rw [List.cons_append, List.cons_append, List.nil_append, ← g1.cons, ← g.cons]
      · refine Inn.app (c := [_]) (d := [_]) (inn_one (unk_inn hu)) (inn_one ?_)
        show ¬ isSign (wd rest.tail) ∧ wd rest.tail ≠ "slack"
        rw [hq.2]
        exact ⟨by unfold isSign; decide +kernel, by decide +kernel⟩
      · refine ⟨_, rfl, ?_⟩
        show ((tmStep (tmStep _ (wd rest)) (wd rest.tail)).found = _) ∧ tmEnd (tmStep (tmStep _ (wd rest)) (wd rest.tail)) = _
        rw [tm_name hu, hq.2, tm_quote]
        exact ⟨rfl, by rw [tc_end (.inr hname), hn]⟩
    · rw [if_neg hq]
      by_cases ha : kind = "ask"
      · rw [if_pos ha]
        unfold mOne
        have hn0 : lStep (stt "name" kind d) (wd rest.tail) = (if wd rest.tail = "at" then some (stt "at" kind d) else none) := by
          rw [in_name hk, if_pos ha]
        by_cases hat : wd rest.tail = "at"
        · rw [if_pos hat] at hn0
          rw [if_pos (by rw [hat]; decide +kernel)]
          have s1 := run_yes g1 hn0
          have g2 := g1.tail (by rw [hat]; decide +kernel)
          show (∀ v r, andThen (mNum rest.tail.tail) _ = .ok (v, r) → _) ∧ ∀ s, andThen (mNum rest.tail.tail) _ = .error s → _
          unfold mNum
          by_cases hm : isNumber (wd rest.tail.tail) = true
          · rw [if_pos hm]
            refine ⟨fun v r h => ?_, fun s h => by cases h⟩
            cases h
            have s2 : lStep (stt "at" kind d) (wd rest.tail.tail) = some (stt "whole" kind d) := by rw [in_at hk, if_pos hm]
            refine ⟨stt "whole" kind d, [(spt rest, wd rest), (spt rest.tail, wd rest.tail), (spt rest.tail.tail, wd rest.tail.tail)], by rw [s0, s1, run_yes g2 s2], in_whole hk, g2.tail (number_ne hm), ?_, ?_, fun found last => ?_⟩
            · rw [List.cons_append, List.cons_append, List.cons_append, List.nil_append, ← g2.cons, ← g1.cons, ← g.cons]
            · refine Inn.app (c := [_]) (d := [_, _]) (inn_one (unk_inn hu)) (Inn.app (c := [_]) (d := [_]) (inn_one ?_) (inn_one (num_inn hm)))
              show ¬ isSign (wd rest.tail) ∧ wd rest.tail ≠ "slack"
              rw [hat]
              exact ⟨by unfold isSign; decide +kernel, by decide +kernel⟩
            · refine ⟨_, rfl, ?_⟩
              show ((tmStep (tmStep (tmStep _ (wd rest)) (wd rest.tail)) (wd rest.tail.tail)).found = _) ∧ tmEnd (tmStep (tmStep (tmStep _ (wd rest)) (wd rest.tail)) (wd rest.tail.tail)) = _
              rw [tm_name hu, hat, tm_at, tm_place hm rfl]
              exact ⟨rfl, by rw [tc_end (.inr hname), hn]⟩
          · rw [if_neg hm]
            refine ⟨fun v r h => (by cases h), fun s h => ?_⟩
            cases h
            rw [s0, s1, run_no g2 (by rw [in_at hk, if_neg hm])]
        · rw [if_neg hat] at hn0
          rw [if_neg (fun e => hat (List.mem_singleton.mp e))]
          refine ⟨fun v r h => (by cases h), fun s h => ?_⟩
          cases h
          rw [s0, run_no g1 hn0]
      · rw [if_neg ha]
        refine ⟨fun v r h => ?_, fun s h => by cases h⟩
        cases h
        refine ⟨stt "name" kind d, [(spt rest, wd rest)], s0, by unfold Behind; rw [in_name hk, if_neg ha, if_neg hq], g1, by rw [List.cons_append, List.nil_append, ← g.cons], inn_one (unk_inn hu), fun found last => ?_⟩
        refine ⟨_, rfl, ?_⟩
        show ((tmStep _ (wd rest)).found = _) ∧ tmEnd (tmStep _ (wd rest)) = _
        rw [tm_name hu]
        exact ⟨rfl, by rw [tc_end (.inr hname), hn]⟩
  · rw [if_neg hu]
    refine ⟨fun v r h => (by cases h), fun s h => ?_⟩
    cases h
    exact run_no g (h1 (Bool.eq_false_iff.mpr hu))
end K31
set_option Elab.async false
set_option linter.all false
set_option maxRecDepth 100000
set_option maxHeartbeats 4000000
namespace K31
open PySem PySem.Spec PyProof.Rows L2
/-! plain: forms -/
section
variable {kind : Str} {d : Int}
theorem term_law {t : Int} {rest : List Tok2} (hk : kind ≠ "") (g : Good rest) :
    (∀ v r, mTerm kind t rest = .ok (v, r) → ∃ e c, runF (stt "term" kind d) rest = runF e r ∧ Behind e kind d (wd r) ∧ Good r ∧ rest = c ++ r ∧ Inn c ∧ TC c t v) ∧
    ∀ s, mTerm kind t rest = .error s → runF (stt "term" kind d) rest = some s := by
  unfold mTerm mNum
  by_cases hn : isNumber (wd rest) = true
  · rw [if_pos hn, if_pos hn]
    have s0 : runF (stt "term" kind d) rest = runF (stt "number" kind d) rest.tail := run_yes g (by rw [in_term hk, if_pos hn])
    have g1 := g.tail (number_ne hn)
    have hne := number_ne hn
    show (∀ v r, (if kind ≠ "sensor" ∧ isUnknown (wd rest.tail) = false then _ else _ : PR TermV) = .ok (v, r) → _) ∧ ∀ s, (if kind ≠ "sensor" ∧ isUnknown (wd rest.tail) = false then _ else _ : PR TermV) = .error s → _
    by_cases hc : kind ≠ "sensor" ∧ isUnknown (wd rest.tail) = false
    · rw [if_pos hc]
      refine ⟨fun v r h => ?_, fun s h => by cases h⟩
      cases h
      refine ⟨stt "number" kind d, [(spt rest, wd rest)], s0, by unfold Behind; rw [in_number hk, hc.2, if_neg Bool.false_ne_true, if_neg hc.1], g1, by rw [List.cons_append, List.nil_append, ← g.cons], inn_one (num_inn hn), fun found last hl => ?_⟩
      refine ⟨_, rfl, ?_⟩
      show ((tmStep _ (wd rest)).found = _) ∧ tmEnd (tmStep _ (wd rest)) = _
      rw [tm_num hn hl]
      exact ⟨rfl, by rw [tc_end (.inl hne), if_pos hne]⟩
    · rw [if_neg hc]
      have L := termT_law (d := d) (t := t) (n := intOf (wd rest)) hk g1 (e0 := stt "number" kind d) (fun z hz => by rw [in_number hk, if_pos hz]) (fun hz => by
        rw [in_number hk, hz, if_neg Bool.false_ne_true]
        by_cases hs : kind = "sensor"
        · rw [if_pos hs]
        · exact absurd ⟨hs, hz⟩ hc) (num := wd rest) (by rw [if_pos hne])
      refine ⟨fun v r h => ?_, fun s h => by rw [s0]; exact L.2 s h⟩
      obtain ⟨e, c, l1, l2, l3, l4, l5, l6⟩ := L.1 v r h
      refine ⟨e, (spt rest, wd rest) :: c, by rw [s0, l1], l2, l3, by rw [List.cons_append, ← l4, ← g.cons], Inn.app (c := [_]) (inn_one (num_inn hn)) l5, fun found last hl => ?_⟩
      obtain ⟨s, e1, e2, e3⟩ := l6 found (wd rest)
      refine ⟨s, ?_, e2, e3⟩
      show (wds c).foldl tmStep (tmStep _ (wd rest)) = s
      rw [tm_num hn hl]
      exact e1
  · rw [if_neg hn]
    have hn' := Bool.eq_false_iff.mpr hn
    have L := termT_law (d := d) (t := t) (n := 1) hk g (e0 := stt "term" kind d) (fun z hz => by rw [in_term hk, unk_num hz, if_neg Bool.false_ne_true, if_pos hz]) (fun hz => by rw [in_term hk, if_neg hn, hz, if_neg Bool.false_ne_true]) (num := "") (by rw [if_neg (not_not_intro rfl)])
    refine ⟨fun v r h => ?_, L.2⟩
    obtain ⟨e, c, l1, l2, l3, l4, l5, l6⟩ := L.1 v r h
    exact ⟨e, c, l1, l2, l3, l4, l5, fun found last _ => l6 found last⟩
theorem more_law (hk : kind ≠ "") : ∀ (n : Nat) (acc : List TermV) (r : List Tok2) (e : LSt), r.length ≤ n → Good r → Behind e kind d (wd r) →
    (∀ ts r', mMore kind n acc r = .ok (ts, r') → ∃ e' c, runF e r = runF e' r' ∧ Behind e' kind d (wd r') ∧ ¬ (wd r' = "+" ∨ wd r' = "-") ∧ Good r' ∧ r = c ++ r' ∧ Inn c ∧ ∀ s, tmEnd s = acc → tmEnd ((wds c).foldl tmStep s) = ts) ∧
    ∀ s, mMore kind n acc r = .error s → runF e r = some s
  | 0, acc, r, e, hl, g, hb => by
    exfalso
    have h1 := g.ne
    cases r with
    | nil => exact h1 rfl
    | cons a l => rw [List.length_cons] at hl; omega
  | n + 1, acc, r, e, hl, g, hb => by
    rw [mMore]
    by_cases hp : wd r = "+" ∨ wd r = "-"
    · rw [if_pos hp]
      have hstep : lStep e (wd r) = some (stt "term" kind d) := by
        rw [hb]
        unfold lBehind
        rw [if_pos hp]
      have s0 := run_yes g hstep
      have hne : wd r ≠ "" := by rcases hp with e1 | e1 <;> rw [e1] <;> decide +kernel
      have g1 := g.tail hne
      have L := term_law (d := d) (t := if wd r = "+" then 1 else -1) hk g1
      have er : r.length = r.tail.length + 1 := by rw [g.cons] <;> rfl
      cases hm : mTerm kind (if wd r = "+" then 1 else -1) r.tail with
      | error s =>
        refine ⟨fun ts r' h => (by cases h), fun s2 h => ?_⟩
        cases h
        rw [s0]
        exact L.2 s hm
      | ok p =>
        obtain ⟨v, r2⟩ := p
        obtain ⟨e1, c, l1, l2, l3, l4, l5, l6⟩ := L.1 v r2 hm
        have l7 := mTerm_len hm
        have M := more_law hk n (acc ++ [v]) r2 e1 (by omega) l3 l2
        refine ⟨fun ts r' h => ?_, fun s2 h => by rw [s0, l1]; exact M.2 s2 h⟩
        obtain ⟨e2, c2, k1, k2, k3, k4, k5, k6, k7⟩ := M.1 ts r' h
        refine ⟨e2, (spt r, wd r) :: (c ++ c2), by rw [s0, l1, k1], k2, k3, k4, ?_, ?_, fun s hs => ?_⟩
        · rw [List.cons_append, List.append_assoc, ← k5, ← l4, ← g.cons]
        · refine Inn.app (c := [_]) (inn_one ?_) (l5.app k6)
          show ¬ isSign (wd r) ∧ wd r ≠ "slack"
          rcases hp with e3 | e3 <;> rw [e3] <;> exact ⟨by unfold isSign; decide +kernel, by decide +kernel⟩
        · show tmEnd ((wds (c ++ c2)).foldl tmStep (tmStep s (wd r))) = ts
          have es : tmStep s (wd r) = ⟨acc, (if wd r = "+" then 1 else -1), "", "", 0, wd r⟩ := by
            unfold tmStep
            rw [if_pos hp, hs]
          rw [es, wds, List.map_append, List.foldl_append]
          obtain ⟨s2, f1, f2, f3⟩ := l6 acc (wd r) (by rcases hp with e3 | e3 <;> rw [e3] <;> decide +kernel)
          rw [f1]
          exact k7 s2 f3
    · rw [if_neg hp]
      refine ⟨fun ts r' h => ?_, fun s h => by cases h⟩
      cases h
      exact ⟨e, [], rfl, hb, hp, g, rfl, .nil, fun s hs => hs⟩
theorem lTerms_end (ws : List Str) : lTerms ws = tmEnd (ws.foldl tmStep tm0) := by
  unfold lTerms
  rw [List.foldl_append]
  show (tmStep (ws.foldl tmStep tm0) "+").found = _
  unfold tmStep
  rw [if_pos (.inl rfl)]
theorem form_law {rest : List Tok2} (hk : kind ≠ "") (g : Good rest) :
    (∀ ts r, mForm kind rest = .ok (ts, r) → ∃ e c, runF (stt "first" kind d) rest = runF e r ∧ Behind e kind d (wd r) ∧ ¬ (wd r = "+" ∨ wd r = "-") ∧ Good r ∧ rest = c ++ r ∧ Inn c ∧ lTerms (wds c) = ts) ∧
    ∀ s, mForm kind rest = .error s → runF (stt "first" kind d) rest = some s := by
  have key : ∀ (t : Int) (r1 : List Tok2) (c0 : List Tok2) (last : Str), Good r1 → runF (stt "first" kind d) rest = runF (stt "term" kind d) r1 → rest = c0 ++ r1 → Inn c0 → last ≠ "at" → (wds c0).foldl tmStep tm0 = ⟨[], t, "", "", 0, last⟩ →
      (∀ ts r, (andThen (mTerm kind t r1) fun v r2 => mMore kind r2.length [v] r2) = .ok (ts, r) → ∃ e c, runF (stt "first" kind d) rest = runF e r ∧ Behind e kind d (wd r) ∧ ¬ (wd r = "+" ∨ wd r = "-") ∧ Good r ∧ rest = c ++ r ∧ Inn c ∧ lTerms (wds c) = ts) ∧
      ∀ s, (andThen (mTerm kind t r1) fun v r2 => mMore kind r2.length [v] r2) = .error s → runF (stt "first" kind d) rest = some s := by
    intro t r1 c0 last g1 s0 hc0 i0 hl hf
    have L := term_law (d := d) (t := t) hk g1
    cases hm : mTerm kind t r1 with
    | error s =>
      refine ⟨fun ts r' h => (by cases h), fun s2 h => ?_⟩
      cases h
      rw [s0]
      exact L.2 s hm
    | ok p =>
      obtain ⟨v, r2⟩ := p
      obtain ⟨e1, c, l1, l2, l3, l4, l5, l6⟩ := L.1 v r2 hm
      have M := more_law hk r2.length [v] r2 e1 (Nat.le_refl _) l3 l2
      refine ⟨fun ts r' h => ?_, fun s2 h => by rw [s0, l1]; exact M.2 s2 h⟩
      obtain ⟨e2, c2, k1, k2, k3, k4, k5, k6, k7⟩ := M.1 ts r' h
      refine ⟨e2, c0 ++ (c ++ c2), by rw [s0, l1, k1], k2, k3, k4, ?_, i0.app (l5.app k6), ?_⟩
      · rw [List.append_assoc, List.append_assoc, ← k5, ← l4, ← hc0]
      · rw [lTerms_end, wds, List.map_append, List.foldl_append]
        show tmEnd ((wds (c ++ c2)).foldl tmStep ((wds c0).foldl tmStep tm0)) = ts
        rw [hf, wds, List.map_append, List.foldl_append]
        obtain ⟨s2, f1, f2, f3⟩ := l6 [] last hl
        rw [f1]
        exact k7 s2 f3
  unfold mForm mTurn
  by_cases hm : wd rest = "-"
  · rw [if_pos hm]
    have st : lStep (stt "first" kind d) (wd rest) = some (stt "term" kind d) := by
      rw [hm]
      exact in_minus hk
    refine key (-1) rest.tail [(spt rest, wd rest)] "-" (g.tail (by rw [hm]; decide +kernel)) (run_yes g st) (by rw [List.cons_append, List.nil_append, ← g.cons]) (inn_one ?_) (by decide +kernel) ?_
    · show ¬ isSign (wd rest) ∧ wd rest ≠ "slack"
      rw [hm]
      exact ⟨by unfold isSign; decide +kernel, by decide +kernel⟩
    · show tmStep tm0 (wd rest) = _
      rw [hm]
      unfold tmStep tm0
      rw [if_pos (.inr rfl), if_neg (by decide +kernel)]
      unfold tmEnd
      rw [if_neg (by decide +kernel)]
  · rw [if_neg hm]
    refine key 1 rest [] "+" g ?_ rfl .nil (by decide +kernel) rfl
    rw [run_good g, run_good g, in_first hk hm]
end
end K31
set_option Elab.async false
set_option linter.all false
set_option maxRecDepth 100000
set_option maxHeartbeats 4000000
namespace K31
open PySem PySem.Spec PyProof.Rows L2
/-! plain: statements -/
/-! ### steps outside of forms -/
theorem stepO_filter {s z : Str} : ∀ {l : List (Str × Str × Str)}, lStepO l s z = lStepO (l.filter fun r => decide (r.1 = s)) s z
  | [] => rfl
  | q :: r => by
    rw [lStepO]
    by_cases c : q.1 = s
    · rw [List.filter_cons_of_pos (p := fun r : Str × Str × Str => decide (r.1 = s)) (decide_eq_true c), lStepO, ← stepO_filter]
    · rw [List.filter_cons_of_neg (p := fun r : Str × Str × Str => decide (r.1 = s)) (fun e => c (of_decide_eq_true e)), if_neg (fun e : s = q.1 ∧ _ => c e.1.symm), ← stepO_filter]
theorem stepT_filter {s z : Str} : ∀ {l : List (Str × Str × Str)}, lStepT l s z = lStepT (l.filter fun r => decide (r.1 = s)) s z
  | [] => rfl
  | q :: r => by
    rw [lStepT]
    by_cases c : q.1 = s
    · rw [List.filter_cons_of_pos (p := fun r : Str × Str × Str => decide (r.1 = s)) (decide_eq_true c), lStepT, ← stepT_filter]
    · rw [List.filter_cons_of_neg (p := fun r : Str × Str × Str => decide (r.1 = s)) (fun e => c (of_decide_eq_true e)), if_neg (fun e : s = q.1 ∧ _ => c e.1.symm), ← stepT_filter]
theorem step_at {s z : Str} {d : Int} (O T : List (Str × Str × Str)) (hO : (lOpens.filter fun r => decide (r.1 = s)) = O) (hT : (lTable.filter fun r => decide (r.1 = s)) = T) : lStep (stt s "" d) z = (match lStepO O s z with
    | some t => some t
    | none => lStepT T s z) := by
  unfold lStep
  rw [if_neg (not_not_intro rfl)]
  show (match lStepO lOpens s z with
    | some t => some t
    | none => lStepT lTable s z) = _
  rw [stepO_filter, stepT_filter, hO, hT]
theorem step_T {s k t : Str} (z : Str) (hO : (lOpens.filter fun r => decide (r.1 = s)) = []) (hT : (lTable.filter fun r => decide (r.1 = s)) = [(s, k, t)]) : lStep (stt s "" 0) z = if lFits k z = true then some (stt t "" 0) else none := by
  rw [step_at _ _ hO hT]
  show lStepT [(s, k, t)] s z = _
  rw [lStepT, lStepT]
  by_cases c : lFits k z = true
  · rw [if_pos ⟨rfl, c⟩, if_pos c]
  · rw [if_neg (fun e : s = s ∧ _ => c e.2), if_neg c]
theorem step_T2 {s k t k2 t2 : Str} (z : Str) (hO : (lOpens.filter fun r => decide (r.1 = s)) = []) (hT : (lTable.filter fun r => decide (r.1 = s)) = [(s, k, t), (s, k2, t2)]) : lStep (stt s "" 0) z = if lFits k z = true then some (stt t "" 0) else if lFits k2 z = true then some (stt t2 "" 0) else none := by
  rw [step_at _ _ hO hT]
  show lStepT [(s, k, t), (s, k2, t2)] s z = _
  rw [lStepT, lStepT, lStepT]
  by_cases c : lFits k z = true
  · rw [if_pos ⟨rfl, c⟩, if_pos c]
  · rw [if_neg (fun e : s = s ∧ _ => c e.2), if_neg c]
    by_cases c2 : lFits k2 z = true
    · rw [if_pos ⟨rfl, c2⟩, if_pos c2]
    · rw [if_neg (fun e : s = s ∧ _ => c2 e.2), if_neg c2]
theorem step_O {s k t : Str} (z : Str) (hO : (lOpens.filter fun r => decide (r.1 = s)) = [(s, k, t)]) (hT : (lTable.filter fun r => decide (r.1 = s)) = []) : lStep (stt s "" 0) z = if z = k then some (stt "first" t 0) else none := by
  rw [step_at _ _ hO hT, lStepO, lStepO]
  by_cases c : z = k
  · rw [if_pos ⟨rfl, c⟩, if_pos c]
  · rw [if_neg (fun e : s = s ∧ _ => c e.2), if_neg c]
    rfl
theorem fits_num (z : Str) : lFits "NUMBER" z = isNumber z := rfl
theorem fits_name (z : Str) : lFits "NAME" z = isName z := by
  unfold lFits
  rw [if_neg (by decide +kernel), if_neg (by decide +kernel), if_pos rfl]
theorem fits_free (z : Str) : lFits "FREE" z = isUnknown z := by
  unfold lFits
  rw [if_neg (by decide +kernel), if_neg (by decide +kernel), if_neg (by decide +kernel), if_pos rfl, free_unk]
theorem fits_below (z : Str) : lFits "BELOW" z = true ↔ isNumber z = true ∧ intOf z ≠ 0 := by
  unfold lFits
  rw [if_neg (by decide +kernel), if_pos rfl, Bool.and_eq_true, decide_eq_true_iff]
  constructor
  · rintro ⟨h1, h2⟩
    exact ⟨h1, fun e => h2 ((strip_zero z).mpr ((intOf_zero h1).mp e))⟩
  · rintro ⟨h1, h2⟩
    exact ⟨h1, fun e => h2 ((intOf_zero h1).mpr ((strip_zero z).mp e))⟩
theorem fits_is {k : Str} (z : Str) (hk : k ∈ lits) : lFits k z = true ↔ z = k := by
  rw [lFits_lit hk, decide_eq_true_iff]
section
variable (z : Str)
theorem at_u1 : lStep (stt "u1" "" 0) z = if isUnknown z = true then some (stt "u2" "" 0) else none := by rw [step_T z (k := "FREE") (t := "u2") (by decide +kernel) (by decide +kernel), fits_free]
theorem at_u2 : lStep (stt "u2" "" 0) z = if isUnknown z = true then some (stt "end" "" 0) else if z = "" then some (stt "done" "" 0) else none := by
  rw [step_T2 z (k := "FREE") (t := "end") (k2 := "") (t2 := "done") (by decide +kernel) (by decide +kernel), fits_free]
  simp only [fits_is z (k := "") (by decide +kernel)]
theorem at_end : lStep (stt "end" "" 0) z = if z = "" then some (stt "done" "" 0) else none := by
  rw [step_T z (k := "") (t := "done") (by decide +kernel) (by decide +kernel)]
  simp only [fits_is z (k := "") (by decide +kernel)]
theorem at_m1 : lStep (stt "m1" "" 0) z = if isNumber z = true then some (stt "end" "" 0) else none := by rw [step_T z (k := "NUMBER") (t := "end") (by decide +kernel) (by decide +kernel), fits_num]
theorem at_t1 : lStep (stt "t1" "" 0) z = if isNumber z = true then some (stt "t2" "" 0) else none := by rw [step_T z (k := "NUMBER") (t := "t2") (by decide +kernel) (by decide +kernel), fits_num]
theorem at_t2 : lStep (stt "t2" "" 0) z = if z = ":" then some (stt "first" "step" 0) else none := step_O z (by decide +kernel) (by decide +kernel)
theorem at_s1 : lStep (stt "s1" "" 0) z = if isName z = true then some (stt "s2" "" 0) else none := by rw [step_T z (k := "NAME") (t := "s2") (by decide +kernel) (by decide +kernel), fits_name]
theorem at_s2 : lStep (stt "s2" "" 0) z = if z = ":" then some (stt "first" "sensor" 0) else none := step_O z (by decide +kernel) (by decide +kernel)
theorem at_r1 : lStep (stt "r1" "" 0) z = if isName z = true then some (stt "r2" "" 0) else none := by rw [step_T z (k := "NAME") (t := "r2") (by decide +kernel) (by decide +kernel), fits_name]
theorem at_r2 : lStep (stt "r2" "" 0) z = if isName z = true then some (stt "r3" "" 0) else none := by rw [step_T z (k := "NAME") (t := "r3") (by decide +kernel) (by decide +kernel), fits_name]
theorem at_r3 : lStep (stt "r3" "" 0) z = if z = "at" then some (stt "r4" "" 0) else none := by
  rw [step_T z (k := "at") (t := "r4") (by decide +kernel) (by decide +kernel)]
  simp only [fits_is z (k := "at") (by decide +kernel)]
theorem at_r4 : lStep (stt "r4" "" 0) z = if isNumber z = true then some (stt "r5" "" 0) else none := by rw [step_T z (k := "NUMBER") (t := "r5") (by decide +kernel) (by decide +kernel), fits_num]
theorem at_r5 : lStep (stt "r5" "" 0) z = if z = "=" then some (stt "r6" "" 0) else none := by
  rw [step_T z (k := "=") (t := "r6") (by decide +kernel) (by decide +kernel)]
  simp only [fits_is z (k := "=") (by decide +kernel)]
theorem at_r6 : lStep (stt "r6" "" 0) z = if z = "-" then some (stt "w0" "" 0) else if isNumber z = true then some (stt "w1" "" 0) else none := by
  rw [step_T2 z (k := "-") (t := "w0") (k2 := "NUMBER") (t2 := "w1") (by decide +kernel) (by decide +kernel), fits_num]
  simp only [fits_is z (k := "-") (by decide +kernel)]
theorem at_w0 : lStep (stt "w0" "" 0) z = if isNumber z = true then some (stt "w1" "" 0) else none := by rw [step_T z (k := "NUMBER") (t := "w1") (by decide +kernel) (by decide +kernel), fits_num]
theorem at_w1 : lStep (stt "w1" "" 0) z = if z = "/" then some (stt "w2" "" 0) else if z = "" then some (stt "done" "" 0) else none := by
  rw [step_T2 z (k := "/") (t := "w2") (k2 := "") (t2 := "done") (by decide +kernel) (by decide +kernel)]
  simp only [fits_is z (k := "/") (by decide +kernel), fits_is z (k := "") (by decide +kernel)]
theorem at_w2 : lStep (stt "w2" "" 0) z = if isNumber z = true ∧ intOf z ≠ 0 then some (stt "end" "" 0) else none := by
  rw [step_T z (k := "BELOW") (t := "end") (by decide +kernel) (by decide +kernel)]
  simp only [fits_below]
theorem at_b1 : lStep (stt "b1" "" 0) z = if isName z = true then some (stt "end" "" 0) else none := by rw [step_T z (k := "NAME") (t := "end") (by decide +kernel) (by decide +kernel), fits_name]
end
def opened (h : Str) : LSt := if h = "unknowns" then stt "u1" "" 0 else if h = "moments" then stt "m1" "" 0 else if h = "step" then stt "t1" "" 0 else if h = "sensor" then stt "s1" "" 0 else if h = "reading" then stt "r1" "" 0 else if h = "back" then stt "b1" "" 0 else stt "first" (kindOf h) 0
theorem opened_ok : heads.all (fun h => decide (lStep (stt "head" "" 0) h = some (opened h))) = true := by decide +kernel
theorem stepO_no {s z : Str} : ∀ {l : List (Str × Str × Str)}, (∀ r ∈ l, z ≠ r.2.1) → lStepO l s z = none
  | [], _ => rfl
  | q :: r, h => by rw [lStepO, if_neg (fun e : s = q.1 ∧ z = q.2.1 => h q (List.mem_cons_self ..) e.2), stepO_no fun x hx => h x (List.mem_cons_of_mem _ hx)]
theorem stepT_no {s z : Str} : ∀ {l : List (Str × Str × Str)}, (∀ r ∈ l, ¬ lFits r.2.1 z = true) → lStepT l s z = none
  | [], _ => rfl
  | q :: r, h => by rw [lStepT, if_neg (fun e : s = q.1 ∧ lFits q.2.1 z = true => h q (List.mem_cons_self ..) e.2), stepT_no fun x hx => h x (List.mem_cons_of_mem _ hx)]
theorem at_head (z : Str) : lStep (stt "head" "" 0) z = if z ∈ heads then some (opened z) else none := by
  by_cases c : z ∈ heads
  · rw [if_pos c]
    have h := List.all_eq_true.mp opened_ok z c
    exact of_decide_eq_true h
  · rw [if_neg c, step_at (s := "head") _ _ rfl rfl]
    have hl : (lOpens.filter fun r => decide (r.1 = ("head" : Str))).all (fun r => decide (r.2.1 ∈ heads)) = true := by decide +kernel
    have ht : (lTable.filter fun r => decide (r.1 = ("head" : Str))).all (fun r => decide (r.2.1 ∈ heads) && decide (r.2.1 ∈ lits)) = true := by decide +kernel
    rw [stepO_no fun r hr e => c (by
      have h1 := List.all_eq_true.mp hl r hr
      rw [e]
      exact of_decide_eq_true h1)]
    show lStepT _ "head" z = none
    rw [stepT_no fun r hr e => c (by
      have h1 := List.all_eq_true.mp ht r hr
      rw [Bool.and_eq_true, decide_eq_true_iff, decide_eq_true_iff] at h1
      rw [(fits_is z h1.2).mp e]
      exact h1.1)]
/-! ### the parser goes along the walk -/
def Sim {α : Type} (m : PR α) (rest : List Tok2) (e0 : LSt) (post : α → LSt → List Str → Str → Prop) : Prop :=
  (∀ x r, m = .ok (x, r) → ∃ e c, runF e0 rest = runF e r ∧ Good r ∧ rest = c ++ r ∧ post x e (wds c) (wd r)) ∧ ∀ s, m = .error s → runF e0 rest = some s
theorem Sim.bind {α β : Type} {m : PR α} {f : α → List Tok2 → PR β} {rest : List Tok2} {e0 : LSt} {p1 : α → LSt → List Str → Str → Prop} {p2 : β → LSt → List Str → Str → Prop} (h1 : Sim m rest e0 p1)
    (h2 : ∀ x e c r, Good r → p1 x e c (wd r) → Sim (f x r) r e fun y e' c' z => p2 y e' (c ++ c') z) : Sim (andThen m f) rest e0 p2 := by
  cases hm : m with
  | error s =>
    refine ⟨fun x r h => (by cases h), fun s2 h => ?_⟩
    cases h
    exact h1.2 s hm
  | ok p =>
    obtain ⟨x, r⟩ := p
    obtain ⟨e, c, l1, l2, l3, l4⟩ := h1.1 x r hm
    have h3 := h2 x e (wds c) r l2 l4
    refine ⟨fun y r2 h => ?_, fun s h => by rw [l1]; exact h3.2 s h⟩
    obtain ⟨e2, c2, k1, k2, k3, k4⟩ := h3.1 y r2 h
    refine ⟨e2, c ++ c2, by rw [l1, k1], k2, by rw [List.append_assoc, ← k3, ← l3], ?_⟩
    rw [wds, List.map_append]
    exact k4
theorem Sim.ret {α : Type} {x : α} {rest : List Tok2} {e0 : LSt} {post : α → LSt → List Str → Str → Prop} (g : Good rest) (h : post x e0 [] (wd rest)) : Sim (.ok (x, rest)) rest e0 post :=
  ⟨fun y r e => (by cases e; exact ⟨e0, [], rfl, g, rfl, h⟩), fun s e => (by cases e)⟩
theorem Sim.take {α : Type} {x : α} {c : Prop} [Decidable c] {rest : List Tok2} {e0 e1 : LSt} {post : α → LSt → List Str → Str → Prop} (g : Good rest) (hs : lStep e0 (wd rest) = if c then some e1 else none) (hne : c → wd rest ≠ "") (h : c → post x e1 [wd rest] (wd rest.tail)) :
    Sim (if c then .ok (x, rest.tail) else .error (spt rest)) rest e0 post := by
  by_cases hc : c
  · rw [if_pos hc]
    rw [if_pos hc] at hs
    exact ⟨fun y r e => (by cases e; exact ⟨e1, [(spt rest, wd rest)], run_yes g hs, g.tail (hne hc), by rw [List.cons_append, List.nil_append, ← g.cons], h hc⟩), fun s e => (by cases e)⟩
  · rw [if_neg hc]
    rw [if_neg hc] at hs
    exact ⟨fun y r e => (by cases e), fun s e => (by cases e; exact run_no g hs)⟩
theorem Sim.num {rest : List Tok2} {e0 e1 : LSt} (g : Good rest) (hs : lStep e0 (wd rest) = if isNumber (wd rest) = true then some e1 else none) : Sim (mNum rest) rest e0 fun x e c _ => e = e1 ∧ ∃ z, isNumber z = true ∧ x = intOf z ∧ c = [z] := Sim.take g hs number_ne fun h => ⟨rfl, _, h, rfl, rfl⟩
theorem Sim.if_ {f : Str → Bool} {rest : List Tok2} {e0 e1 : LSt} (g : Good rest) (hs : lStep e0 (wd rest) = if f (wd rest) = true then some e1 else none) (hf : f "" = false) : Sim (mIf f rest) rest e0 fun x e c _ => e = e1 ∧ f x = true ∧ c = [x] := Sim.take g hs (fun h e => by rw [e, hf] at h; cases h) fun h => ⟨rfl, h, rfl⟩
theorem Sim.one {k : Str} {rest : List Tok2} {e0 e1 : LSt} (g : Good rest) (hs : lStep e0 (wd rest) = if wd rest = k then some e1 else none) (hk : k ≠ "") : Sim (mOne [k] rest) rest e0 fun x e c _ => e = e1 ∧ c = [k] := by
  refine Sim.take g (c := wd rest ∈ [k]) ?_ (fun h e => hk (by rw [← List.mem_singleton.mp h, e])) fun h => ⟨rfl, by rw [List.mem_singleton.mp h]⟩
  rw [hs]
  simp only [List.mem_singleton]
theorem Sim.of {cs : List Str} {rest : List Tok2} {e0 : LSt} {T : Str → LSt} (g : Good rest) (hs : lStep e0 (wd rest) = if wd rest ∈ cs then some (T (wd rest)) else none) (hk : ("" : Str) ∉ cs) : Sim (mOne cs rest) rest e0 fun x e c _ => e = T x ∧ x ∈ cs ∧ c = [x] := Sim.take g hs (fun h e => hk (e ▸ h)) fun h => ⟨rfl, h, rfl⟩
theorem Sim.mono {α : Type} {m : PR α} {rest : List Tok2} {e0 : LSt} {p1 p2 : α → LSt → List Str → Str → Prop} (h1 : Sim m rest e0 p1) (h : ∀ x e c z, p1 x e c z → p2 x e c z) : Sim m rest e0 p2 :=
  ⟨fun x r hm => by
    obtain ⟨e, c, l1, l2, l3, l4⟩ := h1.1 x r hm
    exact ⟨e, c, l1, l2, l3, h _ _ _ _ l4⟩, h1.2⟩
/-- behind a whole statement -/
def EndOk (e : LSt) (z : Str) : Prop := lStep e z = if z = "" then some (stt "done" "" 0) else none
theorem Sim.form {kind : Str} {d : Int} {rest : List Tok2} (hk : kind ≠ "") (g : Good rest) : Sim (mForm kind rest) rest (stt "first" kind d) fun ts e c z => lStep e z = lBehind kind d z ∧ ¬ (z = "+" ∨ z = "-") ∧ (∀ y ∈ c, ¬ isSign y ∧ y ≠ "slack") ∧ lTerms c = ts := by
  have h := form_law (d := d) hk g
  refine ⟨fun ts r hm => ?_, h.2⟩
  obtain ⟨e, c, l1, l2, l3, l4, l5, l6, l7⟩ := h.1 ts r hm
  exact ⟨e, c, l1, l4, l5, l2, l3, l6, l7⟩
theorem Sim.worth {t : Int} {rest : List Tok2} {e0 : LSt} (g : Good rest) (hs : lStep e0 (wd rest) = if isNumber (wd rest) = true then some (stt "w1" "" 0) else none) : Sim (mWorth t rest) rest e0 fun q e c z => EndOk e z ∧ ∃ n d, FracW c 1 n d ∧ (t = -1 → FracW ("-" :: c) (-1) n d) ∧ q = frac (t * n) d := by
  unfold mWorth
  refine Sim.bind (Sim.num g hs) fun x e c r gr h => ?_
  obtain ⟨rfl, y, hy, rfl, rfl⟩ := h
  by_cases c1 : wd r = "/"
  · rw [if_pos c1]
    have g2 := gr.tail (by rw [c1]; decide +kernel)
    have s1 : lStep (stt "w1" "" 0) (wd r) = some (stt "w2" "" 0) := by rw [at_w1, if_pos c1]
    have h2 : Sim (mBelow r.tail) r.tail (stt "w2" "" 0) fun x e c _ => e = stt "end" "" 0 ∧ ∃ b, isNumber b = true ∧ intOf b ≠ 0 ∧ x = intOf b ∧ c = [b] := Sim.take g2 (at_w2 _) (fun h => number_ne h.1) fun h => ⟨rfl, _, h.1, h.2, rfl, rfl⟩
    have h3 : Sim (andThen (mBelow r.tail) fun b r2 => .ok (frac (t * intOf y) b, r2)) r.tail (stt "w2" "" 0) fun q e c z => EndOk e z ∧ ∃ b, isNumber b = true ∧ intOf b ≠ 0 ∧ q = frac (t * intOf y) (intOf b) ∧ c = [b] := by
      refine Sim.bind h2 fun x e c r2 g3 h => ?_
      obtain ⟨rfl, b, b1, b2, rfl, rfl⟩ := h
      exact Sim.ret g3 ⟨at_end _, b, b1, b2, rfl, rfl⟩
    refine ⟨fun q r2 hm => ?_, fun s hm => by rw [run_yes gr s1]; exact h3.2 s hm⟩
    obtain ⟨e, c, l1, l2, l3, l4, b, b1, b2, rfl, b4⟩ := h3.1 q r2 hm
    refine ⟨e, (spt r, wd r) :: c, by rw [run_yes gr s1, l1], l2, by rw [List.cons_append, ← l3, ← gr.cons], l4, intOf y, intOf b, ?_, fun _ => ?_, rfl⟩
    · show FracW ([y] ++ wd r :: wds c) _ _ _
      rw [b4, c1]
      exact .two hy b1 b2
    · show FracW ("-" :: ([y] ++ wd r :: wds c)) _ _ _
      rw [b4, c1]
      exact .mtwo hy b1 b2
  · rw [if_neg c1]
    refine Sim.ret gr ⟨?_, intOf y, 1, .one hy, fun _ => .mone hy, rfl⟩
    unfold EndOk
    rw [at_w1, if_neg c1]
theorem Sim.turn {α : Type} {rest : List Tok2} {f : Int → List Tok2 → PR α} {post : α → LSt → List Str → Str → Prop} (g : Good rest) (hf : ∀ t r e0, Good r → (t = 1 ∨ t = -1) → lStep e0 (wd r) = (if isNumber (wd r) = true then some (stt "w1" "" 0) else none) → Sim (f t r) r e0 fun q e c z => post q e ((if t = 1 then [] else [("-" : Str)]) ++ c) z) : Sim (andThen (mTurn rest) f) rest (stt "r6" "" 0) post := by
  unfold mTurn
  by_cases c1 : wd rest = "-"
  · rw [if_pos c1]
    have g1 := g.tail (by rw [c1]; decide +kernel)
    have s1 : lStep (stt "r6" "" 0) (wd rest) = some (stt "w0" "" 0) := by rw [at_r6, if_pos c1]
    have h := hf (-1) rest.tail (stt "w0" "" 0) g1 (.inr rfl) (at_w0 _)
    refine ⟨fun q r2 hm => ?_, fun s hm => by rw [run_yes g s1]; exact h.2 s hm⟩
    obtain ⟨e, c, l1, l2, l3, l4⟩ := h.1 q r2 hm
    refine ⟨e, (spt rest, wd rest) :: c, by rw [run_yes g s1, l1], l2, by rw [List.cons_append, ← l3, ← g.cons], ?_⟩
    show post q e (wd rest :: wds c) _
    rw [c1]
    exact l4
  · rw [if_neg c1]
    exact hf 1 rest (stt "r6" "" 0) g (.inl rfl) (by rw [at_r6, if_neg c1])
theorem Sim.comp {kind : Str} {rest : List Tok2} (hk : kind = "one" ∨ kind = "step" ∨ kind = "ask") (g : Good rest) : Sim (mComp kind rest) rest (stt "first" kind 0) fun q e c z => EndOk e z ∧ ∃ l sg r, (∀ y ∈ l, ¬ isSign y) ∧ isSign sg ∧ c = l ++ sg :: r ∧ q = (lTerms l, sg, lTerms r) := by
  have k0 : kind ≠ "" := by rcases hk with e | e | e <;> rw [e] <;> decide +kernel
  have ks : kind ≠ "sensor" := by rcases hk with e | e | e <;> rw [e] <;> decide +kernel
  unfold mComp
  refine Sim.bind (Sim.form k0 g) fun ts e c r gr h => ?_
  obtain ⟨h1, h2, h3, rfl⟩ := h
  have hc : (if kind = "ask" then (["<=", ">="] : List Str) else signs) = if kind = "ask" then (["<=", ">="] : List Str) else ["<=", ">=", "="] := rfl
  have s1 : lStep e (wd r) = if wd r ∈ (if kind = "ask" then (["<=", ">="] : List Str) else signs) then some (stt "first" kind 1) else none := by
    rw [h1, lBehind, if_neg h2, if_neg ks, hc]
    by_cases c2 : wd r ∈ (if kind = "ask" then (["<=", ">="] : List Str) else ["<=", ">=", "="])
    · rw [if_pos ⟨rfl, c2⟩, if_pos c2]
    · rw [if_neg (fun z => c2 z.2), if_neg c2, if_neg (fun z => absurd z.1 (by decide))]
  refine Sim.bind (Sim.of (T := fun _ => stt "first" kind 1) gr s1 (by split <;> decide +kernel)) fun sg e2 c2 r2 g2 hh => ?_
  obtain ⟨rfl, m2, rfl⟩ := hh
  refine Sim.bind (Sim.form k0 g2) fun ts2 e3 c3 r3 g3 hh => ?_
  obtain ⟨k1, k2, k3, rfl⟩ := hh
  refine Sim.ret g3 ⟨?_, c, sg, c3, fun y hy => (h3 y hy).1, ?_, by simp, rfl⟩
  · unfold EndOk
    rw [k1, lBehind, if_neg k2, if_neg ks, if_neg (fun z => absurd z.1 (by decide))]
    by_cases c4 : wd r3 = ""
    · rw [if_pos ⟨rfl, c4⟩, if_pos c4]
    · rw [if_neg (fun z => c4 z.2), if_neg c4]
  · unfold isSign
    split at m2
    · simp only [List.mem_cons, List.not_mem_nil, or_false] at m2 ⊢
      rcases m2 with e | e
      · exact .inl e
      · exact .inr (.inl e)
    · exact m2
end K31
set_option Elab.async false
set_option linter.all false
set_option maxRecDepth 100000
set_option maxHeartbeats 4000000
namespace K31
open PySem PySem.Spec PyProof.Rows L2
/-! plain: whole statements, rows -/
def PostS (row : Nat) (h : Str) : PyData → LSt → List Str → Str → Prop := fun d e c z => EndOk e z ∧ ∃ f, Shape (h :: c) f ∧ f row = d
theorem sim_unknowns {row : Nat} {rest : List Tok2} (g : Good rest) : Sim (mUnknowns row rest) rest (stt "u1" "" 0) (PostS row "unknowns") := by
  unfold mUnknowns
  refine Sim.bind (Sim.if_ g (at_u1 _) (by decide +kernel)) fun a e c r gr h => ?_
  obtain ⟨rfl, h1, rfl⟩ := h
  by_cases c1 : wd r ≠ ""
  · rw [if_pos c1]
    refine Sim.bind (Sim.if_ (e1 := stt "end" "" 0) gr (by rw [at_u2, if_neg c1]) (by decide +kernel)) fun b e c r2 g2 h => ?_
    obtain ⟨rfl, h2, rfl⟩ := h
    exact Sim.ret g2 ⟨at_end _, _, .unknowns [a, b], rfl⟩
  · rw [if_neg c1]
    have c2 : wd r = "" := Decidable.of_not_not c1
    refine Sim.ret gr ⟨?_, _, .unknowns [a], rfl⟩
    unfold EndOk
    rw [at_u2, c2, if_neg (by decide +kernel)]
theorem sim_sensor {row : Nat} {rest : List Tok2} (g : Good rest) : Sim (mSensor row rest) rest (stt "s1" "" 0) (PostS row "sensor") := by
  unfold mSensor
  refine Sim.bind (Sim.if_ g (at_s1 _) (by decide +kernel)) fun a e c r gr h => ?_
  obtain ⟨rfl, h1, rfl⟩ := h
  refine Sim.bind (Sim.one gr (at_s2 _) (by decide +kernel)) fun _ e c r2 g2 h => ?_
  obtain ⟨rfl, rfl⟩ := h
  refine Sim.bind (Sim.form (by decide +kernel) g2) fun ts e c r3 g3 h => ?_
  obtain ⟨h1, h2, h3, rfl⟩ := h
  refine Sim.bind (Sim.one (e1 := stt "w0" "" 0) g3 (by rw [h1, lBehind, if_neg h2, if_pos rfl]) (by decide +kernel)) fun _ e c4 r4 g4 h => ?_
  obtain ⟨rfl, rfl⟩ := h
  refine Sim.bind (Sim.worth g4 (at_w0 _)) fun q e c5 r5 g5 h => ?_
  obtain ⟨k1, n, d, k2, k3, rfl⟩ := h
  refine Sim.ret g5 ⟨k1, ?_⟩
  simp only [List.append_assoc, List.cons_append, List.nil_append, List.append_nil]
  exact ⟨_, Shape.sensor (a := a) (fw := c) (fr := c5) (fun hm => (h3 _ hm).2 rfl) k2, rfl⟩
theorem sim_reading {row : Nat} {rest : List Tok2} (g : Good rest) : Sim (mReading row rest) rest (stt "r1" "" 0) (PostS row "reading") := by
  unfold mReading
  refine Sim.bind (Sim.if_ g (at_r1 _) (by decide +kernel)) fun a e c r gr h => ?_
  obtain ⟨rfl, _, rfl⟩ := h
  refine Sim.bind (Sim.if_ gr (at_r2 _) (by decide +kernel)) fun b e c r2 g2 h => ?_
  obtain ⟨rfl, _, rfl⟩ := h
  refine Sim.bind (Sim.one g2 (at_r3 _) (by decide +kernel)) fun _ e c r3 g3 h => ?_
  obtain ⟨rfl, rfl⟩ := h
  refine Sim.bind (Sim.num g3 (at_r4 _)) fun m e c r4 g4 h => ?_
  obtain ⟨rfl, z, hz, rfl, rfl⟩ := h
  refine Sim.bind (Sim.one g4 (at_r5 _) (by decide +kernel)) fun _ e c r5 g5 h => ?_
  obtain ⟨rfl, rfl⟩ := h
  refine Sim.turn g5 fun t r6 e0 g6 ht hs => ?_
  refine Sim.bind (Sim.worth g6 hs) fun q e c7 r7 g7 h => ?_
  obtain ⟨k1, n, d, k2, k3, rfl⟩ := h
  refine Sim.ret g7 ⟨k1, ?_⟩
  simp only [List.append_assoc, List.cons_append, List.nil_append, List.append_nil]
  rcases ht with rfl | rfl
  · rw [if_pos rfl]
    exact ⟨_, Shape.reading (a := a) (b := b) hz k2, rfl⟩
  · rw [if_neg (by decide)]
    exact ⟨_, Shape.reading (a := a) (b := b) hz (k3 rfl), rfl⟩
theorem sim_step {row : Nat} {rest : List Tok2} (g : Good rest) : Sim (mStep row rest) rest (stt "t1" "" 0) (PostS row "step") := by
  unfold mStep
  refine Sim.bind (Sim.num g (at_t1 _)) fun m e c r gr h => ?_
  obtain ⟨rfl, z, hz, rfl, rfl⟩ := h
  refine Sim.bind (Sim.one gr (at_t2 _) (by decide +kernel)) fun _ e c r2 g2 h => ?_
  obtain ⟨rfl, rfl⟩ := h
  refine Sim.bind (Sim.comp (.inr (.inl rfl)) g2) fun q e c3 r3 g3 h => ?_
  obtain ⟨k1, l, sg, r, k2, k3, rfl, rfl⟩ := h
  refine Sim.ret g3 ⟨k1, ?_⟩
  simp only [List.append_assoc, List.cons_append, List.nil_append, List.append_nil]
  exact ⟨_, Shape.step (m := z) (r := r) hz k2 k3, rfl⟩
theorem sim_rest {row : Nat} {h : Str} {rest : List Tok2} (hh : h ∈ heads) (g : Good rest) : Sim (mRest row h rest) rest (opened h) (PostS row h) := by
  unfold mRest opened
  by_cases c1 : h = "unknowns"
  · rw [if_pos c1, if_pos c1, c1]
    exact sim_unknowns g
  rw [if_neg c1, if_neg c1]
  by_cases c2 : h = "moments"
  · rw [if_pos c2, if_pos c2, c2]
    refine Sim.bind (Sim.num g (at_m1 _)) fun m e c r gr h => ?_
    obtain ⟨rfl, z, hz, rfl, rfl⟩ := h
    exact Sim.ret gr ⟨at_end _, _, .moments hz, rfl⟩
  rw [if_neg c2, if_neg c2]
  by_cases c3 : h = "step"
  · rw [if_pos c3, if_pos c3, c3]
    exact sim_step g
  rw [if_neg c3, if_neg c3]
  by_cases c4 : h = "sensor"
  · rw [if_pos c4, if_pos c4, c4]
    exact sim_sensor g
  rw [if_neg c4, if_neg c4]
  by_cases c5 : h = "reading"
  · rw [if_pos c5, if_pos c5, c5]
    exact sim_reading g
  rw [if_neg c5, if_neg c5]
  by_cases c6 : h = "back"
  · rw [if_pos c6, if_pos c6, c6]
    refine Sim.bind (Sim.if_ g (at_b1 _) (by decide +kernel)) fun a e c r gr h => ?_
    obtain ⟨rfl, _, rfl⟩ := h
    exact Sim.ret gr ⟨at_end _, _, .back a, rfl⟩
  rw [if_neg c6, if_neg c6]
  have hc : h = "start" ∨ h = "steps" ∨ h = "ask" := by
    unfold heads at hh
    simp only [List.mem_cons, List.not_mem_nil, or_false] at hh
    rcases hh with e | e | e | e | e | e | e | e | e
    · exact absurd e c1
    · exact absurd e c2
    · exact .inl e
    · exact absurd e c3
    · exact .inr (.inl e)
    · exact absurd e c4
    · exact absurd e c5
    · exact absurd e c6
    · exact .inr (.inr e)
  have hk : kindOf h = "one" ∨ kindOf h = "step" ∨ kindOf h = "ask" := by
    rcases hc with e | e | e <;> rw [e]
    · exact .inl (by decide +kernel)
    · exact .inr (.inl (by decide +kernel))
    · exact .inr (.inr (by decide +kernel))
  refine Sim.bind (Sim.comp hk g) fun q e c r gr hq => ?_
  obtain ⟨k1, l, sg, r2, k2, k3, rfl, rfl⟩ := hq
  refine Sim.ret gr ⟨k1, ?_⟩
  simp only [List.append_assoc, List.cons_append, List.nil_append, List.append_nil]
  exact ⟨_, Shape.comp (r := r2) hc k2 k3, rfl⟩
/-- THE STATEMENT LAW -/
theorem stat_law {row : Nat} {rest : List Tok2} (g : Good rest) : (∀ d r, mStat row rest = .ok (d, r) → runF (stt "head" "" 0) rest = none ∧ ∃ f, Shape (wds rest).dropLast f ∧ f row = d) ∧ ∀ s, mStat row rest = .error s → runF (stt "head" "" 0) rest = some s := by
  have h1 : Sim (andThen (mOne heads rest) fun h r => mRest row h r) rest (stt "head" "" 0) fun d e c z => EndOk e z ∧ ∃ f, Shape c f ∧ f row = d := by
    refine Sim.bind (Sim.of g (at_head _) (by decide +kernel)) fun h e c r gr hh => ?_
    obtain ⟨rfl, h2, rfl⟩ := hh
    exact sim_rest h2 gr
  have h2 : mStat row rest = andThen (andThen (mOne heads rest) fun h r => mRest row h r) fun d r2 => andThen (mEnd r2) fun _ r3 => .ok (d, r3) := by
    unfold mStat
    cases mOne heads rest with
    | ok p => rfl
    | error s => rfl
  rw [h2]
  cases hm : (andThen (mOne heads rest) fun h r => mRest row h r) with
  | error s =>
    refine ⟨fun d r h => (by cases h), fun s2 h => ?_⟩
    cases h
    exact h1.2 s hm
  | ok p =>
    obtain ⟨d, r2⟩ := p
    obtain ⟨e, c, l1, l2, l3, l4, l5⟩ := h1.1 d r2 hm
    show (∀ d2 r, (andThen (mEnd r2) fun _ r3 => .ok (d, r3)) = Except.ok (d2, r) → _) ∧ ∀ s, (andThen (mEnd r2) fun _ r3 => .ok (d, r3)) = Except.error s → _
    unfold mEnd
    unfold EndOk at l4
    by_cases c1 : wd r2 = ""
    · rw [if_pos c1]
      rw [if_pos c1] at l4
      refine ⟨fun d2 r h => ?_, fun s h => by cases h⟩
      cases h
      have e2 : ∃ s, r2 = [(s, ("" : Str))] := by
        rcases l2.cases with ⟨s, rfl⟩ | ⟨q, r, rfl, hq, _⟩
        · exact ⟨s, rfl⟩
        · exact absurd c1 hq
      obtain ⟨s, rfl⟩ := e2
      refine ⟨by rw [l1, run_yes l2 l4]; rfl, ?_⟩
      rw [l3, wds, List.map_append]
      show ∃ f, Shape ((wds c) ++ [("" : Str)]).dropLast f ∧ _
      rw [List.dropLast_concat]
      exact l5
    · rw [if_neg c1]
      rw [if_neg c1] at l4
      refine ⟨fun d2 r h => (by cases h), fun s h => ?_⟩
      cases h
      rw [l1, run_no l2 l4]
/-! ### rows -/
theorem rowOk_good {r : List (Nat × Str)} (h : RowOk r) : Good r := by
  obtain ⟨l, s, rfl, hw, hl⟩ := h
  exact ⟨l, s, rfl, fun q hq e => wd_ne (hw q hq) (by rw [e]; decide +kernel), fun q hq => Nat.le_trans (wd_len (hw q hq)) (by decide), by omega⟩
theorem rowOk_short {r : List (Nat × Str)} (h : RowOk r) : ShortR r := by
  obtain ⟨h1, h2, h3⟩ := rowOk_words h
  exact ⟨by omega, fun q hq => (h1 _ (List.mem_map_of_mem hq)).1⟩
theorem head_in : stt "head" "" 0 ∈ lStates := by decide +kernel
theorem rho_head : rho (stt "head" "" 0) = "head" := by decide +kernel
/-- THE ROWS LAW -/
theorem rows_law : ∀ (rows : List (List (Nat × Str))) (n : Nat) (acc : List PyData), (∀ r ∈ rows, RowOk r) → ∃ ds o, Due n acc rows ds o ∧ (∀ x, mAll n acc rows = .ok x → o = none ∧ x = ds) ∧ (∀ q, mAll n acc rows = .error q → o = some q) ∧ ffault n rows = o
  | [], n, acc, _ => ⟨acc, none, .nil, fun x h => (by cases h; exact ⟨rfl, rfl⟩), fun q h => (by cases h), rfl⟩
  | r :: rs, n, acc, h => by
    have hr := h r (List.mem_cons_self ..)
    have hs : ∀ x ∈ rs, RowOk x := fun x hx => h x (List.mem_cons_of_mem _ hx)
    obtain ⟨_, _, l1⟩ := rowOk_words hr
    rw [ffault_cons]
    by_cases c1 : 1 < r.length
    · have eM : mAll n acc (r :: rs) = (match mStat (n + 1) r with
        | .ok (d, _) => mAll (n + 1) (acc ++ [d]) rs
        | .error s => .error (n + 1, s)) := by
        rw [mAll, if_pos c1] <;> rfl
      rw [eM, if_neg (show ¬ r.length = 1 by omega)]
      have L := stat_law (row := n + 1) (rowOk_good hr)
      have F := fault_run (r := r) head_in
      rw [rho_head] at F
      rw [F]
      cases hm : mStat (n + 1) r with
      | error s =>
        have h2 := L.2 s hm
        rw [h2]
        refine ⟨acc, some (n + 1, s), ?_, fun x hx => (by cases hx), fun q hq => (by cases hq; rfl), rfl⟩
        rcases walk_run r (stt "head" "" 0) 0 with ⟨k1, _⟩ | ⟨i, q, k1, k2, k3, k4⟩
        · rw [k1] at h2
          cases h2
        · rw [k2] at h2
          cases h2
          have e : lWalk (r.map (·.2)) = i := by
            show lWalkN _ _ 0 = i
            rw [k3, Nat.zero_add]
          exact .fault c1 (by rw [e]; exact k4) (by rw [e]; exact k1)
      | ok p =>
        obtain ⟨d, r2⟩ := p
        obtain ⟨h2, f, h3, h4⟩ := L.1 d r2 hm
        rw [h2]
        obtain ⟨ds, o, i1, i2, i3, i4⟩ := rows_law rs (n + 1) (acc ++ [d]) hs
        refine ⟨ds, o, ?_, i2, i3, i4⟩
        rcases walk_run r (stt "head" "" 0) 0 with ⟨_, k1⟩ | ⟨i, q, k1, k2, k3, k4⟩
        · refine .ok c1 (by rw [← Nat.zero_add r.length]; exact k1) h3 ?_
          rw [h4]
          exact i1
        · rw [k2] at h2
          cases h2
    · have eM : mAll n acc (r :: rs) = mAll (n + 1) acc rs := by
        rw [mAll, if_neg c1]
      rw [eM, if_pos (show r.length = 1 by omega)]
      obtain ⟨ds, o, i1, i2, i3, i4⟩ := rows_law rs (n + 1) acc hs
      exact ⟨ds, o, .skip (by omega) i1, i2, i3, i4⟩
/-! ### beginnings -/
theorem nxt_empty : ∀ ws : List Str, ws.foldl nxt "" = ""
  | [] => rfl
  | z :: zs => by
    rw [List.foldl_cons, show nxt "" z = "" by unfold nxt; rw [if_pos rfl]]
    exact nxt_empty zs
theorem rho_ne {s : LSt} (h : s ∈ lStates) : rho s ≠ "" := fun e => by
  have h4 := List.all_eq_true.mp rho_key s h
  rw [e] at h4
  exact noKey (of_decide_eq_true h4)
theorem run_walk : ∀ (ws : List Str) (s : LSt) (n : Nat), s ∈ lStates → (∃ t, t ∈ lStates ∧ ws.foldl nxt (rho s) = rho t ∧ lWalkN s ws n = n + ws.length ∧ ∀ zs, lWalkN s (ws ++ zs) n = lWalkN t zs (n + ws.length)) ∨ (ws.foldl nxt (rho s) = "" ∧ lWalkN s ws n < n + ws.length)
  | [], s, n, hs => .inl ⟨s, hs, rfl, rfl, fun zs => rfl⟩
  | z :: zs, s, n, hs => by
    rw [List.foldl_cons, lWalkN]
    have e0 : nxt (rho s) z = behL (look (rho s)) z := by
      unfold nxt
      rw [if_neg (rho_ne hs)]
    rw [e0, List.length_cons]
    rcases bis hs z with ⟨h1, h2⟩ | ⟨t, h1, h2, h3⟩
    · rw [h1, h2, nxt_empty]
      exact .inr ⟨rfl, by show n < _; omega⟩
    · rw [h1, h3]
      rcases run_walk zs t (n + 1) h2 with ⟨u, k1, k2, k3, k4⟩ | ⟨k1, k2⟩
      · refine .inl ⟨u, k1, k2, ?_, fun ys => ?_⟩
        · show lWalkN t zs (n + 1) = _
          rw [k3]
          omega
        · rw [List.cons_append, lWalkN, h1]
          show lWalkN t (zs ++ ys) (n + 1) = _
          rw [k4, show n + 1 + zs.length = n + (zs.length + 1) by omega]
      · exact .inr ⟨k1, by show lWalkN t zs (n + 1) < _; omega⟩
theorem rho_done : lStates.all (fun s => decide (rho s = "done") == decide (s = stt "done" "" 0)) = true := by decide +kernel
theorem end_done : lStates.all (fun s => decide (behL (look (rho s)) "" = "done") == decide ((lStep s "").isSome)) = true := by decide +kernel
/-- THE LAWS OF BEGINNINGS -/
theorem beg_law (ws : List Str) : isBeg ws = (!decide (("" : Str) ∈ ws) && decide (lWalk ws = ws.length)) := by
  unfold isBeg
  congr 1
  have h := run_walk ws (stt "head" "" 0) 0 head_in
  rw [rho_head] at h
  rcases h with ⟨t, h1, h2, h3, _⟩ | ⟨h1, h2⟩
  · rw [show runW ws = rho t from h2, show lWalk ws = ws.length from h3.trans (Nat.zero_add _), decide_eq_false (rho_ne h1), decide_eq_true rfl]
    rfl
  · rw [show runW ws = "" from h1, decide_eq_false (show ¬ lWalk ws = ws.length from fun e => by
      have h3 : lWalk ws < 0 + ws.length := h2
      omega), decide_eq_true rfl]
    rfl
theorem sta_law (ws : List Str) : isSta ws = (isBeg ws && decide (lWalk (ws ++ [("" : Str)]) = ws.length + 1)) := by
  unfold isSta
  cases hb : isBeg ws with
  | false => rfl
  | true =>
    congr 1
    have h := run_walk ws (stt "head" "" 0) 0 head_in
    rw [rho_head] at h
    rcases h with ⟨t, h1, h2, h3, h4⟩ | ⟨h1, h2⟩
    · rw [show runW ws = rho t from h2]
      have h5 := List.all_eq_true.mp end_done t h1
      have h6 := beq_iff_eq.mp h5
      rw [h6]
      have h7 : lWalk (ws ++ [("" : Str)]) = lWalkN t [("" : Str)] (0 + ws.length) := h4 _
      rw [h7, lWalkN]
      cases lStep t "" with
      | none =>
        show decide (none.isSome = true) = decide (0 + ws.length = ws.length + 1)
        have h8 : ¬ 0 + ws.length = ws.length + 1 := by omega
        rw [decide_eq_false h8]
        rfl
      | some u =>
        show decide ((some u).isSome = true) = decide (0 + ws.length + 1 = ws.length + 1)
        rw [Nat.zero_add, decide_eq_true rfl]
        rfl
    · rw [beg_law, Bool.and_eq_true, decide_eq_true_iff] at hb
      have h3 : lWalk ws < 0 + ws.length := h2
      omega
end K31
set_option Elab.async false
set_option linter.all false
set_option maxRecDepth 100000
set_option maxHeartbeats 4000000
namespace K31
open PySem PySem.Spec PyProof.Rows L2
/-! defs that are called with no repr under way -/
/-- what such a def promises: as FnOk, with nothing under guard -/
structure FnG (P : Program) (w : World) (K : PySem.W.Frag) (mg : Str → Option Value) (base : Heap) (out : CXT) (k : Nat) (f : Addr) (fd : FuncData) (ps : List Str) (sp : Sp) : Prop where
  long : ∀ vs H Q E, sp vs H Q E → vs.length = ps.length
  goes : ∀ (A : Around) (fs : List Env) (sh : Shared) (H : Hp) (ar : Args) (ws : List Value) (vs : List V) (Q : VK) (E : XK), A.guards = some [] → Room k A → Env0 P w K mg base A fs sh H → BindsTo sh fd ar (ps.zip ws) → Vals vs ws → sp vs H Q E →
    codeAny (model P w) A (.call (.ref f) ar) (CR out fs P w H sh Q E) sh
theorem fnG_mk {out : CXT} {P : Program} {w : World} {K : PySem.W.Frag} {mg : Str → Option Value} {base : Heap} {nm qn : Str} {prm : Arguments} {bd : List Stmt} {sc : Scope} {f : Addr} {fd : FuncData} {N ps : List Str} {k : Nat} {sp : Sp}
    (F : FunD K nm qn prm bd sc [] [] f fd) (S : FnScope N ps sc) (long : ∀ vs H Q E, sp vs H Q E → vs.length = ps.length)
    (walk : ∀ (cdv : Value) (A : Around) (fs : List Env) (sh : Shared) (H : Hp) (vs : List V) (Q : VK) (E : XK), A.guards = some [] → Room k (A.deeper (envOfC qn sc sh.heap.objs.size f cdv)) → sp vs H Q E →
      ∃ t, PSs (cxOf out P w K mg base N qn sc f cdv A fs sh H E) bd t ∧ t { nx := fun _ H' => Q .non H', rt := Q } (start N vs) H) : FnG P w K mg base out (k + 1) f fd ps sp := by
  obtain ⟨oc, od, dV, kV, doc, pm, an, cdv, ct, osl, rfl, look_f, code_f, _, _⟩ := F.ex
  refine ⟨long, fun A fs sh H ar ws vs Q E hg room e0 hb rv hsp => ?_⟩
  have ll := long _ _ _ _ hsp
  have inK : K.In sh.heap := e0.mod.kin.keeps fun b o e => (e0.bs b o e).1
  have kinds : ∀ y ∈ ps.zip ws, sc.names.lookup y.1 = some .local ∨ (sc.names.lookup y.1 = some .cell ∧ ((cellsFrom (sh.heap.objs.size + 1) sc.names []).lookup y.1).isSome = true) := by
    rintro ⟨n, v⟩ hy
    exact (S.par n (List.of_mem_zip hy).1).imp id fun q => ⟨q, PySem.W.cellsFrom_some _ _ _ (.inl q)⟩
  refine codeAny_call_function room.depth (inK _ _ look_f) rfl S.co S.gen rfl (PySem.W.codeRec_of inK code_f) (hb _ _ _ _ (wpAny_newFunctionEnv_cells S.kind kinds ?_))
  rintro env rfl s1 x
  refine ⟨(e0.mod.nolimit.keeps fun b o e => (e0.bs b o e).1).keeps x.toInCall.keep, codeAny_func ?_⟩
  obtain ⟨t, ht, hq⟩ := walk cdv A fs sh H vs Q E hg (room.deeper _) hsp
  refine wpAny_mono (ht.run [] s1 (start N vs) H _ (inv_start S room.hd e0 ll rv x) hq) (fun fl s' hs => ?_) fun e s' hs => hs
  cases fl with
  | ret u =>
    obtain ⟨v, σ', H', J, r2, q⟩ := hs
    exact ⟨v, H', J.os, J.bare, J.base, J.hok, r2, q⟩
  | next =>
    obtain ⟨σ', H', J, q⟩ := hs
    exact ⟨.non, H', J.os, J.bare, J.base, J.hok, rfl, q⟩
  | brk => exact hs.elim fun _ z => z.elim fun _ z => z.2.elim
  | cont => exact hs.elim fun _ z => z.elim fun _ z => z.2.elim
def ClG (P : Program) (w : World) (K : PySem.W.Frag) (mg : Str → Option Value) (base : Heap) (k : Nat) (x : Str) (ps : List Str) (sp : Sp) : Prop :=
  ∃ fd, FnG P w K mg base (L2.CX P w) k (He.ga K x) fd ps sp ∧ Binds K fd ps [] ∧ PySem.W.keepIn K (.ref (He.ga K x)) = true ∧ mg x = some (.ref (He.ga K x))
theorem ClG.mk {P : Program} {w : World} {K : PySem.W.Frag} {mg : Str → Option Value} {base : Heap} {d : He.DefD} {N ps : List Str} {k : Nat} {sp : Sp} {x : Str}
    (F : ∃ fd, FunD K d.name d.qual d.params d.body d.scope [] [] (He.fAd K d.at_) fd) (hat : d.at_ = (x, none)) (hm : mg x = some (.ref (He.ga K x))) (S : FnScope N ps d.scope)
    (bd : ∀ (kV doc pm : Value) (an : Option Addr) (cdv ct : Value) (us : List Value), us.length = ps.length → bindArgs (PySem.W.fnOf d.name d.qual d.params d.body d.scope .none kV doc pm an cdv ct) ⟨us, []⟩ = pure (ps.zip us))
    (len : ∀ vs H Q E, sp vs H Q E → vs.length = ps.length)
    (body : ∀ (cdv : Value) (A : Around) (outer : List Env) (s : Shared) (H : Hp) (vs : List V) (Q : VK) (E : XK), A.guards = some [] → Room k (A.deeper (envOfC d.qual d.scope s.heap.objs.size (He.fAd K d.at_) cdv)) → sp vs H Q E →
      ∃ t, PSs (cxOf (L2.CX P w) P w K mg base N d.qual d.scope (He.fAd K d.at_) cdv A outer s H E) d.body t ∧ t { nx := fun _ H' => Q .non H', rt := Q } (start N vs) H) : ClG P w K mg base (k + 1) x ps sp := by
  obtain ⟨fd, F⟩ := F
  have e : He.fAd K d.at_ = He.ga K x := by rw [hat] <;> rfl
  have G := fnG_mk (out := L2.CX P w) (mg := mg) (base := base) F S len body
  have kp := F.kp
  rw [e] at G kp
  exact ⟨fd, G, F.bindsN bd, kp, hm⟩
section
variable {X : Cx} {x : Str} {ps : List Str} {sp : Sp} {j k : Nat} {p pos : Pos} {e : Expr} {es : List Expr} {t : TA}
/-- a call of such a def that lets nothing out -/
theorem pe_fnG (c : ClG X.prog X.w X.K X.mg X.base k x ps sp) (gd : X.A.guards = some []) (hr : Room j X.A) (hk : k ≤ j) (hg : Gl X x) (ha : PA X (e :: es) t) (hdb : (x == ("__debug__" : Str)) = false := by decide)
    (he : starEach (e :: es) X.env = (false, eval e X.env) :: starEach es X.env := by rfl) (hpl : (backTo pos (starEach es X.env)).any (·.1) = false := by rfl) : PE X (.Call (.Name x p) (e :: es) [] pos) (tCall sp [] E0 t) := by
  obtain ⟨fd, F, b, kp, hm⟩ := c
  constructor
  intro pins s σ H Q I h
  refine wpAny_Call_Name_kw (ld_glob I hg hm ?_ hdb)
  refine PySem.W.callWith_K (h₀ := X.base) I.ok.mod.kin kp (thn (ha.run pos pins s σ H _ I h) fun us s1 hh => ?_) he hpl
  obtain ⟨vs, H1, I1, r, q⟩ := hh
  rw [List.append_nil] at q
  refine ⟨I1.kIn, wpAny_call (codeAny_mono (F.goes X.A X.stack s1 H1 ⟨us, []⟩ us vs Q E0 gd (hr.mono hk) I1.env0 (by
    have b2 := b s1 us I1.kIn (by rw [List.append_nil, ← r.length]; exact F.long _ _ _ _ q)
    rw [List.append_nil] at b2
    exact b2) r q) fun r s' hq => ?_)⟩
  match r, hq with
  | .error e, hq => exact passL pins σ H1 s1 e s' I1 hq
  | .ok (.ret u), hq => exact I1.after hq
/-- repr of data -/
theorem call_reprD (gd : X.A.guards = some []) (un : X.A.units + 70 < cLine) : CallR X (.builtin "repr") (fun xs H Q => ∃ v d, xs = [v] ∧ Dp X.K H v d ∧ (d = .none ∨ (∃ i, d = .int i) ∨ ∃ a, v = .ref a) ∧ d.showable = true ∧ d.hasDict = false ∧ d.depth ≤ 64 ∧ d.shown.length ≤ sizeLine ∧ Q (.str d.shown) H) := by
  intro pins s σ H xs us Q I r h
  obtain ⟨v, d, rfl, hd, hk, h1, h2, h3, h4, q⟩ := h
  obtain ⟨u, rfl, ru⟩ := vals1 r
  rcases hk with rfl | ⟨i, rfl⟩ | ⟨a, rfl⟩
  · cases hd
    obtain rfl : u = .none := ru
    exact PySem.P.repr_of_none ⟨.str _, H, I.tok _, ⟨_, rfl⟩, q⟩
  · cases hd
    obtain ⟨t, rfl⟩ := ru
    exact PySem.P.repr_of_int (of_decide_eq_true h1) ⟨.str _, H, I.tok _, ⟨_, rfl⟩, q⟩
  · obtain ⟨as, hr⟩ := Dp.reads I d _ _ hd ru
    obtain rfl : u = .ref a := ru
    exact repr_of_reads' hr h1 (PyData.noDict_hsm h2) gd (by omega) (fun _ _ z => z) (fun h' t tk hk => ⟨.str _, H, I.kept hk, ⟨_, rfl⟩, q⟩) h4
end
end K31
set_option Elab.async false
set_option linter.all false
set_option maxRecDepth 100000
set_option maxHeartbeats 4000000
namespace K31
open PySem PySem.Spec PyProof.Rows L2
/-! what is told stays small: its text, its depth -/
mutual
def lv : PyData → Nat
  | .list xs | .tuple xs => 1 + lvAll xs
  | _ => 1
def lvAll : List PyData → Nat
  | [] => 0
  | x :: xs => lv x + lvAll xs
end
mutual
def neat : PyData → Bool
  | .none | .bool _ => true
  | .int i => decide (i.natAbs < 2 ^ 700)
  | .str z => decide (z.length ≤ 101) && PyData.strOk z
  | .list xs | .tuple xs => neatAll xs
  | .dict _ => false
def neatAll : List PyData → Bool
  | [] => true
  | x :: xs => neat x && neatAll xs
end
theorem textFrom_le : ∀ (ts : List Str) (k : Nat) (acc : Str), (textFrom k acc ts).length ≤ acc.length + piled ts
  | [], k, acc => Nat.le_add_right _ _
  | t :: ts, k, acc => by
    have e2 : Str.length ", " = 2 := by decide +kernel
    rw [piled_cons, textFrom]
    refine Nat.le_trans (textFrom_le ts _ _) ?_
    have e0 : Str.length "" = 0 := by decide +kernel
    rw [str_len_app, str_len_app]
    split
    · rw [e2]
      omega
    · rw [e0]
      omega
theorem list_text (ts : List Str) : (listText ts).length ≤ piled ts + 2 := by
  have e1 : Str.length "[" = 1 := by decide +kernel
  have e2 : Str.length "]" = 1 := by decide +kernel
  unfold listText
  rw [str_len_app, e2]
  have := textFrom_le ts 0 "["
  omega
mutual
theorem neat_shown : ∀ d : PyData, neat d = true → d.shown.length + 2 ≤ 1100 * lv d ∧ d.showable = true ∧ d.hasDict = false
  | .none, _ => by
    unfold PyData.shown PyData.showable PyData.hasDict lv
    exact ⟨by decide +kernel, rfl, rfl⟩
  | .bool b, _ => by
    unfold PyData.shown PyData.showable PyData.hasDict lv
    cases b <;> exact ⟨by decide +kernel, rfl, rfl⟩
  | .int i, h => by
    unfold neat at h
    unfold PyData.shown PyData.showable PyData.hasDict lv
    have h1 := of_decide_eq_true h
    have h2 : i.natAbs.log2 < 700 := by
      by_cases z : i.natAbs = 0
      · rw [z]
        decide
      · exact (Nat.log2_lt z).mpr h1
    have h3 := int_text_length_le (by decide) h2
    refine ⟨?_, decide_eq_true (by omega), rfl⟩
    have h4 : (Str.ofString (toString i)).length = (toString i).length := PySem.ofString_length _
    rw [h4]
    omega
  | .str z, h => by
    unfold neat at h
    rw [Bool.and_eq_true, decide_eq_true_iff] at h
    unfold PyData.shown PyData.showable PyData.hasDict lv
    have h2 := StrLaws.reprText_len z fun c hc => by
      have h3 := h.2
      unfold PyData.strOk at h3
      rw [Array.all_eq_true'] at h3
      have h4 := of_decide_eq_true (h3 c (by simpa using hc))
      exact Nat.lt_trans h4 (by decide)
    exact ⟨by omega, rfl, rfl⟩
  | .list xs, h => by
    unfold neat at h
    unfold PyData.shown PyData.showable PyData.hasDict lv
    have h1 := neat_all xs h
    have h2 := list_text (PyData.shownAll xs)
    exact ⟨by omega, h1.2⟩
  | .tuple xs, h => by
    unfold neat at h
    unfold PyData.shown PyData.showable PyData.hasDict lv
    have h1 := neat_all xs h
    have h2 := fmt_text (PyData.shownAll xs)
    exact ⟨by omega, h1.2⟩
  | .dict _, h => by
    unfold neat at h
    cases h
theorem neat_all : ∀ ds : List PyData, neatAll ds = true → piled (PyData.shownAll ds) ≤ 1100 * lvAll ds ∧ PyData.showableAll ds = true ∧ PyData.hasDictAll ds = false
  | [], _ => by
    unfold PyData.shownAll PyData.showableAll PyData.hasDictAll lvAll
    exact ⟨by decide +kernel, rfl, rfl⟩
  | d :: ds, h => by
    unfold neatAll at h
    rw [Bool.and_eq_true] at h
    have h1 := neat_shown d h.1
    have h2 := neat_all ds h.2
    unfold PyData.shownAll PyData.showableAll PyData.hasDictAll lvAll
    rw [piled_cons, h1.2.1, h1.2.2, h2.2.1, h2.2.2]
    exact ⟨by omega, rfl, rfl⟩
end
/-! ### data of statements -/
def Wo (z : Str) : Prop := Wd z = true ∨ z = ""
theorem neat_wo {z : Str} (h : Wo z) : neat (.str z) = true := by
  unfold neat
  rw [Bool.and_eq_true, decide_eq_true_iff]
  refine ⟨?_, strOk_wd h⟩
  rcases h with h | h
  · exact wd_len h
  · rw [h]
    decide +kernel
theorem neat_int {i : Int} (h : i.natAbs < 2 ^ 400) : neat (.int i) = true := by
  unfold neat
  exact decide_eq_true (Nat.lt_trans h (Nat.pow_lt_pow_right (by decide) (by decide)))
def TermOk (q : TermV) : Prop := q.1.natAbs < 2 ^ 400 ∧ Wo q.2.1 ∧ q.2.2.natAbs < 2 ^ 400
structure TmOk (s : TmS) (n : Nat) : Prop where
  found : ∀ q ∈ s.found, TermOk q
  len : s.found.length ≤ n
  turn : s.turn = 1 ∨ s.turn = -1
  num : s.num = "" ∨ isNumber s.num = true
  name : Wo s.name
  place : s.place.natAbs < 2 ^ 400
theorem num_small {z : Str} (h : isNumber z = true) : (intOf z).natAbs < 2 ^ 400 := Nat.lt_trans (number_ok h).2.2.2 (Nat.pow_lt_pow_right (by decide) (by decide))
theorem tmEnd_ok {s : TmS} {n : Nat} (h : TmOk s n) : (∀ q ∈ tmEnd s, TermOk q) ∧ (tmEnd s).length ≤ n + 1 := by
  unfold tmEnd
  split
  · refine ⟨fun q hq => ?_, by rw [List.length_append, List.length_singleton]; have := h.len; omega⟩
    rcases List.mem_append.mp hq with hq | hq
    · exact h.found q hq
    · rw [List.mem_singleton.mp hq]
      refine ⟨?_, h.name, h.place⟩
      have h1 : (if s.num ≠ "" then intOf s.num else 1 : Int).natAbs < 2 ^ 400 := by
        split
        · rename_i c
          exact num_small (h.num.resolve_left c)
        · decide
      show (s.turn * (if s.num ≠ "" then intOf s.num else 1 : Int)).natAbs < _
      rcases h.turn with e | e <;> rw [e, Int.natAbs_mul] <;> simpa using h1
  · exact ⟨h.found, Nat.le_succ_of_le h.len⟩
theorem tmStep_ok {s : TmS} {n : Nat} {z : Str} (h : TmOk s n) (hz : Wo z) : TmOk (tmStep s z) (n + 1) := by
  have hl := Nat.le_succ_of_le h.len
  unfold tmStep
  split
  · have h1 := tmEnd_ok h
    refine ⟨h1.1, h1.2, ?_, .inl rfl, .inr rfl, Nat.two_pow_pos _⟩
    show (if z = "+" then 1 else -1 : Int) = 1 ∨ _
    split
    · exact .inl rfl
    · exact .inr rfl
  · split
    · exact ⟨h.found, hl, h.turn, h.num, h.name, Nat.one_lt_two_pow (by decide)⟩
    · split
      · rename_i c
        exact ⟨h.found, hl, h.turn, h.num, h.name, num_small c.1⟩
      · split
        · rename_i c
          exact ⟨h.found, hl, h.turn, .inr c, h.name, h.place⟩
        · split
          · exact ⟨h.found, hl, h.turn, h.num, hz, h.place⟩
          · exact ⟨h.found, hl, h.turn, h.num, h.name, h.place⟩
theorem tmFold_ok : ∀ {ws : List Str} {s : TmS} {n : Nat}, TmOk s n → (∀ z ∈ ws, Wo z) → TmOk (ws.foldl tmStep s) (n + ws.length)
  | [], _, _, h, _ => h
  | z :: zs, s, n, h, hw => by
    have := tmFold_ok (ws := zs) (tmStep_ok h (hw z (List.mem_cons_self ..))) fun x hx => hw x (List.mem_cons_of_mem _ hx)
    rw [List.length_cons, show n + (zs.length + 1) = n + 1 + zs.length by omega]
    exact this
theorem wo_plus : Wo "+" := .inl (by decide +kernel)
theorem lTerms_ok {ws : List Str} (hw : ∀ z ∈ ws, Wo z) : (∀ q ∈ lTerms ws, TermOk q) ∧ (lTerms ws).length ≤ ws.length + 1 := by
  have h0 : TmOk tm0 0 := ⟨fun q hq => (by cases hq), Nat.le_refl _, .inl rfl, .inl rfl, .inr rfl, Nat.two_pow_pos _⟩
  have h := tmFold_ok (ws := ws ++ [("+" : Str)]) h0 fun z hz => by
    rcases List.mem_append.mp hz with hz | hz
    · exact hw z hz
    · rw [List.mem_singleton.mp hz]
      exact wo_plus
  refine ⟨h.found, ?_⟩
  have h2 := h.len
  rw [List.length_append, List.length_singleton, Nat.zero_add] at h2
  exact h2
theorem termD_ok {q : TermV} (h : TermOk q) : neat (termD q) = true ∧ lv (termD q) = 4 ∧ (termD q).depth = 1 := by
  refine ⟨?_, rfl, rfl⟩
  unfold termD
  simp only [neat, neatAll, Bool.and_true, Bool.and_eq_true]
  have h1 := neat_int h.1
  have h2 := neat_wo h.2.1
  have h3 := neat_int h.2.2
  unfold neat at h1 h2 h3
  rw [Bool.and_eq_true] at h2
  exact ⟨h1, h2, h3⟩
theorem forms_ok : ∀ {l : List TermV}, (∀ q ∈ l, TermOk q) → neatAll (l.map termD) = true ∧ lvAll (l.map termD) = 4 * l.length ∧ PyData.depthAll (l.map termD) ≤ 1
  | [], _ => ⟨rfl, rfl, Nat.zero_le _⟩
  | q :: l, h => by
    have h1 := termD_ok (h q (List.mem_cons_self ..))
    have h2 := forms_ok (l := l) fun x hx => h x (List.mem_cons_of_mem _ hx)
    rw [List.map_cons]
    unfold neatAll lvAll PyData.depthAll
    rw [h1.1, h2.1, h1.2.1, h2.2.1, h1.2.2, List.length_cons]
    exact ⟨rfl, by omega, Nat.max_le.mpr ⟨Nat.le_refl _, h2.2.2⟩⟩
theorem formD_ok {ws : List Str} (hw : ∀ z ∈ ws, Wo z) : neat (formD (lTerms ws)) = true ∧ lv (formD (lTerms ws)) ≤ 4 * ws.length + 5 ∧ (formD (lTerms ws)).depth ≤ 2 := by
  have h1 := lTerms_ok hw
  have h2 := forms_ok h1.1
  unfold formD
  unfold neat lv PyData.depth
  refine ⟨h2.1, ?_, Nat.succ_le_succ h2.2.2⟩
  rw [h2.2.1]
  have := h1.2
  omega
theorem fracD_ok {ws : List Str} {t n d : Int} (h : FracW ws t n d) : neat (fracD (frac (t * n) d)) = true ∧ lv (fracD (frac (t * n) d)) = 3 ∧ (fracD (frac (t * n) d)).depth = 1 := by
  refine ⟨?_, rfl, rfl⟩
  obtain ⟨nn, dd, rfl, rfl, h0, hn, hd, ht, _⟩ := fracW_ok h
  rw [frac_eq ht]
  have h1 : (t * ((nn : Int) / ((Nat.gcd nn dd : Nat) : Int))).natAbs < 2 ^ 400 := by
    have e : (t * ((nn : Int) / ((Nat.gcd nn dd : Nat) : Int))).natAbs = nn / Nat.gcd nn dd := by
      rw [Int.natAbs_mul, show ((nn : Int) / ((Nat.gcd nn dd : Nat) : Int)) = ((nn / Nat.gcd nn dd : Nat) : Int) from rfl, Int.natAbs_natCast]
      rcases ht with e | e <;> rw [e] <;> simp
    rw [e]
    exact Nat.lt_of_le_of_lt (Nat.div_le_self _ _) (Nat.lt_trans hn (Nat.pow_lt_pow_right (by decide) (by decide)))
  have h2 : ((dd : Int) / ((Nat.gcd nn dd : Nat) : Int)).natAbs < 2 ^ 400 := by
    rw [show ((dd : Int) / ((Nat.gcd nn dd : Nat) : Int)) = ((dd / Nat.gcd nn dd : Nat) : Int) from rfl, Int.natAbs_natCast]
    exact Nat.lt_of_le_of_lt (Nat.div_le_self _ _) (Nat.lt_trans hd (Nat.pow_lt_pow_right (by decide) (by decide)))
  have h3 := neat_int h1
  have h4 := neat_int h2
  unfold neat at h3 h4
  unfold fracD
  simp only [neat, neatAll, Bool.and_true, Bool.and_eq_true]
  exact ⟨h3, h4⟩
theorem depth_fix : (∀ i : Int, (PyData.int i).depth = 0) ∧ ∀ z : Str, (PyData.str z).depth = 0 := ⟨fun _ => rfl, fun _ => rfl⟩
theorem strs_neat : ∀ {l : List Str}, (∀ z ∈ l, Wo z) → neatAll (l.map PyData.str) = true ∧ lvAll (l.map PyData.str) = l.length ∧ PyData.depthAll (l.map PyData.str) = 0
  | [], _ => ⟨rfl, rfl, rfl⟩
  | z :: l, h => by
    have h2 := strs_neat (l := l) fun x hx => h x (List.mem_cons_of_mem _ hx)
    rw [List.map_cons]
    unfold neatAll lvAll PyData.depthAll
    rw [neat_wo (h z (List.mem_cons_self ..)), h2.1, h2.2.1, h2.2.2, List.length_cons]
    exact ⟨rfl, Nat.add_comm 1 _, rfl⟩
/-- small: neat, of so many leaves, so deep -/
def Small (d : PyData) (n k : Nat) : Prop := neat d = true ∧ lv d ≤ n ∧ d.depth ≤ k
def Smalls (ds : List PyData) (n k : Nat) : Prop := neatAll ds = true ∧ lvAll ds ≤ n ∧ PyData.depthAll ds ≤ k
theorem Smalls.nil {k : Nat} : Smalls [] 0 k := ⟨rfl, Nat.le_refl _, Nat.zero_le _⟩
theorem Smalls.cons {d : PyData} {ds : List PyData} {n m k : Nat} (h : Small d n k) (hs : Smalls ds m k) : Smalls (d :: ds) (n + m) k := by
  unfold Smalls neatAll lvAll PyData.depthAll
  rw [h.1, hs.1]
  exact ⟨rfl, Nat.add_le_add h.2.1 hs.2.1, Nat.max_le.mpr ⟨h.2.2, hs.2.2⟩⟩
theorem Smalls.tup {ds : List PyData} {n k : Nat} (h : Smalls ds n k) : Small (.tuple ds) (n + 1) (k + 1) := by
  unfold Small neat lv PyData.depth
  exact ⟨h.1, by have := h.2.1; omega, Nat.succ_le_succ h.2.2⟩
theorem Smalls.lst {ds : List PyData} {n k : Nat} (h : Smalls ds n k) : Small (.list ds) (n + 1) (k + 1) := by
  unfold Small neat lv PyData.depth
  exact ⟨h.1, by have := h.2.1; omega, Nat.succ_le_succ h.2.2⟩
theorem Small.more {d : PyData} {n m k j : Nat} (h : Small d n k) (l : n ≤ m) (kj : k ≤ j) : Small d m j := ⟨h.1, Nat.le_trans h.2.1 l, Nat.le_trans h.2.2 kj⟩
theorem small_wo {z : Str} {k : Nat} (h : Wo z) : Small (.str z) 1 k := ⟨neat_wo h, Nat.le_refl _, Nat.zero_le _⟩
theorem small_int {i : Int} {k : Nat} (h : i.natAbs < 2 ^ 400) : Small (.int i) 1 k := ⟨neat_int h, Nat.le_refl _, Nat.zero_le _⟩
theorem small_nat {n : Nat} {k : Nat} (h : n ≤ 1000) : Small (.int (n : Int)) 1 k := small_int (by
  rw [Int.natAbs_natCast]
  have h2 : (1000 : Nat) < 2 ^ 10 := by decide
  exact Nat.lt_of_le_of_lt h (Nat.lt_trans h2 (Nat.pow_lt_pow_right (by decide) (by decide))))
theorem small_form {ws : List Str} (h : ∀ z ∈ ws, Wo z) : Small (formD (lTerms ws)) (4 * ws.length + 5) 2 := formD_ok h
theorem small_frac {ws : List Str} {t n d : Int} (h : FracW ws t n d) : Small (fracD (frac (t * n) d)) 3 2 := ⟨(fracD_ok h).1, Nat.le_of_eq (fracD_ok h).2.1, by rw [(fracD_ok h).2.2]; decide⟩
theorem sign_wo {z : Str} (h : isSign z) : Wo z := by
  unfold isSign at h
  simp only [List.mem_cons, List.not_mem_nil, or_false] at h
  rcases h with e | e | e <;> rw [e] <;> exact .inl (by decide +kernel)
theorem shape_small {ws : List Str} {f : Nat → PyData} (h : Shape ws f) (hw : ∀ z ∈ ws, Wo z) {row : Nat} (hr : row ≤ 1000) : Small (f row) (4 * ws.length + 30) 3 := by
  have hd : ∀ z ∈ heads, Wo z := fun z hz => by
    have h2 : heads.all (fun z => Wd z) = true := by decide +kernel
    exact .inl (List.all_eq_true.mp h2 z hz)
  have R : ∀ {k : Nat}, Small (.int (row : Int)) 1 k := small_nat hr
  cases h with
  | unknowns r =>
    have h2 := strs_neat (l := r) fun z hz => hw z (List.mem_cons_of_mem _ hz)
    have h3 : Small (.list (r.map PyData.str)) (r.length + 1) 2 := (Smalls.lst (k := 1) ⟨h2.1, Nat.le_of_eq h2.2.1, by rw [h2.2.2]; decide⟩)
    exact (Smalls.tup (.cons (small_wo (hd _ (by decide +kernel))) (.cons R (.cons h3 .nil)))).more (by rw [List.length_cons]; omega) (Nat.le_refl _)
  | moments h => exact (Smalls.tup (k := 2) (.cons (small_wo (hd _ (by decide +kernel))) (.cons R (.cons (small_int (num_small h)) .nil)))).more (by show 4 ≤ _; omega) (Nat.le_refl _)
  | back n => exact (Smalls.tup (k := 2) (.cons (small_wo (hd _ (by decide +kernel))) (.cons R (.cons (small_wo (hw _ (List.mem_cons_of_mem _ (List.mem_cons_self ..)))) .nil)))).more (by show 4 ≤ _; omega) (Nat.le_refl _)
  | @reading a b m fr t n d h hf =>
    have ha : Wo a := hw _ (List.mem_cons_of_mem _ (List.mem_cons_self ..))
    have hb : Wo b := hw _ (List.mem_cons_of_mem _ (List.mem_cons_of_mem _ (List.mem_cons_self ..)))
    exact (Smalls.tup (.cons (small_wo (hd _ (by decide +kernel))) (.cons R (.cons (small_wo ha) (.cons (small_wo hb) (.cons (small_int (num_small h)) (.cons (small_frac hf) .nil))))))).more (by show 9 ≤ _; omega) (Nat.le_refl _)
  | @sensor a fw fr t n d h hf =>
    have ha : Wo a := hw _ (List.mem_cons_of_mem _ (List.mem_cons_self ..))
    have hfw : ∀ z ∈ fw, Wo z := fun z hz => hw z (List.mem_cons_of_mem _ (List.mem_cons_of_mem _ (List.mem_cons_of_mem _ (List.mem_append_left _ hz))))
    refine (Smalls.tup (.cons (small_wo (hd _ (by decide +kernel))) (.cons R (.cons (small_wo ha) (.cons (small_form hfw) (.cons (small_frac hf) .nil)))))).more ?_ (Nat.le_refl _)
    simp only [List.length_cons, List.length_append]
    omega
  | @step m sg l r h hl hs =>
    have hfl : ∀ z ∈ l, Wo z := fun z hz => hw z (List.mem_cons_of_mem _ (List.mem_cons_of_mem _ (List.mem_cons_of_mem _ (List.mem_append_left _ hz))))
    have hfr : ∀ z ∈ r, Wo z := fun z hz => hw z (List.mem_cons_of_mem _ (List.mem_cons_of_mem _ (List.mem_cons_of_mem _ (List.mem_append_right _ (List.mem_cons_of_mem _ hz)))))
    refine (Smalls.tup (.cons (small_wo (hd _ (by decide +kernel))) (.cons R (.cons (small_int (num_small h)) (.cons (small_form hfl) (.cons (small_wo (sign_wo hs)) (.cons (small_form hfr) .nil))))))).more ?_ (Nat.le_refl _)
    simp only [List.length_cons, List.length_append]
    omega
  | @comp h sg l r hh hl hs =>
    have hfl : ∀ z ∈ l, Wo z := fun z hz => hw z (List.mem_cons_of_mem _ (List.mem_append_left _ hz))
    have hfr : ∀ z ∈ r, Wo z := fun z hz => hw z (List.mem_cons_of_mem _ (List.mem_append_right _ (List.mem_cons_of_mem _ hz)))
    refine (Smalls.tup (.cons (small_wo (hw _ (List.mem_cons_self ..))) (.cons R (.cons (small_form hfl) (.cons (small_wo (sign_wo hs)) (.cons (small_form hfr) .nil)))))).more ?_ (Nat.le_refl _)
    simp only [List.length_cons, List.length_append]
    omega
theorem smalls_app {ds : List PyData} {d : PyData} {n m k : Nat} (h : Smalls ds n k) (hd : Small d m k) : Smalls (ds ++ [d]) (n + m) k := by
  induction ds generalizing n with
  | nil =>
    have h2 := Smalls.cons hd Smalls.nil
    exact ⟨h2.1, by have := h2.2.1; show lvAll [d] ≤ _; omega, h2.2.2⟩
  | cons x xs ih =>
    have h1 := h.1
    have h2 := h.2.1
    have h3 := h.2.2
    unfold neatAll at h1
    unfold lvAll at h2
    unfold PyData.depthAll at h3
    rw [Bool.and_eq_true] at h1
    have h4 := ih (n := lvAll xs) ⟨h1.2, Nat.le_refl _, Nat.le_trans (Nat.le_max_right _ _) h3⟩
    rw [List.cons_append]
    have h5 := Smalls.cons (d := x) (n := lv x) ⟨h1.1, Nat.le_refl _, Nat.le_trans (Nat.le_max_left _ _) h3⟩ h4
    exact ⟨h5.1, by have := h5.2.1; omega, h5.2.2⟩
theorem rowOk_wo {r : List (Nat × Str)} (h : RowOk r) : ∀ z ∈ r.map (·.2), Wo z := fun z hz => by
  obtain ⟨l, s, rfl, hw, hl⟩ := h
  obtain ⟨q, hq, rfl⟩ := List.mem_map.mp hz
  rcases List.mem_append.mp hq with hq | hq
  · exact .inl (hw q hq)
  · rw [List.mem_singleton.mp hq]
    exact .inr rfl
theorem due_small {n : Nat} {acc ds : List PyData} {rows : List (List (Nat × Str))} {o : Option (Nat × Nat)} (h : Due n acc rows ds o) : (∀ r ∈ rows, RowOk r) → n + rows.length ≤ 1000 → ∀ m, Smalls acc m 3 → Smalls ds (m + 230 * rows.length) 3 ∧ ds.length ≤ acc.length + rows.length ∧ ∀ q, o = some q → q.1 ≤ n + rows.length ∧ ∃ r ∈ rows, ∃ z, (q.2, z) ∈ r := by
  induction h with
  | nil => exact fun _ _ m hm => ⟨hm, Nat.le_refl _, fun q hq => by cases hq⟩
  | @skip n acc ds r rs o h d ih =>
    intro ho hn m hm
    rw [List.length_cons] at hn ⊢
    obtain ⟨i1, i2, i3⟩ := ih (fun x hx => ho x (List.mem_cons_of_mem _ hx)) (by omega) m hm
    refine ⟨⟨i1.1, by have := i1.2.1; omega, i1.2.2⟩, by omega, fun q hq => ?_⟩
    obtain ⟨j1, x, hx, j2⟩ := i3 q hq
    exact ⟨by omega, x, List.mem_cons_of_mem _ hx, j2⟩
  | @fault n acc r rs q h m hq =>
    intro ho hn m hm
    rw [List.length_cons]
    refine ⟨⟨hm.1, by have := hm.2.1; omega, hm.2.2⟩, by omega, fun q2 e => ?_⟩
    cases e
    exact ⟨by show n + 1 ≤ _; omega, r, List.mem_cons_self .., q.2, List.mem_of_getElem? hq⟩
  | @ok n acc ds r rs o f h m s d ih =>
    intro ho hn m hm
    rw [List.length_cons] at hn ⊢
    have hr := ho r (List.mem_cons_self ..)
    have hl := (rowOk_words hr).2.1
    have hs := shape_small s (fun z hz => rowOk_wo hr z (List.dropLast_subset _ hz)) (row := n + 1) (by omega)
    rw [List.length_dropLast, List.length_map] at hs
    obtain ⟨i1, i2, i3⟩ := ih (fun x hx => ho x (List.mem_cons_of_mem _ hx)) (by omega) (m + 230) (smalls_app hm (hs.more (by omega) (Nat.le_refl _)))
    rw [List.length_append, List.length_singleton] at i2
    refine ⟨⟨i1.1, by have := i1.2.1; omega, i1.2.2⟩, by omega, fun q hq => ?_⟩
    obtain ⟨j1, x, hx, j2⟩ := i3 q hq
    exact ⟨by omega, x, List.mem_cons_of_mem _ hx, j2⟩
/-- what small data's repr asks -/
theorem Small.repr {d : PyData} {n k : Nat} (h : Small d n k) (hn : n ≤ 15000) (hk : k ≤ 64) : d.showable = true ∧ d.hasDict = false ∧ d.depth ≤ 64 ∧ d.shown.length ≤ sizeLine := by
  obtain ⟨h1, h2, h3⟩ := neat_shown d h.1
  refine ⟨h2, h3, Nat.le_trans h.2.2 hk, ?_⟩
  have h4 := h.2.1
  have h5 : (16777216 : Nat) ≤ sizeLine := by decide
  omega
end K31
set_option Elab.async false
set_option linter.all false
set_option maxRecDepth 100000
set_option maxHeartbeats 4000000
namespace K31
open PySem PySem.Spec PyProof.Rows L2
/-! calls by keyword, within a try; isinstance of the caught error; spots -/
def tKwS (sp : Sp) (E : L2.St → XK) (tk : TA) : TE := fun σ H Q => tk σ H fun zs H1 => zs.length = 1 ∧ sp zs H1 Q (E σ)
section
variable {X : Cx} {x a : Str} {ps : List Str} {sp : Sp} {j k : Nat} {p pos : Pos} {e : Expr} {es : List Expr} {t tk : TA} {kws : List Keyword} {E : L2.St → XK} {d : He.DefD}
/-- x(a = ..), a the def's one parameter -/
theorem pe_kw (c : Cl X.prog X.w X.K X.mg X.base k x [a] sp) (F : ∃ fd, FunD X.K d.name d.qual d.params d.body d.scope [] [] (He.fAd X.K d.at_) fd) (hat : d.at_ = (x, none))
    (bd : ∀ (kV doc pm : Value) (an : Option Addr) (cdv ct u : Value), bindArgs (PySem.W.fnOf d.name d.qual d.params d.body d.scope .none kV doc pm an cdv ct) ⟨[], [(a, u)]⟩ = pure [(a, u)])
    (hr : Room j X.A) (hk : k ≤ j) (hx : ∀ σ, PassesAt (L2.CX X.prog X.w) X σ (E σ)) (hg : Gl X x) (hkw : PK X kws tk) (hall : (backToKw pos (keywordEach kws X.env)).all (·.1.isSome) = true := by rfl) (hks : (backToKw pos (keywordEach kws X.env)).filterMap (·.1) = [a] := by rfl)
    (hdb : (x == ("__debug__" : Str)) = false := by decide) (hpl : ((backTo pos (starEach [] X.env)).any (·.1) || (backToKw pos (keywordEach kws X.env)).any (·.1.isNone)) = false := by rfl) :
    PE X (.Call (.Name x p) [] kws pos) (tKwS sp E tk) := by
  obtain ⟨fd, G, _, kp, hm, oc0, od0, osl0, lk0⟩ := c
  obtain ⟨fd2, F⟩ := F
  have e1 : He.fAd X.K d.at_ = He.ga X.K x := by rw [hat] <;> rfl
  rw [e1] at F
  obtain ⟨oc, od, dV, kV, doc, pm, an, cdv, ct, osl, rfl, lk, _, hD, _⟩ := F.ex
  rcases hD with ⟨_, rfl⟩ | ⟨z, _⟩
  · have e2 := lk0.symm.trans lk
    simp only [Option.some.injEq, Obj.mk.injEq] at e2
    have e3 : fd = PySem.W.fnOf d.name d.qual d.params d.body d.scope .none kV doc pm an cdv ct := by
      have e4 := e2.2.2.1
      injection e4
    constructor
    intro pins s σ H Q I h
    refine wpAny_Call_Name_kw (ld_glob I hg hm ?_ hdb)
    refine PySem.W.callWith_KW0 (h₀ := X.base) I.ok.mod.kin kp hall ?_ hpl
    refine thn (hkw.run pos pins s σ H _ I h) fun ws s2 hh => ?_
    obtain ⟨zs, H2, I2, rz, l1, q2⟩ := hh
    refine ⟨I2.kIn, ?_⟩
    rw [hks]
    match zs, l1, rz, q2 with
    | [z], _, rz, q2 =>
      obtain ⟨u, rfl, _⟩ := vals1 rz
      refine wpAny_call (codeAny_mono (G.run X.A X.stack s2 H2 ⟨[], [(a, u)]⟩ [u] [z] Q (E σ) (hr.mono hk) I2.env0 (by
        rw [e3]
        exact BindsTo.of_eq (bd kV doc pm an cdv ct u)) rz q2) fun r s' hq => ?_)
      match r, hq with
      | .error e, hq => exact hx σ pins H2 s2 e s' I2 hq
      | .ok (.ret u), hq => exact I2.after hq
  · exact absurd rfl z
/-- a call within a try -/
theorem pe_fnS (c : Cl X.prog X.w X.K X.mg X.base k x ps sp) (hr : Room j X.A) (hk : k ≤ j) (hx : ∀ σ, PassesAt (L2.CX X.prog X.w) X σ (E σ)) (hg : Gl X x) (ha : PA X (e :: es) t) (hdb : (x == ("__debug__" : Str)) = false := by decide)
    (he : starEach (e :: es) X.env = (false, eval e X.env) :: starEach es X.env := by rfl) (hpl : (backTo pos (starEach es X.env)).any (·.1) = false := by rfl) : PE X (.Call (.Name x p) (e :: es) [] pos) (tCallS sp E t) := by
  obtain ⟨fd, F, b, kp, hm, _⟩ := c
  exact pe_callS F (hr.mono hk) hg hm kp b hx ha hdb he hpl
theorem pass00 (σ : L2.St) : PassesAt (L2.CX X.prog X.w) X σ E0 := fun pins H s e s' I h => passL pins σ H s e s' I h
end
/-! ### the caught error -/
/-- isinstance(e, c) of the error at a that the suite holds -/
def rIsX (K : PySem.W.Frag) (D a : Addr) (cls : Value) (d : Option Addr) : List V → Hp → VK → Prop := fun xs H Q => cls = .ref D ∧ ∃ dd fs c b, d = some dd ∧ H dd = some (.xd fs) ∧ xs = [.ref a, c] ∧
  ((∃ cv, (∀ u, RelV c u → u = cv) ∧ PySem.W.kitOne K (.ref D) cv = some b) ∨ ∃ p rs cvs, c = .ref p ∧ H p = some (.tup rs) ∧ (∀ us, Vals rs us → us = cvs) ∧ PySem.W.kitAny K (.ref D) cvs = some b) ∧ Q (.bl b) H
theorem call_isX {X : Cx} {a : Addr} {cls : Value} {d : Option Addr} {oe : Obj} {pn : List (Addr × Obj)} (T : Ex X.w X.K) (hz : Zc cls d oe) (hf : ∃ vs, oe.data = .fields vs) :
    CallR (X.suite a ((a, oe) :: pn)) (.builtin "isinstance") (rIsX X.K (He.ga X.K "BadText") a cls d) := by
  intro pins s σ H xs us Q I r h
  obtain ⟨rfl, dd, fs, c, b, rfl, hdd, rfl, hc, q⟩ := h
  obtain ⟨u1, u2, rfl, r1, r2⟩ := vals2 r
  obtain rfl : u1 = .ref a := r1
  obtain ⟨hget, _⟩ := I.pin (a, oe) (List.mem_append_left _ List.mem_cons_self)
  obtain ⟨vs, hv⟩ := hf
  obtain ⟨mA, hns, _⟩ := I.hok dd _ hdd
  obtain ⟨od, ho, _⟩ := lookIn_ns hns
  have J : PySem.W.InstAt s.heap a oe (He.ga X.K "BadText") (some od) := ⟨hget, hz.1, by unfold PySem.W.notCls; rw [hv] <;> rfl, by rw [hz.2]; exact ho⟩
  have XB := xfB_ok T.xfB
  have hcl : (PySem.W.clsIn X.K (He.ga X.K "BadText")).isSome = true := by
    obtain ⟨cd, hc, _⟩ := PySem.W.any_some XB.hdC
    rw [hc]
    rfl
  have Z := PySem.W.kitx_exc (x := a) (ox := oe) (od := some od) hcl XB.ga XB.gg XB.exC T.ccls T.cget T.ctk T.mro
  rcases hc with ⟨cv, h1, h2⟩ | ⟨p, rs, cvs, rfl, hp, h1, h2⟩
  · have e := h1 _ r2
    subst e
    exact PySem.W.kia_one Z I.kIn J h2 (fun z => nomatch z) fun tk => ⟨.bl b, H, I.kept (t' := tk) fun _ _ z => z, rfl, q⟩
  · obtain rfl : u2 = .ref p := r2
    obtain ⟨its, rv, ⟨o, ho2, hcl2, n, hd2⟩, _⟩ := I.tuple (sqT hp)
    have e := h1 _ rv
    subst e
    obtain ⟨oc, oda, odt, osl⟩ := o
    dsimp only at hcl2 hd2
    subst hcl2 hd2
    exact PySem.W.kia_tup Z I.kIn J ho2 h2 (fun z => nomatch z) fun tk => ⟨.bl b, H, I.kept (t' := tk) fun _ _ z => z, rfl, q⟩
/-! ### spots -/
theorem tk_spots : ∀ {s : Nat} {t : List Nat} {l : List (Nat × Str)}, Tk s t l → ∀ q ∈ l, q.1 ≤ s + t.length
  | _, _, _, .nil s => fun q hq => by cases hq
  | _, _, _, .sp h => fun q hq => by
    have h1 := tk_spots h q hq
    rw [List.length_cons]
    omega
  | _, _, _, .wd (c := c) (r := r) n h => fun q hq => by
    rcases List.mem_cons.mp hq with rfl | hq
    · exact Nat.le_add_right _ _
    · have h1 := tk_spots h q hq
      have h3 := wlen_le (c :: r)
      rw [List.length_drop] at h1
      omega
theorem spot_le {z : Str} {rows : List (List (Nat × Str))} (h : TextOf z rows) : ∀ r ∈ rows, ∀ q ∈ r, q.1 ≤ 50000 := by
  obtain ⟨_, _, h3, h4⟩ := h
  intro r hr q hq
  obtain ⟨i, hi⟩ := List.getElem?_of_mem hr
  obtain ⟨y, hy, l0, h5, rfl⟩ := h4.get hi
  have hl := h3 y (List.mem_of_getElem? hy)
  rcases List.mem_append.mp hq with hq | hq
  · have h6 := tk_spots h5 q hq
    have h7 : (toldOf y).length ≤ y.length := told_len y
    omega
  · rw [List.mem_singleton.mp hq]
    exact hl
end K31
set_option Elab.async false
set_option linter.all false
set_option maxRecDepth 100000
set_option maxHeartbeats 4000000
namespace K31
open PySem PySem.Spec PyProof.Rows L2
/-! beginnings, asked for -/
local macro_rules | `(tactic| walk_at "st") => `(tactic| try simp only [L2.start, List.map_cons, List.map_nil, List.length_cons, List.length_nil, Nat.reduceAdd, Nat.reduceSub, Nat.add_zero, Nat.zero_add, List.replicate, List.cons_append, List.nil_append, List.append_nil])
local macro_rules | `(tactic| walk_at "wp") => `(tactic| try simp only [tSeq, tIfS, tRet, tOr, tAnd, tNot, tTest, tB, tOp, rI0, rI, rU, tCB, tCons, tNil, tVar, tC, tAsg, gName, tNext, tDrop, tOrV, tAndV, tNotV, tIf, tUn, tYes, wipe, tCall, tTup, tLst, tSl, tPart, tNoPart, tM0, tM1, tIsN, tNotN, tChain, tPar, tBM, tFld, tMeth,
  List.getElem?_cons_zero, List.getElem?_cons_succ, Option.some.injEq, exists_eq_left, exists_eq_left', V.str.injEq, V.int.injEq, V.bl.injEq, V.ref.injEq, List.cons.injEq, and_true, true_and, and_self, exists_and_left, exists_and_right, exists_eq_right, exists_eq, exists_const, reduceCtorEq, decide_eq_true_eq, decide_eq_false_iff_not, List.set_cons_zero, List.set_cons_succ, sg_inj, rEq_ss, rNe_ss, rEq_ii, rNe_ii, ↓reduceIte, Bool.false_eq_true, List.nil_append, List.cons_append, List.append_nil, not_true_eq_false, not_false_eq_true, Bool.not_eq_true', Bool.not_true, Bool.not_false, decide_true, decide_false, or_false, false_or, or_true, true_or, false_and, and_false])
theorem un_of {k : Nat} {A : Around} (r : Room k A) : A.units + 70 < cLine := by
  have := r.un
  omega
def spBegs : Sp := fun vs H Q _ => ∃ (p a : Addr) (rows : List (List (Nat × Str))), vs = [.ref p, .ref a] ∧ PotAt H p ∧ RowsAt H a rows ∧ 1 ≤ rows.length ∧ rows.length ≤ 6 ∧ (∀ r ∈ rows, RowOk r) ∧ ∀ H', Q (.bl true) H'
theorem tLc_call {K : PySem.W.Frag} {sp : Sp} {t : TA} {g : TG} {tt : TT} {te : TE} {vs : List Nat} {σ : L2.St} {H : Hp} {Q : VK} (h : tCall sp [] E0 t σ H fun v H1 => ∃ a, v = .ref a ∧ (∃ xs, SqL K H1 a xs) ∧ lcAt (Itl K a) g tt te vs σ H1 Q) : tLc (iList K (tCall sp [] E0 t)) g tt te vs σ H Q := h
theorem bools_repr (a b : Bool) : (PyData.list [.bool a, .bool b]).showable = true ∧ (PyData.list [.bool a, .bool b]).hasDict = false ∧ (PyData.list [.bool a, .bool b]).depth ≤ 64 ∧ (PyData.list [.bool a, .bool b]).shown.length ≤ sizeLine :=
  Small.repr (n := 3) (k := 1) (Smalls.lst (n := 2) (k := 0) (.cons (n := 1) ⟨rfl, Nat.le_refl _, Nat.le_refl _⟩ (.cons (n := 1) ⟨rfl, Nat.le_refl _, Nat.le_refl _⟩ .nil))) (by decide) (by decide)
theorem bools_dp {K : PySem.W.Frag} {H : Hp} {p : Addr} {a b : Bool} (h : H p = some (.lst [.bl a, .bl b])) : Dp K H (.ref p) (.list [.bool a, .bool b]) := .lst (sqS h) (.cons (.bl a) (.cons (.bl b) .nil))
theorem words_dp {K : PySem.W.Frag} {H : Hp} {p : Addr} {ws : List Str} (h : WordsAt H p ws) : Dp K H (.ref p) (.list (ws.map PyData.str)) := by
  refine .lst (sqS h) ?_
  have key : ∀ l : List Str, DpAll K H (l.map V.str) (l.map PyData.str) := fun l => by
    induction l with
    | nil => exact .nil
    | cons x l ih => exact .cons (.str x) ih
  exact key ws
theorem words_lay {ws : List Str} (h : ∀ z ∈ ws, Okw z) : (PyData.list (ws.map PyData.str)).canLay0 = true ∧ (PyData.list (ws.map PyData.str)).depth ≤ 1 := by
  have h1 := all_lay (f := PyData.str) (k := 0) (l := ws) fun z hz => ⟨by
    unfold PyData.canLay0
    exact (h z hz).2, Nat.le_refl _⟩
  unfold PyData.canLay0 PyData.depth
  exact ⟨h1.1, Nat.succ_le_succ h1.2⟩
theorem words_same {K : PySem.W.Frag} {H : Hp} {Q : VK} {p q : Addr} {ws : List Str} (hp : WordsAt H p ws) (hq : WordsAt H q ws) (h : ∀ z ∈ ws, Okw z) (k : Q (.bl false) H) : rNeD K (.ref p) (.ref q) H Q := by
  have h1 := words_lay h
  have h2 : SeqAt.shaped (.list (ws.map PyData.str)) = true := by
    unfold SeqAt.shaped
    rw [h1.1, decide_eq_true (Nat.le_trans h1.2 (by decide))]
    rfl
  refine ⟨_, _, words_dp hp, words_dp hq, h2, h2, ?_⟩
  rw [SeqAt.eqv_refl _ h1.1]
  exact k
section
variable {P : Program} {w : World} {K : PySem.W.Frag} {mg : Str → Option Value} {base : Heap}
abbrev N_Lare_beginnings : List Str := ["_law_pot_here", "_law_laid_here", "_law_words", "_law_spot", "_law_word", "_law_cut", "_law_odd", "_law_some", "_law_kept", "_law_begins", "_law_due_here"]
abbrev P_Lare_beginnings : List Str := ["_law_pot_here", "_law_laid_here"]
theorem sc_Lare_beginnings : FnScope N_Lare_beginnings P_Lare_beginnings (defScope s_Lare_beginnings) := ⟨rfl, rfl, rfl, by decide +kernel, rfl, by decide +kernel, by decide +kernel⟩
theorem ok_Lare_beginnings (T : Tx w K mg) : ClG P w K mg base 8 "_law_are_beginnings" P_Lare_beginnings spBegs := by
  refine ClG.mk T.d_Lare_beginnings rfl T.g_Lare_beginnings sc_Lare_beginnings (fun _ _ _ _ _ _ us hl => match us, hl with | [_, _], _ => rfl) (fun vs H Q E h => ?_) (fun cdv A outer s H vs Q E hg hr h => ?_)
  · obtain ⟨_, _, _, rfl, _⟩ := h
    rfl
  · obtain ⟨p, a, rows, rfl, hp, ha, hl1, hl6, hro, q⟩ := h
    refine ⟨_, (pss_cons (ps_set (i := 2) sc_Lare_beginnings.nd rfl (Or.inl rfl) (pe_slice sl_list (pe_lc (own := [("_law_spot", 3), ("_law_word", 4)]) (g := (gTup K 2 (gCons (gName 3) (gCons (gName 4) gNil)))) rfl sc_Lare_beginnings.nd (pi_list (pe_fn (ok_Lpick T) hr (by decide) (by rfl) (pa_cons (pv 0) (pa_cons (pv 1) pa_nil)))) (blkOk_by (own := [("_law_spot", 3), ("_law_word", 4)]) (N := N_Lare_beginnings) (sc := defScope s_Lare_beginnings) (by decide +kernel)) (fun _ _ _ _ _ => (pg_tup (n := 2) rfl (pgs_cons (pg_name (i := 3) sc_Lare_beginnings.nd rfl (Or.inl rfl)) (pgs_cons (pg_name (i := 4) sc_Lare_beginnings.nd rfl (Or.inl rfl)) pgs_nil)))) (fun _ _ _ _ _ => pts_nil) (fun _ _ _ _ _ => (pv 4))) po_none (po_some (pe_un un_neg pe_int))))
      (pss_cons (ps_set (i := 5) sc_Lare_beginnings.nd rfl (Or.inl rfl) (pe_slice sl_list (pv 2) po_none (po_some (pe_fn (ok_Ldraw T) hr (by decide) (by rfl) (pa_cons (pv 0) (pa_cons (pe_op op_add (pe_callB call_len_seq (by rfl) T.f_len PySem.boot_len (pa_cons (pv 2) pa_nil)) pe_int) pa_nil))))))
      (pss_cons (ps_set (i := 6) sc_Lare_beginnings.nd rfl (Or.inl rfl) (pe_op op_cat (pv 5) (pe_lst (pa_cons (pe_fn (ok_Lpick T) hr (by decide) (by rfl) (pa_cons (pv 0) (pa_cons (pe_lst (pa_cons pe_str (pa_cons pe_str (pa_cons pe_str (pa_cons pe_str (pa_cons pe_str (pa_cons pe_str (pa_cons pe_str (pa_cons pe_str pa_nil))))))))) pa_nil))) pa_nil))))
      (pss_cons (ps_for (passes_of rfl) rfl (pi_list (pe_lst (pa_cons (pv 2) (pa_cons (pv 5) (pa_cons (pv 6) (pa_cons (pe_lst pa_nil) pa_nil)))))) (pg_name (i := 7) sc_Lare_beginnings.nd rfl (Or.inl rfl)) (pss_cons (ps_set (i := 8) sc_Lare_beginnings.nd rfl (Or.inl rfl) (pe_callTy call_list_of (by rfl) T.f_list (by decide +kernel) (pa_cons (pv 7) pa_nil)))
      (pss_cons (ps_set (i := 9) sc_Lare_beginnings.nd rfl (Or.inl rfl) (pe_and (pe_cmpR op_notIn_seq pe_str (pv 7) (by with_unfolding_all rfl)) (pe_one (pe_cmpR op_eq (pe_fn (ok_Lwalk T) hr (by decide) (by rfl) (pa_cons (pv 7) pa_nil)) (pe_callB call_len_seq (by rfl) T.f_len PySem.boot_len (pa_cons (pv 7) pa_nil)) (nomark _)))))
      (pss_cons (ps_set (i := 10) sc_Lare_beginnings.nd rfl (Or.inl rfl) (pe_lst (pa_cons (pv 9) (pa_cons (pe_and (pv 9) (pe_one (pe_cmpR op_eq (pe_fn (ok_Lwalk T) hr (by decide) (by rfl) (pa_cons (pe_op op_cat (pv 7) (pe_lst (pa_cons pe_str pa_nil))) pa_nil)) (pe_op op_add (pe_callB call_len_seq (by rfl) T.f_len PySem.boot_len (pa_cons (pv 7) pa_nil)) pe_int) (nomark _)))) pa_nil))))
      (pss_cons (ps_if ((pw_or (pt_cmpR op_ne (pe_callB (call_reprD hg (un_of hr)) (by rfl) T.f_repr (by decide +kernel) (pa_cons (pe_lst (pa_cons (pe_fn (ok_is_beginning T) hr (by decide) (by rfl) (pa_cons (pv 7) pa_nil)) (pa_cons (pe_fn (ok_is_statement T) hr (by decide) (by rfl) (pa_cons (pv 7) pa_nil)) pa_nil))) pa_nil)) (pe_callB (call_reprD hg (un_of hr)) (by rfl) T.f_repr (by decide +kernel) (pa_cons (pv 10) pa_nil)) (nomark _)) (pw_or1 (pt_cmpR (op_neD hr.units) (pv 7) (pv 8) (nomark _))))).pt (pss_one (ps_ret pe_bl)) pss_nil)
      (pss_one (ps_if (pt_cmpR op_ne (pe_callB (call_reprD hg (un_of hr)) (by rfl) T.f_repr (by decide +kernel) (pa_cons (pe_lst (pa_cons (pe_kw (a := "words") (E := fun _ => E0) (ok_is_beginning T) T.d_is_beginning rfl (fun _ _ _ _ _ _ _ => rfl) hr (by decide) pass00 (by rfl) (pk_cons (pv 7) pk_nil)) (pa_cons (pe_kw (a := "words") (E := fun _ => E0) (ok_is_statement T) T.d_is_statement rfl (fun _ _ _ _ _ _ _ => rfl) hr (by decide) pass00 (by rfl) (pk_cons (pv 7) pk_nil)) pa_nil))) pa_nil)) (pe_callB (call_reprD hg (un_of hr)) (by rfl) T.f_repr (by decide +kernel) (pa_cons (pv 10) pa_nil)) (nomark _)) (pss_one (ps_ret pe_bl)) pss_nil)))))))
      (pss_one (ps_ret pe_bl)))))), ?_⟩
    walk_at "st"
    obtain ⟨vr, hv, fv⟩ := ha
    have lv := fv.len
    have nv : PotS (.lst vr) := by
      cases fv with
      | nil => exact absurd hl1 (by decide)
      | cons h r =>
        obtain ⟨x, rfl, _⟩ := h
        exact potI fun i z => by cases z
    refine tSeq_op2 fun R hR => ?_
    have tail : ∀ (pw pc : Addr) (ws wc : List Str) (o3 o4 : Option V) (H3 : Hp), PotAt H3 p → WordsAt H3 pw ws → WordsAt H3 pc wc → (∀ z ∈ ws, Okw z) → (∀ z ∈ wc, Okw z) → ws.length ≤ 50 → wc.length ≤ 50 → R [some (V.ref p), some (V.ref a), some (V.ref pw), o3, o4, some (V.ref pc), none, none, none, none, none] H3 := by
      intro pw pc ws wc o3 o4 H3 p3 hw3 hc3 okw okc lw lc
      refine hR _ _ ?_
      walk_at "wp"
      refine ⟨sz3 (Nat.le_of_ble_eq_true rfl), ?_⟩
      (intro l8 hl8; generalize hg0 : upd _ l8 _ = H4; obtain ⟨e4, h4⟩ := upd_ex hl8 hg0; clear hg0)
      refine ⟨p, .ref l8, rfl, p3.all e4, .inl ⟨l8, _, rfl, h4, potI (fun i z => by cases z), Nat.le_of_ble_eq_true rfl, Nat.le_of_ble_eq_true rfl, fun v H5 hv5 e5 p5 => ?_⟩⟩
      obtain ⟨od, rfl, okd⟩ : ∃ od : Str, v = .str od ∧ Okw od := by
        simp only [List.mem_cons, List.not_mem_nil, or_false] at hv5
        rcases hv5 with rfl | rfl | rfl | rfl | rfl | rfl | rfl | rfl <;> exact ⟨_, rfl, by decide +kernel, by decide +kernel⟩
      refine ⟨sz3 (Nat.le_of_ble_eq_true rfl), ?_⟩
      (intro l1 hl1; generalize hg0 : upd _ l1 _ = H6; obtain ⟨e6, h6⟩ := upd_ex hl1 hg0; clear hg0)
      have hc6 := ((hc3.all e4).pot e5).all e6
      have hw6 := ((hw3.all e4).pot e5).all e6
      refine st_cat hc6 h6 (by rw [List.length_map]; show _ + 1 ≤ _; omega) fun po H7 hpo e7 h7 => ?_
      have ho7 : WordsAt H7 po (wc ++ [od]) := by
        unfold WordsAt
        rw [List.map_append]
        exact h7
      have hc7 := hc6.all e7
      have hw7 := hw6.all e7
      walk_at "wp"
      refine ⟨_, rfl, _, rfl, _, rfl, sz3 (Nat.le_of_ble_eq_true rfl), ?_⟩
      (intro pn hpn; generalize hg0 : upd _ pn _ = H8; obtain ⟨e8, h8⟩ := upd_ex hpn hg0; clear hg0)
      refine ⟨sz3 (Nat.le_of_ble_eq_true rfl), ?_⟩
      (intro pl hpl; generalize hg0 : upd _ pl _ = H9; obtain ⟨e9, h9⟩ := upd_ex hpl hg0; clear hg0)
      refine ⟨pl, rfl, ⟨_, sqS h9⟩, ?_⟩
      have e79 := e8.trans e9
      have f9 : F2 (fun v ys => ∃ b, v = V.ref b ∧ WordsAt H9 b ys) [V.ref pw, V.ref pc, V.ref po, V.ref pn] [ws, wc, wc ++ [od], []] := .cons ⟨pw, rfl, hw7.all e79⟩ (.cons ⟨pc, rfl, hc7.all e79⟩ (.cons ⟨po, rfl, ho7.all e79⟩ (.cons ⟨pn, rfl, e9 _ _ h8 trivial⟩ .nil)))
      have ok9 : ∀ ys ∈ [ws, wc, wc ++ [od], []], (∀ z ∈ ys, Okw z) ∧ ys.length ≤ 60 := by
        intro ys hy
        simp only [List.mem_cons, List.not_mem_nil, or_false] at hy
        rcases hy with rfl | rfl | rfl | rfl
        · exact ⟨okw, by omega⟩
        · exact ⟨okc, by omega⟩
        · refine ⟨fun z hz => ?_, by rw [List.length_append, List.length_singleton]; omega⟩
          rcases List.mem_append.mp hz with hz | hz
          · exact okc z hz
          · rw [List.mem_singleton.mp hz]
            exact okd
        · exact ⟨fun z hz => (by cases hz), Nat.zero_le _⟩
      obtain ⟨Pv, hP⟩ := mkI fun (i : Nat) σ HH => ∃ (o7 o8 o9 o10 : Option V), σ = [some (V.ref p), some (V.ref a), some (V.ref pw), o3, o4, some (V.ref pc), some (V.ref po), o7, o8, o9, o10] ∧ Kp AllS H9 HH
      refine for_list (xs := [V.ref pw, V.ref pc, V.ref po, V.ref pn]) Pv ((hP _ _ _).mpr ⟨_, _, _, _, rfl, Kp.refl _⟩) (fun i σ HH _ pv => ?_) (fun i x σ HH hx pv => ?_) (fun σ HH pv => ?_)
      · obtain ⟨_, _, _, _, _, eH⟩ := (hP _ _ _).mp pv
        exact eH.seq (sqS h9)
      · obtain ⟨o7, o8, o9, o10, rfl, eH⟩ := (hP _ _ _).mp pv
        obtain ⟨ys, hys, pb, rfl, hyw⟩ := f9.get' hx
        obtain ⟨oky, ly⟩ := ok9 ys (List.mem_of_getElem? hys)
        have hb := hyw.all eH
        have sh : Short ys := ⟨by omega, fun z hz => (oky z hz).1⟩
        refine tSeq_op2 fun R2 hR2 => ?_
        have tail2 : ∀ (pk : Addr) (H3 : Hp), Kp AllS HH H3 → WordsAt H3 pk ys → R2 [some (V.ref p), some (V.ref a), some (V.ref pw), o3, o4, some (V.ref pc), some (V.ref po), some (V.ref pb), some (V.ref pk), some (V.bl (isBeg ys)), o10] H3 := by
          intro pk H3 eA hk
          refine hR2 _ _ ?_
          refine tSeq_op fun R3 hR3 => ?_
          have tail3 : ∀ (pd : Addr) (H4 : Hp), Kp AllS HH H4 → WordsAt H4 pk ys → H4 pd = some (.lst [.bl (isBeg ys), .bl (isSta ys)]) → R3 [some (V.ref p), some (V.ref a), some (V.ref pw), o3, o4, some (V.ref pc), some (V.ref po), some (V.ref pb), some (V.ref pk), some (V.bl (isBeg ys)), some (V.ref pd)] H4 := by
            intro pd H4 eB hk4 hd4
            refine hR3 _ _ ?_
            walk_at "wp"
            have hb4 := (hb.all eB)
            obtain ⟨r1, r2, r3, r4⟩ := bools_repr (isBeg ys) (isSta ys)
            refine ⟨pb, ys, rfl, hb4, sh, fun H5 e5 => ⟨pb, ys, rfl, hb4.all e5, sh, fun H6 e6 => ⟨sz3 (Nat.le_of_ble_eq_true rfl), ?_⟩⟩⟩
            (intro l7 hl7; generalize hg0 : upd _ l7 _ = H7; obtain ⟨e7, h7⟩ := upd_ex hl7 hg0; clear hg0)
            have e47 := (e5.trans e6).trans e7
            refine ⟨_, bools_dp h7, .inr (.inr ⟨_, rfl⟩), r1, r2, r3, r4, _, bools_dp (e47 _ _ hd4 trivial), .inr (.inr ⟨_, rfl⟩), r1, r2, r3, r4, ?_⟩
            rw [if_neg (not_not_intro rfl)]
            refine words_same (hb4.all e47) (hk4.all e47) oky ⟨_, rfl, ?_⟩
            rw [if_neg Bool.false_ne_true]
            have hb7 := hb4.all e47
            refine ⟨_, rfl, rfl, pb, ys, rfl, hb7, sh, fun H8 e8 => ⟨_, rfl, rfl, pb, ys, rfl, hb7.all e8, sh, fun H9 e9 => ⟨sz3 (Nat.le_of_ble_eq_true rfl), ?_⟩⟩⟩
            (intro l10 hl10; generalize hg0 : upd _ l10 _ = H10; obtain ⟨e10, h10⟩ := upd_ex hl10 hg0; clear hg0)
            have e710 := (e8.trans e9).trans e10
            refine ⟨_, bools_dp h10, .inr (.inr ⟨_, rfl⟩), r1, r2, r3, r4, _, bools_dp (e710 _ _ (e47 _ _ hd4 trivial) trivial), .inr (.inr ⟨_, rfl⟩), r1, r2, r3, r4, ?_⟩
            rw [if_neg (not_not_intro rfl)]
            exact (hP _ _ _).mpr ⟨_, _, _, _, rfl, ((eH.trans eB).trans e47).trans e710⟩
          walk_at "wp"
          by_cases c1 : isBeg ys = true
          · rw [if_pos c1]
            refine ⟨sz3 (Nat.le_of_ble_eq_true rfl), ?_⟩
            (intro l4 hl4; generalize hg0 : upd _ l4 _ = H4; obtain ⟨e4', h4'⟩ := upd_ex hl4 hg0; clear hg0)
            refine st_cat ((hb.all eA).all e4') h4' (by rw [List.length_map]; show _ + 1 ≤ _; omega) fun l5 H5 hl5 e5' h5' => ?_
            have hw5 : WordsAt H5 l5 (ys ++ [("" : Str)]) := by
              unfold WordsAt
              rw [List.map_append]
              exact h5'
            refine ⟨l5, _, rfl, hw5, by rw [List.length_append, List.length_singleton]; omega, fun z hz => ?_, fun H6 e6 => ⟨_, .inl (sqS (((((hb.all eA).all e4').all e5').all e6))), ?_⟩⟩
            · rcases List.mem_append.mp hz with hz | hz
              · exact oky z hz
              · rw [List.mem_singleton.mp hz]
                exact ⟨by decide +kernel, by decide +kernel⟩
            · rw [List.length_map, rEq_ii]
              refine ⟨sz3 (Nat.le_of_ble_eq_true rfl), ?_⟩
              (intro l7 hl7; generalize hg0 : upd _ l7 _ = H7; obtain ⟨e7, h7⟩ := upd_ex hl7 hg0; clear hg0)
              have e37 := ((e4'.trans e5').trans e6).trans e7
              refine tail3 l7 H7 (eA.trans e37) (hk.all e37) ?_
              have e1 : isSta ys = decide (((lWalk (ys ++ [("" : Str)]) : Nat) : Int) = ((ys.length : Nat) : Int) + 1) := by
                rw [sta_law, c1, Bool.true_and]
                congr 1
                exact propext ⟨fun e => by omega, fun e => by omega⟩
              rw [h7, e1]
          · rw [if_neg c1]
            refine ⟨sz3 (Nat.le_of_ble_eq_true rfl), ?_⟩
            (intro l7 hl7; generalize hg0 : upd _ l7 _ = H7; obtain ⟨e7, h7⟩ := upd_ex hl7 hg0; clear hg0)
            refine tail3 l7 H7 (eA.trans e7) (hk.all e7) ?_
            rw [h7, sta_law, Bool.eq_false_iff.mpr c1]
            rfl
        walk_at "wp"
        refine ⟨_, .inl (sqS hb), ?_⟩
        (intro pk hpk; generalize hg0 : upd _ pk _ = H3; obtain ⟨eA, hk⟩ := upd_ex hpk hg0; clear hg0)
        have hbA := hb.all eA
        refine st_ni rfl (.inl (sqS hbA)) ⟨_, rfl, ?_⟩
        by_cases c1 : ("" : Str) ∈ ys
        · rw [decide_eq_true c1, if_neg (by decide)]
          have e1 : isBeg ys = false := by rw [beg_law, decide_eq_true c1] <;> rfl
          have t2 := tail2 pk H3 eA hk
          rw [e1] at t2
          exact t2
        · rw [decide_eq_false c1, if_pos (by decide)]
          refine ⟨pb, ys, rfl, hbA, by omega, oky, fun H4 eB => ⟨_, .inl (sqS (hbA.all eB)), ?_⟩⟩
          rw [rEq_ii]
          have e1 : isBeg ys = decide (((lWalk ys : Nat) : Int) = ((ys.length : Nat) : Int)) := by
            rw [beg_law, decide_eq_false c1]
            show decide _ = decide _
            congr 1
            exact propext ⟨fun e => by rw [e], fun e => by omega⟩
          have t2 := tail2 pk H4 (eA.trans eB) (WordsAt.all (show WordsAt H3 pk ys from hk) eB)
          rw [e1] at t2
          rw [List.length_map]
          exact t2
      · obtain ⟨o7, o8, o9, o10, rfl, eH⟩ := (hP _ _ _).mp pv
        walk_at "wp"
        exact q HH
    walk_at "wp"
    refine tLc_call ?_
    refine ⟨_, rfl, _, rfl, p, .ref a, rfl, hp, .inl ⟨a, vr, rfl, hv, nv, by omega, by omega, fun v H1 hm e1 p1 => ?_⟩⟩
    obtain ⟨i, hi⟩ := List.getElem?_of_mem hm
    obtain ⟨b, hb, pr, rfl, hrow⟩ := fv.get' hi
    have hrb := hro b (List.mem_of_getElem? hb)
    obtain ⟨okb, lb, lb1⟩ := rowOk_words hrb
    obtain ⟨vs5, h5, t5⟩ := hrow.pot e1
    have l5 := t5.len
    have ez := t5.zip1
    refine ⟨pr, rfl, ⟨_, sqS h5⟩, ?_⟩
    refine lc_lst0 (l := vs5.zip b) (f := fun q => q.1) (fun q => some (V.str q.2.2)) ?_ ?_ (fun x H5 hx5 e5 Yv N hy hn => ?_) (fun pw H5 hp5 e5 h5' => ?_)
    · rw [List.length_zip]
      omega
    · rw [ez]
      exact sqS h5
    · obtain ⟨p8, ep8, h8⟩ := t5.zipM x hx5
      rw [ep8]
      refine st_tup2 (sqT (e5 _ _ h8 trivial)) ⟨rfl, ?_⟩
      walk_at "wp"
      exact hy _ _ rfl (Kp.refl H5)
    · rw [t5.zipR fun q => V.str q.2] at h5'
      have hw : WordsAt H5 pw (b.map (·.2)) := by
        unfold WordsAt
        rw [List.map_map]
        exact h5'
      refine ⟨pw, _, rfl, sqS hw, ?_⟩
      (intro pq hpq; generalize hg0 : upd _ pq _ = H6; obtain ⟨e6, h6⟩ := upd_ex hpq hg0; clear hg0)
      rw [cutV_init V.str _ (by rw [List.length_map]; omega)] at h6
      have hq6 : WordsAt H6 pq (b.map (·.2)).dropLast := h6
      have lq : (b.map (·.2)).dropLast.length ≤ 50 := by rw [List.length_dropLast, List.length_map]; omega
      have p6 := (p1.all e5).all e6
      refine ⟨pq, rfl, _, .inl (sqS hq6), p, _, rfl, by omega, by rw [List.length_map]; omega, p6, fun n H7 n0 n1 e7 p7 => ?_⟩
      walk_at "wp"
      obtain ⟨k, rfl⟩ := Int.eq_ofNat_of_zero_le n0
      have hq7 := hq6.pot e7
      refine ⟨pq, _, rfl, sqS hq7, ?_⟩
      (intro pc hpc; generalize hg0 : upd _ pc _ = H8; obtain ⟨e8, h8⟩ := upd_ex hpc hg0; clear hg0)
      rw [cutV_pre V.str] at h8
      exact tail pq pc _ _ _ _ H8 (p7.all e8) (hq7.all e8) h8 (fun z hz => okb z (List.dropLast_subset _ hz)) (fun z hz => okb z (List.dropLast_subset _ (List.mem_of_mem_take hz))) lq (Nat.le_trans (by rw [List.length_take]; omega) lq)
end
end K31
set_option Elab.async false
set_option linter.all false
set_option maxRecDepth 100000
set_option maxHeartbeats 4000000
namespace K31
open PySem PySem.Spec PyProof.Rows L2
/-! repr, as a reading; faults and statements by their text -/
def rRep (K : PySem.W.Frag) : List V → Hp → VK → Prop := fun xs H Q => ∃ v d, xs = [v] ∧ Dp K H v d ∧ (d = .none ∨ (∃ i, d = .int i) ∨ ∃ a, v = .ref a) ∧ d.showable = true ∧ d.hasDict = false ∧ d.depth ≤ 64 ∧ d.shown.length ≤ sizeLine ∧ Q (.str d.shown) H
theorem call_reprG {X : Cx} (gd : X.A.guards = some []) (un : X.A.units + 70 < cLine) : CallR X (.builtin "repr") (rRep X.K) := call_reprD gd un
theorem call_reprT {X : Cx} {pn : List (Addr × Obj)} {xe : Value → Shared → Prop} (gd : X.A.guards = some []) (un : X.A.units + 70 < cLine) : CallR (X.tr pn xe) (.builtin "repr") (rRep X.K) := call_reprD gd un
theorem call_reprU {X : Cx} {pn : List (Addr × Obj)} {a : Addr} (gd : X.A.guards = some []) (un : X.A.units + 70 < cLine) : CallR (X.suite a pn) (.builtin "repr") (rRep X.K) := call_reprD gd un
def FaultD : Option (Nat × Nat) → PyData
  | none => .none
  | some q => .tuple [.int (q.1 : Nat), .int (q.2 : Nat)]
def FaultAt (H : Hp) (v : V) : Option (Nat × Nat) → Prop
  | none => v = .non
  | some q => ∃ p, v = .ref p ∧ H p = some (.tup [.int (q.1 : Nat), .int (q.2 : Nat)])
section
variable {K : PySem.W.Frag} {H H' : Hp} {v : V} {o : Option (Nat × Nat)} {Q : VK}
theorem FaultAt.nin (h : FaultAt H v o) (e : Kp NoIns H H') : FaultAt H' v o := by
  cases o with
  | none => exact h
  | some q =>
    obtain ⟨p, rfl, hp⟩ := h
    exact ⟨p, rfl, e _ _ hp fun _ _ _ z => nomatch z⟩
theorem small_spot {n : Nat} {k : Nat} (h : n ≤ 50000) : Small (.int (n : Int)) 1 k := small_int (by
  rw [Int.natAbs_natCast]
  have h2 : (50000 : Nat) < 2 ^ 16 := by decide
  exact Nat.lt_of_le_of_lt h (Nat.lt_trans h2 (Nat.pow_lt_pow_right (by decide) (by decide))))
theorem pair_rep {p : Addr} {a b : Nat} (hp : H p = some (.tup [.int (a : Nat), .int (b : Nat)])) (ha : a ≤ 50000) (hb : b ≤ 50000) (k : Q (.str (FaultD (some (a, b))).shown) H) : rRep K [.ref p] H Q := by
  have s : Small (.tuple [.int (a : Nat), .int (b : Nat)]) _ 1 := Smalls.tup (.cons (small_spot ha) (.cons (small_spot hb) .nil))
  obtain ⟨h1, h2, h3, h4⟩ := Small.repr s (by decide) (by decide)
  exact ⟨_, _, rfl, .tup (sqT hp) (.cons (.int _) (.cons (.int _) .nil)), .inr (.inr ⟨_, rfl⟩), h1, h2, h3, h4, k⟩
theorem fault_rep (h : FaultAt H v o) (hb : ∀ q, o = some q → q.1 ≤ 50000 ∧ q.2 ≤ 50000) (k : Q (.str (FaultD o).shown) H) : rRep K [v] H Q := by
  cases o with
  | none =>
    obtain rfl : v = .non := h
    have s : Small .none 1 0 := ⟨rfl, Nat.le_refl _, Nat.le_refl _⟩
    obtain ⟨h1, h2, h3, h4⟩ := Small.repr s (by decide) (by decide)
    exact ⟨_, _, rfl, .non, .inl rfl, h1, h2, h3, h4, k⟩
  | some q =>
    obtain ⟨p, rfl, hp⟩ := h
    obtain ⟨b1, b2⟩ := hb q rfl
    exact pair_rep hp b1 b2 k
theorem dues_rep {l : Addr} {ds : List PyData} {n : Nat} (h : Dp K H (.ref l) (.list ds)) (s : Small (.list ds) n 4) (hn : n ≤ 15000) (k : Q (.str (PyData.list ds).shown) H) : rRep K [.ref l] H Q := by
  obtain ⟨h1, h2, h3, h4⟩ := Small.repr s hn (by decide)
  exact ⟨_, _, rfl, h, .inr (.inr ⟨_, rfl⟩), h1, h2, h3, h4, k⟩
/-- what the first fault is, whichever it is -/
theorem first_rep {z : Str} {rows : List (List (Nat × Str))} {E : XK} (ht : TextOf z rows) (hro : ∀ r ∈ rows, RowOk r) (hf : ffault 0 rows = o) (k : ∀ v H', Kp AllS H H' → FaultAt H' v o → Q v H') : spFirst [.str z] H Q E := by
  refine ⟨z, rows, rfl, ht, fun r hr => rowOk_short (hro r hr), fun e H' e1 => k _ _ e1 ?_, fun a b e p H' _ e1 hp => k _ _ e1 ?_⟩
  · rw [← hf, e]
    rfl
  · rw [← hf, e]
    exact ⟨p, rfl, hp⟩
theorem ffault_le : ∀ {n : Nat} {rows : List (List (Nat × Str))} {q : Nat × Nat}, ffault n rows = some q → q.1 ≤ n + rows.length := fun {n rows q} => by
  induction rows generalizing n with
  | nil => intro h; cases h
  | cons r rs ih =>
    intro h
    rw [List.length_cons]
    unfold ffault at h
    split at h
    · have := ih h
      omega
    · split at h
      · cases h
        show n + 1 ≤ _
        omega
      · have := ih h
        omega
end
theorem via {X : Cx} {ss : List Stmt} {t t' : TS} (h : PSs X ss t') (e : t' = t) : PSs X ss t := e ▸ h
end K31
set_option Elab.async false
set_option linter.all false
set_option maxRecDepth 100000
set_option maxHeartbeats 4000000
namespace K31
open PySem PySem.Spec PyProof.Rows L2
/-! statements, asked for -/
local macro_rules | `(tactic| walk_at "st") => `(tactic| try simp only [L2.start, List.map_cons, List.map_nil, List.length_cons, List.length_nil, Nat.reduceAdd, Nat.reduceSub, Nat.add_zero, Nat.zero_add, List.replicate, List.cons_append, List.nil_append, List.append_nil])
local macro_rules | `(tactic| walk_at "wp") => `(tactic| try simp only [tSeq, tIfS, tRet, tOr, tAnd, tNot, tTest, tB, tOp, rI0, rI, rU, tCB, tCons, tNil, tVar, tC, tAsg, gName, tNext, tDrop, tOrV, tAndV, tNotV, tIf, tUn, tYes, wipe, tCall, tTup, tLst, tSl, tPart, tNoPart, tM0, tM1, tIsN, tNotN, tChain, tPar, tBM, tFld, tMeth,
  List.getElem?_cons_zero, List.getElem?_cons_succ, Option.some.injEq, exists_eq_left, exists_eq_left', V.str.injEq, V.int.injEq, V.bl.injEq, V.ref.injEq, List.cons.injEq, and_true, true_and, and_self, exists_and_left, exists_and_right, exists_eq_right, exists_eq, exists_const, reduceCtorEq, decide_eq_true_eq, decide_eq_false_iff_not, List.set_cons_zero, List.set_cons_succ, sg_inj, rEq_ss, rNe_ss, rEq_ii, rNe_ii, ↓reduceIte, Bool.false_eq_true, List.nil_append, List.cons_append, List.append_nil, not_true_eq_false, not_false_eq_true, Bool.not_eq_true', Bool.not_true, Bool.not_false, decide_true, decide_false, or_false, false_or, or_true, true_or, false_and, and_false])
def spStats (K : PySem.W.Frag) : Sp := fun vs H Q _ => ∃ (z : Str) (l : Addr) (v : V) (rows : List (List (Nat × Str))) (ds : List PyData) (o : Option (Nat × Nat)), vs = [.str z, .ref l, v] ∧ TextOf z rows ∧ (∀ r ∈ rows, RowOk r) ∧ rows.length ≤ 6 ∧ Due 0 [] rows ds o ∧ Dp K H (.ref l) (.list ds) ∧
  (∀ x, mAll 0 [] rows = .ok x → o = none ∧ x = ds) ∧ (∀ q, mAll 0 [] rows = .error q → o = some q) ∧ FaultAt H v o ∧ ∀ H', Kp NoIns H H' → Q (.bl true) H'
theorem refs_vals {a b c d : Addr} {us : List Value} (h : Vals [.ref a, .ref b, .ref c, .ref d] us) : us = [.ref a, .ref b, .ref c, .ref d] := by
  cases h with
  | cons r1 h => cases h with
    | cons r2 h => cases h with
      | cons r3 h => cases h with
        | cons r4 h =>
          cases h
          cases r1
          cases r2
          cases r3
          cases r4
          rfl
theorem xd_row {r s : V} : List.lookup ("row" : Str) [("spot", s), ("row", r)] = some r := by
  simp only [List.lookup, show (("row" : Str) == "spot") = false by decide +kernel, show (("row" : Str) == "row") = true by decide +kernel]
theorem xd_spot {r s : V} : List.lookup ("spot" : Str) [("spot", s), ("row", r)] = some s := by
  simp only [List.lookup, show (("spot" : Str) == "spot") = true by decide +kernel]
section
variable {P : Program} {w : World} {K : PySem.W.Frag} {mg : Str → Option Value} {base : Heap}
abbrev N_Lare_statements : List Str := ["_law_text", "_law_due_here", "_law_fault", "_law_told", "e"]
abbrev P_Lare_statements : List Str := ["_law_text", "_law_due_here", "_law_fault"]
theorem sc_Lare_statements : FnScope N_Lare_statements P_Lare_statements (defScope s_Lare_statements) := ⟨rfl, rfl, rfl, by decide +kernel, rfl, by decide +kernel, by decide +kernel⟩
theorem ok_Lare_statements (T : Tx w K mg) : ClG P w K mg base 12 "_law_are_statements" P_Lare_statements (spStats K) := by
  refine ClG.mk T.d_Lare_statements rfl T.g_Lare_statements sc_Lare_statements (fun _ _ _ _ _ _ us hl => match us, hl with | [_, _, _], _ => rfl) (fun vs H Q E h => ?_) (fun cdv A outer s H vs Q E hg hr h => ?_)
  · obtain ⟨_, _, _, _, _, _, rfl, _⟩ := h
    rfl
  · obtain ⟨z, l, v, rows, ds, o, rfl, ht, hro, hl6, hd, hdl, ho1, ho2, hv, q⟩ := h
    refine' ⟨_, (pss_one (ps_try_as (i := 4) rfl rfl sc_Lare_statements.nd rfl rfl ⟨by rfl, by decide, Or.inl T.g_BadText⟩ (takes_of rfl rfl rfl rfl) ?hb ?hsu)), ?fin⟩
    case hb =>
      intro W pn xe tkW hpo
      refine via (pss_cons (ps_set (i := 3) sc_Lare_statements.nd rfl (Or.inl rfl) (pe_fnS (E := WE W) (ok_statements T) hr (by decide) (fun σ => passAt tkW σ) (by rfl) (pa_cons (pv 0) pa_nil)))
      (pss_cons (ps_if (PW.pt (pw_or (pt_cmp (pc_notN (pv 2))) (pw_or1 (pt_cmpR op_ne (pe_callB (id := "repr") (call_reprT hg (un_of hr)) (by rfl) T.f_repr (by decide +kernel) (pa_cons (pv 3) pa_nil)) (pe_callB (id := "repr") (call_reprT hg (un_of hr)) (by rfl) T.f_repr (by decide +kernel) (pa_cons (pv 1) pa_nil)) (nomark _))))) (pss_one (ps_ret pe_bl)) pss_nil)
      (pss_cons (ps_expr (pe_bm PySem.F.plainAttrs_list PySem.F.slot_list_append PySem.F.type_list_append mt_append (pv 3) (pa_cons (pe_tup (pa_cons pe_str (pa_cons pe_int (pa_cons pe_str pa_nil)))) pa_nil)))
      (pss_one (ps_ret (pe_cmpR op_eq (pe_callB (id := "repr") (call_reprT hg (un_of hr)) (by rfl) T.f_repr (by decide +kernel) (pa_cons (pe_kw (a := "text") (E := WE W) (ok_statements T) T.d_statements rfl (fun _ _ _ _ _ _ _ => rfl) hr (by decide) (fun σ => passAt tkW σ) (by rfl) (pk_cons (pv 0) pk_nil)) pa_nil)) (pe_callB (id := "repr") (call_reprT hg (un_of hr)) (by rfl) T.f_repr (by decide +kernel) (pa_cons (pv 1) pa_nil)) (nomark _))))))) ?_
      dsimp only [Cx.tr, cxOf]
    case hsu =>
      intro a oe cls d pn hz hf
      exact via (pss_cons (ps_if (PW.pt (pw_or (pt_not (pt_val (pe_callB (call_isX T.ex hz hf) (by rfl) T.f_isinstance (by decide +kernel) (pa_cons (pv 4) (pa_cons (pe_glob (v := V.ref (He.ga K "TermError")) (by rfl) T.g_TermError rfl) pa_nil))))) (pw_or1 (pt_not (pt_val (pe_callB (call_isX T.ex hz hf) (by rfl) T.f_isinstance (by decide +kernel) (pa_cons (pv 4) (pa_cons (pe_bltn (v := .ty "ValueError") (by rfl) T.f_ValueError (by decide +kernel) rfl) pa_nil)))))))) (pss_one (ps_ret pe_bl)) pss_nil)
      (pss_cons (ps_if (pt_val (pe_callB (call_isX T.ex hz hf) (by rfl) T.f_isinstance (by decide +kernel) (pa_cons (pv 4) (pa_cons (pe_tup (pa_cons (pe_glob (v := V.ref (He.ga K "MissingError")) (by rfl) T.g_MissingError rfl) (pa_cons (pe_glob (v := V.ref (He.ga K "IdleSensor")) (by rfl) T.g_IdleSensor rfl) (pa_cons (pe_glob (v := V.ref (He.ga K "TakenName")) (by rfl) T.g_TakenName rfl) (pa_cons (pe_glob (v := V.ref (He.ga K "WrongMoment")) (by rfl) T.g_WrongMoment rfl) pa_nil))))) pa_nil)))) (pss_one (ps_ret pe_bl)) pss_nil)
      (pss_one (ps_ret (pe_and (pe_cmp (pc_notN (pv 2))) (pe_one (pe_cmpR op_eq (pe_callB (id := "repr") (call_reprU hg (un_of hr)) (by rfl) T.f_repr (by decide +kernel) (pa_cons (pe_tup (pa_cons (pe_xf (xfB_ok T.ex.xfB) T.ex.nrow hz hf (pv 4)) (pa_cons (pe_xf (xfB_ok T.ex.xfB) T.ex.nspot hz hf (pv 4)) pa_nil))) pa_nil)) (pe_callB (id := "repr") (call_reprU hg (un_of hr)) (by rfl) T.f_repr (by decide +kernel) (pa_cons (pv 2) pa_nil)) (nomark _)))))))) rfl
    have hgd : ∀ r ∈ rows, Good r := fun r hr => rowOk_good (hro r hr)
    obtain ⟨sm, lds, fb⟩ := due_small hd hro (by omega) 0 .nil
    have sml : Small (.list ds) (0 + 230 * rows.length + 1) 4 := sm.lst
    have sn : 0 + 230 * rows.length + 1 ≤ 15000 := by omega
    have bnd : ∀ q, o = some q → q.1 ≤ 50000 ∧ q.2 ≤ 50000 := fun q hq => by
      obtain ⟨b1, r, hr, y, hy⟩ := fb q hq
      exact ⟨by omega, spot_le ht r hr _ hy⟩
    walk_at "st"
    dsimp only [cxOf]
    walk_at "wp"
    simp only [tCallS]
    walk_at "wp"
    refine ⟨z, rows, rfl, ht, hgd, fun ds' hm p vs H1 e1 np hp hvs => ?_, fun x hm d H1 e1 hx => ?_⟩
    · obtain ⟨rfl, h2⟩ := ho1 _ hm
      subst h2
      obtain rfl : v = .non := hv
      have hl1 := e1.dp hdl
      have lenv : vs.length ≤ 6 := by
        rw [dpAll_len hvs]
        rw [List.length_nil] at lds
        omega
      walk_at "wp"
      refine dues_rep (.lst (sqS hp) (Kp.dpAll Kp.unhid.all hvs)) sml sn (dues_rep hl1 sml sn ?_)
      walk_at "wp"
      refine ⟨st_tyL hp, sz3 (Nat.le_of_ble_eq_true rfl), ?_⟩
      (intro pt hpt; generalize hg0 : upd _ pt _ = H2; obtain ⟨e2, h2⟩ := upd_ex hpt hg0; clear hg0)
      have hp2 := e2 _ _ hp trivial
      refine st_app hp2 (by omega) ?_
      have e3 : Kp NoIns H (upd H2 p (.lst (vs ++ [V.ref pt]))) := fun b ob hb hn => by
        have ne : b ≠ p := fun e => np ob (e ▸ hb) hn
        rw [upd_ne ne]
        exact e2 _ _ (e1 _ _ hb hn) trivial
      simp only [tKwS]
      walk_at "wp"
      refine ⟨rfl, z, rows, rfl, ht, hgd, fun ds2 hm2 p2 vs2 H4 e4 np2 hp4 hvs4 => ?_, fun x hm2 => ?_⟩
      · obtain ⟨_, h2⟩ := ho1 _ hm2
        subst h2
        refine dues_rep (.lst (sqS hp4) (Kp.dpAll Kp.unhid.all hvs4)) sml sn (dues_rep (e4.dp (e3.dp hdl)) sml sn ?_)
        walk_at "wp"
        exact q _ (e3.trans e4)
      · rw [hm] at hm2
        cases hm2
    · obtain rfl := ho2 _ hm
      refine ⟨true, T.bSelf, fun _ a0 ha0 => ?_, fun z => nomatch z⟩
      walk_at "wp"
      refine ⟨rfl, d, _, _, true, rfl, hx, rfl, .inl ⟨.ref (He.ga K "TermError"), fun u hu => hu, T.ex.isTerm⟩, true, rfl, ?_⟩
      rw [if_neg (by decide)]
      refine ⟨rfl, d, _, _, true, rfl, hx, rfl, .inl ⟨.type "ValueError", fun u hu => hu, T.ex.isVal⟩, true, rfl, ?_⟩
      rw [if_neg (by decide)]
      refine ⟨sz3 (Nat.le_of_ble_eq_true rfl), ?_⟩
      (intro pt hpt; generalize hg0 : upd _ pt _ = H2; obtain ⟨e2, h2⟩ := upd_ex hpt hg0; clear hg0)
      have hx2 := e2 _ _ hx trivial
      refine ⟨rfl, d, _, _, false, rfl, hx2, rfl, .inr ⟨pt, _, _, rfl, h2, fun us hu => ?_, T.ex.isNot⟩, false, rfl, ?_⟩
      · exact refs_vals hu
      rw [if_neg (by decide)]
      obtain ⟨pv, rfl, hpv⟩ := hv
      simp only [tXf]
      walk_at "wp"
      refine ⟨_, hx2, _, xd_row, _, hx2, _, xd_spot, sz3 (Nat.le_of_ble_eq_true rfl), ?_⟩
      (intro pe hpe; generalize hg0 : upd _ pe _ = H3; obtain ⟨e3, h3⟩ := upd_ex hpe hg0; clear hg0)
      obtain ⟨b1, b2⟩ := bnd _ rfl
      have e23 := e2.trans e3
      refine pair_rep h3 b1 b2 (pair_rep (e23 _ _ (e1 _ _ hpv fun _ _ _ z => nomatch z) trivial) b1 b2 ?_)
      walk_at "wp"
      exact q _ (e1.trans e23.all)
end
end K31
set_option Elab.async false
set_option linter.all false
set_option maxRecDepth 100000
set_option maxHeartbeats 4000000
namespace K31
open PySem PySem.Spec PyProof.Rows L2
/-! the law itself -/
local macro_rules | `(tactic| walk_at "st") => `(tactic| try simp only [L2.start, List.map_cons, List.map_nil, List.length_cons, List.length_nil, Nat.reduceAdd, Nat.reduceSub, Nat.add_zero, Nat.zero_add, List.replicate, List.cons_append, List.nil_append, List.append_nil])
local macro_rules | `(tactic| walk_at "wp") => `(tactic| try simp only [tSeq, tIfS, tRet, tOr, tAnd, tNot, tTest, tB, tOp, rI0, rI, rU, tCB, tCons, tNil, tVar, tC, tAsg, gName, tNext, tDrop, tOrV, tAndV, tNotV, tIf, tUn, tYes, wipe, tCall, tTup, tLst, tSl, tPart, tNoPart, tM0, tM1, tIsN, tNotN, tChain, tPar, tBM, tFld, tMeth,
  List.getElem?_cons_zero, List.getElem?_cons_succ, Option.some.injEq, exists_eq_left, exists_eq_left', V.str.injEq, V.int.injEq, V.bl.injEq, V.ref.injEq, List.cons.injEq, and_true, true_and, and_self, exists_and_left, exists_and_right, exists_eq_right, exists_eq, exists_const, reduceCtorEq, decide_eq_true_eq, decide_eq_false_iff_not, List.set_cons_zero, List.set_cons_succ, sg_inj, rEq_ss, rNe_ss, rEq_ii, rNe_ii, ↓reduceIte, Bool.false_eq_true, List.nil_append, List.cons_append, List.append_nil, not_true_eq_false, not_false_eq_true, Bool.not_eq_true', Bool.not_true, Bool.not_false, decide_true, decide_false, or_false, false_or, or_true, true_or, false_and, and_false])
def spLaw (K : PySem.W.Frag) : Sp := fun vs H Q _ => ∃ (a : Addr) (is : List Int), vs = [.ref a] ∧ SqL K H a (is.map V.int) ∧ is.length ≤ 1000 ∧ ∀ H', Q (.bl true) H'
theorem PotAt.nin {H H' : Hp} {p : Addr} (h : PotAt H p) (e : Kp NoIns H H') : PotAt H' p := by
  obtain ⟨a, b, c, hp, h2⟩ := h
  exact ⟨a, b, c, e _ _ hp (fun _ _ _ z => nomatch z), h2⟩
theorem RowsAt.noIns {H H' : Hp} {a : Addr} {ls : List (List (Nat × Str))} (h : RowsAt H a ls) (e : Kp NoIns H H') : RowsAt H' a ls := h.kp e (fun _ _ _ _ z => nomatch z) (fun _ _ _ _ _ _ z => nomatch z) fun _ _ _ _ _ _ z => nomatch z
section
variable {P : Program} {w : World} {K : PySem.W.Frag} {mg : Str → Option Value} {base : Heap}
abbrev N_law : List Str := ["_law_script", "_law_pot_here", "_law_text", "_law_laid_here", "_law_due_here", "_law_fault"]
abbrev P_law : List Str := ["_law_script"]
theorem sc_law : FnScope N_law P_law (defScope s_law) := ⟨rfl, rfl, rfl, by decide +kernel, rfl, by decide +kernel, by decide +kernel⟩
theorem ok_law (T : Tx w K mg) : ClG P w K mg base 13 "law" P_law (spLaw K) := by
  refine ClG.mk T.d_law rfl T.g_law sc_law (fun _ _ _ _ _ _ us hl => match us, hl with | [_], _ => rfl) (fun vs H Q E h => ?_) (fun cdv A outer s H vs Q E hg hr h => ?_)
  · obtain ⟨_, _, rfl, _⟩ := h
    rfl
  · obtain ⟨a, is, rfl, ha, hl, q⟩ := h
    refine ⟨_, (pss_cons (ps_set (i := 1) sc_law.nd rfl (Or.inl rfl) (pe_fn (ok_Lpot T) hr (by decide) (by rfl) (pa_cons (pv 0) (pa_cons pe_int pa_nil))))
      (pss_cons (ps_asg (pe_fn (ok_Llaid T) hr (by decide) (by rfl) (pa_cons (pv 1) pa_nil)) (pg_tup (n := 2) rfl (pgs_cons (pg_name (i := 2) sc_law.nd rfl (Or.inl rfl)) (pgs_cons (pg_name (i := 3) sc_law.nd rfl (Or.inl rfl)) pgs_nil))))
      (pss_cons (ps_asg (pe_fn (ok_Ldue T) hr (by decide) (by rfl) (pa_cons (pv 3) pa_nil)) (pg_tup (n := 2) rfl (pgs_cons (pg_name (i := 4) sc_law.nd rfl (Or.inl rfl)) (pgs_cons (pg_name (i := 5) sc_law.nd rfl (Or.inl rfl)) pgs_nil))))
      (pss_cons (ps_if ((pw_or (pt_cmpR op_ne (pe_callB (id := "repr") (call_reprG hg (un_of hr)) (by rfl) T.f_repr (by decide +kernel) (pa_cons (pe_fn (ok_first_fault T) hr (by decide) (by rfl) (pa_cons (pv 2) pa_nil)) pa_nil)) (pe_callB (id := "repr") (call_reprG hg (un_of hr)) (by rfl) T.f_repr (by decide +kernel) (pa_cons (pv 5) pa_nil)) (nomark _)) (pw_or1 (pt_cmpR op_ne (pe_callB (id := "repr") (call_reprG hg (un_of hr)) (by rfl) T.f_repr (by decide +kernel) (pa_cons (pe_kw (a := "text") (E := fun _ => E0) (ok_first_fault T) T.d_first_fault rfl (fun _ _ _ _ _ _ _ => rfl) hr (by decide) pass00 (by rfl) (pk_cons (pv 2) pk_nil)) pa_nil)) (pe_callB (id := "repr") (call_reprG hg (un_of hr)) (by rfl) T.f_repr (by decide +kernel) (pa_cons (pv 5) pa_nil)) (nomark _))))).pt (pss_one (ps_ret pe_bl)) pss_nil)
      (pss_one (ps_ret (pe_and (pe_fnG (ok_Lare_statements T) hg hr (by decide) (by rfl) (pa_cons (pv 2) (pa_cons (pv 4) (pa_cons (pv 5) pa_nil)))) (pe_one (pe_fnG (ok_Lare_beginnings T) hg hr (by decide) (by rfl) (pa_cons (pv 1) (pa_cons (pv 3) pa_nil))))))))))), ?_⟩
    walk_at "st"
    walk_at "wp"
    refine ⟨a, is, rfl, ha, hl, fun r H1 _ e1 p1 => ?_⟩
    refine ⟨r, rfl, p1, fun t b z rows H2 e2 p2 ht hb htx hro l1 l6 => ?_⟩
    refine st_tup2 (sqT ht) ?_
    walk_at "wp"
    obtain ⟨ds, o, hd, ho1, ho2, hff⟩ := rows_law rows 0 [] hro
    refine ⟨b, rows, ds, o, rfl, hb, by omega, hro, hd, fun t2 l v H3 e3 ht2 hl3 hv => ?_⟩
    refine st_tup2 (sqT ht2) ?_
    walk_at "wp"
    dsimp only [cxOf]
    have hv3 : FaultAt H3 v o := by
      cases o with
      | none => exact hv
      | some x => exact hv
    have bnd : ∀ x, o = some x → x.1 ≤ 50000 ∧ x.2 ≤ 50000 := fun x hx => by
      obtain ⟨_, _, fb⟩ := due_small hd hro (by omega) 0 .nil
      obtain ⟨b1, r, hr, y, hy⟩ := fb x hx
      exact ⟨by omega, spot_le htx r hr _ hy⟩
    refine first_rep htx hro hff fun v1 H4 e4 f4 => ?_
    refine fault_rep f4 bnd (fault_rep (hv3.nin e4.all) bnd ?_)
    walk_at "wp"
    simp only [tKwS]
    walk_at "wp"
    refine ⟨rfl, first_rep htx hro hff fun v2 H5 e5 f5 => ?_⟩
    have e35 := e4.trans e5
    refine fault_rep f5 bnd (fault_rep (hv3.nin e35.all) bnd ?_)
    walk_at "wp"
    refine ⟨z, l, v, rows, ds, o, rfl, htx, hro, l6, hd, e35.nin.dp hl3, ho1, ho2, hv3.nin e35.all, fun H6 e6 => ⟨true, rfl, ?_⟩⟩
    rw [if_pos rfl]
    exact ⟨r, b, rows, rfl, ((p2.all e3).all e35).nin e6, ((hb.all e3).all e35).noIns e6, l1, l6, hro, fun H7 => q H7⟩
end
end K31
set_option Elab.async false
set_option linter.all false
set_option maxRecDepth 100000
set_option maxHeartbeats 4000000
namespace K31
open PySem PySem.Spec PyProof.Rows L2
/-! the call of a def that wants no guard, from behind the top -/
section
variable {P : Program} {w : World} {K : PySem.W.Frag} {mg mb : Str → Option Value} {k : Nat} {x y : Str} {a : Addr} {sp : Sp} {sh : Shared} {us : List Value} {is : List Int}
/-- the script's object as the list knows it -/
def scr (us : List Value) : Obj := { cls := .type "list", data := .seq us.toArray }
theorem ints_vals (h : IntsAre us is) : Vals (is.map V.int) us := by
  induction h with
  | nil => exact .nil
  | cons n t _ ih => exact .cons ⟨t, rfl⟩ ih
/-- behind the top, with at most the script known -/
theorem from_top (kin : K.In sh.heap) (gl : sh.heap.Ns mainGlobals mg) (bl : sh.heap.Ns builtinsNs mb) (boot : ∀ z : Str, z ≠ "__name__" → mb z = bootBuiltins z) (nl : sh.heap.NoLimit) (gens : sh.gens = #[])
    (at_ : sh.heap.get? a = some (scr us)) (rm : Room k callerA)
    (C : ∀ base : Heap, K.In base → base.Ns mainGlobals mg → ClG P w K mg base k x [y] sp)
    {T : Hp} (one : ∀ b u, T b = some u → b = a ∧ ∃ vs, u = .frz (scr us) (.lst vs)) (apart : T a ≠ none → K.lookup a = none) (ok : HOk P w T sh.heap)
    (told : sp [.ref a] T (fun v _ => v = .bl true) fun _ _ _ => False) :
    codeAny (model P w) callerA (.call (.ref (He.ga K x)) ⟨[.ref a], []⟩) (fun r s' => r = .ok (.ret (.bool true)) ∧ OldK sh.heap s'.heap ∧ s'.os = sh.os ∧ AllBare s'.gens) sh := by
  have free : ∀ b, b ≠ a → T b = none := fun b ne => by
    match e : T b with
    | none => rfl
    | some u => exact absurd (one b u e).1 ne
  have notDict : ∀ {b : Addr} {ob : Obj} {es : Array DictEntry} {n : Nat}, sh.heap.get? b = some ob → ob.data = .dict es n → T b = none := by
    intro b ob es n g dt
    refine free b fun e => ?_
    rw [e, at_] at g
    cases g
    exact nomatch dt
  have nsT : ∀ {b : Addr} {m : Str → Option Value}, sh.heap.Ns b m → (hidT sh.heap T).Ns b m := by
    rintro b m ⟨ob, es, n, g, dt, rest⟩
    exact ⟨ob, es, n, hidT_get g (notDict g dt), dt, rest⟩
  have kinT : K.In (hidT sh.heap T) := by
    intro b ob g
    refine hidT_get (kin b ob g) ?_
    by_cases e : b = a
    · subst e
      by_cases n : T b = none
      · exact n
      · rw [apart n] at g
        cases g
    · exact free b e
  obtain ⟨mc, n1, n2⟩ := nl
  have modT : Mod K mg (hidT sh.heap T) := { kin := kinT, glob := nsT gl, blt := ⟨mb, nsT bl, boot⟩, nolimit := ⟨mc, nsT n1, n2⟩ }
  have env : Env0 P w K mg (hidT sh.heap T) callerA [] sh T :=
    { frames := rfl, mod := modT, bs := fun _ _ g => of_hidT g, bsz := Nat.le_of_eq (hidT_size _ _), funs := trivial, frf := fun b hb => (nomatch hb), hok := ok, bare := .of_eq gens }
  obtain ⟨fd, F, b, _, _⟩ := C _ kinT (nsT gl)
  refine codeAny_mono (F.goes callerA [] sh T ⟨[.ref a], []⟩ [.ref a] [.ref a] _ _ rfl rm env (b sh [.ref a] kin rfl) (.cons rfl .nil) told) fun r s' h => ?_
  match r, h with
  | .error e, h =>
    obtain ⟨_, _, _, _, _, _, _, _, _, _, _, _, z⟩ := h
    exact z.elim
  | .ok (.ret u), h =>
    obtain ⟨v, T', os, bare, un, ok', rv, rfl⟩ := h
    obtain rfl : u = Value.bool true := rv
    refine ⟨rfl, OldK.of_keep fun b ob g => ?_, os, bare⟩
    match e : T b with
    | none => exact un.keep b ob g e (fun z => nomatch z) (fun z => nomatch z)
    | some t =>
      obtain ⟨rfl, vs, rfl⟩ := one b t e
      have g2 := (ok' b _ (un.frzs b _ _ e)).1
      rw [at_] at g
      rw [← g]
      exact g2
/-- the call's end for a def that wants no guard: the script is the module's own object, or it is tracked -/
theorem ends_call (kin : K.In sh.heap) (gl : sh.heap.Ns mainGlobals mg) (bl : sh.heap.Ns builtinsNs mb) (boot : ∀ z : Str, z ≠ "__name__" → mb z = bootBuiltins z) (nl : sh.heap.NoLimit) (gens : sh.gens = #[])
    (at_ : sh.heap.get? a = some (scr us)) (his : IntsAre us is) (few : is.length ≤ sizeLine) (rm : Room k callerA)
    (C : ∀ base : Heap, K.In base → base.Ns mainGlobals mg → ClG P w K mg base k x [y] sp)
    (told : ∀ T : Hp, SqL K T a (is.map V.int) → sp [.ref a] T (fun v _ => v = .bl true) fun _ _ _ => False) :
    codeAny (model P w) callerA (.call (.ref (He.ga K x)) ⟨[.ref a], []⟩) (fun r s' => r = .ok (.ret (.bool true)) ∧ OldK sh.heap s'.heap ∧ s'.os = sh.os ∧ AllBare s'.gens) sh := by
  have len := his.length
  have rv := ints_vals his
  match lk : K.lookup a with
  | some ob =>
    have g := kin a ob lk
    rw [at_] at g
    cases g
    refine from_top kin gl bl boot nl gens at_ rm C (T := fun _ => none) (fun _ _ z => nomatch z) (fun z => absurd rfl z) (fun _ _ z => nomatch z) (told _ (.inr ⟨_, us.toArray, _, lk, rfl, rfl, rfl, ?_, rv⟩))
    rw [List.size_toArray, len]
    exact few
  | none =>
    have key : ∀ b u, (fun c : Addr => if c = a then some (HO.frz (scr us) (.lst (is.map V.int))) else none) b = some u → b = a ∧ u = .frz (scr us) (.lst (is.map V.int)) := by
      intro b u e
      by_cases h : b = a
      · rw [show (fun c : Addr => if c = a then some (HO.frz (scr us) (.lst (is.map V.int))) else none) b = _ from if_pos h] at e
        cases e
        exact ⟨h, rfl⟩
      · rw [show (fun c : Addr => if c = a then some (HO.frz (scr us) (.lst (is.map V.int))) else none) b = _ from if_neg h] at e
        cases e
    refine from_top kin gl bl boot nl gens at_ rm C (T := fun c : Addr => if c = a then some (.frz (scr us) (.lst (is.map V.int))) else none) (fun b u e => ⟨(key b u e).1, _, (key b u e).2⟩) (fun _ => lk) (fun b u e => ?_) (told _ (.inl (.inr ⟨scr us, if_pos rfl⟩)))
    obtain ⟨rfl, rfl⟩ := key b u e
    exact ⟨at_, by rw [List.length_map]; exact few, us, _, rv, at_⟩
end
end K31
set_option Elab.async false
set_option linter.all false
set_option maxRecDepth 100000
set_option maxHeartbeats 4000000
namespace K31
open PySem PySem.Spec PyProof.Rows L2
/-! the law's end -/
theorem the_call : PySem.W.WalkO (PySem.W.view R.prog [0, 77]) loose (PySem.W.XL (PySem.W.view R.prog [0, 77]) []) hookM.says R.toRowW (HandSHeadRun.topDef R.prog 77) [] fun f vs => PySem.call f vs := by
  refine Att.attach_callB (l := PySem.Challenge.rw_allreadings_k31_whole_statements_and_fir) (n := 63) rfl rfl fun w s₀ s₁ mg mb fa o pm cd doc a vs ns G Y ho hd hcd hmg hobj hints hlen hbits hg => ?_
  obtain ⟨K, kin, says⟩ := Y
  have T : Tx w K mg := ⟨says, _, kin, G.T.g⟩
  have e := hmg.symm.trans T.g_law
  cases e
  refine ends_call kin G.T.g G.T.b G.T.builtins G.T.nolimit hg hobj hints (Nat.le_trans hlen (by decide)) ?room (fun base _ _ => ok_law T) fun TT sq => ⟨a, ns, rfl, sq, Nat.le_trans hlen (by decide), fun _ => rfl⟩
  case room => exact ⟨rfl, by decide, by decide⟩
end K31
theorem PySem.Challenge.cw_allreadings_k31_whole_statements_and_fir_holds : PySem.Challenge.rw_allreadings_k31_whole_statements_and_fir.Holds := by
  exact K31.head_ends K31.the_call
