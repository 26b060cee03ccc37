import PyProof.Rows.All
import Wide.All
import OpenK.AllK
import Wide.FinOn
import HandS.ForMost
import HandS.ForExc
import HandS.TupAny
import HandS.Wide
import HandS.Zip
import HandS.IsInst
import HandS.Replace
import HandS.Walk
import HandS.Strs
import KE.GoesNew
import PyProof.EnumMake
import HandS.Rev
import HandS.MapJoin
import KE.DataMinMax
import KE.KIndexOf
import HandS.SortKw
import HandS.Deep
import HandS.Text
import PySem.Challenge.RW_shorthead_k60_whole_never_wrong
import KE.KStateDown
import HandS.Words
import HandS.WordsExc
import HandS.Defaults
import HandS.Head0
import HandS.Head1
import HandS.Head2
import HandS.HeadEnd
import HandS.HeadHook1
import HandS.HeadHook2
set_option Elab.async false
set_option linter.all false
set_option autoImplicit false
set_option maxRecDepth 100000
set_option maxHeartbeats 1000000
namespace Sh
section
open PySem L2 PySem.Spec PyProof.Rows
def top (i : Nat) : Stmt := PySem.Challenge.pw_shorthead_k60_whole_never_wrong.main.body.getD i (.Pass ⟨0, 0, 0, 0⟩)
abbrev sbits_of : Stmt := top 13
abbrev sare_bits : Stmt := top 12
abbrev snumber_of : Stmt := top 14
abbrev swidth_for : Stmt := top 15
abbrev srest_of : Stmt := top 17
abbrev swindowed : Stmt := top 18
abbrev saround : Stmt := top 19
abbrev sis_whole : Stmt := top 21
abbrev sis_between : Stmt := top 22
abbrev sis_value : Stmt := top 23
abbrev sis_head : Stmt := top 24
abbrev sgone_round : Stmt := top 25
abbrev sexpected : Stmt := top 26
abbrev scheck_of : Stmt := top 27
abbrev swidth_of : Stmt := top 29
abbrev spieces : Stmt := top 30
abbrev ssize_of : Stmt := top 31
abbrev svalue_opened : Stmt := top 32
abbrev sopened : Stmt := top 33
abbrev sfirst_unlike : Stmt := top 49
abbrev sdoubt : Stmt := top 50
abbrev ssort_width : Stmt := top 35
abbrev scheck_width : Stmt := top 36
abbrev snumber_width : Stmt := top 37
abbrev spieces_size : Stmt := top 38
abbrev sletter_size : Stmt := top 39
abbrev sbits_ahead : Stmt := top 40
abbrev scheck_bits : Stmt := top 41
abbrev swhole_pieces : Stmt := top 42
abbrev swhole_letter : Stmt := top 43
abbrev spressed_letter : Stmt := top 44
abbrev ssort_of : Stmt := top 45
abbrev sparted : Stmt := top 46
abbrev swhole_head : Stmt := top 47
abbrev sgreater : Stmt := top 52
abbrev sPresser_init : Stmt := inClass (top 53) 0
abbrev sPresser_sent : Stmt := inClass (top 53) 1
abbrev sPresser_formers : Stmt := inClass (top 53) 3
abbrev sPresser_shared_most : Stmt := inClass (top 53) 4
abbrev sPresser_is_shared : Stmt := inClass (top 53) 5
abbrev sPresser_least_top : Stmt := inClass (top 53) 6
abbrev sPresser_does_count : Stmt := inClass (top 53) 7
abbrev sPresser_is_turn_of_whole : Stmt := inClass (top 53) 12
abbrev sPresser_hindered : Stmt := inClass (top 53) 8
abbrev sPresser_look_at : Stmt := inClass (top 53) 10
abbrev sPresser_usable : Stmt := inClass (top 53) 11
abbrev sPresser_chosen : Stmt := inClass (top 53) 13
abbrev sPresser_press : Stmt := inClass (top 53) 14
abbrev sPresser_is_had : Stmt := inClass (top 53) 15
abbrev sPresser_heard : Stmt := inClass (top 53) 16
abbrev sword_of : Stmt := top 55
abbrev sReader_init : Stmt := inClass (top 56) 0
abbrev sReader_top : Stmt := inClass (top 56) 1
abbrev sReader_forget : Stmt := inClass (top 56) 3
abbrev sReader_below : Stmt := inClass (top 56) 4
abbrev sReader_is_late : Stmt := inClass (top 56) 5
abbrev sReader_numbered : Stmt := inClass (top 56) 7
abbrev sReader_come : Stmt := inClass (top 56) 6
abbrev sReader_told_by : Stmt := inClass (top 56) 8
abbrev sReader_read : Stmt := inClass (top 56) 9
abbrev sRoad_letters : Stmt := inClass (top 62) 1
abbrev sRoad_words : Stmt := inClass (top 62) 2
abbrev sRoad_heads : Stmt := inClass (top 62) 3
abbrev sRoad_is_beyond : Stmt := inClass (top 62) 7
abbrev sRoad_put_on : Stmt := inClass (top 62) 8
abbrev sRoad_arrives : Stmt := inClass (top 62) 9
abbrev sis_deed : Stmt := top 61
abbrev sRoad_placed : Stmt := inClass (top 62) 10
abbrev sRoad_do : Stmt := inClass (top 62) 11
abbrev sRoad_init : Stmt := inClass (top 62) 0
abbrev slaw_next : Stmt := top 65
abbrev slaw_of : Stmt := top 66
abbrev slaw_value : Stmt := top 67
abbrev slaw_way : Stmt := top 70
abbrev slaw_any_head : Stmt := top 74
abbrev slaw_kind : Stmt := top 68
abbrev slaw_shape : Stmt := top 69
abbrev slaw_form : Stmt := top 71
abbrev slaw_road : Stmt := top 72
abbrev slaw_pact : Stmt := top 73
abbrev slaw_expected : Stmt := top 75
abbrev slaw_next_head : Stmt := top 76
abbrev slaw_width : Stmt := top 77
abbrev slaw_fit_way : Stmt := top 78
abbrev slaw_road_pact : Stmt := top 79
abbrev slaw_is_whole : Stmt := top 80
abbrev slaw_whole_size : Stmt := top 81
abbrev slaw_place : Stmt := top 82
abbrev slaw_words : Stmt := top 84
abbrev slaw_pressed : Stmt := top 85
abbrev slaw_box : Stmt := top 64
abbrev slaw_comes : Stmt := top 83
abbrev slaw : Stmt := top 86
/-! ### the head: facts by names -/
def fa0 : List He.Fa := [.free "len", .free "isinstance", .free "all", .free "sum", .free "range", .free "divmod", .free "reversed", .free "zip", .free "enumerate", .free "tuple", .free "list", .free "dict"]
def fa1 : List He.Fa := [.free "min", .free "max", .free "abs", .free "int", .free "str", .free "bool", .str "SIGNS" "01", .glo "_law_next", .glo "_law_of", .glo "_law_expected", .glo "_law_next_head", .meth "Road" "letters"]
def fa2 : List He.Fa := [.glo "_law_width", .glo "_law_whole_size", .meth "Presser" "sent", .glo "is_whole", .glo "is_between", .meth "Presser" "is_had", .glo "greater", .meth "Presser" "heard", .glo "word_of", .meth "Reader" "below", .meth "Reader" "come", .glo "check_of"]
def fa3 : List He.Fa := [.glo "rest_of", .glo "windowed", .glo "around", .glo "number_of", .glo "gone_round", .glo "expected", .glo "value_opened", .glo "width_of", .glo "opened", .glo "whole_head", .meth "Reader" "told_by", .meth "Reader" "is_late"]
def fa4 : List He.Fa := [.meth "Reader" "numbered", .glo "size_of", .glo "pieces_size", .glo "number_width", .glo "width_for", .glo "sort_width", .glo "check_width", .glo "letter_size", .glo "sort_of", .glo "are_bits", .glo "parted", .meth "Reader" "read"]
def fa5 : List He.Fa := [.meth "Reader" "top", .meth "Road" "is_beyond", .meth "Road" "arrives", .meth "Road" "placed", .glo "bits_of", .glo "check_bits", .glo "bits_ahead", .glo "pieces", .glo "pressed_letter", .glo "whole_pieces", .glo "whole_letter", .glo "first_unlike"]
def fa6 : List He.Fa := [.glo "doubt", .meth "Presser" "formers", .meth "Presser" "least_top", .meth "Presser" "does_count", .meth "Presser" "shared_most", .meth "Presser" "is_shared", .meth "Presser" "is_turn_of_whole", .meth "Presser" "hindered", .glo "is_value", .glo "is_head", .meth "Presser" "look_at", .meth "Presser" "usable"]
def fa7 : List He.Fa := [.meth "Presser" "chosen", .meth "Presser" "press", .meth "Road" "put_on", .meth "Reader" "forget", .glo "is_deed", .meth "Road" "do", .glo "_law_pressed", .glo "_law_is_whole", .meth "Road" "heads", .glo "_law_place", .glo "_law_comes", .meth "Road" "words"]
def fa8 : List He.Fa := [.glo "_law_words", .glo "_law_value", .glo "_law_any_head", .glo "Reader", .mkr "Reader", .glo "Presser", .mkr "Presser", .glo "Road", .mkr "Road", .glo "_law_fit_way", .glo "_law_road", .glo "_law_way"]
def fa9 : List He.Fa := [.glo "_law_form", .glo "_law_kind", .glo "_law_shape", .glo "_law_pact", .glo "_law_road_pact", .glo "_law_box", .glo "law", .cls "Presser", .noat "Presser" "pact", .noat "Presser" "past", .noat "Presser" "had_most", .noat "Presser" "base_most"]
def fa10 : List He.Fa := [.noat "Presser" "fresh_from", .cls "Reader", .noat "Reader" "pact", .noat "Reader" "greatest", .noat "Reader" "held", .cls "Road", .noat "Road" "pact", .noat "Road" "one_end", .noat "Road" "other_end", .noat "Road" "line", .noat "Road" "back", .noat "Road" "whole_row"]
def fa11 : List He.Fa := [.noat "Road" "came_most", .glo "Beyond", .exc "Beyond", .exm "Beyond" "Beyond" true, .glo "DONE", .glo "OF_LETTERS", .glo "OF_WORDS"]
def faAll : List He.Fa := fa0 ++ fa1 ++ fa2 ++ fa3 ++ fa4 ++ fa5 ++ fa6 ++ fa7 ++ fa8 ++ fa9 ++ fa10 ++ fa11
def dd0 : List He.DefD := [⟨("_law_next", none), "_law_next", "_law_next", defArgs slaw_next, defBody slaw_next, defScope slaw_next, [], []⟩,
  ⟨("_law_of", none), "_law_of", "_law_of", defArgs slaw_of, defBody slaw_of, defScope slaw_of, [], []⟩,
  ⟨("_law_expected", none), "_law_expected", "_law_expected", defArgs slaw_expected, defBody slaw_expected, defScope slaw_expected, [], []⟩,
  ⟨("_law_next_head", none), "_law_next_head", "_law_next_head", defArgs slaw_next_head, defBody slaw_next_head, defScope slaw_next_head, [], []⟩,
  ⟨("Road", some "letters"), "letters", "Road.letters", defArgs sRoad_letters, defBody sRoad_letters, defScope sRoad_letters, [], []⟩,
  ⟨("_law_width", none), "_law_width", "_law_width", defArgs slaw_width, defBody slaw_width, defScope slaw_width, [], []⟩,
  ⟨("_law_whole_size", none), "_law_whole_size", "_law_whole_size", defArgs slaw_whole_size, defBody slaw_whole_size, defScope slaw_whole_size, [], []⟩,
  ⟨("Presser", some "sent"), "sent", "Presser.sent", defArgs sPresser_sent, defBody sPresser_sent, defScope sPresser_sent, [], []⟩]
def dd1 : List He.DefD := [⟨("is_whole", none), "is_whole", "is_whole", defArgs sis_whole, defBody sis_whole, defScope sis_whole, [], []⟩,
  ⟨("is_between", none), "is_between", "is_between", defArgs sis_between, defBody sis_between, defScope sis_between, [], []⟩,
  ⟨("Presser", some "is_had"), "is_had", "Presser.is_had", defArgs sPresser_is_had, defBody sPresser_is_had, defScope sPresser_is_had, [], []⟩,
  ⟨("greater", none), "greater", "greater", defArgs sgreater, defBody sgreater, defScope sgreater, [], []⟩,
  ⟨("Presser", some "heard"), "heard", "Presser.heard", defArgs sPresser_heard, defBody sPresser_heard, defScope sPresser_heard, [], []⟩,
  ⟨("word_of", none), "word_of", "word_of", defArgs sword_of, defBody sword_of, defScope sword_of, [], []⟩,
  ⟨("Reader", some "below"), "below", "Reader.below", defArgs sReader_below, defBody sReader_below, defScope sReader_below, [], []⟩,
  ⟨("Reader", some "come"), "come", "Reader.come", defArgs sReader_come, defBody sReader_come, defScope sReader_come, [], []⟩]
def dd2 : List He.DefD := [⟨("check_of", none), "check_of", "check_of", defArgs scheck_of, defBody scheck_of, defScope scheck_of, [], []⟩,
  ⟨("rest_of", none), "rest_of", "rest_of", defArgs srest_of, defBody srest_of, defScope srest_of, [], []⟩,
  ⟨("windowed", none), "windowed", "windowed", defArgs swindowed, defBody swindowed, defScope swindowed, [], []⟩,
  ⟨("around", none), "around", "around", defArgs saround, defBody saround, defScope saround, [], []⟩,
  ⟨("number_of", none), "number_of", "number_of", defArgs snumber_of, defBody snumber_of, defScope snumber_of, [], []⟩,
  ⟨("gone_round", none), "gone_round", "gone_round", defArgs sgone_round, defBody sgone_round, defScope sgone_round, [], []⟩,
  ⟨("expected", none), "expected", "expected", defArgs sexpected, defBody sexpected, defScope sexpected, [], []⟩,
  ⟨("value_opened", none), "value_opened", "value_opened", defArgs svalue_opened, defBody svalue_opened, defScope svalue_opened, [], []⟩]
def dd3 : List He.DefD := [⟨("width_of", none), "width_of", "width_of", defArgs swidth_of, defBody swidth_of, defScope swidth_of, [], []⟩,
  ⟨("opened", none), "opened", "opened", defArgs sopened, defBody sopened, defScope sopened, [], []⟩,
  ⟨("whole_head", none), "whole_head", "whole_head", defArgs swhole_head, defBody swhole_head, defScope swhole_head, [], []⟩,
  ⟨("Reader", some "told_by"), "told_by", "Reader.told_by", defArgs sReader_told_by, defBody sReader_told_by, defScope sReader_told_by, [], []⟩,
  ⟨("Reader", some "is_late"), "is_late", "Reader.is_late", defArgs sReader_is_late, defBody sReader_is_late, defScope sReader_is_late, [], []⟩,
  ⟨("Reader", some "numbered"), "numbered", "Reader.numbered", defArgs sReader_numbered, defBody sReader_numbered, defScope sReader_numbered, [], []⟩,
  ⟨("size_of", none), "size_of", "size_of", defArgs ssize_of, defBody ssize_of, defScope ssize_of, [], []⟩,
  ⟨("pieces_size", none), "pieces_size", "pieces_size", defArgs spieces_size, defBody spieces_size, defScope spieces_size, [], []⟩]
def dd4 : List He.DefD := [⟨("number_width", none), "number_width", "number_width", defArgs snumber_width, defBody snumber_width, defScope snumber_width, [], []⟩,
  ⟨("width_for", none), "width_for", "width_for", defArgs swidth_for, defBody swidth_for, defScope swidth_for, [], []⟩,
  ⟨("sort_width", none), "sort_width", "sort_width", defArgs ssort_width, defBody ssort_width, defScope ssort_width, [], []⟩,
  ⟨("check_width", none), "check_width", "check_width", defArgs scheck_width, defBody scheck_width, defScope scheck_width, [], []⟩,
  ⟨("letter_size", none), "letter_size", "letter_size", defArgs sletter_size, defBody sletter_size, defScope sletter_size, [], []⟩,
  ⟨("sort_of", none), "sort_of", "sort_of", defArgs ssort_of, defBody ssort_of, defScope ssort_of, [], []⟩,
  ⟨("are_bits", none), "are_bits", "are_bits", defArgs sare_bits, defBody sare_bits, defScope sare_bits, [], []⟩,
  ⟨("parted", none), "parted", "parted", defArgs sparted, defBody sparted, defScope sparted, [], []⟩]
def dd5 : List He.DefD := [⟨("Reader", some "read"), "read", "Reader.read", defArgs sReader_read, defBody sReader_read, defScope sReader_read, [], []⟩,
  ⟨("Reader", some "top"), "top", "Reader.top", defArgs sReader_top, defBody sReader_top, defScope sReader_top, [], []⟩,
  ⟨("Road", some "is_beyond"), "is_beyond", "Road.is_beyond", defArgs sRoad_is_beyond, defBody sRoad_is_beyond, defScope sRoad_is_beyond, [], []⟩,
  ⟨("Road", some "arrives"), "arrives", "Road.arrives", defArgs sRoad_arrives, defBody sRoad_arrives, defScope sRoad_arrives, [], []⟩,
  ⟨("Road", some "placed"), "placed", "Road.placed", defArgs sRoad_placed, defBody sRoad_placed, defScope sRoad_placed, [], []⟩,
  ⟨("bits_of", none), "bits_of", "bits_of", defArgs sbits_of, defBody sbits_of, defScope sbits_of, [], []⟩,
  ⟨("check_bits", none), "check_bits", "check_bits", defArgs scheck_bits, defBody scheck_bits, defScope scheck_bits, [], []⟩,
  ⟨("bits_ahead", none), "bits_ahead", "bits_ahead", defArgs sbits_ahead, defBody sbits_ahead, defScope sbits_ahead, [], []⟩]
def dd6 : List He.DefD := [⟨("pieces", none), "pieces", "pieces", defArgs spieces, defBody spieces, defScope spieces, [], []⟩,
  ⟨("pressed_letter", none), "pressed_letter", "pressed_letter", defArgs spressed_letter, defBody spressed_letter, defScope spressed_letter, [], []⟩,
  ⟨("whole_pieces", none), "whole_pieces", "whole_pieces", defArgs swhole_pieces, defBody swhole_pieces, defScope swhole_pieces, [], []⟩,
  ⟨("whole_letter", none), "whole_letter", "whole_letter", defArgs swhole_letter, defBody swhole_letter, defScope swhole_letter, [], []⟩,
  ⟨("first_unlike", none), "first_unlike", "first_unlike", defArgs sfirst_unlike, defBody sfirst_unlike, defScope sfirst_unlike, [], []⟩,
  ⟨("doubt", none), "doubt", "doubt", defArgs sdoubt, defBody sdoubt, defScope sdoubt, [], []⟩,
  ⟨("Presser", some "formers"), "formers", "Presser.formers", defArgs sPresser_formers, defBody sPresser_formers, defScope sPresser_formers, [], []⟩,
  ⟨("Presser", some "least_top"), "least_top", "Presser.least_top", defArgs sPresser_least_top, defBody sPresser_least_top, defScope sPresser_least_top, [], []⟩]
def dd7 : List He.DefD := [⟨("Presser", some "does_count"), "does_count", "Presser.does_count", defArgs sPresser_does_count, defBody sPresser_does_count, defScope sPresser_does_count, [], []⟩,
  ⟨("Presser", some "shared_most"), "shared_most", "Presser.shared_most", defArgs sPresser_shared_most, defBody sPresser_shared_most, defScope sPresser_shared_most, [], []⟩,
  ⟨("Presser", some "is_shared"), "is_shared", "Presser.is_shared", defArgs sPresser_is_shared, defBody sPresser_is_shared, defScope sPresser_is_shared, [], []⟩,
  ⟨("Presser", some "is_turn_of_whole"), "is_turn_of_whole", "Presser.is_turn_of_whole", defArgs sPresser_is_turn_of_whole, defBody sPresser_is_turn_of_whole, defScope sPresser_is_turn_of_whole, [], []⟩,
  ⟨("Presser", some "hindered"), "hindered", "Presser.hindered", defArgs sPresser_hindered, defBody sPresser_hindered, defScope sPresser_hindered, [], []⟩,
  ⟨("is_value", none), "is_value", "is_value", defArgs sis_value, defBody sis_value, defScope sis_value, [], []⟩,
  ⟨("is_head", none), "is_head", "is_head", defArgs sis_head, defBody sis_head, defScope sis_head, [], []⟩,
  ⟨("Presser", some "look_at"), "look_at", "Presser.look_at", defArgs sPresser_look_at, defBody sPresser_look_at, defScope sPresser_look_at, [], []⟩]
def dd8 : List He.DefD := [⟨("Presser", some "usable"), "usable", "Presser.usable", defArgs sPresser_usable, defBody sPresser_usable, defScope sPresser_usable, [], []⟩,
  ⟨("Presser", some "chosen"), "chosen", "Presser.chosen", defArgs sPresser_chosen, defBody sPresser_chosen, defScope sPresser_chosen, [], []⟩,
  ⟨("Presser", some "press"), "press", "Presser.press", defArgs sPresser_press, defBody sPresser_press, defScope sPresser_press, [], []⟩,
  ⟨("Road", some "put_on"), "put_on", "Road.put_on", defArgs sRoad_put_on, defBody sRoad_put_on, defScope sRoad_put_on, [], []⟩,
  ⟨("Reader", some "forget"), "forget", "Reader.forget", defArgs sReader_forget, defBody sReader_forget, defScope sReader_forget, [], []⟩,
  ⟨("is_deed", none), "is_deed", "is_deed", defArgs sis_deed, defBody sis_deed, defScope sis_deed, [], []⟩,
  ⟨("Road", some "do"), "do", "Road.do", defArgs sRoad_do, defBody sRoad_do, defScope sRoad_do, [], []⟩,
  ⟨("_law_pressed", none), "_law_pressed", "_law_pressed", defArgs slaw_pressed, defBody slaw_pressed, defScope slaw_pressed, [], []⟩]
def dd9 : List He.DefD := [⟨("_law_is_whole", none), "_law_is_whole", "_law_is_whole", defArgs slaw_is_whole, defBody slaw_is_whole, defScope slaw_is_whole, [], []⟩,
  ⟨("Road", some "heads"), "heads", "Road.heads", defArgs sRoad_heads, defBody sRoad_heads, defScope sRoad_heads, [], []⟩,
  ⟨("_law_place", none), "_law_place", "_law_place", defArgs slaw_place, defBody slaw_place, defScope slaw_place, [], []⟩,
  ⟨("_law_comes", none), "_law_comes", "_law_comes", defArgs slaw_comes, defBody slaw_comes, defScope slaw_comes, [], []⟩,
  ⟨("Road", some "words"), "words", "Road.words", defArgs sRoad_words, defBody sRoad_words, defScope sRoad_words, [], []⟩,
  ⟨("_law_words", none), "_law_words", "_law_words", defArgs slaw_words, defBody slaw_words, defScope slaw_words, [], []⟩,
  ⟨("_law_value", none), "_law_value", "_law_value", defArgs slaw_value, defBody slaw_value, defScope slaw_value, [], []⟩,
  ⟨("_law_any_head", none), "_law_any_head", "_law_any_head", defArgs slaw_any_head, defBody slaw_any_head, defScope slaw_any_head, [], []⟩]
def dd10 : List He.DefD := [⟨("Reader", some "__init__"), "__init__", (("Reader" : Str) ++ ".__init__"), defArgs sReader_init, defBody sReader_init, defScope sReader_init, [], []⟩,
  ⟨("Presser", some "__init__"), "__init__", (("Presser" : Str) ++ ".__init__"), defArgs sPresser_init, defBody sPresser_init, defScope sPresser_init, [], []⟩,
  ⟨("Road", some "__init__"), "__init__", (("Road" : Str) ++ ".__init__"), defArgs sRoad_init, defBody sRoad_init, defScope sRoad_init, [], []⟩,
  ⟨("_law_fit_way", none), "_law_fit_way", "_law_fit_way", defArgs slaw_fit_way, defBody slaw_fit_way, defScope slaw_fit_way, [], []⟩,
  ⟨("_law_road", none), "_law_road", "_law_road", defArgs slaw_road, defBody slaw_road, defScope slaw_road, [], []⟩,
  ⟨("_law_way", none), "_law_way", "_law_way", defArgs slaw_way, defBody slaw_way, defScope slaw_way, [], []⟩,
  ⟨("_law_form", none), "_law_form", "_law_form", defArgs slaw_form, defBody slaw_form, defScope slaw_form, [], []⟩,
  ⟨("_law_kind", none), "_law_kind", "_law_kind", defArgs slaw_kind, defBody slaw_kind, defScope slaw_kind, [], []⟩]
def dd11 : List He.DefD := [⟨("_law_shape", none), "_law_shape", "_law_shape", defArgs slaw_shape, defBody slaw_shape, defScope slaw_shape, [], []⟩,
  ⟨("_law_pact", none), "_law_pact", "_law_pact", defArgs slaw_pact, defBody slaw_pact, defScope slaw_pact, [], []⟩,
  ⟨("_law_road_pact", none), "_law_road_pact", "_law_road_pact", defArgs slaw_road_pact, defBody slaw_road_pact, defScope slaw_road_pact, [], []⟩,
  ⟨("_law_box", none), "_law_box", "_law_box", defArgs slaw_box, defBody slaw_box, defScope slaw_box, [], []⟩,
  ⟨("law", none), "law", "law", defArgs slaw, defBody slaw, defScope slaw, [], []⟩]
def ddAll : List He.DefD := dd0 ++ dd1 ++ dd2 ++ dd3 ++ dd4 ++ dd5 ++ dd6 ++ dd7 ++ dd8 ++ dd9 ++ dd10 ++ dd11
def tuL : List (Str × List He.Dv) := [("OF_LETTERS", [.str "come", .str "copy", .str "lose"]), ("OF_WORDS", [.str "word", .str "echo", .str "drop"])]
/-- the head's hook: facts, defs, the module's own tuples -/
abbrev AlU : Type := He.AlD × Bool
def obsU (K : PySem.W.Frag) : AlU := (He.obsD faAll ddAll K, tuL.all fun t => He.tupB K t.1 t.2)
def valU : AlU := (He.valD ddAll, true)
def SaysU (K : PySem.W.Frag) : Prop := obsU K = valU
end
section
set_option maxHeartbeats 0
open PySem PySem.W PySem.Calls PyProof.Rows
abbrev R0 : OpenRow := OpenLaw.row PySem.Challenge.rw_shorthead_k60_whole_never_wrong
def nm0 : List PySem.Str := ["_wall", "__name__", "HeadError", "NoHead", "NoLetter", "NoWord", "NoMore", "NoDeed", "NoPlace", "Beyond", "SIGNS", "are_bits", "bits_of", "number_of", "width_for"]
def nm1 : List PySem.Str := ["rest_of", "windowed", "around", "is_whole", "is_between", "is_value", "is_head", "gone_round", "expected", "check_of", "width_of", "pieces", "size_of", "value_opened", "opened"]
def nm2 : List PySem.Str := ["sort_width", "check_width", "number_width", "pieces_size", "letter_size", "bits_ahead", "check_bits", "whole_pieces", "whole_letter", "pressed_letter", "sort_of", "parted", "whole_head", "first_unlike", "doubt"]
def nm3 : List PySem.Str := ["greater", "Presser", "word_of", "Reader", "DONE", "OF_LETTERS", "OF_WORDS", "is_deed", "Road", "_law_box", "_law_next", "_law_of", "_law_value", "_law_kind", "_law_shape"]
def nm4 : List PySem.Str := ["_law_way", "_law_form", "_law_road", "_law_pact", "_law_any_head", "_law_expected", "_law_next_head", "_law_width", "_law_fit_way", "_law_road_pact", "_law_is_whole", "_law_whole_size", "_law_place", "_law_comes", "_law_words"]
def nm5 : List PySem.Str := ["_law_pressed"]
def names : List PySem.Str := nm0 ++ nm1 ++ nm2 ++ nm3 ++ nm4 ++ nm5
def dn : Nat → List Addr
  | 0 => []
  | n + 1 => n :: dn n
def obsN (g : Addr → Option Obj) : AlU := obsU (He.frG g (mainGlobals :: dn 2048))
def hookN : PySem.W.Hook where
  α := AlU
  obs := fun s => obsN s.heap.get?
  val := fun _ => valU
  says := fun _ h => ∃ K : PySem.W.Frag, K.In h ∧ SaysU K
  of := fun _ _ e => ⟨_, He.frG_in, e⟩
  keeps := fun _ _ _ ⟨K, hK, c⟩ k => ⟨K, PySem.W.Frag.In.keeps hK k, c⟩
def obN (s : PySem.W.SharedT) : AlU := obsN (HandSHeadRun.getT s)
theorem obN_eq (s : PySem.W.SharedT) : obN s = hookN.obs s.abs := by
  have e : HandSHeadRun.getT s = s.abs.heap.get? := funext (HandSHeadRun.getT_eq s)
  show obsN (HandSHeadRun.getT s) = obsN s.abs.heap.get?
  rw [e]
open HandSHeadRun in
/-- the state behind the top -/
noncomputable abbrev endS (w : World) (os : OsState) : Option SharedT := endF (stepQ (denQ tabQ) R0.prog w) 8000 R0.prog w os
abbrev KN (s : SharedT) : PySem.W.Frag := He.frG (HandSHeadRun.getT s) (mainGlobals :: dn 2048)
theorem says_app {K : PySem.W.Frag} {fa fb : List He.Fa} {da db : List He.DefD} (a : He.obsD fa da K = He.valD da) (b : He.obsD fb db K = He.valD db) : He.obsD (fa ++ fb) (da ++ db) K = He.valD (da ++ db) := by
  unfold He.obsD He.valD at a b ⊢
  obtain ⟨a1, a2⟩ := Prod.mk.inj a
  obtain ⟨b1, b2⟩ := Prod.mk.inj b
  obtain ⟨a3, a4⟩ := Bool.and_eq_true_iff.mp a1
  obtain ⟨b3, b4⟩ := Bool.and_eq_true_iff.mp b1
  rw [List.all_append, List.all_append, List.map_append, List.map_append, a2, b2, a3, a4, b3, b4]
  rfl
def faA : List He.Fa := fa0 ++ fa1 ++ fa2
def faB : List He.Fa := fa3 ++ fa4 ++ fa5
def faC : List He.Fa := fa6 ++ fa7 ++ fa8
def faD : List He.Fa := fa9 ++ fa10 ++ fa11
def ddA : List He.DefD := dd0 ++ dd1 ++ dd2
def ddB : List He.DefD := dd3 ++ dd4 ++ dd5
def ddC : List He.DefD := dd6 ++ dd7 ++ dd8
def ddD : List He.DefD := dd9 ++ dd10 ++ dd11
theorem runA (w : World) (os : OsState) : (endS w os).map (fun s => He.obsD faA ddA (KN s)) = some (He.valD ddA) := by kernel_rfl
theorem runB (w : World) (os : OsState) : (endS w os).map (fun s => He.obsD faB ddB (KN s)) = some (He.valD ddB) := by kernel_rfl
theorem runC (w : World) (os : OsState) : (endS w os).map (fun s => He.obsD faC ddC (KN s)) = some (He.valD ddC) := by kernel_rfl
theorem runD (w : World) (os : OsState) : (endS w os).map (fun s => (He.obsD faD ddD (KN s), tuL.all fun t => He.tupB (KN s) t.1 t.2)) = some (He.valD ddD, true) := by kernel_rfl
theorem runL (w : World) : HandSHeadRun.RunEq R0 (view R0.prog [86]) Hook.none (fun _ => ()) 8000 names w := by
  intro os
  kernel_rfl
theorem got {σ α : Type} {E : Option σ} {f : σ → α} {a : α} {s : σ} (h : E.map f = some a) (e : E = some s) : f s = a := by
  subst e
  exact Option.some.inj h
theorem join {σ α β γ δ : Type} {E : Option σ} {f : σ → α} {g : σ → β} {l : σ → γ} {o : σ → δ} {a : α} {b : β} {c : γ} {v : δ} (h : E.map (fun s => (f s, g s, l s)) = some (a, b, c)) (k : ∀ s, E = some s → o s = v) :
    E.map (fun s => (f s, g s, o s)) = some (a, b, v) := by
  cases E with
  | none => cases h
  | some s =>
    have e1 := Prod.mk.inj (Option.some.inj h)
    have e2 := Prod.mk.inj e1.2
    show some (f s, g s, o s) = _
    rw [e1.1, e2.1, k s rfl]
theorem fa_eq : faA ++ faB ++ faC ++ faD = faAll := by kernel_rfl
theorem dd_eq : ddA ++ ddB ++ ddC ++ ddD = ddAll := by kernel_rfl
theorem obs_all {K : PySem.W.Frag} (a : He.obsD faA ddA K = He.valD ddA) (b : He.obsD faB ddB K = He.valD ddB) (c : He.obsD faC ddC K = He.valD ddC)
    (d : (He.obsD faD ddD K, tuL.all fun t => He.tupB K t.1 t.2) = (He.valD ddD, true)) : obsU K = valU := by
  have e := Prod.mk.inj d
  have z : He.obsD (faA ++ faB ++ faC ++ faD) (ddA ++ ddB ++ ddC ++ ddD) K = He.valD (ddA ++ ddB ++ ddC ++ ddD) := says_app (says_app (says_app a b) c) e.1
  rw [fa_eq, dd_eq] at z
  unfold obsU valU
  rw [z, e.2]
theorem run (w : World) : HandSHeadRun.RunEq R0 (view R0.prog [86]) hookN obN 8000 names w := by
  intro os
  refine join (o := obN) (runL w os) fun s e => ?_
  have a := got (f := fun s => He.obsD faA ddA (KN s)) (runA w os) e
  have b := got (f := fun s => He.obsD faB ddB (KN s)) (runB w os) e
  have c := got (f := fun s => He.obsD faC ddC (KN s)) (runC w os) e
  have d := got (f := fun s => (He.obsD faD ddD (KN s), tuL.all fun t => He.tupB (KN s) t.1 t.2)) (runD w os) e
  exact obs_all (K := KN s) a b c d
end
end Sh
namespace Sh
open PySem L2 PySem.Spec PyProof.Rows

/-! ### immutable data in the heap -/
/-- a tuple that stands: tracked, locked, or of the written part -/
abbrev Tp (K : PySem.W.Frag) (H : Hp) (a : Addr) (xs : List V) : Prop := SqT K H a xs
theorem Tp.sq {K : PySem.W.Frag} {H : Hp} {a : Addr} {xs : List V} (h : Tp K H a xs) : SqT K H a xs := h
/-- a tuple made by tuple(..): its object is known -/
def RowAt (H : Hp) (a : Addr) (xs : List V) : Prop := ∃ o : Obj, H a = some (.frz o (.tup xs)) ∧ o.cls = .type "tuple" ∧ o.dict = none
theorem RowAt.tp {K : PySem.W.Frag} {H : Hp} {a : Addr} {xs : List V} (h : RowAt H a xs) : Tp K H a xs := by
  obtain ⟨o, e, _⟩ := h
  exact .inl (.inr ⟨o, e⟩)
mutual
inductive Is (K : PySem.W.Frag) (H : Hp) : V → PyData → Prop
  | non : Is K H .non .none
  | bl (b : Bool) : Is K H (.bl b) (.bool b)
  | int (i : Int) : Is K H (.int i) (.int i)
  | str (x : Str) : Is K H (.str x) (.str x)
  | tup {a : Addr} {xs : List V} {ds : List PyData} : Tp K H a xs → Iss K H xs ds → Is K H (.ref a) (.tuple ds)
  | row {a : Addr} {ns : List Int} : RowAt H a (ns.map V.int) → Is K H (.ref a) (.list (ns.map PyData.int))
inductive Iss (K : PySem.W.Frag) (H : Hp) : List V → List PyData → Prop
  | nil : Iss K H [] []
  | cons {v : V} {vs : List V} {d : PyData} {ds : List PyData} : Is K H v d → Iss K H vs ds → Iss K H (v :: vs) (d :: ds)
end
/-- what never changes -/
def Still : HO → Bool
  | .tup _ => true
  | .frz _ _ => true
  | _ => false
/-- what changes from H to H': the objects at l alone; tuples never -/
structure Chg (l : List Addr) (H H' : Hp) : Prop where
  keep : ∀ a o, H a = some o → a ∉ l → H' a = some o
  still : ∀ a o, Still o = true → H a = some o → H' a = some o
section
variable {K : PySem.W.Frag} {H H1 H2 H' : Hp} {l m : List Addr} {a p : Addr} {o : HO} {xs ys : List V} {v : V} {d : PyData} {ds es : List PyData}
theorem Chg.refl : Chg l H H := ⟨fun _ _ h _ => h, fun _ _ _ h => h⟩
theorem Chg.trans (x : Chg l H H1) (y : Chg l H1 H2) : Chg l H H2 := ⟨fun a o h n => y.keep a o (x.keep a o h n) n, fun a o q h => y.still a o q (x.still a o q h)⟩
theorem Chg.mono (x : Chg l H H1) (h : ∀ a ∈ l, a ∈ m) : Chg m H H1 := ⟨fun a o e n => x.keep a o e fun z => n (h a z), x.still⟩
theorem Chg.nil (x : Chg [] H H1) : Chg l H H1 := x.mono fun _ z => nomatch z
theorem Chg.new (h : H p = none) : Chg l H (upd H p o) := ⟨fun a u e _ => by rw [upd_ne (ne_of_none e h)]; exact e, fun a u _ e => by rw [upd_ne (ne_of_none e h)]; exact e⟩
/-- an object that H does not know changes -/
theorem Chg.mut (x : Chg l H H1) (h : H p = none) : Chg l H (upd H1 p o) :=
  ⟨fun a u e n => by rw [upd_ne (ne_of_none e h)]; exact x.keep a u e n, fun a u q e => by rw [upd_ne (ne_of_none e h)]; exact x.still a u q e⟩
theorem Chg.put {u : HO} (x : Chg l H H1) (hp : p ∈ l) (hu : H p = some u) (nt : Still u = false) : Chg l H (upd H1 p o) :=
  ⟨fun a w e n => by rw [upd_ne (fun z => n (by rw [z]; exact hp))]; exact x.keep a w e n, fun a w q e => by
    have hne : a ≠ p := fun z => by
      rw [z, hu] at e
      cases e
      rw [nt] at q
      cases q
    rw [upd_ne hne]
    exact x.still a w q e⟩
theorem Chg.same (x : Same H H') : Chg l H H' := ⟨fun a o h _ => x a o h, fun a xs _ h => x _ _ h⟩
theorem Chg.to (x : Chg [] H H') : Same H H' := fun a o h => x.keep a o h (fun z => nomatch z)
theorem Chg.free (x : Chg l H H') (h : H' p = none) (n : p ∉ l) : H p = none := by
  cases q : H p with
  | none => rfl
  | some o => rw [x.keep p o q n] at h; cases h
theorem Tp.mono (h : Tp K H a xs) (x : Chg l H H') : Tp K H' a xs := by
  rcases h with (h | ⟨o, h⟩) | h
  · exact .inl (.inl (x.still _ _ rfl h))
  · exact .inl (.inr ⟨o, x.still _ _ rfl h⟩)
  · exact .inr h
theorem RowAt.mono (h : RowAt H a xs) (x : Chg l H H') : RowAt H' a xs := by
  obtain ⟨o, e, r⟩ := h
  exact ⟨o, x.still _ _ rfl e, r⟩
mutual
theorem Is.mono (x : Chg l H H') : ∀ (d : PyData) (v : V), Is K H v d → Is K H' v d
  | .none, _, h => by cases h; exact .non
  | .bool _, _, h => by cases h; exact .bl _
  | .int _, _, h => by cases h; exact .int _
  | .str _, _, h => by cases h; exact .str _
  | .tuple ds, _, h => by cases h with | tup h1 h2 => exact .tup (Tp.mono h1 x) (Iss.mono x ds _ h2)
  | .list _, _, h => by cases h with | row h1 => exact .row (h1.mono x)
  | .dict _, _, h => by cases h
theorem Iss.mono (x : Chg l H H') : ∀ (ds : List PyData) (vs : List V), Iss K H vs ds → Iss K H' vs ds
  | [], _, h => by cases h; exact .nil
  | d :: ds, _, h => by cases h with | cons h1 h2 => exact .cons (Is.mono x d _ h1) (Iss.mono x ds _ h2)
end
theorem Is.on (h : Is K H v d) (x : Chg l H H') : Is K H' v d := Is.mono x d v h
theorem Iss.on (h : Iss K H xs ds) (x : Chg l H H') : Iss K H' xs ds := Iss.mono x ds xs h
mutual
/-- no row of tuple(..) within -/
def noRow : PyData → Bool
  | .tuple ds => noRows ds
  | .list _ => false
  | .dict _ => false
  | _ => true
def noRows : List PyData → Bool
  | [] => true
  | d :: ds => noRow d && noRows ds
end
mutual
theorem Is.dp : ∀ (d : PyData) (v : V), noRow d = true → Is K H v d → Dp K H v d
  | .none, _, _, h => by cases h; exact .non
  | .bool _, _, _, h => by cases h; exact .bl _
  | .int _, _, _, h => by cases h; exact .int _
  | .str _, _, _, h => by cases h; exact .str _
  | .tuple ds, _, q, h => by cases h with | tup h1 h2 => exact .tup h1 (Iss.dp ds _ (by simpa [noRow] using q) h2)
  | .list _, _, q, _ => by simp [noRow] at q
  | .dict _, _, q, _ => by simp [noRow] at q
theorem Iss.dp : ∀ (ds : List PyData) (vs : List V), noRows ds = true → Iss K H vs ds → DpAll K H vs ds
  | [], _, _, h => by cases h; exact .nil
  | d :: ds, _, q, h => by
    cases h with
    | cons h1 h2 =>
      have q' : noRow d = true ∧ noRows ds = true := by simpa [noRows] using q
      exact .cons (Is.dp d _ q'.1 h1) (Iss.dp ds _ q'.2 h2)
end
theorem noRows_ints : ∀ ns : List Int, noRows (ns.map PyData.int) = true
  | [] => rfl
  | n :: ns => by simp [noRows, noRow, noRows_ints ns]
theorem Is.row_eq {ns : List Int} (h : Is K H v (.list (ns.map PyData.int))) : ∃ a, v = .ref a ∧ RowAt H a (ns.map V.int) := by
  generalize hd : PyData.list (ns.map PyData.int) = d at h
  cases h with
  | @row a ms h =>
    have e : ns = ms := by
      have e1 : ns.map PyData.int = ms.map PyData.int := by simpa using hd
      have inj : Function.Injective PyData.int := fun a b q => by cases q; rfl
      exact (List.map_inj_right (fun a b q => inj q)).mp e1
    rw [e]
    exact ⟨a, rfl, h⟩
  | _ => cases hd
theorem Is.int_eq {i : Int} (h : Is K H v (.int i)) : v = .int i := by cases h; rfl
theorem Is.str_eq {i : Str} (h : Is K H v (.str i)) : v = .str i := by cases h; rfl
theorem Is.non_eq (h : Is K H v .none) : v = .non := by cases h; rfl
theorem Is.tup_eq (h : Is K H v (.tuple ds)) : ∃ a xs, v = .ref a ∧ Tp K H a xs ∧ Iss K H xs ds := by
  cases h with | tup h1 h2 => exact ⟨_, _, rfl, h1, h2⟩
theorem Iss.length (h : Iss K H xs ds) : xs.length = ds.length := by
  induction ds generalizing xs with
  | nil => cases h; rfl
  | cons d ds ih => cases h with | cons _ h2 => simp [ih h2]
theorem Iss.get (h : Iss K H xs ds) : ∀ {i : Nat} {d : PyData}, ds[i]? = some d → ∃ v, xs[i]? = some v ∧ Is K H v d := by
  induction ds generalizing xs with
  | nil => intro i d e; simp at e
  | cons e ds ih =>
    cases h with
    | cons h1 h2 =>
      intro i d q
      cases i with
      | zero => simp at q; subst q; exact ⟨_, rfl, h1⟩
      | succ i => simpa using ih h2 (by simpa using q)
theorem Iss.getR (h : Iss K H xs ds) : ∀ {i : Nat} {v : V}, xs[i]? = some v → ∃ d, ds[i]? = some d ∧ Is K H v d := by
  induction ds generalizing xs with
  | nil => cases h; intro i d e; simp at e
  | cons e ds ih =>
    cases h with
    | cons h1 h2 =>
      intro i d q
      cases i with
      | zero => simp at q; subst q; exact ⟨_, rfl, h1⟩
      | succ i => simpa using ih h2 (by simpa using q)
theorem Iss.append (h : Iss K H xs ds) (h' : Iss K H ys es) : Iss K H (xs ++ ys) (ds ++ es) := by
  induction ds generalizing xs with
  | nil => cases h; exact h'
  | cons d ds ih => cases h with | cons h1 h2 => exact .cons h1 (ih h2)
theorem Iss.one (h : Is K H v d) : Iss K H [v] [d] := .cons h .nil
theorem Iss.ints {ns : List Int} : Iss K H (ns.map V.int) (ns.map PyData.int) := by
  induction ns with
  | nil => exact .nil
  | cons n ns ih => exact .cons (.int n) ih
theorem Iss.ints_eq {ns : List Int} (h : Iss K H xs (ns.map PyData.int)) : xs = ns.map V.int := by
  induction ns generalizing xs with
  | nil => cases h; rfl
  | cons n ns ih => cases h with | cons h1 h2 => rw [h1.int_eq, ih h2]; rfl
end
/-! ### joined rules -/
section
variable {X : Cx}
def rAddA (K : PySem.W.Frag) : R2 := fun x y H Q => (rI0 (fun i j => .int (i + j)) x y H Q) ∨ ((∃ i j, x = .str i ∧ y = .str j ∧ i.length + j.length ≤ sizeLine ∧ Q (.str (i ++ j)) H) ∨ (rCat x y H Q ∨ rCatA K x y H Q))
theorem op_addA : OpR X (binaryOp .Add) (rAddA X.K) := op_add.or (op_add_str.or (op_cat.or op_catA))
def rEqA (K : PySem.W.Frag) : R2 := fun x y H Q => rEq x y H Q ∨ rEqD K x y H Q
def rNeA (K : PySem.W.Frag) : R2 := fun x y H Q => rNe x y H Q ∨ rNeD K x y H Q
theorem op_eqA (hu : X.A.units + 64 < cLine) : OpR X (compareOp .Eq) (rEqA X.K) := op_eq.or (op_eqD hu)
theorem op_neA (hu : X.A.units + 64 < cLine) : OpR X (compareOp .NotEq) (rNeA X.K) := op_ne.or (op_neD hu)
def rSlAA (K : PySem.W.Frag) : V → Option Int → Option Int → Hp → VK → Prop := fun x lo hi H Q => rSlL K x lo hi H Q ∨ (rSlA K x lo hi H Q ∨ rSlS x lo hi H Q)
end
end Sh
namespace Sh
open PySem L2 PySem.Spec PyProof.Rows
open Sem (wp)

/-! ### enumerate of a tuple -/
set_option maxHeartbeats 4000000 in
theorem meets_enumerate_newT {v : Value} {o : Obj} {H : Heap → Prop} (B : Begins v o H) :
    Meets (Builtin.«enumerate.__new__» ⟨[.type "enumerate", v], []⟩) (fun _ R s => H s.heap ∧
      R (.ok (.ret (.ref (s.heap.push o).objs.size))) { s with heap := (s.heap.push o).push { cls := .type "enumerate", data := .fields #[.none, .bool false, .ref s.heap.objs.size, rawInt 0, .none, .none] } }) :=
  .of_wp fun prog w A R s h => by
    obtain ⟨hp, g, d, tk, os⟩ := s; obtain ⟨h1, h⟩ := h
    have hsub := sub_enumerate
    have q1 : ∀ {A' : Around} {E : Value → Shared → Prop} {Q : Value → Shared → Prop}, Q (.ref hp.objs.size) ⟨hp.push o, g, d, tk, os⟩ → wpAny (model prog w) A' (pyIter v) Q E ⟨hp, g, d, tk, os⟩ :=
      fun q => B.iter prog w _ _ ⟨hp, g, d, tk, os⟩ _ h1 q
    wp_walk using q1
    refine wpAny_stack_any fun st => wpAny_pure ?_
    split
    · rename_i c _ _ _ _ _
      cases (c == Value.type "enumerate")
      · wp_walk using q1
        exact ⟨_, rfl, h⟩
      · wp_walk using q1
        exact ⟨_, rfl, h⟩
    · wp_walk using q1
      exact ⟨_, rfl, h⟩
section
variable {prog : Program} {w : World} {A : Around} {E : Value → Shared → Prop} {s : Shared}
theorem enum_begins0 {v : Value} {o : Obj} {H : Heap → Prop} {Q : Value → Shared → Prop} (B : Begins v o H) (h1 : H s.heap)
    (h : ∀ h', IsEnum h' (s.heap.objs.size + 1) s.heap.objs.size 0 .none → h'.get? s.heap.objs.size = some o → h'.objs.size = s.heap.objs.size + 2 →
      (∀ b o, s.heap.get? b = some o → h'.get? b = some o) → Q (.ref (s.heap.objs.size + 1)) { s with heap := h' }) :
    wpAny (model prog w) A (call (.type "enumerate") [v]) Q E s := by
  refine callType_new F.called_enumerate (by decide) (F.typeCall_enumerate_1 _) (F.newCall_enumerate_1 _) (fun obj => F.args_object_init_2 obj _) F.entry_enumerate_new
    (meets_enumerate_newT B) ⟨h1, ?_⟩
  have hz : (s.heap.push o).objs.size = s.heap.objs.size + 1 := Heap.size_push ..
  show _ ∧ _
  rw [hz]
  have he : IsEnum ((s.heap.push o).push { cls := .type "enumerate", data := .fields #[.none, .bool false, .ref s.heap.objs.size, rawInt 0, .none, .none] }) (s.heap.objs.size + 1) s.heap.objs.size 0 .none := by
    have := Heap.get?_push_size (s.heap.push o) (o := { cls := .type "enumerate", data := .fields #[.none, .bool false, .ref s.heap.objs.size, rawInt 0, .none, .none] }) rfl
    rw [hz] at this; exact this
  refine ⟨⟨_, he, rfl⟩, h _ he (Heap.get?_push_of_some _ (Heap.get?_push_size _ B.free)) (by rw [Heap.size_push, hz]) fun b o x => Heap.get?_push_of_some _ (Heap.get?_push_of_some _ x)⟩
end
/-- the tuple at a, each item in a new pair with its place -/
def IteT (K : PySem.W.Frag) (a : Addr) : It :=
  ⟨fun i H => ∃ (xs : List V) (x : V), SqT K H a xs ∧ xs[i]? = some x, fun i H v H' => ∃ T x, v = .ref T ∧ H T = none ∧ H' = upd H T (.tup [.int (i : Nat), x]) ∧ ∀ xs, SqT K H a xs → xs[i]? = some x, fun i H => ∃ xs : List V, SqT K H a xs ∧ xs.length = i⟩
theorem turn_enumT {P : Program} {w : World} {K : PySem.W.Frag} {elts : List Expr} {kk : Nat} {tpos : Pos} (a e it : Addr) (hai : a ≠ it) (hae : e ≠ a) :
    Turn P w K (.Tuple elts kk tpos) (IteT K a) [e, it] e (fun i h => (∃ old, IsEnum h e it ((i : Nat) : Int) old) ∧ h.IsTupleIter it a i ∧ e ≠ it) where
  mem := by simp
  obj := fun i h st b hb => by
    obtain ⟨⟨old, he⟩, ⟨o, ho, hc, hd⟩, _⟩ := st
    have e' : b = e ∨ b = it := by simpa using hb
    rcases e' with z | z
    · rw [z]; exact ⟨_, he, fun v q => nomatch q⟩
    · rw [z]; exact ⟨o, ho, fun v q => by rw [hd] at q; cases q⟩
  keep := fun i h h' st k => let ⟨⟨old, he⟩, hi, hne⟩ := st; ⟨⟨old, k e (by simp) _ he⟩, hi.at fun o q => k it (by simp) o q, hne⟩
  item := by
    intro X hP hw hK hc i pins s σ H E I hf st hg
    subst hP hw hK
    obtain ⟨⟨old, he⟩, hit, hne⟩ := st
    obtain ⟨xs, x, hq, hx⟩ := hg
    obtain ⟨its, rv, p, hz⟩ := I.tuple hq
    obtain ⟨u, hu, ru⟩ := rv.get hx
    have hi : i < its.toArray.size := by
      have := (List.getElem?_eq_some_iff.mp hu).1
      simpa using this
    have hel : e < s.heap.objs.size := Heap.lt_size he
    have hil : it < s.heap.objs.size := by obtain ⟨_, q, _⟩ := hit; exact Heap.lt_size q
    have D := Draws.tuple (prog := X.prog) (w := X.w) (A := X.A.in1) (I.ok.hd hc) it a hai its.toArray
    have W := WalksT.enumFrom (A := X.A) 0 D e hne (by simp [hne, hae]) (by simp)
    have e0 : (0 : Int) + (i : Int) = ((i : Nat) : Int) := by omega
    refine W.item i s _ _ hi ⟨⟨old, by rw [e0]; exact he⟩, hit, p⟩ fun T vals h' tk hP hnew hT hm hk => ?_
    obtain ⟨t, y, hy, rfl⟩ := hP
    have hyu : y = u := by
      rw [List.getElem?_toArray, hu] at hy
      exact (Option.some.inj hy).symm
    subst hyu
    refine ⟨_, rfl, W.go elts kk tpos i T { s with heap := h', toks := tk } _ _ hm fun h'' st'' hk'' => ?_⟩
    obtain ⟨⟨old', he'⟩, hit', _⟩ := st''
    have hTw : T ∉ [e, it] := W.apart i T h' hm
    have hT2 : h''.IsTuple T #[.int (0 + (i : Int)) t, y] := hT.at fun o q => hk'' T o hTw q
    have new : ObjOk X.prog X.w (upd H T (.tup [.int (i : Nat), x])) h'' T (.tup [.int (i : Nat), x]) :=
      ⟨by show 2 ≤ sizeLine; decide, [.int (0 + (i : Int)) t, y], .cons ⟨t, by rw [e0]⟩ (.cons ru .nil), hT2⟩
    have hT0 : H T = none := I.hok.fresh hnew
    have I1 : Inv X pins σ (upd H T (.tup [.int (i : Nat), x])) { s with heap := h'', toks := tk } :=
      I.turnedNew (ch := [e, it]) (fun b ob hb q => hk'' b ob hb (hk b ob hb q)) hf hnew new
    refine ⟨.ref T, _, I1, rfl, ⟨T, x, rfl, hT0, rfl, fun ys hy => by rw [I.tuple_inj hy hq]; exact hx⟩, ⟨⟨old', ?_⟩, hit', hne⟩, fun b hb => ?_⟩
    · have e1 : ((i + 1 : Nat) : Int) = 0 + ((i + 1 : Nat) : Int) := by omega
      rw [e1]; exact he'
    · have nb : b ≠ T := fun q => hTw (by rw [← q]; exact hb)
      rw [upd_ne nb]
      exact (hf b hb).1
  done := by
    intro X hP hw hK hc i pins s σ H E I hf st hg
    subst hP hw hK
    obtain ⟨⟨old, he⟩, hit, hne⟩ := st
    obtain ⟨xs, hq, hx⟩ := hg
    obtain ⟨its, rv, p, hz⟩ := I.tuple hq
    have hl := rv.length
    have D := Draws.tuple (prog := X.prog) (w := X.w) (A := X.A.in1) (I.ok.hd hc) it a hai its.toArray
    have hn : its.toArray.size = i := by simp; omega
    refine wpAny_pyNext_enum_endD D he (by rw [hn]; exact ⟨hit, p⟩) fun h' eb => ⟨rfl, I.turnedL (t' := s.toks) (ch := [e, it]) (fun b o hb q => eb b o (fun z => hb (by simp [z])) q) hf⟩
  self := fun A i s Q E st h => let ⟨⟨_, he⟩, _⟩ := st; wpAny_pyIter_enum he h

def iEnumT (K : PySem.W.Frag) (ta : TA) : TI := fun σ H R => ta σ H fun vs H1 => ∃ a xs, vs = [.ref a] ∧ SqT K H1 a xs ∧ R (IteT K a) H1
theorem pi_enumT {X : Cx} {e : Expr} {ta : TA} {p pos tpos : Pos} {elts : List Expr} {kk : Nat} (hg : Gl X "enumerate") (hm : X.mg "enumerate" = none) (ha : PA X [e] ta) (hs : starEach [e] X.env = [(false, eval e X.env)] := by rfl) :
    PI X (.Tuple elts kk tpos) (.Call (.Name "enumerate" p) [e] [] pos) (iEnumT X.K ta) := by
  refine ⟨fun pins s σ H R I h => ?_⟩
  refine Call_ (ld_blt I hg hm boot_enumerate (PyProof.Rows.callWith_type1 (thn (ha.run pos pins s σ H _ I h) fun us s1 ⟨vs, H1, I1, r1, q1⟩ => ?_) hs rfl))
  obtain ⟨a, xs, ex, hq, q⟩ := q1
  subst ex
  cases r1 with
  | cons r rr =>
    cases rr
    cases r
    obtain ⟨its, rv, p', hz⟩ := I1.tuple hq
    have hal : a < s1.heap.objs.size := by obtain ⟨o, ho, _⟩ := id p'; exact Heap.lt_size ho
    refine enum_begins0 (begins_tuple a its.toArray) p' fun h' he hit hsz hk => wpAny_pyIter_enum he ?_
    have I2 : Inv X pins σ H1 { s1 with heap := h' } := I1.kept (t' := s1.toks) hk
    refine ⟨s1.heap.objs.size + 1, [s1.heap.objs.size + 1, s1.heap.objs.size], _, _, H1, rfl, I2, turn_enumT a (s1.heap.objs.size + 1) s1.heap.objs.size (Nat.ne_of_lt hal) (Nat.ne_of_gt (Nat.lt_succ_of_lt hal)), ⟨⟨.none, he⟩, ⟨_, hit, rfl, rfl⟩, Nat.succ_ne_self _⟩, fun b hb => ?_, q⟩
    have e' : b = s1.heap.objs.size + 1 ∨ b = s1.heap.objs.size := by simpa using hb
    have hle : s1.heap.objs.size ≤ b := by
      rcases e' with z | z
      · rw [z]; exact Nat.le_add_right _ _
      · rw [z]; exact Nat.le_refl _
    exact I1.fpOk hle (I1.hok.fresh hle)

/-! ### zip of three tuples -/
theorem mem6 {d z TI TO i1 i2 i3 : Addr} (h : d ∈ [z, TO, i1, i2, i3]) : d ∈ [z, TI, TO, i1, i2, i3] := by
  simp only [List.mem_cons, List.not_mem_nil, or_false] at h ⊢
  rcases h with h | h | h | h | h
  · exact .inl h
  · exact .inr (.inr (.inl h))
  · exact .inr (.inr (.inr (.inl h)))
  · exact .inr (.inr (.inr (.inr (.inl h))))
  · exact .inr (.inr (.inr (.inr (.inr h))))
def Itz3 (K : PySem.W.Frag) (a b c : Addr) : It :=
  ⟨fun i H => ∃ (xs ys zs : List V) (x y z : V), SqT K H a xs ∧ SqT K H b ys ∧ SqT K H c zs ∧ xs[i]? = some x ∧ ys[i]? = some y ∧ zs[i]? = some z,
    fun i H v H' => ∃ T x y z, v = .ref T ∧ H T = none ∧ H' = upd H T (.tup [x, y, z]) ∧ (∀ xs, SqT K H a xs → xs[i]? = some x) ∧ (∀ ys, SqT K H b ys → ys[i]? = some y) ∧ ∀ zs, SqT K H c zs → zs[i]? = some z,
    fun i H => ∃ xs ys zs : List V, SqT K H a xs ∧ SqT K H b ys ∧ SqT K H c zs ∧ xs.length = i ∧ ys.length = i ∧ zs.length = i⟩
theorem turn_zip3 {P : Program} {w : World} {K : PySem.W.Frag} {elts : List Expr} {kk : Nat} {tpos : Pos} {a b c z TI TO i1 i2 i3 : Addr} (S : ZipSep3 z TI TO i1 i2 i3 [i1, a] [i2, b] [i3, c]) (n1 : a ≠ i1) (n2 : b ≠ i2) (n3 : c ≠ i3) :
    Turn P w K (.Tuple elts kk tpos) (Itz3 K a b c) [z, TI, TO, i1, i2, i3] z (fun i h => IsZip h z TI TO .none ∧ IsTupOf3 h TI (.ref i1) (.ref i2) (.ref i3) ∧ (∃ x y u, IsTupOf3 h TO x y u) ∧ h.IsTupleIter i1 a i ∧ h.IsTupleIter i2 b i ∧ h.IsTupleIter i3 c i) where
  mem := by simp
  obj := fun i h st d hd => by
    obtain ⟨hz, hTI, ⟨x, y, u, hTO⟩, ⟨o1, e1, _, d1⟩, ⟨o2, e2, _, d2⟩, ⟨o3, e3, _, d3⟩⟩ := st
    have e' : d = z ∨ d = TI ∨ d = TO ∨ d = i1 ∨ d = i2 ∨ d = i3 := by simpa using hd
    rcases e' with q | q | q | q | q | q
    · rw [q]; exact ⟨_, hz, fun v q => nomatch q⟩
    · rw [q]; exact ⟨_, hTI, fun v q => nomatch q⟩
    · rw [q]; exact ⟨_, hTO, fun v q => nomatch q⟩
    · rw [q]; exact ⟨o1, e1, fun v q => by rw [d1] at q; cases q⟩
    · rw [q]; exact ⟨o2, e2, fun v q => by rw [d2] at q; cases q⟩
    · rw [q]; exact ⟨o3, e3, fun v q => by rw [d3] at q; cases q⟩
  keep := fun i h h' st k => by
    obtain ⟨hz, hTI, ⟨x, y, u, hTO⟩, h1, h2, h3⟩ := st
    exact ⟨k z (by simp) _ hz, k TI (by simp) _ hTI, ⟨x, y, u, k TO (by simp) _ hTO⟩, h1.at fun o q => k i1 (by simp) o q, h2.at fun o q => k i2 (by simp) o q, h3.at fun o q => k i3 (by simp) o q⟩
  item := by
    intro X hP hw hK hc i pins s σ H E I hf st hg
    subst hP hw hK
    obtain ⟨hz, hTI, hTO, h1, h2, h3⟩ := st
    obtain ⟨xs, ys, zs, x, y, v, hqx, hqy, hqz, hx, hy, hv⟩ := hg
    obtain ⟨its, rv, p, _⟩ := I.tuple hqx
    obtain ⟨its2, rv2, p2, _⟩ := I.tuple hqy
    obtain ⟨its3, rv3, p3, _⟩ := I.tuple hqz
    obtain ⟨u, hu, ru⟩ := rv.get hx
    obtain ⟨u2, hu2, ru2⟩ := rv2.get hy
    obtain ⟨u3, hu3, ru3⟩ := rv3.get hv
    have l1 : i < its.toArray.size := by have := (List.getElem?_eq_some_iff.mp hu).1; simpa using this
    have l2 : i < its2.toArray.size := by have := (List.getElem?_eq_some_iff.mp hu2).1; simpa using this
    have l3 : i < its3.toArray.size := by have := (List.getElem?_eq_some_iff.mp hu3).1; simpa using this
    have W := WalksT.zipD3 S (Draws.tuple (prog := X.prog) (w := X.w) (A := X.A.in1) (I.ok.hd hc) i1 a n1 its.toArray) (Draws.tuple (prog := X.prog) (w := X.w) (A := X.A.in1) (I.ok.hd hc) i2 b n2 its2.toArray) (Draws.tuple (prog := X.prog) (w := X.w) (A := X.A.in1) (I.ok.hd hc) i3 c n3 its3.toArray)
    refine W.item i s _ _ (by omega) ⟨hz, hTI, hTO, ⟨h1, p⟩, ⟨h2, p2⟩, ⟨h3, p3⟩⟩ fun T vals h' tk hP hnew hT hm hk => ?_
    obtain ⟨w1, w2, w3, hw1, hw2, hw3, rfl⟩ := hP
    have e1 : w1 = u := by rw [List.getElem?_toArray, hu] at hw1; exact (Option.some.inj hw1).symm
    have e2 : w2 = u2 := by rw [List.getElem?_toArray, hu2] at hw2; exact (Option.some.inj hw2).symm
    have e3 : w3 = u3 := by rw [List.getElem?_toArray, hu3] at hw3; exact (Option.some.inj hw3).symm
    subst e1 e2 e3
    refine ⟨_, rfl, W.go elts kk tpos i T { s with heap := h', toks := tk } _ _ hm fun h'' st'' hk'' => ?_⟩
    obtain ⟨z'', TI'', TO'', ⟨h1'', _⟩, ⟨h2'', _⟩, ⟨h3'', _⟩⟩ := st''
    have hTw : T ∉ [z, TO, i1, i2, i3] := W.apart i T h' hm
    have hT2 : h''.IsTuple T #[w1, w2, w3] := hT.at fun o q => hk'' T o hTw q
    have new : ObjOk X.prog X.w (upd H T (.tup [x, y, v])) h'' T (.tup [x, y, v]) :=
      ⟨by show 3 ≤ sizeLine; decide, [w1, w2, w3], .cons ru (.cons ru2 (.cons ru3 .nil)), hT2⟩
    have hT0 : H T = none := I.hok.fresh hnew
    have I1 : Inv X pins σ (upd H T (.tup [x, y, v])) { s with heap := h'', toks := tk } :=
      I.turnedNew (ch := [z, TI, TO, i1, i2, i3]) (fun d ob hb q => hk'' d ob (fun q' => hb (mem6 q')) (hk d ob (fun q' => hb (mem6 q')) q)) hf hnew new
    refine ⟨.ref T, _, I1, rfl, ⟨T, x, y, v, rfl, hT0, rfl, fun l hl => by rw [I.tuple_inj hl hqx]; exact hx, fun l hl => by rw [I.tuple_inj hl hqy]; exact hy, fun l hl => by rw [I.tuple_inj hl hqz]; exact hv⟩, ⟨z'', TI'', TO'', h1'', h2'', h3''⟩, fun d hd => ?_⟩
    have hne : d ≠ T := fun q => by
      have hlt : d < s.heap.objs.size := by
        have e' : d = z ∨ d = TI ∨ d = TO ∨ d = i1 ∨ d = i2 ∨ d = i3 := by simpa using hd
        rcases e' with q | q | q | q | q | q
        · rw [q]; exact Heap.lt_size hz
        · rw [q]; exact Heap.lt_size hTI
        · rw [q]; obtain ⟨_, _, _, hTO⟩ := hTO; exact Heap.lt_size hTO
        · rw [q]; obtain ⟨_, e1, _⟩ := h1; exact Heap.lt_size e1
        · rw [q]; obtain ⟨_, e1, _⟩ := h2; exact Heap.lt_size e1
        · rw [q]; obtain ⟨_, e1, _⟩ := h3; exact Heap.lt_size e1
      exact absurd (Nat.lt_of_lt_of_le hlt (by rw [q]; exact hnew)) (Nat.lt_irrefl _)
    rw [upd_ne hne]
    exact (hf d hd).1
  done := by
    intro X hP hw hK hc i pins s σ H E I hf st hg
    subst hP hw hK
    obtain ⟨hz, hTI, hTO, h1, h2, h3⟩ := st
    obtain ⟨xs, ys, zs, hqx, hqy, hqz, e1, e2, e3⟩ := hg
    obtain ⟨its, rv, p, _⟩ := I.tuple hqx
    obtain ⟨its2, rv2, p2, _⟩ := I.tuple hqy
    obtain ⟨its3, rv3, p3, _⟩ := I.tuple hqz
    have l1 := rv.length
    have l2 := rv2.length
    have l3 := rv3.length
    have W := WalksT.zipD3 S (Draws.tuple (prog := X.prog) (w := X.w) (A := X.A.in1) (I.ok.hd hc) i1 a n1 its.toArray) (Draws.tuple (prog := X.prog) (w := X.w) (A := X.A.in1) (I.ok.hd hc) i2 b n2 its2.toArray) (Draws.tuple (prog := X.prog) (w := X.w) (A := X.A.in1) (I.ok.hd hc) i3 c n3 its3.toArray)
    have hn : min (min its.toArray.size its2.toArray.size) its3.toArray.size = i := by simp only [List.size_toArray]; omega
    refine W.done s _ _ (by rw [hn]; exact ⟨hz, hTI, hTO, ⟨h1, p⟩, ⟨h2, p2⟩, ⟨h3, p3⟩⟩) fun h' tk hk => ⟨rfl, I.turnedL (t' := tk) (ch := [z, TI, TO, i1, i2, i3]) (fun d o hb q => hk d o (fun q' => hb (mem6 q')) q) hf⟩
  self := fun A i s Q E st h => wpAny_pyIter_zip st.1 h
end Sh
namespace Sh
open PySem L2 PySem.Spec PyProof.Rows
open Sem (wp)

def iZip3 (K : PySem.W.Frag) (ta : TA) : TI := fun σ H R => ta σ H fun vs H1 => ∃ a b c xs ys zs, vs = [.ref a, .ref b, .ref c] ∧ SqT K H1 a xs ∧ SqT K H1 b ys ∧ SqT K H1 c zs ∧ R (Itz3 K a b c) H1
theorem pi_zip3 {X : Cx} {e e2 e3 : Expr} {ta : TA} {p pos tpos : Pos} {elts : List Expr} {kk : Nat} (hg : Gl X "zip") (hm : X.mg "zip" = none) (ha : PA X [e, e2, e3] ta)
    (hs : starEach [e, e2, e3] X.env = (false, eval e X.env) :: starEach [e2, e3] X.env := by rfl) (hpl : (backTo pos (starEach [e2, e3] X.env)).any (·.1) = false := by rfl) :
    PI X (.Tuple elts kk tpos) (.Call (.Name "zip" p) [e, e2, e3] [] pos) (iZip3 X.K ta) := by
  refine ⟨fun pins s σ H R I h => ?_⟩
  refine Call_ (ld_blt I hg hm PyProof.Rows.boot_zip (PyProof.Rows.callWith_type1 (thn (ha.run pos pins s σ H _ I h) fun us s1 ⟨vs, H1, I1, r1, q1⟩ => ?_) hs hpl))
  obtain ⟨a, b, c, xs, ys, zs, ex, hqx, hqy, hqz, q⟩ := q1
  subst ex
  cases r1 with
  | cons r rr =>
    cases rr with
    | cons r' rr =>
      cases rr with
      | cons r'' rr =>
        cases rr
        cases r
        cases r'
        cases r''
        obtain ⟨its, rv, p1, _⟩ := I1.tuple hqx
        obtain ⟨its2, rv2, p2, _⟩ := I1.tuple hqy
        obtain ⟨its3, rv3, p3, _⟩ := I1.tuple hqz
        have l1 : a < s1.heap.objs.size := by obtain ⟨o, ho, _⟩ := id p1; exact Heap.lt_size ho
        have l2 : b < s1.heap.objs.size := by obtain ⟨o, ho, _⟩ := id p2; exact Heap.lt_size ho
        have l3 : c < s1.heap.objs.size := by obtain ⟨o, ho, _⟩ := id p3; exact Heap.lt_size ho
        refine zip_begins3 (begins_tuple a its.toArray) (begins_tuple b its2.toArray) (begins_tuple c its3.toArray) p1 p2 p3 fun h' hz hTI hTO h1 h2 h3 hsz hk => wpAny_pyIter_zip hz ?_
        have I2 : Inv X pins σ H1 { s1 with heap := h' } := I1.kept (t' := s1.toks) hk
        refine ⟨s1.heap.objs.size + 5, [s1.heap.objs.size + 5, s1.heap.objs.size + 3, s1.heap.objs.size + 4, s1.heap.objs.size, s1.heap.objs.size + 1, s1.heap.objs.size + 2], _, _, H1, rfl, I2,
          turn_zip3 (zip_sep3 (fp1 := [a]) (fp2 := [b]) (fp3 := [c]) (by intro d hd; rw [List.mem_singleton.mp hd]; exact l1) (by intro d hd; rw [List.mem_singleton.mp hd]; exact l2) (by intro d hd; rw [List.mem_singleton.mp hd]; exact l3))
            (Nat.ne_of_lt l1) (Nat.ne_of_lt (Nat.lt_succ_of_lt l2)) (Nat.ne_of_lt (Nat.lt_succ_of_lt (Nat.lt_succ_of_lt l3))), ⟨hz, hTI, ⟨_, _, _, hTO⟩, ⟨_, h1, rfl, rfl⟩, ⟨_, h2, rfl, rfl⟩, ⟨_, h3, rfl, rfl⟩⟩, fun d hd => ?_, q⟩
        have e' : d = s1.heap.objs.size + 5 ∨ d = s1.heap.objs.size + 3 ∨ d = s1.heap.objs.size + 4 ∨ d = s1.heap.objs.size ∨ d = s1.heap.objs.size + 1 ∨ d = s1.heap.objs.size + 2 := by simpa using hd
        have hle : s1.heap.objs.size ≤ d := by
          rcases e' with z | z | z | z | z | z
          · rw [z]; exact Nat.le_add_right _ _
          · rw [z]; exact Nat.le_add_right _ _
          · rw [z]; exact Nat.le_add_right _ _
          · rw [z]; exact Nat.le_refl _
          · rw [z]; exact Nat.le_add_right _ _
          · rw [z]; exact Nat.le_add_right _ _
        exact I1.fpOk hle (I1.hok.fresh hle)

section
variable {X : Cx}
/-! ### in a tuple of data; a text in a text of signs -/
def rInDT (K : PySem.W.Frag) : R2 := fun x y H Q => ∃ d ds, Dp K H x d ∧ Dp K H y (.tuple ds) ∧ SeqAt.shaped d = true ∧ SeqAt.shaped (.tuple ds) = true ∧ Q (.bl (ds.any fun z => PyData.eqv z d)) H
theorem op_inDT (hu : X.A.units + 65 < cLine) : OpR X (compareOp .In) (rInDT X.K) := by
  intro pins s σ H x y v u Q I rx ry h
  obtain ⟨d, ds, hd, he, sd, se, q⟩ := h
  obtain ⟨as, r1⟩ := Dp.reads I d x v hd rx
  obtain ⟨bs, r2⟩ := Dp.reads I (.tuple ds) y u he ry
  exact SeqAt.in_tuple_reads r2 r1 (SeqAt.canLay_of_shaped se) (SeqAt.canLay_of_shaped sd) (room_in_shaped sd hu) ⟨.bl _, H, I, rfl, q⟩
/-! ### t.index(n) of a tuple of ints -/
def rTIndex (K : PySem.W.Frag) : V → List V → Hp → VK → Prop := fun x xs H Q => ∃ (a : Addr) (ns : List Int) (n : Int), x = .ref a ∧ xs = [.int n] ∧ SqT K H a (ns.map V.int) ∧ n ∈ ns ∧ Q (.int (ns.idxOf n : Nat)) H
theorem mt_tindex : MtR X "tuple.index" (rTIndex X.K) := by
  intro pins s σ H x xs v us Q I rx rs h
  obtain ⟨a, ns, n, rfl, rfl, hq, hn, q⟩ := h
  cases rx
  obtain ⟨u, rfl, t, rfl⟩ := vals1 rs
  obtain ⟨its, r, pl, hz⟩ := I.tuple hq
  exact PySem.SeqAt.tuple_index_ints pl r.ints hn ⟨.int _, H, I.tok _, ⟨_, rfl⟩, q⟩
/-! ### s * n -/
theorem op_mul_str : OpR X (binaryOp .Mult) (fun x y H Q => ∃ i n, x = .str i ∧ y = .int n ∧ MulOk i n ∧ Q (.str (Txt.mul i n)) H) := by
  intro pins s σ H x y v u Q I rx ry h
  obtain ⟨i, n, rfl, rfl, hc, q⟩ := h
  obtain ⟨t, rfl⟩ := rx
  obtain ⟨t', rfl⟩ := ry
  exact SB.mul hc fun t'' k => ⟨.str _, H, I.tok _, ⟨_, rfl⟩, q⟩
/-! ### max(ns, default=None) -/
theorem alike_ints (ns : List Int) : PySem.W.AlikeAll (ns.map PyData.int) := by
  refine ⟨fun x hx y hy => ?_, fun x hx => ?_⟩
  · obtain ⟨a, _, rfl⟩ := List.mem_map.mp hx
    obtain ⟨b, _, rfl⟩ := List.mem_map.mp hy
    rfl
  · obtain ⟨a, _, rfl⟩ := List.mem_map.mp hx
    intro q; cases q
theorem depth_ints : ∀ ns : List Int, PyData.depthAll (ns.map PyData.int) ≤ 1
  | [] => by simp [PyData.depthAll]
  | n :: ns => by
    have := depth_ints ns
    simp [PyData.depthAll, PyData.depth] at this ⊢
    omega
def maxO : List Int → V
  | [] => .non
  | n :: ns => .int (ns.foldl max n)
def rMaxD (K : PySem.W.Frag) : List V → List V → Hp → VK → Prop := fun vs zs H Q => ∃ (a : Addr) (ns : List Int), vs = [.ref a] ∧ zs = [.non] ∧ SqL K H a (ns.map V.int) ∧ Q (maxO ns) H
theorem cr_maxD (hc : X.calm = true) (hu : X.A.units + 8 < cLine) : CallRK X (.builtin "max") ["default"] (rMaxD X.K) := by
  intro pins s σ H vs zs us ws Q I r rz h
  obtain ⟨a, ns, rfl, rfl, hs, q⟩ := h
  obtain ⟨its, rv, hl, _⟩ := I.list hs
  rw [Vals.ref1 r]
  obtain ⟨u, rfl, rn⟩ := vals1 rz
  cases rn
  have hd : DpAll X.K H (ns.map V.int) (ns.map PyData.int) := Iss.dp _ _ (noRows_ints ns) Iss.ints
  obtain ⟨as, hr⟩ := Dp.readsAll I _ _ its hd rv
  refine PySem.W.max_list_default (I.ok.hd hc) hl.isList (by simpa using hr) (alike_ints ns) (by have := depth_ints ns; omega) (fun e h' tk hk => ?_) (fun y ys i v h' tk bs e hv hR hk => ?_)
  · cases ns with
    | nil => exact ⟨.non, H, I.kept hk, rfl, q⟩
    | cons n ns => cases e
  · cases ns with
    | nil => cases e
    | cons n ns =>
      simp only [List.map_cons, List.cons.injEq] at e
      obtain ⟨rfl, rfl⟩ := e
      rw [PySem.W.maxD_ints] at hR
      cases hR with
      | int i t => exact ⟨.int _, H, I.kept hk, ⟨t, rfl⟩, q⟩
/-! ### sep.join(reversed(xs)) -/
theorem join_rev {prog : Program} {w : World} {A : Around} {E : Value → Shared → Prop} {s : Shared} {x : Str} {t : Tok} {Q : Value → Shared → Prop} {it l : Addr} {its : List Value} {ys : List Str} (hh : A.handled = none)
    (hit : s.heap.IsRevIter it l ((its.toArray.size : Int) - 1)) (hl : s.heap.IsList l its.toArray) (hne : l ≠ it) (hn : its.length ≤ sizeLine) (hi : StrsAre its ys) (hok : (ys.map (·.length)).sum + ys.length * x.length ≤ 16777216)
    (h : ∀ h' t' k, (∀ b o, b ≠ it → s.heap.get? b = some o → h'.get? b = some o) → Q (.str (Txt.join x ys.reverse) t') { s with heap := h', toks := k }) :
    wpAny (model prog w) A (call (.builtin "str.join") [.str x t, .ref it]) Q E s := by
  refine wpAny_call (codeAny_call_builtin F.slot_str_join.plain F.entry_str_join (F.slot_str_join.check _ _ _ _ _ _ _ _ (typeIs_str _ _ _) (F.args_str_join_2 _ _) ?_))
  rw [join_tree_other]
  refine wpAny_bind (wpAny_typeOf hit.typeIs ?_)
  show wpAny _ A.in1 ((pyIter (.ref it)).tryCatch _ >>= fun i => collect i >>= fun items => joinTail x items) _ _ s
  refine wpAny_bind (wpAny_tryCatch (wpAny_pyIter_revIter hit ?_))
  refine wpAny_bind (RT.collect_rev (A := A.in1) hh hit hl hne (by simpa using hn) fun h' tk acc hk hacc => ?_)
  obtain ⟨l', hl', hm⟩ : ∃ l' : List (Str × Tok), strValues l' = acc.toList ∧ l'.map (·.1) = ys.reverse := by
    obtain ⟨l0, hv, ht⟩ := strsAre_values hi
    refine ⟨l0.reverse, ?_, by rw [List.map_reverse, ht]⟩
    have e1 : strValues l0.reverse = (strValues l0).reverse := by simp [strValues]
    rw [e1, ← hv]
    apply List.ext_getElem?
    intro i
    have hsz : acc.size = its.length := by have := hacc.1; simpa using this
    by_cases hlt : i < its.length
    · have hx := hacc.2 i acc[i] (by simp [hsz, hlt])
      rw [List.getElem?_reverse hlt]
      have e2 : acc.toList[i]? = some acc[i] := by simp [hsz, hlt]
      rw [e2, ← hx]
      simp
    · rw [List.getElem?_eq_none (by simp; omega), List.getElem?_eq_none (by simp; omega)]
  rw [← hl']
  have hz : (ys.reverse.map (·.length)).sum + ys.reverse.length * x.length ≤ 16777216 := by
    rw [List.map_reverse, List.sum_reverse, List.length_reverse]; exact hok
  have hJ : JoinOk x (l'.map (·.1)) = true := by rw [hm]; exact joinOk_of hz
  unfold JoinOk at hJ
  rw [Bool.not_eq_true'] at hJ
  have g : Gives (joinTail x (strValues l')) (joinMade x l') := by
    have g0 := gives_joinTail x l' hJ
    cases l' with
    | nil => exact g0
    | cons p r => cases r with
      | nil => exact g0
      | cons q r' => exact g0
  exact g prog w A (wants Q E) _ (post_join (Q := fun v s' => Q v s') l' ⟨joinFit_length hJ, fun t' k => by rw [hm]; exact h h' t' k hk⟩)
end
end Sh
namespace Sh
open PySem L2 PySem.Spec PyProof.Rows
section
variable {X : Cx}
def tJoinRev (K : PySem.W.Frag) (to te : TE) : TE := fun σ H Q => to σ H fun x H1 => (∃ a, x = .str a) ∧ te σ H1 fun v H2 => ∃ (a : Str) (l : Addr) (ys : List Str),
  x = .str a ∧ v = .ref l ∧ SqL K H2 l (ys.map V.str) ∧ (ys.map (·.length)).sum + ys.length * a.length ≤ 16777216 ∧ Q (.str (Txt.join a ys.reverse)) H2
theorem pe_joinRev {o e : Expr} {to te : TE} {apos pos p pos2 : Pos} (hc : X.calm = true) (hg : Gl X "reversed") (hm : X.mg "reversed" = none) (ho : PE X o to) (he : PE X e te)
    (hs1 : starEach [.Call (.Name "reversed" p) [e] [] pos2] X.env = [(false, eval (.Call (.Name "reversed" p) [e] [] pos2) X.env)] := by rfl)
    (hs : starEach [e] X.env = (false, eval e X.env) :: starEach [] X.env := by rfl)
    (hbase : attributeBase o "join" X.env (eval o X.env) = eval o X.env := by rfl) (hline : (apos.endLine == pos.line) = true := by rfl) :
    PE X (.Call (.Attribute o "join" apos) [.Call (.Name "reversed" p) [e] [] pos2] [] pos) (tJoinRev X.K to te) := by
  refine ⟨fun pins s σ H Q I h => ?_⟩
  refine PySem.Call_method1 hbase hs1 hline (thn (ho.run pins s σ H _ I h) fun v s1 ⟨x, H1, I1, r1, q1⟩ => ?_)
  obtain ⟨⟨a, rfl⟩, q1⟩ := q1
  obtain ⟨t, rfl⟩ := _root_.id r1
  refine ⟨"str", _, F.plainAttrs_str, F.slot_str_join, F.type_str_join, typeIs_str _ _ _, (fun _ e => nomatch e), Calls.callWith_builtin rfl (Calls.evalArgs_plain (Calls.spliced_cons ?_))⟩
  refine Call_ (ld_blt I1 hg hm PyProof.Rows.boot_reversed (PyProof.Rows.callWith_type1 (args_cons (thn (he.run pins s1 σ H1 _ I1 q1) fun u s2 ⟨v, H2, I2, r2, q2⟩ => args_nil ?_) hs) hs rfl))
  obtain ⟨a', l, ys, ea, rfl, hq, hz, q2⟩ := q2
  cases ea
  obtain rfl : u = Value.ref l := r2
  obtain ⟨its, rv, p', hsz⟩ := I2.list hq
  have hl := rv.length
  refine call_reversed_list p'.isList (Calls.spliced_nil ?_)
  have lt : l < s2.heap.objs.size := p'.lt
  have hit : (s2.heap.push (revObj l ((its.toArray.size : Int) - 1))).IsRevIter s2.heap.objs.size l ((its.toArray.size : Int) - 1) := ⟨_, Heap.get?_push_size _ rfl, rfl, rfl⟩
  have keep : ∀ b o, s2.heap.get? b = some o → (s2.heap.push (revObj l ((its.toArray.size : Int) - 1))).get? b = some o := fun b o q => Heap.get?_push_of_some _ q
  refine join_rev (s := { s2 with heap := s2.heap.push (revObj l ((its.toArray.size : Int) - 1)) }) (ys := ys) (I2.ok.hd hc) hit (p'.isList.at fun o q => keep _ _ q) (Nat.ne_of_lt lt) (by rw [← hl]; exact hsz) rv.strs hz fun h' t' k hk => ?_
  exact ⟨.str _, H2, I2.kept (t' := k) fun b o q => hk b o (Nat.ne_of_lt (Heap.lt_size q)) (keep b o q), ⟨t', rfl⟩, q2⟩
theorem pe_maxD {e : Expr} {te : TE} {p pos kp np : Pos} {j : Nat} (hc : X.calm = true) (hu : X.A.units + 8 < cLine) (hg : Gl X "max") (hm : X.mg "max" = none) (he : PE X e te)
    (hks : (backToKw pos (keywordEach [⟨some ("default" : Str), .Constant .none j np, kp⟩] X.env)).filterMap (·.1) = [("default" : Str)] := by rfl)
    (hal : (backToKw pos (keywordEach [⟨some ("default" : Str), .Constant .none j np, kp⟩] X.env)).all (·.1.isSome) = true := by rfl)
    (hno : (backToKw pos (keywordEach [⟨some ("default" : Str), .Constant .none j np, kp⟩] X.env)).any (·.1.isNone) = false := by rfl)
    (hs0 : starEach [e] X.env = (false, eval e X.env) :: starEach [] X.env := by rfl)
    (he1 : backTo pos (starEach [e] X.env) = (false, eval e X.env) :: backTo pos (starEach [] X.env) := by rfl) (hpl : (backTo pos (starEach [e] X.env)).any (·.1) = false := by rfl) :
    PE X (.Call (.Name "max" p) [e] [⟨some ("default" : Str), .Constant .none j np, kp⟩] pos) (tCKw (rMaxD X.K) (tCons te tNil) (tCons (tC .non) tNil)) :=
  pe_callBK (cr_maxD hc hu) hg hm (by decide +kernel) (pa_cons he pa_nil hs0) (pk_cons pe_non pk_nil) (he := he1) (hpl := hpl) (hall := hal) (hnone := hno) (hks := hks)
end
end Sh
namespace Sh
open PySem L2 PySem.Spec PyProof.Rows

/-! ### joined operators -/
section
variable {X : Cx}
def rMulA : R2 := fun x y H Q => rI CMul (fun i j => .int (i * j)) x y H Q ∨ (rI CMulW (fun i j => .int (i * j)) x y H Q ∨ ∃ i n, x = .str i ∧ y = .int n ∧ MulOk i n ∧ Q (.str (Txt.mul i n)) H)
theorem op_mulA : OpR X (binaryOp .Mult) rMulA := op_mul.or (op_mulW.or op_mul_str)
def rInSg : R2 := fun x y H Q => ∃ (c : Nat) (z : Str), x = .str ⟨#[c]⟩ ∧ y = .str z ∧ Q (.bl (decide (c ∈ z.cps.toList))) H
def rNinSg : R2 := fun x y H Q => ∃ (c : Nat) (z : Str), x = .str ⟨#[c]⟩ ∧ y = .str z ∧ Q (.bl (!decide (c ∈ z.cps.toList))) H
def rInA (K : PySem.W.Frag) : R2 := fun x y H Q => rIn K false x y H Q ∨ (rInSg x y H Q ∨ rInDT K x y H Q)
def rNinA (K : PySem.W.Frag) : R2 := fun x y H Q => rIn K true x y H Q ∨ rNinSg x y H Q
theorem op_inA (hu : X.A.units + 65 < cLine) : OpR X (compareOp .In) (rInA X.K) := op_in_seq.or (OpR.or (r := rInSg) op_in_sign (op_inDT hu))
theorem op_ninA : OpR X (compareOp .NotIn) (rNinA X.K) := op_notIn_seq.or (r' := rNinSg) op_notIn_sign
theorem sl_A : SlR X (rSlAA X.K) := sl_list.or (sl_tupA.or sl_str)
theorem hu65 {k : Nat} {A : Around} (hr : Room k A) : A.units + 65 < cLine := by have := hr.un; omega
theorem hu8 {k : Nat} {A : Around} (hr : Room k A) : A.units + 8 < cLine := by have := hr.un; omega
end

/-! ### defs and methods, packed -/
/-- the def that the module's name x holds keeps its promise -/
structure Fk (P : Program) (w : World) (K : PySem.W.Frag) (mg : Str → Option Value) (base : Heap) (CX : CXT) (k : Nat) (x : Str) (ps : List Str) (sp : Sp) : Prop where
  out : ∃ f fd, FnOk P w K mg base CX k f fd ps sp ∧ mg x = some (.ref f) ∧ PySem.W.keepIn K (.ref f) = true ∧ Binds K fd ps []
/-- the method m of the class at C keeps its promise -/
structure Mt (P : Program) (w : World) (K : PySem.W.Frag) (mg : Str → Option Value) (base : Heap) (CX : CXT) (k : Nat) (C : Addr) (m : Str) (ps : List Str) (sp : Sp) : Prop where
  cls : Cls K C
  out : ∃ f fd, FnOk P w K mg base CX k f fd ps sp ∧ Meth K C m f ∧ Binds K fd ps []
/-- the class that the module's name x holds is made by its __init__, which keeps its promise -/
structure Mkk (P : Program) (w : World) (K : PySem.W.Frag) (mg : Str → Option Value) (base : Heap) (CX : CXT) (k : Nat) (x : Str) (C : Addr) (ps : List Str) (sp : Sp) : Prop where
  out : ∃ f fd, FnOk P w K mg base CX k f fd ps sp ∧ Mk K C f ∧ mg x = some (.ref C) ∧ Binds K fd ps []
def tFn (sp : Sp) (E : XK) (t : TA) : TE := fun σ H Q => t σ H fun vs H1 => sp vs H1 Q E
def tMt (C : Addr) (m : Str) (sp : Sp) (E : XK) (ta : TE) (t : TA) : TE := fun σ H Q => ta σ H fun x H1 => ∃ a dx fs, x = .ref a ∧ H1 a = some (.ins C dx fs) ∧ fs.lookup m = none ∧ t σ H1 fun vs H2 => sp (.ref a :: vs) H2 Q E
def tMkk (C : Addr) (sp : Sp) (E : XK) (t : TA) : TE := fun σ H Q => t σ H fun vs H1 => ∀ x dx, H1 x = none → H1 dx = none → dx ≠ x → sp (.ref x :: vs) (upd (upd H1 dx (.own x)) x (.ins C dx [])) (fun v H2 => v = .non ∧ Q (.ref x) H2) E
section
variable {X : Cx} {CX : CXT} {j k : Nat} {x m : Str} {ps : List Str} {sp : Sp} {E : XK} {C : Addr} {e o : Expr} {es : List Expr} {t : TA} {ta : TE} {p pos apos : Pos}
theorem pe_fn (F : Fk X.prog X.w X.K X.mg X.base CX j x ps sp) (hr : Room k X.A) (hg : Gl X x) (ha : PA X (e :: es) t) (hjk : j ≤ k := by decide) (hx : Passes CX X E := by first | exact pass0 | exact passL) (hdb : (x == ("__debug__" : Str)) = false := by decide)
    (he : starEach (e :: es) X.env = (false, eval e X.env) :: starEach es X.env := by rfl) (hpl : (backTo pos (starEach es X.env)).any (·.1) = false := by rfl) :
    PE X (.Call (.Name x p) (e :: es) [] pos) (tFn sp E t) := by
  obtain ⟨f, fd, G, hm, hk, hb⟩ := F.out
  have h := pe_call (p := p) (pos := pos) G (hr.mono hjk) hg hm hk hb .nil hx ha hdb he hpl
  refine ⟨fun pins s σ H Q I q => h.run pins s σ H Q I ?_⟩
  unfold tCall
  simp only [List.append_nil]
  exact q
theorem pe_mt {pl : Sem Bool} (F : Mt X.prog X.w X.K X.mg X.base CX j C m ps sp) (hr : Room k X.A) (he : PE X o ta) (ha : PA X (e :: es) t) (hjk : j ≤ k := by decide) (hx : Passes CX X E := by first | exact pass0 | exact passL)
    (hst : starEach (e :: es) X.env = (false, eval e X.env) :: starEach es X.env := by rfl) (hpl : (backTo pos (starEach es X.env)).any (·.1) = false := by rfl)
    (ht : eval (.Call (.Attribute o m apos) (e :: es) [] pos) X.env = (do
      let ov ← eval o X.env
      standAt apos.atName
      let (f, first) ← holding [ov] (getMethod ov m pl)
      callWith pos f first (backTo pos (starEach (e :: es) X.env)) (backToKw pos (keywordEach [] X.env))) := by rfl) :
    PE X (.Call (.Attribute o m apos) (e :: es) [] pos) (tMt C m sp E ta t) := by
  obtain ⟨f, fd, G, hm, hb⟩ := F.out
  have h := pe_meth (pl := pl) (pos := pos) (apos := apos) he F.cls hm G (hr.mono hjk) hb .nil hx ha hst hpl ht
  refine ⟨fun pins s σ H Q I q => h.run pins s σ H Q I ?_⟩
  have e1 : tMeth C m sp [] E ta t = tMt C m sp E ta t := by
    funext σ H Q
    unfold tMeth tMt
    congr 1
    funext x H1
    apply propext
    constructor
    · rintro ⟨a, dx, fs, rfl, h1, h2, h3⟩
      exact ⟨a, dx, fs, rfl, h1, h2, by simpa using h3⟩
    · rintro ⟨a, dx, fs, rfl, h1, h2, h3⟩
      exact ⟨a, dx, fs, rfl, h1, h2, by simpa using h3⟩
  rw [e1]
  exact q
theorem pe_mt0 {pl : Sem Bool} (F : Mt X.prog X.w X.K X.mg X.base CX j C m ps sp) (hr : Room k X.A) (he : PE X o ta) (hjk : j ≤ k := by decide) (hx : Passes CX X E := by first | exact pass0 | exact passL)
    (ht : eval (.Call (.Attribute o m apos) [] [] pos) X.env = (do
      let ov ← eval o X.env
      standAt apos.atName
      let (f, first) ← holding [ov] (getMethod ov m pl)
      callWith pos f first (backTo pos (starEach [] X.env)) (backToKw pos (keywordEach [] X.env))) := by rfl) :
    PE X (.Call (.Attribute o m apos) [] [] pos) (tMt C m sp E ta tNil) := by
  obtain ⟨f, fd, G, hm, hb⟩ := F.out
  have h := pe_meth0 (pl := pl) (pos := pos) (apos := apos) he F.cls hm G (hr.mono hjk) hb .nil hx ht
  refine ⟨fun pins s σ H Q I q => h.run pins s σ H Q I ?_⟩
  have e1 : tMeth C m sp [] E ta tNil = tMt C m sp E ta tNil := by
    funext σ H Q
    unfold tMeth tMt
    congr 1
    funext x H1
    apply propext
    constructor
    · rintro ⟨a, dx, fs, rfl, h1, h2, h3⟩
      exact ⟨a, dx, fs, rfl, h1, h2, by simpa using h3⟩
    · rintro ⟨a, dx, fs, rfl, h1, h2, h3⟩
      exact ⟨a, dx, fs, rfl, h1, h2, by simpa using h3⟩
  rw [e1]
  exact q
theorem pe_mkk (F : Mkk X.prog X.w X.K X.mg X.base CX j x C ps sp) (hr : Room k X.A) (hg : Gl X x) (ha : PA X (e :: es) t) (hjk : j + 1 ≤ k := by decide) (hx : Passes CX X E := by first | exact pass0 | exact passL) (hdb : (x == ("__debug__" : Str)) = false := by decide)
    (he : starEach (e :: es) X.env = (false, eval e X.env) :: starEach es X.env := by rfl) (hpl : (backTo pos (starEach es X.env)).any (·.1) = false := by rfl) :
    PE X (.Call (.Name x p) (e :: es) [] pos) (tMkk C sp E t) := by
  obtain ⟨f, fd, G, M, hm, hb⟩ := F.out
  have h := pe_make (p := p) (pos := pos) M G (hr.mono hjk) hg hm hb .nil hx ha hdb he hpl
  refine ⟨fun pins s σ H Q I q => h.run pins s σ H Q I ?_⟩
  unfold tMake
  unfold tMkk at q
  simp only [List.append_nil]
  exact q
end

/-! ### the steps of a reading -/
section
variable {K : PySem.W.Frag} {σ : L2.St} {H : Hp} {Q : VK} {D : Ends} {ta tb te : TE} {t u : TS} {tt : TT} {b : Bool} {i j : Int} {x y v : V} {n : Nat} {A B p : Prop} {T : TA} {T1 : List V → Hp → Prop}
theorem w_seq {n b c : L2.St → Hp → Prop} {r : VK} (h : t ⟨u ⟨n, r, b, c⟩, r, b, c⟩ σ H) : tSeq t u ⟨n, r, b, c⟩ σ H := h
theorem w_asg {g : TG} (h : te σ H fun x H1 => g x σ H1 D.nx) : tAsg te g D σ H := h
theorem w_name {n : Nat} {Q : L2.St → Hp → Prop} (h : Q (σ.set n (some v)) H) : gName n v σ H Q := h
theorem w_ret (h : te σ H D.rt) : tRet te D σ H := h
theorem w_retN (h : D.rt .non H) : tRetN D σ H := h
theorem w_drop (h : te σ H fun _ H1 => D.nx σ H1) : tDrop te D σ H := h
theorem w_next (h : D.nx σ H) : tNext D σ H := h
theorem w_ifS (h : tt σ H fun b H1 => if b = true then t D σ H1 else u D σ H1) : tIfS tt t u D σ H := h
theorem w_var (e : σ[n]? = some (some v)) (h : Q v H) : tVar n σ H Q := ⟨v, e, h⟩
theorem w_c (h : Q v H) : tC v σ H Q := h
theorem w_op {r : R2} (h : ta σ H fun x H1 => tb σ H1 fun y H2 => r x y H2 Q) : tOp r ta tb σ H Q := h
theorem w_un {r : V → Hp → VK → Prop} (h : ta σ H fun x H1 => r x H1 Q) : tUn r ta σ H Q := h
theorem w_sl {r : V → Option Int → Option Int → Hp → VK → Prop} {tl th : TO} (h : te σ H fun x H1 => tl σ H1 fun l H2 => th σ H2 fun u H3 => r x l u H3 Q) : tSl r te tl th σ H Q := h
theorem w_nopart {Q : Option Int → Hp → Prop} (h : Q none H) : tNoPart σ H Q := h
theorem w_part {Q : Option Int → Hp → Prop} (h : te σ H fun x H1 => ∃ i, x = .int i ∧ Q (some i) H1) : tPart te σ H Q := h
theorem w_exint {Q : Int → Hp → Prop} (h : Q i H) : ∃ k, V.int i = .int k ∧ Q k H := ⟨i, rfl, h⟩
theorem w_exbl {Q : Bool → Hp → Prop} (h : Q b H) : ∃ k, V.bl b = .bl k ∧ Q k H := ⟨b, rfl, h⟩
theorem w_exbl' {P : Bool → Prop} (h : P b) : ∃ k, V.bl b = .bl k ∧ P k := ⟨b, rfl, h⟩
theorem w_test {Q : Bool → Hp → Prop} (h : te σ H fun x H1 => ∃ k, x = .bl k ∧ Q k H1) : tTest te σ H Q := h
theorem w_B {Q : Bool → Hp → Prop} (h : te σ H fun x H1 => ∃ k, x = .bl k ∧ Q k H1) : tB te σ H Q := h
theorem w_and {t u : TT} {Q : Bool → Hp → Prop} (h : t σ H fun c H1 => if c = true then u σ H1 Q else Q false H1) : tAnd t u σ H Q := h
theorem w_or {t u : TT} {Q : Bool → Hp → Prop} (h : t σ H fun c H1 => if c = true then Q true H1 else u σ H1 Q) : tOr t u σ H Q := h
theorem w_not {t : TT} {Q : Bool → Hp → Prop} (h : t σ H fun c H1 => Q (!c) H1) : tNot t σ H Q := h
theorem w_andV (h : ta σ H fun x H1 => ∃ c, x = .bl c ∧ if c = true then tb σ H1 Q else Q (.bl false) H1) : tAndV ta tb σ H Q := h
theorem w_orV (h : ta σ H fun x H1 => ∃ c, x = .bl c ∧ if c = true then Q (.bl true) H1 else tb σ H1 Q) : tOrV ta tb σ H Q := h
theorem w_notV (h : ta σ H fun x H1 => ∃ c, x = .bl c ∧ Q (.bl (!c)) H1) : tNotV ta σ H Q := h
theorem w_ifE (h : tt σ H fun c H1 => if c = true then ta σ H1 Q else tb σ H1 Q) : tIf tt ta tb σ H Q := h
theorem w_nil {Q : List V → Hp → Prop} (h : Q [] H) : tNil σ H Q := h
theorem w_cons {Q : List V → Hp → Prop} (h : te σ H fun x H1 => T σ H1 fun xs H2 => Q (x :: xs) H2) : tCons te T σ H Q := h
theorem w_tup (h : T σ H fun xs H1 => xs.length ≤ sizeLine ∧ ∀ p, H1 p = none → Q (.ref p) (upd H1 p (.tup xs))) : tTup T σ H Q := h
theorem w_lst (h : T σ H fun xs H1 => xs.length ≤ sizeLine ∧ ∀ p, H1 p = none → Q (.ref p) (upd H1 p (.lst xs))) : tLst T σ H Q := h
theorem w_CB {r : List V → Hp → VK → Prop} (h : T σ H fun vs H1 => r vs H1 Q) : tCB r T σ H Q := h
theorem w_fn {sp : Sp} {E : XK} (h : T σ H fun vs H1 => sp vs H1 Q E) : tFn sp E T σ H Q := h
theorem w_T (h : A) : if true = true then A else B := by rw [if_pos rfl]; exact h
theorem w_F (h : B) : if false = true then A else B := by rw [if_neg Bool.false_ne_true]; exact h
theorem w_if [Decidable p] (h1 : p → A) (h2 : ¬ p → B) : if decide p = true then A else B := by
  by_cases h : p
  · rw [if_pos (decide_eq_true h)]; exact h1 h
  · rw [if_neg (by rw [decide_eq_false h]; exact Bool.false_ne_true)]; exact h2 h
theorem w_ifn [Decidable p] (h1 : p → B) (h2 : ¬ p → A) : if (!decide p) = true then A else B := by
  by_cases h : p
  · rw [decide_eq_true h]; exact w_F (h1 h)
  · rw [decide_eq_false h]; exact w_T (h2 h)
theorem w_ifT [Decidable p] (hp : p) (h : A) : if decide p = true then A else B := by rw [decide_eq_true hp]; exact w_T h
theorem w_ifF [Decidable p] (hp : ¬ p) (h : B) : if decide p = true then A else B := by rw [decide_eq_false hp]; exact w_F h
/- ints -/
theorem w_I0 {g : Int → Int → V} (h : Q (g i j) H) : rI0 g (.int i) (.int j) H Q := ⟨i, j, rfl, rfl, h⟩
theorem w_I {C : Int → Int → Prop} {g : Int → Int → V} (c : C i j) (h : Q (g i j) H) : rI C g (.int i) (.int j) H Q := ⟨i, j, rfl, rfl, c, h⟩
theorem w_U {g : Int → V} (h : Q (g i) H) : rU g (.int i) H Q := ⟨i, rfl, h⟩
theorem w_addI (h : Q (.int (i + j)) H) : rAddA K (.int i) (.int j) H Q := .inl ⟨i, j, rfl, rfl, h⟩
theorem w_addS {a c : Str} (z : a.length + c.length ≤ sizeLine) (h : Q (.str (a ++ c)) H) : rAddA K (.str a) (.str c) H Q := .inr (.inl ⟨a, c, rfl, rfl, z, h⟩)
theorem w_mulL (c : -(2 ^ 64) < i ∧ i < 2 ^ 64) (h : Q (.int (i * j)) H) : rMulA (.int i) (.int j) H Q := .inl ⟨i, j, rfl, rfl, .inl c, h⟩
theorem w_mulR (c : -(2 ^ 64) < j ∧ j < 2 ^ 64) (h : Q (.int (i * j)) H) : rMulA (.int i) (.int j) H Q := .inl ⟨i, j, rfl, rfl, .inr c, h⟩
theorem w_mulW (c : CMulW i j) (h : Q (.int (i * j)) H) : rMulA (.int i) (.int j) H Q := .inr (.inl ⟨i, j, rfl, rfl, c, h⟩)
theorem w_mulS {a : Str} (c : MulOk a i) (h : Q (.str (Txt.mul a i)) H) : rMulA (.str a) (.int i) H Q := .inr (.inr ⟨a, i, rfl, rfl, c, h⟩)
/- comparisons -/
theorem w_eqI (h : Q (.bl (decide (i = j))) H) : rEqA K (.int i) (.int j) H Q := .inl ⟨rfl, by rw [show decide (V.int i = V.int j) = decide (i = j) from by simp]; exact h⟩
theorem w_neI (h : Q (.bl (!decide (i = j))) H) : rNeA K (.int i) (.int j) H Q := .inl ⟨rfl, by rw [show decide (V.int i = V.int j) = decide (i = j) from by simp]; exact h⟩
theorem w_eqS {a c : Str} (h : Q (.bl (decide (a = c))) H) : rEqA K (.str a) (.str c) H Q := .inl ⟨rfl, by rw [show decide (V.str a = V.str c) = decide (a = c) from by simp]; exact h⟩
theorem w_neS {a c : Str} (h : Q (.bl (!decide (a = c))) H) : rNeA K (.str a) (.str c) H Q := .inl ⟨rfl, by rw [show decide (V.str a = V.str c) = decide (a = c) from by simp]; exact h⟩
theorem w_eqD {d e : PyData} (hx : Dp K H x d) (hy : Dp K H y e) (sx : SeqAt.shaped d = true) (sy : SeqAt.shaped e = true) (h : Q (.bl (PyData.eqv d e)) H) : rEqA K x y H Q := .inr ⟨d, e, hx, hy, sx, sy, h⟩
theorem w_neD {d e : PyData} (hx : Dp K H x d) (hy : Dp K H y e) (sx : SeqAt.shaped d = true) (sy : SeqAt.shaped e = true) (h : Q (.bl (!PyData.eqv d e)) H) : rNeA K x y H Q := .inr ⟨d, e, hx, hy, sx, sy, h⟩
/- items -/
theorem w_ixL {a : Addr} {xs : List V} (hs : SqL K H a xs) (e : atI xs i = some v) (h : Q v H) : rIx K (.ref a) (.int i) H Q := .inl ⟨a, xs, i, v, rfl, rfl, hs, e, h⟩
theorem w_ixT {a : Addr} {xs : List V} (hs : Tp K H a xs) (e : atI xs i = some v) (h : Q v H) : rIx K (.ref a) (.int i) H Q := .inr (.inl ⟨a, xs, i, v, rfl, rfl, hs.sq, e, h⟩)
theorem w_ixS {z : Str} {c : Nat} (hz : z.length ≤ sizeLine) (e : atI z.cps.toList i = some c) (h : Q (.str ⟨#[c]⟩) H) : rIx K (.str z) (.int i) H Q := .inr (.inr ⟨z, i, c, rfl, rfl, hz, e, h⟩)
theorem atI_iss {xs : List V} {ds : List PyData} {d : PyData} (h : Iss K H xs ds) (e : atI ds i = some d) : ∃ v, atI xs i = some v ∧ Is K H v d := by
  unfold atI at e ⊢
  rw [h.length]
  cases q : ixN ds.length i with
  | none => rw [q] at e; cases e
  | some k =>
    rw [q] at e
    exact h.get e
/-- an item of data -/
theorem w_ixD {ds : List PyData} {d : PyData} (hs : Is K H x (.tuple ds)) (e : atI ds i = some d) (h : ∀ v, Is K H v d → Q v H) : rIx K x (.int i) H Q := by
  obtain ⟨a, xs, rfl, h1, h2⟩ := hs.tup_eq
  obtain ⟨v, q1, q2⟩ := atI_iss h2 e
  exact w_ixT h1 q1 (h v q2)
/-- a tuple of known things is data -/
theorem is_new {a : Addr} {xs : List V} {ds : List PyData} (h : Iss K H xs ds) (hp : H a = none) : Is K (upd H a (.tup xs)) (.ref a) (.tuple ds) :=
  .tup (SqT.of upd_same) (h.on (Chg.new (l := []) hp))
theorem w_for {wi : TI} {g : TG} {tb : TS} (h : wi σ H fun J H1 => ∃ W : Nat → Nat → L2.St → Hp → Prop, (∃ m, W 0 m σ H1) ∧ ∀ i m σ H, W i m σ H →
  (J.stop i H ∧ D.nx σ H) ∨ (J.go i H ∧ ∃ N : L2.St → Hp → Prop, (∀ σ' H', N σ' H' → ∃ m', m' < m ∧ W (i + 1) m' σ' H') ∧ ∀ x H', J.yld i H x H' → g x σ H' fun σ2 H2 => tb { D with nx := N, ct := N, bk := D.nx } σ2 H2)) : tFor wi g tb D σ H := h
theorem w_rng1 {R : It → Hp → Prop} (h : T σ H fun vs H1 => ∃ j : Int, vs = [.int j] ∧ -(2 ^ 62) ≤ j ∧ j < 2 ^ 62 ∧ R (Itr 0 j.toNat) H1) : iRng1 T σ H R := h
theorem w_rng2 {R : It → Hp → Prop} (h : T σ H fun vs H1 => ∃ i j : Int, vs = [.int i, .int j] ∧ (-(2 ^ 62) ≤ i ∧ i < 2 ^ 62 ∧ -(2 ^ 62) ≤ j ∧ j < 2 ^ 62) ∧ R (Itr i (j - i).toNat) H1) : iRng2 T σ H R := h
theorem w_iStr {R : It → Hp → Prop} (h : te σ H fun v H1 => ∃ x, v = .str x ∧ R (Its x) H1) : iStr te σ H R := h
theorem w_iTup {R : It → Hp → Prop} (h : te σ H fun x H1 => ∃ a, x = .ref a ∧ (∃ xs, SqT K H1 a xs) ∧ R (Itt K a) H1) : iTup K te σ H R := h
theorem w_iList {R : It → Hp → Prop} (h : te σ H fun x H1 => ∃ a, x = .ref a ∧ (∃ xs, SqL K H1 a xs) ∧ R (Itl K a) H1) : iList K te σ H R := h
theorem w_iEnumT {R : It → Hp → Prop} (h : T σ H fun vs H1 => ∃ a xs, vs = [.ref a] ∧ SqT K H1 a xs ∧ R (IteT K a) H1) : iEnumT K T σ H R := h
theorem w_iZip3 {R : It → Hp → Prop} (h : T σ H fun vs H1 => ∃ a b c xs ys zs, vs = [.ref a, .ref b, .ref c] ∧ SqT K H1 a xs ∧ SqT K H1 b ys ∧ SqT K H1 c zs ∧ R (Itz3 K a b c) H1) : iZip3 K T σ H R := h
theorem w_iZipT {a b : Addr} {xs ys : List V} {R : It → Hp → Prop} (hx : Tp K H a xs) (hy : Tp K H b ys) (h : R (RZ.ItzT K a b) H) : (∃ (a' b' : Addr) (xs ys : List V), ([.ref a, .ref b] : List V) = [.ref a', .ref b'] ∧ ((SqL K H a' xs ∧ SqL K H b' ys ∧ R (Itz K a' b') H) ∨ (SqT K H a' xs ∧ SqT K H b' ys ∧ R (RZ.ItzT K a' b') H))) :=
  ⟨a, b, xs, ys, rfl, .inr ⟨hx.sq, hy.sq, h⟩⟩
theorem w_iZipA {R : It → Hp → Prop} (h : T σ H fun vs H1 => ∃ (a b : Addr) (xs ys : List V), vs = [.ref a, .ref b] ∧ ((SqL K H1 a xs ∧ SqL K H1 b ys ∧ R (Itz K a b) H1) ∨ (SqT K H1 a xs ∧ SqT K H1 b ys ∧ R (RZ.ItzT K a b) H1))) : RZ.iZipA K T σ H R := h
theorem w_BM {t : String} {r : V → List V → Hp → VK → Prop} (h : te σ H fun x H1 => tyV K t x H1 ∧ T σ H1 fun xs H2 => r x xs H2 Q) : tBM K t r te T σ H Q := h
theorem w_gTup {n : Nat} {g : TGs} {a : Addr} {xs : List V} {Q : L2.St → Hp → Prop} (h : Tp K H a xs) (e : xs.length = n) (k : g xs σ H Q) : gTup K n g (.ref a) σ H Q := ⟨a, xs, rfl, h.sq, e, k⟩
theorem w_gCons {g : TG} {gs : TGs} {r : List V} {Q : L2.St → Hp → Prop} (h : g v σ H fun σ' H' => gs r σ' H' Q) : gCons g gs (v :: r) σ H Q := ⟨v, r, rfl, h⟩
theorem w_gNil {Q : L2.St → Hp → Prop} (h : Q σ H) : gNil [] σ H Q := ⟨rfl, h⟩
theorem w_append {a : Addr} {xs : List V} (h : H a = some (.lst xs)) (z : xs.length < sizeLine) (k : Q .non (upd H a (.lst (xs ++ [v])))) : tyV K "list" (.ref a) H ∧ rAppend (.ref a) [v] H Q := ⟨.inl ⟨rfl, _, SqL.of h⟩, a, xs, v, rfl, rfl, h, z, k⟩
theorem w_shl1 {k : Nat} (hk : k ≤ 1000000) (h : Q (.int (2 ^ k)) H) : rI CPow (fun i j => .int (i * 2 ^ j.toNat)) (.int 1) (.int (k : Int)) H Q :=
  ⟨1, k, rfl, rfl, ⟨by omega, by omega, by decide⟩, by
    show Q (.int (1 * 2 ^ (k : Int).toNat)) H
    rw [Int.one_mul, Int.toNat_natCast]; exact h⟩
theorem w_mod {m : Int} (hm : 0 < m) (h : Q (.int (i % m)) H) : rI (fun _ j => 0 < j) (fun i j => .int (i % j)) (.int i) (.int m) H Q := ⟨i, m, rfl, rfl, hm, h⟩
theorem w_aug {n : Nat} {ti : TIp} (e : σ[n]? = some (some x)) (h : te σ H fun y H1 => ti x y H1 fun z H2 => D.nx (σ.set n (some z)) H2) : tAug n te ti D σ H := ⟨x, e, h⟩
theorem w_ip {f : Int → Int → Int} (h : Q (.int (f i j)) H) : ipI f (.int i) (.int j) H Q := ⟨i, j, rfl, rfl, h⟩
theorem sz1000 {n : Nat} (h : n ≤ 100000) : n ≤ sizeLine := Nat.le_trans h (by decide)
theorem sl1000 {n : Nat} (h : n < 100000) : n < sizeLine := Nat.lt_of_lt_of_le h (by decide)
theorem w_chain {r r' : R2} {tc : TE} (h : ta σ H fun x H1 => tb σ H1 fun y H2 => r x y H2 fun z H3 => ∃ k, z = .bl k ∧ if k = true then tc σ H3 fun u H4 => r' y u H4 Q else Q (.bl false) H3) : tChain r r' ta tb tc σ H Q := h
theorem w_nT (h : B) : if (!true) = true then A else B := by rw [if_neg (by decide)]; exact h
theorem w_nF (h : A) : if (!false) = true then A else B := by rw [if_pos (by decide)]; exact h
theorem getMap {α : Type} {g : α → PyData} {l : List α} {xs : List V} {k : Nat} (h : Iss K H xs (l.map g)) (e : xs[k]? = some v) : ∃ a, l[k]? = some a ∧ Is K H v (g a) := by
  obtain ⟨d, q, r⟩ := h.getR e
  rw [List.getElem?_map] at q
  obtain ⟨a, h1, rfl⟩ := Option.map_eq_some_iff.mp q
  exact ⟨a, h1, r⟩
theorem getMapD {α : Type} {g : α → PyData} {l : List α} {xs : List V} {k : Nat} {a : α} (h : Iss K H xs (l.map g)) (e : l[k]? = some a) : ∃ v, xs[k]? = some v ∧ Is K H v (g a) :=
  h.get (by rw [List.getElem?_map, e]; rfl)
/-- an item of a row of data -/
theorem w_ixM {α : Type} {g : α → PyData} {l : List α} {k : Nat} {a : α} (hs : Is K H x (.tuple (l.map g))) (e : l[k]? = some a) (h : ∀ v, Is K H v (g a) → Q v H) : rIx K x (.int (k : Int)) H Q :=
  w_ixD hs (d := g a) (atI_nat (by rw [List.getElem?_map, e]; rfl)) h
theorem w_ixDI {ds : List PyData} {n : Int} (hs : Is K H x (.tuple ds)) (e : atI ds i = some (.int n)) (h : Q (.int n) H) : rIx K x (.int i) H Q := w_ixD hs e fun v hv => by rw [hv.int_eq]; exact h
theorem w_ixDS {ds : List PyData} {n : Str} (hs : Is K H x (.tuple ds)) (e : atI ds i = some (.str n)) (h : Q (.str n) H) : rIx K x (.int i) H Q := w_ixD hs e fun v hv => by rw [hv.str_eq]; exact h
theorem w_ixMI {l : List Int} {k : Nat} {a : Int} (hs : Is K H x (.tuple (l.map PyData.int))) (e : l[k]? = some a) (h : Q (.int a) H) : rIx K x (.int (k : Int)) H Q := w_ixM hs e fun v hv => by rw [hv.int_eq]; exact h
theorem w_slS {z : Str} {lo hi : Option Int} (hz : z.length ≤ sizeLine) (h : Q (.str (cutS z lo hi)) H) : rSlAA K (.str z) lo hi H Q := .inr (.inr ⟨z, rfl, hz, h⟩)
theorem w_slL {a : Addr} {xs : List V} {lo hi : Option Int} (hz : SqL K H a xs) (h : ∀ p, H p = none → Q (.ref p) (upd H p (.lst (cutV xs lo hi)))) : rSlAA K (.ref a) lo hi H Q := .inl ⟨a, xs, rfl, hz, h⟩
theorem range_getD {α β : Type} (d : α) (g : α → β) (l : List α) : (List.range l.length).map (fun i => g (l.getD i d)) = l.map g := by
  apply List.ext_getElem?
  intro i
  by_cases hi : i < l.length
  · simp [hi, List.getD_eq_getElem?_getD]
  · simp [hi]
def rIpS : TIp := fun x y H Q => ∃ i j, x = .str i ∧ y = .str j ∧ i.length + j.length ≤ sizeLine ∧ Q (.str (i ++ j)) H
theorem iop_add_str' {X : Cx} : PIp X .Add rIpS := fun pins s σ H x y v u Q I r1 r2 h => iop_add_str pins s σ H x y v u Q I r1 r2 h
theorem w_ipS {a c : Str} (z : a.length + c.length ≤ sizeLine) (h : Q (.str (a ++ c)) H) : rIpS (.str a) (.str c) H Q := ⟨a, c, rfl, rfl, z, h⟩
end
end Sh
namespace Sh
open PySem L2 PySem.Spec PyProof.Rows
/-! ### the rules with the written part named -/
section
variable {X : Cx} {K : PySem.W.Frag}
theorem op_addK (hK : X.K = K := by rfl) : OpR X (binaryOp .Add) (rAddA K) := by subst hK; exact op_addA
theorem op_eqK (hu : X.A.units + 64 < cLine) (hK : X.K = K := by rfl) : OpR X (compareOp .Eq) (rEqA K) := by subst hK; exact op_eqA hu
theorem op_neK (hu : X.A.units + 64 < cLine) (hK : X.K = K := by rfl) : OpR X (compareOp .NotEq) (rNeA K) := by subst hK; exact op_neA hu
theorem op_inK (hu : X.A.units + 65 < cLine) (hK : X.K = K := by rfl) : OpR X (compareOp .In) (rInA K) := by subst hK; exact op_inA hu
theorem op_ninK (hK : X.K = K := by rfl) : OpR X (compareOp .NotIn) (rNinA K) := by subst hK; exact op_ninA
theorem pe_ixK {a b : Expr} {ta tb : TE} {pos : Pos} (ha : PE X a ta) (hb : PE X b tb) (hs : PlainIx b) (hK : X.K = K := by rfl) : PE X (.Subscript a b pos) (tOp (rIx K) ta tb) := by subst hK; exact pe_ix ix_seq ha hb hs
theorem pe_fldK {e : Expr} {ta : TE} {f : Str} {pos : Pos} (he : PE X e ta) (hb : attributeBase e f X.env (eval e X.env) = eval e X.env) (hK : X.K = K := by rfl) : PE X (.Attribute e f pos) (tFld K ta f) := by subst hK; exact pe_fld he hb
theorem ps_fldK {o value : Expr} {ta tv : TE} {f : Str} {pos pos' : Pos} (ha : PE X o ta) (hv : PE X value tv) (hs : swapsWith value (some (.Attribute o f pos')) pos.line X.env = pure false) (hK : X.K = K := by rfl) : PS X (.Assign [.Attribute o f pos'] value pos) (sFld K ta tv f) := by
  subst hK; exact ps_fld ha hv hs
theorem pe_slK {e : Expr} {lo hi : Option Expr} {te : TE} {tl th : TO} {p2 pos : Pos} (he : PE X e te) (hl : PO X lo tl) (hu : PO X hi th) (hK : X.K = K := by rfl) : PE X (.Subscript e (.Slice lo hi none p2) pos) (tSl (rSlAA K) te tl th) := by
  subst hK; exact pe_slice sl_A he hl hu
theorem pe_bmK {T : String} {name : Str} {id : String} {r : V → List V → Hp → VK → Prop} {o e : Expr} {es : List Expr} {to : TE} {t : TA} {apos cpos : Pos} (pa : PlainAttrs T) (slot : Slot T name id) (hty : typeOf (.builtin id) = pure (.type "method_descriptor")) (hm : MtR X id r) (ho : PE X o to) (ha : PA X (e :: es) t)
    (hbase : attributeBase o name X.env (eval o X.env) = eval o X.env := by rfl)
    (hfew : ((backTo cpos (starEach (e :: es) X.env)).all (fun x => !x.1) && (backToKw cpos (keywordEach [] X.env)).all (fun x => x.1.isSome)
      && decide ((e :: es).length + ([] : List Keyword).length + (if ([] : List Keyword).isEmpty then 0 else 1) < 30)) = true := by rfl)
    (hline : (apos.endLine == cpos.line) = true := by rfl) (hs : starEach (e :: es) X.env = (false, eval e X.env) :: starEach es X.env := by rfl) (hplain : (backTo cpos (starEach es X.env)).any (·.1) = false := by rfl) (hK : X.K = K := by rfl) :
    PE X (.Call (.Attribute o name apos) (e :: es) [] cpos) (tBM K T r to t) := by subst hK; exact pe_bm pa slot hty hm ho ha hbase hfew hline hs hplain
theorem mt_tindexK (hK : X.K = K := by rfl) : MtR X "tuple.index" (rTIndex K) := by subst hK; exact mt_tindex
theorem pg_tupK {es : List Expr} {k : Nat} {t : TGs} {n : Nat} {pos : Pos} (hc : X.calm = true) (h : PGs X es t) (hn : (assignEach es X.env).length = n := by rfl) (hst : (assignEach es X.env).findIdx? (·.1) = none := by rfl) (hK : X.K = K := by rfl) :
    PG X (.Tuple es k pos) (gTup K n t) := by subst hK; exact pg_tup hc h hn hst
theorem pi_tupK {tg l : Expr} {tl : TE} (hl : PE X l tl) (hK : X.K = K := by rfl) : PI X tg l (iTup K tl) := by subst hK; exact pi_tup hl
theorem pi_listK {tg l : Expr} {tl : TE} (hl : PE X l tl) (hK : X.K = K := by rfl) : PI X tg l (iList K tl) := by subst hK; exact pi_list hl
theorem pi_enumK {e : Expr} {ta : TA} {p pos tpos : Pos} {elts : List Expr} {kk : Nat} (hg : Gl X "enumerate") (hm : X.mg "enumerate" = none) (ha : PA X [e] ta) (hs : starEach [e] X.env = [(false, eval e X.env)] := by rfl) (hK : X.K = K := by rfl) :
    PI X (.Tuple elts kk tpos) (.Call (.Name "enumerate" p) [e] [] pos) (iEnumT K ta) := by subst hK; exact pi_enumT hg hm ha hs
theorem pi_zipK {e e2 : Expr} {ta : TA} {p pos tpos : Pos} {elts : List Expr} {kk : Nat} (hg : Gl X "zip") (hm : X.mg "zip" = none) (ha : PA X [e, e2] ta)
    (hs : starEach [e, e2] X.env = (false, eval e X.env) :: starEach [e2] X.env := by rfl) (hpl : (backTo pos (starEach [e2] X.env)).any (·.1) = false := by rfl) (hK : X.K = K := by rfl) :
    PI X (.Tuple elts kk tpos) (.Call (.Name "zip" p) [e, e2] [] pos) (RZ.iZipA K ta) := by subst hK; exact RZ.pi_zipA hg hm ha hs hpl
theorem pi_zip3K {e e2 e3 : Expr} {ta : TA} {p pos tpos : Pos} {elts : List Expr} {kk : Nat} (hg : Gl X "zip") (hm : X.mg "zip" = none) (ha : PA X [e, e2, e3] ta)
    (hs : starEach [e, e2, e3] X.env = (false, eval e X.env) :: starEach [e2, e3] X.env := by rfl) (hpl : (backTo pos (starEach [e2, e3] X.env)).any (·.1) = false := by rfl) (hK : X.K = K := by rfl) :
    PI X (.Tuple elts kk tpos) (.Call (.Name "zip" p) [e, e2, e3] [] pos) (iZip3 K ta) := by subst hK; exact pi_zip3 hg hm ha hs hpl
def rLenK (K : PySem.W.Frag) : List V → Hp → VK → Prop := fun xs H Q => ∃ x n, xs = [x] ∧ LenV K x H n ∧ Q (.int n) H
theorem call_lenK (hK : X.K = K := by rfl) : CallR X (.builtin "len") (rLenK K) := by subst hK; exact call_len
theorem call_isiK' (hK : X.K = K := by rfl) : CallR X (.builtin "isinstance") (rIsi K) := by subst hK; exact call_isi
theorem cr_sumK (hc : X.calm = true) (hK : X.K = K := by rfl) : CallR X (.builtin "sum") (rSum K) := by subst hK; exact cr_sum hc
theorem cr_allK (hc : X.calm = true) (hK : X.K = K := by rfl) : CallR X (.builtin "all") (rAll K) := by subst hK; exact cr_all hc
/-- tuple(xs) of a list: a row -/
def rTupOf (K : PySem.W.Frag) : List V → Hp → VK → Prop := fun xs H Q => ∃ p ys, xs = [.ref p] ∧ SqL K H p ys ∧ ∀ l o, H l = none → o.cls = .type "tuple" → o.dict = none → Q (.ref l) (upd H l (.frz o (.tup ys)))
theorem call_tupleK (hK : X.K = K := by rfl) : CallR X (.type "tuple") (rTupOf K) := by
  subst hK
  intro pins s σ H xs us Q I r h
  obtain ⟨p, ys, rfl, hq, q⟩ := h
  obtain ⟨u, rfl, rx⟩ := vals1 r
  cases rx
  obtain ⟨its, r', pl, hz⟩ := I.list hq
  have hlen := r'.length
  refine call_tuple_list pl.isList (fun h' kp => ?_) (by simp only [List.size_toArray] <;> omega)
  have I1 : Inv X pins σ H { s with heap := h' } := I.kept (t' := s.toks) kp
  have I2 : Inv X pins σ (upd H h'.objs.size (.frz { cls := .type "tuple", data := .seq its.toArray } (.tup ys))) { s with heap := h'.push { cls := .type "tuple", data := .seq its.toArray } } :=
    I1.laid (t' := s.toks) (fun b o e => Heap.get?_push_of_some _ e) (Nat.le_refl _) (show ObjOk X.prog X.w _ _ _ (.frz _ (.tup ys)) from ⟨Heap.get?_push_size _ rfl, hz, its, r', IsTup.new _ _⟩)
  exact ⟨.ref h'.objs.size, _, I2, rfl, q _ _ (I1.hok.fresh (Nat.le_refl _)) rfl rfl⟩
/-- row.index(n) -/
def tRowIndex (to te : TE) : TE := fun σ H Q => to σ H fun x H1 => ∃ (a : Addr) (ns : List Int), x = .ref a ∧ RowAt H1 a (ns.map V.int) ∧ te σ H1 fun y H2 => ∃ n : Int, y = .int n ∧ RowAt H2 a (ns.map V.int) ∧ n ∈ ns ∧ Q (.int (ns.idxOf n : Nat)) H2
theorem pe_rowIndex {o e : Expr} {to te : TE} {apos cpos : Pos} (ho : PE X o to) (he : PE X e te)
    (hbase : attributeBase o "index" X.env (eval o X.env) = eval o X.env := by rfl)
    (hfew : ((backTo cpos (starEach [e] X.env)).all (fun x => !x.1) && (backToKw cpos (keywordEach [] X.env)).all (fun x => x.1.isSome)
      && decide (([e] : List Expr).length + ([] : List Keyword).length + (if ([] : List Keyword).isEmpty then 0 else 1) < 30)) = true := by rfl)
    (hline : (apos.endLine == cpos.line) = true := by rfl) (hs : starEach [e] X.env = (false, eval e X.env) :: starEach [] X.env := by rfl) (hplain : (backTo cpos (starEach [] X.env)).any (·.1) = false := by rfl) :
    PE X (.Call (.Attribute o "index" apos) [e] [] cpos) (tRowIndex to te) := by
  refine ⟨fun pins s σ H Q I h => ?_⟩
  refine wpAny_Call_method_late hbase hfew hline rfl (thn (ho.run pins s σ H _ I h) fun v s1 ⟨x, H1, I1, r1, q1⟩ => ?_)
  obtain ⟨a, ns, rfl, ⟨o, ea, hc, hd⟩, q1⟩ := q1
  obtain rfl : v = Value.ref a := r1
  have ho2 : s1.heap.get? a = some o := (show s1.heap.get? a = some o ∧ _ from I1.hok a _ ea).1
  refine ⟨"tuple", _, PySem.F.plainAttrs_tuple, PySem.F.slot_tuple_index, PySem.F.type_tuple_index, ⟨o, ho2, hc⟩, fun b e => ?_, ?_⟩
  · cases e
    exact ⟨o, ho2, hd⟩
  have hA := (pa_cons he pa_nil hs).run cpos pins s1 σ H1 (fun vs H2 => ∃ n : Int, vs = [.int n] ∧ RowAt H2 a (ns.map V.int) ∧ n ∈ ns ∧ Q (.int (ns.idxOf n : Nat)) H2) I1 (by
    show te σ H1 fun y H2 => ∃ n : Int, [y] = [.int n] ∧ RowAt H2 a (ns.map V.int) ∧ n ∈ ns ∧ Q (.int (ns.idxOf n : Nat)) H2
    have e : (fun y H2 => ∃ n : Int, [y] = [V.int n] ∧ RowAt H2 a (ns.map V.int) ∧ n ∈ ns ∧ Q (.int (ns.idxOf n : Nat)) H2) = (fun y H2 => ∃ n : Int, y = .int n ∧ RowAt H2 a (ns.map V.int) ∧ n ∈ ns ∧ Q (.int (ns.idxOf n : Nat)) H2) := by
      funext y H2
      simp
    rw [e]
    exact q1)
  rw [hs] at hA ⊢
  refine Calls.callWith_builtin (by show (false || (backTo cpos (starEach [] X.env)).any (·.1)) = false; rw [hplain] <;> rfl) (Calls.evalArgs_plain ?_)
  refine thn hA fun us s2 ⟨vs, H2, I2, r2, n, ev, hr2, hn, q2⟩ => ?_
  subst ev
  exact mt_tindex pins s2 σ H2 (.ref a) [.int n] (.ref a) us Q I2 rfl r2 ⟨a, ns, n, rfl, rfl, hr2.tp, hn, q2⟩
def rLstOf (K : PySem.W.Frag) : List V → Hp → VK → Prop := fun xs H Q => ∃ p ys, xs = [.ref p] ∧ (SqL K H p ys ∨ SqT K H p ys) ∧ ∀ l, H l = none → Q (.ref l) (upd H l (.lst ys))
theorem call_listK (hK : X.K = K := by rfl) : CallR X (.type "list") (rLstOf K) := by subst hK; exact call_list_of
end
/-! ### and their steps -/
section
variable {K : PySem.W.Frag} {σ : L2.St} {H : Hp} {Q : VK} {D : Ends} {te : TE} {x v : V} {i : Int}
theorem w_lenD {ds : List PyData} (h : Is K H x (.tuple ds)) (k : Q (.int ds.length) H) : rLenK K [x] H Q := by
  obtain ⟨a, xs, rfl, h1, h2⟩ := h.tup_eq
  exact ⟨_, xs.length, rfl, .inr ⟨xs, h1.sq, rfl⟩, by rw [h2.length]; exact k⟩
theorem w_lenT {a : Addr} {xs : List V} (h : Tp K H a xs) (k : Q (.int xs.length) H) : rLenK K [.ref a] H Q := ⟨_, xs.length, rfl, .inr ⟨xs, h.sq, rfl⟩, k⟩
theorem w_lenL {a : Addr} {xs : List V} (h : H a = some (.lst xs)) (k : Q (.int xs.length) H) : rLenK K [.ref a] H Q := ⟨_, xs.length, rfl, .inl ⟨xs, SqL.of h, rfl⟩, k⟩
theorem w_lenS {z : Str} (h : z.length ≤ sizeLine) (k : Q (.int z.length) H) : rLenK K [.str z] H Q := ⟨_, z.length, rfl, ⟨h, rfl⟩, k⟩
theorem w_fld {f : Str} (h : te σ H fun x H1 => ∃ a C dx fs v, x = .ref a ∧ H1 a = some (.ins C dx fs) ∧ Cls K C ∧ NoAttr K C f ∧ fs.lookup f = some v ∧ Q v H1) : tFld K te f σ H Q := h
theorem w_isi {t u : Value} {c : V} {b : Bool} (k : ClsV c u) (ty : TyX K H x t) (e : PySem.W.kitOne K t u = some b) (h : Q (.bl b) H) : rIsi K [x, c] H Q := ⟨x, c, t, u, b, rfl, k, ty, e, h⟩
theorem w_isiB {a b : String} {r : Bool} (ty : TyX K H x (.type a)) (e : kitB a b = some r) (h : Q (.bl r) H) : rIsi K [x, .ty b] H Q := ⟨x, _, _, _, r, rfl, .ty b, ty, kit_ty e, h⟩
theorem Tp.tyX {a : Addr} {xs : List V} (h : Tp K H a xs) : TyX K H (.ref a) (.type "tuple") := by
  rcases h with (h | ⟨o, h⟩) | ⟨o, its, n, h1, h2, _⟩
  · exact .base (.tup h)
  · exact .fTuple h
  · exact .kTuple h1 h2
theorem Is.tyX {ds : List PyData} (h : Is K H x (.tuple ds)) : TyX K H x (.type "tuple") := by
  obtain ⟨a, xs, rfl, h1, _⟩ := h.tup_eq
  exact h1.tyX
end
theorem inV_ints (v : Int) : ∀ row : List Int, inV (.int v) (row.map V.int) = decide (v ∈ row)
  | [] => by simp [inV]
  | r :: row => by
    have h := inV_ints v row
    unfold inV at h ⊢
    rw [List.map_cons, List.any_cons, h]
    show ((r == v) || decide (v ∈ row)) = _
    by_cases e : r = v
    · simp [e]
    · have e2 : ¬ v = r := fun q => e q.symm
      simp [e, e2]
theorem flat_ints (row : List Int) : (row.map V.int).all flatV = true := by
  rw [List.all_eq_true]
  intro x hx
  obtain ⟨a, _, rfl⟩ := List.mem_map.mp hx
  rfl
section
variable {K : PySem.W.Frag} {H : Hp} {Q : VK} {v : Int} {row : List Int} {a : Addr}
theorem w_ninI (t : Tp K H a (row.map V.int)) (h : Q (.bl (!decide (v ∈ row))) H) : rNinA K (.int v) (.ref a) H Q :=
  .inl ⟨a, _, rfl, .inr t, rfl, flat_ints row, by rw [inV_ints]; exact h⟩
theorem w_inI (t : Tp K H a (row.map V.int)) (h : Q (.bl (decide (v ∈ row))) H) : rInA K (.int v) (.ref a) H Q :=
  .inl ⟨a, _, rfl, .inr t, rfl, flat_ints row, by rw [inV_ints]; exact h⟩
theorem w_inLI (t : H a = some (.lst (row.map V.int))) (h : Q (.bl (decide (v ∈ row))) H) : rInA K (.int v) (.ref a) H Q :=
  .inl ⟨a, _, rfl, .inl (SqL.of t), rfl, flat_ints row, by rw [inV_ints]; exact h⟩
end
/-! ### walks of tuples -/
section
variable {K : PySem.W.Frag} {a b c : Addr} {xs ys zs : List V}
theorem walk_enumT : Walk (IteT K a) xs.length (fun H => SqT K H a xs) (YPair (fun i => some (.int (i : Nat))) (fun i => xs[i]?)) := by
  refine ⟨fun i _ hi q => ⟨xs, xs[i], q, by simp [hi]⟩, fun _ q => ⟨xs, q, rfl⟩, fun i H v H' _ q y => ?_⟩
  obtain ⟨T, x, h1, h2, h3, h4⟩ := y
  exact ⟨T, .int (i : Nat), x, h1, h2, h3, rfl, h4 xs q⟩
theorem walk_zipT (hl : xs.length = ys.length) : Walk (RZ.ItzT K a b) xs.length (fun H => SqT K H a xs ∧ SqT K H b ys) (YPair (fun i => xs[i]?) (fun i => ys[i]?)) := by
  refine ⟨fun i _ hi q => ⟨xs, ys, xs[i], ys[i]'(by omega), q.1, q.2, by simp [hi], by simp [show i < ys.length by omega]⟩, fun _ q => ⟨xs, ys, q.1, q.2, .inl (Nat.le_refl _)⟩, fun i H v H' _ q y => ?_⟩
  obtain ⟨T, x, z, h1, h2, h3, h4, h5⟩ := y
  exact ⟨T, x, z, h1, h2, h3, h4 xs q.1, h5 ys q.2⟩
def YTrip (xs ys zs : Nat → Option V) : Nat → Hp → V → Hp → Prop := fun i H v H' => ∃ T x y z, v = .ref T ∧ H T = none ∧ H' = upd H T (.tup [x, y, z]) ∧ xs i = some x ∧ ys i = some y ∧ zs i = some z
theorem walk_zip3 (h1 : xs.length = ys.length) (h2 : xs.length = zs.length) : Walk (Itz3 K a b c) xs.length (fun H => SqT K H a xs ∧ SqT K H b ys ∧ SqT K H c zs) (YTrip (fun i => xs[i]?) (fun i => ys[i]?) (fun i => zs[i]?)) := by
  refine ⟨fun i _ hi q => ⟨xs, ys, zs, xs[i], ys[i]'(by omega), zs[i]'(by omega), q.1, q.2.1, q.2.2, by simp [hi], by simp [show i < ys.length by omega], by simp [show i < zs.length by omega]⟩, fun _ q => ⟨xs, ys, zs, q.1, q.2.1, q.2.2, rfl, h1.symm, h2.symm⟩, fun i H v H' _ q y => ?_⟩
  obtain ⟨T, x, z, u, e1, e2, e3, e4, e5, e6⟩ := y
  exact ⟨T, x, z, u, e1, e2, e3, e4 xs q.1, e5 ys q.2.1, e6 zs q.2.2⟩
/-- a comprehension without a test whose elements are told by their places and change nothing -/
theorem lc_map {J : It} {n : Nat} {G : Hp → Prop} {Y : Nat → Hp → V → Hp → Prop} (w : Walk J n G Y) {g : TG} {te : TE} {vs : List Nat} {σ : L2.St} {H1 : Hp} {D : Addr} {Qd : Hp → Prop} (hD : H1 D = none) (f : Nat → V) (hn : n ≤ 100000) (hG : ∀ H, Chg [] H1 H → G H)
    (hs : ∀ i x H H' (Q : VK), i < n → Chg [] H1 H → Y i H x H' → (∀ H4, Chg [] H H4 → Q (f i) H4) → g x (wipe σ vs) H' fun σ2 H2 => wipe σ2 vs = wipe σ vs ∧ te σ2 H2 Q)
    (hd : ∀ H, Chg [] H1 H → H D = some (.lst ((List.range n).map f)) → Qd H) :
    ∃ W : Nat → Nat → Hp → Prop, (∃ m, W 0 m (upd H1 D (.lst []))) ∧ ∀ i m H, W i m H →
      (J.stop i H ∧ Qd H) ∨ (J.go i H ∧ ∃ Nx : Hp → Prop, (∀ H', Nx H' → ∃ m', m' < m ∧ W (i + 1) m' H') ∧ ∀ x H', J.yld i H x H' → g x (wipe σ vs) H' fun σ2 H2 => wipe σ2 vs = wipe σ vs ∧ tYes σ2 H2 fun b H3 =>
        if b = true then te σ2 H3 fun y H4 => ∃ acc, H4 D = some (.lst acc) ∧ acc.length < sizeLine ∧ Nx (upd H4 D (.lst (acc ++ [y]))) else Nx H3) := by
  refine lc_it w (fun i H => Chg [] H1 H ∧ H D = some (.lst ((List.range i).map f))) ⟨Chg.new hD, upd_same⟩ (fun i H _ h => hG H h.1) (fun i x H H' hi h y => ?_) fun H h => hd H h.1 h.2
  have h3 := hs i x H H' (fun y H4 => ∃ acc, H4 D = some (.lst acc) ∧ acc.length < sizeLine ∧ Chg [] H1 (upd H4 D (.lst (acc ++ [y]))) ∧ upd H4 D (.lst (acc ++ [y])) D = some (.lst ((List.range (i + 1)).map f))) hi h.1 y (fun H4 c => ?_)
  · exact h3
  · refine ⟨_, c.keep _ _ h.2 (fun z => nomatch z), sl1000 (by simp; omega), (h.1.trans c).mut hD, ?_⟩
    rw [upd_same, List.range_succ, List.map_append]
    rfl
theorem w_rowIndex {to te : TE} {σ : L2.St} {H : Hp} {Q : VK} (h : to σ H fun x H1 => ∃ (a : Addr) (ns : List Int), x = .ref a ∧ RowAt H1 a (ns.map V.int) ∧ te σ H1 fun y H2 => ∃ n : Int, y = .int n ∧ RowAt H2 a (ns.map V.int) ∧ n ∈ ns ∧ Q (.int (ns.idxOf n : Nat)) H2) : tRowIndex to te σ H Q := h
theorem w_lc {wi : TI} {g : TG} {tt : TT} {te : TE} {vs : List Nat} {σ : L2.St} {H : Hp} {Q : VK} (h : wi σ H fun J H1 => ∀ D, H1 D = none → ∃ W : Nat → Nat → Hp → Prop, (∃ m, W 0 m (upd H1 D (.lst []))) ∧ ∀ i m H, W i m H →
  (J.stop i H ∧ Q (.ref D) H) ∨ (J.go i H ∧ ∃ Nx : Hp → Prop, (∀ H', Nx H' → ∃ m', m' < m ∧ W (i + 1) m' H') ∧ ∀ x H', J.yld i H x H' → g x (wipe σ vs) H' fun σ2 H2 => wipe σ2 vs = wipe σ vs ∧ tt σ2 H2 fun b H3 =>
    if b = true then te σ2 H3 fun y H4 => ∃ acc, H4 D = some (.lst acc) ∧ acc.length < sizeLine ∧ Nx (upd H4 D (.lst (acc ++ [y]))) else Nx H3)) : tLc wi g tt te vs σ H Q := h
end
end Sh
namespace Sh
open PySem L2 PySem.Spec PyProof.Rows
/-- a def of the top as it stands behind it -/
structure Top (K : PySem.W.Frag) (mg : Str → Option Value) (x : Str) (st : Stmt) : Prop where
  out : ∃ f fd, Fun K x x st f fd ∧ mg x = some (.ref f)
/-- names that the program leaves to the built-ins; its own constants -/
structure Txt (K : PySem.W.Frag) (mg : Str → Option Value) : Prop where
  b_len : mg "len" = none
  b_isinstance : mg "isinstance" = none
  b_all : mg "all" = none
  b_sum : mg "sum" = none
  b_range : mg "range" = none
  b_divmod : mg "divmod" = none
  b_reversed : mg "reversed" = none
  b_zip : mg "zip" = none
  b_enumerate : mg "enumerate" = none
  b_tuple : mg "tuple" = none
  b_list : mg "list" = none
  b_dict : mg "dict" = none
  b_min : mg "min" = none
  b_max : mg "max" = none
  b_abs : mg "abs" = none
  b_int : mg "int" = none
  b_str : mg "str" = none
  b_bool : mg "bool" = none
  g_SIGNS : ∃ t, mg "SIGNS" = some (.str "01" t)
theorem w_exint' {i : Int} {P : Int → Prop} (h : P i) : ∃ k, V.int i = .int k ∧ P k := ⟨i, rfl, h⟩
theorem w_nn {A : Prop} (h : A) : V.non = V.non ∧ A := ⟨rfl, h⟩
section
variable {P : Program} {w : World} {K : PySem.W.Frag} {mg : Str → Option Value} {base : Heap}
theorem Top.fk {x : Str} {st : Stmt} {ps : List Str} {k : Nat} {sp : Sp} {CX : CXT} (F : Top K mg x st) (hb : ∀ (kV doc pm : Value) (an : Option Addr) (cdv ct : Value) (us : List Value), us.length = ps.length → bindArgs (PySem.W.fnOf x x (defArgs st) (defBody st) (defScope st) .none kV doc pm an cdv ct) ⟨us, []⟩ = pure (ps.zip us))
    (h : ∀ f fd, Fun K x x st f fd → FnOk P w K mg base CX k f fd ps sp) : Fk P w K mg base CX k x ps sp := by
  obtain ⟨f, fd, F1, hm⟩ := F.out
  exact ⟨f, fd, h f fd F1, hm, F1.kp, F1.binds hb⟩
end
end Sh
namespace Sh
open PySem L2 PySem.Spec PyProof.Rows
/-! ### classes and their methods -/
structure TopM (K : PySem.W.Frag) (C : Addr) (m qn : Str) (st : Stmt) : Prop where
  out : ∃ f fd, Fun K m qn st f fd ∧ Meth K C m f
structure TopI (K : PySem.W.Frag) (mg : Str → Option Value) (x : Str) (C : Addr) (st : Stmt) : Prop where
  mk0 ::
  out : ∃ f fd, Fun K "__init__" (x ++ ".__init__") st f fd ∧ Mk K C f ∧ mg x = some (.ref C)
structure ClsPresser (K : PySem.W.Frag) (C : Addr) : Prop where
  cls : Cls K C
  pact : NoAttr K C "pact"
  past : NoAttr K C "past"
  had : NoAttr K C "had_most"
  base : NoAttr K C "base_most"
  fresh : NoAttr K C "fresh_from"
structure ClsReader (K : PySem.W.Frag) (C : Addr) : Prop where
  cls : Cls K C
  pact : NoAttr K C "pact"
  greatest : NoAttr K C "greatest"
  held : NoAttr K C "held"
structure ClsRoad (K : PySem.W.Frag) (C : Addr) : Prop where
  cls : Cls K C
  pact : NoAttr K C "pact"
  one : NoAttr K C "one_end"
  other : NoAttr K C "other_end"
  line : NoAttr K C "line"
  back : NoAttr K C "back"
  row : NoAttr K C "whole_row"
  came : NoAttr K C "came_most"
section
variable {P : Program} {w : World} {K : PySem.W.Frag} {mg : Str → Option Value} {base : Heap}
theorem TopM.mt {C : Addr} {m qn : Str} {st : Stmt} {ps : List Str} {k : Nat} {sp : Sp} {CX : CXT} (F : TopM K C m qn st) (c : Cls K C) (hb : ∀ (kV doc pm : Value) (an : Option Addr) (cdv ct : Value) (us : List Value), us.length = ps.length → bindArgs (PySem.W.fnOf m qn (defArgs st) (defBody st) (defScope st) .none kV doc pm an cdv ct) ⟨us, []⟩ = pure (ps.zip us))
    (h : ∀ f fd, Fun K m qn st f fd → FnOk P w K mg base CX k f fd ps sp) : Mt P w K mg base CX k C m ps sp := by
  obtain ⟨f, fd, F1, hm⟩ := F.out
  exact ⟨c, f, fd, h f fd F1, hm, F1.binds hb⟩
theorem TopI.mk {x : Str} {C : Addr} {st : Stmt} {ps : List Str} {k : Nat} {sp : Sp} {CX : CXT} (F : TopI K mg x C st) (hb : ∀ (kV doc pm : Value) (an : Option Addr) (cdv ct : Value) (us : List Value), us.length = ps.length → bindArgs (PySem.W.fnOf "__init__" (x ++ ".__init__") (defArgs st) (defBody st) (defScope st) .none kV doc pm an cdv ct) ⟨us, []⟩ = pure (ps.zip us))
    (h : ∀ f fd, Fun K "__init__" (x ++ ".__init__") st f fd → FnOk P w K mg base CX k f fd ps sp) : Mkk P w K mg base CX k x C ps sp := by
  obtain ⟨f, fd, F1, hm, hg⟩ := F.out
  exact ⟨f, fd, h f fd F1, hm, hg, F1.binds hb⟩
end
section
variable {K : PySem.W.Frag} {σ : L2.St} {H : Hp} {Q : VK} {D : Ends} {ta tv te : TE} {T : TA} {sp : Sp} {E : XK} {C a dx : Addr} {m f : Str} {fs fs' : List (Str × V)} {v y : V}
theorem w_mt (h : ta σ H fun x H1 => ∃ a dx fs, x = .ref a ∧ H1 a = some (.ins C dx fs) ∧ fs.lookup m = none ∧ T σ H1 fun vs H2 => sp (.ref a :: vs) H2 Q E) : tMt C m sp E ta T σ H Q := h
theorem w_mkk (h : T σ H fun vs H1 => ∀ x dx, H1 x = none → H1 dx = none → dx ≠ x → sp (.ref x :: vs) (upd (upd H1 dx (.own x)) x (.ins C dx [])) (fun v H2 => v = .non ∧ Q (.ref x) H2) E) : tMkk C sp E T σ H Q := h
theorem w_self (o : H a = some (.ins C dx fs)) (l : fs.lookup m = none) (h : T σ H (fun vs H2 => sp (.ref a :: vs) H2 Q E)) :
    ∃ a' dx' fs', V.ref a = .ref a' ∧ H a' = some (.ins C dx' fs') ∧ fs'.lookup m = none ∧ T σ H fun vs H2 => sp (.ref a' :: vs) H2 Q E := ⟨a, dx, fs, rfl, o, l, h⟩
theorem w_field {Q : V → Prop} (o : H a = some (.ins C dx fs)) (c : Cls K C) (n : NoAttr K C f) (l : fs.lookup f = some v) (h : Q v) :
    ∃ a' C' dx' fs' v', V.ref a = .ref a' ∧ H a' = some (.ins C' dx' fs') ∧ Cls K C' ∧ NoAttr K C' f ∧ fs'.lookup f = some v' ∧ Q v' := ⟨a, C, dx, fs, v, rfl, o, c, n, l, h⟩
theorem w_fset (h : tv σ H fun y H1 => ta σ H1 fun x H2 => ∃ a C dx fs, x = .ref a ∧ H2 a = some (.ins C dx fs) ∧ Cls K C ∧ NoAttr K C f ∧ fs.length < 1000 ∧ D.nx σ (upd H2 a (.ins C dx (putF f y fs)))) : sFld K ta tv f D σ H := h
theorem pl1 {n : Nat} (h : fs.length ≤ n) : (putF f v fs).length ≤ n + 1 := Nat.le_trans (length_putF ..) (by omega)
theorem w_dget {td ty : TE} (h : td σ H fun x H1 => ty σ H1 fun y H2 => ∃ a v, x = .ref a ∧ DGet H2 a y (some v) ∧ Q v H2) : tDGet td ty σ H Q := h
theorem w_din {td ty : TE} (h : ty σ H fun y H1 => td σ H1 fun x H2 => ∃ a o, x = .ref a ∧ DGet H2 a y o ∧ Q (.bl o.isSome) H2) : tDIn ty td σ H Q := h
theorem w_dput {td ty : TE} (h : tv σ H fun v H1 => td σ H1 fun x H2 => ty σ H2 fun y H3 => ∃ a H4, x = .ref a ∧ DPut H3 a y v H4 ∧ D.nx σ H4) : sDPut td ty tv D σ H := h
theorem w_dnew (h : ∀ p, H p = none → Q (.ref p) (upd H p (.dK []))) : tDNewK σ H Q := h
theorem w_keys {td : TE} {R : It → Hp → Prop} (h : td σ H fun x H1 => ∃ d o, x = .ref d ∧ ((∃ kvs, H1 d = some (.frz o (.dK kvs)) ∧ R (Itk d o kvs) H1) ∨ ∃ kvs, H1 d = some (.frz o (.dT kvs)) ∧ R (Itkt d o kvs) H1)) : iKeys td σ H R := h
end
theorem putF_len {f : Str} {v u : V} : ∀ {fs : List (Str × V)}, fs.lookup f = some u → (putF f v fs).length = fs.length
  | [], h => by simp at h
  | (g, x) :: r, h => by
    unfold putF
    by_cases e : g = f
    · rw [if_pos e]
      rfl
    · rw [if_neg e]
      have h2 : r.lookup f = some u := by
        rw [List.lookup_cons] at h
        have : (f == g) = false := by
          cases q : (f == g) with
          | false => rfl
          | true => exact absurd (eq_of_beq q).symm e
        rw [this] at h
        exact h
      simp [putF_len h2]
theorem look_same {f : Str} {v : V} {fs : List (Str × V)} : (putF f v fs).lookup f = some v := by rw [lookup_putF, if_pos rfl]
theorem look_other {f g : Str} {v : V} {fs : List (Str × V)} (h : (g == f) = false) : (putF f v fs).lookup g = fs.lookup g := by
  rw [lookup_putF, if_neg (fun e => by rw [e] at h; simp at h)]
def optV : Option Nat → V
  | none => .non
  | some n => .int n
def optD : Option Nat → PyData
  | none => .none
  | some n => .int n
/-- a comprehension without a test whose elements are data -/
theorem lc_data {K : PySem.W.Frag} {J : It} {n : Nat} {G : Hp → Prop} {Y : Nat → Hp → V → Hp → Prop} (w : Walk J n G Y) {g : TG} {te : TE} {vs : List Nat} {σ : L2.St} {H1 : Hp} {D : Addr} {Qd : Hp → Prop} (l : List Addr) (hD : H1 D = none) (hl : D ∉ l) (hn : n ≤ 100000) (Pv : Nat → Hp → Prop) (Ok : Nat → PyData → Prop)
    (h0 : Pv 0 H1) (hP : ∀ i H o, Pv i H → Pv i (upd H D o)) (hG : ∀ H, Chg l H1 H → G H)
    (hs : ∀ i x H H' (Q : VK), i < n → Chg l H1 H → Pv i H → Y i H x H' → (∀ H4 v e, Chg l H H4 → Pv (i + 1) H4 → Is K H4 v e → Ok i e → Q v H4) → g x (wipe σ vs) H' fun σ2 H2 => wipe σ2 vs = wipe σ vs ∧ te σ2 H2 Q)
    (hd : ∀ H xs es, Chg l H1 H → Pv n H → H D = some (.lst xs) → Iss K H xs es → es.length = n → (∀ j e, es[j]? = some e → Ok j e) → Qd H) :
    ∃ W : Nat → Nat → Hp → Prop, (∃ m, W 0 m (upd H1 D (.lst []))) ∧ ∀ i m H, W i m H →
      (J.stop i H ∧ Qd H) ∨ (J.go i H ∧ ∃ Nx : Hp → Prop, (∀ H', Nx H' → ∃ m', m' < m ∧ W (i + 1) m' H') ∧ ∀ x H', J.yld i H x H' → g x (wipe σ vs) H' fun σ2 H2 => wipe σ2 vs = wipe σ vs ∧ tYes σ2 H2 fun b H3 =>
        if b = true then te σ2 H3 fun y H4 => ∃ acc, H4 D = some (.lst acc) ∧ acc.length < sizeLine ∧ Nx (upd H4 D (.lst (acc ++ [y]))) else Nx H3) := by
  refine lc_it w (fun i H => Chg l H1 H ∧ Pv i H ∧ ∃ xs es, H D = some (.lst xs) ∧ Iss K H xs es ∧ es.length = i ∧ ∀ j e, es[j]? = some e → Ok j e) ⟨Chg.new hD, hP _ _ _ h0, [], [], upd_same, .nil, rfl, fun j e h => by simp at h⟩ (fun i H _ h => hG H h.1) (fun i x H H' hi h y => ?_) fun H h => ?_
  · obtain ⟨c, hp, xs, es, hx, hs1, hle, hok⟩ := h
    refine hs i x H H' (fun y H4 => ∃ acc, H4 D = some (.lst acc) ∧ acc.length < sizeLine ∧ (Chg l H1 (upd H4 D (.lst (acc ++ [y]))) ∧ Pv (i + 1) (upd H4 D (.lst (acc ++ [y]))) ∧ ∃ xs es, upd H4 D (.lst (acc ++ [y])) D = some (.lst xs) ∧ Iss K (upd H4 D (.lst (acc ++ [y]))) xs es ∧ es.length = i + 1 ∧ ∀ j e, es[j]? = some e → Ok j e)) hi c hp y (fun H4 v e c4 p4 i4 o4 => ?_)
    have hx4 : H4 D = some (.lst xs) := c4.keep _ _ hx hl
    have c5 : Chg [D] H4 (upd H4 D (.lst (xs ++ [v]))) := Chg.refl.put (by simp) hx4 rfl
    refine ⟨xs, hx4, sl1000 (by rw [hs1.length]; omega), (c.trans c4).mut hD, hP _ _ _ p4, _, es ++ [e], upd_same, ((hs1.on c4).on c5).append (Iss.one (i4.on c5)), by simp [hle], fun j e' he => ?_⟩
    by_cases hj : j < es.length
    · rw [List.getElem?_append_left hj] at he
      exact hok j e' he
    · have hj2 : j = es.length := by
        have := (List.getElem?_eq_some_iff.mp he).1
        simp at this
        omega
      subst hj2
      rw [List.getElem?_append_right (Nat.le_refl _)] at he
      simp at he
      subst he
      rw [hle]
      exact o4
  · obtain ⟨c, hp, xs, es, hx, hs1, hle, hok⟩ := h
    exact hd H xs es c hp hx hs1 hle hok
theorem is_tupOf {K : PySem.W.Frag} {H : Hp} {l : Addr} {o : Obj} {xs : List V} {ds : List PyData} (h : Iss K H xs ds) (hl : H l = none) : Is K (upd H l (.frz o (.tup xs))) (.ref l) (.tuple ds) :=
  .tup (.inl (.inr ⟨o, upd_same⟩)) (h.on (Chg.new (l := []) hl))
end Sh
namespace Sh
open PySem
/-! ### the mathematics: bits, windows -/
def bitsL (n : Int) : Nat → List Nat
  | 0 => []
  | k + 1 => bitsL (n / 2) k ++ [48 + (n % 2).toNat]
def numL (l : List Nat) : Int := l.foldl (fun (a : Int) (c : Nat) => 2 * a + ((c : Int) - 48)) 0
theorem bitsL_length (n : Int) (k : Nat) : (bitsL n k).length = k := by
  induction k generalizing n with
  | zero => rfl
  | succ k ih => simp [bitsL, ih]
theorem numL_append (l : List Nat) (c : Nat) : numL (l ++ [c]) = 2 * numL l + ((c : Int) - 48) := by simp [numL]
theorem pow_succ2 (k : Nat) : (2 : Int) ^ (k + 1) = 2 * 2 ^ k := by rw [Int.pow_succ, Int.mul_comm]
theorem two_pow_pos (k : Nat) : (0 : Int) < 2 ^ k := Int.pow_pos (by decide)
theorem numL_bitsL (n : Int) (k : Nat) : numL (bitsL n k) = n % 2 ^ k := by
  induction k generalizing n with
  | zero => simp [bitsL, numL, Int.emod_one]
  | succ k ih =>
    rw [bitsL, numL_append, ih, pow_succ2]
    have h0 : 0 ≤ n % 2 := Int.emod_nonneg _ (by decide)
    have e1 : ((48 + (n % 2).toNat : Nat) : Int) - 48 = n % 2 := by omega
    rw [e1]
    have h1 := Int.emod_add_mul_ediv n 2
    have h2 := Int.emod_add_mul_ediv (n / 2) (2 ^ k)
    have p := two_pow_pos k
    have h3 : 0 ≤ (n / 2) % 2 ^ k := Int.emod_nonneg _ (by omega)
    have h4 : (n / 2) % 2 ^ k < 2 ^ k := Int.emod_lt_of_pos _ p
    have h5 : n % 2 < 2 := Int.emod_lt_of_pos _ (by decide)
    have e2 : n = (2 * ((n / 2) % 2 ^ k) + n % 2) + (2 * 2 ^ k) * (n / 2 / 2 ^ k) := by
      rw [Int.mul_assoc]
      omega
    have e3 : n % (2 * 2 ^ k) = (2 * ((n / 2) % 2 ^ k) + n % 2) % (2 * 2 ^ k) := by
      rw [← Int.add_mul_emod_self_left (2 * ((n / 2) % 2 ^ k) + n % 2) (2 * 2 ^ k) (n / 2 / 2 ^ k), ← e2]
    rw [e3]
    exact (Int.emod_eq_of_lt (by omega) (by omega)).symm
theorem bitsL_01 (n : Int) (k : Nat) : ∀ c ∈ bitsL n k, c = 48 ∨ c = 49 := by
  induction k generalizing n with
  | zero => intro c h; cases h
  | succ k ih =>
    intro c h
    rw [bitsL, List.mem_append] at h
    rcases h with h | h
    · exact ih _ c h
    · have h0 : 0 ≤ n % 2 := Int.emod_nonneg _ (by decide)
      have h5 : n % 2 < 2 := Int.emod_lt_of_pos _ (by decide)
      have : c = 48 + (n % 2).toNat := by simpa using h
      omega
theorem mod_lt2 (n : Int) (k : Nat) : 0 ≤ n % 2 ^ k ∧ n % 2 ^ k < 2 ^ k := by
  have p := two_pow_pos k
  exact ⟨Int.emod_nonneg _ (by omega), Int.emod_lt_of_pos _ p⟩
theorem numL_bits_of_lt {n : Int} {k : Nat} (h0 : 0 ≤ n) (h1 : n < 2 ^ k) : numL (bitsL n k) = n := by
  rw [numL_bitsL, Int.emod_eq_of_lt h0 h1]
/-- the bits of nought alone bear no one -/
theorem bitsL_zero (k : Nat) : bitsL 0 k = List.replicate k 48 := by
  induction k with
  | zero => rfl
  | succ k ih =>
    rw [bitsL]
    have : (0 : Int) / 2 = 0 := by decide
    rw [this, ih, List.replicate_succ']
    rfl
theorem numL_replicate (k : Nat) : numL (List.replicate k 48) = 0 := by
  rw [← bitsL_zero, numL_bitsL]
  simp
theorem one_in_bits {n : Int} {k : Nat} (h0 : 0 < n) (h1 : n < 2 ^ k) : 49 ∈ bitsL n k := by
  by_cases h : 49 ∈ bitsL n k
  · exact h
  · have e : bitsL n k = List.replicate k 48 := by
      rw [List.eq_replicate_iff]
      refine ⟨bitsL_length _ _, fun c hc => ?_⟩
      rcases bitsL_01 n k c hc with z | z
      · exact z
      · rw [z] at hc; exact absurd hc h
    have := numL_bits_of_lt (by omega) h1
    rw [e, numL_replicate] at this
    omega
/-! ### the least width -/
def wfor (many : Nat) : Nat := if many ≤ 1 then 0 else Nat.log2 (many - 1) + 1
theorem wfor_ge (many : Nat) : many ≤ 2 ^ wfor many := by
  unfold wfor
  split
  · simpa using by assumption
  · have : many - 1 < 2 ^ (Nat.log2 (many - 1) + 1) := Nat.lt_log2_self
    omega
theorem wfor_lt {many k : Nat} (h : k < wfor many) : 2 ^ k < many := by
  unfold wfor at h
  split at h
  · omega
  · have h1 : 2 ^ k ≤ 2 ^ Nat.log2 (many - 1) := Nat.pow_le_pow_right (by decide) (by omega)
    have h2 : 2 ^ Nat.log2 (many - 1) ≤ many - 1 := Nat.log2_self_le (by omega)
    omega
theorem wfor_le {many k : Nat} (h : many ≤ 2 ^ k) : wfor many ≤ k := by
  by_cases q : wfor many ≤ k
  · exact q
  · have := wfor_lt (many := many) (k := k) (by omega)
    omega
/-! ### windows -/
def winF (least rest : Int) (k : Nat) : Int := least + (rest - least) % 2 ^ k
theorem winF_of {least n : Int} {k : Nat} (h0 : least ≤ n) (h1 : n < least + 2 ^ k) : winF least (n % 2 ^ k) k = n := by
  unfold winF
  have e : (n % 2 ^ k - least) % 2 ^ k = (n - least) % 2 ^ k := by
    rw [Int.sub_emod, Int.emod_emod_of_dvd _ (Int.dvd_refl _), ← Int.sub_emod]
  rw [e, Int.emod_eq_of_lt (by omega) (by omega)]
  omega
def arndF (w : Nat) (base below rest : Int) (k : Nat) : Int := winF (base - below) rest k % 2 ^ w
end Sh
namespace Sh
open PySem
theorem bitsL_cons (n : Int) (k : Nat) : bitsL n (k + 1) = (48 + ((n / 2 ^ k) % 2).toNat) :: bitsL n k := by
  induction k generalizing n with
  | zero => simp [bitsL]
  | succ k ih =>
    rw [bitsL, ih (n / 2), List.cons_append]
    have e : n / 2 / 2 ^ k = n / 2 ^ (k + 1) := by
      rw [pow_succ2, Int.ediv_ediv_of_nonneg (by decide : (0:Int) ≤ 2)]
    rw [e]
    rfl
/-- the text of codes -/
def S (l : List Nat) : Str := ⟨l.toArray⟩
theorem S_len (l : List Nat) : (S l).length = l.length := by simp [S, Str.length]
theorem S_app (a b : List Nat) : S a ++ S b = S (a ++ b) := by
  have h : (S a ++ S b).cps = (S (a ++ b)).cps := by
    show (S a).cps ++ (S b).cps = _
    simp [S]
  cases hx : S a ++ S b
  rw [hx] at h
  simp only at h
  rw [h]
theorem S_list (l : List Nat) : (S l).cps.toList = l := by simp [S]
theorem S_inj {a b : List Nat} (h : S a = S b) : a = b := by
  have := congrArg (fun z => z.cps.toList) h
  simpa [S] using this
theorem S_of (z : Str) : z = S z.cps.toList := by cases z; simp [S]
theorem join_nil (l : List Nat) : Txt.join (S []) (l.map fun c => S [c]) = S l := by
  unfold Txt.join
  rw [PySem.StrLaws.glued_eq_join]
  induction l with
  | nil => rfl
  | cons c l ih =>
    cases l with
    | nil => rfl
    | cons d l =>
      show S [c] ++ S [] ++ Str.join (S []) ((d :: l).map fun c => S [c]) = _
      rw [ih, S_app, S_app]
      rfl
theorem join_parts (ls : List (List Nat)) : Txt.join (S []) (ls.map S) = S ls.flatten := by
  unfold Txt.join
  rw [PySem.StrLaws.glued_eq_join]
  induction ls with
  | nil => rfl
  | cons c l ih =>
    cases l with
    | nil => simp [Str.join]
    | cons d l =>
      show S c ++ S [] ++ Str.join (S []) ((d :: l).map S) = _
      rw [ih, S_app, S_app]
      simp
end Sh
namespace Sh
open PySem L2
theorem signs_at {x : Int} (h0 : 0 ≤ x) (h1 : x < 2) : atI ("01" : Str).cps.toList x = some (48 + x.toNat) := by
  have e : ("01" : Str).cps.toList = [48, 49] := by decide +kernel
  rw [e]
  have : x = 0 ∨ x = 1 := by omega
  rcases this with rfl | rfl <;> rfl
theorem signs_len : ("01" : Str).length ≤ sizeLine := by decide +kernel
theorem bits_rev (n : Int) (i : Nat) : (bitsL n (i + 1)).reverse = (bitsL n i).reverse ++ [48 + (n / 2 ^ i % 2).toNat] := by rw [bitsL_cons, List.reverse_cons]
theorem sum_single (l : List Nat) : ((l.map fun c => S [c]).map (fun z : Str => z.length)).sum = l.length := by
  induction l with
  | nil => rfl
  | cons c l ih =>
    simp only [List.map_cons, List.sum_cons, ih, List.length_cons]
    rw [S_len]
    simp
    omega
theorem sum_parts (ls : List (List Nat)) : ((ls.map S).map (fun z : Str => z.length)).sum = ls.flatten.length := by
  induction ls with
  | nil => rfl
  | cons c l ih =>
    simp only [List.map_cons, List.sum_cons, ih, List.flatten_cons, List.length_append]
    rw [S_len]
end Sh
namespace Sh
open PySem L2
/-! ### shapes, forms, pacts: data and their mathematics -/
inductive Kind where
  | still
  | step (s : Int)
  | turn (row : List Int)
  | wth (f : Nat) (s : Int)
  | drawn
structure Field where
  name : Str
  br : Nat
  kind : Kind
inductive Way where
  | keep
  | low (w : Nat) (b : Int)
  | whole
structure Form where
  reach : Nat
  count : Nat
  ways : List Way
structure Pact where
  fs : List Field
  m : Nat
  wide : Nat
  forms : List Form
  skips : Nat
  gap : Nat
  late : Nat
  anew : Nat
def kindD : Kind → PyData
  | .still => .tuple [.str "still"]
  | .step s => .tuple [.str "step", .int s]
  | .turn row => .tuple [.str "turn", .list (row.map PyData.int)]
  | .wth f s => .tuple [.str "with", .int f, .int s]
  | .drawn => .tuple [.str "drawn"]
def fieldD (f : Field) : PyData := .tuple [.str f.name, .int f.br, kindD f.kind]
def shapeD (fs : List Field) (m : Nat) : PyData := .tuple [.tuple (fs.map fieldD), .int m]
def wayD : Way → PyData
  | .keep => .tuple [.str "keep"]
  | .low w b => .tuple [.str "low", .int w, .int b]
  | .whole => .tuple [.str "whole"]
def formD (f : Form) : PyData := .tuple [.int f.reach, .int f.count, .tuple (f.ways.map wayD)]
def roadD (p : Pact) : PyData := .tuple [.int p.skips, .int p.gap, .int p.late, .int p.anew]
def pactD (p : Pact) : PyData := .tuple [shapeD p.fs p.m, .int p.wide, .tuple (p.forms.map formD), roadD p]
def headD (h : List Int) : PyData := .tuple (h.map PyData.int)
/-! what holds of the data -/
def KindOk (place : Nat) (br : Nat) : Kind → Prop
  | .still => True
  | .step s => 0 ≤ s ∧ s < 2 ^ br
  | .turn row => row ≠ [] ∧ row.length ≤ 12
  | .wth f s => f < place ∧ -99 ≤ s ∧ s ≤ 99
  | .drawn => True
def FieldOk (place : Nat) (f : Field) : Prop := 1 ≤ f.br ∧ f.br ≤ 40 ∧ KindOk place f.br f.kind
structure ShapeOk (fs : List Field) (m : Nat) : Prop where
  few : fs.length ≤ 12
  some_ : 1 ≤ fs.length
  ok : ∀ (i : Nat) (f : Field), fs[i]? = some f → FieldOk i f
  m1 : 1 ≤ m
  m2 : m ≤ 1000000
structure HeadOk (fs : List Field) (h : List Int) : Prop where
  len : h.length = fs.length
  ok : ∀ (i : Nat) (f : Field) (v : Int), fs[i]? = some f → h[i]? = some v → 0 ≤ v ∧ v < 2 ^ f.br
def WayOk (br : Nat) : Way → Prop
  | .keep => True
  | .low w b => 1 ≤ w ∧ w ≤ br ∧ 0 ≤ b ∧ b < 2 ^ w
  | .whole => True
structure FormOk (fs : List Field) (f : Form) : Prop where
  r1 : 1 ≤ f.reach
  r2 : f.reach ≤ 40
  c1 : 1 ≤ f.count
  c2 : f.count ≤ 40
  len : f.ways.length = fs.length
  ok : ∀ (i : Nat) (fd : Field) (w : Way), fs[i]? = some fd → f.ways[i]? = some w → WayOk fd.br w
structure PactOk (p : Pact) : Prop where
  shape : ShapeOk p.fs p.m
  w1 : 9 ≤ p.wide
  w2 : p.wide ≤ 40
  forms : ∀ (i : Nat) (f : Form), p.forms[i]? = some f → FormOk p.fs f
  few : p.forms.length ≤ 12
  skips : p.skips ≤ 1000
  gap : p.gap ≤ 1000
  late : p.late ≤ 1000
  anew : p.anew ≤ 1000
/-! what is looked for -/
def goneF (row : List Int) (v : Int) (more : Nat) : Int := if v ∈ row then row.getD (((row.idxOf v + more) % row.length)) 0 else v
def expV (k : Kind) (former ahead : List Int) (v : Int) (more : Nat) : Int :=
  match k with
  | .still => v
  | .step s => v + more * s
  | .turn row => goneF row v more
  | .wth f s => v + s * (ahead.getD f 0 - former.getD f 0)
  | .drawn => v
def expF (fd : Field) (former ahead : List Int) (v : Int) (more : Nat) : Int := expV fd.kind former ahead v more % 2 ^ fd.br
def checkA : Nat → List Int → Int → Int
  | _, [], a => a
  | i, v :: vs, a => checkA (i + 1) vs (a + (i + 2) * v)
def checkF (m : Nat) (n : Int) (h : List Int) : Int := checkA 0 h n % m
theorem checkA_append (v : Int) : ∀ (h : List Int) (i : Nat) (a : Int), checkA i (h ++ [v]) a = checkA i h a + ((i + h.length : Nat) + 2) * v
  | [], i, a => by simp [checkA]
  | x :: h, i, a => by
    rw [List.cons_append, checkA, checkA, checkA_append v h (i + 1)]
    have : i + 1 + h.length = i + (x :: h).length := by simp; omega
    rw [this]
/-! pieces, opened -/
def widF (fd : Field) : Way → Nat
  | .keep => 0
  | .low w _ => w
  | .whole => fd.br
theorem widF_le {fd : Field} {w : Way} {i : Nat} (h : FieldOk i fd) (hw : WayOk fd.br w) : widF fd w ≤ 40 := by
  cases w with
  | keep => exact Nat.zero_le _
  | low w b => exact Nat.le_trans hw.2.1 h.2.1
  | whole => exact h.2.1
def pcs : List Field → List Way → List Int → List Nat
  | fd :: fs, wy :: ws, v :: vs => bitsL (v % 2 ^ widF fd wy) (widF fd wy) ++ pcs fs ws vs
  | _, _, _ => []
def sizF : List Field → List Way → Nat
  | fd :: fs, wy :: ws => widF fd wy + sizF fs ws
  | _, _ => 0
theorem pcs_length : ∀ (fs : List Field) (ws : List Way) (vs : List Int), fs.length = ws.length → fs.length = vs.length → (pcs fs ws vs).length = sizF fs ws
  | [], [], [], _, _ => rfl
  | fd :: fs, wy :: ws, v :: vs, h1, h2 => by
    simp only [pcs, sizF, List.length_append, bitsL_length]
    rw [pcs_length fs ws vs (by simpa using h1) (by simpa using h2)]
  | [], _ :: _, _, h, _ => by simp at h
  | _ :: _, [], _, h, _ => by simp at h
  | [], [], _ :: _, _, h => by simp at h
  | _ :: _, _ :: _, [], _, h => by simp at h
theorem pcs_01 : ∀ (fs : List Field) (ws : List Way) (vs : List Int), ∀ c ∈ pcs fs ws vs, c = 48 ∨ c = 49
  | fd :: fs, wy :: ws, v :: vs, c, h => by
    rw [pcs, List.mem_append] at h
    rcases h with h | h
    · exact bitsL_01 _ _ c h
    · exact pcs_01 fs ws vs c h
  | [], _, _, c, h => by simp [pcs] at h
  | _ :: _, [], _, c, h => by simp [pcs] at h
  | _ :: _, _ :: _, [], c, h => by simp [pcs] at h
def valF (fd : Field) (wy : Way) (told : List Nat) (former ahead : List Int) (v : Int) (more : Nat) : Int :=
  match wy with
  | .whole => numL told
  | .keep => expF fd former ahead v more
  | .low w b => arndF fd.br (expF fd former ahead v more) b (numL told) w
/-- the head so far, then the rest -/
def opn (former : List Int) (more : Nat) : List Field → List Way → List Nat → List Int → List Int
  | fd :: fs, wy :: ws, bits, head => opn former more fs ws (bits.drop (widF fd wy)) (head ++ [valF fd wy (bits.take (widF fd wy)) former head (former.getD head.length 0) more])
  | _, _, _, head => head
def openF (fs : List Field) (ws : List Way) (bits : List Nat) (former : List Int) (more : Nat) : List Int := opn former more fs ws bits []
/-! whole heads -/
def wpcs : List Field → List Int → List Nat
  | fd :: fs, v :: vs => bitsL v fd.br ++ wpcs fs vs
  | _, _ => []
def wsiz : List Field → Nat
  | fd :: fs => fd.br + wsiz fs
  | [] => 0
theorem wpcs_length : ∀ (fs : List Field) (vs : List Int), fs.length = vs.length → (wpcs fs vs).length = wsiz fs
  | [], [], _ => rfl
  | fd :: fs, v :: vs, h => by
    simp only [wpcs, wsiz, List.length_append, bitsL_length]
    rw [wpcs_length fs vs (by simpa using h)]
  | [], _ :: _, h => by simp at h
  | _ :: _, [], h => by simp at h
theorem wpcs_01 : ∀ (fs : List Field) (vs : List Int), ∀ c ∈ wpcs fs vs, c = 48 ∨ c = 49
  | fd :: fs, v :: vs, c, h => by
    rw [wpcs, List.mem_append] at h
    rcases h with h | h
    · exact bitsL_01 _ _ c h
    · exact wpcs_01 fs vs c h
  | [], _, c, h => by simp [wpcs] at h
  | _ :: _, [], c, h => by simp [wpcs] at h
/-- what whole bits tell -/
def wopn : List Field → List Nat → List Int
  | fd :: fs, bits => numL (bits.take fd.br) :: wopn fs (bits.drop fd.br)
  | [], _ => []
theorem wopn_wpcs : ∀ (fs : List Field) (vs : List Int), HeadOk fs vs → wopn fs (wpcs fs vs) = vs
  | [], [], _ => rfl
  | fd :: fs, v :: vs, h => by
    have h0 := h.ok 0 fd v rfl rfl
    have h' : HeadOk fs vs := ⟨by simpa using h.len, fun i f u e1 e2 => h.ok (i + 1) f u (by simpa using e1) (by simpa using e2)⟩
    rw [wpcs, wopn]
    have e1 : (bitsL v fd.br ++ wpcs fs vs).take fd.br = bitsL v fd.br := by
      rw [List.take_append_of_le_length (by rw [bitsL_length]; exact Nat.le_refl _), List.take_of_length_le (by rw [bitsL_length]; exact Nat.le_refl _)]
    have e2 : (bitsL v fd.br ++ wpcs fs vs).drop fd.br = wpcs fs vs := by
      have := List.drop_left (l₁ := bitsL v fd.br) (l₂ := wpcs fs vs)
      rw [bitsL_length] at this
      exact this
    rw [e1, e2, numL_bits_of_lt h0.1 h0.2, wopn_wpcs fs vs h']
  | [], _ :: _, h => by have := h.len; simp at this
  | _ :: _, [], h => by have := h.len; simp at this
theorem pcs_snoc (fd : Field) (wy : Way) (v : Int) : ∀ (fs : List Field) (ws : List Way) (vs : List Int), fs.length = ws.length → fs.length = vs.length →
    pcs (fs ++ [fd]) (ws ++ [wy]) (vs ++ [v]) = pcs fs ws vs ++ bitsL (v % 2 ^ widF fd wy) (widF fd wy)
  | [], [], [], _, _ => by simp [pcs]
  | f :: fs, w :: ws, u :: vs, h1, h2 => by
    simp only [List.cons_append, pcs]
    rw [pcs_snoc fd wy v fs ws vs (by simpa using h1) (by simpa using h2), List.append_assoc]
  | [], _ :: _, _, h, _ => by simp at h
  | _ :: _, [], _, h, _ => by simp at h
  | [], [], _ :: _, _, h => by simp at h
  | _ :: _, _ :: _, [], _, h => by simp at h
theorem take_snoc {α : Type} {l : List α} {i : Nat} {a : α} (h : l[i]? = some a) : l.take (i + 1) = l.take i ++ [a] := by
  rw [List.take_succ, h]
  rfl
theorem drop_cons {α : Type} {l : List α} {i : Nat} {a : α} (h : l[i]? = some a) : l.drop i = a :: l.drop (i + 1) := by
  obtain ⟨h1, h2⟩ := List.getElem?_eq_some_iff.mp h
  rw [List.drop_eq_getElem_cons h1, h2]
theorem sizF_zip : ∀ (fs : List Field) (ws : List Way), (((List.zipWith widF fs ws).map fun (n : Nat) => (n : Int))).sum = sizF fs ws
  | [], _ => by simp [sizF]
  | _ :: _, [] => by simp [sizF]
  | fd :: fs, wy :: ws => by
    simp only [List.zipWith_cons_cons, List.map_cons, List.sum_cons, sizF]
    rw [sizF_zip fs ws]
    omega
theorem sizF_take {fd : Field} {wy : Way} {i : Nat} {fs : List Field} {ws : List Way} (h1 : fs[i]? = some fd) (h2 : ws[i]? = some wy) (hl : fs.length = ws.length) : sizF (fs.take (i + 1)) (ws.take (i + 1)) = sizF (fs.take i) (ws.take i) + widF fd wy := by
  rw [take_snoc h1, take_snoc h2]
  have : ∀ (a : List Field) (b : List Way), a.length = b.length → sizF (a ++ [fd]) (b ++ [wy]) = sizF a b + widF fd wy := by
    intro a
    induction a with
    | nil => intro b hb; cases b with
      | nil => simp [sizF]
      | cons _ _ => simp at hb
    | cons x a ih => intro b hb; cases b with
      | nil => simp at hb
      | cons y b =>
        simp only [List.cons_append, sizF]
        rw [ih b (by simpa using hb)]
        omega
  exact this _ _ (by simp; omega)
theorem sizF_le {fs : List Field} {m : Nat} {f : Form} (hs : ShapeOk fs m) (hf : FormOk fs f) : ∀ i, i ≤ fs.length → sizF (fs.take i) (f.ways.take i) ≤ 40 * i := by
  intro i
  induction i with
  | zero => intro _; simp [sizF]
  | succ i ih =>
    intro hi
    have h1 : fs[i]? = some fs[i] := List.getElem?_eq_getElem (by omega)
    have h2 : f.ways[i]? = some (f.ways[i]'(by have := hf.len; omega)) := List.getElem?_eq_getElem _
    rw [sizF_take h1 h2 hf.len.symm]
    have := widF_le (hs.ok i _ h1) (hf.ok i _ _ h1 h2)
    have := ih (by omega)
    omega
theorem pcs_len_le {fs : List Field} {m : Nat} {f : Form} {hd : List Int} (hs : ShapeOk fs m) (hf : FormOk fs f) (hh : hd.length = fs.length) : (pcs fs f.ways hd).length ≤ 480 := by
  rw [pcs_length _ _ _ hf.len.symm hh.symm]
  have := sizF_le hs hf fs.length (Nat.le_refl _)
  have e1 : fs.take fs.length = fs := List.take_length ..
  have e2 : f.ways.take fs.length = f.ways := by rw [← hf.len]; exact List.take_length ..
  rw [e1, e2] at this
  have := hs.few
  omega
theorem cut_mid (l : List Nat) (a w : Nat) : cutS (S l) (some (a : Int)) (some ((a : Int) + (w : Int))) = S ((l.drop a).take w) := by
  unfold cutS
  have e : (S l).length = l.length := S_len l
  rw [e, S_list]
  have e1 : HT.sIx l.length 0 (some (a : Int)) = min a l.length := HT.sIx_nat ..
  have e2 : HT.sIx l.length l.length (some ((a : Int) + (w : Int))) = min (a + w) l.length := by
    have : (a : Int) + (w : Int) = ((a + w : Nat) : Int) := by omega
    rw [this]
    exact HT.sIx_nat ..
  rw [e1, e2]
  show S _ = S _
  congr 1
  by_cases h : a ≤ l.length
  · rw [Nat.min_eq_left h]
    by_cases h2 : a + w ≤ l.length
    · rw [Nat.min_eq_left h2]
      congr 1
      omega
    · rw [Nat.min_eq_right (by omega), List.take_of_length_le (by simp), List.take_of_length_le (by simp; omega)]
  · rw [List.drop_of_length_le (show l.length ≤ min a l.length by omega), List.drop_of_length_le (show l.length ≤ a by omega)]
    simp
theorem cut_to (l : List Nat) (w : Nat) : cutS (S l) none (some (w : Int)) = S (l.take w) := by
  have h := cut_mid l 0 w
  have e : ((0 : Nat) : Int) + (w : Int) = (w : Int) := by omega
  rw [e] at h
  rw [← List.drop_zero (l := l)] at h
  simp only [List.drop_zero] at h
  rw [← h]
  rfl
theorem cut_from (l : List Nat) (a : Nat) : cutS (S l) (some (a : Int)) none = S (l.drop a) := by
  unfold cutS
  have e : (S l).length = l.length := S_len l
  rw [e, S_list]
  have e1 : HT.sIx l.length 0 (some (a : Int)) = min a l.length := HT.sIx_nat ..
  have e2 : HT.sIx l.length l.length none = l.length := rfl
  rw [e1, e2]
  show S _ = S _
  congr 1
  by_cases h : a ≤ l.length
  · rw [Nat.min_eq_left h, List.take_of_length_le (by simp)]
  · rw [List.drop_of_length_le (show l.length ≤ min a l.length by omega), List.drop_of_length_le (show l.length ≤ a by omega)]
    simp
theorem opn_nil (former : List Int) (more : Nat) (ws : List Way) (bits : List Nat) (head : List Int) : opn former more [] ws bits head = head := by cases ws <;> rfl
end Sh
namespace Sh
open PySem L2
/-! ### letters: the mathematics -/
theorem cutA {L A R : List Nat} {i : Int} (h : L = A ++ R) (hi : i = A.length) : cutS (S L) none (some i) = S A := by
  subst h hi
  rw [cut_to, List.take_left]
theorem cutM {L A B R : List Nat} {i j : Int} (h : L = A ++ (B ++ R)) (hi : i = A.length) (hj : j = i + B.length) : cutS (S L) (some i) (some j) = S B := by
  subst h hj hi
  rw [cut_mid, List.drop_left, List.take_left]
theorem cutE {L A R : List Nat} {i : Int} (h : L = A ++ R) (hi : i = A.length) : cutS (S L) (some i) none = S R := by
  subst h hi
  rw [cut_from, List.drop_left]
/-- the sort of a letter: whole, or pressed by a form at its place -/
abbrev At := Option (Nat × Form)
def AtOk (p : Pact) (at_ : At) : Prop := ∀ (i : Nat) (f : Form), at_ = some (i, f) → p.forms[i]? = some f
def atV : At → V
  | none => .non
  | some (i, _) => .int i
def atD : At → PyData
  | none => .none
  | some (i, _) => .int i
def sortN : At → Nat
  | none => 0
  | some (i, _) => 1 + i
def sortW (p : Pact) : Nat := wfor (1 + p.forms.length)
def checkW (p : Pact) : Nat := wfor p.m
def numW (p : Pact) : At → Nat
  | none => p.wide
  | some (_, f) => f.count
def pcsW (p : Pact) : At → Nat
  | none => wsiz p.fs
  | some (_, f) => sizF p.fs f.ways
def sizeL (p : Pact) (at_ : At) : Nat := sortW p + numW p at_ + pcsW p at_ + checkW p
def letterL (p : Pact) (at_ : At) (n : Int) (told : List Nat) (c : Int) : List Nat :=
  bitsL (sortN at_ : Nat) (sortW p) ++ (bitsL n (numW p at_) ++ (told ++ bitsL c (checkW p)))
theorem wsiz_le_of : ∀ fs : List Field, (∀ f ∈ fs, f.br ≤ 40) → wsiz fs ≤ 40 * fs.length
  | [], _ => by simp [wsiz]
  | f :: fs, h => by
    have h1 := h f (by simp)
    have h2 := wsiz_le_of fs fun g hg => h g (by simp [hg])
    simp only [wsiz, List.length_cons]
    omega
theorem ShapeOk.br {fs : List Field} {m : Nat} (h : ShapeOk fs m) : ∀ f ∈ fs, f.br ≤ 40 := fun f hf => by
  obtain ⟨i, hi⟩ := List.getElem?_of_mem hf
  exact (h.ok i f hi).2.1
theorem wsiz_le {fs : List Field} {m : Nat} (h : ShapeOk fs m) : wsiz fs ≤ 480 := by
  have := wsiz_le_of fs h.br
  have := h.few
  omega
theorem sortW_le {p : Pact} (h : PactOk p) : sortW p ≤ 4 := wfor_le (by have := h.few; omega)
theorem checkW_le {p : Pact} (h : PactOk p) : checkW p ≤ 20 := wfor_le (by have := h.shape.m2; omega)
theorem sort_lt {p : Pact} {at_ : At} (h : AtOk p at_) : ((sortN at_ : Nat) : Int) < 2 ^ sortW p := by
  have h1 : sortN at_ < 1 + p.forms.length := by
    match at_, h with
    | none, _ => show 0 < _; omega
    | some (i, f), h =>
      have := (List.getElem?_eq_some_iff.mp (h i f rfl)).1
      show 1 + i < _
      omega
  have h2 := wfor_ge (1 + p.forms.length)
  have e : ((2 : Int) ^ sortW p) = ((2 ^ wfor (1 + p.forms.length) : Nat) : Int) := by simp [sortW]
  rw [e]
  omega
theorem check_lt {p : Pact} {c : Int} (h : c < p.m) : c < 2 ^ checkW p := by
  have h2 := wfor_ge p.m
  have e : ((2 : Int) ^ checkW p) = ((2 ^ wfor p.m : Nat) : Int) := by simp [checkW]
  rw [e]
  omega
theorem numW_le {p : Pact} {at_ : At} (h : PactOk p) (ha : AtOk p at_) : numW p at_ ≤ 40 := by
  match at_, ha with
  | none, _ => exact h.w2
  | some (i, f), ha => exact (h.forms i f (ha i f rfl)).c2
theorem pcsW_le {p : Pact} {at_ : At} (h : PactOk p) (ha : AtOk p at_) : pcsW p at_ ≤ 480 := by
  match at_, ha with
  | none, _ => exact wsiz_le h.shape
  | some (i, f), ha =>
    have hf := h.forms i f (ha i f rfl)
    have := sizF_le h.shape hf p.fs.length (Nat.le_refl _)
    have e1 : p.fs.take p.fs.length = p.fs := List.take_length ..
    have e2 : f.ways.take p.fs.length = f.ways := by rw [← hf.len]; exact List.take_length ..
    rw [e1, e2] at this
    have := h.shape.few
    show sizF p.fs f.ways ≤ 480
    omega
theorem letterL_length {p : Pact} {at_ : At} {n c : Int} {told : List Nat} (h : told.length = pcsW p at_) : (letterL p at_ n told c).length = sizeL p at_ := by
  unfold letterL sizeL
  simp only [List.length_append, bitsL_length]
  omega
theorem sizeL_le {p : Pact} {at_ : At} (h : PactOk p) (ha : AtOk p at_) : sizeL p at_ ≤ 600 := by
  have := sortW_le h
  have := checkW_le h
  have := numW_le h ha
  have := pcsW_le h ha
  unfold sizeL
  omega
theorem atN_of_zero {at_ : At} (h : sortN at_ = 0) : at_ = none := by
  match at_, h with
  | none, _ => rfl
  | some (i, f), h => exact absurd h (by show 1 + i ≠ 0; omega)
theorem wpcs_snoc (fd : Field) (v : Int) : ∀ (fs : List Field) (vs : List Int), fs.length = vs.length → wpcs (fs ++ [fd]) (vs ++ [v]) = wpcs fs vs ++ bitsL v fd.br
  | [], [], _ => by simp [wpcs]
  | f :: fs, u :: vs, h => by
    simp only [List.cons_append, wpcs]
    rw [wpcs_snoc fd v fs vs (by simpa using h), List.append_assoc]
  | [], _ :: _, h => by simp at h
  | _ :: _, [], h => by simp at h
theorem wpcs_flat : ∀ (fs : List Field) (vs : List Int), wpcs fs vs = (List.zipWith (fun f v => bitsL v f.br) fs vs).flatten
  | [], _ => by simp [wpcs]
  | _ :: _, [] => by simp [wpcs]
  | f :: fs, v :: vs => by
    simp only [wpcs, List.zipWith_cons_cons, List.flatten_cons]
    rw [wpcs_flat fs vs]
theorem wsiz_sum : ∀ fs : List Field, (fs.map fun f => ((f.br : Nat) : Int)).sum = (wsiz fs : Nat)
  | [] => rfl
  | f :: fs => by
    simp only [List.map_cons, List.sum_cons, wsiz]
    rw [wsiz_sum fs]
    omega
/-- the head so far, then what is left to read -/
theorem wopn_length : ∀ (fs : List Field) (l : List Nat), (wopn fs l).length = fs.length
  | [], _ => rfl
  | _ :: fs, l => by simp [wopn, wopn_length fs]
def wdrop : List Field → List Nat → List Nat
  | fd :: fs, l => wdrop fs (l.drop fd.br)
  | [], l => l
theorem wdrop_snoc (fd : Field) : ∀ (fs : List Field) (l : List Nat), wdrop (fs ++ [fd]) l = (wdrop fs l).drop fd.br
  | [], l => rfl
  | f :: fs, l => by
    simp only [List.cons_append, wdrop]
    exact wdrop_snoc fd fs _
theorem wopn_snoc (fd : Field) : ∀ (fs : List Field) (l : List Nat), wopn (fs ++ [fd]) l = wopn fs l ++ [numL ((wdrop fs l).take fd.br)]
  | [], l => rfl
  | f :: fs, l => by
    simp only [List.cons_append, wopn, wdrop]
    rw [wopn_snoc fd fs]
theorem wdrop_len : ∀ (fs : List Field) (l : List Nat), (wdrop fs l).length ≤ l.length
  | [], l => Nat.le_refl _
  | f :: fs, l => Nat.le_trans (wdrop_len fs _) (by simp)
theorem wdrop_mem {c : Nat} : ∀ (fs : List Field) (l : List Nat), c ∈ wdrop fs l → c ∈ l
  | [], _, h => h
  | f :: fs, l, h => List.mem_of_mem_drop (wdrop_mem fs _ h)
end Sh
namespace Sh
open PySem L2
/-! ### the presser: the mathematics -/
structure Pre where
  past : List (List Int)
  had : Option Nat
  base : Option Nat
  fresh : Nat
def greaterF : Option Nat → Option Nat → Option Nat
  | none, b => b
  | some a, none => some a
  | some a, some b => if a < b then some b else some a
def sharedF (p : Pact) (s : Pre) : Option Nat := greaterF s.base (if (s.past.length : Int) - 1 - p.skips < s.fresh then none else some (s.past.length - 1 - p.skips))
def isSharedF (p : Pact) (s : Pre) (f : Form) : Bool := match sharedF p s with
  | none => false
  | some l => decide ((s.past.length : Int) - f.reach ≤ l)
def mx (i j : Int) : Int := if j > i then j else i
def leastTop (p : Pact) (s : Pre) : Int := match s.had with
  | none => mx 0 ((s.past.length : Int) - 1 - p.gap)
  | some h => mx (mx 0 ((s.past.length : Int) - 1 - p.gap)) ((h : Int) - p.late)
def countsF (p : Pact) (s : Pre) (f : Form) : Bool := decide ((s.past.length : Int) + p.late - leastTop p s < 2 ^ f.count)
def frm (past : List (List Int)) (reach : Nat) : List (Nat × List Int) := (List.range (min reach past.length)).map fun i => (i + 1, past.getD (past.length - 1 - i) [])
def turnF (p : Pact) (s : Pre) : Bool := decide (0 < p.anew) && decide (s.past.length % p.anew = 0)
/-- a form that the presser may take -/
structure Takes (p : Pact) (s : Pre) (hd : List Int) (f : Form) : Prop where
  counts : countsF p s f = true
  opens : ∀ r ∈ frm s.past f.reach, openF p.fs f.ways (pcs p.fs f.ways hd) r.2 r.1 = hd
def TakesAt (p : Pact) (s : Pre) (hd : List Int) (a : At) : Prop := ∀ i f, a = some (i, f) → Takes p s hd f
def pcsOf (p : Pact) (hd : List Int) : At → List Nat
  | none => wpcs p.fs hd
  | some (_, f) => pcs p.fs f.ways hd
def letterOf (p : Pact) (a : At) (n : Nat) (hd : List Int) : List Nat := letterL p a ((n : Int) % 2 ^ numW p a) (pcsOf p hd a) (checkF p.m n hd)
def wordD : Option Nat → PyData
  | none => .tuple [.str "anew"]
  | some n => .tuple [.str "have", .int n]
def hearF (s : Pre) : Option Nat → Pre
  | none => { s with base := none, fresh := s.past.length }
  | some n => { s with had := greaterF s.had (some n), base := if (n : Int) ≥ s.fresh then greaterF s.base (some n) else s.base }
def PastOk (p : Pact) (s : Pre) : Prop := ∀ h ∈ s.past, HeadOk p.fs h
end Sh
namespace Sh
open PySem L2
/-! ### the reader: the mathematics -/
structure Rdr where
  top : Option Nat
  keys : List Nat
def belowF (keys : List Nat) (i : Int) : Option Nat := (keys.filter fun (n : Nat) => decide ((n : Int) < i)).max?
def topF (r : Rdr) (n : Nat) : Nat := match r.top with
  | none => n
  | some t => if t < n then n else t
def isLateF (p : Pact) (r : Rdr) (n : Int) : Bool := if n < 0 then true else match r.top with
  | none => false
  | some t => decide (n < (t : Int) - p.late)
theorem foldl_max_cast : ∀ (ns : List Nat) (a : Nat), (ns.map fun (n : Nat) => (n : Int)).foldl max (a : Int) = ((ns.foldl max a : Nat) : Int)
  | [], _ => rfl
  | n :: ns, a => by
    simp only [List.map_cons, List.foldl_cons]
    have : max (a : Int) (n : Int) = ((max a n : Nat) : Int) := by omega
    rw [this]
    exact foldl_max_cast ns _
theorem belowF_lt {keys : List Nat} {i : Int} {l : Nat} (h : belowF keys i = some l) : l ∈ keys ∧ (l : Int) < i := by
  have h1 := List.max?_mem h
  have h2 := List.mem_filter.mp h1
  exact ⟨h2.1, by simpa using h2.2⟩
/-- held heads, by their numbers -/
def heldK (keys : List Nat) (vf : Nat → V) : List (Key × V) := keys.map fun (n : Nat) => ((.inl (n : Int) : Key), vf n)
theorem heldK_val (vf : Nat → V) (m : Nat) : ∀ keys : List Nat, valV (heldK keys vf) (.inl (m : Int)) = if m ∈ keys then some (vf m) else none
  | [] => rfl
  | n :: keys => by
    show valV (((.inl (n : Int) : Key), vf n) :: heldK keys vf) (.inl (m : Int)) = _
    by_cases e : n = m
    · subst e
      rw [valV_pos rfl]
      simp
    · rw [valV_neg (by show ¬ ((.inl (n : Int) : Key) = .inl (m : Int)); intro h; injection h with h; omega), heldK_val vf m keys]
      by_cases h : m ∈ keys
      · simp [h]
      · have : ¬ m = n := fun z => e z.symm
        simp [h, this]
theorem heldK_any (vf : Nat → V) (m : Nat) (keys : List Nat) : ((heldK keys vf).any fun kv => decide (kv.1 = (.inl (m : Int) : Key))) = decide (m ∈ keys) := by
  rw [valV_any, heldK_val]
  by_cases h : m ∈ keys <;> simp [h]
theorem heldK_put {vf : Nat → V} {m : Nat} {keys : List Nat} {v : V} (h : m ∉ keys) : putK (heldK keys vf) (.inl (m : Int)) v = heldK (keys ++ [m]) (fun n => if n = m then v else vf n) := by
  unfold putK
  rw [heldK_any, decide_eq_false h, if_neg (by decide)]
  unfold heldK
  rw [List.map_append]
  congr 1
  · apply List.map_congr_left
    intro n hn
    have : n ≠ m := fun z => h (z ▸ hn)
    simp [this]
  · simp
theorem merge_held (vf : Nat → V) : ∀ (keys acc : List Nat), (acc ++ keys).Nodup → mergeK (heldK acc vf) (heldK keys vf) = heldK (acc ++ keys) vf
  | [], acc, _ => by simp [mergeK, heldK]
  | n :: keys, acc, h => by
    have h1 : n ∉ acc := by
      intro z
      have := (List.nodup_append.mp h).2.2 n z n (by simp)
      exact this rfl
    have e : putK (heldK acc vf) (.inl (n : Int)) (vf n) = heldK (acc ++ [n]) vf := by
      rw [heldK_put h1]
      unfold heldK
      apply List.map_congr_left
      intro k _
      by_cases z : k = n
      · subst z; simp
      · simp [z]
    show mergeK (putK (heldK acc vf) (.inl (n : Int)) (vf n)) (heldK keys vf) = _
    rw [e, merge_held vf keys (acc ++ [n]) (by simpa using h)]
    simp
theorem merge_held0 (vf : Nat → V) {keys : List Nat} (h : keys.Nodup) : mergeK [] (heldK keys vf) = heldK keys vf := merge_held vf keys [] (by simpa using h)
/-- what reading a letter tells, and what is held then -/
inductive ReadR (a : At) (n : Nat) (hd : List Int) (r : Rdr) : PyData → Rdr → Prop
  | blank : a ≠ none → r.top = none → ReadR a n hd r (.tuple [.str "not", .str "blank"]) r
  | twice : n ∈ r.keys → ReadR a n hd r (.tuple [.str "twice", .int n]) r
  | far (keys : List Nat) : a ≠ none → r.top ≠ none → keys.Nodup → (∀ k ∈ keys, k ∈ r.keys) → ReadR a n hd r (.tuple [.str "not", .str "far"]) ⟨some (topF r n), keys⟩
  | read (keys : List Nat) : keys.Nodup → (∀ k ∈ keys, k ∈ n :: r.keys) → ReadR a n hd r (.tuple [.str "read", .int n, headD hd]) ⟨some (topF r n), keys⟩
/-- what a told word is to the presser -/
def ToldWord (e : PyData) (wd : Option Nat) : Prop := (∃ z, e = .tuple [.str "not", .str z] ∧ wd = none) ∨ ∃ (z : Str) (n : Nat) (l : List PyData), e = .tuple (.str z :: .int n :: l) ∧ z ≠ "not" ∧ wd = some n
end Sh
namespace Sh
open PySem L2 PySem.Spec PyProof.Rows
local macro_rules | `(tactic| walk_at "s1") => `(tactic| first
  | with_reducible refine w_seq ?_
  | with_reducible refine w_asg ?_
  | with_reducible refine w_name ?_
  | with_reducible refine w_ret ?_
  | with_reducible refine w_retN ?_
  | with_reducible refine w_drop ?_
  | with_reducible refine w_next ?_
  | with_reducible refine w_ifS ?_
  | ((with_reducible refine' w_var ?h ?_); (case h => rfl))
  | with_reducible refine w_c ?_
  | with_reducible refine w_op ?_
  | with_reducible refine w_un ?_
  | with_reducible refine w_sl ?_
  | with_reducible refine w_nopart ?_
  | with_reducible refine w_part ?_
  | with_reducible refine w_exint ?_
  | with_reducible refine w_exbl ?_
  | with_reducible refine w_exbl' ?_
  | with_reducible refine w_exint' ?_
  | with_reducible refine w_nn ?_
  | with_reducible refine w_test ?_
  | with_reducible refine w_B ?_
  | with_reducible refine w_and ?_
  | with_reducible refine w_or ?_
  | with_reducible refine w_not ?_
  | with_reducible refine w_andV ?_
  | with_reducible refine w_orV ?_
  | with_reducible refine w_notV ?_
  | with_reducible refine w_ifE ?_
  | with_reducible refine w_nil ?_
  | with_reducible refine w_cons ?_
  | with_reducible refine w_tup ?_
  | with_reducible refine w_lst ?_
  | with_reducible refine w_CB ?_
  | with_reducible refine w_fn ?_
  | with_reducible refine w_T ?_
  | with_reducible refine w_F ?_
  | with_reducible refine w_I0 ?_
  | with_reducible refine w_U ?_
  | with_reducible refine w_addI ?_
  | with_reducible refine w_eqI ?_
  | with_reducible refine w_neI ?_
  | with_reducible refine w_eqS ?_
  | with_reducible refine w_neS ?_
  | with_reducible refine w_for ?_
  | with_reducible refine w_rng1 ?_
  | with_reducible refine w_rng2 ?_
  | with_reducible refine w_iStr ?_
  | with_reducible refine w_iTup ?_
  | with_reducible refine w_iList ?_
  | with_reducible refine w_iEnumT ?_
  | with_reducible refine w_iZip3 ?_
  | with_reducible refine w_iZipA ?_
  | with_reducible refine w_BM ?_
  | with_reducible refine w_gCons ?_
  | with_reducible refine w_gNil ?_
  | ((with_reducible refine' w_gTup ?h ?e ?_); (case h => exact SqT.of upd_same); (case e => rfl))
  | ((with_reducible refine' w_aug ?h ?_); (case h => rfl))
  | with_reducible refine w_ip ?_
  | with_reducible refine w_lc ?_
  | with_reducible refine w_fld ?_
  | with_reducible refine w_chain ?_
  | with_reducible refine w_mt ?_
  | with_reducible refine w_fset ?_
  | with_reducible refine w_dget ?_
  | with_reducible refine w_din ?_
  | with_reducible refine w_dput ?_
  | with_reducible refine w_dnew ?_
  | with_reducible refine w_keys ?_
  | with_reducible refine w_nT ?_
  | with_reducible refine w_nF ?_
  | with_reducible refine w_rowIndex ?_)
local macro_rules | `(tactic| walk_at "s") => `(tactic| repeat (walk_at "s1"))
section
variable {P : Program} {w : World} {K : PySem.W.Frag} {mg : Str → Option Value} {base : Heap}
/-! ### bits -/
theorem scbits_of : FnScope ["number", "width", "signs", "place", "last"] ["number", "width"] (defScope sbits_of) := ⟨rfl, rfl, rfl, by decide +kernel, rfl, by decide +kernel, by decide +kernel⟩
def sp_bits_of (_ : PySem.W.Frag) : Sp := fun vs H Q _ => ∃ (n : Int) (k : Nat), vs = [.int n, .int k] ∧ k ≤ 1000 ∧ ∀ H', Chg [] H H' → Q (.str (S (bitsL n k))) H'
theorem ok_bits_of (T : Txt K mg) (F : Top K mg "bits_of" sbits_of)  : Fk P w K mg base CX0 1 "bits_of" ["number", "width"] (sp_bits_of K) := by
  refine F.fk (fun _ _ _ _ _ _ us hl => match us, hl with | [_, _], _ => rfl) fun f fd F => F.ok scbits_of (fun vs H Q E h => ?_) (fun cdv A outer s H vs Q E hr h => ?_)
  · obtain ⟨n, k, rfl, _⟩ := h
    rfl
  · obtain ⟨n, k, rfl, hk, q⟩ := h
    obtain ⟨tS, gS⟩ := T.g_SIGNS
    refine ⟨_, (pss_cons (ps_set (i := 2) scbits_of.nd rfl (Or.inl rfl) (pe_lst pa_nil)) (pss_cons (ps_for PassesOwn.never rfl (pi_range1 (by rfl) T.b_range (pa_cons (pv 1) pa_nil)) (pg_name (i := 3) scbits_of.nd rfl (Or.inl rfl)) (pss_cons (ps_asg (pe_callB call_divmod (by rfl) T.b_divmod (by decide +kernel) (pa_cons (pv 0) (pa_cons pe_int pa_nil))) (pg_tupK (K := K) (n := 2) rfl (pgs_cons (pg_name (i := 0) scbits_of.nd rfl (Or.inl rfl)) (pgs_cons (pg_name (i := 4) scbits_of.nd rfl (Or.inl rfl)) pgs_nil)))) (pss_one (ps_expr (pe_bmK (K := K) PySem.F.plainAttrs_list PySem.F.slot_list_append PySem.F.type_list_append mt_append (pv 2) (pa_cons (pe_ixK (K := K) (pe_glob (v := .str "01") (by rfl) gS ⟨_, rfl⟩) (pv 4) (fun _ _ => rfl)) pa_nil)))))) (pss_one (ps_ret (pe_joinRev rfl (by rfl) T.b_reversed pe_str (pv 2)))))), ?_⟩
    walk_at "s"
    refine ⟨Nat.zero_le _, fun l hl => ?_⟩
    walk_at "s"
    refine ⟨_, rfl, by omega, by omega, for_range (n := k) (fun i σ H' => ∃ a b, σ = [some (.int (n / 2 ^ i)), some (.int k), some (.ref l), a, b] ∧ H' l = some (.lst ((bitsL n i).reverse.map fun c => V.str (S [c]))) ∧ Chg [] H H') ⟨none, none, by simp; rfl, by rw [upd_same]; rfl, Chg.new hl⟩ ?_ ?_⟩
    · rintro i σ H1 hi ⟨a, b, rfl, hL, c⟩
      walk_at "s"
      refine ⟨_, _, rfl, ⟨by decide, by decide⟩, fun p hp => ?_⟩
      have hlp : l ≠ p := ne_of_none hL hp
      have h0 : 0 ≤ n / 2 ^ i % 2 := Int.emod_nonneg _ (by decide)
      have h2 : n / 2 ^ i % 2 < 2 := Int.emod_lt_of_pos _ (by decide)
      have hL2 : upd H1 p (HO.tup [V.int (n / 2 ^ i / 2), V.int (n / 2 ^ i % 2)]) l = some (.lst ((bitsL n i).reverse.map fun c => V.str (S [c]))) := by rw [upd_ne hlp]; exact hL
      walk_at "s"
      refine ⟨.inl ⟨rfl, _, SqL.of hL2⟩, ?_⟩
      walk_at "s"
      refine w_ixS signs_len (signs_at h0 h2) ?_
      walk_at "s"
      refine ⟨l, _, _, rfl, rfl, hL2, sl1000 (by simp [bitsL_length]; omega), ?_⟩
      walk_at "s"
      refine ⟨some (.int (0 + (i : Int))), some (.int (n / 2 ^ i % 2)), ?_, ?_, (c.trans (Chg.new hp)).mut hl⟩
      · show [_, _, _, _, _] = _
        rw [pow_succ2, Int.mul_comm, Int.ediv_ediv_of_nonneg (Int.le_of_lt (two_pow_pos i))]
      · rw [upd_same, bits_rev, List.map_append]
        rfl
    · rintro σ H1 ⟨a, b, rfl, hL, c⟩
      walk_at "s"
      refine ⟨⟨_, rfl⟩, _, rfl, ?_⟩
      refine ⟨_, l, (bitsL n k).reverse.map fun c => S [c], rfl, rfl, ?_, ?_, ?_⟩
      · rw [List.map_map]; exact SqL.of hL
      · have e0 : ("" : Str).length = 0 := by decide +kernel
        rw [sum_single, e0]
        simp [bitsL_length]
        omega
      · rw [← List.map_reverse, List.reverse_reverse]
        show Q (.str (Txt.join (S []) _)) H1
        rw [join_nil]
        exact q H1 c
/-- codes of bits -/
def B01 (l : List Nat) : Prop := ∀ c ∈ l, c = 48 ∨ c = 49
theorem scare_bits : FnScope ["thing", "sign"] ["thing"] (defScope sare_bits) := ⟨rfl, rfl, rfl, by decide +kernel, rfl, by decide +kernel, by decide +kernel⟩
def sp_are_bits (_ : PySem.W.Frag) : Sp := fun vs H Q _ => ∃ l : List Nat, vs = [.str (S l)] ∧ B01 l ∧ l.length ≤ 10000 ∧ ∀ H', Chg [] H H' → Q (.bl true) H'
theorem ok_are_bits (T : Txt K mg) (F : Top K mg "are_bits" sare_bits)  : Fk P w K mg base CX0 1 "are_bits" ["thing"] (sp_are_bits K) := by
  refine F.fk (fun _ _ _ _ _ _ us hl => match us, hl with | [_], _ => rfl) fun f fd F => F.ok scare_bits (fun vs H Q E h => ?_) (fun cdv A outer s H vs Q E hr h => ?_)
  · obtain ⟨l, rfl, _⟩ := h
    rfl
  · obtain ⟨l, rfl, hl, hz, q⟩ := h
    obtain ⟨tS, gS⟩ := T.g_SIGNS
    refine ⟨_, (pss_one (ps_ret (pe_and (pe_callB (call_isiK' (K := K)) (by rfl) T.b_isinstance (by decide +kernel) (pa_cons (pv 0) (pa_cons (pe_bltn (v := .ty "str") (by rfl) T.b_str (by decide +kernel) rfl) pa_nil))) (pe_one (pe_callB (cr_allK (K := K) rfl) (by rfl) T.b_all (by decide +kernel) (pa_cons (pe_lc (own := [("sign", 1)]) rfl scare_bits.nd (pi_str (pv 0)) (blkOk_by (own := [("sign", 1)]) (N := ["thing", "sign"]) (sc := defScope sare_bits) (by decide +kernel)) (fun _ _ _ _ _ => (pg_name (i := 1) scare_bits.nd rfl (Or.inl rfl))) (fun _ _ _ _ _ => pts_nil) (fun _ _ _ _ _ => (pe_cmpR (op_inK (K := K) (hu65 hr)) (pv 1) (pe_glob (v := .str "01") (by rfl) gS ⟨_, rfl⟩) (by rfl)))) pa_nil)))))), ?_⟩
    walk_at "s"
    refine w_isiB (r := true) (.base (.str _)) (by decide +kernel) ?_
    walk_at "s"
    refine ⟨_, rfl, fun D hD => ?_⟩
    refine lc_map walk_str hD (fun _ => .bl true) (by simp [S]; omega) (fun _ _ => trivial) (fun i x H1 H2 Q' hi c1 hY hQ => ?_) fun H1 c1 hL => ?_
    · obtain ⟨rfl, c, hc, rfl⟩ := hY
      walk_at "s"
      refine ⟨rfl, ?_⟩
      walk_at "s"
      have hm : c ∈ l := by
        have : (S l).cps[i]? = some c := hc
        exact List.mem_of_getElem? (by simpa [S] using this)
      refine .inr (.inl ⟨c, _, rfl, rfl, ?_⟩)
      have e : decide (c ∈ ("01" : Str).cps.toList) = true := by
        have e : ("01" : Str).cps.toList = [48, 49] := by decide +kernel
        rw [e]
        rcases hl c hm with z | z <;> rw [z] <;> decide
      rw [e]
      exact hQ _ Chg.refl
    · walk_at "s"
      have e : (List.range (S l).cps.size).map (fun _ => V.bl true) = (List.replicate (S l).cps.size true).map V.bl := by simp [List.map_const']
      rw [e] at hL
      refine ⟨D, _, rfl, SqL.of hL, ?_⟩
      rw [show (List.replicate (S l).cps.size true).all id = true by simp]
      exact q H1 c1
theorem scnumber_of : FnScope ["bits", "number", "sign"] ["bits"] (defScope snumber_of) := ⟨rfl, rfl, rfl, by decide +kernel, rfl, by decide +kernel, by decide +kernel⟩
def sp_number_of (_ : PySem.W.Frag) : Sp := fun vs H Q _ => ∃ l : List Nat, vs = [.str (S l)] ∧ B01 l ∧ l.length ≤ 10000 ∧ Q (.int (numL l)) H
theorem ok_number_of (T : Txt K mg) (F : Top K mg "number_of" snumber_of)  : Fk P w K mg base CX0 1 "number_of" ["bits"] (sp_number_of K) := by
  refine F.fk (fun _ _ _ _ _ _ us hl => match us, hl with | [_], _ => rfl) fun f fd F => F.ok scnumber_of (fun vs H Q E h => ?_) (fun cdv A outer s H vs Q E hr h => ?_)
  · obtain ⟨l, rfl, _⟩ := h
    rfl
  · obtain ⟨l, rfl, hl, hz, q⟩ := h
    obtain ⟨tS, gS⟩ := T.g_SIGNS
    refine ⟨_, (pss_cons (ps_set (i := 1) scnumber_of.nd rfl (Or.inl rfl) pe_int) (pss_cons (ps_for PassesOwn.never rfl (pi_str (pv 0)) (pg_name (i := 2) scnumber_of.nd rfl (Or.inl rfl)) (pss_one (ps_set (i := 1) scnumber_of.nd rfl (Or.inl rfl) (pe_op (op_addK (K := K)) (pe_op op_mulA pe_int (pv 1)) (pe_bmK (K := K) PySem.F.plainAttrs_str PySem.F.slot_str_index PySem.F.type_str_index mt_sindex (pe_glob (v := .str "01") (by rfl) gS ⟨_, rfl⟩) (pa_cons (pv 2) pa_nil)))))) (pss_one (ps_ret (pv 1))))), ?_⟩
    walk_at "s"
    refine ⟨_, rfl, for_it walk_str (fun i σ H' => ∃ a, σ = [some (.str (S l)), some (.int (numL (l.take i))), a] ∧ H' = H) ⟨none, rfl, rfl⟩ (fun _ _ _ _ _ => trivial) ?_ ?_⟩
    · rintro i x σ H1 H2 hi ⟨a, rfl, rfl⟩ ⟨rfl, c, hc, rfl⟩
      have hc' : l[i]? = some c := by
        have : (S l).cps[i]? = some c := hc
        simpa [S] using this
      walk_at "s"
      refine w_mulL (by decide) ?_
      walk_at "s"
      refine ⟨rfl, ?_⟩
      walk_at "s"
      have h01 := hl c (List.mem_of_getElem? hc')
      refine ⟨_, _, (c - 48), [], rfl, rfl, ?_, ?_⟩
      · rcases h01 with z | z <;> rw [z] <;> decide +kernel
      · walk_at "s"
        refine ⟨some (.str ⟨#[c]⟩), ?_, rfl⟩
        have e : numL (l.take (i + 1)) = 2 * numL (l.take i) + ((c - 48 : Nat) : Int) := by
          have hi' := (List.getElem?_eq_some_iff.mp hc')
          obtain ⟨h1, h2⟩ := hi'
          rw [List.take_succ, hc']
          show numL (l.take i ++ [c]) = _
          rw [numL_append]
          omega
        rw [e]
        rfl
    · rintro σ H1 ⟨a, rfl, rfl⟩
      walk_at "s"
      have e : l.take (S l).cps.size = l := by simp [S]
      rw [e]
      exact q
theorem scwidth_for : FnScope ["many", "width"] ["many"] (defScope swidth_for) := ⟨rfl, rfl, rfl, by decide +kernel, rfl, by decide +kernel, by decide +kernel⟩
def sp_width_for (_ : PySem.W.Frag) : Sp := fun vs H Q _ => ∃ m : Nat, vs = [.int m] ∧ m ≤ 2 ^ 1000 ∧ Q (.int (wfor m)) H
theorem ok_width_for (T : Txt K mg) (F : Top K mg "width_for" swidth_for)  : Fk P w K mg base CX0 1 "width_for" ["many"] (sp_width_for K) := by
  refine F.fk (fun _ _ _ _ _ _ us hl => match us, hl with | [_], _ => rfl) fun f fd F => F.ok scwidth_for (fun vs H Q E h => ?_) (fun cdv A outer s H vs Q E hr h => ?_)
  · obtain ⟨m, rfl, _⟩ := h
    rfl
  · obtain ⟨m, rfl, hm, q⟩ := h
    refine ⟨_, (pss_cons (ps_set (i := 1) scwidth_for.nd rfl (Or.inl rfl) pe_int) (pss_cons (ps_while PassesOwn.never (pt_cmpR op_lt (pe_op op_shl pe_int (pv 1)) (pv 0) (nomark _)) (pss_one (ps_aug (i := 1) scwidth_for.nd rfl (Or.inl rfl) pe_int ip_add))) (pss_one (ps_ret (pv 1))))), ?_⟩
    walk_at "s"
    refine ⟨fun n σ H' => ∃ j : Nat, σ = [some (.int m), some (.int j)] ∧ j + n = wfor m ∧ H' = H, ⟨wfor m, 0, rfl, by omega, rfl⟩, ?_⟩
    rintro n σ H1 ⟨j, rfl, hj, rfl⟩
    have hw : wfor m ≤ 1000 := wfor_le hm
    walk_at "s"
    refine w_shl1 (by omega) ?_
    walk_at "s"
    have h2 : ((2 : Int) ^ j) = ((2 ^ j : Nat) : Int) := by simp
    refine w_if (fun h => ?_) (fun h => ?_)
    · have hlt : 0 < n := by
        by_cases q : 0 < n
        · exact q
        · have e : j = wfor m := by omega
          have := wfor_ge m
          rw [← e] at this
          rw [h2] at h
          omega
      refine ⟨fun σ H' => σ = [some (.int m), some (.int ((j + 1 : Nat) : Int))] ∧ H' = H1, ?_, ?_⟩
      · rintro σ H' ⟨rfl, rfl⟩
        exact ⟨n - 1, by omega, j + 1, rfl, by omega, rfl⟩
      · walk_at "s"
        exact ⟨rfl, rfl⟩
    · have e : j = wfor m := by
        rw [h2] at h
        have h3 : m ≤ 2 ^ j := by omega
        have := wfor_le h3
        omega
      walk_at "s"
      rw [e]
      exact q
end
end Sh
namespace Sh
open PySem L2 PySem.Spec PyProof.Rows
local macro_rules | `(tactic| walk_at "s1") => `(tactic| first
  | with_reducible refine w_seq ?_
  | with_reducible refine w_asg ?_
  | with_reducible refine w_name ?_
  | with_reducible refine w_ret ?_
  | with_reducible refine w_retN ?_
  | with_reducible refine w_drop ?_
  | with_reducible refine w_next ?_
  | with_reducible refine w_ifS ?_
  | ((with_reducible refine' w_var ?h ?_); (case h => rfl))
  | with_reducible refine w_c ?_
  | with_reducible refine w_op ?_
  | with_reducible refine w_un ?_
  | with_reducible refine w_sl ?_
  | with_reducible refine w_nopart ?_
  | with_reducible refine w_part ?_
  | with_reducible refine w_exint ?_
  | with_reducible refine w_exbl ?_
  | with_reducible refine w_exbl' ?_
  | with_reducible refine w_exint' ?_
  | with_reducible refine w_nn ?_
  | with_reducible refine w_test ?_
  | with_reducible refine w_B ?_
  | with_reducible refine w_and ?_
  | with_reducible refine w_or ?_
  | with_reducible refine w_not ?_
  | with_reducible refine w_andV ?_
  | with_reducible refine w_orV ?_
  | with_reducible refine w_notV ?_
  | with_reducible refine w_ifE ?_
  | with_reducible refine w_nil ?_
  | with_reducible refine w_cons ?_
  | with_reducible refine w_tup ?_
  | with_reducible refine w_lst ?_
  | with_reducible refine w_CB ?_
  | with_reducible refine w_fn ?_
  | with_reducible refine w_T ?_
  | with_reducible refine w_F ?_
  | with_reducible refine w_I0 ?_
  | with_reducible refine w_U ?_
  | with_reducible refine w_addI ?_
  | with_reducible refine w_eqI ?_
  | with_reducible refine w_neI ?_
  | with_reducible refine w_eqS ?_
  | with_reducible refine w_neS ?_
  | with_reducible refine w_for ?_
  | with_reducible refine w_rng1 ?_
  | with_reducible refine w_rng2 ?_
  | with_reducible refine w_iStr ?_
  | with_reducible refine w_iTup ?_
  | with_reducible refine w_iList ?_
  | with_reducible refine w_iEnumT ?_
  | with_reducible refine w_iZip3 ?_
  | with_reducible refine w_iZipA ?_
  | with_reducible refine w_BM ?_
  | with_reducible refine w_gCons ?_
  | with_reducible refine w_gNil ?_
  | ((with_reducible refine' w_gTup ?h ?e ?_); (case h => exact SqT.of upd_same); (case e => rfl))
  | ((with_reducible refine' w_aug ?h ?_); (case h => rfl))
  | with_reducible refine w_ip ?_
  | with_reducible refine w_lc ?_
  | with_reducible refine w_fld ?_
  | with_reducible refine w_chain ?_
  | with_reducible refine w_mt ?_
  | with_reducible refine w_fset ?_
  | with_reducible refine w_dget ?_
  | with_reducible refine w_din ?_
  | with_reducible refine w_dput ?_
  | with_reducible refine w_dnew ?_
  | with_reducible refine w_keys ?_
  | with_reducible refine w_nT ?_
  | with_reducible refine w_nF ?_
  | with_reducible refine w_rowIndex ?_)
local macro_rules | `(tactic| walk_at "s") => `(tactic| repeat (walk_at "s1"))
section
variable {P : Program} {w : World} {K : PySem.W.Frag} {mg : Str → Option Value} {base : Heap}
/-! ### windows -/
theorem screst_of : FnScope ["number", "width"] ["number", "width"] (defScope srest_of) := ⟨rfl, rfl, rfl, by decide +kernel, rfl, by decide +kernel, by decide +kernel⟩
def sp_rest_of (_ : PySem.W.Frag) : Sp := fun vs H Q _ => ∃ (n : Int) (k : Nat), vs = [.int n, .int k] ∧ k ≤ 1000 ∧ Q (.int (n % 2 ^ k)) H
theorem ok_rest_of (T : Txt K mg) (F : Top K mg "rest_of" srest_of)  : Fk P w K mg base CX0 1 "rest_of" ["number", "width"] (sp_rest_of K) := by
  refine F.fk (fun _ _ _ _ _ _ us hl => match us, hl with | [_, _], _ => rfl) fun f fd F => F.ok screst_of (fun vs H Q E h => ?_) (fun cdv A outer s H vs Q E hr h => ?_)
  · obtain ⟨n, k, rfl, _⟩ := h
    rfl
  · obtain ⟨n, k, rfl, hk, q⟩ := h
    refine ⟨_, (pss_one (ps_ret (pe_op op_mod (pv 0) (pe_op op_shl pe_int (pv 1))))), ?_⟩
    walk_at "s"
    refine w_shl1 (by omega) ?_
    refine w_mod (two_pow_pos k) ?_
    exact q
theorem scwindowed : FnScope ["least", "rest", "width"] ["least", "rest", "width"] (defScope swindowed) := ⟨rfl, rfl, rfl, by decide +kernel, rfl, by decide +kernel, by decide +kernel⟩
def sp_windowed (_ : PySem.W.Frag) : Sp := fun vs H Q _ => ∃ (a b : Int) (k : Nat), vs = [.int a, .int b, .int k] ∧ k ≤ 1000 ∧ Q (.int (winF a b k)) H
theorem ok_windowed (T : Txt K mg) (F : Top K mg "windowed" swindowed) (F_rest_of : Fk P w K mg base CX0 1 "rest_of" ["number", "width"] (sp_rest_of K)) : Fk P w K mg base CX0 2 "windowed" ["least", "rest", "width"] (sp_windowed K) := by
  refine F.fk (fun _ _ _ _ _ _ us hl => match us, hl with | [_, _, _], _ => rfl) fun f fd F => F.ok scwindowed (fun vs H Q E h => ?_) (fun cdv A outer s H vs Q E hr h => ?_)
  · obtain ⟨a, b, k, rfl, _⟩ := h
    rfl
  · obtain ⟨a, b, k, rfl, hk, q⟩ := h
    refine ⟨_, (pss_one (ps_ret (pe_op (op_addK (K := K)) (pv 0) (pe_fn F_rest_of hr rfl (pa_cons (pe_op op_sub (pv 1) (pv 0)) (pa_cons (pv 2) pa_nil)))))), ?_⟩
    walk_at "s"
    refine ⟨_, k, rfl, hk, ?_⟩
    walk_at "s"
    exact q
theorem scaround : FnScope ["w", "base", "below", "rest", "width"] ["w", "base", "below", "rest", "width"] (defScope saround) := ⟨rfl, rfl, rfl, by decide +kernel, rfl, by decide +kernel, by decide +kernel⟩
def sp_around (_ : PySem.W.Frag) : Sp := fun vs H Q _ => ∃ (wd k : Nat) (a b r : Int), vs = [.int wd, .int a, .int b, .int r, .int k] ∧ k ≤ 1000 ∧ wd ≤ 1000 ∧ Q (.int (arndF wd a b r k)) H
theorem ok_around (T : Txt K mg) (F : Top K mg "around" saround) (F_rest_of : Fk P w K mg base CX0 1 "rest_of" ["number", "width"] (sp_rest_of K)) (F_windowed : Fk P w K mg base CX0 2 "windowed" ["least", "rest", "width"] (sp_windowed K)) : Fk P w K mg base CX0 3 "around" ["w", "base", "below", "rest", "width"] (sp_around K) := by
  refine F.fk (fun _ _ _ _ _ _ us hl => match us, hl with | [_, _, _, _, _], _ => rfl) fun f fd F => F.ok scaround (fun vs H Q E h => ?_) (fun cdv A outer s H vs Q E hr h => ?_)
  · obtain ⟨wd, k, a, b, r, rfl, _⟩ := h
    rfl
  · obtain ⟨wd, k, a, b, r, rfl, hk, hw, q⟩ := h
    refine ⟨_, (pss_one (ps_ret (pe_fn F_rest_of hr rfl (pa_cons (pe_fn F_windowed hr rfl (pa_cons (pe_op op_sub (pv 1) (pv 2)) (pa_cons (pv 3) (pa_cons (pv 4) pa_nil)))) (pa_cons (pv 0) pa_nil))))), ?_⟩
    walk_at "s"
    refine ⟨_, _, k, rfl, hk, ?_⟩
    walk_at "s"
    exact ⟨_, wd, rfl, hw, q⟩
/-! ### shapes -/
theorem scis_whole : FnScope ["thing"] ["thing"] (defScope sis_whole) := ⟨rfl, rfl, rfl, by decide +kernel, rfl, by decide +kernel, by decide +kernel⟩
def sp_is_whole (_ : PySem.W.Frag) : Sp := fun vs H Q _ => ∃ (a : Int), vs = [.int a] ∧ Q (.bl true) H
theorem ok_is_whole (T : Txt K mg) (F : Top K mg "is_whole" sis_whole)  : Fk P w K mg base CX0 1 "is_whole" ["thing"] (sp_is_whole K) := by
  refine F.fk (fun _ _ _ _ _ _ us hl => match us, hl with | [_], _ => rfl) fun f fd F => F.ok scis_whole (fun vs H Q E h => ?_) (fun cdv A outer s H vs Q E hr h => ?_)
  · obtain ⟨a, rfl, _⟩ := h
    rfl
  · obtain ⟨a, rfl, q⟩ := h
    refine ⟨_, (pss_one (ps_ret (pe_and (pe_callB (call_isiK' (K := K)) (by rfl) T.b_isinstance (by decide +kernel) (pa_cons (pv 0) (pa_cons (pe_bltn (v := .ty "int") (by rfl) T.b_int (by decide +kernel) rfl) pa_nil))) (pe_one (pe_not (pe_callB (call_isiK' (K := K)) (by rfl) T.b_isinstance (by decide +kernel) (pa_cons (pv 0) (pa_cons (pe_bltn (v := .ty "bool") (by rfl) T.b_bool (by decide +kernel) rfl) pa_nil)))))))), ?_⟩
    walk_at "s"
    refine w_isiB (r := true) (.base (.int _)) (by decide +kernel) ?_
    walk_at "s"
    refine w_isiB (r := false) (.base (.int _)) (by decide +kernel) ?_
    walk_at "s"
    exact q
theorem scis_between : FnScope ["thing", "least", "most"] ["thing", "least", "most"] (defScope sis_between) := ⟨rfl, rfl, rfl, by decide +kernel, rfl, by decide +kernel, by decide +kernel⟩
def sp_is_between (_ : PySem.W.Frag) : Sp := fun vs H Q _ => ∃ (a b c : Int), vs = [.int a, .int b, .int c] ∧ Q (.bl (decide (b ≤ a ∧ a ≤ c))) H
theorem ok_is_between (T : Txt K mg) (F : Top K mg "is_between" sis_between) (F_is_whole : Fk P w K mg base CX0 1 "is_whole" ["thing"] (sp_is_whole K)) : Fk P w K mg base CX0 2 "is_between" ["thing", "least", "most"] (sp_is_between K) := by
  refine F.fk (fun _ _ _ _ _ _ us hl => match us, hl with | [_, _, _], _ => rfl) fun f fd F => F.ok scis_between (fun vs H Q E h => ?_) (fun cdv A outer s H vs Q E hr h => ?_)
  · obtain ⟨a, b, c, rfl, _⟩ := h
    rfl
  · obtain ⟨a, b, c, rfl, q⟩ := h
    refine ⟨_, (pss_one (ps_ret (pe_and (pe_fn F_is_whole hr rfl (pa_cons (pv 0) pa_nil)) (pe_one (pe_chain op_le op_le (pv 1) (pv 0) (pv 2)))))), ?_⟩
    walk_at "s"
    refine ⟨_, rfl, ?_⟩
    walk_at "s"
    refine w_if (fun h1 => ?_) (fun h1 => ?_)
    · walk_at "s"
      rw [show decide (a ≤ c) = decide (b ≤ a ∧ a ≤ c) from decide_eq_decide.mpr ⟨fun h => ⟨h1, h⟩, fun h => h.2⟩]
      exact q
    · rw [show decide (b ≤ a ∧ a ≤ c) = false from decide_eq_false fun h => h1 h.1] at q
      exact q
theorem scis_value : FnScope ["thing", "breadth"] ["thing", "breadth"] (defScope sis_value) := ⟨rfl, rfl, rfl, by decide +kernel, rfl, by decide +kernel, by decide +kernel⟩
def sp_is_value (_ : PySem.W.Frag) : Sp := fun vs H Q _ => ∃ (a : Int) (k : Nat), vs = [.int a, .int k] ∧ k ≤ 1000 ∧ Q (.bl (decide (0 ≤ a ∧ a < 2 ^ k))) H
theorem ok_is_value (T : Txt K mg) (F : Top K mg "is_value" sis_value) (F_is_between : Fk P w K mg base CX0 2 "is_between" ["thing", "least", "most"] (sp_is_between K)) : Fk P w K mg base CX0 3 "is_value" ["thing", "breadth"] (sp_is_value K) := by
  refine F.fk (fun _ _ _ _ _ _ us hl => match us, hl with | [_, _], _ => rfl) fun f fd F => F.ok scis_value (fun vs H Q E h => ?_) (fun cdv A outer s H vs Q E hr h => ?_)
  · obtain ⟨a, k, rfl, _⟩ := h
    rfl
  · obtain ⟨a, k, rfl, hk, q⟩ := h
    refine ⟨_, (pss_one (ps_ret (pe_fn F_is_between hr rfl (pa_cons (pv 0) (pa_cons pe_int (pa_cons (pe_op op_sub (pe_op op_shl pe_int (pv 1)) pe_int) pa_nil)))))), ?_⟩
    walk_at "s"
    refine w_shl1 (by omega) ?_
    walk_at "s"
    refine ⟨_, _, _, rfl, ?_⟩
    have e : decide (0 ≤ a ∧ a < 2 ^ k) = decide (0 ≤ a ∧ a ≤ 2 ^ k - 1) := by
      apply decide_eq_decide.mpr
      omega
    rw [← e]
    exact q
theorem scis_head : FnScope ["shape", "thing", "field", "value"] ["shape", "thing"] (defScope sis_head) := ⟨rfl, rfl, rfl, by decide +kernel, rfl, by decide +kernel, by decide +kernel⟩
def sp_is_head (K : PySem.W.Frag) : Sp := fun vs H Q _ => ∃ (x y : V) (fs : List Field) (m : Nat) (hd : List Int), vs = [x, y] ∧ ShapeOk fs m ∧ HeadOk fs hd ∧ Is K H x (shapeD fs m) ∧ Is K H y (headD hd) ∧ ∀ H', Chg [] H H' → Q (.bl true) H'
theorem ok_is_head (T : Txt K mg) (F : Top K mg "is_head" sis_head) (F_is_value : Fk P w K mg base CX0 3 "is_value" ["thing", "breadth"] (sp_is_value K)) : Fk P w K mg base CX0 4 "is_head" ["shape", "thing"] (sp_is_head K) := by
  refine F.fk (fun _ _ _ _ _ _ us hl => match us, hl with | [_, _], _ => rfl) fun f fd F => F.ok scis_head (fun vs H Q E h => ?_) (fun cdv A outer s H vs Q E hr h => ?_)
  · obtain ⟨x, y, fs, m, hd, rfl, _⟩ := h
    rfl
  · obtain ⟨x, y, fs, m, hd, rfl, hs, hh, ix, iy, q⟩ := h
    obtain ⟨ay, ys, rfl, ty, sy⟩ := iy.tup_eq
    refine ⟨_, (pss_cons (ps_if (PW.pt (pw_or (pt_not (pt_val (pe_callB (call_isiK' (K := K)) (by rfl) T.b_isinstance (by decide +kernel) (pa_cons (pv 1) (pa_cons (pe_bltn (v := .ty "tuple") (by rfl) T.b_tuple (by decide +kernel) rfl) pa_nil))))) (pw_or1 (pt_cmpR (op_neK (K := K) hr.units) (pe_callB (call_lenK (K := K)) (by rfl) T.b_len PySem.boot_len (pa_cons (pv 1) pa_nil)) (pe_callB (call_lenK (K := K)) (by rfl) T.b_len PySem.boot_len (pa_cons (pe_ixK (K := K) (pv 0) pe_int (fun _ _ => rfl)) pa_nil)) (nomark _))))) (pss_one (ps_ret pe_bl)) pss_nil) (pss_one (ps_ret (pe_callB (cr_allK (K := K) rfl) (by rfl) T.b_all (by decide +kernel) (pa_cons (pe_lc (own := [("field", 2), ("value", 3)]) rfl scis_head.nd (pi_zipK (K := K) (by rfl) T.b_zip (pa_cons (pe_ixK (K := K) (pv 0) pe_int (fun _ _ => rfl)) (pa_cons (pv 1) pa_nil))) (blkOk_by (own := [("field", 2), ("value", 3)]) (N := ["shape", "thing", "field", "value"]) (sc := defScope sis_head) (by decide +kernel)) (fun _ _ _ _ _ => (pg_tupK (K := K) (n := 2) rfl (pgs_cons (pg_name (i := 2) scis_head.nd rfl (Or.inl rfl)) (pgs_cons (pg_name (i := 3) scis_head.nd rfl (Or.inl rfl)) pgs_nil)))) (fun _ _ _ _ _ => pts_nil) (fun _ _ _ _ _ => (pe_fn F_is_value hr rfl (pa_cons (pv 3) (pa_cons (pe_ixK (K := K) (pv 2) pe_int (fun _ _ => rfl)) pa_nil))))) pa_nil))))), ?_⟩
    walk_at "s"
    refine w_isiB (r := true) iy.tyX (by decide +kernel) ?_
    walk_at "s"
    refine w_lenD iy ?_
    walk_at "s"
    refine w_ixD ix rfl fun v0 i0 => ?_
    walk_at "s"
    refine w_lenD i0 ?_
    walk_at "s"
    have hl : hd.length = fs.length := hh.len
    refine w_ifn (fun _ => ?_) (fun h => absurd (by simp [hl]) h)
    walk_at "s"
    refine w_ixD ix rfl fun v0 i0 => ?_
    obtain ⟨a0, xs, rfl, t0, s0⟩ := i0.tup_eq
    have hxs : xs.length = fs.length := by rw [s0.length, List.length_map]
    have hys : ys.length = fs.length := by rw [sy.length, List.length_map, hl]
    walk_at "s"
    refine ⟨_, _, _, _, rfl, .inr ⟨t0, ty, fun D hD => ?_⟩⟩
    refine lc_map (walk_zipT (by omega)) hD (fun _ => .bl true) (by have := hs.few; omega) (fun H1 c1 => ⟨(t0.mono c1).sq, (ty.mono c1).sq⟩) (fun i x H1 H2 Q' hi c1 hY hQ => ?_) fun H1 c1 hL => ?_
    · obtain ⟨T', x1, x2, rfl, hT, rfl, e1, e2⟩ := hY
      obtain ⟨fd, ef, i1⟩ := getMap s0 e1
      obtain ⟨v, ev, i2⟩ := getMap sy e2
      have c2 : Chg [] H (upd H1 T' (.tup [x1, x2])) := c1.trans (Chg.new hT)
      obtain rfl := i2.int_eq
      have hv := hh.ok i fd v ef ev
      have hf := hs.ok i fd ef
      walk_at "s"
      refine ⟨rfl, ?_⟩
      walk_at "s"
      refine w_ixD (i1.on c2) rfl fun v' iv => ?_
      obtain rfl := iv.int_eq
      walk_at "s"
      refine ⟨v, fd.br, rfl, by have := hf.2.1; omega, ?_⟩
      rw [decide_eq_true hv]
      exact hQ _ (Chg.new hT)
    · walk_at "s"
      have e : (List.range xs.length).map (fun _ => V.bl true) = (List.replicate xs.length true).map V.bl := by simp [List.map_const']
      rw [e] at hL
      refine ⟨D, _, rfl, SqL.of hL, ?_⟩
      rw [show (List.replicate xs.length true).all id = true by simp]
      exact q H1 c1
theorem scgone_round : FnScope ["row", "value", "more"] ["row", "value", "more"] (defScope sgone_round) := ⟨rfl, rfl, rfl, by decide +kernel, rfl, by decide +kernel, by decide +kernel⟩
def sp_gone_round (K : PySem.W.Frag) : Sp := fun vs H Q _ => ∃ (x : V) (row : List Int) (v : Int) (more : Nat), vs = [x, .int v, .int more] ∧ Is K H x (.list (row.map PyData.int)) ∧ row ≠ [] ∧ row.length ≤ 12 ∧ Q (.int (goneF row v more)) H
theorem ok_gone_round (T : Txt K mg) (F : Top K mg "gone_round" sgone_round)  : Fk P w K mg base CX0 1 "gone_round" ["row", "value", "more"] (sp_gone_round K) := by
  refine F.fk (fun _ _ _ _ _ _ us hl => match us, hl with | [_, _, _], _ => rfl) fun f fd F => F.ok scgone_round (fun vs H Q E h => ?_) (fun cdv A outer s H vs Q E hr h => ?_)
  · obtain ⟨x, row, v, more, rfl, _⟩ := h
    rfl
  · obtain ⟨x, row, v, more, rfl, ix, hne, hz, q⟩ := h
    obtain ⟨a0, rfl, r0⟩ := ix.row_eq
    have t0 : Tp K H a0 (row.map V.int) := r0.tp
    have hpos : 0 < row.length := List.length_pos_iff.mpr hne
    unfold goneF at q
    refine ⟨_, (pss_cons (ps_if (pt_cmpR (op_ninK (K := K)) (pv 1) (pv 0) (by rfl)) (pss_one (ps_ret (pv 1))) pss_nil) (pss_one (ps_ret (pe_ixK (K := K) (pv 0) (pe_op op_mod (pe_op (op_addK (K := K)) (pe_rowIndex (pv 0) (pv 1)) (pv 2)) (pe_callB (call_lenK (K := K)) (by rfl) T.b_len PySem.boot_len (pa_cons (pv 0) pa_nil))) (fun _ _ => rfl))))), ?_⟩
    walk_at "s"
    refine w_ninI t0 ?_
    walk_at "s"
    refine w_ifn (fun hv => ?_) (fun hv => ?_)
    · rw [if_pos hv] at q
      walk_at "s"
      refine ⟨a0, row, rfl, r0, ?_⟩
      walk_at "s"
      refine ⟨r0, hv, ?_⟩
      walk_at "s"
      refine w_lenT t0 ?_
      refine w_mod (by simpa using hpos) ?_
      have e : ((row.idxOf v : Nat) : Int) + (more : Int) = ((row.idxOf v + more : Nat) : Int) := by omega
      have e2 : ((row.idxOf v + more : Nat) : Int) % (((row.map V.int).length : Nat) : Int) = (((row.idxOf v + more) % row.length : Nat) : Int) := by
        rw [List.length_map]
        omega
      rw [e, e2]
      have hlt : (row.idxOf v + more) % row.length < row.length := Nat.mod_lt _ hpos
      refine w_ixT t0 (v := .int (row.getD ((row.idxOf v + more) % row.length) 0)) (atI_nat ?_) q
      rw [List.getElem?_map, List.getD_eq_getElem?_getD, List.getElem?_eq_getElem hlt]
      rfl
    · rw [if_neg hv] at q
      walk_at "s"
      exact q
theorem scexpected : FnScope ["shape", "place", "former", "ahead", "more", "name", "breadth", "kind", "value"] ["shape", "place", "former", "ahead", "more"] (defScope sexpected) := ⟨rfl, rfl, rfl, by decide +kernel, rfl, by decide +kernel, by decide +kernel⟩
def sp_expected (K : PySem.W.Frag) : Sp := fun vs H Q _ => ∃ (x y z : V) (fs : List Field) (m p : Nat) (fd : Field) (former ahead : List Int) (v : Int) (more : Nat), vs = [x, .int p, y, z, .int more] ∧ Is K H x (shapeD fs m) ∧ Is K H y (headD former) ∧ Is K H z (headD ahead) ∧
  fs[p]? = some fd ∧ FieldOk p fd ∧ former[p]? = some v ∧ p ≤ ahead.length ∧ more ≤ 1000 ∧ Q (.int (expF fd former ahead v more)) H
theorem ok_expected (T : Txt K mg) (F : Top K mg "expected" sexpected) (F_rest_of : Fk P w K mg base CX0 1 "rest_of" ["number", "width"] (sp_rest_of K)) (F_gone_round : Fk P w K mg base CX0 1 "gone_round" ["row", "value", "more"] (sp_gone_round K)) : Fk P w K mg base CX0 2 "expected" ["shape", "place", "former", "ahead", "more"] (sp_expected K) := by
  refine F.fk (fun _ _ _ _ _ _ us hl => match us, hl with | [_, _, _, _, _], _ => rfl) fun f fd F => F.ok scexpected (fun vs H Q E h => ?_) (fun cdv A outer s H vs Q E hr h => ?_)
  · obtain ⟨x, y, z, fs, m, p, fd, former, ahead, v, more, rfl, _⟩ := h
    rfl
  · obtain ⟨x, y, z, fs, m, p, fd, former, ahead, v, more, rfl, ix, iy, iz, ef, hf, ev, ha, hm, q⟩ := h
    refine ⟨_, (pss_cons (ps_asg (pe_ixK (K := K) (pe_ixK (K := K) (pv 0) pe_int (fun _ _ => rfl)) (pv 1) (fun _ _ => rfl)) (pg_tupK (K := K) (n := 3) rfl (pgs_cons (pg_name (i := 5) scexpected.nd rfl (Or.inl rfl)) (pgs_cons (pg_name (i := 6) scexpected.nd rfl (Or.inl rfl)) (pgs_cons (pg_name (i := 7) scexpected.nd rfl (Or.inl rfl)) pgs_nil))))) (pss_cons (ps_set (i := 8) scexpected.nd rfl (Or.inl rfl) (pe_ixK (K := K) (pv 2) (pv 1) (fun _ _ => rfl))) (pss_cons (ps_if (pt_cmpR (op_eqK (K := K) hr.units) (pe_ixK (K := K) (pv 7) pe_int (fun _ _ => rfl)) pe_str (nomark _)) (pss_one (ps_aug (i := 8) scexpected.nd rfl (Or.inl rfl) (pe_op op_mulA (pv 4) (pe_ixK (K := K) (pv 7) pe_int (fun _ _ => rfl))) ip_add)) (pss_one (ps_if (pt_cmpR (op_eqK (K := K) hr.units) (pe_ixK (K := K) (pv 7) pe_int (fun _ _ => rfl)) pe_str (nomark _)) (pss_one (ps_set (i := 8) scexpected.nd rfl (Or.inl rfl) (pe_fn F_gone_round hr rfl (pa_cons (pe_ixK (K := K) (pv 7) pe_int (fun _ _ => rfl)) (pa_cons (pv 8) (pa_cons (pv 4) pa_nil)))))) (pss_one (ps_if (pt_cmpR (op_eqK (K := K) hr.units) (pe_ixK (K := K) (pv 7) pe_int (fun _ _ => rfl)) pe_str (nomark _)) (pss_one (ps_aug (i := 8) scexpected.nd rfl (Or.inl rfl) (pe_op op_mulA (pe_ixK (K := K) (pv 7) pe_int (fun _ _ => rfl)) (pe_op op_sub (pe_ixK (K := K) (pv 3) (pe_ixK (K := K) (pv 7) pe_int (fun _ _ => rfl)) (fun _ _ => rfl)) (pe_ixK (K := K) (pv 2) (pe_ixK (K := K) (pv 7) pe_int (fun _ _ => rfl)) (fun _ _ => rfl)))) ip_add)) pss_nil))))) (pss_one (ps_ret (pe_fn F_rest_of hr rfl (pa_cons (pv 8) (pa_cons (pv 6) pa_nil)))))))), ?_⟩
    walk_at "s"
    refine w_ixD ix rfl fun v0 i0 => ?_
    walk_at "s"
    refine w_ixM i0 ef fun v1 i1 => ?_
    obtain ⟨a1, xs1, rfl, t1, s1⟩ := i1.tup_eq
    obtain ⟨n1, b1, k1, rfl⟩ : ∃ a b c, xs1 = [a, b, c] := by
      cases s1 with | cons _ s1 => cases s1 with | cons _ s1 => cases s1 with | cons _ s1 => cases s1; exact ⟨_, _, _, rfl⟩
    cases s1 with | cons j1 s1 => cases s1 with | cons j2 s1 => cases s1 with | cons j3 s1 =>
    obtain rfl := j2.int_eq
    refine w_gTup t1 rfl ?_
    walk_at "s"
    refine w_ixM iy ev fun v2 i2 => ?_
    obtain rfl := i2.int_eq
    walk_at "s"
    obtain ⟨nm, br, kd⟩ := fd
    have hk : KindOk p br kd := hf.2.2
    have hb : br ≤ 40 := hf.2.1
    cases kd with
    | still =>
      refine w_ixD j3 rfl fun v3 i3 => ?_
      obtain rfl := i3.str_eq
      walk_at "s"
      refine w_ifF (by decide +kernel) ?_
      walk_at "s"
      refine w_ixD j3 rfl fun v3 i3 => ?_
      obtain rfl := i3.str_eq
      walk_at "s"
      refine w_ifF (by decide +kernel) ?_
      walk_at "s"
      refine w_ixD j3 rfl fun v3 i3 => ?_
      obtain rfl := i3.str_eq
      walk_at "s"
      refine w_ifF (by decide +kernel) ?_
      walk_at "s"
      exact ⟨_, br, rfl, by omega, q⟩
    | step st =>
      refine w_ixD j3 rfl fun v3 i3 => ?_
      obtain rfl := i3.str_eq
      walk_at "s"
      refine w_ifT (by decide +kernel) ?_
      walk_at "s"
      refine w_ixD j3 rfl fun v3 i3 => ?_
      obtain rfl := i3.int_eq
      refine w_mulL (by omega) ?_
      walk_at "s"
      exact ⟨_, br, rfl, by omega, q⟩
    | turn row =>
      refine w_ixD j3 rfl fun v3 i3 => ?_
      obtain rfl := i3.str_eq
      walk_at "s"
      refine w_ifF (by decide +kernel) ?_
      walk_at "s"
      refine w_ixD j3 rfl fun v3 i3 => ?_
      obtain rfl := i3.str_eq
      walk_at "s"
      refine w_ifT (by decide +kernel) ?_
      walk_at "s"
      refine w_ixD j3 rfl fun v3 i3 => ?_
      walk_at "s"
      refine ⟨_, row, _, more, rfl, i3, hk.1, hk.2, ?_⟩
      walk_at "s"
      exact ⟨_, br, rfl, by omega, q⟩
    | wth g st =>
      have hg : g < p := hk.1
      have hp : p < former.length := (List.getElem?_eq_some_iff.mp ev).1
      refine w_ixD j3 rfl fun v3 i3 => ?_
      obtain rfl := i3.str_eq
      walk_at "s"
      refine w_ifF (by decide +kernel) ?_
      walk_at "s"
      refine w_ixD j3 rfl fun v3 i3 => ?_
      obtain rfl := i3.str_eq
      walk_at "s"
      refine w_ifF (by decide +kernel) ?_
      walk_at "s"
      refine w_ixD j3 rfl fun v3 i3 => ?_
      obtain rfl := i3.str_eq
      walk_at "s"
      refine w_ifT (by decide +kernel) ?_
      walk_at "s"
      refine w_ixD j3 rfl fun v3 i3 => ?_
      obtain rfl := i3.int_eq
      walk_at "s"
      refine w_ixD j3 rfl fun v3 i3 => ?_
      obtain rfl := i3.int_eq
      refine w_ixM iz (List.getElem?_eq_getElem (show g < ahead.length by omega)) fun v4 i4 => ?_
      obtain rfl := i4.int_eq
      walk_at "s"
      refine w_ixD j3 rfl fun v3 i3 => ?_
      obtain rfl := i3.int_eq
      refine w_ixM iy (List.getElem?_eq_getElem (show g < former.length by omega)) fun v5 i5 => ?_
      obtain rfl := i5.int_eq
      walk_at "s"
      refine w_mulL (by have := hk.2; omega) ?_
      walk_at "s"
      refine ⟨_, br, rfl, by omega, ?_⟩
      have e1 : ahead.getD g 0 = ahead[g]'(by omega) := by rw [List.getD_eq_getElem?_getD, List.getElem?_eq_getElem (by omega)]; rfl
      have e2 : former.getD g 0 = former[g]'(by omega) := by rw [List.getD_eq_getElem?_getD, List.getElem?_eq_getElem (by omega)]; rfl
      unfold expF expV at q
      simp only [e1, e2] at q
      exact q
    | drawn =>
      refine w_ixD j3 rfl fun v3 i3 => ?_
      obtain rfl := i3.str_eq
      walk_at "s"
      refine w_ifF (by decide +kernel) ?_
      walk_at "s"
      refine w_ixD j3 rfl fun v3 i3 => ?_
      obtain rfl := i3.str_eq
      walk_at "s"
      refine w_ifF (by decide +kernel) ?_
      walk_at "s"
      refine w_ixD j3 rfl fun v3 i3 => ?_
      obtain rfl := i3.str_eq
      walk_at "s"
      refine w_ifF (by decide +kernel) ?_
      walk_at "s"
      exact ⟨_, br, rfl, by omega, q⟩
theorem sccheck_of : FnScope ["shape", "number", "head", "total", "place", "value"] ["shape", "number", "head"] (defScope scheck_of) := ⟨rfl, rfl, rfl, by decide +kernel, rfl, by decide +kernel, by decide +kernel⟩
def sp_check_of (K : PySem.W.Frag) : Sp := fun vs H Q _ => ∃ (x y : V) (fs : List Field) (m : Nat) (n : Int) (hd : List Int), vs = [x, .int n, y] ∧ Is K H x (shapeD fs m) ∧ Is K H y (headD hd) ∧ 1 ≤ m ∧ hd.length ≤ 12 ∧ ∀ H', Chg [] H H' → Q (.int (checkF m n hd)) H'
theorem ok_check_of (T : Txt K mg) (F : Top K mg "check_of" scheck_of)  : Fk P w K mg base CX0 1 "check_of" ["shape", "number", "head"] (sp_check_of K) := by
  refine F.fk (fun _ _ _ _ _ _ us hl => match us, hl with | [_, _, _], _ => rfl) fun f fd F => F.ok sccheck_of (fun vs H Q E h => ?_) (fun cdv A outer s H vs Q E hr h => ?_)
  · obtain ⟨x, y, fs, m, n, hd, rfl, _⟩ := h
    rfl
  · obtain ⟨x, y, fs, m, n, hd, rfl, ix, iy, hm, hz, q⟩ := h
    obtain ⟨ay, ys, rfl, ty, sy⟩ := iy.tup_eq
    obtain rfl := sy.ints_eq
    refine ⟨_, (pss_cons (ps_set (i := 3) sccheck_of.nd rfl (Or.inl rfl) (pv 1)) (pss_cons (ps_for PassesOwn.never rfl (pi_enumK (K := K) (by rfl) T.b_enumerate (pa_cons (pv 2) pa_nil)) (pg_tupK (K := K) (n := 2) rfl (pgs_cons (pg_name (i := 4) sccheck_of.nd rfl (Or.inl rfl)) (pgs_cons (pg_name (i := 5) sccheck_of.nd rfl (Or.inl rfl)) pgs_nil))) (pss_one (ps_aug (i := 3) sccheck_of.nd rfl (Or.inl rfl) (pe_op op_mulA (pe_op (op_addK (K := K)) (pv 4) pe_int) (pv 5)) ip_add))) (pss_one (ps_ret (pe_op op_mod (pv 3) (pe_ixK (K := K) (pv 0) pe_int (fun _ _ => rfl))))))), ?_⟩
    walk_at "s"
    refine ⟨_, _, rfl, ty, for_it walk_enumT (fun i σ H' => ∃ a b, σ = [some x, some (.int n), some (.ref ay), some (.int (checkA 0 (hd.take i) n)), a, b] ∧ Chg [] H H') ⟨none, none, rfl, Chg.refl⟩ (fun i σ H' _ h => by obtain ⟨_, _, _, c⟩ := h; exact ty.mono c) ?_ ?_⟩
    · rintro i v σ H1 H2 hi ⟨a, b, rfl, c⟩ ⟨T', x1, x2, rfl, hT, rfl, e1, e2⟩
      cases e1
      have hi' : i < hd.length := by simpa using hi
      have e3 : x2 = .int hd[i] := by
        have e2 : (hd.map V.int)[i]? = some x2 := e2
        rw [List.getElem?_map, List.getElem?_eq_getElem hi'] at e2
        exact (Option.some.inj e2).symm
      subst e3
      walk_at "s"
      refine w_mulL (by omega) ?_
      walk_at "s"
      have e5 : checkA 0 (hd.take (i + 1)) n = checkA 0 (hd.take i) n + ((i : Int) + 2) * hd[i] := by
        rw [List.take_succ, List.getElem?_eq_getElem hi']
        show checkA 0 (hd.take i ++ [hd[i]]) n = _
        rw [checkA_append]
        have e4 : (0 + (hd.take i).length : Nat) = i := by simp; omega
        rw [e4]
      exact ⟨_, _, by rw [e5]; rfl, c.trans (Chg.new hT)⟩
    · rintro σ H1 ⟨a, b, rfl, c⟩
      walk_at "s"
      refine w_ixD (ix.on c) rfl fun v iv => ?_
      obtain rfl := iv.int_eq
      refine w_mod (by omega) ?_
      have e : hd.take (hd.map V.int).length = hd := by simp
      rw [e]
      exact q H1 c
end
end Sh
namespace Sh
open PySem L2 PySem.Spec PyProof.Rows
local macro_rules | `(tactic| walk_at "s1") => `(tactic| first
  | with_reducible refine w_seq ?_
  | with_reducible refine w_asg ?_
  | with_reducible refine w_name ?_
  | with_reducible refine w_ret ?_
  | with_reducible refine w_retN ?_
  | with_reducible refine w_drop ?_
  | with_reducible refine w_next ?_
  | with_reducible refine w_ifS ?_
  | ((with_reducible refine' w_var ?h ?_); (case h => rfl))
  | with_reducible refine w_c ?_
  | with_reducible refine w_op ?_
  | with_reducible refine w_un ?_
  | with_reducible refine w_sl ?_
  | with_reducible refine w_nopart ?_
  | with_reducible refine w_part ?_
  | with_reducible refine w_exint ?_
  | with_reducible refine w_exbl ?_
  | with_reducible refine w_exbl' ?_
  | with_reducible refine w_exint' ?_
  | with_reducible refine w_nn ?_
  | with_reducible refine w_test ?_
  | with_reducible refine w_B ?_
  | with_reducible refine w_and ?_
  | with_reducible refine w_or ?_
  | with_reducible refine w_not ?_
  | with_reducible refine w_andV ?_
  | with_reducible refine w_orV ?_
  | with_reducible refine w_notV ?_
  | with_reducible refine w_ifE ?_
  | with_reducible refine w_nil ?_
  | with_reducible refine w_cons ?_
  | with_reducible refine w_tup ?_
  | with_reducible refine w_lst ?_
  | with_reducible refine w_CB ?_
  | with_reducible refine w_fn ?_
  | with_reducible refine w_T ?_
  | with_reducible refine w_F ?_
  | with_reducible refine w_I0 ?_
  | with_reducible refine w_U ?_
  | with_reducible refine w_addI ?_
  | with_reducible refine w_eqI ?_
  | with_reducible refine w_neI ?_
  | with_reducible refine w_eqS ?_
  | with_reducible refine w_neS ?_
  | with_reducible refine w_for ?_
  | with_reducible refine w_rng1 ?_
  | with_reducible refine w_rng2 ?_
  | with_reducible refine w_iStr ?_
  | with_reducible refine w_iTup ?_
  | with_reducible refine w_iList ?_
  | with_reducible refine w_iEnumT ?_
  | with_reducible refine w_iZip3 ?_
  | with_reducible refine w_iZipA ?_
  | with_reducible refine w_BM ?_
  | with_reducible refine w_gCons ?_
  | with_reducible refine w_gNil ?_
  | ((with_reducible refine' w_gTup ?h ?e ?_); (case h => exact SqT.of upd_same); (case e => rfl))
  | ((with_reducible refine' w_aug ?h ?_); (case h => rfl))
  | with_reducible refine w_ip ?_
  | with_reducible refine w_lc ?_
  | with_reducible refine w_fld ?_
  | with_reducible refine w_chain ?_
  | with_reducible refine w_mt ?_
  | with_reducible refine w_fset ?_
  | with_reducible refine w_dget ?_
  | with_reducible refine w_din ?_
  | with_reducible refine w_dput ?_
  | with_reducible refine w_dnew ?_
  | with_reducible refine w_keys ?_
  | with_reducible refine w_nT ?_
  | with_reducible refine w_nF ?_
  | with_reducible refine w_rowIndex ?_)
local macro_rules | `(tactic| walk_at "s") => `(tactic| repeat (walk_at "s1"))
section
variable {P : Program} {w : World} {K : PySem.W.Frag} {mg : Str → Option Value} {base : Heap}
theorem Iss.two {H : Hp} {xs : List V} {d e : PyData} (h : Iss K H xs [d, e]) : ∃ v u, xs = [v, u] ∧ Is K H v d ∧ Is K H u e := by
  cases h with | cons h1 h => cases h with | cons h2 h => cases h; exact ⟨_, _, rfl, h1, h2⟩
theorem Iss.three {H : Hp} {xs : List V} {d e f : PyData} (h : Iss K H xs [d, e, f]) : ∃ v u w, xs = [v, u, w] ∧ Is K H v d ∧ Is K H u e ∧ Is K H w f := by
  cases h with | cons h1 h => obtain ⟨v, u, rfl, h2, h3⟩ := h.two; exact ⟨_, _, _, rfl, h1, h2, h3⟩
theorem Iss.four {H : Hp} {xs : List V} {d e f g : PyData} (h : Iss K H xs [d, e, f, g]) : ∃ v u w z, xs = [v, u, w, z] ∧ Is K H v d ∧ Is K H u e ∧ Is K H w f ∧ Is K H z g := by
  cases h with | cons h1 h => obtain ⟨v, u, w, rfl, h2, h3, h4⟩ := h.three; exact ⟨_, _, _, _, rfl, h1, h2, h3, h4⟩
/-! ### forms -/
theorem scwidth_of : FnScope ["field", "way"] ["field", "way"] (defScope swidth_of) := ⟨rfl, rfl, rfl, by decide +kernel, rfl, by decide +kernel, by decide +kernel⟩
def sp_width_of (K : PySem.W.Frag) : Sp := fun vs H Q _ => ∃ (x y : V) (fd : Field) (wy : Way), vs = [x, y] ∧ Is K H x (fieldD fd) ∧ Is K H y (wayD wy) ∧ Q (.int (widF fd wy)) H
theorem ok_width_of (T : Txt K mg) (F : Top K mg "width_of" swidth_of)  : Fk P w K mg base CX0 1 "width_of" ["field", "way"] (sp_width_of K) := by
  refine F.fk (fun _ _ _ _ _ _ us hl => match us, hl with | [_, _], _ => rfl) fun f fd F => F.ok scwidth_of (fun vs H Q E h => ?_) (fun cdv A outer s H vs Q E hr h => ?_)
  · obtain ⟨x, y, fd, wy, rfl, _⟩ := h
    rfl
  · obtain ⟨x, y, fd, wy, rfl, ix, iy, q⟩ := h
    refine ⟨_, (pss_cons (ps_if (pt_cmpR (op_eqK (K := K) hr.units) (pe_ixK (K := K) (pv 1) pe_int (fun _ _ => rfl)) pe_str (nomark _)) (pss_one (ps_ret pe_int)) pss_nil) (pss_cons (ps_if (pt_cmpR (op_eqK (K := K) hr.units) (pe_ixK (K := K) (pv 1) pe_int (fun _ _ => rfl)) pe_str (nomark _)) (pss_one (ps_ret (pe_ixK (K := K) (pv 1) pe_int (fun _ _ => rfl)))) pss_nil) (pss_one (ps_ret (pe_ixK (K := K) (pv 0) pe_int (fun _ _ => rfl)))))), ?_⟩
    walk_at "s"
    cases wy with
    | keep =>
      refine w_ixDS iy rfl ?_
      walk_at "s"
      refine w_ifT (by decide +kernel) ?_
      walk_at "s"
      exact q
    | low a b =>
      refine w_ixDS iy rfl ?_
      walk_at "s"
      refine w_ifF (by decide +kernel) ?_
      walk_at "s"
      refine w_ixDS iy rfl ?_
      walk_at "s"
      refine w_ifT (by decide +kernel) ?_
      walk_at "s"
      refine w_ixDI iy rfl ?_
      exact q
    | whole =>
      refine w_ixDS iy rfl ?_
      walk_at "s"
      refine w_ifF (by decide +kernel) ?_
      walk_at "s"
      refine w_ixDS iy rfl ?_
      walk_at "s"
      refine w_ifF (by decide +kernel) ?_
      walk_at "s"
      refine w_ixDI ix rfl ?_
      exact q
theorem scpieces : FnScope ["shape", "form", "head", "told", "field", "way", "value", "width"] ["shape", "form", "head"] (defScope spieces) := ⟨rfl, rfl, rfl, by decide +kernel, rfl, by decide +kernel, by decide +kernel⟩
def sp_pieces (K : PySem.W.Frag) : Sp := fun vs H Q _ => ∃ (x y z : V) (fs : List Field) (m : Nat) (f : Form) (hd : List Int), vs = [x, y, z] ∧ ShapeOk fs m ∧ FormOk fs f ∧ hd.length = fs.length ∧ Is K H x (shapeD fs m) ∧ Is K H y (formD f) ∧ Is K H z (headD hd) ∧ ∀ H', Chg [] H H' → Q (.str (S (pcs fs f.ways hd))) H'
theorem ok_pieces (T : Txt K mg) (F : Top K mg "pieces" spieces) (F_bits_of : Fk P w K mg base CX0 1 "bits_of" ["number", "width"] (sp_bits_of K)) (F_rest_of : Fk P w K mg base CX0 1 "rest_of" ["number", "width"] (sp_rest_of K)) (F_width_of : Fk P w K mg base CX0 1 "width_of" ["field", "way"] (sp_width_of K)) : Fk P w K mg base CX0 2 "pieces" ["shape", "form", "head"] (sp_pieces K) := by
  refine F.fk (fun _ _ _ _ _ _ us hl => match us, hl with | [_, _, _], _ => rfl) fun f fd F => F.ok scpieces (fun vs H Q E h => ?_) (fun cdv A outer s H vs Q E hr h => ?_)
  · obtain ⟨x, y, z, fs, m, f, hd, rfl, _⟩ := h
    rfl
  · obtain ⟨x, y, z, fs, m, f, hd, rfl, hs, hf, hl, ix, iy, iz, q⟩ := h
    obtain ⟨az, zs, rfl, tz, sz⟩ := iz.tup_eq
    refine ⟨_, (pss_cons (ps_set (i := 3) scpieces.nd rfl (Or.inl rfl) pe_str) (pss_cons (ps_for PassesOwn.never rfl (pi_zip3K (K := K) (by rfl) T.b_zip (pa_cons (pe_ixK (K := K) (pv 0) pe_int (fun _ _ => rfl)) (pa_cons (pe_ixK (K := K) (pv 1) pe_int (fun _ _ => rfl)) (pa_cons (pv 2) pa_nil)))) (pg_tupK (K := K) (n := 3) rfl (pgs_cons (pg_name (i := 4) scpieces.nd rfl (Or.inl rfl)) (pgs_cons (pg_name (i := 5) scpieces.nd rfl (Or.inl rfl)) (pgs_cons (pg_name (i := 6) scpieces.nd rfl (Or.inl rfl)) pgs_nil)))) (pss_cons (ps_set (i := 7) scpieces.nd rfl (Or.inl rfl) (pe_fn F_width_of hr rfl (pa_cons (pv 4) (pa_cons (pv 5) pa_nil)))) (pss_one (ps_aug (i := 3) scpieces.nd rfl (Or.inl rfl) (pe_fn F_bits_of hr rfl (pa_cons (pe_fn F_rest_of hr rfl (pa_cons (pv 6) (pa_cons (pv 7) pa_nil))) (pa_cons (pv 7) pa_nil))) iop_add_str')))) (pss_one (ps_ret (pv 3))))), ?_⟩
    walk_at "s"
    refine w_ixD ix rfl fun v0 i0 => ?_
    obtain ⟨a0, xs, rfl, t0, s0⟩ := i0.tup_eq
    walk_at "s"
    refine w_ixD iy rfl fun v1 i1 => ?_
    obtain ⟨a1, ys, rfl, t1, s1⟩ := i1.tup_eq
    have hxs : xs.length = fs.length := by rw [s0.length, List.length_map]
    have hys : ys.length = fs.length := by rw [s1.length, List.length_map, hf.len]
    have hzs : zs.length = fs.length := by rw [sz.length, List.length_map, hl]
    walk_at "s"
    refine ⟨_, _, _, _, _, _, rfl, t0, t1, tz, for_it (walk_zip3 (a := a0) (b := a1) (c := az) (xs := xs) (ys := ys) (zs := zs) (by omega) (by omega)) (fun i σ H' => ∃ a b c d, σ = [some x, some y, some (.ref az), some (.str (S (pcs (fs.take i) (f.ways.take i) (hd.take i)))), a, b, c, d] ∧ Chg [] H H') ⟨none, none, none, none, rfl, Chg.refl⟩ (fun i σ H' _ h => by obtain ⟨_, _, _, _, _, c⟩ := h; exact ⟨t0.mono c, t1.mono c, tz.mono c⟩) ?_ ?_⟩
    · rintro i v σ H1 H2 hi ⟨a, b, c, d, rfl, c1⟩ ⟨T', x1, x2, x3, rfl, hT, rfl, e1, e2, e3⟩
      obtain ⟨fd, ef, i1⟩ := getMap s0 e1
      obtain ⟨wy, ew, i2⟩ := getMap s1 e2
      obtain ⟨n, en, i3⟩ := getMap sz e3
      obtain rfl := i3.int_eq
      have c2 : Chg [] H (upd H1 T' (.tup [x1, x2, .int n])) := c1.trans (Chg.new hT)
      walk_at "s"
      refine ⟨_, _, fd, wy, rfl, i1.on c2, i2.on c2, ?_⟩
      walk_at "s"
      have hw := widF_le (hs.ok i fd ef) (hf.ok i fd wy ef ew)
      refine ⟨n, widF fd wy, rfl, by omega, ?_⟩
      walk_at "s"
      refine ⟨_, widF fd wy, rfl, by omega, fun H3 c3 => ?_⟩
      have hlt : i < fs.length := by omega
      have e5 : (fs.take i).length = i := by simp; omega
      have e6 : (f.ways.take i).length = i := by have := hf.len; simp; omega
      have e7 : (hd.take i).length = i := by simp; omega
      have hlen : (pcs (fs.take i) (f.ways.take i) (hd.take i)).length ≤ 480 := by
        rw [pcs_length _ _ _ (by omega) (by omega)]
        have := sizF_le hs hf i (by omega)
        have := hs.few
        omega
      refine w_ipS (by rw [S_len, S_len, bitsL_length]; exact sz1000 (by omega)) ?_
      have e8 : S (pcs (fs.take i) (f.ways.take i) (hd.take i)) ++ S (bitsL (n % 2 ^ widF fd wy) (widF fd wy)) = S (pcs (fs.take (i + 1)) (f.ways.take (i + 1)) (hd.take (i + 1))) := by
        rw [S_app, take_snoc ef, take_snoc ew, take_snoc en, pcs_snoc _ _ _ _ _ _ (by omega) (by omega)]
      rw [e8]
      exact ⟨_, _, _, _, rfl, c2.trans c3⟩
    · rintro σ H1 ⟨a, b, c, d, rfl, c1⟩
      walk_at "s"
      have e1 : fs.take xs.length = fs := by rw [hxs]; exact List.take_length ..
      have e2 : f.ways.take xs.length = f.ways := by rw [hxs, ← hf.len]; exact List.take_length ..
      have e3 : hd.take xs.length = hd := by rw [hxs, ← hl]; exact List.take_length ..
      rw [e1, e2, e3]
      exact q H1 c1
theorem scsize_of : FnScope ["shape", "form", "field", "way"] ["shape", "form"] (defScope ssize_of) := ⟨rfl, rfl, rfl, by decide +kernel, rfl, by decide +kernel, by decide +kernel⟩
def sp_size_of (K : PySem.W.Frag) : Sp := fun vs H Q _ => ∃ (x y : V) (fs : List Field) (m : Nat) (f : Form), vs = [x, y] ∧ ShapeOk fs m ∧ FormOk fs f ∧ Is K H x (shapeD fs m) ∧ Is K H y (formD f) ∧ ∀ H', Chg [] H H' → Q (.int (sizF fs f.ways)) H'
theorem ok_size_of (T : Txt K mg) (F : Top K mg "size_of" ssize_of) (F_width_of : Fk P w K mg base CX0 1 "width_of" ["field", "way"] (sp_width_of K)) : Fk P w K mg base CX0 2 "size_of" ["shape", "form"] (sp_size_of K) := by
  refine F.fk (fun _ _ _ _ _ _ us hl => match us, hl with | [_, _], _ => rfl) fun f fd F => F.ok scsize_of (fun vs H Q E h => ?_) (fun cdv A outer s H vs Q E hr h => ?_)
  · obtain ⟨x, y, fs, m, f, rfl, _⟩ := h
    rfl
  · obtain ⟨x, y, fs, m, f, rfl, hs, hf, ix, iy, q⟩ := h
    refine ⟨_, (pss_one (ps_ret (pe_callB (cr_sumK (K := K) rfl) (by rfl) T.b_sum (by decide +kernel) (pa_cons (pe_lc (own := [("field", 2), ("way", 3)]) rfl scsize_of.nd (pi_zipK (K := K) (by rfl) T.b_zip (pa_cons (pe_ixK (K := K) (pv 0) pe_int (fun _ _ => rfl)) (pa_cons (pe_ixK (K := K) (pv 1) pe_int (fun _ _ => rfl)) pa_nil))) (blkOk_by (own := [("field", 2), ("way", 3)]) (N := ["shape", "form", "field", "way"]) (sc := defScope ssize_of) (by decide +kernel)) (fun _ _ _ _ _ => (pg_tupK (K := K) (n := 2) rfl (pgs_cons (pg_name (i := 2) scsize_of.nd rfl (Or.inl rfl)) (pgs_cons (pg_name (i := 3) scsize_of.nd rfl (Or.inl rfl)) pgs_nil)))) (fun _ _ _ _ _ => pts_nil) (fun _ _ _ _ _ => (pe_fn F_width_of hr rfl (pa_cons (pv 2) (pa_cons (pv 3) pa_nil))))) pa_nil)))), ?_⟩
    walk_at "s"
    refine w_ixD ix rfl fun v0 i0 => ?_
    obtain ⟨a0, xs, rfl, t0, s0⟩ := i0.tup_eq
    walk_at "s"
    refine w_ixD iy rfl fun v1 i1 => ?_
    obtain ⟨a1, ys, rfl, t1, s1⟩ := i1.tup_eq
    have hxs : xs.length = fs.length := by rw [s0.length, List.length_map]
    have hys : ys.length = fs.length := by rw [s1.length, List.length_map, hf.len]
    walk_at "s"
    refine ⟨_, _, _, _, rfl, .inr ⟨t0, t1, fun D hD => ?_⟩⟩
    refine lc_map (walk_zipT (by omega)) hD (fun i => .int ((List.zipWith widF fs f.ways).getD i 0)) (by have := hs.few; omega) (fun H1 c1 => ⟨(t0.mono c1).sq, (t1.mono c1).sq⟩) (fun i x H1 H2 Q' hi c1 hY hQ => ?_) fun H1 c1 hL => ?_
    · obtain ⟨T', x1, x2, rfl, hT, rfl, e1, e2⟩ := hY
      obtain ⟨fd, ef, i1⟩ := getMap s0 e1
      obtain ⟨wy, ew, i2⟩ := getMap s1 e2
      have c2 : Chg [] H (upd H1 T' (.tup [x1, x2])) := c1.trans (Chg.new hT)
      walk_at "s"
      refine ⟨rfl, ?_⟩
      walk_at "s"
      refine ⟨_, _, fd, wy, rfl, i1.on c2, i2.on c2, ?_⟩
      have e : (List.zipWith widF fs f.ways).getD i 0 = widF fd wy := by
        rw [List.getD_eq_getElem?_getD, List.getElem?_zipWith, ef, ew]
        rfl
      rw [← e]
      exact hQ _ (Chg.new hT)
    · walk_at "s"
      have e : (List.range xs.length).map (fun i => V.int ((List.zipWith widF fs f.ways).getD i 0 : Nat)) = ((List.zipWith widF fs f.ways).map fun (n : Nat) => (n : Int)).map V.int := by
        have e4 : (List.zipWith widF fs f.ways).length = xs.length := by
          rw [List.length_zipWith, hf.len, hxs]
          exact Nat.min_self _
        rw [← e4, range_getD 0 (fun (n : Nat) => V.int (n : Int)), List.map_map]
        rfl
      rw [e] at hL
      refine ⟨D, _, rfl, SqL.of hL, ?_⟩
      rw [sizF_zip]
      exact q H1 c1
theorem scvalue_opened : FnScope ["shape", "form", "place", "told", "former", "ahead", "more", "way", "looked_for"] ["shape", "form", "place", "told", "former", "ahead", "more"] (defScope svalue_opened) := ⟨rfl, rfl, rfl, by decide +kernel, rfl, by decide +kernel, by decide +kernel⟩
def sp_value_opened (K : PySem.W.Frag) : Sp := fun vs H Q _ => ∃ (x y z u : V) (fs : List Field) (m p : Nat) (f : Form) (fd : Field) (wy : Way) (told : List Nat) (former ahead : List Int) (v : Int) (more : Nat), vs = [x, y, .int p, .str (S told), z, u, .int more] ∧
  Is K H x (shapeD fs m) ∧ Is K H y (formD f) ∧ Is K H z (headD former) ∧ Is K H u (headD ahead) ∧ fs[p]? = some fd ∧ FieldOk p fd ∧ f.ways[p]? = some wy ∧ WayOk fd.br wy ∧ B01 told ∧ told.length ≤ 1000 ∧ former[p]? = some v ∧ p ≤ ahead.length ∧ more ≤ 1000 ∧ Q (.int (valF fd wy told former ahead v more)) H
theorem ok_value_opened (T : Txt K mg) (F : Top K mg "value_opened" svalue_opened) (F_around : Fk P w K mg base CX0 3 "around" ["w", "base", "below", "rest", "width"] (sp_around K)) (F_number_of : Fk P w K mg base CX0 1 "number_of" ["bits"] (sp_number_of K)) (F_expected : Fk P w K mg base CX0 2 "expected" ["shape", "place", "former", "ahead", "more"] (sp_expected K)) : Fk P w K mg base CX0 4 "value_opened" ["shape", "form", "place", "told", "former", "ahead", "more"] (sp_value_opened K) := by
  refine F.fk (fun _ _ _ _ _ _ us hl => match us, hl with | [_, _, _, _, _, _, _], _ => rfl) fun f fd F => F.ok scvalue_opened (fun vs H Q E h => ?_) (fun cdv A outer s H vs Q E hr h => ?_)
  · obtain ⟨x, y, z, u, fs, m, p, f, fd, wy, told, former, ahead, v, more, rfl, _⟩ := h
    rfl
  · obtain ⟨x, y, z, u, fs, m, p, f, fd, wy, told, former, ahead, v, more, rfl, ix, iy, iz, iu, ef, hf, ew, hw, h01, hz, ev, ha, hm, q⟩ := h
    have hb : fd.br ≤ 40 := hf.2.1
    refine ⟨_, (pss_cons (ps_set (i := 7) scvalue_opened.nd rfl (Or.inl rfl) (pe_ixK (K := K) (pe_ixK (K := K) (pv 1) pe_int (fun _ _ => rfl)) (pv 2) (fun _ _ => rfl))) (pss_cons (ps_if (pt_cmpR (op_eqK (K := K) hr.units) (pe_ixK (K := K) (pv 7) pe_int (fun _ _ => rfl)) pe_str (nomark _)) (pss_one (ps_ret (pe_fn F_number_of hr rfl (pa_cons (pv 3) pa_nil)))) pss_nil) (pss_cons (ps_set (i := 8) scvalue_opened.nd rfl (Or.inl rfl) (pe_fn F_expected hr rfl (pa_cons (pv 0) (pa_cons (pv 2) (pa_cons (pv 4) (pa_cons (pv 5) (pa_cons (pv 6) pa_nil))))))) (pss_cons (ps_if (pt_cmpR (op_eqK (K := K) hr.units) (pe_ixK (K := K) (pv 7) pe_int (fun _ _ => rfl)) pe_str (nomark _)) (pss_one (ps_ret (pv 8))) pss_nil) (pss_one (ps_ret (pe_fn F_around hr rfl (pa_cons (pe_ixK (K := K) (pe_ixK (K := K) (pe_ixK (K := K) (pv 0) pe_int (fun _ _ => rfl)) (pv 2) (fun _ _ => rfl)) pe_int (fun _ _ => rfl)) (pa_cons (pv 8) (pa_cons (pe_ixK (K := K) (pv 7) pe_int (fun _ _ => rfl)) (pa_cons (pe_fn F_number_of hr rfl (pa_cons (pv 3) pa_nil)) (pa_cons (pe_ixK (K := K) (pv 7) pe_int (fun _ _ => rfl)) pa_nil)))))))))))), ?_⟩
    walk_at "s"
    refine w_ixD iy rfl fun v0 i0 => ?_
    walk_at "s"
    refine w_ixM i0 ew fun v1 i1 => ?_
    walk_at "s"
    cases wy with
    | whole =>
      refine w_ixDS i1 rfl ?_
      walk_at "s"
      refine w_ifT (by decide +kernel) ?_
      walk_at "s"
      exact ⟨told, rfl, h01, by omega, q⟩
    | keep =>
      refine w_ixDS i1 rfl ?_
      walk_at "s"
      refine w_ifF (by decide +kernel) ?_
      walk_at "s"
      refine ⟨_, _, _, fs, m, p, fd, former, ahead, v, more, rfl, ix, iz, iu, ef, hf, ev, ha, hm, ?_⟩
      walk_at "s"
      refine w_ixDS i1 rfl ?_
      walk_at "s"
      refine w_ifT (by decide +kernel) ?_
      walk_at "s"
      exact q
    | low a b =>
      refine w_ixDS i1 rfl ?_
      walk_at "s"
      refine w_ifF (by decide +kernel) ?_
      walk_at "s"
      refine ⟨_, _, _, fs, m, p, fd, former, ahead, v, more, rfl, ix, iz, iu, ef, hf, ev, ha, hm, ?_⟩
      walk_at "s"
      refine w_ixDS i1 rfl ?_
      walk_at "s"
      refine w_ifF (by decide +kernel) ?_
      walk_at "s"
      refine w_ixD ix rfl fun v2 i2 => ?_
      walk_at "s"
      refine w_ixM i2 ef fun v3 i3 => ?_
      refine w_ixDI i3 rfl ?_
      walk_at "s"
      refine w_ixDI i1 rfl ?_
      walk_at "s"
      refine ⟨told, rfl, h01, by omega, ?_⟩
      walk_at "s"
      refine w_ixDI i1 rfl ?_
      exact ⟨fd.br, a, _, b, _, rfl, by have := hw.2.1; omega, by omega, q⟩
theorem scopened : FnScope ["shape", "form", "bits", "former", "more", "head", "at", "place", "field", "width", "value"] ["shape", "form", "bits", "former", "more"] (defScope sopened) := ⟨rfl, rfl, rfl, by decide +kernel, rfl, by decide +kernel, by decide +kernel⟩
def sp_opened (K : PySem.W.Frag) : Sp := fun vs H Q _ => ∃ (x y z : V) (fs : List Field) (m : Nat) (f : Form) (bits : List Nat) (former : List Int) (more : Nat), vs = [x, y, .str (S bits), z, .int more] ∧
  ShapeOk fs m ∧ FormOk fs f ∧ former.length = fs.length ∧ B01 bits ∧ bits.length ≤ 1000 ∧ more ≤ 1000 ∧ Is K H x (shapeD fs m) ∧ Is K H y (formD f) ∧ Is K H z (headD former) ∧ ∀ H' v, Chg [] H H' → Is K H' v (headD (openF fs f.ways bits former more)) → Q v H'
theorem B01.take {l : List Nat} (h : B01 l) (n : Nat) : B01 (l.take n) := fun c hc => h c (List.mem_of_mem_take hc)
theorem B01.drop {l : List Nat} (h : B01 l) (n : Nat) : B01 (l.drop n) := fun c hc => h c (List.mem_of_mem_drop hc)
theorem B01.app {l m : List Nat} (h : B01 l) (h' : B01 m) : B01 (l ++ m) := fun c hc => by
  rcases List.mem_append.mp hc with z | z
  · exact h c z
  · exact h' c z
/-- (..) + (v,) -/
theorem w_catOne {H : Hp} {Q : VK} {x : V} {hd : List Int} {n : Int} {b : Addr} (ix : Is K H x (headD hd)) (hb : H b = none) (hz : hd.length ≤ 1000) (q : ∀ H' v, Chg [] H H' → Is K H' v (headD (hd ++ [n])) → Q v H') : rAddA K x (.ref b) (upd H b (.tup [.int n])) Q := by
  obtain ⟨a, xs, rfl, t, s⟩ := ix.tup_eq
  have c1 : Chg [] H (upd H b (.tup [.int n])) := Chg.new hb
  have hx := s.length
  rw [List.length_map] at hx
  refine .inr (.inr (.inr ⟨a, b, xs, [.int n], rfl, rfl, (t.mono c1).sq, SqT.of upd_same, sz1000 (by simp; omega), fun e => ?_, fun _ e => (nomatch e), fun hne _ p hp => ?_⟩))
  · subst e
    have : hd = [] := List.eq_nil_of_length_eq_zero (by simpa using hx.symm)
    subst this
    exact q _ _ c1 (is_new (Iss.one (.int n)) hb)
  · have c2 : Chg [] H (upd (upd H b (.tup [.int n])) p (.tup (xs ++ [.int n]))) := c1.trans (Chg.new hp)
    refine q _ _ c2 (.tup (SqT.of upd_same) ?_)
    rw [List.map_append]
    exact (s.on c2).append (Iss.one (.int n))
theorem ok_opened (T : Txt K mg) (F : Top K mg "opened" sopened) (F_value_opened : Fk P w K mg base CX0 4 "value_opened" ["shape", "form", "place", "told", "former", "ahead", "more"] (sp_value_opened K)) (F_width_of : Fk P w K mg base CX0 1 "width_of" ["field", "way"] (sp_width_of K)) : Fk P w K mg base CX0 5 "opened" ["shape", "form", "bits", "former", "more"] (sp_opened K) := by
  refine F.fk (fun _ _ _ _ _ _ us hl => match us, hl with | [_, _, _, _, _], _ => rfl) fun f fd F => F.ok scopened (fun vs H Q E h => ?_) (fun cdv A outer s H vs Q E hr h => ?_)
  · obtain ⟨x, y, z, fs, m, f, bits, former, more, rfl, _⟩ := h
    rfl
  · obtain ⟨x, y, z, fs, m, f, bits, former, more, rfl, hs, hf, hl, h01, hz, hm, ix, iy, iz, q⟩ := h
    refine ⟨_, (pss_cons (ps_set (i := 5) scopened.nd rfl (Or.inl rfl) (pe_tup pa_nil)) (pss_cons (ps_set (i := 6) scopened.nd rfl (Or.inl rfl) pe_int) (pss_cons (ps_for PassesOwn.never rfl (pi_enumK (K := K) (by rfl) T.b_enumerate (pa_cons (pe_ixK (K := K) (pv 0) pe_int (fun _ _ => rfl)) pa_nil)) (pg_tupK (K := K) (n := 2) rfl (pgs_cons (pg_name (i := 7) scopened.nd rfl (Or.inl rfl)) (pgs_cons (pg_name (i := 8) scopened.nd rfl (Or.inl rfl)) pgs_nil))) (pss_cons (ps_set (i := 9) scopened.nd rfl (Or.inl rfl) (pe_fn F_width_of hr rfl (pa_cons (pv 8) (pa_cons (pe_ixK (K := K) (pe_ixK (K := K) (pv 1) pe_int (fun _ _ => rfl)) (pv 7) (fun _ _ => rfl)) pa_nil)))) (pss_cons (ps_set (i := 10) scopened.nd rfl (Or.inl rfl) (pe_fn F_value_opened hr rfl (pa_cons (pv 0) (pa_cons (pv 1) (pa_cons (pv 7) (pa_cons (pe_slK (K := K) (pv 2) (po_some (pv 6)) (po_some (pe_op (op_addK (K := K)) (pv 6) (pv 9)))) (pa_cons (pv 3) (pa_cons (pv 5) (pa_cons (pv 4) pa_nil))))))))) (pss_cons (ps_set (i := 5) scopened.nd rfl (Or.inl rfl) (pe_op (op_addK (K := K)) (pv 5) (pe_tup (pa_cons (pv 10) pa_nil)))) (pss_one (ps_aug (i := 6) scopened.nd rfl (Or.inl rfl) (pv 9) ip_add)))))) (pss_one (ps_ret (pv 5)))))), ?_⟩
    walk_at "s"
    refine ⟨by decide, fun p0 hp0 => ?_⟩
    walk_at "s"
    have c0 : Chg [] H (upd H p0 (.tup [])) := Chg.new hp0
    refine w_ixD (ix.on c0) rfl fun v0 i0 => ?_
    obtain ⟨a0, xs, rfl, t0, s0⟩ := i0.tup_eq
    have hxs : xs.length = fs.length := by rw [s0.length, List.length_map]
    walk_at "s"
    refine ⟨_, _, rfl, t0.sq, for_it walk_enumT (fun i σ H' => ∃ a b c d hv hd, σ = [some x, some y, some (.str (S bits)), some z, some (.int more), some hv, some (.int (sizF (fs.take i) (f.ways.take i))), a, b, c, d] ∧ Chg [] (upd H p0 (.tup [])) H' ∧ Is K H' hv (headD hd) ∧ hd.length = i ∧ opn former more (fs.drop i) (f.ways.drop i) (bits.drop (sizF (fs.take i) (f.ways.take i))) hd = openF fs f.ways bits former more)
      ⟨none, none, none, none, _, [], by rfl, Chg.refl, is_new .nil hp0, rfl, rfl⟩ (fun i σ H' _ h => by obtain ⟨_, _, _, _, _, _, _, c, _⟩ := h; exact (t0.mono c).sq) ?_ ?_⟩
    · rintro i v σ H1 H2 hi ⟨a, b, c, d, hv, hd, rfl, c1, ih, hdl, ho⟩ ⟨T', x1, x2, rfl, hT, rfl, e1, e2⟩
      cases e1
      have e2 : xs[i]? = some x2 := e2
      obtain ⟨fd, ef, i1⟩ := getMap s0 e2
      have hlt : i < fs.length := by omega
      have hl2 := hf.len
      have ew : f.ways[i]? = some (f.ways[i]'(by omega)) := List.getElem?_eq_getElem _
      have ev : former[i]? = some (former[i]'(by omega)) := List.getElem?_eq_getElem _
      generalize f.ways[i]'(by omega) = wy at ew
      generalize former[i]'(by omega) = vv at ev
      have hw := hf.ok i fd wy ef ew
      have hfo := hs.ok i fd ef
      have c2 : Chg [] (upd H p0 (.tup [])) (upd H1 T' (.tup [.int (i : Int), x2])) := c1.trans (Chg.new hT)
      have c3 := c0.trans c2
      have hwl := widF_le hfo hw
      walk_at "s"
      refine w_ixD (iy.on c3) rfl fun v3 i3 => ?_
      walk_at "s"
      refine w_ixM i3 ew fun v4 i4 => ?_
      refine ⟨_, _, fd, wy, rfl, i1.on c2, i4, ?_⟩
      walk_at "s"
      refine w_slS (z := S bits) (by rw [S_len]; exact sz1000 (by omega)) ?_
      walk_at "s"
      rw [cut_mid]
      refine ⟨_, _, _, _, fs, m, i, f, fd, wy, _, former, hd, vv, more, rfl, ix.on c3, iy.on c3, iz.on c3, ih.on (Chg.new (l := []) hT), ef, hfo, ew, hw, (h01.drop _).take _, by simp; omega, ev, by omega, hm, ?_⟩
      walk_at "s"
      refine ⟨sz1000 (by simp), fun p1 hp1 => ?_⟩
      refine w_catOne (ih.on (Chg.new (l := []) hT)) hp1 (by have := hs.few; omega) fun H4 v4 c4 i4 => ?_
      walk_at "s"
      have e9 : (sizF (fs.take i) (f.ways.take i) : Int) + (widF fd wy : Int) = ((sizF (fs.take (i + 1)) (f.ways.take (i + 1)) : Nat) : Int) := by
        rw [sizF_take ef ew hl2.symm]
        omega
      rw [e9]
      refine ⟨_, _, _, _, _, _, rfl, c2.trans c4, i4, by simp [hdl], ?_⟩
      rw [← ho, drop_cons ef, drop_cons ew, opn, List.drop_drop, sizF_take ef ew hl2.symm]
      have e10 : former.getD hd.length 0 = vv := by rw [hdl, List.getD_eq_getElem?_getD, ev]; rfl
      rw [e10]
    · rintro σ H1 ⟨a, b, c, d, hv, hd, rfl, c1, ih, hdl, ho⟩
      walk_at "s"
      have e1 : fs.drop xs.length = [] := by rw [hxs]; exact List.drop_length ..
      rw [e1, opn_nil] at ho
      rw [ho] at ih
      exact q H1 _ (c0.trans c1) ih
/-! ### doubts -/
theorem scfirst_unlike : FnScope ["one", "other", "place", "value"] ["one", "other"] (defScope sfirst_unlike) := ⟨rfl, rfl, rfl, by decide +kernel, rfl, by decide +kernel, by decide +kernel⟩
def sp_first_unlike (K : PySem.W.Frag) : Sp := fun vs H Q _ => ∃ (x y : V) (a b : List Int), vs = [x, y] ∧ Is K H x (headD a) ∧ Is K H y (headD b) ∧ a.length = b.length ∧ a.length ≤ 1000 ∧ ∀ H' v, Chg [] H H' → ((v = .non ∧ a = b) ∨ ∃ i : Nat, v = .int i ∧ i < a.length) → Q v H'
theorem ok_first_unlike (T : Txt K mg) (F : Top K mg "first_unlike" sfirst_unlike)  : Fk P w K mg base CX0 1 "first_unlike" ["one", "other"] (sp_first_unlike K) := by
  refine F.fk (fun _ _ _ _ _ _ us hl => match us, hl with | [_, _], _ => rfl) fun f fd F => F.ok scfirst_unlike (fun vs H Q E h => ?_) (fun cdv A outer s H vs Q E hr h => ?_)
  · obtain ⟨x, y, a, b, rfl, _⟩ := h
    rfl
  · obtain ⟨x, y, a, b, rfl, ix, iy, hl, hz, q⟩ := h
    obtain ⟨a0, xs, rfl, t0, s0⟩ := ix.tup_eq
    have hxs : xs.length = a.length := by rw [s0.length, List.length_map]
    refine ⟨_, (pss_cons (ps_for PassesOwn.never rfl (pi_enumK (K := K) (by rfl) T.b_enumerate (pa_cons (pv 0) pa_nil)) (pg_tupK (K := K) (n := 2) rfl (pgs_cons (pg_name (i := 2) scfirst_unlike.nd rfl (Or.inl rfl)) (pgs_cons (pg_name (i := 3) scfirst_unlike.nd rfl (Or.inl rfl)) pgs_nil))) (pss_one (ps_if (pt_cmpR (op_neK (K := K) hr.units) (pv 3) (pe_ixK (K := K) (pv 1) (pv 2) (fun _ _ => rfl)) (nomark _)) (pss_one (ps_ret (pv 2))) pss_nil))) (pss_one (ps_ret pe_non))), ?_⟩
    walk_at "s"
    refine ⟨_, _, rfl, t0.sq, for_it walk_enumT (fun i σ H' => ∃ c d, σ = [some (.ref a0), some y, c, d] ∧ Chg [] H H' ∧ a.take i = b.take i) ⟨none, none, rfl, Chg.refl, rfl⟩ (fun i σ H' _ h => by obtain ⟨_, _, _, c, _⟩ := h; exact (t0.mono c).sq) ?_ ?_⟩
    · rintro i v σ H1 H2 hi ⟨c, d, rfl, c1, he⟩ ⟨T', x1, x2, rfl, hT, rfl, e1, e2⟩
      cases e1
      have e2 : xs[i]? = some x2 := e2
      obtain ⟨n, en, i1⟩ := getMap s0 e2
      obtain rfl := i1.int_eq
      have eb : b[i]? = some (b[i]'(by omega)) := List.getElem?_eq_getElem _
      generalize b[i]'(by omega) = n' at eb
      have c2 : Chg [] H (upd H1 T' (.tup [.int (i : Int), .int n])) := c1.trans (Chg.new hT)
      walk_at "s"
      refine w_ixMI (iy.on c2) eb ?_
      walk_at "s"
      refine w_ifn (fun h => ?_) (fun h => ?_)
      · walk_at "s"
        refine ⟨_, _, rfl, c2, ?_⟩
        rw [take_snoc en, take_snoc eb, he, h]
      · walk_at "s"
        exact q _ _ c2 (.inr ⟨i, rfl, by omega⟩)
    · rintro σ H1 ⟨c, d, rfl, c1, he⟩
      walk_at "s"
      refine q _ _ c1 (.inl ⟨rfl, ?_⟩)
      have e1 : a.take xs.length = a := by rw [hxs]; exact List.take_length ..
      have e2 : b.take xs.length = b := by rw [hxs, hl]; exact List.take_length ..
      rw [e1, e2] at he
      exact he
def formerD (r : Nat × List Int) : PyData := .tuple [.int r.1, headD r.2]
theorem scdoubt : FnScope ["shape", "form", "head", "formers", "bits", "k", "more", "former", "told", "place"] ["shape", "form", "head", "formers"] (defScope sdoubt) := ⟨rfl, rfl, rfl, by decide +kernel, rfl, by decide +kernel, by decide +kernel⟩
def sp_doubt (K : PySem.W.Frag) : Sp := fun vs H Q _ => ∃ (x y z u : V) (fs : List Field) (m : Nat) (f : Form) (hd : List Int) (rows : List (Nat × List Int)), vs = [x, y, z, u] ∧ ShapeOk fs m ∧ FormOk fs f ∧ hd.length = fs.length ∧ (∀ r ∈ rows, r.1 ≤ 1000 ∧ r.2.length = fs.length) ∧ rows.length ≤ 1000 ∧
  Is K H x (shapeD fs m) ∧ Is K H y (formD f) ∧ Is K H z (headD hd) ∧ Is K H u (.tuple (rows.map formerD)) ∧ ∀ H' v, Chg [] H H' → (v = .non → ∀ r ∈ rows, openF fs f.ways (pcs fs f.ways hd) r.2 r.1 = hd) → Q v H'
theorem opn_length {former : List Int} {more : Nat} : ∀ (fs : List Field) (ws : List Way) (bits : List Nat) (hd : List Int), fs.length = ws.length → (opn former more fs ws bits hd).length = hd.length + fs.length
  | [], [], _, _, _ => by simp [opn]
  | _ :: fs, _ :: ws, bits, hd, h => by
    rw [opn, opn_length fs ws _ _ (by simpa using h)]
    simp
    omega
  | [], _ :: _, _, _, h => by simp at h
  | _ :: _, [], _, _, h => by simp at h
theorem ok_doubt (T : Txt K mg) (F : Top K mg "doubt" sdoubt) (F_first_unlike : Fk P w K mg base CX0 1 "first_unlike" ["one", "other"] (sp_first_unlike K)) (F_opened : Fk P w K mg base CX0 5 "opened" ["shape", "form", "bits", "former", "more"] (sp_opened K)) (F_pieces : Fk P w K mg base CX0 2 "pieces" ["shape", "form", "head"] (sp_pieces K)) : Fk P w K mg base CX0 6 "doubt" ["shape", "form", "head", "formers"] (sp_doubt K) := by
  refine F.fk (fun _ _ _ _ _ _ us hl => match us, hl with | [_, _, _, _], _ => rfl) fun f fd F => F.ok scdoubt (fun vs H Q E h => ?_) (fun cdv A outer s H vs Q E hr h => ?_)
  · obtain ⟨x, y, z, u, fs, m, f, hd, rows, rfl, _⟩ := h
    rfl
  · obtain ⟨x, y, z, u, fs, m, f, hd, rows, rfl, hs, hf, hl, hr2, hz, ix, iy, iz, iu, q⟩ := h
    obtain ⟨a0, xs, rfl, t0, s0⟩ := iu.tup_eq
    have hxs : xs.length = rows.length := by rw [s0.length, List.length_map]
    refine ⟨_, (pss_cons (ps_set (i := 4) scdoubt.nd rfl (Or.inl rfl) (pe_fn F_pieces hr rfl (pa_cons (pv 0) (pa_cons (pv 1) (pa_cons (pv 2) pa_nil))))) (pss_cons (ps_for PassesOwn.never rfl (pi_enumK (K := K) (by rfl) T.b_enumerate (pa_cons (pv 3) pa_nil)) (pg_tupK (K := K) (n := 2) rfl (pgs_cons (pg_name (i := 5) scdoubt.nd rfl (Or.inl rfl)) (pgs_cons (pg_tupK (K := K) (n := 2) rfl (pgs_cons (pg_name (i := 6) scdoubt.nd rfl (Or.inl rfl)) (pgs_cons (pg_name (i := 7) scdoubt.nd rfl (Or.inl rfl)) pgs_nil))) pgs_nil))) (pss_cons (ps_set (i := 8) scdoubt.nd rfl (Or.inl rfl) (pe_fn F_opened hr rfl (pa_cons (pv 0) (pa_cons (pv 1) (pa_cons (pv 4) (pa_cons (pv 7) (pa_cons (pv 6) pa_nil))))))) (pss_cons (ps_set (i := 9) scdoubt.nd rfl (Or.inl rfl) (pe_fn F_first_unlike hr rfl (pa_cons (pv 8) (pa_cons (pv 2) pa_nil)))) (pss_one (ps_if (pt_cmpR op_notN (pv 9) pe_non (nomark _)) (pss_one (ps_ret (pe_tup (pa_cons (pv 5) (pa_cons (pv 9) (pa_cons (pe_ixK (K := K) (pv 8) (pv 9) (fun _ _ => rfl)) pa_nil)))))) pss_nil))))) (pss_one (ps_ret pe_non)))), ?_⟩
    walk_at "s"
    refine ⟨_, _, _, fs, m, f, hd, rfl, hs, hf, hl, ix, iy, iz, fun H0 c0 => ?_⟩
    walk_at "s"
    refine ⟨_, _, rfl, (t0.mono c0).sq, for_it walk_enumT (fun i σ H' => ∃ a b c d e, σ = [some x, some y, some z, some (.ref a0), some (.str (S (pcs fs f.ways hd))), a, b, c, d, e] ∧ Chg [] H H' ∧ ∀ r ∈ rows.take i, openF fs f.ways (pcs fs f.ways hd) r.2 r.1 = hd) ⟨none, none, none, none, none, rfl, c0, by simp⟩ (fun i σ H' _ h => by obtain ⟨_, _, _, _, _, _, c, _⟩ := h; exact (t0.mono c).sq) ?_ ?_⟩
    · rintro i v σ H1 H2 hi ⟨a, b, c, d, e, rfl, c1, he⟩ ⟨T', x1, x2, rfl, hT, rfl, e1, e2⟩
      cases e1
      have e2 : xs[i]? = some x2 := e2
      obtain ⟨r, er, i1⟩ := getMap s0 e2
      have hrm := hr2 r (List.mem_of_getElem? er)
      obtain ⟨a2, xs2, rfl, t2, s2⟩ := i1.tup_eq
      have c2 : Chg [] H (upd H1 T' (.tup [.int (i : Int), .ref a2])) := c1.trans (Chg.new hT)
      obtain ⟨u1, u2, rfl, j1, j2⟩ := s2.two
      obtain rfl := j1.int_eq
      walk_at "s"
      refine w_gTup (t2.mono c2) rfl ?_
      walk_at "s"
      refine ⟨_, _, _, fs, m, f, _, r.2, r.1, rfl, hs, hf, hrm.2, pcs_01 _ _ _, by have := pcs_len_le hs hf hl; omega, hrm.1, ix.on c2, iy.on c2, iz.on c2 |> fun _ => j2.on c2, fun H3 v3 c3 i3 => ?_⟩
      walk_at "s"
      have ho : (openF fs f.ways (pcs fs f.ways hd) r.2 r.1).length = fs.length := by
        unfold openF
        rw [opn_length _ _ _ _ hf.len.symm]
        simp
      refine ⟨_, _, _, hd, rfl, i3, iz.on (c2.trans c3), by omega, by have := hs.few; omega, fun H4 v4 c4 h4 => ?_⟩
      walk_at "s"
      rcases h4 with ⟨rfl, h4⟩ | ⟨k, rfl, h4⟩
      · walk_at "s"
        refine ⟨_, _, _, _, _, rfl, (c2.trans c3).trans c4, ?_⟩
        intro r' hr'
        rw [take_snoc er, List.mem_append] at hr'
        rcases hr' with z | z
        · exact he r' z
        · have : r' = r := by simpa using z
          rw [this]
          exact h4
      · walk_at "s"
        refine w_ifn (fun h => nomatch h) (fun _ => ?_)
        walk_at "s"
        refine w_ixMI (i3.on c4) (List.getElem?_eq_getElem h4) ?_
        walk_at "s"
        refine ⟨sz1000 (by simp), fun p hp => ?_⟩
        exact q _ _ (((c2.trans c3).trans c4).trans (Chg.new hp)) (fun h => nomatch h)
    · rintro σ H1 ⟨a, b, c, d, e, rfl, c1, he⟩
      walk_at "s"
      refine q _ _ c1 fun _ => ?_
      have e1 : rows.take xs.length = rows := by rw [hxs]; exact List.take_length ..
      rw [e1] at he
      exact he
end
end Sh
namespace Sh
open PySem L2 PySem.Spec PyProof.Rows
local macro_rules | `(tactic| walk_at "s1") => `(tactic| first
  | with_reducible refine w_seq ?_
  | with_reducible refine w_asg ?_
  | with_reducible refine w_name ?_
  | with_reducible refine w_ret ?_
  | with_reducible refine w_retN ?_
  | with_reducible refine w_drop ?_
  | with_reducible refine w_next ?_
  | with_reducible refine w_ifS ?_
  | ((with_reducible refine' w_var ?h ?_); (case h => rfl))
  | with_reducible refine w_c ?_
  | with_reducible refine w_op ?_
  | with_reducible refine w_un ?_
  | with_reducible refine w_sl ?_
  | with_reducible refine w_nopart ?_
  | with_reducible refine w_part ?_
  | with_reducible refine w_exint ?_
  | with_reducible refine w_exbl ?_
  | with_reducible refine w_exbl' ?_
  | with_reducible refine w_exint' ?_
  | with_reducible refine w_nn ?_
  | with_reducible refine w_test ?_
  | with_reducible refine w_B ?_
  | with_reducible refine w_and ?_
  | with_reducible refine w_or ?_
  | with_reducible refine w_not ?_
  | with_reducible refine w_andV ?_
  | with_reducible refine w_orV ?_
  | with_reducible refine w_notV ?_
  | with_reducible refine w_ifE ?_
  | with_reducible refine w_nil ?_
  | with_reducible refine w_cons ?_
  | with_reducible refine w_tup ?_
  | with_reducible refine w_lst ?_
  | with_reducible refine w_CB ?_
  | with_reducible refine w_fn ?_
  | with_reducible refine w_T ?_
  | with_reducible refine w_F ?_
  | with_reducible refine w_I0 ?_
  | with_reducible refine w_U ?_
  | with_reducible refine w_addI ?_
  | with_reducible refine w_eqI ?_
  | with_reducible refine w_neI ?_
  | with_reducible refine w_eqS ?_
  | with_reducible refine w_neS ?_
  | with_reducible refine w_for ?_
  | with_reducible refine w_rng1 ?_
  | with_reducible refine w_rng2 ?_
  | with_reducible refine w_iStr ?_
  | with_reducible refine w_iTup ?_
  | with_reducible refine w_iList ?_
  | with_reducible refine w_iEnumT ?_
  | with_reducible refine w_iZip3 ?_
  | with_reducible refine w_iZipA ?_
  | with_reducible refine w_BM ?_
  | with_reducible refine w_gCons ?_
  | with_reducible refine w_gNil ?_
  | ((with_reducible refine' w_gTup ?h ?e ?_); (case h => exact SqT.of upd_same); (case e => rfl))
  | ((with_reducible refine' w_aug ?h ?_); (case h => rfl))
  | with_reducible refine w_ip ?_
  | with_reducible refine w_lc ?_
  | with_reducible refine w_fld ?_
  | with_reducible refine w_chain ?_
  | with_reducible refine w_mt ?_
  | with_reducible refine w_fset ?_
  | with_reducible refine w_dget ?_
  | with_reducible refine w_din ?_
  | with_reducible refine w_dput ?_
  | with_reducible refine w_dnew ?_
  | with_reducible refine w_keys ?_
  | with_reducible refine w_nT ?_
  | with_reducible refine w_nF ?_
  | with_reducible refine w_rowIndex ?_)
local macro_rules | `(tactic| walk_at "s") => `(tactic| repeat (walk_at "s1"))
section
variable {P : Program} {w : World} {K : PySem.W.Frag} {mg : Str → Option Value} {base : Heap}
theorem w_m1 {r : V → List V → Hp → VK → Prop} {to te : TE} {σ : L2.St} {H : Hp} {Q : VK} (h : to σ H fun x H1 => (∃ a, x = .str a) ∧ te σ H1 fun y H2 => r x [y] H2 Q) : tM1 r to te σ H Q := h
theorem is_atD {H : Hp} (a : At) : Is K H (atV a) (atD a) := by
  match a with
  | none => exact .non
  | some (i, _) => exact .int _
theorem Is.at_eq {H : Hp} {v : V} {a : At} (h : Is K H v (atD a)) : v = atV a := by
  match a with
  | none => exact h.non_eq
  | some (i, _) => exact h.int_eq
/-! ### letters -/
theorem scsort_width : FnScope ["pact"] ["pact"] (defScope ssort_width) := ⟨rfl, rfl, rfl, by decide +kernel, rfl, by decide +kernel, by decide +kernel⟩
def sp_sort_width (K : PySem.W.Frag) : Sp := fun vs H Q _ => ∃ (x : V) (p : Pact), vs = [x] ∧ PactOk p ∧ Is K H x (pactD p) ∧ Q (.int (sortW p)) H
theorem ok_sort_width (T : Txt K mg) (F : Top K mg "sort_width" ssort_width) (F_width_for : Fk P w K mg base CX0 1 "width_for" ["many"] (sp_width_for K)) : Fk P w K mg base CX0 2 "sort_width" ["pact"] (sp_sort_width K) := by
  refine F.fk (fun _ _ _ _ _ _ us hl => match us, hl with | [_], _ => rfl) fun f fd F => F.ok scsort_width (fun vs H Q E h => ?_) (fun cdv A outer s H vs Q E hr h => ?_)
  · obtain ⟨x, p, rfl, _⟩ := h
    rfl
  · obtain ⟨x, p, rfl, hp, ix, q⟩ := h
    refine ⟨_, (pss_one (ps_ret (pe_fn F_width_for hr rfl (pa_cons (pe_op (op_addK (K := K)) pe_int (pe_callB (call_lenK (K := K)) (by rfl) T.b_len PySem.boot_len (pa_cons (pe_ixK (K := K) (pv 0) pe_int (fun _ _ => rfl)) pa_nil))) pa_nil)))), ?_⟩
    walk_at "s"
    refine w_ixD ix rfl fun v iv => ?_
    walk_at "s"
    refine w_lenD iv ?_
    walk_at "s"
    refine ⟨1 + p.forms.length, ?_, ?_, ?_⟩
    · rw [List.length_map]
      congr 2
    · have := hp.few
      exact Nat.le_trans (show 1 + p.forms.length ≤ 2 ^ 4 by omega) (Nat.pow_le_pow_right (by decide) (by decide))
    · exact q
theorem sccheck_width : FnScope ["pact"] ["pact"] (defScope scheck_width) := ⟨rfl, rfl, rfl, by decide +kernel, rfl, by decide +kernel, by decide +kernel⟩
def sp_check_width (K : PySem.W.Frag) : Sp := fun vs H Q _ => ∃ (x : V) (p : Pact), vs = [x] ∧ PactOk p ∧ Is K H x (pactD p) ∧ Q (.int (checkW p)) H
theorem ok_check_width (T : Txt K mg) (F : Top K mg "check_width" scheck_width) (F_width_for : Fk P w K mg base CX0 1 "width_for" ["many"] (sp_width_for K)) : Fk P w K mg base CX0 2 "check_width" ["pact"] (sp_check_width K) := by
  refine F.fk (fun _ _ _ _ _ _ us hl => match us, hl with | [_], _ => rfl) fun f fd F => F.ok sccheck_width (fun vs H Q E h => ?_) (fun cdv A outer s H vs Q E hr h => ?_)
  · obtain ⟨x, p, rfl, _⟩ := h
    rfl
  · obtain ⟨x, p, rfl, hp, ix, q⟩ := h
    refine ⟨_, (pss_one (ps_ret (pe_fn F_width_for hr rfl (pa_cons (pe_ixK (K := K) (pe_ixK (K := K) (pv 0) pe_int (fun _ _ => rfl)) pe_int (fun _ _ => rfl)) pa_nil)))), ?_⟩
    walk_at "s"
    refine w_ixD ix rfl fun v iv => ?_
    walk_at "s"
    refine w_ixDI iv rfl ?_
    walk_at "s"
    exact ⟨p.m, rfl, Nat.le_trans (show p.m ≤ 2 ^ 20 by have := hp.shape.m2; omega) (Nat.pow_le_pow_right (by decide) (by decide)), q⟩
theorem scnumber_width : FnScope ["pact", "at"] ["pact", "at"] (defScope snumber_width) := ⟨rfl, rfl, rfl, by decide +kernel, rfl, by decide +kernel, by decide +kernel⟩
def sp_number_width (K : PySem.W.Frag) : Sp := fun vs H Q _ => ∃ (x : V) (p : Pact) (a : At), vs = [x, atV a] ∧ AtOk p a ∧ Is K H x (pactD p) ∧ Q (.int (numW p a)) H
theorem ok_number_width (T : Txt K mg) (F : Top K mg "number_width" snumber_width)  : Fk P w K mg base CX0 1 "number_width" ["pact", "at"] (sp_number_width K) := by
  refine F.fk (fun _ _ _ _ _ _ us hl => match us, hl with | [_, _], _ => rfl) fun f fd F => F.ok scnumber_width (fun vs H Q E h => ?_) (fun cdv A outer s H vs Q E hr h => ?_)
  · obtain ⟨x, p, a, rfl, _⟩ := h
    rfl
  · obtain ⟨x, p, a, rfl, ha, ix, q⟩ := h
    refine ⟨_, (pss_cons (ps_if (pt_cmpR op_isN (pv 1) pe_non (nomark _)) (pss_one (ps_ret (pe_ixK (K := K) (pv 0) pe_int (fun _ _ => rfl)))) pss_nil) (pss_one (ps_ret (pe_ixK (K := K) (pe_ixK (K := K) (pe_ixK (K := K) (pv 0) pe_int (fun _ _ => rfl)) (pv 1) (fun _ _ => rfl)) pe_int (fun _ _ => rfl))))), ?_⟩
    match a, ha, q with
    | none, ha, q =>
      walk_at "s"
      refine w_ifT rfl ?_
      walk_at "s"
      exact w_ixDI ix rfl q
    | some (i, f), ha, q =>
      walk_at "s"
      refine w_ifF (by intro h; cases h) ?_
      walk_at "s"
      refine w_ixD ix rfl fun v iv => ?_
      walk_at "s"
      refine w_ixM iv (ha i f rfl) fun u iu => ?_
      walk_at "s"
      exact w_ixDI iu rfl q
theorem scpieces_size : FnScope ["pact", "at", "field"] ["pact", "at"] (defScope spieces_size) := ⟨rfl, rfl, rfl, by decide +kernel, rfl, by decide +kernel, by decide +kernel⟩
def sp_pieces_size (K : PySem.W.Frag) : Sp := fun vs H Q _ => ∃ (x : V) (p : Pact) (a : At), vs = [x, atV a] ∧ PactOk p ∧ AtOk p a ∧ Is K H x (pactD p) ∧ ∀ H', Chg [] H H' → Q (.int (pcsW p a)) H'
theorem ok_pieces_size (T : Txt K mg) (F : Top K mg "pieces_size" spieces_size) (F_size_of : Fk P w K mg base CX0 2 "size_of" ["shape", "form"] (sp_size_of K)) : Fk P w K mg base CX0 3 "pieces_size" ["pact", "at"] (sp_pieces_size K) := by
  refine F.fk (fun _ _ _ _ _ _ us hl => match us, hl with | [_, _], _ => rfl) fun f fd F => F.ok scpieces_size (fun vs H Q E h => ?_) (fun cdv A outer s H vs Q E hr h => ?_)
  · obtain ⟨x, p, a, rfl, _⟩ := h
    rfl
  · obtain ⟨x, p, a, rfl, hp, ha, ix, q⟩ := h
    refine ⟨_, (pss_cons (ps_if (pt_cmpR op_isN (pv 1) pe_non (nomark _)) (pss_one (ps_ret (pe_callB (cr_sumK (K := K) rfl) (by rfl) T.b_sum (by decide +kernel) (pa_cons (pe_lc (own := [("field", 2)]) rfl scpieces_size.nd (pi_tupK (K := K) (pe_ixK (K := K) (pe_ixK (K := K) (pv 0) pe_int (fun _ _ => rfl)) pe_int (fun _ _ => rfl))) (blkOk_by (own := [("field", 2)]) (N := ["pact", "at", "field"]) (sc := defScope spieces_size) (by decide +kernel)) (fun _ _ _ _ _ => (pg_name (i := 2) scpieces_size.nd rfl (Or.inl rfl))) (fun _ _ _ _ _ => pts_nil) (fun _ _ _ _ _ => (pe_ixK (K := K) (pv 2) pe_int (fun _ _ => rfl)))) pa_nil)))) pss_nil) (pss_one (ps_ret (pe_fn F_size_of hr rfl (pa_cons (pe_ixK (K := K) (pv 0) pe_int (fun _ _ => rfl)) (pa_cons (pe_ixK (K := K) (pe_ixK (K := K) (pv 0) pe_int (fun _ _ => rfl)) (pv 1) (fun _ _ => rfl)) pa_nil)))))), ?_⟩
    match a, ha, q with
    | none, ha, q =>
      walk_at "s"
      refine w_ifT rfl ?_
      walk_at "s"
      refine w_ixD ix rfl fun v iv => ?_
      walk_at "s"
      refine w_ixD iv rfl fun u iu => ?_
      obtain ⟨a0, xs, rfl, t0, s0⟩ := iu.tup_eq
      have hxs : xs.length = p.fs.length := by rw [s0.length, List.length_map]
      refine ⟨_, rfl, ⟨_, t0.sq⟩, fun D hD => ?_⟩
      refine lc_map (walk_tup (xs := xs)) hD (fun i => .int ((p.fs.map Field.br).getD i 0 : Nat)) (by have := hp.shape.few; omega) (fun H1 c1 => (t0.mono c1).sq) (fun i x H1 H2 Q' hi c1 hY hQ => ?_) fun H1 c1 hL => ?_
      · obtain ⟨rfl, e1⟩ := hY
        obtain ⟨fd, ef, i1⟩ := getMap s0 e1
        walk_at "s"
        refine ⟨rfl, ?_⟩
        walk_at "s"
        refine w_ixDI (i1.on c1) rfl ?_
        have e : (p.fs.map Field.br).getD i 0 = fd.br := by
          rw [List.getD_eq_getElem?_getD, List.getElem?_map, ef]
          rfl
        rw [← e]
        exact hQ _ Chg.refl
      · walk_at "s"
        have e : (List.range xs.length).map (fun i => V.int ((p.fs.map Field.br).getD i 0 : Nat)) = (p.fs.map fun f => ((f.br : Nat) : Int)).map V.int := by
          have e4 : (p.fs.map Field.br).length = xs.length := by rw [List.length_map, hxs]
          rw [← e4, range_getD 0 (fun (n : Nat) => V.int (n : Int)), List.map_map, List.map_map]
          rfl
        rw [e] at hL
        refine ⟨D, _, rfl, SqL.of hL, ?_⟩
        rw [wsiz_sum]
        exact q H1 c1
    | some (i, f), ha, q =>
      walk_at "s"
      refine w_ifF (by intro h; cases h) ?_
      walk_at "s"
      refine w_ixD ix rfl fun v iv => ?_
      walk_at "s"
      refine w_ixD ix rfl fun v2 iv2 => ?_
      walk_at "s"
      refine w_ixM iv2 (ha i f rfl) fun u iu => ?_
      walk_at "s"
      exact ⟨_, _, p.fs, p.m, f, rfl, hp.shape, hp.forms i f (ha i f rfl), iv, iu, q⟩
theorem scletter_size : FnScope ["pact", "at"] ["pact", "at"] (defScope sletter_size) := ⟨rfl, rfl, rfl, by decide +kernel, rfl, by decide +kernel, by decide +kernel⟩
def sp_letter_size (K : PySem.W.Frag) : Sp := fun vs H Q _ => ∃ (x : V) (p : Pact) (a : At), vs = [x, atV a] ∧ PactOk p ∧ AtOk p a ∧ Is K H x (pactD p) ∧ ∀ H', Chg [] H H' → Q (.int (sizeL p a)) H'
theorem ok_letter_size (T : Txt K mg) (F : Top K mg "letter_size" sletter_size) (F_sort_width : Fk P w K mg base CX0 2 "sort_width" ["pact"] (sp_sort_width K)) (F_number_width : Fk P w K mg base CX0 1 "number_width" ["pact", "at"] (sp_number_width K)) (F_pieces_size : Fk P w K mg base CX0 3 "pieces_size" ["pact", "at"] (sp_pieces_size K)) (F_check_width : Fk P w K mg base CX0 2 "check_width" ["pact"] (sp_check_width K)) : Fk P w K mg base CX0 4 "letter_size" ["pact", "at"] (sp_letter_size K) := by
  refine F.fk (fun _ _ _ _ _ _ us hl => match us, hl with | [_, _], _ => rfl) fun f fd F => F.ok scletter_size (fun vs H Q E h => ?_) (fun cdv A outer s H vs Q E hr h => ?_)
  · obtain ⟨x, p, a, rfl, _⟩ := h
    rfl
  · obtain ⟨x, p, a, rfl, hp, ha, ix, q⟩ := h
    refine ⟨_, (pss_one (ps_ret (pe_op (op_addK (K := K)) (pe_op (op_addK (K := K)) (pe_op (op_addK (K := K)) (pe_fn F_sort_width hr rfl (pa_cons (pv 0) pa_nil)) (pe_fn F_number_width hr rfl (pa_cons (pv 0) (pa_cons (pv 1) pa_nil)))) (pe_fn F_pieces_size hr rfl (pa_cons (pv 0) (pa_cons (pv 1) pa_nil)))) (pe_fn F_check_width hr rfl (pa_cons (pv 0) pa_nil))))), ?_⟩
    walk_at "s"
    refine ⟨_, p, rfl, hp, ix, ?_⟩
    walk_at "s"
    refine ⟨_, p, a, rfl, ha, ix, ?_⟩
    walk_at "s"
    refine ⟨_, p, a, rfl, hp, ha, ix, fun H1 c1 => ?_⟩
    walk_at "s"
    refine ⟨_, p, rfl, hp, ix.on c1, ?_⟩
    walk_at "s"
    exact q H1 c1
theorem scbits_ahead : FnScope ["pact", "at", "written", "sort"] ["pact", "at", "written"] (defScope sbits_ahead) := ⟨rfl, rfl, rfl, by decide +kernel, rfl, by decide +kernel, by decide +kernel⟩
def sp_bits_ahead (K : PySem.W.Frag) : Sp := fun vs H Q _ => ∃ (x : V) (p : Pact) (a : At) (n : Int), vs = [x, atV a, .int n] ∧ PactOk p ∧ AtOk p a ∧ Is K H x (pactD p) ∧ ∀ H', Chg [] H H' → Q (.str (S (bitsL (sortN a : Nat) (sortW p) ++ bitsL n (numW p a)))) H'
theorem ok_bits_ahead (T : Txt K mg) (F : Top K mg "bits_ahead" sbits_ahead) (F_bits_of : Fk P w K mg base CX0 1 "bits_of" ["number", "width"] (sp_bits_of K)) (F_sort_width : Fk P w K mg base CX0 2 "sort_width" ["pact"] (sp_sort_width K)) (F_number_width : Fk P w K mg base CX0 1 "number_width" ["pact", "at"] (sp_number_width K)) : Fk P w K mg base CX0 3 "bits_ahead" ["pact", "at", "written"] (sp_bits_ahead K) := by
  refine F.fk (fun _ _ _ _ _ _ us hl => match us, hl with | [_, _, _], _ => rfl) fun f fd F => F.ok scbits_ahead (fun vs H Q E h => ?_) (fun cdv A outer s H vs Q E hr h => ?_)
  · obtain ⟨x, p, a, n, rfl, _⟩ := h
    rfl
  · obtain ⟨x, p, a, n, rfl, hp, ha, ix, q⟩ := h
    have h1 := sortW_le hp
    have h2 := numW_le hp ha
    have key : ∀ σ : L2.St, σ[0]? = some (some x) → σ[1]? = some (some (atV a)) → σ[2]? = some (some (.int n)) → σ[3]? = some (some (.int (sortN a : Nat))) →
        tOp (rAddA K) (tFn (sp_bits_of K) E0 (tCons (tVar 3) (tCons (tFn (sp_sort_width K) E0 (tCons (tVar 0) tNil)) tNil))) (tFn (sp_bits_of K) E0 (tCons (tVar 2) (tCons (tFn (sp_number_width K) E0 (tCons (tVar 0) (tCons (tVar 1) tNil))) tNil))) σ H Q := by
      intro σ s0 s1 s2 s3
      walk_at "s"
      refine w_var s3 ?_
      walk_at "s"
      refine w_var s0 ?_
      walk_at "s"
      refine ⟨_, p, rfl, hp, ix, ?_⟩
      walk_at "s"
      refine ⟨_, _, rfl, by omega, fun H1 c1 => ?_⟩
      refine w_fn ?_
      walk_at "s"
      refine w_var s2 ?_
      walk_at "s"
      refine w_var s0 ?_
      walk_at "s"
      refine w_var s1 ?_
      walk_at "s"
      refine ⟨_, p, a, rfl, ha, ix.on c1, ?_⟩
      walk_at "s"
      refine ⟨_, _, rfl, by omega, fun H2 c2 => ?_⟩
      refine w_addS (by rw [S_len, S_len, bitsL_length, bitsL_length]; exact sz1000 (by omega)) ?_
      rw [S_app]
      exact q H2 (c1.trans c2)
    refine ⟨_, (pss_cons (ps_set (i := 3) scbits_ahead.nd rfl (Or.inl rfl) (pe_ifExp (pt_cmpR op_isN (pv 1) pe_non (nomark _)) pe_int (pe_op (op_addK (K := K)) pe_int (pv 1)))) (pss_one (ps_ret (pe_op (op_addK (K := K)) (pe_fn F_bits_of hr rfl (pa_cons (pv 3) (pa_cons (pe_fn F_sort_width hr rfl (pa_cons (pv 0) pa_nil)) pa_nil))) (pe_fn F_bits_of hr rfl (pa_cons (pv 2) (pa_cons (pe_fn F_number_width hr rfl (pa_cons (pv 0) (pa_cons (pv 1) pa_nil))) pa_nil))))))), ?_⟩
    match a, key with
    | none, key =>
      walk_at "s"
      refine w_ifT rfl ?_
      walk_at "s1"
      walk_at "s1"
      walk_at "s1"
      exact key _ rfl rfl rfl rfl
    | some (i, f), key =>
      walk_at "s"
      refine w_ifF (by intro h; cases h) ?_
      refine w_op ?_
      walk_at "s1"
      walk_at "s1"
      refine w_addI (i := 1) (j := i) ?_
      walk_at "s1"
      walk_at "s1"
      exact key _ rfl rfl rfl rfl
theorem sccheck_bits : FnScope ["pact", "number", "head"] ["pact", "number", "head"] (defScope scheck_bits) := ⟨rfl, rfl, rfl, by decide +kernel, rfl, by decide +kernel, by decide +kernel⟩
def sp_check_bits (K : PySem.W.Frag) : Sp := fun vs H Q _ => ∃ (x y : V) (p : Pact) (n : Int) (hd : List Int), vs = [x, .int n, y] ∧ PactOk p ∧ hd.length ≤ 12 ∧ Is K H x (pactD p) ∧ Is K H y (headD hd) ∧ ∀ H', Chg [] H H' → Q (.str (S (bitsL (checkF p.m n hd) (checkW p)))) H'
theorem ok_check_bits (T : Txt K mg) (F : Top K mg "check_bits" scheck_bits) (F_bits_of : Fk P w K mg base CX0 1 "bits_of" ["number", "width"] (sp_bits_of K)) (F_check_width : Fk P w K mg base CX0 2 "check_width" ["pact"] (sp_check_width K)) (F_check_of : Fk P w K mg base CX0 1 "check_of" ["shape", "number", "head"] (sp_check_of K)) : Fk P w K mg base CX0 3 "check_bits" ["pact", "number", "head"] (sp_check_bits K) := by
  refine F.fk (fun _ _ _ _ _ _ us hl => match us, hl with | [_, _, _], _ => rfl) fun f fd F => F.ok sccheck_bits (fun vs H Q E h => ?_) (fun cdv A outer s H vs Q E hr h => ?_)
  · obtain ⟨x, y, p, n, hd, rfl, _⟩ := h
    rfl
  · obtain ⟨x, y, p, n, hd, rfl, hp, hl, ix, iy, q⟩ := h
    refine ⟨_, (pss_one (ps_ret (pe_fn F_bits_of hr rfl (pa_cons (pe_fn F_check_of hr rfl (pa_cons (pe_ixK (K := K) (pv 0) pe_int (fun _ _ => rfl)) (pa_cons (pv 1) (pa_cons (pv 2) pa_nil)))) (pa_cons (pe_fn F_check_width hr rfl (pa_cons (pv 0) pa_nil)) pa_nil))))), ?_⟩
    walk_at "s"
    refine w_ixD ix rfl fun v iv => ?_
    walk_at "s"
    refine ⟨_, _, p.fs, p.m, n, hd, rfl, iv, iy, hp.shape.m1, hl, fun H1 c1 => ?_⟩
    walk_at "s"
    refine ⟨_, p, rfl, hp, ix.on c1, ?_⟩
    walk_at "s"
    exact ⟨_, _, rfl, by have := checkW_le hp; omega, fun H2 c2 => q H2 (c1.trans c2)⟩
theorem scwhole_pieces : FnScope ["shape", "head", "field", "value"] ["shape", "head"] (defScope swhole_pieces) := ⟨rfl, rfl, rfl, by decide +kernel, rfl, by decide +kernel, by decide +kernel⟩
def sp_whole_pieces (K : PySem.W.Frag) : Sp := fun vs H Q _ => ∃ (x y : V) (fs : List Field) (m : Nat) (hd : List Int), vs = [x, y] ∧ ShapeOk fs m ∧ hd.length = fs.length ∧ Is K H x (shapeD fs m) ∧ Is K H y (headD hd) ∧ ∀ H', Chg [] H H' → Q (.str (S (wpcs fs hd))) H'
theorem ok_whole_pieces (T : Txt K mg) (F : Top K mg "whole_pieces" swhole_pieces) (F_bits_of : Fk P w K mg base CX0 1 "bits_of" ["number", "width"] (sp_bits_of K)) : Fk P w K mg base CX0 2 "whole_pieces" ["shape", "head"] (sp_whole_pieces K) := by
  refine F.fk (fun _ _ _ _ _ _ us hl => match us, hl with | [_, _], _ => rfl) fun f fd F => F.ok scwhole_pieces (fun vs H Q E h => ?_) (fun cdv A outer s H vs Q E hr h => ?_)
  · obtain ⟨x, y, fs, m, hd, rfl, _⟩ := h
    rfl
  · obtain ⟨x, y, fs, m, hd, rfl, hs, hl, ix, iy, q⟩ := h
    obtain ⟨a1, ys, rfl, t1, s1⟩ := iy.tup_eq
    refine ⟨_, (pss_one (ps_ret (pe_join pe_str (pe_lc (own := [("field", 2), ("value", 3)]) rfl scwhole_pieces.nd (pi_zipK (K := K) (by rfl) T.b_zip (pa_cons (pe_ixK (K := K) (pv 0) pe_int (fun _ _ => rfl)) (pa_cons (pv 1) pa_nil))) (blkOk_by (own := [("field", 2), ("value", 3)]) (N := ["shape", "head", "field", "value"]) (sc := defScope swhole_pieces) (by decide +kernel)) (fun _ _ _ _ _ => (pg_tupK (K := K) (n := 2) rfl (pgs_cons (pg_name (i := 2) scwhole_pieces.nd rfl (Or.inl rfl)) (pgs_cons (pg_name (i := 3) scwhole_pieces.nd rfl (Or.inl rfl)) pgs_nil)))) (fun _ _ _ _ _ => pts_nil) (fun _ _ _ _ _ => (pe_fn F_bits_of hr rfl (pa_cons (pv 3) (pa_cons (pe_ixK (K := K) (pv 2) pe_int (fun _ _ => rfl)) pa_nil)))))))), ?_⟩
    refine w_ret ?_
    refine w_m1 ?_
    walk_at "s"
    refine ⟨⟨_, rfl⟩, ?_⟩
    walk_at "s"
    refine w_ixD ix rfl fun v0 i0 => ?_
    obtain ⟨a0, xs, rfl, t0, s0⟩ := i0.tup_eq
    have hxs : xs.length = fs.length := by rw [s0.length, List.length_map]
    have hys : ys.length = fs.length := by rw [s1.length, List.length_map, hl]
    walk_at "s"
    refine ⟨_, _, _, _, rfl, .inr ⟨t0, t1, fun D hD => ?_⟩⟩
    have h4 : (List.zipWith (fun f v => bitsL v f.br) fs hd).length = xs.length := by
      rw [List.length_zipWith, hl, hxs]
      exact Nat.min_self _
    refine lc_map (walk_zipT (by omega)) hD (fun i => .str (S ((List.zipWith (fun (f : Field) v => bitsL v f.br) fs hd).getD i []))) (by have := hs.few; omega) (fun H1 c1 => ⟨(t0.mono c1).sq, (t1.mono c1).sq⟩) (fun i x H1 H2 Q' hi c1 hY hQ => ?_) fun H1 c1 hL => ?_
    · obtain ⟨T', x1, x2, rfl, hT, rfl, e1, e2⟩ := hY
      obtain ⟨fd, ef, i1⟩ := getMap s0 e1
      obtain ⟨v, ev, i2⟩ := getMap s1 e2
      have c2 : Chg [] H (upd H1 T' (.tup [x1, x2])) := c1.trans (Chg.new hT)
      obtain rfl := i2.int_eq
      walk_at "s"
      refine ⟨rfl, ?_⟩
      walk_at "s"
      refine w_ixDI (i1.on c2) rfl ?_
      walk_at "s"
      have hb := (hs.ok i fd ef).2.1
      refine ⟨v, fd.br, rfl, by omega, fun H3 c3 => ?_⟩
      have e : (List.zipWith (fun (f : Field) v => bitsL v f.br) fs hd).getD i [] = bitsL v fd.br := by
        rw [List.getD_eq_getElem?_getD, List.getElem?_zipWith, ef, ev]
        rfl
      rw [← e]
      exact hQ _ ((Chg.new hT).trans c3)
    · have e : (List.range xs.length).map (fun i => V.str (S ((List.zipWith (fun (f : Field) v => bitsL v f.br) fs hd).getD i []))) = ((List.zipWith (fun f v => bitsL v f.br) fs hd).map S).map V.str := by
        rw [← h4, range_getD [] (fun l => V.str (S l)), List.map_map]
        rfl
      rw [e] at hL
      refine ⟨_, D, _, rfl, rfl, .inl (SqL.of hL), ?_, ?_⟩
      · have e0 : ("" : Str).length = 0 := by decide +kernel
        rw [sum_parts, e0, ← wpcs_flat, wpcs_length _ _ hl.symm]
        have := wsiz_le hs
        omega
      · show Q (.str (Txt.join (S []) _)) H1
        rw [join_parts, ← wpcs_flat]
        exact q H1 c1
theorem scwhole_letter : FnScope ["pact", "number", "head"] ["pact", "number", "head"] (defScope swhole_letter) := ⟨rfl, rfl, rfl, by decide +kernel, rfl, by decide +kernel, by decide +kernel⟩
def sp_whole_letter (K : PySem.W.Frag) : Sp := fun vs H Q _ => ∃ (x y : V) (p : Pact) (n : Int) (hd : List Int), vs = [x, .int n, y] ∧ PactOk p ∧ hd.length = p.fs.length ∧ Is K H x (pactD p) ∧ Is K H y (headD hd) ∧ ∀ H', Chg [] H H' → Q (.str (S (letterL p none n (wpcs p.fs hd) (checkF p.m n hd)))) H'
theorem ok_whole_letter (T : Txt K mg) (F : Top K mg "whole_letter" swhole_letter) (F_bits_ahead : Fk P w K mg base CX0 3 "bits_ahead" ["pact", "at", "written"] (sp_bits_ahead K)) (F_whole_pieces : Fk P w K mg base CX0 2 "whole_pieces" ["shape", "head"] (sp_whole_pieces K)) (F_check_bits : Fk P w K mg base CX0 3 "check_bits" ["pact", "number", "head"] (sp_check_bits K)) : Fk P w K mg base CX0 4 "whole_letter" ["pact", "number", "head"] (sp_whole_letter K) := by
  refine F.fk (fun _ _ _ _ _ _ us hl => match us, hl with | [_, _, _], _ => rfl) fun f fd F => F.ok scwhole_letter (fun vs H Q E h => ?_) (fun cdv A outer s H vs Q E hr h => ?_)
  · obtain ⟨x, y, p, n, hd, rfl, _⟩ := h
    rfl
  · obtain ⟨x, y, p, n, hd, rfl, hp, hl, ix, iy, q⟩ := h
    have h1 := sortW_le hp
    have h2 := numW_le (at_ := none) hp (fun _ _ h => nomatch h)
    have h3 := wsiz_le hp.shape
    have h4 := checkW_le hp
    have h5 := hp.shape.few
    refine ⟨_, (pss_one (ps_ret (pe_op (op_addK (K := K)) (pe_op (op_addK (K := K)) (pe_fn F_bits_ahead hr rfl (pa_cons (pv 0) (pa_cons pe_non (pa_cons (pv 1) pa_nil)))) (pe_fn F_whole_pieces hr rfl (pa_cons (pe_ixK (K := K) (pv 0) pe_int (fun _ _ => rfl)) (pa_cons (pv 2) pa_nil)))) (pe_fn F_check_bits hr rfl (pa_cons (pv 0) (pa_cons (pv 1) (pa_cons (pv 2) pa_nil))))))), ?_⟩
    walk_at "s"
    refine ⟨_, p, none, n, rfl, hp, (fun _ _ h => nomatch h), ix, fun H1 c1 => ?_⟩
    walk_at "s"
    refine w_ixD (ix.on c1) rfl fun v iv => ?_
    walk_at "s"
    refine ⟨_, _, p.fs, p.m, hd, rfl, hp.shape, hl, iv, iy.on c1, fun H2 c2 => ?_⟩
    refine w_addS (by simp only [S_len, List.length_append, bitsL_length, wpcs_length _ _ hl.symm]; exact sz1000 (by omega)) ?_
    walk_at "s"
    have c3 := c1.trans c2
    refine ⟨_, _, p, n, hd, rfl, hp, by omega, ix.on c3, iy.on c3, fun H3 c4 => ?_⟩
    rw [S_app]
    refine w_addS (by simp only [S_len, List.length_append, bitsL_length, wpcs_length _ _ hl.symm]; exact sz1000 (by omega)) ?_
    rw [S_app]
    have e := q H3 (c3.trans c4)
    unfold letterL at e
    simp only [List.append_assoc]
    exact e
theorem scpressed_letter : FnScope ["pact", "at", "number", "head", "form", "told"] ["pact", "at", "number", "head"] (defScope spressed_letter) := ⟨rfl, rfl, rfl, by decide +kernel, rfl, by decide +kernel, by decide +kernel⟩
def sp_pressed_letter (K : PySem.W.Frag) : Sp := fun vs H Q _ => ∃ (x y : V) (p : Pact) (i : Nat) (f : Form) (n : Int) (hd : List Int), vs = [x, .int i, .int n, y] ∧ PactOk p ∧ p.forms[i]? = some f ∧ hd.length = p.fs.length ∧ Is K H x (pactD p) ∧ Is K H y (headD hd) ∧ ∀ H', Chg [] H H' → Q (.str (S (letterL p (some (i, f)) (n % 2 ^ f.count) (pcs p.fs f.ways hd) (checkF p.m n hd)))) H'
theorem ok_pressed_letter (T : Txt K mg) (F : Top K mg "pressed_letter" spressed_letter) (F_check_bits : Fk P w K mg base CX0 3 "check_bits" ["pact", "number", "head"] (sp_check_bits K)) (F_bits_ahead : Fk P w K mg base CX0 3 "bits_ahead" ["pact", "at", "written"] (sp_bits_ahead K)) (F_rest_of : Fk P w K mg base CX0 1 "rest_of" ["number", "width"] (sp_rest_of K)) (F_pieces : Fk P w K mg base CX0 2 "pieces" ["shape", "form", "head"] (sp_pieces K)) : Fk P w K mg base CX0 4 "pressed_letter" ["pact", "at", "number", "head"] (sp_pressed_letter K) := by
  refine F.fk (fun _ _ _ _ _ _ us hl => match us, hl with | [_, _, _, _], _ => rfl) fun f fd F => F.ok scpressed_letter (fun vs H Q E h => ?_) (fun cdv A outer s H vs Q E hr h => ?_)
  · obtain ⟨x, y, p, i, f, n, hd, rfl, _⟩ := h
    rfl
  · obtain ⟨x, y, p, i, f, n, hd, rfl, hp, ef, hl, ix, iy, q⟩ := h
    have ha : AtOk p (some (i, f)) := fun j g h => by cases h; exact ef
    have h1 := sortW_le hp
    have h2 := numW_le hp ha
    have hf := hp.forms i f ef
    have h3 := pcs_len_le hp.shape hf hl
    have h4 := checkW_le hp
    have h5 := hp.shape.few
    refine ⟨_, (pss_cons (ps_set (i := 4) scpressed_letter.nd rfl (Or.inl rfl) (pe_ixK (K := K) (pe_ixK (K := K) (pv 0) pe_int (fun _ _ => rfl)) (pv 1) (fun _ _ => rfl))) (pss_cons (ps_set (i := 5) scpressed_letter.nd rfl (Or.inl rfl) (pe_op (op_addK (K := K)) (pe_fn F_bits_ahead hr rfl (pa_cons (pv 0) (pa_cons (pv 1) (pa_cons (pe_fn F_rest_of hr rfl (pa_cons (pv 2) (pa_cons (pe_ixK (K := K) (pv 4) pe_int (fun _ _ => rfl)) pa_nil))) pa_nil)))) (pe_fn F_pieces hr rfl (pa_cons (pe_ixK (K := K) (pv 0) pe_int (fun _ _ => rfl)) (pa_cons (pv 4) (pa_cons (pv 3) pa_nil)))))) (pss_one (ps_ret (pe_op (op_addK (K := K)) (pv 5) (pe_fn F_check_bits hr rfl (pa_cons (pv 0) (pa_cons (pv 2) (pa_cons (pv 3) pa_nil))))))))), ?_⟩
    walk_at "s"
    refine w_ixD ix rfl fun v iv => ?_
    walk_at "s"
    refine w_ixM iv ef fun u iu => ?_
    walk_at "s"
    refine w_ixDI iu rfl ?_
    walk_at "s"
    refine ⟨n, f.count, rfl, by have := hf.c2; omega, ?_⟩
    walk_at "s"
    refine ⟨_, p, some (i, f), _, rfl, hp, ha, ix, fun H1 c1 => ?_⟩
    walk_at "s"
    refine w_ixD (ix.on c1) rfl fun v2 iv2 => ?_
    walk_at "s"
    refine ⟨_, _, _, p.fs, p.m, f, hd, rfl, hp.shape, hf, hl, iv2, iu.on c1, iy.on c1, fun H2 c2 => ?_⟩
    refine w_addS (by simp only [S_len, List.length_append, bitsL_length]; exact sz1000 (by omega)) ?_
    walk_at "s"
    have c3 := c1.trans c2
    refine ⟨_, _, p, n, hd, rfl, hp, by omega, ix.on c3, iy.on c3, fun H3 c4 => ?_⟩
    rw [S_app]
    refine w_addS (by simp only [S_len, List.length_append, bitsL_length]; exact sz1000 (by omega)) ?_
    rw [S_app]
    have e := q H3 (c3.trans c4)
    unfold letterL at e
    simp only [List.append_assoc]
    exact e
theorem scsort_of : FnScope ["pact", "letter", "many", "sort"] ["pact", "letter"] (defScope ssort_of) := ⟨rfl, rfl, rfl, by decide +kernel, rfl, by decide +kernel, by decide +kernel⟩
def sp_sort_of (K : PySem.W.Frag) : Sp := fun vs H Q _ => ∃ (x : V) (p : Pact) (a : At) (n c : Int) (told : List Nat), vs = [x, .str (S (letterL p a n told c))] ∧ PactOk p ∧ AtOk p a ∧ told.length = pcsW p a ∧ Is K H x (pactD p) ∧ Q (atV a) H
theorem ok_sort_of (T : Txt K mg) (F : Top K mg "sort_of" ssort_of) (F_number_of : Fk P w K mg base CX0 1 "number_of" ["bits"] (sp_number_of K)) (F_sort_width : Fk P w K mg base CX0 2 "sort_width" ["pact"] (sp_sort_width K)) : Fk P w K mg base CX0 3 "sort_of" ["pact", "letter"] (sp_sort_of K) := by
  refine F.fk (fun _ _ _ _ _ _ us hl => match us, hl with | [_, _], _ => rfl) fun f fd F => F.ok scsort_of (fun vs H Q E h => ?_) (fun cdv A outer s H vs Q E hr h => ?_)
  · obtain ⟨x, p, a, n, c, told, rfl, _⟩ := h
    rfl
  · obtain ⟨x, p, a, n, c, told, rfl, hp, ha, hz, ix, q⟩ := h
    have hL := letterL_length (n := n) (c := c) hz
    have hL2 := sizeL_le hp ha
    refine ⟨_, (pss_cons (ps_set (i := 2) scsort_of.nd rfl (Or.inl rfl) (pe_fn F_sort_width hr rfl (pa_cons (pv 0) pa_nil))) (pss_cons (ps_if (pt_cmpR op_lt (pe_callB (call_lenK (K := K)) (by rfl) T.b_len PySem.boot_len (pa_cons (pv 1) pa_nil)) (pv 2) (nomark _)) (pss_one ps_never) pss_nil) (pss_cons (ps_set (i := 3) scsort_of.nd rfl (Or.inl rfl) (pe_fn F_number_of hr rfl (pa_cons (pe_slK (K := K) (pv 1) po_none (po_some (pv 2))) pa_nil))) (pss_cons (ps_if (pt_cmpR op_gt (pv 3) (pe_callB (call_lenK (K := K)) (by rfl) T.b_len PySem.boot_len (pa_cons (pe_ixK (K := K) (pv 0) pe_int (fun _ _ => rfl)) pa_nil)) (nomark _)) (pss_one ps_never) pss_nil) (pss_one (ps_ret (pe_ifExp (pt_cmpR (op_eqK (K := K) hr.units) (pv 3) pe_int (nomark _)) pe_non (pe_op op_sub (pv 3) pe_int)))))))), ?_⟩
    walk_at "s"
    refine ⟨_, p, rfl, hp, ix, ?_⟩
    walk_at "s"
    refine w_lenS (by rw [S_len]; exact sz1000 (by omega)) ?_
    walk_at "s"
    refine w_ifF (by rw [S_len, hL]; unfold sizeL; omega) ?_
    walk_at "s"
    refine w_slS (by rw [S_len]; exact sz1000 (by omega)) ?_
    walk_at "s"
    rw [cutA (L := letterL p a n told c) (A := bitsL (sortN a : Nat) (sortW p)) rfl (by rw [bitsL_length])]
    refine ⟨_, rfl, bitsL_01 _ _, by rw [bitsL_length]; have := sortW_le hp; omega, ?_⟩
    rw [numL_bits_of_lt (by omega) (sort_lt ha)]
    walk_at "s"
    refine w_ixD ix rfl fun v iv => ?_
    walk_at "s"
    refine w_lenD iv ?_
    walk_at "s"
    match a, ha, q with
    | none, ha, q =>
      refine w_ifF (by show ¬ (((0 : Nat) : Int) > _); omega) ?_
      walk_at "s"
      refine w_ifT rfl ?_
      walk_at "s"
      exact q
    | some (i, f), ha, q =>
      have hi := (List.getElem?_eq_some_iff.mp (ha i f rfl)).1
      refine w_ifF (by show ¬ (((1 + i : Nat) : Int) > _); rw [List.length_map]; omega) ?_
      walk_at "s"
      refine w_ifF (by show ¬ (((1 + i : Nat) : Int) = 0); omega) ?_
      walk_at "s"
      have e : ((sortN (some (i, f)) : Nat) : Int) - 1 = (i : Int) := by show ((1 + i : Nat) : Int) - 1 = _; omega
      rw [e]
      exact q
/-- a letter that was written -/
structure LetOk (p : Pact) (a : At) (n : Int) (told : List Nat) (c : Int) : Prop where
  at_ : AtOk p a
  n0 : 0 ≤ n
  n1 : n < 2 ^ numW p a
  len : told.length = pcsW p a
  b01 : B01 told
  c0 : 0 ≤ c
  c1 : c < p.m
theorem scparted : FnScope ["pact", "letter", "at", "begin", "behind", "end", "check"] ["pact", "letter"] (defScope sparted) := ⟨rfl, rfl, rfl, by decide +kernel, rfl, by decide +kernel, by decide +kernel⟩
def sp_parted (K : PySem.W.Frag) : Sp := fun vs H Q _ => ∃ (x : V) (p : Pact) (a : At) (n c : Int) (told : List Nat), vs = [x, .str (S (letterL p a n told c))] ∧ PactOk p ∧ LetOk p a n told c ∧ Is K H x (pactD p) ∧ ∀ H' v, Chg [] H H' → Is K H' v (.tuple [atD a, .int n, .str (S told), .int c]) → Q v H'
theorem ok_parted (T : Txt K mg) (F : Top K mg "parted" sparted) (F_number_of : Fk P w K mg base CX0 1 "number_of" ["bits"] (sp_number_of K)) (F_pieces_size : Fk P w K mg base CX0 3 "pieces_size" ["pact", "at"] (sp_pieces_size K)) (F_number_width : Fk P w K mg base CX0 1 "number_width" ["pact", "at"] (sp_number_width K)) (F_sort_width : Fk P w K mg base CX0 2 "sort_width" ["pact"] (sp_sort_width K)) (F_letter_size : Fk P w K mg base CX0 4 "letter_size" ["pact", "at"] (sp_letter_size K)) (F_sort_of : Fk P w K mg base CX0 3 "sort_of" ["pact", "letter"] (sp_sort_of K)) (F_are_bits : Fk P w K mg base CX0 1 "are_bits" ["thing"] (sp_are_bits K)) : Fk P w K mg base CX0 5 "parted" ["pact", "letter"] (sp_parted K) := by
  refine F.fk (fun _ _ _ _ _ _ us hl => match us, hl with | [_, _], _ => rfl) fun f fd F => F.ok scparted (fun vs H Q E h => ?_) (fun cdv A outer s H vs Q E hr h => ?_)
  · obtain ⟨x, p, a, n, c, told, rfl, _⟩ := h
    rfl
  · obtain ⟨x, p, a, n, c, told, rfl, hp, hk, ix, q⟩ := h
    have ha := hk.at_
    have hz := hk.len
    have hL := letterL_length (n := n) (c := c) hz
    have hL2 := sizeL_le hp ha
    have k1 := sortW_le hp
    have k2 := numW_le hp ha
    have k3 := pcsW_le hp ha
    have k4 := checkW_le hp
    have e1 : letterL p a n told c = bitsL (sortN a : Nat) (sortW p) ++ (bitsL n (numW p a) ++ (told ++ bitsL c (checkW p))) := rfl
    have e2 : letterL p a n told c = (bitsL (sortN a : Nat) (sortW p) ++ bitsL n (numW p a)) ++ (told ++ bitsL c (checkW p)) := by rw [e1]; simp only [List.append_assoc]
    have e3 : letterL p a n told c = (bitsL (sortN a : Nat) (sortW p) ++ bitsL n (numW p a) ++ told) ++ bitsL c (checkW p) := by rw [e1]; simp only [List.append_assoc]
    have h01 : B01 (letterL p a n told c) := (show B01 (bitsL _ _) from bitsL_01 _ _).app ((show B01 (bitsL _ _) from bitsL_01 _ _).app (hk.b01.app (bitsL_01 _ _)))
    refine ⟨_, (pss_cons (ps_if (pt_not (pt_val (pe_fn F_are_bits hr rfl (pa_cons (pv 1) pa_nil)))) (pss_one ps_never) pss_nil) (pss_cons (ps_set (i := 2) scparted.nd rfl (Or.inl rfl) (pe_fn F_sort_of hr rfl (pa_cons (pv 0) (pa_cons (pv 1) pa_nil)))) (pss_cons (ps_if (pt_cmpR (op_neK (K := K) hr.units) (pe_callB (call_lenK (K := K)) (by rfl) T.b_len PySem.boot_len (pa_cons (pv 1) pa_nil)) (pe_fn F_letter_size hr rfl (pa_cons (pv 0) (pa_cons (pv 2) pa_nil))) (nomark _)) (pss_one ps_never) pss_nil) (pss_cons (ps_set (i := 3) scparted.nd rfl (Or.inl rfl) (pe_fn F_sort_width hr rfl (pa_cons (pv 0) pa_nil))) (pss_cons (ps_set (i := 4) scparted.nd rfl (Or.inl rfl) (pe_op (op_addK (K := K)) (pv 3) (pe_fn F_number_width hr rfl (pa_cons (pv 0) (pa_cons (pv 2) pa_nil))))) (pss_cons (ps_set (i := 5) scparted.nd rfl (Or.inl rfl) (pe_op (op_addK (K := K)) (pv 4) (pe_fn F_pieces_size hr rfl (pa_cons (pv 0) (pa_cons (pv 2) pa_nil))))) (pss_cons (ps_set (i := 6) scparted.nd rfl (Or.inl rfl) (pe_fn F_number_of hr rfl (pa_cons (pe_slK (K := K) (pv 1) (po_some (pv 5)) po_none) pa_nil))) (pss_cons (ps_if (pt_cmpR op_ge (pv 6) (pe_ixK (K := K) (pe_ixK (K := K) (pv 0) pe_int (fun _ _ => rfl)) pe_int (fun _ _ => rfl)) (nomark _)) (pss_one ps_never) pss_nil) (pss_one (ps_ret (pe_tup (pa_cons (pv 2) (pa_cons (pe_fn F_number_of hr rfl (pa_cons (pe_slK (K := K) (pv 1) (po_some (pv 3)) (po_some (pv 4))) pa_nil)) (pa_cons (pe_slK (K := K) (pv 1) (po_some (pv 4)) (po_some (pv 5))) (pa_cons (pv 6) pa_nil))))))))))))))), ?_⟩
    walk_at "s"
    refine ⟨_, rfl, h01, by omega, fun H1 c1 => ?_⟩
    walk_at "s"
    refine ⟨_, p, a, n, c, told, rfl, hp, ha, hz, ix.on c1, ?_⟩
    walk_at "s"
    refine w_lenS (by rw [S_len]; exact sz1000 (by omega)) ?_
    walk_at "s"
    refine ⟨_, p, a, rfl, hp, ha, ix.on c1, fun H2 c2 => ?_⟩
    have c3 := c1.trans c2
    walk_at "s"
    refine w_ifn (fun _ => ?_) (fun h => absurd (by rw [S_len, hL]) h)
    walk_at "s"
    refine ⟨_, p, rfl, hp, ix.on c3, ?_⟩
    walk_at "s"
    refine ⟨_, p, a, rfl, ha, ix.on c3, ?_⟩
    walk_at "s"
    refine ⟨_, p, a, rfl, hp, ha, ix.on c3, fun H3 c4 => ?_⟩
    have c5 := c3.trans c4
    walk_at "s"
    refine w_slS (z := S (letterL p a n told c)) (by rw [S_len]; exact sz1000 (by omega)) ?_
    walk_at "s"
    rw [cutE e3 (by simp only [List.length_append, bitsL_length, hz]; omega)]
    refine ⟨_, rfl, bitsL_01 _ _, by rw [bitsL_length]; omega, ?_⟩
    rw [numL_bits_of_lt hk.c0 (check_lt hk.c1)]
    walk_at "s"
    refine w_ixD (ix.on c5) rfl fun v iv => ?_
    walk_at "s"
    refine w_ixDI iv rfl ?_
    walk_at "s"
    refine w_ifF (by have := hk.c1; omega) ?_
    walk_at "s"
    refine w_slS (z := S (letterL p a n told c)) (by rw [S_len]; exact sz1000 (by omega)) ?_
    walk_at "s"
    rw [cutM e1 (by rw [bitsL_length]) (by rw [bitsL_length])]
    refine ⟨_, rfl, bitsL_01 _ _, by rw [bitsL_length]; omega, ?_⟩
    rw [numL_bits_of_lt hk.n0 hk.n1]
    walk_at "s"
    refine w_slS (z := S (letterL p a n told c)) (by rw [S_len]; exact sz1000 (by omega)) ?_
    rw [cutM e2 (by simp only [List.length_append, bitsL_length]; omega) (by rw [hz])]
    walk_at "s"
    refine ⟨sz1000 (by simp), fun d hd => ?_⟩
    exact q _ _ (c5.trans (Chg.new hd)) (is_new (.cons (is_atD a) (.cons (.int n) (.cons (.str _) (Iss.one (.int c))))) hd)
theorem scwhole_head : FnScope ["shape", "told", "values", "field"] ["shape", "told"] (defScope swhole_head) := ⟨rfl, rfl, rfl, by decide +kernel, rfl, by decide +kernel, by decide +kernel⟩
def sp_whole_head (K : PySem.W.Frag) : Sp := fun vs H Q _ => ∃ (x : V) (fs : List Field) (m : Nat) (l : List Nat), vs = [x, .str (S l)] ∧ ShapeOk fs m ∧ B01 l ∧ l.length ≤ 1000 ∧ Is K H x (shapeD fs m) ∧ ∀ H' v, Chg [] H H' → Is K H' v (headD (wopn fs l)) → Q v H'
theorem ok_whole_head (T : Txt K mg) (F : Top K mg "whole_head" swhole_head) (F_number_of : Fk P w K mg base CX0 1 "number_of" ["bits"] (sp_number_of K)) : Fk P w K mg base CX0 2 "whole_head" ["shape", "told"] (sp_whole_head K) := by
  refine F.fk (fun _ _ _ _ _ _ us hl => match us, hl with | [_, _], _ => rfl) fun f fd F => F.ok scwhole_head (fun vs H Q E h => ?_) (fun cdv A outer s H vs Q E hr h => ?_)
  · obtain ⟨x, fs, m, l, rfl, _⟩ := h
    rfl
  · obtain ⟨x, fs, m, l, rfl, hs, h01, hz, ix, q⟩ := h
    refine ⟨_, (pss_cons (ps_set (i := 2) scwhole_head.nd rfl (Or.inl rfl) (pe_lst pa_nil)) (pss_cons (ps_for PassesOwn.never rfl (pi_tupK (K := K) (pe_ixK (K := K) (pv 0) pe_int (fun _ _ => rfl))) (pg_name (i := 3) scwhole_head.nd rfl (Or.inl rfl)) (pss_cons (ps_expr (pe_bmK (K := K) PySem.F.plainAttrs_list PySem.F.slot_list_append PySem.F.type_list_append mt_append (pv 2) (pa_cons (pe_fn F_number_of hr rfl (pa_cons (pe_slK (K := K) (pv 1) po_none (po_some (pe_ixK (K := K) (pv 3) pe_int (fun _ _ => rfl)))) pa_nil)) pa_nil))) (pss_one (ps_set (i := 1) scwhole_head.nd rfl (Or.inl rfl) (pe_slK (K := K) (pv 1) (po_some (pe_ixK (K := K) (pv 3) pe_int (fun _ _ => rfl))) po_none))))) (pss_one (ps_ret (pe_callTy (call_tupleK (K := K)) (by rfl) T.b_tuple (by decide +kernel) (pa_cons (pv 2) pa_nil)))))), ?_⟩
    walk_at "s"
    refine ⟨Nat.zero_le _, fun d hd => ?_⟩
    have c0 : Chg [] H (upd H d (.lst [])) := Chg.new hd
    walk_at "s"
    refine w_ixD (ix.on c0) rfl fun v iv => ?_
    obtain ⟨a0, xs, rfl, t0, s0⟩ := iv.tup_eq
    have hxs : xs.length = fs.length := by rw [s0.length, List.length_map]
    refine ⟨_, rfl, ⟨_, t0.sq⟩, for_it (walk_tup (xs := xs)) (fun i σ H' => ∃ a, σ = [some x, some (.str (S (wdrop (fs.take i) l))), some (.ref d), a] ∧ Chg [] H H' ∧ Iss K H' xs (fs.map fieldD) ∧ Tp K H' a0 xs ∧ H' d = some (.lst ((wopn (fs.take i) l).map V.int))) ⟨none, rfl, c0, s0, t0, upd_same⟩ (fun i σ H' _ h => by obtain ⟨_, _, _, _, t, _⟩ := h; exact t.sq) ?_ ?_⟩
    · rintro i v σ H1 H2 hi ⟨a, rfl, c1, s1, t1, hL⟩ ⟨rfl, e1⟩
      obtain ⟨fd, ef, i1⟩ := getMap s1 e1
      have hw := wdrop_len (fs.take i) l
      walk_at "s"
      refine ⟨.inl ⟨rfl, _, SqL.of hL⟩, ?_⟩
      walk_at "s"
      refine w_ixDI i1 rfl ?_
      walk_at "s"
      refine w_slS (by rw [S_len]; exact sz1000 (by omega)) ?_
      walk_at "s"
      rw [cut_to]
      have h2 : B01 (wdrop (fs.take i) l) := fun c hc => h01 c (wdrop_mem _ _ hc)
      refine ⟨_, rfl, h2.take _, by simp; omega, ?_⟩
      walk_at "s"
      refine ⟨d, _, _, rfl, rfl, hL, sl1000 (by simp [wopn_length]; have := hs.few; omega), ?_⟩
      have c2 : Chg [d] H2 (upd H2 d (.lst ((wopn (fs.take i) l).map V.int ++ [.int (numL ((wdrop (fs.take i) l).take fd.br))]))) := Chg.refl.put (by simp) hL rfl
      walk_at "s"
      refine w_ixDI (i1.on c2) rfl ?_
      walk_at "s"
      refine w_slS (z := S (wdrop (fs.take i) l)) (by rw [S_len]; exact sz1000 (by omega)) ?_
      walk_at "s"
      rw [cut_from, ← wdrop_snoc, ← take_snoc ef]
      refine ⟨_, rfl, c1.mut hd, s1.on c2, t1.mono c2, ?_⟩
      rw [upd_same, take_snoc ef, wopn_snoc, List.map_append]
      rfl
    · rintro σ H1 ⟨a, rfl, c1, s1, t1, hL⟩
      walk_at "s"
      have e1 : fs.take xs.length = fs := by rw [hxs]; exact List.take_length ..
      rw [e1] at hL
      refine ⟨d, _, rfl, SqL.of hL, fun u o hu _ _ => ?_⟩
      exact q _ _ (c1.trans (Chg.new hu)) (.tup (.inl (.inr ⟨o, upd_same⟩)) Iss.ints)
end
end Sh
namespace Sh
open PySem L2 PySem.Spec PyProof.Rows
local macro_rules | `(tactic| walk_at "s1") => `(tactic| first
  | with_reducible refine w_seq ?_
  | with_reducible refine w_asg ?_
  | with_reducible refine w_name ?_
  | with_reducible refine w_ret ?_
  | with_reducible refine w_retN ?_
  | with_reducible refine w_drop ?_
  | with_reducible refine w_next ?_
  | with_reducible refine w_ifS ?_
  | ((with_reducible refine' w_var ?h ?_); (case h => rfl))
  | with_reducible refine w_c ?_
  | with_reducible refine w_op ?_
  | with_reducible refine w_un ?_
  | with_reducible refine w_sl ?_
  | with_reducible refine w_nopart ?_
  | with_reducible refine w_part ?_
  | with_reducible refine w_exint ?_
  | with_reducible refine w_exbl ?_
  | with_reducible refine w_exbl' ?_
  | with_reducible refine w_exint' ?_
  | with_reducible refine w_nn ?_
  | with_reducible refine w_test ?_
  | with_reducible refine w_B ?_
  | with_reducible refine w_and ?_
  | with_reducible refine w_or ?_
  | with_reducible refine w_not ?_
  | with_reducible refine w_andV ?_
  | with_reducible refine w_orV ?_
  | with_reducible refine w_notV ?_
  | with_reducible refine w_ifE ?_
  | with_reducible refine w_nil ?_
  | with_reducible refine w_cons ?_
  | with_reducible refine w_tup ?_
  | with_reducible refine w_lst ?_
  | with_reducible refine w_CB ?_
  | with_reducible refine w_fn ?_
  | with_reducible refine w_T ?_
  | with_reducible refine w_F ?_
  | with_reducible refine w_I0 ?_
  | with_reducible refine w_U ?_
  | with_reducible refine w_addI ?_
  | with_reducible refine w_eqI ?_
  | with_reducible refine w_neI ?_
  | with_reducible refine w_eqS ?_
  | with_reducible refine w_neS ?_
  | with_reducible refine w_for ?_
  | with_reducible refine w_rng1 ?_
  | with_reducible refine w_rng2 ?_
  | with_reducible refine w_iStr ?_
  | with_reducible refine w_iTup ?_
  | with_reducible refine w_iList ?_
  | with_reducible refine w_iEnumT ?_
  | with_reducible refine w_iZip3 ?_
  | with_reducible refine w_iZipA ?_
  | with_reducible refine w_BM ?_
  | with_reducible refine w_gCons ?_
  | with_reducible refine w_gNil ?_
  | ((with_reducible refine' w_gTup ?h ?e ?_); (case h => exact SqT.of upd_same); (case e => rfl))
  | ((with_reducible refine' w_aug ?h ?_); (case h => rfl))
  | with_reducible refine w_ip ?_
  | with_reducible refine w_lc ?_
  | with_reducible refine w_fld ?_
  | with_reducible refine w_chain ?_
  | with_reducible refine w_mt ?_
  | with_reducible refine w_fset ?_
  | with_reducible refine w_dget ?_
  | with_reducible refine w_din ?_
  | with_reducible refine w_dput ?_
  | with_reducible refine w_dnew ?_
  | with_reducible refine w_keys ?_
  | with_reducible refine w_nT ?_
  | with_reducible refine w_nF ?_
  | with_reducible refine w_rowIndex ?_)
local macro_rules | `(tactic| walk_at "s") => `(tactic| repeat (walk_at "s1"))
section
variable {P : Program} {w : World} {K : PySem.W.Frag} {mg : Str → Option Value} {base : Heap} {CP CR CO : Addr}
/-! ### the presser -/
abbrev fget (fs : List (Str × V)) (f : Str) : Option V := fs.lookup f
structure PreF (fs : List (Str × V)) (pav : V) (pl : Addr) (s : Pre) : Prop where
  pact : fget fs "pact" = some pav
  past : fget fs "past" = some (.ref pl)
  had : fget fs "had_most" = some (optV s.had)
  base : fget fs "base_most" = some (optV s.base)
  fresh : fget fs "fresh_from" = some (.int s.fresh)
  no : ∀ g : Str, (g == "pact" || g == "past" || g == "had_most" || g == "base_most" || g == "fresh_from") = false → fget fs g = none
  len : fs.length ≤ 10
theorem PreF.n1 {fs : List (Str × V)} {pav : V} {pl : Addr} {s : Pre} (h : PreF fs pav pl s) : fs.length < 1000 := by have := h.len; omega
theorem PreF.hadW {fs : List (Str × V)} {pav : V} {pl : Addr} {s : Pre} (h : PreF fs pav pl s) (a : Option Nat) : PreF (putF "had_most" (optV a) fs) pav pl { s with had := a } := by
  refine ⟨?_, ?_, look_same, ?_, ?_, fun g hg => ?_, ?_⟩
  · exact (look_other (by decide +kernel)).trans h.pact
  · exact (look_other (by decide +kernel)).trans h.past
  · exact (look_other (by decide +kernel)).trans h.base
  · exact (look_other (by decide +kernel)).trans h.fresh
  · have h2 := hg
    simp only [Bool.or_eq_false_iff] at h2
    exact (look_other h2.1.1.2).trans (h.no g hg)
  · rw [putF_len h.had]; exact h.len
theorem PreF.baseW {fs : List (Str × V)} {pav : V} {pl : Addr} {s : Pre} (h : PreF fs pav pl s) (a : Option Nat) : PreF (putF "base_most" (optV a) fs) pav pl { s with base := a } := by
  refine ⟨?_, ?_, ?_, look_same, ?_, fun g hg => ?_, ?_⟩
  · exact (look_other (by decide +kernel)).trans h.pact
  · exact (look_other (by decide +kernel)).trans h.past
  · exact (look_other (by decide +kernel)).trans h.had
  · exact (look_other (by decide +kernel)).trans h.fresh
  · have h2 := hg
    simp only [Bool.or_eq_false_iff] at h2
    exact (look_other h2.1.2).trans (h.no g hg)
  · rw [putF_len h.base]; exact h.len
theorem PreF.freshW {fs : List (Str × V)} {pav : V} {pl : Addr} {s : Pre} (h : PreF fs pav pl s) (a : Nat) : PreF (putF "fresh_from" (.int a) fs) pav pl { s with fresh := a } := by
  refine ⟨?_, ?_, ?_, ?_, look_same, fun g hg => ?_, ?_⟩
  · exact (look_other (by decide +kernel)).trans h.pact
  · exact (look_other (by decide +kernel)).trans h.past
  · exact (look_other (by decide +kernel)).trans h.had
  · exact (look_other (by decide +kernel)).trans h.base
  · have h2 := hg
    simp only [Bool.or_eq_false_iff] at h2
    exact (look_other h2.2).trans (h.no g hg)
  · rw [putF_len h.fresh]; exact h.len
structure PreAt (K : PySem.W.Frag) (CP : Addr) (H : Hp) (px dx pl : Addr) (pav : V) (p : Pact) (s : Pre) : Prop where
  obj : ∃ fs, H px = some (.ins CP dx fs) ∧ PreF fs pav pl s
  lst : ∃ xs, H pl = some (.lst xs) ∧ Iss K H xs (s.past.map headD)
  pact : Is K H pav (pactD p)
  ok : PactOk p
  heads : ∀ h ∈ s.past, HeadOk p.fs h
  few : s.past.length ≤ 500
theorem PreAt.on {H H' : Hp} {l : List Addr} {px dx pl : Addr} {pav : V} {p : Pact} {s : Pre} (h : PreAt K CP H px dx pl pav p s) (c : Chg l H H') (h1 : px ∉ l) (h2 : pl ∉ l) : PreAt K CP H' px dx pl pav p s := by
  obtain ⟨fs, o, pf⟩ := h.obj
  obtain ⟨xs, hx, hi⟩ := h.lst
  exact ⟨⟨fs, c.keep _ _ o h1, pf⟩, ⟨xs, c.keep _ _ hx h2, hi.on c⟩, h.pact.on c, h.ok, h.heads, h.few⟩
theorem PreAt.calm {H H' : Hp} {px dx pl : Addr} {pav : V} {p : Pact} {s : Pre} (h : PreAt K CP H px dx pl pav p s) (c : Chg [] H H') : PreAt K CP H' px dx pl pav p s := h.on c (by simp) (by simp)
theorem is_opt {H : Hp} (a : Option Nat) : Is K H (optV a) (optD a) := by cases a with
  | none => exact .non
  | some n => exact .int _
theorem scgreater : FnScope ["one", "other"] ["one", "other"] (defScope sgreater) := ⟨rfl, rfl, rfl, by decide +kernel, rfl, by decide +kernel, by decide +kernel⟩
def sp_greater (_ : PySem.W.Frag) : Sp := fun vs H Q _ => ∃ (a b : Option Nat), vs = [optV a, optV b] ∧ Q (optV (greaterF a b)) H
theorem ok_greater (T : Txt K mg) (F : Top K mg "greater" sgreater)  : Fk P w K mg base CX0 1 "greater" ["one", "other"] (sp_greater K) := by
  refine F.fk (fun _ _ _ _ _ _ us hl => match us, hl with | [_, _], _ => rfl) fun f fd F => F.ok scgreater (fun vs H Q E h => ?_) (fun cdv A outer s H vs Q E hr h => ?_)
  · obtain ⟨a, b, rfl, _⟩ := h
    rfl
  · obtain ⟨a, b, rfl, q⟩ := h
    refine ⟨_, (pss_cons (ps_if (PW.pt (pw_or (pt_cmpR op_isN (pv 0) pe_non (nomark _)) (pw_or1 (PW.pt (pw_and (pt_cmpR op_notN (pv 1) pe_non (nomark _)) (pw_and1 (pt_cmpR op_lt (pv 0) (pv 1) (nomark _)))))))) (pss_one (ps_ret (pv 1))) pss_nil) (pss_one (ps_ret (pv 0)))), ?_⟩
    match a, b, q with
    | none, b, q =>
      walk_at "s"
      refine w_ifT rfl ?_
      walk_at "s"
      exact q
    | some a, none, q =>
      walk_at "s"
      refine w_ifF (fun h => nomatch h) ?_
      walk_at "s"
      refine w_ifn (fun _ => ?_) (fun h => absurd rfl h)
      walk_at "s"
      exact q
    | some a, some b, q =>
      walk_at "s"
      refine w_ifF (fun h => nomatch h) ?_
      walk_at "s"
      refine w_ifn (fun h => nomatch h) (fun _ => ?_)
      walk_at "s"
      refine w_I0 (i := a) (j := b) ?_
      walk_at "s"
      refine w_if (fun h => ?_) (fun h => ?_)
      · have e : greaterF (some a) (some b) = some b := if_pos (by omega)
        rw [e] at q
        walk_at "s"
        exact q
      · have e : greaterF (some a) (some b) = some a := if_neg (by omega)
        rw [e] at q
        walk_at "s"
        exact q
theorem scPresser_init : FnScope ["self", "pact"] ["self", "pact"] (defScope sPresser_init) := ⟨rfl, rfl, rfl, by decide +kernel, rfl, by decide +kernel, by decide +kernel⟩
def sp_Presser_init (K : PySem.W.Frag) (CP : Addr) : Sp := fun vs H Q _ => ∃ (px dx : Addr) (pav : V) (p : Pact), vs = [.ref px, pav] ∧ H px = some (.ins CP dx []) ∧ PactOk p ∧ Is K H pav (pactD p) ∧
  ∀ H' pl, Chg [px] H H' → H pl = none → PreAt K CP H' px dx pl pav p ⟨[], none, none, 0⟩ → Q .non H'
theorem ok_Presser_init (T : Txt K mg) (TC : ClsPresser K CP) (F : TopI K mg "Presser" CP sPresser_init)  : Mkk P w K mg base CX0 1 "Presser" CP ["self", "pact"] (sp_Presser_init K CP) := by
  refine F.mk (fun _ _ _ _ _ _ us hl => match us, hl with | [_, _], _ => rfl) fun f fd F => F.ok scPresser_init (fun vs H Q E h => ?_) (fun cdv A outer s H vs Q E hr h => ?_)
  · obtain ⟨px, dx, pav, p, rfl, _⟩ := h
    rfl
  · obtain ⟨px, dx, pav, p, rfl, ho, hp, ip, q⟩ := h
    refine ⟨_, (pss_cons (ps_fldK (K := K) (pv 0) (pv 1) rfl) (pss_cons (ps_fldK (K := K) (pv 0) (pe_lst pa_nil) rfl) (pss_cons (ps_fldK (K := K) (pv 0) pe_non rfl) (pss_cons (ps_fldK (K := K) (pv 0) pe_non rfl) (pss_one (ps_fldK (K := K) (pv 0) pe_int rfl)))))), ?_⟩
    walk_at "s"
    refine ⟨_, _, _, _, rfl, ho, TC.cls, TC.pact, by decide, ?_⟩
    walk_at "s"
    refine ⟨Nat.zero_le _, fun pl hpl => ?_⟩
    have c1 : Chg [px] H (upd H px (.ins CP dx (putF "pact" pav []))) := Chg.refl.put (by simp) ho rfl
    have hl0 : H pl = none := by
      cases e : H pl with
      | none => rfl
      | some u =>
        by_cases z : pl = px
        · rw [z, upd_same] at hpl; cases hpl
        · rw [upd_ne z, e] at hpl; cases hpl
    have hne : px ≠ pl := fun z => by rw [z, hl0] at ho; cases ho
    walk_at "s"
    refine ⟨_, _, _, _, rfl, (by rw [upd_ne hne, upd_same]), TC.cls, TC.past, Nat.lt_of_le_of_lt (pl1 (Nat.le_refl 0)) (by decide), ?_⟩
    walk_at "s"
    refine ⟨_, _, _, _, rfl, upd_same, TC.cls, TC.had, Nat.lt_of_le_of_lt (pl1 (pl1 (Nat.le_refl 0))) (by decide), ?_⟩
    walk_at "s"
    refine ⟨_, _, _, _, rfl, upd_same, TC.cls, TC.base, Nat.lt_of_le_of_lt (pl1 (pl1 (pl1 (Nat.le_refl 0)))) (by decide), ?_⟩
    walk_at "s"
    refine ⟨_, _, _, _, rfl, upd_same, TC.cls, TC.fresh, Nat.lt_of_le_of_lt (pl1 (pl1 (pl1 (pl1 (Nat.le_refl 0))))) (by decide), ?_⟩
    refine q _ pl ?_ hl0 ⟨⟨_, upd_same, ?_⟩, ⟨[], by rw [upd_ne (Ne.symm hne), upd_ne (Ne.symm hne), upd_ne (Ne.symm hne), upd_ne (Ne.symm hne), upd_same], .nil⟩, ?_, hp, by simp, by simp⟩
    · exact ((((c1.trans (Chg.new hpl)).trans (Chg.refl.put (by simp) (by rw [upd_ne hne, upd_same]) rfl)).trans (Chg.refl.put (by simp) upd_same rfl)).trans (Chg.refl.put (by simp) upd_same rfl)).trans (Chg.refl.put (by simp) upd_same rfl)
    · refine ⟨?_, ?_, ?_, ?_, look_same, fun g hg => ?_, Nat.le_trans (pl1 (pl1 (pl1 (pl1 (pl1 (Nat.le_refl 0)))))) (by decide)⟩
      · exact (look_other (by decide +kernel)).trans ((look_other (by decide +kernel)).trans ((look_other (by decide +kernel)).trans ((look_other (by decide +kernel)).trans look_same)))
      · exact (look_other (by decide +kernel)).trans ((look_other (by decide +kernel)).trans ((look_other (by decide +kernel)).trans look_same))
      · exact (look_other (by decide +kernel)).trans ((look_other (by decide +kernel)).trans look_same)
      · exact (look_other (by decide +kernel)).trans look_same
      · simp only [Bool.or_eq_false_iff] at hg
        exact (look_other hg.2).trans ((look_other hg.1.2).trans ((look_other hg.1.1.2).trans ((look_other hg.1.1.1.2).trans (look_other hg.1.1.1.1))))
    · exact ip.on ((((c1.trans (Chg.new hpl)).trans (Chg.refl.put (by simp) (by rw [upd_ne hne, upd_same]) rfl)).trans (Chg.refl.put (by simp) upd_same rfl)).trans (Chg.refl.put (by simp) upd_same rfl)) |> fun h => h.on (Chg.refl.put (l := [px]) (by simp) upd_same rfl)
theorem scPresser_sent : FnScope ["self"] ["self"] (defScope sPresser_sent) := ⟨rfl, rfl, rfl, by decide +kernel, rfl, by decide +kernel, by decide +kernel⟩
def sp_Presser_sent (K : PySem.W.Frag) (CP : Addr) : Sp := fun vs H Q _ => ∃ (px dx pl : Addr) (pav : V) (p : Pact) (s : Pre), vs = [.ref px] ∧ PreAt K CP H px dx pl pav p s ∧ Q (.int s.past.length) H
theorem ok_Presser_sent (T : Txt K mg) (TC : ClsPresser K CP) (F : TopM K CP "sent" "Presser.sent" sPresser_sent)  : Mt P w K mg base CX0 1 CP "sent" ["self"] (sp_Presser_sent K CP) := by
  refine F.mt TC.cls (fun _ _ _ _ _ _ us hl => match us, hl with | [_], _ => rfl) fun f fd F => F.ok scPresser_sent (fun vs H Q E h => ?_) (fun cdv A outer s H vs Q E hr h => ?_)
  · obtain ⟨px, dx, pl, pav, p, s, rfl, _⟩ := h
    rfl
  · obtain ⟨px, dx, pl, pav, p, s, rfl, hp, q⟩ := h
    obtain ⟨fs, o, pf⟩ := hp.obj
    obtain ⟨xs, hx, hi⟩ := hp.lst
    refine ⟨_, (pss_one (ps_ret (pe_callB (call_lenK (K := K)) (by rfl) T.b_len PySem.boot_len (pa_cons (pe_fldK (K := K) (pv 0) rfl) pa_nil)))), ?_⟩
    walk_at "s"
    refine w_field o TC.cls TC.past pf.past ?_
    walk_at "s"
    refine w_lenL hx ?_
    rw [hi.length, List.length_map]
    exact q
theorem scPresser_formers : FnScope ["self", "reach", "many", "more"] ["self", "reach"] (defScope sPresser_formers) := ⟨rfl, rfl, rfl, by decide +kernel, rfl, by decide +kernel, by decide +kernel⟩
def sp_Presser_formers (K : PySem.W.Frag) (CP : Addr) : Sp := fun vs H Q _ => ∃ (px dx pl : Addr) (pav : V) (p : Pact) (s : Pre) (reach : Nat), vs = [.ref px, .int reach] ∧ PreAt K CP H px dx pl pav p s ∧ ∀ H' v, Chg [] H H' → Is K H' v (.tuple ((frm s.past reach).map formerD)) → Q v H'
theorem atI_neg {α : Type} {xs : List α} {i : Nat} {v : α} (h : xs[xs.length - 1 - i]? = some v) (hi : i < xs.length) : atI xs (-(1 + (i : Int))) = some v := by
  have e : ixN xs.length (-(1 + (i : Int))) = some (xs.length - 1 - i) := by
    unfold ixN
    rw [if_neg (by omega), if_pos (by omega)]
    congr 1
    omega
  unfold atI
  rw [e]
  exact h
theorem ok_Presser_formers (T : Txt K mg) (TC : ClsPresser K CP) (F : TopM K CP "formers" "Presser.formers" sPresser_formers)  : Mt P w K mg base CX0 1 CP "formers" ["self", "reach"] (sp_Presser_formers K CP) := by
  refine F.mt TC.cls (fun _ _ _ _ _ _ us hl => match us, hl with | [_, _], _ => rfl) fun f fd F => F.ok scPresser_formers (fun vs H Q E h => ?_) (fun cdv A outer s H vs Q E hr h => ?_)
  · obtain ⟨px, dx, pl, pav, p, s, reach, rfl, _⟩ := h
    rfl
  · obtain ⟨px, dx, pl, pav, p, s, reach, rfl, hp, q⟩ := h
    obtain ⟨fs, o, pf⟩ := hp.obj
    obtain ⟨xs, hx, hi⟩ := hp.lst
    have hxs : xs.length = s.past.length := by rw [hi.length, List.length_map]
    have hfew := hp.few
    refine ⟨_, (pss_cons (ps_set (i := 2) scPresser_formers.nd rfl (Or.inl rfl) (pe_callB (call_min2 rfl) (by rfl) T.b_min (by decide +kernel) (pa_cons (pv 1) (pa_cons (pe_callB (call_lenK (K := K)) (by rfl) T.b_len PySem.boot_len (pa_cons (pe_fldK (K := K) (pv 0) rfl) pa_nil)) pa_nil)))) (pss_one (ps_ret (pe_callTy (call_tupleK (K := K)) (by rfl) T.b_tuple (by decide +kernel) (pa_cons (pe_lc (own := [("more", 3)]) rfl scPresser_formers.nd (pi_range2 (by rfl) T.b_range (pa_cons pe_int (pa_cons (pe_op (op_addK (K := K)) (pv 2) pe_int) pa_nil))) (blkOk_by (own := [("more", 3)]) (N := ["self", "reach", "many", "more"]) (sc := defScope sPresser_formers) (by decide +kernel)) (fun _ _ _ _ _ => (pg_name (i := 3) scPresser_formers.nd rfl (Or.inl rfl))) (fun _ _ _ _ _ => pts_nil) (fun _ _ _ _ _ => (pe_tup (pa_cons (pv 3) (pa_cons (pe_ixK (K := K) (pe_fldK (K := K) (pv 0) rfl) (pe_un un_neg (pv 3)) (fun _ _ => rfl)) pa_nil))))) pa_nil))))), ?_⟩
    walk_at "s"
    refine w_field o TC.cls TC.past pf.past ?_
    walk_at "s"
    refine w_lenL hx ?_
    refine ⟨_, _, rfl, ?_⟩
    have e : (if (xs.length : Int) < (reach : Int) then (xs.length : Int) else (reach : Int)) = ((min reach s.past.length : Nat) : Int) := by
      rw [hxs]
      split <;> omega
    rw [e]
    walk_at "s"
    have e2 : (((min reach s.past.length : Nat) : Int) + 1 - 1).toNat = min reach s.past.length := by omega
    refine ⟨_, _, rfl, by omega, fun D hD => ?_⟩
    rw [e2]
    refine lc_data (K := K) walk_range [] hD (by simp) (by omega) (fun _ _ => True) (fun i e => e = formerD (i + 1, s.past.getD (s.past.length - 1 - i) [])) trivial (fun _ _ _ _ => trivial) (fun _ _ => trivial) (fun i x H1 H2 Q' hi1 c1 _ hY hQ => ?_) fun H1 ys es c1 _ hL hs1 hle hok => ?_
    · obtain ⟨rfl, rfl⟩ := hY
      walk_at "s"
      refine ⟨rfl, ?_⟩
      walk_at "s"
      refine w_field (c1.keep _ _ o (by simp)) TC.cls TC.past pf.past ?_
      walk_at "s"
      have hlt : s.past.length - 1 - i < s.past.length := by omega
      obtain ⟨v, ev, iv⟩ := getMapD hi (List.getElem?_eq_getElem hlt)
      refine w_ixL (SqL.of (c1.keep _ _ hx (by simp))) (atI_neg (i := i) (by rw [hxs]; exact ev) (by omega)) ?_
      walk_at "s"
      refine ⟨sz1000 (by simp), fun r hr => ?_⟩
      have c3 : Chg [] H2 (upd H2 r (.tup [.int (1 + (i : Int)), v])) := Chg.new hr
      refine hQ _ _ (formerD (i + 1, s.past.getD (s.past.length - 1 - i) [])) c3 trivial ?_ rfl
      have e5 : s.past.getD (s.past.length - 1 - i) [] = s.past[s.past.length - 1 - i] := by rw [List.getD_eq_getElem?_getD, List.getElem?_eq_getElem hlt]; rfl
      have e6 : ((i + 1 : Nat) : Int) = 1 + (i : Int) := by omega
      unfold formerD
      simp only [e5, e6]
      exact is_new (.cons (.int _) (Iss.one (iv.on c1))) hr
    · walk_at "s"
      refine ⟨D, _, rfl, SqL.of hL, fun r o' hr _ _ => ?_⟩
      have e4 : es = (frm s.past reach).map formerD := by
        apply List.ext_getElem?
        intro j
        unfold frm
        rw [List.map_map]
        by_cases hj : j < min reach s.past.length
        · have h1 : es[j]? = some (es[j]'(by omega)) := List.getElem?_eq_getElem _
          rw [h1, hok j _ h1]
          simp [hj]
        · rw [List.getElem?_eq_none (by omega), List.getElem?_eq_none (by simp; omega)]
      rw [e4] at hs1
      exact q _ _ (c1.trans (Chg.new hr)) (is_tupOf hs1 hr)
theorem scPresser_shared_most : FnScope ["self", "behind"] ["self"] (defScope sPresser_shared_most) := ⟨rfl, rfl, rfl, by decide +kernel, rfl, by decide +kernel, by decide +kernel⟩
def sp_Presser_shared_most (K : PySem.W.Frag) (CP : Addr) : Sp := fun vs H Q _ => ∃ (px dx pl : Addr) (pav : V) (p : Pact) (s : Pre), vs = [.ref px] ∧ PreAt K CP H px dx pl pav p s ∧ Q (optV (sharedF p s)) H
theorem ok_Presser_shared_most (T : Txt K mg) (TC : ClsPresser K CP) (F : TopM K CP "shared_most" "Presser.shared_most" sPresser_shared_most) (F_greater : Fk P w K mg base CX0 1 "greater" ["one", "other"] (sp_greater K)) (M_Presser_sent : Mt P w K mg base CX0 1 CP "sent" ["self"] (sp_Presser_sent K CP)) : Mt P w K mg base CX0 2 CP "shared_most" ["self"] (sp_Presser_shared_most K CP) := by
  refine F.mt TC.cls (fun _ _ _ _ _ _ us hl => match us, hl with | [_], _ => rfl) fun f fd F => F.ok scPresser_shared_most (fun vs H Q E h => ?_) (fun cdv A outer s H vs Q E hr h => ?_)
  · obtain ⟨px, dx, pl, pav, p, s, rfl, _⟩ := h
    rfl
  · obtain ⟨px, dx, pl, pav, p, s, rfl, hp, q⟩ := h
    obtain ⟨fs, o, pf⟩ := hp.obj
    refine ⟨_, (pss_cons (ps_set (i := 1) scPresser_shared_most.nd rfl (Or.inl rfl) (pe_op op_sub (pe_op op_sub (pe_mt0 M_Presser_sent hr (pv 0)) pe_int) (pe_ixK (K := K) (pe_ixK (K := K) (pe_fldK (K := K) (pv 0) rfl) pe_int (fun _ _ => rfl)) pe_int (fun _ _ => rfl)))) (pss_cons (ps_if (pt_cmpR op_lt (pv 1) (pe_fldK (K := K) (pv 0) rfl) (nomark _)) (pss_one (ps_set (i := 1) scPresser_shared_most.nd rfl (Or.inl rfl) pe_non)) pss_nil) (pss_one (ps_ret (pe_fn F_greater hr rfl (pa_cons (pe_fldK (K := K) (pv 0) rfl) (pa_cons (pv 1) pa_nil))))))), ?_⟩
    walk_at "s"
    refine w_self o (pf.no _ (by decide +kernel)) ?_
    walk_at "s"
    refine ⟨px, dx, pl, pav, p, s, rfl, hp, ?_⟩
    walk_at "s"
    refine w_field o TC.cls TC.pact pf.pact ?_
    walk_at "s"
    refine w_ixD hp.pact rfl fun v iv => ?_
    walk_at "s"
    refine w_ixDI iv rfl ?_
    walk_at "s"
    refine w_field o TC.cls TC.fresh pf.fresh ?_
    walk_at "s"
    refine w_if (fun h => ?_) (fun h => ?_)
    · walk_at "s"
      refine w_field o TC.cls TC.base pf.base ?_
      walk_at "s"
      refine ⟨s.base, none, rfl, ?_⟩
      unfold sharedF at q
      rw [if_pos h] at q
      exact q
    · walk_at "s"
      refine w_field o TC.cls TC.base pf.base ?_
      walk_at "s"
      refine ⟨s.base, some (s.past.length - 1 - p.skips), ?_, ?_⟩
      · have : ((s.past.length - 1 - p.skips : Nat) : Int) = (s.past.length : Int) - 1 - p.skips := by omega
        show _ = [optV s.base, V.int ((s.past.length - 1 - p.skips : Nat) : Int)]
        rw [this]
      · unfold sharedF at q
        rw [if_neg h] at q
        exact q
theorem scPresser_is_shared : FnScope ["self", "form", "least"] ["self", "form"] (defScope sPresser_is_shared) := ⟨rfl, rfl, rfl, by decide +kernel, rfl, by decide +kernel, by decide +kernel⟩
def sp_Presser_is_shared (K : PySem.W.Frag) (CP : Addr) : Sp := fun vs H Q _ => ∃ (px dx pl : Addr) (pav x : V) (p : Pact) (s : Pre) (f : Form), vs = [.ref px, x] ∧ PreAt K CP H px dx pl pav p s ∧ Is K H x (formD f) ∧ Q (.bl (isSharedF p s f)) H
theorem ok_Presser_is_shared (T : Txt K mg) (TC : ClsPresser K CP) (F : TopM K CP "is_shared" "Presser.is_shared" sPresser_is_shared) (M_Presser_sent : Mt P w K mg base CX0 1 CP "sent" ["self"] (sp_Presser_sent K CP)) (M_Presser_shared_most : Mt P w K mg base CX0 2 CP "shared_most" ["self"] (sp_Presser_shared_most K CP)) : Mt P w K mg base CX0 3 CP "is_shared" ["self", "form"] (sp_Presser_is_shared K CP) := by
  refine F.mt TC.cls (fun _ _ _ _ _ _ us hl => match us, hl with | [_, _], _ => rfl) fun f fd F => F.ok scPresser_is_shared (fun vs H Q E h => ?_) (fun cdv A outer s H vs Q E hr h => ?_)
  · obtain ⟨px, dx, pl, pav, x, p, s, f, rfl, _⟩ := h
    rfl
  · obtain ⟨px, dx, pl, pav, x, p, s, f, rfl, hp, ix, q⟩ := h
    obtain ⟨fs, o, pf⟩ := hp.obj
    refine ⟨_, (pss_cons (ps_set (i := 2) scPresser_is_shared.nd rfl (Or.inl rfl) (pe_mt0 M_Presser_shared_most hr (pv 0))) (pss_one (ps_ret (pe_and (pe_cmpR op_notN (pv 2) pe_non (nomark _)) (pe_one (pe_cmpR op_le (pe_op op_sub (pe_mt0 M_Presser_sent hr (pv 0)) (pe_ixK (K := K) (pv 1) pe_int (fun _ _ => rfl))) (pv 2) (nomark _))))))), ?_⟩
    walk_at "s"
    refine w_self o (pf.no _ (by decide +kernel)) ?_
    walk_at "s"
    refine ⟨px, dx, pl, pav, p, s, rfl, hp, ?_⟩
    unfold isSharedF at q
    match hs : sharedF p s, q with
    | none, q =>
      walk_at "s"
      refine w_ifn (fun _ => ?_) (fun h => absurd rfl h)
      exact q
    | some l, q =>
      walk_at "s"
      refine w_ifn (fun h => nomatch h) (fun _ => ?_)
      walk_at "s"
      refine w_self o (pf.no _ (by decide +kernel)) ?_
      walk_at "s"
      refine ⟨px, dx, pl, pav, p, s, rfl, hp, ?_⟩
      walk_at "s"
      refine w_ixDI ix rfl ?_
      walk_at "s"
      exact w_I0 (j := l) q
theorem scPresser_least_top : FnScope ["self", "least"] ["self"] (defScope sPresser_least_top) := ⟨rfl, rfl, rfl, by decide +kernel, rfl, by decide +kernel, by decide +kernel⟩
def sp_Presser_least_top (K : PySem.W.Frag) (CP : Addr) : Sp := fun vs H Q _ => ∃ (px dx pl : Addr) (pav : V) (p : Pact) (s : Pre), vs = [.ref px] ∧ PreAt K CP H px dx pl pav p s ∧ Q (.int (leastTop p s)) H
theorem ok_Presser_least_top (T : Txt K mg) (TC : ClsPresser K CP) (F : TopM K CP "least_top" "Presser.least_top" sPresser_least_top) (M_Presser_sent : Mt P w K mg base CX0 1 CP "sent" ["self"] (sp_Presser_sent K CP)) : Mt P w K mg base CX0 2 CP "least_top" ["self"] (sp_Presser_least_top K CP) := by
  refine F.mt TC.cls (fun _ _ _ _ _ _ us hl => match us, hl with | [_], _ => rfl) fun f fd F => F.ok scPresser_least_top (fun vs H Q E h => ?_) (fun cdv A outer s H vs Q E hr h => ?_)
  · obtain ⟨px, dx, pl, pav, p, s, rfl, _⟩ := h
    rfl
  · obtain ⟨px, dx, pl, pav, p, s, rfl, hp, q⟩ := h
    obtain ⟨fs, o, pf⟩ := hp.obj
    refine ⟨_, (pss_cons (ps_set (i := 1) scPresser_least_top.nd rfl (Or.inl rfl) (pe_callB (call_max2 rfl) (by rfl) T.b_max (by decide +kernel) (pa_cons pe_int (pa_cons (pe_op op_sub (pe_op op_sub (pe_mt0 M_Presser_sent hr (pv 0)) pe_int) (pe_ixK (K := K) (pe_ixK (K := K) (pe_fldK (K := K) (pv 0) rfl) pe_int (fun _ _ => rfl)) pe_int (fun _ _ => rfl))) pa_nil)))) (pss_cons (ps_if (pt_cmpR op_notN (pe_fldK (K := K) (pv 0) rfl) pe_non (nomark _)) (pss_one (ps_set (i := 1) scPresser_least_top.nd rfl (Or.inl rfl) (pe_callB (call_max2 rfl) (by rfl) T.b_max (by decide +kernel) (pa_cons (pv 1) (pa_cons (pe_op op_sub (pe_fldK (K := K) (pv 0) rfl) (pe_ixK (K := K) (pe_ixK (K := K) (pe_fldK (K := K) (pv 0) rfl) pe_int (fun _ _ => rfl)) pe_int (fun _ _ => rfl))) pa_nil))))) pss_nil) (pss_one (ps_ret (pv 1))))), ?_⟩
    walk_at "s"
    refine w_self o (pf.no _ (by decide +kernel)) ?_
    walk_at "s"
    refine ⟨px, dx, pl, pav, p, s, rfl, hp, ?_⟩
    walk_at "s"
    refine w_field o TC.cls TC.pact pf.pact ?_
    walk_at "s"
    refine w_ixD hp.pact rfl fun v iv => ?_
    walk_at "s"
    refine w_ixDI iv rfl ?_
    walk_at "s"
    refine ⟨_, _, rfl, ?_⟩
    walk_at "s"
    refine w_field o TC.cls TC.had pf.had ?_
    walk_at "s"
    unfold leastTop at q
    match hh : s.had, q with
    | none, q =>
      refine w_ifn (fun _ => ?_) (fun h => absurd rfl h)
      walk_at "s"
      exact q
    | some n, q =>
      refine w_ifn (fun h => nomatch h) (fun _ => ?_)
      walk_at "s"
      have ph := pf.had
      rw [hh] at ph
      refine w_field o TC.cls TC.had ph ?_
      walk_at "s"
      refine w_field o TC.cls TC.pact pf.pact ?_
      walk_at "s"
      refine w_ixD hp.pact rfl fun v iv => ?_
      walk_at "s"
      refine w_ixDI iv rfl ?_
      refine w_I0 (i := n) ?_
      walk_at "s"
      refine ⟨_, _, rfl, ?_⟩
      walk_at "s"
      exact q
theorem scPresser_does_count : FnScope ["self", "form"] ["self", "form"] (defScope sPresser_does_count) := ⟨rfl, rfl, rfl, by decide +kernel, rfl, by decide +kernel, by decide +kernel⟩
def sp_Presser_does_count (K : PySem.W.Frag) (CP : Addr) : Sp := fun vs H Q _ => ∃ (px dx pl : Addr) (pav x : V) (p : Pact) (s : Pre) (f : Form), vs = [.ref px, x] ∧ PreAt K CP H px dx pl pav p s ∧ Is K H x (formD f) ∧ f.count ≤ 1000 ∧ Q (.bl (countsF p s f)) H
theorem ok_Presser_does_count (T : Txt K mg) (TC : ClsPresser K CP) (F : TopM K CP "does_count" "Presser.does_count" sPresser_does_count) (M_Presser_sent : Mt P w K mg base CX0 1 CP "sent" ["self"] (sp_Presser_sent K CP)) (M_Presser_least_top : Mt P w K mg base CX0 2 CP "least_top" ["self"] (sp_Presser_least_top K CP)) : Mt P w K mg base CX0 3 CP "does_count" ["self", "form"] (sp_Presser_does_count K CP) := by
  refine F.mt TC.cls (fun _ _ _ _ _ _ us hl => match us, hl with | [_, _], _ => rfl) fun f fd F => F.ok scPresser_does_count (fun vs H Q E h => ?_) (fun cdv A outer s H vs Q E hr h => ?_)
  · obtain ⟨px, dx, pl, pav, x, p, s, f, rfl, _⟩ := h
    rfl
  · obtain ⟨px, dx, pl, pav, x, p, s, f, rfl, hp, ix, hc, q⟩ := h
    obtain ⟨fs, o, pf⟩ := hp.obj
    refine ⟨_, (pss_one (ps_ret (pe_cmpR op_gt (pe_op op_shl pe_int (pe_ixK (K := K) (pv 1) pe_int (fun _ _ => rfl))) (pe_op op_sub (pe_op (op_addK (K := K)) (pe_mt0 M_Presser_sent hr (pv 0)) (pe_ixK (K := K) (pe_ixK (K := K) (pe_fldK (K := K) (pv 0) rfl) pe_int (fun _ _ => rfl)) pe_int (fun _ _ => rfl))) (pe_mt0 M_Presser_least_top hr (pv 0))) (nomark _)))), ?_⟩
    walk_at "s"
    refine w_ixDI ix rfl ?_
    refine w_shl1 (by omega) ?_
    walk_at "s"
    refine w_self o (pf.no _ (by decide +kernel)) ?_
    walk_at "s"
    refine ⟨px, dx, pl, pav, p, s, rfl, hp, ?_⟩
    walk_at "s"
    refine w_field o TC.cls TC.pact pf.pact ?_
    walk_at "s"
    refine w_ixD hp.pact rfl fun v iv => ?_
    walk_at "s"
    refine w_ixDI iv rfl ?_
    walk_at "s"
    refine w_self o (pf.no _ (by decide +kernel)) ?_
    walk_at "s"
    refine ⟨px, dx, pl, pav, p, s, rfl, hp, ?_⟩
    walk_at "s"
    exact q
theorem scPresser_is_turn_of_whole : FnScope ["self", "anew"] ["self"] (defScope sPresser_is_turn_of_whole) := ⟨rfl, rfl, rfl, by decide +kernel, rfl, by decide +kernel, by decide +kernel⟩
def sp_Presser_is_turn_of_whole (K : PySem.W.Frag) (CP : Addr) : Sp := fun vs H Q _ => ∃ (px dx pl : Addr) (pav : V) (p : Pact) (s : Pre), vs = [.ref px] ∧ PreAt K CP H px dx pl pav p s ∧ Q (.bl (turnF p s)) H
theorem ok_Presser_is_turn_of_whole (T : Txt K mg) (TC : ClsPresser K CP) (F : TopM K CP "is_turn_of_whole" "Presser.is_turn_of_whole" sPresser_is_turn_of_whole) (M_Presser_sent : Mt P w K mg base CX0 1 CP "sent" ["self"] (sp_Presser_sent K CP)) : Mt P w K mg base CX0 2 CP "is_turn_of_whole" ["self"] (sp_Presser_is_turn_of_whole K CP) := by
  refine F.mt TC.cls (fun _ _ _ _ _ _ us hl => match us, hl with | [_], _ => rfl) fun f fd F => F.ok scPresser_is_turn_of_whole (fun vs H Q E h => ?_) (fun cdv A outer s H vs Q E hr h => ?_)
  · obtain ⟨px, dx, pl, pav, p, s, rfl, _⟩ := h
    rfl
  · obtain ⟨px, dx, pl, pav, p, s, rfl, hp, q⟩ := h
    obtain ⟨fs, o, pf⟩ := hp.obj
    refine ⟨_, (pss_cons (ps_set (i := 1) scPresser_is_turn_of_whole.nd rfl (Or.inl rfl) (pe_ixK (K := K) (pe_ixK (K := K) (pe_fldK (K := K) (pv 0) rfl) pe_int (fun _ _ => rfl)) pe_int (fun _ _ => rfl))) (pss_one (ps_ret (pe_and (pe_cmpR op_gt (pv 1) pe_int (nomark _)) (pe_one (pe_cmpR (op_eqK (K := K) hr.units) (pe_op op_mod (pe_mt0 M_Presser_sent hr (pv 0)) (pv 1)) pe_int (nomark _))))))), ?_⟩
    walk_at "s"
    refine w_field o TC.cls TC.pact pf.pact ?_
    walk_at "s"
    refine w_ixD hp.pact rfl fun v iv => ?_
    walk_at "s"
    refine w_ixDI iv rfl ?_
    walk_at "s"
    unfold turnF at q
    refine w_if (fun h => ?_) (fun h => ?_)
    · walk_at "s"
      refine w_self o (pf.no _ (by decide +kernel)) ?_
      walk_at "s"
      refine ⟨px, dx, pl, pav, p, s, rfl, hp, ?_⟩
      walk_at "s"
      refine w_mod h ?_
      walk_at "s"
      rw [decide_eq_true (show 0 < p.anew by omega), Bool.true_and] at q
      have e : decide ((s.past.length : Int) % (p.anew : Int) = 0) = decide (s.past.length % p.anew = 0) := decide_eq_decide.mpr (by omega)
      rw [e]
      exact q
    · rw [decide_eq_false (show ¬ 0 < p.anew by omega), Bool.false_and] at q
      exact q
end
end Sh
namespace Sh
open PySem L2 PySem.Spec PyProof.Rows
local macro_rules | `(tactic| walk_at "s1") => `(tactic| first
  | with_reducible refine w_seq ?_
  | with_reducible refine w_asg ?_
  | with_reducible refine w_name ?_
  | with_reducible refine w_ret ?_
  | with_reducible refine w_retN ?_
  | with_reducible refine w_drop ?_
  | with_reducible refine w_next ?_
  | with_reducible refine w_ifS ?_
  | ((with_reducible refine' w_var ?h ?_); (case h => rfl))
  | with_reducible refine w_c ?_
  | with_reducible refine w_op ?_
  | with_reducible refine w_un ?_
  | with_reducible refine w_sl ?_
  | with_reducible refine w_nopart ?_
  | with_reducible refine w_part ?_
  | with_reducible refine w_exint ?_
  | with_reducible refine w_exbl ?_
  | with_reducible refine w_exbl' ?_
  | with_reducible refine w_exint' ?_
  | with_reducible refine w_nn ?_
  | with_reducible refine w_test ?_
  | with_reducible refine w_B ?_
  | with_reducible refine w_and ?_
  | with_reducible refine w_or ?_
  | with_reducible refine w_not ?_
  | with_reducible refine w_andV ?_
  | with_reducible refine w_orV ?_
  | with_reducible refine w_notV ?_
  | with_reducible refine w_ifE ?_
  | with_reducible refine w_nil ?_
  | with_reducible refine w_cons ?_
  | with_reducible refine w_tup ?_
  | with_reducible refine w_lst ?_
  | with_reducible refine w_CB ?_
  | with_reducible refine w_fn ?_
  | with_reducible refine w_T ?_
  | with_reducible refine w_F ?_
  | with_reducible refine w_I0 ?_
  | with_reducible refine w_U ?_
  | with_reducible refine w_addI ?_
  | with_reducible refine w_eqI ?_
  | with_reducible refine w_neI ?_
  | with_reducible refine w_eqS ?_
  | with_reducible refine w_neS ?_
  | with_reducible refine w_for ?_
  | with_reducible refine w_rng1 ?_
  | with_reducible refine w_rng2 ?_
  | with_reducible refine w_iStr ?_
  | with_reducible refine w_iTup ?_
  | with_reducible refine w_iList ?_
  | with_reducible refine w_iEnumT ?_
  | with_reducible refine w_iZip3 ?_
  | with_reducible refine w_iZipA ?_
  | with_reducible refine w_BM ?_
  | with_reducible refine w_gCons ?_
  | with_reducible refine w_gNil ?_
  | ((with_reducible refine' w_gTup ?h ?e ?_); (case h => exact SqT.of upd_same); (case e => rfl))
  | ((with_reducible refine' w_aug ?h ?_); (case h => rfl))
  | with_reducible refine w_ip ?_
  | with_reducible refine w_lc ?_
  | with_reducible refine w_fld ?_
  | with_reducible refine w_chain ?_
  | with_reducible refine w_mt ?_
  | with_reducible refine w_fset ?_
  | with_reducible refine w_dget ?_
  | with_reducible refine w_din ?_
  | with_reducible refine w_dput ?_
  | with_reducible refine w_dnew ?_
  | with_reducible refine w_keys ?_
  | with_reducible refine w_nT ?_
  | with_reducible refine w_nF ?_
  | with_reducible refine w_rowIndex ?_)
local macro_rules | `(tactic| walk_at "s") => `(tactic| repeat (walk_at "s1"))
section
variable {P : Program} {w : World} {K : PySem.W.Frag} {mg : Str → Option Value} {base : Heap} {CP CR CO : Addr}
theorem scPresser_hindered : FnScope ["self", "head", "at", "form"] ["self", "head", "at"] (defScope sPresser_hindered) := ⟨rfl, rfl, rfl, by decide +kernel, rfl, by decide +kernel, by decide +kernel⟩
def sp_Presser_hindered (K : PySem.W.Frag) (CP : Addr) : Sp := fun vs H Q _ => ∃ (px dx pl : Addr) (pav x : V) (p : Pact) (s : Pre) (hd : List Int) (i : Nat) (f : Form), vs = [.ref px, x, .int i] ∧ PreAt K CP H px dx pl pav p s ∧ HeadOk p.fs hd ∧ Is K H x (headD hd) ∧ p.forms[i]? = some f ∧
  ∀ H' v, Chg [] H H' → (v = .non → Takes p s hd f) → Q v H'
theorem frm_ok {p : Pact} {s : Pre} {reach : Nat} (h : ∀ h ∈ s.past, HeadOk p.fs h) : ∀ r ∈ frm s.past reach, r.1 ≤ reach ∧ r.2.length = p.fs.length := by
  intro r hr
  unfold frm at hr
  obtain ⟨i, hi, rfl⟩ := List.mem_map.mp hr
  have hi := List.mem_range.mp hi
  refine ⟨by show i + 1 ≤ reach; omega, ?_⟩
  have hlt : s.past.length - 1 - i < s.past.length := by omega
  show (s.past.getD (s.past.length - 1 - i) []).length = _
  rw [List.getD_eq_getElem?_getD, List.getElem?_eq_getElem hlt]
  exact (h _ (List.getElem_mem hlt)).len
theorem ok_Presser_hindered (T : Txt K mg) (TC : ClsPresser K CP) (F : TopM K CP "hindered" "Presser.hindered" sPresser_hindered) (F_doubt : Fk P w K mg base CX0 6 "doubt" ["shape", "form", "head", "formers"] (sp_doubt K)) (M_Presser_formers : Mt P w K mg base CX0 1 CP "formers" ["self", "reach"] (sp_Presser_formers K CP)) (M_Presser_does_count : Mt P w K mg base CX0 3 CP "does_count" ["self", "form"] (sp_Presser_does_count K CP)) (M_Presser_is_shared : Mt P w K mg base CX0 3 CP "is_shared" ["self", "form"] (sp_Presser_is_shared K CP)) (M_Presser_is_turn_of_whole : Mt P w K mg base CX0 2 CP "is_turn_of_whole" ["self"] (sp_Presser_is_turn_of_whole K CP)) : Mt P w K mg base CX0 7 CP "hindered" ["self", "head", "at"] (sp_Presser_hindered K CP) := by
  refine F.mt TC.cls (fun _ _ _ _ _ _ us hl => match us, hl with | [_, _, _], _ => rfl) fun f fd F => F.ok scPresser_hindered (fun vs H Q E h => ?_) (fun cdv A outer s H vs Q E hr h => ?_)
  · obtain ⟨px, dx, pl, pav, x, p, s, hd, i, f, rfl, _⟩ := h
    rfl
  · obtain ⟨px, dx, pl, pav, x, p, s, hd, i, f, rfl, hp, hh, ix, ef, q⟩ := h
    obtain ⟨fs, o, pf⟩ := hp.obj
    have hf := hp.ok.forms i f ef
    refine ⟨_, (pss_cons (ps_set (i := 3) scPresser_hindered.nd rfl (Or.inl rfl) (pe_ixK (K := K) (pe_ixK (K := K) (pe_fldK (K := K) (pv 0) rfl) pe_int (fun _ _ => rfl)) (pv 2) (fun _ _ => rfl))) (pss_cons (ps_if (pt_val (pe_mt0 M_Presser_is_turn_of_whole hr (pv 0))) (pss_one (ps_ret pe_str)) pss_nil) (pss_cons (ps_if (pt_not (pt_val (pe_mt M_Presser_is_shared hr (pv 0) (pa_cons (pv 3) pa_nil)))) (pss_one (ps_ret pe_str)) pss_nil) (pss_cons (ps_if (pt_not (pt_val (pe_mt M_Presser_does_count hr (pv 0) (pa_cons (pv 3) pa_nil)))) (pss_one (ps_ret pe_str)) pss_nil) (pss_one (ps_ret (pe_fn F_doubt hr rfl (pa_cons (pe_ixK (K := K) (pe_fldK (K := K) (pv 0) rfl) pe_int (fun _ _ => rfl)) (pa_cons (pv 3) (pa_cons (pv 1) (pa_cons (pe_mt M_Presser_formers hr (pv 0) (pa_cons (pe_ixK (K := K) (pv 3) pe_int (fun _ _ => rfl)) pa_nil)) pa_nil))))))))))), ?_⟩
    walk_at "s"
    refine w_field o TC.cls TC.pact pf.pact ?_
    walk_at "s"
    refine w_ixD hp.pact rfl fun v iv => ?_
    walk_at "s"
    refine w_ixM iv ef fun u iu => ?_
    walk_at "s"
    refine w_self o (pf.no _ (by decide +kernel)) ?_
    walk_at "s"
    refine ⟨px, dx, pl, pav, p, s, rfl, hp, ?_⟩
    walk_at "s"
    cases turnF p s with
    | true =>
      walk_at "s"
      exact q _ _ Chg.refl (fun h => nomatch h)
    | false =>
      walk_at "s"
      refine w_self o (pf.no _ (by decide +kernel)) ?_
      walk_at "s"
      refine ⟨px, dx, pl, pav, u, p, s, f, rfl, hp, iu, ?_⟩
      walk_at "s"
      cases isSharedF p s f with
      | false =>
        walk_at "s"
        exact q _ _ Chg.refl (fun h => nomatch h)
      | true =>
        walk_at "s"
        refine w_self o (pf.no _ (by decide +kernel)) ?_
        walk_at "s"
        refine ⟨px, dx, pl, pav, u, p, s, f, rfl, hp, iu, by have := hf.c2; omega, ?_⟩
        walk_at "s"
        cases hc : countsF p s f with
        | false =>
          walk_at "s"
          exact q _ _ Chg.refl (fun h => nomatch h)
        | true =>
          walk_at "s"
          refine w_field o TC.cls TC.pact pf.pact ?_
          walk_at "s"
          refine w_ixD hp.pact rfl fun v2 iv2 => ?_
          walk_at "s"
          refine w_self o (pf.no _ (by decide +kernel)) ?_
          walk_at "s"
          refine w_ixDI iu rfl ?_
          walk_at "s"
          refine ⟨px, dx, pl, pav, p, s, f.reach, rfl, hp, fun H1 v1 c1 i1 => ?_⟩
          walk_at "s"
          have ho := frm_ok (reach := f.reach) hp.heads
          refine ⟨_, _, _, _, p.fs, p.m, f, hd, frm s.past f.reach, rfl, hp.ok.shape, hf, hh.len, fun r hr => ⟨?_, (ho r hr).2⟩, ?_, iv2.on c1, iu.on c1, ix.on c1, i1, fun H2 v2 c2 h2 => ?_⟩
          · have := (ho r hr).1
            have := hf.r2
            omega
          · unfold frm
            rw [List.length_map, List.length_range]
            have := hf.r2
            omega
          · exact q _ _ (c1.trans c2) fun e => ⟨hc, h2 e⟩
theorem scPresser_look_at : FnScope ["self", "head"] ["self", "head"] (defScope sPresser_look_at) := ⟨rfl, rfl, rfl, by decide +kernel, rfl, by decide +kernel, by decide +kernel⟩
def sp_Presser_look_at (K : PySem.W.Frag) (CP : Addr) : Sp := fun vs H Q _ => ∃ (px dx pl : Addr) (pav x : V) (p : Pact) (s : Pre) (hd : List Int), vs = [.ref px, x] ∧ PreAt K CP H px dx pl pav p s ∧ HeadOk p.fs hd ∧ Is K H x (headD hd) ∧ ∀ H', Chg [] H H' → Q .non H'
theorem ok_Presser_look_at (T : Txt K mg) (TC : ClsPresser K CP) (F : TopM K CP "look_at" "Presser.look_at" sPresser_look_at) (F_is_head : Fk P w K mg base CX0 4 "is_head" ["shape", "thing"] (sp_is_head K)) : Mt P w K mg base CX0 5 CP "look_at" ["self", "head"] (sp_Presser_look_at K CP) := by
  refine F.mt TC.cls (fun _ _ _ _ _ _ us hl => match us, hl with | [_, _], _ => rfl) fun f fd F => F.ok scPresser_look_at (fun vs H Q E h => ?_) (fun cdv A outer s H vs Q E hr h => ?_)
  · obtain ⟨px, dx, pl, pav, x, p, s, hd, rfl, _⟩ := h
    rfl
  · obtain ⟨px, dx, pl, pav, x, p, s, hd, rfl, hp, hh, ix, q⟩ := h
    obtain ⟨fs, o, pf⟩ := hp.obj
    refine ⟨_, (pss_one (ps_if (pt_not (pt_val (pe_fn F_is_head hr rfl (pa_cons (pe_ixK (K := K) (pe_fldK (K := K) (pv 0) rfl) pe_int (fun _ _ => rfl)) (pa_cons (pv 1) pa_nil))))) (pss_one ps_never) pss_nil)), ?_⟩
    walk_at "s"
    refine w_field o TC.cls TC.pact pf.pact ?_
    walk_at "s"
    refine w_ixD hp.pact rfl fun v iv => ?_
    walk_at "s"
    refine ⟨_, _, p.fs, p.m, hd, rfl, hp.ok.shape, hh, iv, ix, fun H1 c1 => ?_⟩
    walk_at "s"
    exact q H1 c1
theorem scPresser_usable : FnScope ["self", "head", "at"] ["self", "head"] (defScope sPresser_usable) := ⟨rfl, rfl, rfl, by decide +kernel, rfl, by decide +kernel, by decide +kernel⟩
def sp_Presser_usable (K : PySem.W.Frag) (CP : Addr) : Sp := fun vs H Q _ => ∃ (px dx pl : Addr) (pav x : V) (p : Pact) (s : Pre) (hd : List Int), vs = [.ref px, x] ∧ PreAt K CP H px dx pl pav p s ∧ HeadOk p.fs hd ∧ Is K H x (headD hd) ∧
  ∀ H' a (ns : List Int), Chg [] H H' → Tp K H' a (ns.map V.int) → (∀ n ∈ ns, ∃ (i : Nat) (f : Form), n = (i : Int) ∧ p.forms[i]? = some f ∧ Takes p s hd f) → ns.length ≤ 1000 → Q (.ref a) H'
theorem ok_Presser_usable (T : Txt K mg) (TC : ClsPresser K CP) (F : TopM K CP "usable" "Presser.usable" sPresser_usable) (M_Presser_hindered : Mt P w K mg base CX0 7 CP "hindered" ["self", "head", "at"] (sp_Presser_hindered K CP)) (M_Presser_look_at : Mt P w K mg base CX0 5 CP "look_at" ["self", "head"] (sp_Presser_look_at K CP)) : Mt P w K mg base CX0 8 CP "usable" ["self", "head"] (sp_Presser_usable K CP) := by
  refine F.mt TC.cls (fun _ _ _ _ _ _ us hl => match us, hl with | [_, _], _ => rfl) fun f fd F => F.ok scPresser_usable (fun vs H Q E h => ?_) (fun cdv A outer s H vs Q E hr h => ?_)
  · obtain ⟨px, dx, pl, pav, x, p, s, hd, rfl, _⟩ := h
    rfl
  · obtain ⟨px, dx, pl, pav, x, p, s, hd, rfl, hp, hh, ix, q⟩ := h
    obtain ⟨fs, o, pf⟩ := hp.obj
    have hfew := hp.ok.few
    refine ⟨_, (pss_cons (ps_expr (pe_mt M_Presser_look_at hr (pv 0) (pa_cons (pv 1) pa_nil))) (pss_one (ps_ret (pe_callTy (call_tupleK (K := K)) (by rfl) T.b_tuple (by decide +kernel) (pa_cons (pe_lc (own := [("at", 2)]) rfl scPresser_usable.nd (pi_range1 (by rfl) T.b_range (pa_cons (pe_callB (call_lenK (K := K)) (by rfl) T.b_len PySem.boot_len (pa_cons (pe_ixK (K := K) (pe_fldK (K := K) (pv 0) rfl) pe_int (fun _ _ => rfl)) pa_nil)) pa_nil)) (blkOk_by (own := [("at", 2)]) (N := ["self", "head", "at"]) (sc := defScope sPresser_usable) (by decide +kernel)) (fun _ _ _ _ _ => (pg_name (i := 2) scPresser_usable.nd rfl (Or.inl rfl))) (fun _ _ _ _ _ => (pts_one (pt_cmpR op_isN (pe_mt M_Presser_hindered hr (pv 0) (pa_cons (pv 1) (pa_cons (pv 2) pa_nil))) pe_non (nomark _)))) (fun _ _ _ _ _ => (pv 2))) pa_nil))))), ?_⟩
    walk_at "s"
    refine w_self o (pf.no _ (by decide +kernel)) ?_
    walk_at "s"
    refine ⟨px, dx, pl, pav, x, p, s, hd, rfl, hp, hh, ix, fun H0 c0 => ?_⟩
    walk_at "s"
    have o0 := c0.keep _ _ o (by simp)
    refine w_field o0 TC.cls TC.pact pf.pact ?_
    walk_at "s"
    refine w_ixD (hp.pact.on c0) rfl fun v iv => ?_
    walk_at "s"
    refine w_lenD iv ?_
    walk_at "s"
    refine ⟨_, rfl, by omega, by rw [List.length_map]; omega, fun D hD => ?_⟩
    refine lc_it walk_range (fun i H1 => Chg [] H0 H1 ∧ ∃ ns : List Int, H1 D = some (.lst (ns.map V.int)) ∧ (∀ n ∈ ns, ∃ (i : Nat) (f : Form), n = (i : Int) ∧ p.forms[i]? = some f ∧ Takes p s hd f) ∧ ns.length ≤ i) ⟨Chg.new hD, [], upd_same, by simp, by simp⟩ (fun _ _ _ _ => trivial) (fun i x' H1 H2 hi hP hY => ?_) fun H1 hP => ?_
    · obtain ⟨c1, ns, hL, hns, hle⟩ := hP
      obtain ⟨rfl, rfl⟩ := hY
      have hi2 : i < p.forms.length := by
        rw [List.length_map] at hi
        omega
      obtain ⟨f, ef⟩ : ∃ f, p.forms[i]? = some f := ⟨_, List.getElem?_eq_getElem hi2⟩
      walk_at "s"
      refine ⟨rfl, ?_⟩
      walk_at "s"
      have c01 := c0.trans c1
      refine w_self (c01.keep _ _ o (by simp)) (pf.no _ (by decide +kernel)) ?_
      walk_at "s"
      refine ⟨px, dx, pl, pav, x, p, s, hd, i, f, by show [V.ref px, x, V.int (0 + (i : Int))] = _; rw [Int.zero_add], hp.calm c01, hh, ix.on c01, ef, fun H3 v3 c3 h3 => ?_⟩
      walk_at "s"
      refine w_if (fun h => ?_) (fun h => ?_)
      · walk_at "s"
        have hL3 := c3.keep _ _ hL (by simp)
        refine ⟨_, hL3, sl1000 (by simp; omega), (c1.trans c3).mut hD, ns ++ [(i : Int)], ?_, ?_, by simp; omega⟩
        · rw [upd_same, List.map_append]
          congr 3
          show [V.int (0 + (i : Int))] = [V.int i]
          rw [show (0 : Int) + (i : Int) = (i : Int) by omega]
        · intro n hn
          rcases List.mem_append.mp hn with z | z
          · exact hns n z
          · exact ⟨i, f, by simpa using z, ef, h3 h⟩
      · exact ⟨c1.trans c3, ns, c3.keep _ _ hL (by simp), hns, by omega⟩
    · obtain ⟨c1, ns, hL, hns, hle⟩ := hP
      rw [List.length_map] at hle
      walk_at "s"
      refine ⟨D, _, rfl, SqL.of hL, fun r o' hr _ _ => ?_⟩
      exact q _ _ ns ((c0.trans c1).trans (Chg.new hr)) (.inl (.inr ⟨o', upd_same⟩)) hns (by omega)
theorem scPresser_chosen : FnScope ["self", "head", "found", "at"] ["self", "head"] (defScope sPresser_chosen) := ⟨rfl, rfl, rfl, by decide +kernel, rfl, by decide +kernel, by decide +kernel⟩
def sp_Presser_chosen (K : PySem.W.Frag) (CP : Addr) : Sp := fun vs H Q _ => ∃ (px dx pl : Addr) (pav x : V) (p : Pact) (s : Pre) (hd : List Int), vs = [.ref px, x] ∧ PreAt K CP H px dx pl pav p s ∧ HeadOk p.fs hd ∧ Is K H x (headD hd) ∧
  ∀ H' a, Chg [] H H' → AtOk p a → TakesAt p s hd a → sizeL p a ≤ sizeL p none → Q (atV a) H'
theorem ok_Presser_chosen (T : Txt K mg) (TC : ClsPresser K CP) (F : TopM K CP "chosen" "Presser.chosen" sPresser_chosen) (M_Presser_usable : Mt P w K mg base CX0 8 CP "usable" ["self", "head"] (sp_Presser_usable K CP)) (F_letter_size : Fk P w K mg base CX0 4 "letter_size" ["pact", "at"] (sp_letter_size K)) : Mt P w K mg base CX0 9 CP "chosen" ["self", "head"] (sp_Presser_chosen K CP) := by
  refine F.mt TC.cls (fun _ _ _ _ _ _ us hl => match us, hl with | [_, _], _ => rfl) fun f fd F => F.ok scPresser_chosen (fun vs H Q E h => ?_) (fun cdv A outer s H vs Q E hr h => ?_)
  · obtain ⟨px, dx, pl, pav, x, p, s, hd, rfl, _⟩ := h
    rfl
  · obtain ⟨px, dx, pl, pav, x, p, s, hd, rfl, hp, hh, ix, q⟩ := h
    obtain ⟨fs, o, pf⟩ := hp.obj
    refine ⟨_, (pss_cons (ps_set (i := 2) scPresser_chosen.nd rfl (Or.inl rfl) pe_non) (pss_cons (ps_for PassesOwn.never rfl (pi_tupK (K := K) (pe_mt M_Presser_usable hr (pv 0) (pa_cons (pv 1) pa_nil))) (pg_name (i := 3) scPresser_chosen.nd rfl (Or.inl rfl)) (pss_one (ps_if (pt_cmpR op_lt (pe_fn F_letter_size hr rfl (pa_cons (pe_fldK (K := K) (pv 0) rfl) (pa_cons (pv 3) pa_nil))) (pe_fn F_letter_size hr rfl (pa_cons (pe_fldK (K := K) (pv 0) rfl) (pa_cons (pv 2) pa_nil))) (nomark _)) (pss_one (ps_set (i := 2) scPresser_chosen.nd rfl (Or.inl rfl) (pv 3))) pss_nil))) (pss_one (ps_ret (pv 2))))), ?_⟩
    walk_at "s"
    refine w_self o (pf.no _ (by decide +kernel)) ?_
    walk_at "s"
    refine ⟨px, dx, pl, pav, x, p, s, hd, rfl, hp, hh, ix, fun H0 u ns c0 hT hns hle => ?_⟩
    refine ⟨_, rfl, ⟨_, hT.sq⟩, for_it (walk_tup (xs := ns.map V.int)) (fun i σ H' => ∃ a b, σ = [some (.ref px), some x, some (atV a), b] ∧ Chg [] H0 H' ∧ AtOk p a ∧ TakesAt p s hd a ∧ sizeL p a ≤ sizeL p none) ⟨none, none, rfl, Chg.refl, (fun _ _ h => nomatch h), (fun _ _ h => nomatch h), Nat.le_refl _⟩ (fun i σ H' _ h => by obtain ⟨_, _, _, c, _⟩ := h; exact (hT.mono c).sq) ?_ ?_⟩
    · rintro i v σ H1 H2 hi ⟨a, b, rfl, c1, ha, ht, hsz⟩ ⟨rfl, e1⟩
      rw [List.getElem?_map] at e1
      obtain ⟨n, en, rfl⟩ := Option.map_eq_some_iff.mp e1
      obtain ⟨j, f, rfl, ej, hj⟩ := hns n (List.mem_of_getElem? en)
      have c01 := c0.trans c1
      have o1 := c01.keep _ _ o (by simp)
      have ha2 : AtOk p (some (j, f)) := fun k g h => by cases h; exact ej
      walk_at "s"
      refine w_field o1 TC.cls TC.pact pf.pact ?_
      walk_at "s"
      refine ⟨_, p, some (j, f), rfl, hp.ok, ha2, hp.pact.on c01, fun H3 c3 => ?_⟩
      walk_at "s"
      refine w_field (c3.keep _ _ o1 (by simp)) TC.cls TC.pact pf.pact ?_
      walk_at "s"
      refine ⟨_, p, a, rfl, hp.ok, ha, hp.pact.on (c01.trans c3), fun H4 c4 => ?_⟩
      walk_at "s"
      refine w_if (fun h => ?_) (fun h => ?_)
      · walk_at "s"
        exact ⟨some (j, f), _, rfl, (c1.trans c3).trans c4, ha2, (fun k g h => by cases h; exact hj), by omega⟩
      · walk_at "s"
        exact ⟨a, _, rfl, (c1.trans c3).trans c4, ha, ht, hsz⟩
    · rintro σ H1 ⟨a, b, rfl, c1, ha, ht, hsz⟩
      walk_at "s"
      exact q H1 a (c0.trans c1) ha ht hsz
theorem scPresser_press : FnScope ["self", "head", "number", "at"] ["self", "head"] (defScope sPresser_press) := ⟨rfl, rfl, rfl, by decide +kernel, rfl, by decide +kernel, by decide +kernel⟩
def sp_Presser_press (K : PySem.W.Frag) (CP : Addr) : Sp := fun vs H Q _ => ∃ (px dx pl : Addr) (pav x : V) (p : Pact) (s : Pre) (hd : List Int), vs = [.ref px, x] ∧ PreAt K CP H px dx pl pav p s ∧ px ≠ pl ∧ HeadOk p.fs hd ∧ Is K H x (headD hd) ∧ s.past.length ≤ 400 ∧
  ∀ H' a, Chg [pl] H H' → PreAt K CP H' px dx pl pav p { s with past := s.past ++ [hd] } → AtOk p a → TakesAt p s hd a → sizeL p a ≤ sizeL p none → Q (.str (S (letterOf p a s.past.length hd))) H'
theorem ok_Presser_press (T : Txt K mg) (TC : ClsPresser K CP) (F : TopM K CP "press" "Presser.press" sPresser_press) (F_pressed_letter : Fk P w K mg base CX0 4 "pressed_letter" ["pact", "at", "number", "head"] (sp_pressed_letter K)) (F_whole_letter : Fk P w K mg base CX0 4 "whole_letter" ["pact", "number", "head"] (sp_whole_letter K)) (M_Presser_chosen : Mt P w K mg base CX0 9 CP "chosen" ["self", "head"] (sp_Presser_chosen K CP)) (M_Presser_sent : Mt P w K mg base CX0 1 CP "sent" ["self"] (sp_Presser_sent K CP)) (M_Presser_look_at : Mt P w K mg base CX0 5 CP "look_at" ["self", "head"] (sp_Presser_look_at K CP)) : Mt P w K mg base CX0 10 CP "press" ["self", "head"] (sp_Presser_press K CP) := by
  refine F.mt TC.cls (fun _ _ _ _ _ _ us hl => match us, hl with | [_, _], _ => rfl) fun f fd F => F.ok scPresser_press (fun vs H Q E h => ?_) (fun cdv A outer s H vs Q E hr h => ?_)
  · obtain ⟨px, dx, pl, pav, x, p, s, hd, rfl, _⟩ := h
    rfl
  · obtain ⟨px, dx, pl, pav, x, p, s, hd, rfl, hp, hne, hh, ix, hfew, q⟩ := h
    obtain ⟨fs, o, pf⟩ := hp.obj
    have hw1 := hp.ok.w1
    have hw2 := hp.ok.w2
    have hpow : (2 : Int) ^ p.wide ≥ 512 := by
      have : (2 : Nat) ^ 9 ≤ 2 ^ p.wide := Nat.pow_le_pow_right (by decide) hw1
      have e : ((2 : Int) ^ p.wide) = ((2 ^ p.wide : Nat) : Int) := by simp
      rw [e]
      omega
    refine ⟨_, (pss_cons (ps_expr (pe_mt M_Presser_look_at hr (pv 0) (pa_cons (pv 1) pa_nil))) (pss_cons (ps_set (i := 2) scPresser_press.nd rfl (Or.inl rfl) (pe_mt0 M_Presser_sent hr (pv 0))) (pss_cons (ps_if (pt_cmpR op_ge (pv 2) (pe_op op_shl pe_int (pe_ixK (K := K) (pe_fldK (K := K) (pv 0) rfl) pe_int (fun _ _ => rfl))) (nomark _)) (pss_one ps_never) pss_nil) (pss_cons (ps_set (i := 3) scPresser_press.nd rfl (Or.inl rfl) (pe_mt M_Presser_chosen hr (pv 0) (pa_cons (pv 1) pa_nil))) (pss_cons (ps_expr (pe_bmK (K := K) PySem.F.plainAttrs_list PySem.F.slot_list_append PySem.F.type_list_append mt_append (pe_fldK (K := K) (pv 0) rfl) (pa_cons (pv 1) pa_nil))) (pss_cons (ps_if (pt_cmpR op_isN (pv 3) pe_non (nomark _)) (pss_one (ps_ret (pe_fn F_whole_letter hr rfl (pa_cons (pe_fldK (K := K) (pv 0) rfl) (pa_cons (pv 2) (pa_cons (pv 1) pa_nil)))))) pss_nil) (pss_one (ps_ret (pe_fn F_pressed_letter hr rfl (pa_cons (pe_fldK (K := K) (pv 0) rfl) (pa_cons (pv 3) (pa_cons (pv 2) (pa_cons (pv 1) pa_nil))))))))))))), ?_⟩
    walk_at "s"
    refine w_self o (pf.no _ (by decide +kernel)) ?_
    walk_at "s"
    refine ⟨px, dx, pl, pav, x, p, s, hd, rfl, hp, hh, ix, fun H0 c0 => ?_⟩
    have hp0 := hp.calm c0
    have o0 := c0.keep _ _ o (by simp)
    walk_at "s"
    refine w_self o0 (pf.no _ (by decide +kernel)) ?_
    walk_at "s"
    refine ⟨px, dx, pl, pav, p, s, rfl, hp0, ?_⟩
    walk_at "s"
    refine w_field o0 TC.cls TC.pact pf.pact ?_
    walk_at "s"
    refine w_ixDI hp0.pact rfl ?_
    refine w_shl1 (by omega) ?_
    walk_at "s"
    refine w_ifF (by omega) ?_
    walk_at "s"
    refine w_self o0 (pf.no _ (by decide +kernel)) ?_
    walk_at "s"
    refine ⟨px, dx, pl, pav, x, p, s, hd, rfl, hp0, hh, ix.on c0, fun H1 a c1 ha ht hsz => ?_⟩
    have c01 := c0.trans c1
    have hp1 := hp.calm c01
    obtain ⟨xs, hx, hi⟩ := hp1.lst
    have hxs : xs.length = s.past.length := by rw [hi.length, List.length_map]
    have o1 := c01.keep _ _ o (by simp)
    walk_at "s"
    refine w_field o1 TC.cls TC.past pf.past ?_
    refine ⟨.inl ⟨rfl, _, SqL.of hx⟩, ?_⟩
    walk_at "s"
    refine ⟨pl, _, _, rfl, rfl, hx, sl1000 (by omega), ?_⟩
    have c2 : Chg [pl] H1 (upd H1 pl (.lst (xs ++ [x]))) := Chg.refl.put (by simp) hx rfl
    have o2 : upd H1 pl (.lst (xs ++ [x])) px = some (.ins CP dx fs) := by rw [upd_ne hne]; exact o1
    have c3 : Chg [pl] H (upd H1 pl (.lst (xs ++ [x]))) := c01.nil.trans c2
    have hp2 : PreAt K CP (upd H1 pl (.lst (xs ++ [x]))) px dx pl pav p { s with past := s.past ++ [hd] } := by
      refine ⟨⟨fs, o2, ⟨pf.pact, pf.past, pf.had, pf.base, pf.fresh, pf.no, pf.len⟩⟩, ⟨_, upd_same, ?_⟩, hp.pact.on c3, hp.ok, ?_, by simp; omega⟩
      · rw [List.map_append]
        exact (hi.on c2).append (Iss.one (ix.on c3))
      · intro h hm
        rcases List.mem_append.mp hm with z | z
        · exact hp.heads h z
        · have : h = hd := by simpa using z
          rw [this]
          exact hh
    walk_at "s"
    match a, ha, ht, hsz with
    | none, ha, ht, hsz =>
      refine w_ifT rfl ?_
      walk_at "s"
      refine w_field o2 TC.cls TC.pact pf.pact ?_
      walk_at "s"
      refine ⟨_, _, p, s.past.length, hd, rfl, hp.ok, hh.len, hp.pact.on c3, ix.on c3, fun H3 c4 => ?_⟩
      have e := q H3 none (c3.trans c4.nil) (hp2.calm c4) ha ht hsz
      unfold letterOf at e
      rw [Int.emod_eq_of_lt (by omega) (by show (s.past.length : Int) < 2 ^ p.wide; omega)] at e
      exact e
    | some (i, f), ha, ht, hsz =>
      refine w_ifF (fun h => nomatch h) ?_
      walk_at "s"
      refine w_field o2 TC.cls TC.pact pf.pact ?_
      walk_at "s"
      refine ⟨_, _, p, i, f, s.past.length, hd, rfl, hp.ok, ha i f rfl, hh.len, hp.pact.on c3, ix.on c3, fun H3 c4 => ?_⟩
      exact q H3 (some (i, f)) (c3.trans c4.nil) (hp2.calm c4) ha ht hsz
theorem scPresser_is_had : FnScope ["self", "word"] ["self", "word"] (defScope sPresser_is_had) := ⟨rfl, rfl, rfl, by decide +kernel, rfl, by decide +kernel, by decide +kernel⟩
def sp_Presser_is_had (K : PySem.W.Frag) (CP : Addr) : Sp := fun vs H Q _ => ∃ (px dx pl : Addr) (pav x : V) (p : Pact) (s : Pre) (n : Nat), vs = [.ref px, x] ∧ PreAt K CP H px dx pl pav p s ∧ Is K H x (wordD (some n)) ∧ n < s.past.length ∧ Q (.bl true) H
theorem ok_Presser_is_had (T : Txt K mg) (TC : ClsPresser K CP) (F : TopM K CP "is_had" "Presser.is_had" sPresser_is_had) (F_is_between : Fk P w K mg base CX0 2 "is_between" ["thing", "least", "most"] (sp_is_between K)) (M_Presser_sent : Mt P w K mg base CX0 1 CP "sent" ["self"] (sp_Presser_sent K CP)) : Mt P w K mg base CX0 3 CP "is_had" ["self", "word"] (sp_Presser_is_had K CP) := by
  refine F.mt TC.cls (fun _ _ _ _ _ _ us hl => match us, hl with | [_, _], _ => rfl) fun f fd F => F.ok scPresser_is_had (fun vs H Q E h => ?_) (fun cdv A outer s H vs Q E hr h => ?_)
  · obtain ⟨px, dx, pl, pav, x, p, s, n, rfl, _⟩ := h
    rfl
  · obtain ⟨px, dx, pl, pav, x, p, s, n, rfl, hp, ix, hn, q⟩ := h
    obtain ⟨fs, o, pf⟩ := hp.obj
    refine ⟨_, (pss_one (ps_ret (pe_and (pe_cmpR (op_eqK (K := K) hr.units) (pe_callB (call_lenK (K := K)) (by rfl) T.b_len PySem.boot_len (pa_cons (pv 1) pa_nil)) pe_int (nomark _)) (pe_and (pe_cmpR (op_eqK (K := K) hr.units) (pe_ixK (K := K) (pv 1) pe_int (fun _ _ => rfl)) pe_str (nomark _)) (pe_one (pe_fn F_is_between hr rfl (pa_cons (pe_ixK (K := K) (pv 1) pe_int (fun _ _ => rfl)) (pa_cons pe_int (pa_cons (pe_op op_sub (pe_mt0 M_Presser_sent hr (pv 0)) pe_int) pa_nil))))))))), ?_⟩
    walk_at "s"
    refine w_lenD ix ?_
    walk_at "s"
    refine w_ifT rfl ?_
    walk_at "s"
    refine w_ixDS ix rfl ?_
    walk_at "s"
    refine w_ifT (by decide +kernel) ?_
    walk_at "s"
    refine w_ixDI ix rfl ?_
    walk_at "s"
    refine w_self o (pf.no _ (by decide +kernel)) ?_
    walk_at "s"
    refine ⟨px, dx, pl, pav, p, s, rfl, hp, ?_⟩
    walk_at "s"
    refine ⟨_, _, _, rfl, ?_⟩
    rw [decide_eq_true (by omega)]
    exact q
theorem scPresser_heard : FnScope ["self", "word"] ["self", "word"] (defScope sPresser_heard) := ⟨rfl, rfl, rfl, by decide +kernel, rfl, by decide +kernel, by decide +kernel⟩
def sp_Presser_heard (K : PySem.W.Frag) (CP : Addr) : Sp := fun vs H Q _ => ∃ (px dx pl : Addr) (pav x : V) (p : Pact) (s : Pre) (wd : Option Nat), vs = [.ref px, x] ∧ PreAt K CP H px dx pl pav p s ∧ px ≠ pl ∧ Is K H x (wordD wd) ∧ (∀ n, wd = some n → n < s.past.length) ∧
  ∀ H', Chg [px] H H' → PreAt K CP H' px dx pl pav p (hearF s wd) → Q .non H'
theorem ok_Presser_heard (T : Txt K mg) (TC : ClsPresser K CP) (F : TopM K CP "heard" "Presser.heard" sPresser_heard) (M_Presser_sent : Mt P w K mg base CX0 1 CP "sent" ["self"] (sp_Presser_sent K CP)) (M_Presser_is_had : Mt P w K mg base CX0 3 CP "is_had" ["self", "word"] (sp_Presser_is_had K CP)) (F_greater : Fk P w K mg base CX0 1 "greater" ["one", "other"] (sp_greater K)) : Mt P w K mg base CX0 4 CP "heard" ["self", "word"] (sp_Presser_heard K CP) := by
  refine F.mt TC.cls (fun _ _ _ _ _ _ us hl => match us, hl with | [_, _], _ => rfl) fun f fd F => F.ok scPresser_heard (fun vs H Q E h => ?_) (fun cdv A outer s H vs Q E hr h => ?_)
  · obtain ⟨px, dx, pl, pav, x, p, s, wd, rfl, _⟩ := h
    rfl
  · obtain ⟨px, dx, pl, pav, x, p, s, wd, rfl, hp, hne, ix, hwd, q⟩ := h
    obtain ⟨fs, o, pf⟩ := hp.obj
    obtain ⟨xs, hx, hi⟩ := hp.lst
    have ty : TyX K H x (.type "tuple") := by
      cases wd with
      | none => exact Is.tyX ix
      | some n => exact Is.tyX ix
    have hty : TyX K H (.str "have") (.type "str") := .base (.str _)
    have hp2 : ∀ s2 fs2, PreF fs2 pav pl s2 → s2.past = s.past → ∀ H1, Chg [px] H H1 → Chg [px] H1 (upd H1 px (.ins CP dx fs2)) → PreAt K CP (upd H1 px (.ins CP dx fs2)) px dx pl pav p s2 := by
      intro s2 fs2 pf2 e H1 c1 c2
      have c := c1.trans c2
      refine ⟨⟨fs2, upd_same, pf2⟩, ⟨xs, ?_, ?_⟩, hp.pact.on c, hp.ok, ?_, ?_⟩
      · exact c.keep _ _ hx (by simpa using Ne.symm hne)
      · rw [e]; exact hi.on c
      · rw [e]; exact hp.heads
      · rw [e]; exact hp.few
    refine ⟨_, (pss_cons (ps_if (PW.pt (pw_or (pt_not (pt_val (pe_callB (call_isiK' (K := K)) (by rfl) T.b_isinstance (by decide +kernel) (pa_cons (pv 1) (pa_cons (pe_bltn (v := .ty "tuple") (by rfl) T.b_tuple (by decide +kernel) rfl) pa_nil))))) (pw_or (pt_cmpR (op_eqK (K := K) hr.units) (pe_callB (call_lenK (K := K)) (by rfl) T.b_len PySem.boot_len (pa_cons (pv 1) pa_nil)) pe_int (nomark _)) (pw_or1 (pt_not (pt_val (pe_callB (call_isiK' (K := K)) (by rfl) T.b_isinstance (by decide +kernel) (pa_cons (pe_ixK (K := K) (pv 1) pe_int (fun _ _ => rfl)) (pa_cons (pe_bltn (v := .ty "str") (by rfl) T.b_str (by decide +kernel) rfl) pa_nil))))))))) (pss_one ps_never) pss_nil) (pss_one (ps_if (pt_cmpR (op_eqK (K := K) hr.units) (pv 1) (pe_tup (pa_cons pe_str pa_nil)) (nomark _)) (pss_cons (ps_fldK (K := K) (pv 0) pe_non rfl) (pss_one (ps_fldK (K := K) (pv 0) (pe_mt0 M_Presser_sent hr (pv 0)) rfl))) (pss_one (ps_if (pt_val (pe_mt M_Presser_is_had hr (pv 0) (pa_cons (pv 1) pa_nil))) (pss_cons (ps_fldK (K := K) (pv 0) (pe_fn F_greater hr rfl (pa_cons (pe_fldK (K := K) (pv 0) rfl) (pa_cons (pe_ixK (K := K) (pv 1) pe_int (fun _ _ => rfl)) pa_nil))) rfl) (pss_one (ps_if (pt_cmpR op_ge (pe_ixK (K := K) (pv 1) pe_int (fun _ _ => rfl)) (pe_fldK (K := K) (pv 0) rfl) (nomark _)) (pss_one (ps_fldK (K := K) (pv 0) (pe_fn F_greater hr rfl (pa_cons (pe_fldK (K := K) (pv 0) rfl) (pa_cons (pe_ixK (K := K) (pv 1) pe_int (fun _ _ => rfl)) pa_nil))) rfl)) pss_nil))) (pss_one ps_never)))))), ?_⟩
    walk_at "s"
    refine w_isiB (r := true) ty (by decide +kernel) ?_
    walk_at "s"
    match wd, ix, hwd, q with
    | none, ix, hwd, q =>
      refine w_lenD ix ?_
      walk_at "s"
      refine w_ifF (by simp) ?_
      walk_at "s"
      refine w_ixDS ix rfl ?_
      walk_at "s"
      refine w_isiB (r := true) (.base (.str _)) (by decide +kernel) ?_
      walk_at "s"
      refine ⟨sz1000 (by simp), fun r hr => ?_⟩
      have c0 : Chg [px] H (upd H r (.tup [.str "anew"])) := Chg.new hr
      have o0 := (Chg.new (l := []) (o := .tup [.str "anew"]) hr).keep _ _ o (by simp)
      refine w_eqD (d := wordD none) (e := .tuple [.str "anew"]) ((ix.on c0).dp _ _ rfl) (.tup (SqT.of upd_same) (.cons (.str _) .nil)) (by decide +kernel) (by decide +kernel) ?_
      rw [show PyData.eqv (wordD none) (.tuple [.str "anew"]) = true by decide +kernel]
      walk_at "s"
      refine ⟨_, _, _, _, rfl, o0, TC.cls, TC.base, pf.n1, ?_⟩
      have c1 : Chg [px] H (upd (upd H r (.tup [.str "anew"])) px (.ins CP dx (putF "base_most" .non fs))) := c0.trans (Chg.refl.put (by simp) o0 rfl)
      have pf1 := pf.baseW none
      walk_at "s"
      refine w_self upd_same (pf1.no _ (by decide +kernel)) ?_
      walk_at "s"
      refine ⟨px, dx, pl, pav, p, _, rfl, hp2 _ _ pf1 rfl _ c0 (Chg.refl.put (by simp) o0 rfl), ?_⟩
      walk_at "s"
      refine ⟨_, _, _, _, rfl, upd_same, TC.cls, TC.fresh, pf1.n1, ?_⟩
      have pf2 := pf1.freshW s.past.length
      exact q _ (c1.trans (Chg.refl.put (by simp) upd_same rfl)) (hp2 _ _ pf2 rfl _ c1 (Chg.refl.put (by simp) upd_same rfl))
    | some n, ix, hwd, q =>
      have hn := hwd n rfl
      refine w_lenD ix ?_
      walk_at "s"
      refine w_ifF (by simp) ?_
      walk_at "s"
      refine w_ixDS ix rfl ?_
      walk_at "s"
      refine w_isiB (r := true) (.base (.str _)) (by decide +kernel) ?_
      walk_at "s"
      refine ⟨sz1000 (by simp), fun r hr => ?_⟩
      have c0 : Chg [px] H (upd H r (.tup [.str "anew"])) := Chg.new hr
      have cn : Chg [] H (upd H r (.tup [.str "anew"])) := Chg.new hr
      have o0 := (Chg.new (l := []) (o := .tup [.str "anew"]) hr).keep _ _ o (by simp)
      refine w_eqD (d := wordD (some n)) (e := .tuple [.str "anew"]) ((ix.on c0).dp _ _ rfl) (.tup (SqT.of upd_same) (.cons (.str _) .nil)) (by simp [SeqAt.shaped, wordD, PyData.canLay0, PyData.canLayAll0, PyData.depth, PyData.depthAll]; decide +kernel) (by decide +kernel) ?_
      rw [show PyData.eqv (wordD (some n)) (.tuple [.str "anew"]) = false by simp [wordD, PyData.eqv, PyData.eqvAll]]
      walk_at "s"
      have hp0 := hp.calm cn
      refine w_self o0 (pf.no _ (by decide +kernel)) ?_
      walk_at "s"
      refine ⟨px, dx, pl, pav, x, p, s, n, rfl, hp0, ix.on c0, hn, ?_⟩
      walk_at "s"
      refine w_field o0 TC.cls TC.had pf.had ?_
      walk_at "s"
      refine w_ixDI (ix.on c0) rfl ?_
      walk_at "s"
      refine ⟨s.had, some n, rfl, ?_⟩
      walk_at "s"
      refine ⟨_, _, _, _, rfl, o0, TC.cls, TC.had, pf.n1, ?_⟩
      have pf1 := pf.hadW (greaterF s.had (some n))
      have c1 : Chg [px] H (upd (upd H r (.tup [.str "anew"])) px (.ins CP dx (putF "had_most" (optV (greaterF s.had (some n))) fs))) := c0.trans (Chg.refl.put (by simp) o0 rfl)
      walk_at "s"
      refine w_ixDI (ix.on c1) rfl ?_
      walk_at "s"
      refine w_field upd_same TC.cls TC.fresh pf1.fresh ?_
      walk_at "s"
      refine w_if (fun h => ?_) (fun h => ?_)
      · walk_at "s"
        refine w_field upd_same TC.cls TC.base pf1.base ?_
        walk_at "s"
        refine w_ixDI (ix.on c1) rfl ?_
        walk_at "s"
        refine ⟨s.base, some n, rfl, ?_⟩
        walk_at "s"
        refine ⟨_, _, _, _, rfl, upd_same, TC.cls, TC.base, pf1.n1, ?_⟩
        have pf2 := pf1.baseW (greaterF s.base (some n))
        have e : hearF s (some n) = { s with had := greaterF s.had (some n), base := greaterF s.base (some n) } := by
          unfold hearF
          simp only [ge_iff_le]
          rw [if_pos h]
        rw [e] at q
        exact q _ (c1.trans (Chg.refl.put (by simp) upd_same rfl)) (hp2 _ _ pf2 rfl _ c1 (Chg.refl.put (by simp) upd_same rfl))
      · walk_at "s"
        have e : hearF s (some n) = { s with had := greaterF s.had (some n) } := by
          unfold hearF
          simp only [ge_iff_le]
          rw [if_neg h]
        rw [e] at q
        exact q _ c1 (hp2 _ _ pf1 rfl _ c0 (Chg.refl.put (by simp) o0 rfl))
end
end Sh
namespace Sh
open PySem L2 PySem.Spec PyProof.Rows
local macro_rules | `(tactic| walk_at "s1") => `(tactic| first
  | with_reducible refine w_seq ?_
  | with_reducible refine w_asg ?_
  | with_reducible refine w_name ?_
  | with_reducible refine w_ret ?_
  | with_reducible refine w_retN ?_
  | with_reducible refine w_drop ?_
  | with_reducible refine w_next ?_
  | with_reducible refine w_ifS ?_
  | ((with_reducible refine' w_var ?h ?_); (case h => rfl))
  | with_reducible refine w_c ?_
  | with_reducible refine w_op ?_
  | with_reducible refine w_un ?_
  | with_reducible refine w_sl ?_
  | with_reducible refine w_nopart ?_
  | with_reducible refine w_part ?_
  | with_reducible refine w_exint ?_
  | with_reducible refine w_exbl ?_
  | with_reducible refine w_exbl' ?_
  | with_reducible refine w_exint' ?_
  | with_reducible refine w_nn ?_
  | with_reducible refine w_test ?_
  | with_reducible refine w_B ?_
  | with_reducible refine w_and ?_
  | with_reducible refine w_or ?_
  | with_reducible refine w_not ?_
  | with_reducible refine w_andV ?_
  | with_reducible refine w_orV ?_
  | with_reducible refine w_notV ?_
  | with_reducible refine w_ifE ?_
  | with_reducible refine w_nil ?_
  | with_reducible refine w_cons ?_
  | with_reducible refine w_tup ?_
  | with_reducible refine w_lst ?_
  | with_reducible refine w_CB ?_
  | with_reducible refine w_fn ?_
  | with_reducible refine w_T ?_
  | with_reducible refine w_F ?_
  | with_reducible refine w_I0 ?_
  | with_reducible refine w_U ?_
  | with_reducible refine w_addI ?_
  | with_reducible refine w_eqI ?_
  | with_reducible refine w_neI ?_
  | with_reducible refine w_eqS ?_
  | with_reducible refine w_neS ?_
  | with_reducible refine w_for ?_
  | with_reducible refine w_rng1 ?_
  | with_reducible refine w_rng2 ?_
  | with_reducible refine w_iStr ?_
  | with_reducible refine w_iTup ?_
  | with_reducible refine w_iList ?_
  | with_reducible refine w_iEnumT ?_
  | with_reducible refine w_iZip3 ?_
  | with_reducible refine w_iZipA ?_
  | with_reducible refine w_BM ?_
  | with_reducible refine w_gCons ?_
  | with_reducible refine w_gNil ?_
  | ((with_reducible refine' w_gTup ?h ?e ?_); (case h => exact SqT.of upd_same); (case e => rfl))
  | ((with_reducible refine' w_aug ?h ?_); (case h => rfl))
  | with_reducible refine w_ip ?_
  | with_reducible refine w_lc ?_
  | with_reducible refine w_fld ?_
  | with_reducible refine w_chain ?_
  | with_reducible refine w_mt ?_
  | with_reducible refine w_fset ?_
  | with_reducible refine w_dget ?_
  | with_reducible refine w_din ?_
  | with_reducible refine w_dput ?_
  | with_reducible refine w_dnew ?_
  | with_reducible refine w_keys ?_
  | with_reducible refine w_nT ?_
  | with_reducible refine w_nF ?_
  | with_reducible refine w_rowIndex ?_)
local macro_rules | `(tactic| walk_at "s") => `(tactic| repeat (walk_at "s1"))
section
variable {P : Program} {w : World} {K : PySem.W.Frag} {mg : Str → Option Value} {base : Heap} {CP CR CO : Addr}
/-! ### the reader -/
theorem few_of_nodup : ∀ (N : Nat) (l : List Nat), l.Nodup → (∀ n ∈ l, n < N) → l.length ≤ N
  | 0, l, _, h => by
    cases l with
    | nil => exact Nat.le_refl _
    | cons a l => exact absurd (h a (by simp)) (Nat.not_lt_zero _)
  | N + 1, l, hn, h => by
    by_cases hm : N ∈ l
    · have h1 := few_of_nodup N (l.erase N) (hn.erase N) fun n hl => by
        have h2 := (hn.mem_erase_iff).mp hl
        have := h n h2.2
        omega
      rw [List.length_erase_of_mem hm] at h1
      omega
    · have h1 := few_of_nodup N l hn fun n hl => by
        have := h n hl
        have : n ≠ N := fun z => hm (z ▸ hl)
        omega
      omega
structure RdrF (fs : List (Str × V)) (rv : V) (hx : Addr) (t : Option Nat) : Prop where
  pact : fget fs "pact" = some rv
  top : fget fs "greatest" = some (optV t)
  held : fget fs "held" = some (.ref hx)
  no : ∀ g : Str, (g == "pact" || g == "greatest" || g == "held") = false → fget fs g = none
  len : fs.length ≤ 10
theorem RdrF.n1 {fs : List (Str × V)} {rv : V} {hx : Addr} {t : Option Nat} (h : RdrF fs rv hx t) : fs.length < 1000 := by have := h.len; omega
theorem RdrF.topW {fs : List (Str × V)} {rv : V} {hx : Addr} {t : Option Nat} (h : RdrF fs rv hx t) (a : Option Nat) : RdrF (putF "greatest" (optV a) fs) rv hx a := by
  refine ⟨?_, look_same, ?_, fun g hg => ?_, ?_⟩
  · exact (look_other (by decide +kernel)).trans h.pact
  · exact (look_other (by decide +kernel)).trans h.held
  · have h2 := hg
    simp only [Bool.or_eq_false_iff] at h2
    exact (look_other h2.1.2).trans (h.no g hg)
  · rw [putF_len h.top]; exact h.len
theorem RdrF.heldW {fs : List (Str × V)} {rv : V} {hx : Addr} {t : Option Nat} (h : RdrF fs rv hx t) (a : Addr) : RdrF (putF "held" (.ref a) fs) rv a t := by
  refine ⟨?_, ?_, look_same, fun g hg => ?_, ?_⟩
  · exact (look_other (by decide +kernel)).trans h.pact
  · exact (look_other (by decide +kernel)).trans h.top
  · have h2 := hg
    simp only [Bool.or_eq_false_iff] at h2
    exact (look_other h2.2).trans (h.no g hg)
  · rw [putF_len h.held]; exact h.len
structure RdrAt (K : PySem.W.Frag) (CR : Addr) (H : Hp) (rx dx hx : Addr) (rv : V) (p : Pact) (hs : List (List Int)) (r : Rdr) : Prop where
  obj : ∃ fs, H rx = some (.ins CR dx fs) ∧ RdrF fs rv hx r.top
  dict : ∃ vf, H hx = some (.dK (heldK r.keys vf)) ∧ ∀ n ∈ r.keys, Is K H (vf n) (headD (hs.getD n []))
  pact : Is K H rv (pactD p)
  ok : PactOk p
  heads : ∀ h ∈ hs, HeadOk p.fs h
  keys : ∀ n ∈ r.keys, n < hs.length
  nodup : r.keys.Nodup
  few : hs.length ≤ 500
theorem RdrAt.on {H H' : Hp} {l : List Addr} {rx dx hx : Addr} {rv : V} {p : Pact} {hs : List (List Int)} {r : Rdr} (h : RdrAt K CR H rx dx hx rv p hs r) (c : Chg l H H') (h1 : rx ∉ l) (h2 : hx ∉ l) : RdrAt K CR H' rx dx hx rv p hs r := by
  obtain ⟨fs, o, pf⟩ := h.obj
  obtain ⟨vf, hd, hi⟩ := h.dict
  exact ⟨⟨fs, c.keep _ _ o h1, pf⟩, ⟨vf, c.keep _ _ hd h2, fun n hn => (hi n hn).on c⟩, h.pact.on c, h.ok, h.heads, h.keys, h.nodup, h.few⟩
theorem RdrAt.calm {H H' : Hp} {rx dx hx : Addr} {rv : V} {p : Pact} {hs : List (List Int)} {r : Rdr} (h : RdrAt K CR H rx dx hx rv p hs r) (c : Chg [] H H') : RdrAt K CR H' rx dx hx rv p hs r := h.on c (by simp) (by simp)
theorem RdrAt.kfew {H : Hp} {rx dx hx : Addr} {rv : V} {p : Pact} {hs : List (List Int)} {r : Rdr} (h : RdrAt K CR H rx dx hx rv p hs r) : r.keys.length ≤ 500 := Nat.le_trans (few_of_nodup _ _ h.nodup h.keys) h.few
theorem ins_ne_dK {H : Hp} {a b C dx : Addr} {fs : List (Str × V)} {kvs : List (Key × V)} (h1 : H a = some (.ins C dx fs)) (h2 : H b = some (.dK kvs)) : a ≠ b := fun e => by rw [e, h2] at h1; cases h1
/-- behind a walk through a locked dict -/
theorem Chg.unlock {l : List Addr} {H H' : Hp} {d : Addr} {o : Obj} {u : HO} (c : Chg l (upd H d (.frz o u)) H') (hd : H d = some u) : Chg l H (upd H' d u) := by
  refine ⟨fun a v e n => ?_, fun a v q e => ?_⟩
  · by_cases z : a = d
    · subst z
      rw [hd] at e
      cases e
      exact upd_same
    · rw [upd_ne z]
      exact c.keep _ _ (by rw [upd_ne z]; exact e) n
  · by_cases z : a = d
    · subst z
      rw [hd] at e
      cases e
      exact upd_same
    · rw [upd_ne z]
      exact c.still _ _ q (by rw [upd_ne z]; exact e)
theorem w_ckw {r : List V → List V → Hp → VK → Prop} {t tk : TA} {σ : L2.St} {H : Hp} {Q : VK} (h : t σ H fun vs H1 => tk σ H1 fun zs H2 => r vs zs H2 Q) : tCKw r t tk σ H Q := h
theorem w_lockE {t : TE} {σ : L2.St} {H : Hp} {Q : VK} {d : Addr} {u : HO} (hd : H d = some u) (mu : Mut (some u)) (h : ∀ od, t σ (upd H d (.frz od u)) fun v H' => H' d = some (.frz od u) ∧ Q v (upd H' d u)) : tLockE t σ H Q := ⟨d, u, hd, mu, h⟩
theorem maxO_opt (ns : List Nat) : maxO (ns.map fun (n : Nat) => (n : Int)) = optV ns.max? := by
  cases ns with
  | nil => rfl
  | cons n ns =>
    show V.int ((ns.map fun (n : Nat) => (n : Int)).foldl max (n : Int)) = _
    rw [foldl_max_cast]
    rfl
theorem scword_of : FnScope ["told"] ["told"] (defScope sword_of) := ⟨rfl, rfl, rfl, by decide +kernel, rfl, by decide +kernel, by decide +kernel⟩
def sp_word_of (K : PySem.W.Frag) : Sp := fun vs H Q _ => ∃ (x : V) (e : PyData) (wd : Option Nat), vs = [x] ∧ Is K H x e ∧ ToldWord e wd ∧ ∀ H' v, Chg [] H H' → Is K H' v (wordD wd) → Q v H'
theorem ok_word_of (T : Txt K mg) (F : Top K mg "word_of" sword_of)  : Fk P w K mg base CX0 1 "word_of" ["told"] (sp_word_of K) := by
  refine F.fk (fun _ _ _ _ _ _ us hl => match us, hl with | [_], _ => rfl) fun f fd F => F.ok scword_of (fun vs H Q E h => ?_) (fun cdv A outer s H vs Q E hr h => ?_)
  · obtain ⟨x, e, wd, rfl, _⟩ := h
    rfl
  · obtain ⟨x, e, wd, rfl, ix, ht, q⟩ := h
    refine ⟨_, (pss_cons (ps_if (pt_cmpR (op_eqK (K := K) hr.units) (pe_ixK (K := K) (pv 0) pe_int (fun _ _ => rfl)) pe_str (nomark _)) (pss_one (ps_ret (pe_tup (pa_cons pe_str pa_nil)))) pss_nil) (pss_one (ps_ret (pe_tup (pa_cons pe_str (pa_cons (pe_ixK (K := K) (pv 0) pe_int (fun _ _ => rfl)) pa_nil)))))), ?_⟩
    rcases ht with ⟨z, rfl, rfl⟩ | ⟨z, n, l, rfl, hz, rfl⟩
    · walk_at "s"
      refine w_ixDS ix rfl ?_
      walk_at "s"
      refine w_ifT rfl ?_
      walk_at "s"
      refine ⟨sz1000 (by simp), fun r hr => ?_⟩
      exact q _ _ (Chg.new hr) (is_new (Iss.one (.str _)) hr)
    · walk_at "s"
      refine w_ixD ix (d := .str z) (atI_nat (j := 0) rfl) fun v iv => ?_
      obtain rfl := iv.str_eq
      walk_at "s"
      refine w_ifF hz ?_
      walk_at "s"
      refine w_ixD ix (d := .int n) (atI_nat (j := 1) rfl) fun v iv => ?_
      obtain rfl := iv.int_eq
      walk_at "s"
      refine ⟨sz1000 (by simp), fun r hr => ?_⟩
      exact q _ _ (Chg.new hr) (is_new (.cons (.str _) (Iss.one (.int _))) hr)
theorem scReader_init : FnScope ["self", "pact"] ["self", "pact"] (defScope sReader_init) := ⟨rfl, rfl, rfl, by decide +kernel, rfl, by decide +kernel, by decide +kernel⟩
def sp_Reader_init (K : PySem.W.Frag) (CR : Addr) : Sp := fun vs H Q _ => ∃ (rx dx : Addr) (rv : V) (p : Pact), vs = [.ref rx, rv] ∧ H rx = some (.ins CR dx []) ∧ PactOk p ∧ Is K H rv (pactD p) ∧
  ∀ H' hx, Chg [rx] H H' → H hx = none → RdrAt K CR H' rx dx hx rv p [] ⟨none, []⟩ → Q .non H'
theorem ok_Reader_init (T : Txt K mg) (TC : ClsReader K CR) (F : TopI K mg "Reader" CR sReader_init)  : Mkk P w K mg base CX0 1 "Reader" CR ["self", "pact"] (sp_Reader_init K CR) := by
  refine F.mk (fun _ _ _ _ _ _ us hl => match us, hl with | [_, _], _ => rfl) fun f fd F => F.ok scReader_init (fun vs H Q E h => ?_) (fun cdv A outer s H vs Q E hr h => ?_)
  · obtain ⟨rx, dx, rv, p, rfl, _⟩ := h
    rfl
  · obtain ⟨rx, dx, rv, p, rfl, ho, hp, ip, q⟩ := h
    refine ⟨_, (pss_cons (ps_fldK (K := K) (pv 0) (pv 1) rfl) (pss_cons (ps_fldK (K := K) (pv 0) pe_non rfl) (pss_one (ps_fldK (K := K) (pv 0) pe_dnewK rfl)))), ?_⟩
    walk_at "s"
    refine ⟨_, _, _, _, rfl, ho, TC.cls, TC.pact, by decide, ?_⟩
    walk_at "s"
    refine ⟨_, _, _, _, rfl, upd_same, TC.cls, TC.greatest, Nat.lt_of_le_of_lt (pl1 (Nat.le_refl 0)) (by decide), ?_⟩
    walk_at "s"
    intro hx hhx
    have c1 : Chg [rx] H (upd (upd H rx (.ins CR dx (putF "pact" rv []))) rx (.ins CR dx (putF "greatest" .non (putF "pact" rv [])))) := (Chg.refl.put (by simp) ho rfl).trans (Chg.refl.put (by simp) upd_same rfl)
    have hne : rx ≠ hx := fun z => by rw [← z, upd_same] at hhx; cases hhx
    have h0 : H hx = none := by rw [upd_ne (Ne.symm hne), upd_ne (Ne.symm hne)] at hhx; exact hhx
    walk_at "s"
    refine ⟨_, _, _, _, rfl, by rw [upd_ne hne, upd_same], TC.cls, TC.held, Nat.lt_of_le_of_lt (pl1 (pl1 (Nat.le_refl 0))) (by decide), ?_⟩
    have c2 := (c1.trans (Chg.new (o := .dK []) hhx)).trans (Chg.refl.put (l := [rx]) (p := rx) (o := .ins CR dx (putF "held" (.ref hx) (putF "greatest" .non (putF "pact" rv [])))) (by simp) (by rw [upd_ne hne, upd_same]) rfl)
    refine q _ hx c2 h0 ⟨⟨_, upd_same, ?_⟩, ⟨fun _ => .non, by rw [upd_ne (Ne.symm hne), upd_same]; rfl, by simp⟩, ip.on c2, hp, by simp, by simp, by simp, by simp⟩
    refine ⟨?_, ?_, look_same, fun g hg => ?_, Nat.le_trans (pl1 (pl1 (pl1 (Nat.le_refl 0)))) (by decide)⟩
    · exact (look_other (by decide +kernel)).trans ((look_other (by decide +kernel)).trans look_same)
    · exact (look_other (by decide +kernel)).trans look_same
    · simp only [Bool.or_eq_false_iff] at hg
      exact (look_other hg.2).trans ((look_other hg.1.2).trans (look_other hg.1.1))
theorem scReader_top : FnScope ["self"] ["self"] (defScope sReader_top) := ⟨rfl, rfl, rfl, by decide +kernel, rfl, by decide +kernel, by decide +kernel⟩
def sp_Reader_top (K : PySem.W.Frag) (CR : Addr) : Sp := fun vs H Q _ => ∃ (rx dx hx : Addr) (rv : V) (p : Pact) (hs : List (List Int)) (r : Rdr), vs = [.ref rx] ∧ RdrAt K CR H rx dx hx rv p hs r ∧ Q (optV r.top) H
theorem ok_Reader_top (T : Txt K mg) (TC : ClsReader K CR) (F : TopM K CR "top" "Reader.top" sReader_top)  : Mt P w K mg base CX0 1 CR "top" ["self"] (sp_Reader_top K CR) := by
  refine F.mt TC.cls (fun _ _ _ _ _ _ us hl => match us, hl with | [_], _ => rfl) fun f fd F => F.ok scReader_top (fun vs H Q E h => ?_) (fun cdv A outer s H vs Q E hr h => ?_)
  · obtain ⟨rx, dx, hx, rv, p, hs, r, rfl, _⟩ := h
    rfl
  · obtain ⟨rx, dx, hx, rv, p, hs, r, rfl, hr1, q⟩ := h
    obtain ⟨fs, o, pf⟩ := hr1.obj
    refine ⟨_, (pss_one (ps_ret (pe_fldK (K := K) (pv 0) rfl))), ?_⟩
    walk_at "s"
    exact w_field o TC.cls TC.greatest pf.top q
theorem scReader_forget : FnScope ["self"] ["self"] (defScope sReader_forget) := ⟨rfl, rfl, rfl, by decide +kernel, rfl, by decide +kernel, by decide +kernel⟩
def sp_Reader_forget (K : PySem.W.Frag) (CR : Addr) : Sp := fun vs H Q _ => ∃ (rx dx hx : Addr) (rv : V) (p : Pact) (hs : List (List Int)) (r : Rdr), vs = [.ref rx] ∧ RdrAt K CR H rx dx hx rv p hs r ∧
  ∀ H' hx', Chg [rx] H H' → H hx' = none → RdrAt K CR H' rx dx hx' rv p hs ⟨none, []⟩ → Q .non H'
theorem ok_Reader_forget (T : Txt K mg) (TC : ClsReader K CR) (F : TopM K CR "forget" "Reader.forget" sReader_forget)  : Mt P w K mg base CX0 1 CR "forget" ["self"] (sp_Reader_forget K CR) := by
  refine F.mt TC.cls (fun _ _ _ _ _ _ us hl => match us, hl with | [_], _ => rfl) fun f fd F => F.ok scReader_forget (fun vs H Q E h => ?_) (fun cdv A outer s H vs Q E hr h => ?_)
  · obtain ⟨rx, dx, hx, rv, p, hs, r, rfl, _⟩ := h
    rfl
  · obtain ⟨rx, dx, hx, rv, p, hs, r, rfl, hr1, q⟩ := h
    obtain ⟨fs, o, pf⟩ := hr1.obj
    refine ⟨_, (pss_cons (ps_fldK (K := K) (pv 0) pe_non rfl) (pss_one (ps_fldK (K := K) (pv 0) pe_dnewK rfl))), ?_⟩
    walk_at "s"
    refine ⟨_, _, _, _, rfl, o, TC.cls, TC.greatest, pf.n1, ?_⟩
    have pf1 : RdrF (putF "greatest" V.non fs) rv hx none := pf.topW none
    have c1 : Chg [rx] H (upd H rx (.ins CR dx (putF "greatest" .non fs))) := Chg.refl.put (by simp) o rfl
    walk_at "s"
    intro hy hhy
    have hne : rx ≠ hy := fun z => by rw [← z, upd_same] at hhy; cases hhy
    have h0 : H hy = none := by rw [upd_ne (Ne.symm hne)] at hhy; exact hhy
    walk_at "s"
    refine ⟨_, _, _, _, rfl, by rw [upd_ne hne, upd_same], TC.cls, TC.held, pf1.n1, ?_⟩
    have pf2 := pf1.heldW hy
    have c2 := (c1.trans (Chg.new (o := .dK []) hhy)).trans (Chg.refl.put (l := [rx]) (p := rx) (o := .ins CR dx (putF "held" (.ref hy) (putF "greatest" .non fs))) (by simp) (by rw [upd_ne hne, upd_same]) rfl)
    exact q _ hy c2 h0 ⟨⟨_, upd_same, pf2⟩, ⟨fun _ => .non, by rw [upd_ne (Ne.symm hne), upd_same]; rfl, by simp⟩, hr1.pact.on c2, hr1.ok, hr1.heads, by simp, by simp, hr1.few⟩
theorem scReader_below : FnScope ["self", "number", "one"] ["self", "number"] (defScope sReader_below) := ⟨rfl, rfl, rfl, by decide +kernel, rfl, by decide +kernel, by decide +kernel⟩
def sp_Reader_below (K : PySem.W.Frag) (CR : Addr) : Sp := fun vs H Q _ => ∃ (rx dx hx : Addr) (rv : V) (p : Pact) (hs : List (List Int)) (r : Rdr) (i : Int), vs = [.ref rx, .int i] ∧ RdrAt K CR H rx dx hx rv p hs r ∧
  ∀ H', Chg [] H H' → Q (optV (belowF r.keys i)) H'
theorem ok_Reader_below (T : Txt K mg) (TC : ClsReader K CR) (F : TopM K CR "below" "Reader.below" sReader_below)  : Mt P w K mg base CX0 1 CR "below" ["self", "number"] (sp_Reader_below K CR) := by
  refine F.mt TC.cls (fun _ _ _ _ _ _ us hl => match us, hl with | [_, _], _ => rfl) fun f fd F => F.ok scReader_below (fun vs H Q E h => ?_) (fun cdv A outer s H vs Q E hr h => ?_)
  · obtain ⟨rx, dx, hx, rv, p, hs, r, i, rfl, _⟩ := h
    rfl
  · obtain ⟨rx, dx, hx, rv, p, hs, r, n, rfl, hr1, q⟩ := h
    obtain ⟨fs, o, pf⟩ := hr1.obj
    obtain ⟨vf, hd, hi⟩ := hr1.dict
    have hk := hr1.kfew
    have hne := ins_ne_dK o hd
    refine ⟨_, (pss_one (ps_ret (pe_maxD rfl (hu8 hr) (by rfl) T.b_max (pe_lock (pe_lc (own := [("one", 2)]) rfl scReader_below.nd (pi_keys (pe_fldK (K := K) (pv 0) rfl)) (blkOk_by (own := [("one", 2)]) (N := ["self", "number", "one"]) (sc := defScope sReader_below) (by decide +kernel)) (fun _ _ _ _ _ => (pg_name (i := 2) scReader_below.nd rfl (Or.inl rfl))) (fun _ _ _ _ _ => (pts_one (pt_cmpR op_lt (pv 2) (pv 1) (nomark _)))) (fun _ _ _ _ _ => (pv 2))))))), ?_⟩
    refine w_ret ?_
    refine w_ckw ?_
    refine w_cons ?_
    refine w_lockE hd trivial fun od => ?_
    walk_at "s"
    refine w_field (by rw [upd_ne hne]; exact o) TC.cls TC.held pf.held ?_
    refine ⟨hx, od, rfl, .inl ⟨_, upd_same, fun D hD => ?_⟩⟩
    refine lc_it walk_keys (fun i H1 => Chg [] (upd H hx (.frz od (.dK (heldK r.keys vf)))) H1 ∧ H1 D = some (.lst ((((r.keys.take i).filter fun (k : Nat) => decide ((k : Int) < n)).map fun (k : Nat) => (k : Int)).map V.int))) ⟨Chg.new hD, upd_same⟩ (fun i H1 _ h => h.1.keep _ _ upd_same (by simp)) (fun i x H1 H2 hi1 hP hY => ?_) fun H1 hP => ?_
    · obtain ⟨c1, hL⟩ := hP
      obtain ⟨rfl, k, v, ek, rfl⟩ := hY
      unfold heldK at ek hi1
      rw [List.getElem?_map] at ek
      obtain ⟨m, em, ek⟩ := Option.map_eq_some_iff.mp ek
      cases ek
      rw [List.length_map] at hi1
      walk_at "s"
      refine ⟨rfl, ?_⟩
      have e1 : r.keys.take (i + 1) = r.keys.take i ++ [m] := take_snoc em
      walk_at "s"
      refine w_I0 (i := m) ?_
      walk_at "s"
      refine w_if (fun h => ?_) (fun h => ?_)
      · walk_at "s"
        refine ⟨_, hL, sl1000 ?_, c1.mut hD, ?_⟩
        · rw [List.length_map, List.length_map]
          have := List.length_filter_le (fun (k : Nat) => decide ((k : Int) < n)) (r.keys.take i)
          rw [List.length_take] at this
          omega
        · rw [upd_same, e1, List.filter_append, List.map_append, List.map_append]
          simp [h]
          rfl
      · refine ⟨c1, ?_⟩
        rw [e1, List.filter_append, List.map_append, List.map_append]
        simp [h]
        simpa using hL
    · obtain ⟨c1, hL⟩ := hP
      have hl : (heldK r.keys vf).length = r.keys.length := by unfold heldK; rw [List.length_map]
      rw [hl, List.take_length] at hL
      refine ⟨c1.keep _ _ upd_same (by simp), ?_⟩
      have c2 := c1.unlock hd
      have hDx : D ≠ hx := fun z => by rw [z, upd_same] at hD; cases hD
      walk_at "s"
      refine ⟨D, _, rfl, rfl, SqL.of (by rw [upd_ne hDx]; exact hL), ?_⟩
      rw [maxO_opt]
      exact q _ c2
theorem scReader_is_late : FnScope ["self", "number"] ["self", "number"] (defScope sReader_is_late) := ⟨rfl, rfl, rfl, by decide +kernel, rfl, by decide +kernel, by decide +kernel⟩
def sp_Reader_is_late (K : PySem.W.Frag) (CR : Addr) : Sp := fun vs H Q _ => ∃ (rx dx hx : Addr) (rv : V) (p : Pact) (hs : List (List Int)) (r : Rdr) (i : Int), vs = [.ref rx, .int i] ∧ RdrAt K CR H rx dx hx rv p hs r ∧ Q (.bl (isLateF p r i)) H
theorem ok_Reader_is_late (T : Txt K mg) (TC : ClsReader K CR) (F : TopM K CR "is_late" "Reader.is_late" sReader_is_late)  : Mt P w K mg base CX0 1 CR "is_late" ["self", "number"] (sp_Reader_is_late K CR) := by
  refine F.mt TC.cls (fun _ _ _ _ _ _ us hl => match us, hl with | [_, _], _ => rfl) fun f fd F => F.ok scReader_is_late (fun vs H Q E h => ?_) (fun cdv A outer s H vs Q E hr h => ?_)
  · obtain ⟨rx, dx, hx, rv, p, hs, r, i, rfl, _⟩ := h
    rfl
  · obtain ⟨rx, dx, hx, rv, p, hs, r, n, rfl, hr1, q⟩ := h
    obtain ⟨fs, o, pf⟩ := hr1.obj
    refine ⟨_, (pss_cons (ps_if (pt_cmpR op_lt (pv 1) pe_int (nomark _)) (pss_one (ps_ret pe_bl)) pss_nil) (pss_one (ps_ret (pe_and (pe_cmpR op_notN (pe_fldK (K := K) (pv 0) rfl) pe_non (nomark _)) (pe_one (pe_cmpR op_lt (pv 1) (pe_op op_sub (pe_fldK (K := K) (pv 0) rfl) (pe_ixK (K := K) (pe_ixK (K := K) (pe_fldK (K := K) (pv 0) rfl) pe_int (fun _ _ => rfl)) pe_int (fun _ _ => rfl))) (nomark _))))))), ?_⟩
    walk_at "s"
    unfold isLateF at q
    refine w_if (fun h => ?_) (fun h => ?_)
    · rw [if_pos h] at q
      walk_at "s"
      exact q
    · rw [if_neg h] at q
      have pt := pf.top
      walk_at "s"
      refine w_field o TC.cls TC.greatest pt ?_
      walk_at "s"
      match ht : r.top, q with
      | none, q =>
        refine w_ifn (fun _ => ?_) (fun h => absurd rfl h)
        exact q
      | some t, q =>
        rw [ht] at pt
        refine w_ifn (fun h => nomatch h) (fun _ => ?_)
        walk_at "s"
        refine w_field o TC.cls TC.greatest pt ?_
        walk_at "s"
        refine w_field o TC.cls TC.pact pf.pact ?_
        walk_at "s"
        refine w_ixD hr1.pact rfl fun v iv => ?_
        walk_at "s"
        refine w_ixDI iv rfl ?_
        refine w_I0 (i := t) ?_
        walk_at "s"
        exact q
theorem scReader_numbered : FnScope ["self", "at", "written"] ["self", "at", "written"] (defScope sReader_numbered) := ⟨rfl, rfl, rfl, by decide +kernel, rfl, by decide +kernel, by decide +kernel⟩
def numberedF (p : Pact) (r : Rdr) (a : At) (wr : Int) : Int := match a, r.top with
  | some (_, f), some t => winF ((t : Int) - p.late) wr f.count
  | _, _ => wr
def sp_Reader_numbered (K : PySem.W.Frag) (CR : Addr) : Sp := fun vs H Q _ => ∃ (rx dx hx : Addr) (rv : V) (p : Pact) (hs : List (List Int)) (r : Rdr) (a : At) (wr : Int), vs = [.ref rx, atV a, .int wr] ∧ RdrAt K CR H rx dx hx rv p hs r ∧ AtOk p a ∧ (a ≠ none → r.top ≠ none) ∧ Q (.int (numberedF p r a wr)) H
theorem ok_Reader_numbered (T : Txt K mg) (TC : ClsReader K CR) (F : TopM K CR "numbered" "Reader.numbered" sReader_numbered) (F_windowed : Fk P w K mg base CX0 2 "windowed" ["least", "rest", "width"] (sp_windowed K)) : Mt P w K mg base CX0 3 CR "numbered" ["self", "at", "written"] (sp_Reader_numbered K CR) := by
  refine F.mt TC.cls (fun _ _ _ _ _ _ us hl => match us, hl with | [_, _, _], _ => rfl) fun f fd F => F.ok scReader_numbered (fun vs H Q E h => ?_) (fun cdv A outer s H vs Q E hr h => ?_)
  · obtain ⟨rx, dx, hx, rv, p, hs, r, a, wr, rfl, _⟩ := h
    rfl
  · obtain ⟨rx, dx, hx, rv, p, hs, r, a, wr, rfl, hr1, ha, ht, q⟩ := h
    obtain ⟨fs, o, pf⟩ := hr1.obj
    have pt := pf.top
    refine ⟨_, (pss_cons (ps_if (pt_cmpR op_isN (pv 1) pe_non (nomark _)) (pss_one (ps_ret (pv 2))) pss_nil) (pss_one (ps_ret (pe_fn F_windowed hr rfl (pa_cons (pe_op op_sub (pe_fldK (K := K) (pv 0) rfl) (pe_ixK (K := K) (pe_ixK (K := K) (pe_fldK (K := K) (pv 0) rfl) pe_int (fun _ _ => rfl)) pe_int (fun _ _ => rfl))) (pa_cons (pv 2) (pa_cons (pe_ixK (K := K) (pe_ixK (K := K) (pe_ixK (K := K) (pe_fldK (K := K) (pv 0) rfl) pe_int (fun _ _ => rfl)) (pv 1) (fun _ _ => rfl)) pe_int (fun _ _ => rfl)) pa_nil))))))), ?_⟩
    match a, ha, ht, q with
    | none, ha, ht, q =>
      walk_at "s"
      refine w_ifT rfl ?_
      walk_at "s"
      exact q
    | some (i, f), ha, ht, q =>
      unfold numberedF at q
      match et : r.top, q with
      | none, q => exact absurd et (ht (by simp))
      | some t, q =>
        rw [et] at pt
        walk_at "s"
        refine w_ifF (fun h => nomatch h) ?_
        walk_at "s"
        refine w_field o TC.cls TC.greatest pt ?_
        walk_at "s"
        refine w_field o TC.cls TC.pact pf.pact ?_
        walk_at "s"
        refine w_ixD hr1.pact rfl fun v iv => ?_
        walk_at "s"
        refine w_ixDI iv rfl ?_
        refine w_I0 (i := t) ?_
        walk_at "s"
        refine w_field o TC.cls TC.pact pf.pact ?_
        walk_at "s"
        refine w_ixD hr1.pact rfl fun v iv => ?_
        walk_at "s"
        refine w_ixM iv (ha i f rfl) fun u iu => ?_
        walk_at "s"
        refine w_ixDI iu rfl ?_
        walk_at "s"
        exact ⟨_, wr, f.count, rfl, by have := (hr1.ok.forms i f (ha i f rfl)).c2; omega, q⟩
end
end Sh
namespace Sh
open PySem L2 PySem.Spec PyProof.Rows
local macro_rules | `(tactic| walk_at "s1") => `(tactic| first
  | with_reducible refine w_seq ?_
  | with_reducible refine w_asg ?_
  | with_reducible refine w_name ?_
  | with_reducible refine w_ret ?_
  | with_reducible refine w_retN ?_
  | with_reducible refine w_drop ?_
  | with_reducible refine w_next ?_
  | with_reducible refine w_ifS ?_
  | ((with_reducible refine' w_var ?h ?_); (case h => rfl))
  | with_reducible refine w_c ?_
  | with_reducible refine w_op ?_
  | with_reducible refine w_un ?_
  | with_reducible refine w_sl ?_
  | with_reducible refine w_nopart ?_
  | with_reducible refine w_part ?_
  | with_reducible refine w_exint ?_
  | with_reducible refine w_exbl ?_
  | with_reducible refine w_exbl' ?_
  | with_reducible refine w_exint' ?_
  | with_reducible refine w_nn ?_
  | with_reducible refine w_test ?_
  | with_reducible refine w_B ?_
  | with_reducible refine w_and ?_
  | with_reducible refine w_or ?_
  | with_reducible refine w_not ?_
  | with_reducible refine w_andV ?_
  | with_reducible refine w_orV ?_
  | with_reducible refine w_notV ?_
  | with_reducible refine w_ifE ?_
  | with_reducible refine w_nil ?_
  | with_reducible refine w_cons ?_
  | with_reducible refine w_tup ?_
  | with_reducible refine w_lst ?_
  | with_reducible refine w_CB ?_
  | with_reducible refine w_fn ?_
  | with_reducible refine w_T ?_
  | with_reducible refine w_F ?_
  | with_reducible refine w_I0 ?_
  | with_reducible refine w_U ?_
  | with_reducible refine w_addI ?_
  | with_reducible refine w_eqI ?_
  | with_reducible refine w_neI ?_
  | with_reducible refine w_eqS ?_
  | with_reducible refine w_neS ?_
  | with_reducible refine w_for ?_
  | with_reducible refine w_rng1 ?_
  | with_reducible refine w_rng2 ?_
  | with_reducible refine w_iStr ?_
  | with_reducible refine w_iTup ?_
  | with_reducible refine w_iList ?_
  | with_reducible refine w_iEnumT ?_
  | with_reducible refine w_iZip3 ?_
  | with_reducible refine w_iZipA ?_
  | with_reducible refine w_BM ?_
  | with_reducible refine w_gCons ?_
  | with_reducible refine w_gNil ?_
  | ((with_reducible refine' w_gTup ?h ?e ?_); (case h => exact SqT.of upd_same); (case e => rfl))
  | ((with_reducible refine' w_aug ?h ?_); (case h => rfl))
  | with_reducible refine w_ip ?_
  | with_reducible refine w_lc ?_
  | with_reducible refine w_fld ?_
  | with_reducible refine w_chain ?_
  | with_reducible refine w_mt ?_
  | with_reducible refine w_fset ?_
  | with_reducible refine w_dget ?_
  | with_reducible refine w_din ?_
  | with_reducible refine w_dput ?_
  | with_reducible refine w_dnew ?_
  | with_reducible refine w_keys ?_
  | with_reducible refine w_nT ?_
  | with_reducible refine w_nF ?_
  | with_reducible refine w_rowIndex ?_)
local macro_rules | `(tactic| walk_at "s") => `(tactic| repeat (walk_at "s1"))
section
variable {P : Program} {w : World} {K : PySem.W.Frag} {mg : Str → Option Value} {base : Heap} {CP CR CO : Addr}
theorem w_eqO {H : Hp} {Q : VK} {m : Nat} {o : Option Nat} (h : Q (.bl (decide (some m = o))) H) : rEqA K (.int m) (optV o) H Q := by
  refine .inl ⟨?_, ?_⟩
  · cases o <;> rfl
  · have e : decide (V.int (m : Int) = optV o) = decide (some m = o) := by
      apply decide_eq_decide.mpr
      cases o with
      | none => exact ⟨(fun h => nomatch h), (fun h => nomatch h)⟩
      | some n => exact ⟨fun h => by injection h with h; congr 1; omega, fun h => by cases h; rfl⟩
    rw [e]
    exact h
theorem paired_on {l : List Addr} {H H' : Hp} (c : Chg l H H') : ∀ {ps : List Addr} {kvs : List (Key × V)}, Paired (fun p kv => SqT K H p [kV kv.1, kv.2]) ps kvs → Paired (fun p kv => SqT K H' p [kV kv.1, kv.2]) ps kvs
  | _, _, .nil => .nil
  | _, _, .cons h t => .cons (Tp.mono h c) (paired_on c t)
theorem SqT.unlock {H : Hp} {d p : Addr} {od : Obj} {kvs : List (Key × V)} {u : HO} {xs : List V} (h : SqT K H p xs) (hd : H d = some (.frz od (.dK kvs))) : SqT K (upd H d u) p xs := by
  rcases h with (h | ⟨o, h⟩) | h
  · exact .inl (.inl (by rw [upd_ne (fun e => by rw [e, hd] at h; cases h)]; exact h))
  · exact .inl (.inr ⟨o, by rw [upd_ne (fun e => by rw [e, hd] at h; cases h)]; exact h⟩)
  · exact .inr h
theorem paired_unlock {H : Hp} {d : Addr} {od : Obj} {kv : List (Key × V)} {u : HO} (hd : H d = some (.frz od (.dK kv))) : ∀ {ps : List Addr} {kvs : List (Key × V)}, Paired (fun p kv => SqT K H p [kV kv.1, kv.2]) ps kvs → Paired (fun p kv => SqT K (upd H d u) p [kV kv.1, kv.2]) ps kvs
  | _, _, .nil => .nil
  | _, _, .cons h t => .cons (SqT.unlock h hd) (paired_unlock hd t)
/-- the first step of come -/
theorem come_if {D : Ends} {H : Hp} {rx dx hx : Addr} {rv : V} {p : Pact} {hs : List (List Int)} {r : Rdr} {n : Nat} {σ : L2.St} (TC : ClsReader K CR) (hr1 : RdrAt K CR H rx dx hx rv p hs r) (s0 : σ[0]? = some (some (.ref rx))) (s1 : σ[1]? = some (some (.int n)))
    (h : ∀ H1, Chg [rx] H H1 → RdrAt K CR H1 rx dx hx rv p hs ⟨some (topF r n), r.keys⟩ → D.nx σ H1) :
    tIfS (tOr (tTest (tOp (fun x y H Q => y = .non ∧ Q (.bl (decide (x = .non))) H) (tFld K (tVar 0) "greatest") (tC .non))) (tTest (tOp (rI0 fun i j => .bl (decide (i < j))) (tFld K (tVar 0) "greatest") (tVar 1)))) (sFld K (tVar 0) (tVar 1) "greatest") tNext D σ H := by
  obtain ⟨fs, o, pf⟩ := hr1.obj
  obtain ⟨vf, hd, hi⟩ := hr1.dict
  have hne := ins_ne_dK o hd
  have pt := pf.top
  have set : sFld K (tVar 0) (tVar 1) "greatest" D σ H → True := fun _ => trivial
  have key : topF r n = n → sFld K (tVar 0) (tVar 1) "greatest" D σ H := by
    intro e
    walk_at "s"
    refine w_var s1 ?_
    refine w_var s0 ?_
    refine ⟨_, _, _, _, rfl, o, TC.cls, TC.greatest, pf.n1, ?_⟩
    have c1 : Chg [rx] H (upd H rx (.ins CR dx (putF "greatest" (optV (some n)) fs))) := Chg.refl.put (by simp) o rfl
    refine h _ c1 ?_
    rw [e]
    exact ⟨⟨_, upd_same, pf.topW (some n)⟩, ⟨vf, by rw [upd_ne (Ne.symm hne)]; exact hd, fun k hk => (hi k hk).on c1⟩, hr1.pact.on c1, hr1.ok, hr1.heads, hr1.keys, hr1.nodup, hr1.few⟩
  walk_at "s"
  refine w_var s0 ?_
  refine w_field o TC.cls TC.greatest pt ?_
  walk_at "s"
  match et : r.top with
  | none =>
    refine w_ifT rfl ?_
    walk_at "s1"
    exact key (by unfold topF; rw [et])
  | some t =>
    rw [et] at pt
    refine w_ifF (fun h => nomatch h) ?_
    walk_at "s"
    refine w_var s0 ?_
    refine w_field o TC.cls TC.greatest pt ?_
    walk_at "s"
    refine w_var s1 ?_
    refine w_I0 (i := t) ?_
    walk_at "s"
    refine w_if (fun h1 => ?_) (fun h1 => ?_)
    · exact key (by unfold topF; rw [et]; exact if_pos (by omega))
    · walk_at "s"
      refine h _ Chg.refl ?_
      have e : topF r n = t := by unfold topF; rw [et]; exact if_neg (by omega)
      rw [e]
      exact ⟨⟨fs, o, by rw [← et]; exact pf⟩, ⟨vf, hd, hi⟩, hr1.pact, hr1.ok, hr1.heads, hr1.keys, hr1.nodup, hr1.few⟩
theorem scReader_come : FnScope ["self", "number", "edge", "last", "one"] ["self", "number"] (defScope sReader_come) := ⟨rfl, rfl, rfl, by decide +kernel, rfl, by decide +kernel, by decide +kernel⟩
def sp_Reader_come (K : PySem.W.Frag) (CR : Addr) : Sp := fun vs H Q _ => ∃ (rx dx hx : Addr) (rv : V) (p : Pact) (hs : List (List Int)) (r : Rdr) (n : Nat), vs = [.ref rx, .int n] ∧ RdrAt K CR H rx dx hx rv p hs r ∧
  ∀ H' hx' keys, Chg [rx] H H' → H hx' = none → keys.Nodup → (∀ k ∈ keys, k ∈ r.keys) → RdrAt K CR H' rx dx hx' rv p hs ⟨some (topF r n), keys⟩ → Q .non H'
theorem ok_Reader_come (T : Txt K mg) (TC : ClsReader K CR) (F : TopM K CR "come" "Reader.come" sReader_come) (M_Reader_below : Mt P w K mg base CX0 1 CR "below" ["self", "number"] (sp_Reader_below K CR)) : Mt P w K mg base CX0 2 CR "come" ["self", "number"] (sp_Reader_come K CR) := by
  refine F.mt TC.cls (fun _ _ _ _ _ _ us hl => match us, hl with | [_, _], _ => rfl) fun f fd F => F.ok scReader_come (fun vs H Q E h => ?_) (fun cdv A outer s H vs Q E hr h => ?_)
  · obtain ⟨rx, dx, hx, rv, p, hs, r, n, rfl, _⟩ := h
    rfl
  · obtain ⟨rx, dx, hx, rv, p, hs, r, n, rfl, hr0, q⟩ := h
    have hu := hu_of hr
    refine ⟨_, (pss_cons (ps_if (PW.pt (pw_or (pt_cmpR op_isN (pe_fldK (K := K) (pv 0) rfl) pe_non (nomark _)) (pw_or1 (pt_cmpR op_lt (pe_fldK (K := K) (pv 0) rfl) (pv 1) (nomark _))))) (pss_one (ps_fldK (K := K) (pv 0) (pv 1) rfl)) pss_nil) (pss_cons (ps_set (i := 2) scReader_come.nd rfl (Or.inr rfl) (pe_op op_sub (pe_fldK (K := K) (pv 0) rfl) (pe_ixK (K := K) (pe_ixK (K := K) (pe_fldK (K := K) (pv 0) rfl) pe_int (fun _ _ => rfl)) pe_int (fun _ _ => rfl)))) (pss_cons (ps_set (i := 3) scReader_come.nd rfl (Or.inr rfl) (pe_mt M_Reader_below hr (pv 0) (pa_cons (pv 2) pa_nil))) (pss_one (ps_fldK (K := K) (pv 0) (pe_callTy (call_dictP rfl) (by rfl) T.b_dict (by decide +kernel) (pa_cons (pe_lock (pe_lc (own := [("one", 4)]) rfl scReader_come.nd (pi_keys (pe_fldK (K := K) (pv 0) rfl)) (blkOk_by (own := [("one", 4)]) (N := ["self", "number", "edge", "last", "one"]) (sc := defScope sReader_come) (by decide +kernel)) (fun _ _ _ _ _ => (pg_name (i := 4) scReader_come.nd rfl (Or.inl rfl))) (fun _ _ _ _ _ => (pts_one (PW.pt (pw_or (pt_cmpR op_ge (pv 4) (pv 2) (nomark _)) (pw_or1 (pt_cmpR (op_eqK (K := K) hr.units) (pv 4) (pv 3) (nomark _))))))) (fun _ _ _ _ _ => (pe_tup (pa_cons (pv 4) (pa_cons (pe_dget hu (pe_fldK (K := K) (pv 0) rfl) (pv 4) (fun _ _ => rfl)) pa_nil)))))) pa_nil)) rfl))))), ?_⟩
    refine w_seq ?_
    refine come_if TC hr0 rfl rfl fun H1 c1 hr1 => ?_
    obtain ⟨fs, o, pf⟩ := hr1.obj
    obtain ⟨vf, hd, hi⟩ := hr1.dict
    have hk := hr1.kfew
    walk_at "s"
    refine w_field o TC.cls TC.greatest pf.top ?_
    walk_at "s"
    refine w_field o TC.cls TC.pact pf.pact ?_
    walk_at "s"
    refine w_ixD hr1.pact rfl fun v iv => ?_
    walk_at "s"
    refine w_ixDI iv rfl ?_
    refine w_I0 (i := topF r n) ?_
    walk_at "s"
    refine w_self o (pf.no _ (by decide +kernel)) ?_
    walk_at "s"
    refine ⟨rx, dx, hx, rv, p, hs, _, _, rfl, hr1, fun H2 c2 => ?_⟩
    walk_at "s"
    have o2 := c2.keep _ _ o (by simp)
    have hd2 := c2.keep _ _ hd (by simp)
    have hne := ins_ne_dK o2 hd2
    refine w_lockE hd2 trivial fun od => ?_
    walk_at "s"
    refine w_field (by rw [upd_ne hne]; exact o2) TC.cls TC.held pf.held ?_
    refine ⟨hx, od, rfl, .inl ⟨_, upd_same, fun D hD => ?_⟩⟩
    refine lc_it walk_keys (fun i H3 => Chg [] (upd H2 hx (.frz od (.dK (heldK r.keys vf)))) H3 ∧ ∃ (ks : List Nat) (ps : List Addr), ks.Sublist (r.keys.take i) ∧ H3 D = some (.lst (ps.map V.ref)) ∧ Paired (fun p kv => SqT K H3 p [kV kv.1, kv.2]) ps (heldK ks vf)) ⟨Chg.new hD, [], [], List.nil_sublist _, upd_same, .nil⟩ (fun i H3 _ h => h.1.keep _ _ upd_same (by simp)) (fun i x H3 H4 hi1 hP hY => ?_) fun H3 hP => ?_
    · obtain ⟨c3, ks, ps, hsub, hL, hpr⟩ := hP
      obtain ⟨rfl, k, v, ek, rfl⟩ := hY
      unfold heldK at ek hi1
      rw [List.getElem?_map] at ek
      obtain ⟨m, em, ek⟩ := Option.map_eq_some_iff.mp ek
      cases ek
      rw [List.length_map] at hi1
      have e1 : r.keys.take (i + 1) = r.keys.take i ++ [m] := take_snoc em
      have hmk : m ∈ r.keys := List.mem_of_getElem? em
      have hlk : ps.length = ks.length := by
        have := hpr.length
        unfold heldK at this
        simpa using this
      have hkl : ks.length ≤ i := by
        have := hsub.length_le
        rw [List.length_take] at this
        omega
      have hfin : ∀ u, H4 u = none → ∃ acc, upd H4 u (.tup [.int m, vf m]) D = some (.lst acc) ∧ acc.length < sizeLine ∧ (Chg [] (upd H2 hx (.frz od (.dK (heldK r.keys vf)))) (upd (upd H4 u (.tup [.int m, vf m])) D (.lst (acc ++ [.ref u]))) ∧ ∃ (ks : List Nat) (ps : List Addr), ks.Sublist (r.keys.take (i + 1)) ∧ upd (upd H4 u (.tup [.int m, vf m])) D (.lst (acc ++ [.ref u])) D = some (.lst (ps.map V.ref)) ∧ Paired (fun p kv => SqT K (upd (upd H4 u (.tup [.int m, vf m])) D (.lst (acc ++ [.ref u]))) p [kV kv.1, kv.2]) ps (heldK ks vf)) := by
        intro u hu4
        have hDu : D ≠ u := ne_of_none hL hu4
        have cu : Chg [D] H4 (upd H4 u (.tup [.int m, vf m])) := Chg.new hu4
        have hLu : upd H4 u (.tup [.int m, vf m]) D = some (.lst (ps.map V.ref)) := by rw [upd_ne hDu]; exact hL
        have cd : Chg [D] (upd H4 u (.tup [.int m, vf m])) (upd (upd H4 u (.tup [.int m, vf m])) D (.lst (ps.map V.ref ++ [.ref u]))) := Chg.refl.put (by simp) hLu rfl
        refine ⟨_, hLu, sl1000 (by rw [List.length_map]; omega), (c3.trans (Chg.new hu4)).mut hD, ks ++ [m], ps ++ [u], ?_, ?_, ?_⟩
        · rw [e1]
          exact hsub.append (List.Sublist.refl _)
        · rw [upd_same, List.map_append]
          rfl
        · have e5 : heldK (ks ++ [m]) vf = heldK ks vf ++ [(.inl (m : Int), vf m)] := by unfold heldK; rw [List.map_append]; rfl
          rw [e5]
          exact (paired_on (cu.trans cd) hpr).snoc (SqT.of (by rw [upd_ne (Ne.symm hDu), upd_same]; rfl))
      have hget : DGet H4 hx (.int m) (some (vf m)) := .inl ⟨heldK r.keys vf, .inl (m : Int), .inr ⟨od, c3.keep _ _ upd_same (by simp)⟩, rfl, by rw [heldK_val, if_pos hmk]⟩
      have o4 : H4 rx = some (.ins CR dx fs) := c3.keep _ _ (by rw [upd_ne hne]; exact o2) (by simp)
      walk_at "s"
      refine ⟨rfl, ?_⟩
      walk_at "s"
      refine w_I0 (i := m) ?_
      walk_at "s"
      refine w_if (fun h => ?_) (fun h => ?_)
      · walk_at "s"
        refine w_field o4 TC.cls TC.held pf.held ?_
        walk_at "s"
        refine ⟨hx, vf m, rfl, hget, ?_⟩
        walk_at "s"
        exact ⟨sz1000 (by simp), fun u hu4 => hfin u hu4⟩
      · walk_at "s"
        refine w_eqO ?_
        walk_at "s"
        refine w_if (fun h => ?_) (fun h => ?_)
        · walk_at "s"
          refine w_field o4 TC.cls TC.held pf.held ?_
          walk_at "s"
          refine ⟨hx, vf m, rfl, hget, ?_⟩
          walk_at "s"
          exact ⟨sz1000 (by simp), fun u hu4 => hfin u hu4⟩
        · exact ⟨c3, ks, ps, by rw [e1]; exact hsub.trans (List.sublist_append_left _ _), hL, hpr⟩
    · obtain ⟨c3, ks, ps, hsub, hL, hpr⟩ := hP
      have hl : (heldK r.keys vf).length = r.keys.length := by unfold heldK; rw [List.length_map]
      rw [hl, List.take_length] at hsub
      refine ⟨c3.keep _ _ upd_same (by simp), ?_⟩
      have c4 := c3.unlock hd2
      have hDx : D ≠ hx := fun z => by rw [z, upd_same] at hD; cases hD
      have hx3 : H3 hx = some (.frz od (.dK (heldK r.keys vf))) := c3.keep _ _ upd_same (by simp)
      walk_at "s"
      refine ⟨D, ps, heldK ks vf, rfl, SqL.of (by rw [upd_ne hDx]; exact hL), paired_unlock hx3 hpr, fun hy hhy => ?_⟩
      have hnd := hr1.nodup.sublist hsub
      rw [merge_held0 vf hnd]
      have c5 : Chg [] H2 (upd (upd H3 hx (.dK (heldK r.keys vf))) hy (.dK (heldK ks vf))) := c4.trans (Chg.new hhy)
      have c6 : Chg [rx] H (upd (upd H3 hx (.dK (heldK r.keys vf))) hy (.dK (heldK ks vf))) := (c1.trans c2.nil).trans c5.nil
      have o5 := c5.keep _ _ o2 (by simp)
      walk_at "s"
      refine ⟨_, _, _, _, rfl, o5, TC.cls, TC.held, pf.n1, ?_⟩
      have c7 := c6.trans (Chg.refl.put (l := [rx]) (p := rx) (o := .ins CR dx (putF "held" (.ref hy) fs)) (by simp) o5 rfl)
      have hne2 : hy ≠ rx := fun z => by
        rw [z] at hhy
        rw [c4.keep _ _ o2 (by simp)] at hhy
        cases hhy
      have h0 : H hy = none := (c1.trans (c2.nil.trans c4.nil)).free hhy (by simpa using hne2)
      have ci : Chg [rx] H1 (upd (upd (upd H3 hx (.dK (heldK r.keys vf))) hy (.dK (heldK ks vf))) rx (.ins CR dx (putF "held" (.ref hy) fs))) := (c2.nil.trans c5.nil).trans (Chg.refl.put (by simp) o5 rfl)
      refine q _ hy ks c7 h0 hnd (fun k hk => hsub.subset hk) ⟨⟨_, upd_same, pf.heldW hy⟩, ⟨vf, by rw [upd_ne hne2, upd_same], fun k hk => (hi k (hsub.subset hk)).on ci⟩, hr1.pact.on ci, hr1.ok, hr1.heads, fun k hk => hr1.keys k (hsub.subset hk), hnd, hr1.few⟩
theorem scReader_told_by : FnScope ["self", "at", "number", "told", "form", "last"] ["self", "at", "number", "told"] (defScope sReader_told_by) := ⟨rfl, rfl, rfl, by decide +kernel, rfl, by decide +kernel, by decide +kernel⟩
def sp_Reader_told_by (K : PySem.W.Frag) (CR : Addr) : Sp := fun vs H Q _ => ∃ (rx dx hx : Addr) (rv : V) (p : Pact) (hs : List (List Int)) (r : Rdr) (a : At) (n : Nat) (told : List Nat), vs = [.ref rx, atV a, .int n, .str (S told)] ∧ RdrAt K CR H rx dx hx rv p hs r ∧ AtOk p a ∧ B01 told ∧ told.length ≤ 1000 ∧
  ∀ H' v, Chg [] H H' → ((a ≠ none ∧ v = .non) ∨ (a = none ∧ Is K H' v (headD (wopn p.fs told))) ∨ (∃ i f l, a = some (i, f) ∧ l ∈ r.keys ∧ l < n ∧ n - l ≤ f.reach ∧ Is K H' v (headD (openF p.fs f.ways told (hs.getD l []) (n - l))))) → Q v H'
theorem ok_Reader_told_by (T : Txt K mg) (TC : ClsReader K CR) (F : TopM K CR "told_by" "Reader.told_by" sReader_told_by) (F_opened : Fk P w K mg base CX0 5 "opened" ["shape", "form", "bits", "former", "more"] (sp_opened K)) (M_Reader_below : Mt P w K mg base CX0 1 CR "below" ["self", "number"] (sp_Reader_below K CR)) (F_whole_head : Fk P w K mg base CX0 2 "whole_head" ["shape", "told"] (sp_whole_head K)) : Mt P w K mg base CX0 6 CR "told_by" ["self", "at", "number", "told"] (sp_Reader_told_by K CR) := by
  refine F.mt TC.cls (fun _ _ _ _ _ _ us hl => match us, hl with | [_, _, _, _], _ => rfl) fun f fd F => F.ok scReader_told_by (fun vs H Q E h => ?_) (fun cdv A outer s H vs Q E hr h => ?_)
  · obtain ⟨rx, dx, hx, rv, p, hs, r, a, n, told, rfl, _⟩ := h
    rfl
  · obtain ⟨rx, dx, hx, rv, p, hs, r, a, n, told, rfl, hr1, ha, h01, hz, q⟩ := h
    obtain ⟨fs, o, pf⟩ := hr1.obj
    obtain ⟨vf, hd, hi⟩ := hr1.dict
    have hu := hu_of hr
    refine ⟨_, (pss_cons (ps_if (pt_cmpR op_isN (pv 1) pe_non (nomark _)) (pss_one (ps_ret (pe_fn F_whole_head hr rfl (pa_cons (pe_ixK (K := K) (pe_fldK (K := K) (pv 0) rfl) pe_int (fun _ _ => rfl)) (pa_cons (pv 3) pa_nil))))) pss_nil) (pss_cons (ps_set (i := 4) scReader_told_by.nd rfl (Or.inl rfl) (pe_ixK (K := K) (pe_ixK (K := K) (pe_fldK (K := K) (pv 0) rfl) pe_int (fun _ _ => rfl)) (pv 1) (fun _ _ => rfl))) (pss_cons (ps_set (i := 5) scReader_told_by.nd rfl (Or.inl rfl) (pe_mt M_Reader_below hr (pv 0) (pa_cons (pv 2) pa_nil))) (pss_cons (ps_if (PW.pt (pw_or (pt_cmpR op_isN (pv 5) pe_non (nomark _)) (pw_or1 (pt_cmpR op_gt (pe_op op_sub (pv 2) (pv 5)) (pe_ixK (K := K) (pv 4) pe_int (fun _ _ => rfl)) (nomark _))))) (pss_one (ps_ret pe_non)) pss_nil) (pss_one (ps_ret (pe_fn F_opened hr rfl (pa_cons (pe_ixK (K := K) (pe_fldK (K := K) (pv 0) rfl) pe_int (fun _ _ => rfl)) (pa_cons (pv 4) (pa_cons (pv 3) (pa_cons (pe_dget hu (pe_fldK (K := K) (pv 0) rfl) (pv 5) (fun _ _ => rfl)) (pa_cons (pe_op op_sub (pv 2) (pv 5)) pa_nil)))))))))))), ?_⟩
    match a, ha, q with
    | none, ha, q =>
      walk_at "s"
      refine w_ifT rfl ?_
      walk_at "s"
      refine w_field o TC.cls TC.pact pf.pact ?_
      walk_at "s"
      refine w_ixD hr1.pact rfl fun v iv => ?_
      walk_at "s"
      exact ⟨_, p.fs, p.m, told, rfl, hr1.ok.shape, h01, hz, iv, fun H1 v1 c1 i1 => q _ _ c1 (.inr (.inl ⟨rfl, i1⟩))⟩
    | some (i, f), ha, q =>
      have ef := ha i f rfl
      have hf := hr1.ok.forms i f ef
      walk_at "s"
      refine w_ifF (fun h => nomatch h) ?_
      walk_at "s"
      refine w_field o TC.cls TC.pact pf.pact ?_
      walk_at "s"
      refine w_ixD hr1.pact rfl fun v iv => ?_
      walk_at "s"
      refine w_ixM iv ef fun u iu => ?_
      walk_at "s"
      refine w_self o (pf.no _ (by decide +kernel)) ?_
      walk_at "s"
      refine ⟨rx, dx, hx, rv, p, hs, r, n, rfl, hr1, fun H1 c1 => ?_⟩
      have o1 := c1.keep _ _ o (by simp)
      walk_at "s"
      match eb : belowF r.keys (n : Int) with
      | none =>
        refine w_ifT rfl ?_
        walk_at "s"
        exact q _ _ c1 (.inl ⟨by simp, rfl⟩)
      | some l =>
        obtain ⟨hl1, hl2⟩ := belowF_lt eb
        refine w_ifF (fun h => nomatch h) ?_
        walk_at "s"
        refine w_I0 (j := l) ?_
        walk_at "s"
        refine w_ixDI (iu.on c1) rfl ?_
        walk_at "s"
        refine w_if (fun h => ?_) (fun h => ?_)
        · walk_at "s"
          exact q _ _ c1 (.inl ⟨by simp, rfl⟩)
        · walk_at "s"
          refine w_field o1 TC.cls TC.pact pf.pact ?_
          walk_at "s"
          refine w_ixD (hr1.pact.on c1) rfl fun v2 iv2 => ?_
          walk_at "s"
          refine w_field o1 TC.cls TC.held pf.held ?_
          walk_at "s"
          refine ⟨hx, vf l, rfl, .inl ⟨heldK r.keys vf, .inl (l : Int), .inl (c1.keep _ _ hd (by simp)), rfl, by rw [heldK_val, if_pos hl1]⟩, ?_⟩
          walk_at "s"
          refine w_I0 (j := l) ?_
          walk_at "s"
          have hll := hr1.keys l hl1
          have eg : hs.getD l [] = hs[l] := by rw [List.getD_eq_getElem?_getD, List.getElem?_eq_getElem hll]; rfl
          have hlen : (hs.getD l []).length = p.fs.length := by rw [eg]; exact (hr1.heads _ (List.getElem_mem hll)).len
          have hfr := hf.r2
          refine ⟨_, _, _, p.fs, p.m, f, told, hs.getD l [], n - l, ?_, hr1.ok.shape, hf, hlen, h01, hz, by omega, iv2, iu.on c1, (hi l hl1).on c1, fun H2 v3 c2 i3 => q _ _ (c1.trans c2) (.inr (.inr ⟨i, f, l, rfl, hl1, by omega, by omega, i3⟩))⟩
          have : ((n - l : Nat) : Int) = (n : Int) - (l : Int) := by omega
          rw [this]
theorem LetOk.of {p : Pact} {a : At} {n : Nat} {hd : List Int} (hp : PactOk p) (ha : AtOk p a) (hh : HeadOk p.fs hd) : LetOk p a ((n : Int) % 2 ^ numW p a) (pcsOf p hd a) (checkF p.m n hd) := by
  have hm := mod_lt2 (n : Int) (numW p a)
  have hm1 := hp.shape.m1
  refine ⟨ha, hm.1, hm.2, ?_, ?_, Int.emod_nonneg _ (by omega), Int.emod_lt_of_pos _ (by omega)⟩
  · match a, ha with
    | none, _ => exact wpcs_length _ _ hh.len.symm
    | some (i, f), ha => exact pcs_length _ _ _ (hp.forms i f (ha i f rfl)).len.symm hh.len.symm
  · match a with
    | none => exact wpcs_01 _ _
    | some (i, f) => exact pcs_01 _ _ _
theorem scReader_read : FnScope ["self", "letter", "at", "written", "told", "check", "number", "head"] ["self", "letter"] (defScope sReader_read) := ⟨rfl, rfl, rfl, by decide +kernel, rfl, by decide +kernel, by decide +kernel⟩
/-- what must hold of a letter that comes -/
structure Comes (p : Pact) (hs : List (List Int)) (r : Rdr) (a : At) (n : Nat) : Prop where
  lt : n < hs.length
  few : hs.length ≤ 400
  at_ : AtOk p a
  late : ∀ t, r.top = some t → (t : Int) ≤ n + p.late
  win : ∀ i f t, a = some (i, f) → r.top = some t → (n : Int) < (t : Int) - p.late + 2 ^ f.count
  opens : ∀ i f, a = some (i, f) → ∀ l, l < n → n - l ≤ f.reach → openF p.fs f.ways (pcs p.fs f.ways (hs.getD n [])) (hs.getD l []) (n - l) = hs.getD n []
def sp_Reader_read (K : PySem.W.Frag) (CR : Addr) : Sp := fun vs H Q _ => ∃ (rx dx hx : Addr) (rv : V) (p : Pact) (hs : List (List Int)) (r : Rdr) (a : At) (n : Nat), vs = [.ref rx, .str (S (letterOf p a n (hs.getD n [])))] ∧ RdrAt K CR H rx dx hx rv p hs r ∧ Comes p hs r a n ∧
  ∀ H' hx' r' e v, Chg [rx, hx] H H' → (hx' = hx ∨ H hx' = none) → RdrAt K CR H' rx dx hx' rv p hs r' → ReadR a n (hs.getD n []) r e r' → Is K H' v e → Q v H'
theorem ok_Reader_read (T : Txt K mg) (TC : ClsReader K CR) (F : TopM K CR "read" "Reader.read" sReader_read) (M_Reader_come : Mt P w K mg base CX0 2 CR "come" ["self", "number"] (sp_Reader_come K CR)) (F_check_of : Fk P w K mg base CX0 1 "check_of" ["shape", "number", "head"] (sp_check_of K)) (M_Reader_told_by : Mt P w K mg base CX0 6 CR "told_by" ["self", "at", "number", "told"] (sp_Reader_told_by K CR)) (M_Reader_is_late : Mt P w K mg base CX0 1 CR "is_late" ["self", "number"] (sp_Reader_is_late K CR)) (M_Reader_numbered : Mt P w K mg base CX0 3 CR "numbered" ["self", "at", "written"] (sp_Reader_numbered K CR)) (F_parted : Fk P w K mg base CX0 5 "parted" ["pact", "letter"] (sp_parted K)) : Mt P w K mg base CX0 7 CR "read" ["self", "letter"] (sp_Reader_read K CR) := by
  refine F.mt TC.cls (fun _ _ _ _ _ _ us hl => match us, hl with | [_, _], _ => rfl) fun f fd F => F.ok scReader_read (fun vs H Q E h => ?_) (fun cdv A outer s H vs Q E hr h => ?_)
  · obtain ⟨rx, dx, hx, rv, p, hs, r, a, n, rfl, _⟩ := h
    rfl
  · obtain ⟨rx, dx, hx, rv, p, hs, r, a, n, rfl, hr0, hc, q⟩ := h
    obtain ⟨fs, o, pf⟩ := hr0.obj
    have hu := hu_of hr
    have hlt := hc.lt
    have hfew := hc.few
    have hw1 := hr0.ok.w1
    have hpow : (2 : Int) ^ p.wide ≥ 512 := by
      have : (2 : Nat) ^ 9 ≤ 2 ^ p.wide := Nat.pow_le_pow_right (by decide) hw1
      have e : ((2 : Int) ^ p.wide) = ((2 ^ p.wide : Nat) : Int) := by simp
      rw [e]
      omega
    have eg : hs.getD n [] = hs[n] := by rw [List.getD_eq_getElem?_getD, List.getElem?_eq_getElem hlt]; rfl
    have hh : HeadOk p.fs (hs.getD n []) := by rw [eg]; exact hr0.heads _ (List.getElem_mem hlt)
    generalize ehd : hs.getD n [] = hd at *
    have hlo := LetOk.of (n := n) hr0.ok hc.at_ hh
    refine ⟨_, (pss_cons (ps_asg (pe_fn F_parted hr rfl (pa_cons (pe_fldK (K := K) (pv 0) rfl) (pa_cons (pv 1) pa_nil))) (pg_tupK (K := K) (n := 4) rfl (pgs_cons (pg_name (i := 2) scReader_read.nd rfl (Or.inl rfl)) (pgs_cons (pg_name (i := 3) scReader_read.nd rfl (Or.inl rfl)) (pgs_cons (pg_name (i := 4) scReader_read.nd rfl (Or.inl rfl)) (pgs_cons (pg_name (i := 5) scReader_read.nd rfl (Or.inl rfl)) pgs_nil)))))) (pss_cons (ps_if (PW.pt (pw_and (pt_cmpR op_notN (pv 2) pe_non (nomark _)) (pw_and1 (pt_cmpR op_isN (pe_fldK (K := K) (pv 0) rfl) pe_non (nomark _))))) (pss_one (ps_ret (pe_tup (pa_cons pe_str (pa_cons pe_str pa_nil))))) pss_nil) (pss_cons (ps_set (i := 6) scReader_read.nd rfl (Or.inl rfl) (pe_mt M_Reader_numbered hr (pv 0) (pa_cons (pv 2) (pa_cons (pv 3) pa_nil)))) (pss_cons (ps_if (pt_val (pe_mt M_Reader_is_late hr (pv 0) (pa_cons (pv 6) pa_nil))) (pss_one (ps_ret (pe_tup (pa_cons pe_str (pa_cons pe_str pa_nil))))) pss_nil) (pss_cons (ps_if (pt_cmp (pc_din hu (pv 6) (pe_fldK (K := K) (pv 0) rfl)) (by rfl)) (pss_one (ps_ret (pe_tup (pa_cons pe_str (pa_cons (pv 6) pa_nil))))) pss_nil) (pss_cons (ps_set (i := 7) scReader_read.nd rfl (Or.inl rfl) (pe_mt M_Reader_told_by hr (pv 0) (pa_cons (pv 2) (pa_cons (pv 6) (pa_cons (pv 4) pa_nil))))) (pss_cons (ps_if (pt_cmpR op_isN (pv 7) pe_non (nomark _)) (pss_cons (ps_expr (pe_mt M_Reader_come hr (pv 0) (pa_cons (pv 6) pa_nil))) (pss_one (ps_ret (pe_tup (pa_cons pe_str (pa_cons pe_str pa_nil)))))) pss_nil) (pss_cons (ps_if (pt_cmpR (op_neK (K := K) hr.units) (pe_fn F_check_of hr rfl (pa_cons (pe_ixK (K := K) (pe_fldK (K := K) (pv 0) rfl) pe_int (fun _ _ => rfl)) (pa_cons (pv 6) (pa_cons (pv 7) pa_nil)))) (pv 5) (nomark _)) (pss_one (ps_ret (pe_tup (pa_cons pe_str (pa_cons pe_str pa_nil))))) pss_nil) (pss_cons (ps_dput hu (pe_fldK (K := K) (pv 0) rfl) (pv 6) (pv 7) rfl) (pss_cons (ps_expr (pe_mt M_Reader_come hr (pv 0) (pa_cons (pv 6) pa_nil))) (pss_one (ps_ret (pe_tup (pa_cons pe_str (pa_cons (pv 6) (pa_cons (pv 7) pa_nil)))))))))))))))), ?_⟩
    walk_at "s"
    refine w_field o TC.cls TC.pact pf.pact ?_
    walk_at "s"
    refine ⟨_, p, a, _, _, _, rfl, hr0.ok, hlo, hr0.pact, fun H1 v1 c1 i1 => ?_⟩
    obtain ⟨a1, xs1, rfl, t1, s1⟩ := i1.tup_eq
    obtain ⟨u1, u2, u3, u4, rfl, j1, j2, j3, j4⟩ := s1.four
    obtain rfl := j1.at_eq
    obtain rfl := j2.int_eq
    obtain rfl := j3.str_eq
    obtain rfl := j4.int_eq
    refine w_gTup t1 rfl ?_
    walk_at "s"
    have o1 := c1.keep _ _ o (by simp)
    have hr1 := hr0.calm c1
    have pt := pf.top
    have hnum : r.top ≠ none ∨ a = none → numberedF p r a ((n : Int) % 2 ^ numW p a) = n := by
      intro hcase
      match a, hc, hcase with
      | none, hc, _ =>
        show (n : Int) % 2 ^ p.wide = n
        exact Int.emod_eq_of_lt (by omega) (by omega)
      | some (i, f), hc, hcase =>
        unfold numberedF
        match et : r.top with
        | none => rcases hcase with z | z; exact absurd et z; cases z
        | some t =>
          exact winF_of (by have := hc.late t et; omega) (hc.win i f t rfl et)
    have hlate : isLateF p r (n : Int) = false := by
      unfold isLateF
      rw [if_neg (by omega)]
      match et : r.top with
      | none => rfl
      | some t => exact decide_eq_false (by have := hc.late t et; omega)
    have hd2 : decide (atV a = V.non) = decide (a = none) := by
      match a with
      | none => exact decide_eq_decide.mpr ⟨fun _ => rfl, fun _ => rfl⟩
      | some (i, f) => exact decide_eq_decide.mpr ⟨(fun h => nomatch h), (fun h => nomatch h)⟩
    have hd3 : decide (optV r.top = V.non) = decide (r.top = none) := by
      cases r.top with
      | none => exact decide_eq_decide.mpr ⟨fun _ => rfl, fun _ => rfl⟩
      | some t => exact decide_eq_decide.mpr ⟨(fun h => nomatch h), (fun h => nomatch h)⟩
    rw [hd2]
    suffices hrest : (r.top ≠ none ∨ a = none) → _ by
      refine w_ifn (fun h => ?_) (fun h => ?_)
      · walk_at "s"
        exact hrest (.inr h)
      · walk_at "s"
        refine w_field o1 TC.cls TC.greatest pt ?_
        walk_at "s"
        rw [hd3]
        refine w_if (fun h2 => ?_) (fun h2 => ?_)
        · walk_at "s"
          refine ⟨sz1000 (by simp), fun d hd0 => ?_⟩
          exact q _ hx r _ _ (c1.trans (Chg.new hd0)).nil (.inl rfl) (hr1.calm (Chg.new hd0)) (.blank h h2) (is_new (.cons (.str _) (Iss.one (.str _))) hd0)
        · walk_at "s"
          exact hrest (.inl h2)
    intro hcase
    refine w_self o1 (pf.no _ (by decide +kernel)) ?_
    walk_at "s"
    refine ⟨rx, dx, hx, rv, p, hs, r, a, _, rfl, hr1, hc.at_, fun h => hcase.resolve_right h, ?_⟩
    rw [hnum hcase]
    walk_at "s"
    refine w_self o1 (pf.no _ (by decide +kernel)) ?_
    walk_at "s"
    refine ⟨rx, dx, hx, rv, p, hs, r, n, rfl, hr1, ?_⟩
    rw [hlate]
    walk_at "s"
    refine w_field o1 TC.cls TC.held pf.held ?_
    obtain ⟨vf, hd1, hi⟩ := hr1.dict
    refine ⟨hx, _, rfl, .inl ⟨heldK r.keys vf, .inl (n : Int), .inl hd1, rfl, rfl⟩, ?_⟩
    rw [heldK_val]
    by_cases hmem : n ∈ r.keys
    · rw [if_pos hmem]
      refine ⟨true, rfl, w_T ?_⟩
      walk_at "s"
      refine ⟨sz1000 (by simp), fun d hd0 => ?_⟩
      exact q _ hx r _ _ (c1.trans (Chg.new hd0)).nil (.inl rfl) (hr1.calm (Chg.new hd0)) (.twice hmem) (is_new (.cons (.str _) (Iss.one (.int _))) hd0)
    · rw [if_neg hmem]
      refine ⟨false, rfl, w_F ?_⟩
      walk_at "s"
      refine w_self o1 (pf.no _ (by decide +kernel)) ?_
      walk_at "s"
      have hpl : (pcsOf p hd a).length ≤ 1000 := by
        rw [hlo.len]
        have := pcsW_le hr0.ok hc.at_
        omega
      refine ⟨rx, dx, hx, rv, p, hs, r, a, n, _, rfl, hr1, hc.at_, hlo.b01, hpl, fun H2 v2 c2 hv2 => ?_⟩
      have c12 := c1.trans c2
      have hr2 := hr1.calm c2
      have o2 := c2.keep _ _ o1 (by simp)
      have hx0 : ∀ (H' : Hp) (hy : Addr) (l : List Addr), Chg l H H' → H' hy = none → hy ∉ l → H hy = none := fun H' hy l c h n => c.free h n
      walk_at "s"
      have hv3 : (a ≠ none ∧ v2 = .non) ∨ Is K H2 v2 (headD hd) := by
        rcases hv2 with h | ⟨rfl, h⟩ | ⟨i, f, l, rfl, h1, h2, h3, h4⟩
        · exact .inl h
        · refine .inr ?_
          have e : wopn p.fs (pcsOf p hd none) = hd := wopn_wpcs _ _ hh
          rw [e] at h
          exact h
        · refine .inr ?_
          have e := hc.opens i f rfl l h2 h3
          rw [ehd] at e
          have e2 : pcsOf p hd (some (i, f)) = pcs p.fs f.ways hd := rfl
          rw [e2, e] at h4
          exact h4
      rcases hv3 with ⟨hne, rfl⟩ | hv3
      · refine w_ifT rfl ?_
        walk_at "s"
        refine w_self o2 (pf.no _ (by decide +kernel)) ?_
        walk_at "s"
        refine ⟨rx, dx, hx, rv, p, hs, r, n, rfl, hr2, fun H3 hx' keys c3 hn hnd hsub hr3 => ?_⟩
        walk_at "s"
        refine ⟨sz1000 (by simp), fun d hd0 => ?_⟩
        have hnx : H hx' = none := c12.free hn (by simp)
        exact q _ hx' _ _ _ ((c12.nil.trans (c3.mono (by simp))).trans (Chg.new hd0)) (.inr hnx) (hr3.calm (Chg.new hd0)) (.far keys hne (hcase.resolve_right hne) hnd hsub) (is_new (.cons (.str _) (Iss.one (.str _))) hd0)
      · obtain ⟨av, ys, rfl, tv, sv⟩ := hv3.tup_eq
        refine w_ifF (fun h => nomatch h) ?_
        walk_at "s"
        refine w_field o2 TC.cls TC.pact pf.pact ?_
        walk_at "s"
        refine w_ixD hr2.pact rfl fun v iv => ?_
        walk_at "s"
        refine ⟨_, _, p.fs, p.m, n, hd, rfl, iv, hv3, hr0.ok.shape.m1, by rw [hh.len]; exact hr0.ok.shape.few, fun H3 c3 => ?_⟩
        walk_at "s"
        refine w_ifn (fun _ => ?_) (fun h => absurd rfl h)
        have hr3 := hr2.calm c3
        have o3 := c3.keep _ _ o2 (by simp)
        have hd3 := (c2.trans c3).keep _ _ hd1 (by simp)
        have hv4 := hv3.on c3
        walk_at "s"
        refine w_field o3 TC.cls TC.held pf.held ?_
        walk_at "s"
        have hkf := hr1.kfew
        refine ⟨hx, _, rfl, DPut.k (k := .inl (n : Int)) hd3 (sl1000 (by unfold heldK; rw [List.length_map]; omega)), ?_⟩
        rw [heldK_put hmem]
        have c4 : Chg [hx] H3 (upd H3 hx (.dK (heldK (r.keys ++ [n]) fun k => if k = n then V.ref av else vf k))) := Chg.refl.put (by simp) hd3 rfl
        have hne : rx ≠ hx := ins_ne_dK o3 hd3
        have o4 := c4.keep _ _ o3 (by simpa using hne)
        have hr4 : RdrAt K CR (upd H3 hx (.dK (heldK (r.keys ++ [n]) fun k => if k = n then V.ref av else vf k))) rx dx hx rv p hs ⟨r.top, r.keys ++ [n]⟩ := by
          refine ⟨⟨fs, o4, pf⟩, ⟨_, upd_same, fun k hk => ?_⟩, hr3.pact.on c4, hr0.ok, hr0.heads, fun k hk => ?_, ?_, hr0.few⟩
          · by_cases z : k = n
            · rw [z, if_pos rfl, ehd]
              exact hv4.on c4
            · rw [if_neg z]
              rcases List.mem_append.mp hk with hk | hk
              · exact ((hi k hk).on (c2.trans c3)).on c4
              · exact absurd (by simpa using hk) z
          · rcases List.mem_append.mp hk with hk | hk
            · exact hr0.keys k hk
            · have : k = n := by simpa using hk
              omega
          · rw [List.nodup_append]
            refine ⟨hr0.nodup, by simp, fun x hx1 y hy1 => ?_⟩
            have : y = n := by simpa using hy1
            subst this
            exact fun e => hmem (e ▸ hx1)
        walk_at "s"
        refine w_self o4 (pf.no _ (by decide +kernel)) ?_
        walk_at "s"
        refine ⟨rx, dx, hx, rv, p, hs, _, n, rfl, hr4, fun H5 hx' keys c5 hn hnd hsub hr5 => ?_⟩
        walk_at "s"
        refine ⟨sz1000 (by simp), fun d hd0 => ?_⟩
        have c6 : Chg [rx, hx] H (upd H3 hx (.dK (heldK (r.keys ++ [n]) fun k => if k = n then V.ref av else vf k))) := ((c12.trans c3).nil).trans (c4.mono (by simp))
        have hnx : H hx' = none ∨ hx' = hx := by
          by_cases z : hx' = hx
          · exact .inr z
          · exact .inl (((c12.trans c3).nil.trans c4).free hn (by simpa using z))
        refine q _ hx' _ _ _ ((c6.trans (c5.mono (by simp))).trans (Chg.new hd0)) hnx.symm (hr5.calm (Chg.new hd0)) (.read keys hnd fun k hk => ?_) (is_new (.cons (.str _) (.cons (.int _) (Iss.one ((hv4.on c4).on c5)))) hd0)
        have := hsub k hk
        simp at this ⊢
        exact this.symm
end
end Sh
namespace Sh
open PySem L2
/-! ### the road: the mathematics -/
structure RoadS where
  s : Pre
  r : Rdr
  line : List (At × Nat)
  back : List (Option Nat)
  came : Option Nat
def letterD (p : Pact) (hs : List (List Int)) (l : At × Nat) : PyData := .tuple [.int l.2, .str (S (letterOf p l.1 l.2 (hs.getD l.2 [])))]
/-- a letter on the road -/
structure LineOk (p : Pact) (hs : List (List Int)) (came : Option Nat) (a : At) (n : Nat) : Prop where
  lt : n < hs.length
  at_ : AtOk p a
  cnt : ∀ i f, a = some (i, f) → ∃ l : Int, (n : Int) + p.late - l < 2 ^ f.count ∧ (l ≤ 0 ∨ l ≤ (n : Int) - 1 - p.gap ∨ ∃ c, came = some c ∧ l ≤ (c : Int) - p.late)
  opens : ∀ i f, a = some (i, f) → ∀ l, l < n → n - l ≤ f.reach → openF p.fs f.ways (pcs p.fs f.ways (hs.getD n [])) (hs.getD l []) (n - l) = hs.getD n []
structure RoadInv (p : Pact) (R : RoadS) : Prop where
  line : ∀ l ∈ R.line, LineOk p R.s.past R.came l.1 l.2
  back : ∀ n, some n ∈ R.back → ∃ c, R.came = some c ∧ n ≤ c
  had : ∀ n, R.s.had = some n → ∃ c, R.came = some c ∧ n ≤ c
  top : ∀ t, R.r.top = some t → ∃ c, R.came = some c ∧ t ≤ c ∧ c ≤ t + p.late
  came : ∀ c, R.came = some c → c < R.s.past.length
  few : R.line.length ≤ R.s.past.length
  keys : ∀ k ∈ R.r.keys, ∃ t, R.r.top = some t ∧ k ≤ t
def beyondF (p : Pact) (R : RoadS) (a : At) (n : Nat) : Bool :=
  match R.came with
  | some c => if (c : Int) - n > p.late then true else
    (match R.r.top with
    | none => false
    | some g => decide ((n : Int) > (g : Int) + p.gap + 1) && decide (a ≠ none))
  | none =>
    (match R.r.top with
    | none => false
    | some g => decide ((n : Int) > (g : Int) + p.gap + 1) && decide (a ≠ none))
def cameF (c : Option Nat) (n : Nat) : Option Nat := match c with
  | none => some n
  | some c => if n > c then some n else some c
theorem not_beyond {p : Pact} {R : RoadS} {a : At} {n : Nat} (h : beyondF p R a n = false) : (∀ c, R.came = some c → (c : Int) - n ≤ p.late) ∧ (∀ g, R.r.top = some g → a ≠ none → (n : Int) ≤ (g : Int) + p.gap + 1) := by
  unfold beyondF at h
  refine ⟨fun c hc => ?_, fun g hg ha => ?_⟩
  · rw [hc] at h
    simp only at h
    by_cases z : (c : Int) - n > p.late
    · rw [if_pos z] at h; cases h
    · omega
  · have key : (decide ((n : Int) > (g : Int) + p.gap + 1) && decide (a ≠ none)) = false := by
      cases hc : R.came with
      | none =>
        rw [hc, hg] at h
        exact h
      | some c =>
        rw [hc, hg] at h
        simp only at h
        by_cases z : (c : Int) - n > p.late
        · rw [if_pos z] at h; cases h
        · rw [if_neg z] at h; exact h
    simp only [Bool.and_eq_false_iff, decide_eq_false_iff_not] at key
    rcases key with z | z
    · omega
    · exact absurd ha z
theorem comes_of {p : Pact} {R : RoadS} {a : At} {n : Nat} (I : RoadInv p R) (h : LineOk p R.s.past R.came a n) (hb : beyondF p R a n = false) (hf : R.s.past.length ≤ 400) : Comes p R.s.past R.r a n := by
  obtain ⟨b1, b2⟩ := not_beyond hb
  refine ⟨h.lt, hf, h.at_, fun t ht => ?_, fun i f t ha ht => ?_, h.opens⟩
  · obtain ⟨c, hc, h1, h2⟩ := I.top t ht
    have := b1 c hc
    omega
  · obtain ⟨c, hc, h1, h2⟩ := I.top t ht
    obtain ⟨l, hl, hcase⟩ := h.cnt i f ha
    have b3 := b2 t ht (by rw [ha]; simp)
    rcases hcase with z | z | ⟨c', hc', z⟩
    · omega
    · omega
    · rw [hc] at hc'
      cases hc'
      omega
theorem came_ge {c : Option Nat} {n m : Nat} (h : cameF c n = some m) : n ≤ m ∧ ∀ k, c = some k → k ≤ m := by
  cases c with
  | none => cases h; exact ⟨Nat.le_refl _, fun k z => nomatch z⟩
  | some c =>
    unfold cameF at h
    simp only at h
    by_cases z : n > c
    · rw [if_pos z] at h; cases h; exact ⟨Nat.le_refl _, fun k q => by cases q; omega⟩
    · rw [if_neg z] at h; cases h; exact ⟨by omega, fun k q => by cases q; omega⟩
theorem came_some (c : Option Nat) (n : Nat) : ∃ m, cameF c n = some m ∧ (m = n ∨ c = some m) := by
  cases c with
  | none => exact ⟨n, rfl, .inl rfl⟩
  | some c =>
    unfold cameF
    simp only
    by_cases z : n > c
    · exact ⟨n, if_pos z, .inl rfl⟩
    · exact ⟨c, if_neg z, .inr rfl⟩
theorem getD_append {hs : List (List Int)} {h : List Int} {n : Nat} (hn : n < hs.length) : (hs ++ [h]).getD n [] = hs.getD n [] := by
  rw [List.getD_eq_getElem?_getD, List.getD_eq_getElem?_getD, List.getElem?_append_left hn]
theorem LineOk.more {p : Pact} {hs : List (List Int)} {came : Option Nat} {a : At} {n : Nat} (h : LineOk p hs came a n) (hd : List Int) : LineOk p (hs ++ [hd]) came a n := by
  have hlt := h.lt
  refine ⟨by simp; omega, h.at_, h.cnt, fun i f ha l h1 h2 => ?_⟩
  rw [getD_append hlt, getD_append (by omega)]
  exact h.opens i f ha l h1 h2
theorem LineOk.came {p : Pact} {hs : List (List Int)} {came came' : Option Nat} {a : At} {n : Nat} (h : LineOk p hs came a n) (hc : ∀ c, came = some c → ∃ c', came' = some c' ∧ c ≤ c') : LineOk p hs came' a n := by
  refine ⟨h.lt, h.at_, fun i f ha => ?_, h.opens⟩
  obtain ⟨l, h1, h2⟩ := h.cnt i f ha
  refine ⟨l, h1, ?_⟩
  rcases h2 with z | z | ⟨c, h3, z⟩
  · exact .inl z
  · exact .inr (.inl z)
  · obtain ⟨c', h4, h5⟩ := hc c h3
    exact .inr (.inr ⟨c', h4, by omega⟩)
theorem mx_cases (i j : Int) : mx i j = i ∨ mx i j = j := by
  unfold mx
  split
  · exact .inr rfl
  · exact .inl rfl
theorem inv_press {p : Pact} {R : RoadS} {hd : List Int} {a : At} (I : RoadInv p R) (ha : AtOk p a) (ht : TakesAt p R.s hd a) :
    RoadInv p { R with s := { R.s with past := R.s.past ++ [hd] }, line := R.line ++ [(a, R.s.past.length)] } := by
  have hnew : (R.s.past ++ [hd]).getD R.s.past.length [] = hd := by rw [List.getD_eq_getElem?_getD, List.getElem?_append_right (Nat.le_refl _)]; simp
  refine ⟨fun l hl => ?_, I.back, I.had, I.top, fun c hc => ?_, ?_, I.keys⟩
  · rcases List.mem_append.mp hl with z | z
    · exact (I.line l z).more hd
    · have e : l = (a, R.s.past.length) := by simpa using z
      subst e
      refine ⟨by simp, ha, fun i f e => ?_, fun i f e l h1 h2 => ?_⟩
      · have hk := (ht i f e).counts
        unfold countsF at hk
        have hk := of_decide_eq_true hk
        refine ⟨leastTop p R.s, hk, ?_⟩
        have h0 : ∀ x : Int, x = mx 0 ((R.s.past.length : Int) - 1 - p.gap) → x ≤ 0 ∨ x ≤ (R.s.past.length : Int) - 1 - p.gap := by
          intro x hx
          rcases mx_cases 0 ((R.s.past.length : Int) - 1 - p.gap) with z | z
          · exact .inl (by omega)
          · exact .inr (by omega)
        unfold leastTop
        cases hh : R.s.had with
        | none =>
          rcases h0 _ rfl with z | z
          · exact .inl z
          · exact .inr (.inl z)
        | some h =>
          obtain ⟨c, hc, h3⟩ := I.had h hh
          show mx (mx 0 ((R.s.past.length : Int) - 1 - p.gap)) ((h : Int) - p.late) ≤ 0 ∨ _
          rcases mx_cases (mx 0 ((R.s.past.length : Int) - 1 - p.gap)) ((h : Int) - p.late) with z | z
          · rcases h0 _ z with y | y
            · exact .inl y
            · exact .inr (.inl y)
          · exact .inr (.inr ⟨c, hc, by simp only; omega⟩)
      · have ho := (ht i f e).opens (R.s.past.length - l, R.s.past.getD l []) (by
          unfold frm
          refine List.mem_map.mpr ⟨R.s.past.length - l - 1, List.mem_range.mpr (by show _ < min f.reach R.s.past.length; have : l < R.s.past.length := h1; have : R.s.past.length - l ≤ f.reach := h2; omega), ?_⟩
          have h1' : l < R.s.past.length := h1
          have e1 : R.s.past.length - l - 1 + 1 = R.s.past.length - l := by omega
          have e2 : R.s.past.length - 1 - (R.s.past.length - l - 1) = l := by omega
          rw [e1, e2])
        show openF p.fs f.ways (pcs p.fs f.ways ((R.s.past ++ [hd]).getD R.s.past.length [])) ((R.s.past ++ [hd]).getD l []) (R.s.past.length - l) = (R.s.past ++ [hd]).getD R.s.past.length []
        rw [hnew, getD_append (show l < R.s.past.length from h1)]
        exact ho
  · have := I.came c hc
    simp
    omega
  · have := I.few
    simp
    omega
theorem topF_cases (r : Rdr) (n : Nat) : n ≤ topF r n ∧ (∀ t, r.top = some t → t ≤ topF r n) ∧ (topF r n = n ∨ r.top = some (topF r n)) := by
  unfold topF
  cases h : r.top with
  | none => exact ⟨Nat.le_refl _, fun t z => (nomatch z), .inl rfl⟩
  | some t =>
    simp only
    by_cases z : t < n
    · rw [if_pos z]; exact ⟨Nat.le_refl _, fun t' q => by cases q; omega, .inl rfl⟩
    · rw [if_neg z]; exact ⟨by omega, fun t' q => by cases q; omega, .inr rfl⟩
theorem inv_arrive {p : Pact} {R : RoadS} {a : At} {n : Nat} {e : PyData} {r' : Rdr} {wd : Option Nat} {line : List (At × Nat)} (I : RoadInv p R) (hl : LineOk p R.s.past R.came a n) (hb : beyondF p R a n = false)
    (hr : ReadR a n (R.s.past.getD n []) R.r e r') (hw : ToldWord e wd) (hsub : ∀ l ∈ line, l ∈ R.line) (hle : line.length ≤ R.line.length) :
    RoadInv p { R with r := r', line := line, back := R.back ++ [wd], came := cameF R.came n } := by
  have hk := I.keys
  obtain ⟨b1, b2⟩ := not_beyond hb
  obtain ⟨m, hm, hcase⟩ := came_some R.came n
  obtain ⟨g1, g2⟩ := came_ge hm
  have up : ∀ c, R.came = some c → ∃ c', cameF R.came n = some c' ∧ c ≤ c' := fun c hc => ⟨m, hm, g2 c hc⟩
  have hmle : (m : Int) ≤ n + p.late := by
    rcases hcase with z | z
    · omega
    · have := b1 m z; omega
  refine ⟨fun l h => (I.line l (hsub l h)).came up, fun k hk2 => ?_, fun k hk2 => ?_, fun t ht => ?_, fun c hc => ?_, Nat.le_trans hle I.few, ?_⟩
  · rcases List.mem_append.mp hk2 with z | z
    · obtain ⟨c, h1, h2⟩ := I.back k z
      obtain ⟨c', h3, h4⟩ := up c h1
      exact ⟨c', h3, by omega⟩
    · have e1 : wd = some k := (show some k = wd by simpa using z).symm
      refine ⟨m, hm, ?_⟩
      rcases hw with ⟨y, _, h2⟩ | ⟨y, k', l, h1, h2, h3⟩
      · rw [h2] at e1; cases e1
      · rw [h3] at e1
        cases e1
        cases hr with
        | blank => injection h1 with h1; injection h1 with _ h1; injection h1 with h1 _; cases h1
        | twice => injection h1 with h1; injection h1 with _ h1; injection h1 with h1 _; injection h1 with h1; omega
        | far => injection h1 with h1; injection h1 with _ h1; injection h1 with h1 _; cases h1
        | read => injection h1 with h1; injection h1 with _ h1; injection h1 with h1 _; injection h1 with h1; omega
  · obtain ⟨c, h1, h2⟩ := I.had k hk2
    obtain ⟨c', h3, h4⟩ := up c h1
    exact ⟨c', h3, by omega⟩
  · refine ⟨m, hm, ?_⟩
    have htop : (∃ t0, R.r.top = some t0 ∧ t = t0 ∧ n ≤ t0) ∨ t = topF R.r n := by
      cases hr with
      | blank h1 h2 => have ht : R.r.top = some t := ht; rw [h2] at ht; cases ht
      | twice h1 =>
        obtain ⟨t0, h2, h3⟩ := hk n h1
        have ht : R.r.top = some t := ht
        rw [h2] at ht
        cases ht
        exact .inl ⟨t, h2, rfl, h3⟩
      | far keys _ _ _ _ => have ht : some (topF R.r n) = some t := ht; cases ht; exact .inr rfl
      | read keys _ _ => have ht : some (topF R.r n) = some t := ht; cases ht; exact .inr rfl
    rcases htop with ⟨t0, h1, rfl, h2⟩ | rfl
    · obtain ⟨c, h3, h4, h5⟩ := I.top t h1
      have := g2 c h3
      constructor
      · omega
      · omega
    · obtain ⟨q1, q2, q3⟩ := topF_cases R.r n
      constructor
      · rcases q3 with z | z
        · omega
        · obtain ⟨c, h3, h4, h5⟩ := I.top _ z
          have := g2 c h3
          omega
      · omega
  · have hc : cameF R.came n = some c := hc
    rw [hm] at hc
    cases hc
    rcases hcase with z | z
    · have := hl.lt
      show m < R.s.past.length
      omega
    · exact I.came _ z
  · obtain ⟨q1, q2, q3⟩ := topF_cases R.r n
    cases hr with
    | blank h1 h2 => exact hk
    | twice h1 => exact hk
    | far keys h0 _ _ hs =>
      intro k hkk
      obtain ⟨t, h1, h2⟩ := hk k (hs k hkk)
      exact ⟨_, rfl, Nat.le_trans h2 (q2 t h1)⟩
    | read keys _ hs =>
      intro k hkk
      refine ⟨_, rfl, ?_⟩
      rcases List.mem_cons.mp (hs k hkk) with z | z
      · omega
      · obtain ⟨t, h1, h2⟩ := hk k z
        exact Nat.le_trans h2 (q2 t h1)
theorem inv_line {p : Pact} {R : RoadS} {line : List (At × Nat)} (I : RoadInv p R) (h : ∀ l ∈ line, l ∈ R.line) (hle : line.length ≤ R.line.length) : RoadInv p { R with line := line } :=
  ⟨fun l hl => I.line l (h l hl), I.back, I.had, I.top, I.came, Nat.le_trans hle I.few, I.keys⟩
theorem inv_back {p : Pact} {R : RoadS} {back : List (Option Nat)} (I : RoadInv p R) (h : ∀ l ∈ back, l ∈ R.back) : RoadInv p { R with back := back } :=
  ⟨I.line, fun n hn => I.back n (h _ hn), I.had, I.top, I.came, I.few, I.keys⟩
theorem greater_cases (a b : Option Nat) : greaterF a b = a ∨ greaterF a b = b := by
  cases a with
  | none => exact .inr rfl
  | some a => cases b with
    | none => exact .inl rfl
    | some b =>
      by_cases z : a < b
      · exact .inr (if_pos z)
      · exact .inl (if_neg z)
theorem inv_hear {p : Pact} {R : RoadS} {wd : Option Nat} (I : RoadInv p R) (h : wd ∈ R.back) : RoadInv p { R with s := hearF R.s wd } := by
  have e : (hearF R.s wd).past = R.s.past := by cases wd <;> rfl
  have e2 : ∀ n, (hearF R.s wd).had = some n → R.s.had = some n ∨ wd = some n := by
    intro n hn
    cases wd with
    | none => exact .inl hn
    | some k =>
      have hn : greaterF R.s.had (some k) = some n := hn
      rcases greater_cases R.s.had (some k) with z | z
      · rw [z] at hn; exact .inl hn
      · rw [z] at hn; exact .inr hn
  refine ⟨?_, I.back, fun n hn => ?_, I.top, ?_, ?_, I.keys⟩
  · show ∀ l ∈ R.line, LineOk p (hearF R.s wd).past R.came l.1 l.2
    rw [e]; exact I.line
  · rcases e2 n hn with z | z
    · exact I.had n z
    · exact I.back n (z ▸ h)
  · show ∀ c, R.came = some c → c < (hearF R.s wd).past.length
    rw [e]; exact I.came
  · show R.line.length ≤ (hearF R.s wd).past.length
    rw [e]; exact I.few
theorem inv_forget {p : Pact} {R : RoadS} (I : RoadInv p R) : RoadInv p { R with r := ⟨none, []⟩ } :=
  ⟨I.line, I.back, I.had, fun t z => (nomatch z), I.came, I.few, fun k z => (nomatch z)⟩
end Sh
namespace Sh
open PySem L2 PySem.Spec PyProof.Rows
local macro_rules | `(tactic| walk_at "s1") => `(tactic| first
  | with_reducible refine w_seq ?_
  | with_reducible refine w_asg ?_
  | with_reducible refine w_name ?_
  | with_reducible refine w_ret ?_
  | with_reducible refine w_retN ?_
  | with_reducible refine w_drop ?_
  | with_reducible refine w_next ?_
  | with_reducible refine w_ifS ?_
  | ((with_reducible refine' w_var ?h ?_); (case h => rfl))
  | with_reducible refine w_c ?_
  | with_reducible refine w_op ?_
  | with_reducible refine w_un ?_
  | with_reducible refine w_sl ?_
  | with_reducible refine w_nopart ?_
  | with_reducible refine w_part ?_
  | with_reducible refine w_exint ?_
  | with_reducible refine w_exbl ?_
  | with_reducible refine w_exbl' ?_
  | with_reducible refine w_exint' ?_
  | with_reducible refine w_nn ?_
  | with_reducible refine w_test ?_
  | with_reducible refine w_B ?_
  | with_reducible refine w_and ?_
  | with_reducible refine w_or ?_
  | with_reducible refine w_not ?_
  | with_reducible refine w_andV ?_
  | with_reducible refine w_orV ?_
  | with_reducible refine w_notV ?_
  | with_reducible refine w_ifE ?_
  | with_reducible refine w_nil ?_
  | with_reducible refine w_cons ?_
  | with_reducible refine w_tup ?_
  | with_reducible refine w_lst ?_
  | with_reducible refine w_CB ?_
  | with_reducible refine w_fn ?_
  | with_reducible refine w_T ?_
  | with_reducible refine w_F ?_
  | with_reducible refine w_I0 ?_
  | with_reducible refine w_U ?_
  | with_reducible refine w_addI ?_
  | with_reducible refine w_eqI ?_
  | with_reducible refine w_neI ?_
  | with_reducible refine w_eqS ?_
  | with_reducible refine w_neS ?_
  | with_reducible refine w_for ?_
  | with_reducible refine w_rng1 ?_
  | with_reducible refine w_rng2 ?_
  | with_reducible refine w_iStr ?_
  | with_reducible refine w_iTup ?_
  | with_reducible refine w_iList ?_
  | with_reducible refine w_iEnumT ?_
  | with_reducible refine w_iZip3 ?_
  | with_reducible refine w_iZipA ?_
  | with_reducible refine w_BM ?_
  | with_reducible refine w_gCons ?_
  | with_reducible refine w_gNil ?_
  | ((with_reducible refine' w_gTup ?h ?e ?_); (case h => exact SqT.of upd_same); (case e => rfl))
  | ((with_reducible refine' w_aug ?h ?_); (case h => rfl))
  | with_reducible refine w_ip ?_
  | with_reducible refine w_lc ?_
  | with_reducible refine w_fld ?_
  | with_reducible refine w_chain ?_
  | with_reducible refine w_mt ?_
  | with_reducible refine w_fset ?_
  | with_reducible refine w_dget ?_
  | with_reducible refine w_din ?_
  | with_reducible refine w_dput ?_
  | with_reducible refine w_dnew ?_
  | with_reducible refine w_keys ?_
  | with_reducible refine w_nT ?_
  | with_reducible refine w_nF ?_
  | with_reducible refine w_rowIndex ?_)
local macro_rules | `(tactic| walk_at "s") => `(tactic| repeat (walk_at "s1"))
section
variable {P : Program} {w : World} {K : PySem.W.Frag} {mg : Str → Option Value} {base : Heap} {CP CR CO CB : Addr}
/-! ### the road -/
def veB : List Value := [.type "ValueError", .type "Exception", .type "BaseException", .type "object"]
structure TxtB (K : PySem.W.Frag) (mg : Str → Option Value) (CB : Addr) : Prop where
  gC : mg "Beyond" = some (.ref CB)
  kC : PySem.W.keepIn K (.ref CB) = true
  exc : PySem.W.excIn K CB veB "ValueError.__new__" = true
  sub : PySem.W.subIn K (.ref CB) (.type "BaseException") = some true
  ty : PySem.W.typeIn K (.ref CB) = some (.type "type")
  exm : PySem.W.exmOne K (.ref CB) (.ref CB) = some true
structure Adr where
  o : Addr
  odx : Addr
  px : Addr
  pdx : Addr
  pl : Addr
  rx : Addr
  rdx : Addr
  hx : Addr
  ln : Addr
  bk : Addr
  rw_ : Addr
  pv_ : V
def Adr.all (a : Adr) : List Addr := [a.o, a.px, a.pl, a.rx, a.hx, a.ln, a.bk, a.rw_]
structure AdrNe (a : Adr) : Prop where
  op : a.o ≠ a.px
  or_ : a.o ≠ a.rx
  pr : a.px ≠ a.rx
  l1 : a.pl ≠ a.ln
  l2 : a.pl ≠ a.bk
  l3 : a.pl ≠ a.rw_
  l4 : a.ln ≠ a.bk
  l5 : a.ln ≠ a.rw_
  l6 : a.bk ≠ a.rw_
structure RoadF (fs : List (Str × V)) (a : Adr) (came : Option Nat) : Prop where
  pact : fget fs "pact" = some a.pv_
  one : fget fs "one_end" = some (.ref a.px)
  other : fget fs "other_end" = some (.ref a.rx)
  line : fget fs "line" = some (.ref a.ln)
  back : fget fs "back" = some (.ref a.bk)
  row : fget fs "whole_row" = some (.ref a.rw_)
  came : fget fs "came_most" = some (optV came)
  no : ∀ g : Str, (g == "pact" || g == "one_end" || g == "other_end" || g == "line" || g == "back" || g == "whole_row" || g == "came_most") = false → fget fs g = none
  len : fs.length ≤ 10
theorem RoadF.n1 {fs : List (Str × V)} {a : Adr} {t : Option Nat} (h : RoadF fs a t) : fs.length < 1000 := by have := h.len; omega
theorem RoadF.cameW {fs : List (Str × V)} {a : Adr} {t : Option Nat} (h : RoadF fs a t) (c : Option Nat) : RoadF (putF "came_most" (optV c) fs) a c := by
  refine ⟨?_, ?_, ?_, ?_, ?_, ?_, look_same, fun g hg => ?_, ?_⟩
  · exact (look_other (by decide +kernel)).trans h.pact
  · exact (look_other (by decide +kernel)).trans h.one
  · exact (look_other (by decide +kernel)).trans h.other
  · exact (look_other (by decide +kernel)).trans h.line
  · exact (look_other (by decide +kernel)).trans h.back
  · exact (look_other (by decide +kernel)).trans h.row
  · have h2 := hg
    simp only [Bool.or_eq_false_iff] at h2
    exact (look_other h2.2).trans (h.no g hg)
  · rw [putF_len h.came]; exact h.len
structure RoadAt (K : PySem.W.Frag) (CP CR CO : Addr) (H : Hp) (a : Adr) (p : Pact) (R : RoadS) : Prop where
  obj : ∃ fs, H a.o = some (.ins CO a.odx fs) ∧ RoadF fs a R.came
  pre : PreAt K CP H a.px a.pdx a.pl a.pv_ p R.s
  rdr : RdrAt K CR H a.rx a.rdx a.hx a.pv_ p R.s.past R.r
  line : ∃ xs, H a.ln = some (.lst xs) ∧ Iss K H xs (R.line.map (letterD p R.s.past))
  back : ∃ xs, H a.bk = some (.lst xs) ∧ Iss K H xs (R.back.map wordD)
  row : ∃ xs, H a.rw_ = some (.lst xs) ∧ Iss K H xs (R.s.past.map headD)
  ne : AdrNe a
  inv : RoadInv p R
/-- the objects that a step of the road may change; the held dict may be a new one -/
def Step (H : Hp) (a : Adr) (H' : Hp) (a' : Adr) : Prop := Chg a.all H H' ∧ a' = { a with hx := a'.hx } ∧ (a'.hx = a.hx ∨ H a'.hx = none)
theorem Step.calm {H H' : Hp} {a : Adr} (c : Chg [] H H') : Step H a H' a := ⟨c.nil, rfl, .inl rfl⟩
theorem RoadAt.on {H H' : Hp} {l : List Addr} {a : Adr} {p : Pact} {R : RoadS} (h : RoadAt K CP CR CO H a p R) (c : Chg l H H') (hl : ∀ b ∈ a.all, b ∉ l) : RoadAt K CP CR CO H' a p R := by
  obtain ⟨fs, o, pf⟩ := h.obj
  obtain ⟨x1, l1, i1⟩ := h.line
  obtain ⟨x2, l2, i2⟩ := h.back
  obtain ⟨x3, l3, i3⟩ := h.row
  exact ⟨⟨fs, c.keep _ _ o (hl _ (by simp [Adr.all])), pf⟩, h.pre.on c (hl _ (by simp [Adr.all])) (hl _ (by simp [Adr.all])), h.rdr.on c (hl _ (by simp [Adr.all])) (hl _ (by simp [Adr.all])), ⟨x1, c.keep _ _ l1 (hl _ (by simp [Adr.all])), i1.on c⟩,
    ⟨x2, c.keep _ _ l2 (hl _ (by simp [Adr.all])), i2.on c⟩, ⟨x3, c.keep _ _ l3 (hl _ (by simp [Adr.all])), i3.on c⟩, h.ne, h.inv⟩
theorem RoadAt.calm {H H' : Hp} {a : Adr} {p : Pact} {R : RoadS} (h : RoadAt K CP CR CO H a p R) (c : Chg [] H H') : RoadAt K CP CR CO H' a p R := h.on c (by simp)
/-- what lies where -/
structure Apart (H : Hp) (a : Adr) : Prop where
  o_pl : a.o ≠ a.pl
  o_hx : a.o ≠ a.hx
  o_ln : a.o ≠ a.ln
  o_bk : a.o ≠ a.bk
  o_rw : a.o ≠ a.rw_
  p_pl : a.px ≠ a.pl
  p_hx : a.px ≠ a.hx
  p_ln : a.px ≠ a.ln
  p_bk : a.px ≠ a.bk
  p_rw : a.px ≠ a.rw_
  r_pl : a.rx ≠ a.pl
  r_hx : a.rx ≠ a.hx
  r_ln : a.rx ≠ a.ln
  r_bk : a.rx ≠ a.bk
  r_rw : a.rx ≠ a.rw_
  h_pl : a.hx ≠ a.pl
  h_ln : a.hx ≠ a.ln
  h_bk : a.hx ≠ a.bk
  h_rw : a.hx ≠ a.rw_
theorem ins_ne_lst {H : Hp} {a b C dx : Addr} {fs : List (Str × V)} {xs : List V} (h1 : H a = some (.ins C dx fs)) (h2 : H b = some (.lst xs)) : a ≠ b := fun e => by rw [e, h2] at h1; cases h1
theorem dK_ne_lst {H : Hp} {a b : Addr} {kvs : List (Key × V)} {xs : List V} (h1 : H a = some (.dK kvs)) (h2 : H b = some (.lst xs)) : a ≠ b := fun e => by rw [e, h2] at h1; cases h1
theorem RoadAt.apart {H : Hp} {a : Adr} {p : Pact} {R : RoadS} (h : RoadAt K CP CR CO H a p R) : Apart H a := by
  obtain ⟨fs, o, pf⟩ := h.obj
  obtain ⟨x1, l1, i1⟩ := h.line
  obtain ⟨x2, l2, i2⟩ := h.back
  obtain ⟨x3, l3, i3⟩ := h.row
  obtain ⟨f2, o2, _⟩ := h.pre.obj
  obtain ⟨x4, l4, i4⟩ := h.pre.lst
  obtain ⟨f3, o3, _⟩ := h.rdr.obj
  obtain ⟨vf, d3, _⟩ := h.rdr.dict
  exact ⟨ins_ne_lst o l4, ins_ne_dK o d3, ins_ne_lst o l1, ins_ne_lst o l2, ins_ne_lst o l3, ins_ne_lst o2 l4, ins_ne_dK o2 d3, ins_ne_lst o2 l1, ins_ne_lst o2 l2, ins_ne_lst o2 l3, ins_ne_lst o3 l4, ins_ne_dK o3 d3, ins_ne_lst o3 l1, ins_ne_lst o3 l2, ins_ne_lst o3 l3, dK_ne_lst d3 l4, dK_ne_lst d3 l1, dK_ne_lst d3 l2, dK_ne_lst d3 l3⟩
theorem scRoad_letters : FnScope ["self"] ["self"] (defScope sRoad_letters) := ⟨rfl, rfl, rfl, by decide +kernel, rfl, by decide +kernel, by decide +kernel⟩
def sp_Road_letters (K : PySem.W.Frag) (CP CR CO CB : Addr) : Sp := fun vs H Q _ => ∃ (a : Adr) (p : Pact) (R : RoadS), vs = [.ref a.o] ∧ RoadAt K CP CR CO H a p R ∧ ∀ H' l xs, Chg [] H H' → H l = none → H' l = some (.lst xs) → Iss K H' xs (R.line.map (letterD p R.s.past)) → Q (.ref l) H'
theorem ok_Road_letters (T : Txt K mg) (TC : ClsRoad K CO) (F : TopM K CO "letters" "Road.letters" sRoad_letters)  : Mt P w K mg base CX0 1 CO "letters" ["self"] (sp_Road_letters K CP CR CO CB) := by
  refine F.mt TC.cls (fun _ _ _ _ _ _ us hl => match us, hl with | [_], _ => rfl) fun f fd F => F.ok scRoad_letters (fun vs H Q E h => ?_) (fun cdv A outer s H vs Q E hr h => ?_)
  · obtain ⟨a, p, R, rfl, _⟩ := h
    rfl
  · obtain ⟨a, p, R, rfl, hR, q⟩ := h
    obtain ⟨fs, o, pf⟩ := hR.obj
    obtain ⟨xs, hl, hi⟩ := hR.line
    refine ⟨_, (pss_one (ps_ret (pe_callTy (call_listK (K := K)) (by rfl) T.b_list (by decide +kernel) (pa_cons (pe_fldK (K := K) (pv 0) rfl) pa_nil)))), ?_⟩
    walk_at "s"
    refine w_field o TC.cls TC.line pf.line ?_
    walk_at "s"
    exact ⟨_, _, rfl, .inl (SqL.of hl), fun l hn => q _ l xs (Chg.new hn) hn upd_same (hi.on (Chg.new (l := []) hn))⟩
theorem scRoad_words : FnScope ["self"] ["self"] (defScope sRoad_words) := ⟨rfl, rfl, rfl, by decide +kernel, rfl, by decide +kernel, by decide +kernel⟩
def sp_Road_words (K : PySem.W.Frag) (CP CR CO CB : Addr) : Sp := fun vs H Q _ => ∃ (a : Adr) (p : Pact) (R : RoadS), vs = [.ref a.o] ∧ RoadAt K CP CR CO H a p R ∧ ∀ H' l xs, Chg [] H H' → H l = none → H' l = some (.lst xs) → Iss K H' xs (R.back.map wordD) → Q (.ref l) H'
theorem ok_Road_words (T : Txt K mg) (TC : ClsRoad K CO) (F : TopM K CO "words" "Road.words" sRoad_words)  : Mt P w K mg base CX0 1 CO "words" ["self"] (sp_Road_words K CP CR CO CB) := by
  refine F.mt TC.cls (fun _ _ _ _ _ _ us hl => match us, hl with | [_], _ => rfl) fun f fd F => F.ok scRoad_words (fun vs H Q E h => ?_) (fun cdv A outer s H vs Q E hr h => ?_)
  · obtain ⟨a, p, R, rfl, _⟩ := h
    rfl
  · obtain ⟨a, p, R, rfl, hR, q⟩ := h
    obtain ⟨fs, o, pf⟩ := hR.obj
    obtain ⟨xs, hl, hi⟩ := hR.back
    refine ⟨_, (pss_one (ps_ret (pe_callTy (call_listK (K := K)) (by rfl) T.b_list (by decide +kernel) (pa_cons (pe_fldK (K := K) (pv 0) rfl) pa_nil)))), ?_⟩
    walk_at "s"
    refine w_field o TC.cls TC.back pf.back ?_
    walk_at "s"
    exact ⟨_, _, rfl, .inl (SqL.of hl), fun l hn => q _ l xs (Chg.new hn) hn upd_same (hi.on (Chg.new (l := []) hn))⟩
theorem scRoad_heads : FnScope ["self"] ["self"] (defScope sRoad_heads) := ⟨rfl, rfl, rfl, by decide +kernel, rfl, by decide +kernel, by decide +kernel⟩
def sp_Road_heads (K : PySem.W.Frag) (CP CR CO CB : Addr) : Sp := fun vs H Q _ => ∃ (a : Adr) (p : Pact) (R : RoadS), vs = [.ref a.o] ∧ RoadAt K CP CR CO H a p R ∧ ∀ H' l xs, Chg [] H H' → H l = none → H' l = some (.lst xs) → Iss K H' xs (R.s.past.map headD) → Q (.ref l) H'
theorem ok_Road_heads (T : Txt K mg) (TC : ClsRoad K CO) (F : TopM K CO "heads" "Road.heads" sRoad_heads)  : Mt P w K mg base CX0 1 CO "heads" ["self"] (sp_Road_heads K CP CR CO CB) := by
  refine F.mt TC.cls (fun _ _ _ _ _ _ us hl => match us, hl with | [_], _ => rfl) fun f fd F => F.ok scRoad_heads (fun vs H Q E h => ?_) (fun cdv A outer s H vs Q E hr h => ?_)
  · obtain ⟨a, p, R, rfl, _⟩ := h
    rfl
  · obtain ⟨a, p, R, rfl, hR, q⟩ := h
    obtain ⟨fs, o, pf⟩ := hR.obj
    obtain ⟨xs, hl, hi⟩ := hR.row
    refine ⟨_, (pss_one (ps_ret (pe_callTy (call_listK (K := K)) (by rfl) T.b_list (by decide +kernel) (pa_cons (pe_fldK (K := K) (pv 0) rfl) pa_nil)))), ?_⟩
    walk_at "s"
    refine w_field o TC.cls TC.row pf.row ?_
    walk_at "s"
    exact ⟨_, _, rfl, .inl (SqL.of hl), fun l hn => q _ l xs (Chg.new hn) hn upd_same (hi.on (Chg.new (l := []) hn))⟩
theorem Comes.letOk {p : Pact} {hs : List (List Int)} {a : At} {n : Nat} (hp : PactOk p) (hh : ∀ h ∈ hs, HeadOk p.fs h) (hn : n < hs.length) (ha : AtOk p a) : LetOk p a ((n : Int) % 2 ^ numW p a) (pcsOf p (hs.getD n []) a) (checkF p.m n (hs.getD n [])) := by
  have eg : hs.getD n [] = hs[n] := by rw [List.getD_eq_getElem?_getD, List.getElem?_eq_getElem hn]; rfl
  exact LetOk.of hp ha (by rw [eg]; exact hh _ (List.getElem_mem hn))
theorem scRoad_is_beyond : FnScope ["self", "number", "letter", "skips", "gap", "late", "anew", "greatest"] ["self", "number", "letter"] (defScope sRoad_is_beyond) := ⟨rfl, rfl, rfl, by decide +kernel, rfl, by decide +kernel, by decide +kernel⟩
def sp_Road_is_beyond (K : PySem.W.Frag) (CP CR CO CB : Addr) : Sp := fun vs H Q _ => ∃ (ad : Adr) (p : Pact) (R : RoadS) (a : At) (n : Nat), vs = [.ref ad.o, .int n, .str (S (letterOf p a n (R.s.past.getD n [])))] ∧ RoadAt K CP CR CO H ad p R ∧ n < R.s.past.length ∧ AtOk p a ∧ ∀ H', Chg [] H H' → Q (.bl (beyondF p R a n)) H'
theorem ok_Road_is_beyond (T : Txt K mg) (TC : ClsRoad K CO) (F : TopM K CO "is_beyond" "Road.is_beyond" sRoad_is_beyond) (F_parted : Fk P w K mg base CX0 5 "parted" ["pact", "letter"] (sp_parted K)) (M_Reader_top : Mt P w K mg base CX0 1 CR "top" ["self"] (sp_Reader_top K CR)) : Mt P w K mg base CX0 6 CO "is_beyond" ["self", "number", "letter"] (sp_Road_is_beyond K CP CR CO CB) := by
  refine F.mt TC.cls (fun _ _ _ _ _ _ us hl => match us, hl with | [_, _, _], _ => rfl) fun f fd F => F.ok scRoad_is_beyond (fun vs H Q E h => ?_) (fun cdv A outer s H vs Q E hr h => ?_)
  · obtain ⟨ad, p, R, a, n, rfl, _⟩ := h
    rfl
  · obtain ⟨ad, p, R, a, n, rfl, hR, hn, ha, q⟩ := h
    obtain ⟨fs, o, pf⟩ := hR.obj
    obtain ⟨f3, o3, pf3⟩ := hR.rdr.obj
    have hp := hR.rdr.ok
    have hlo := Comes.letOk hp hR.rdr.heads hn ha
    refine ⟨_, (pss_cons (ps_asg (pe_ixK (K := K) (pe_fldK (K := K) (pv 0) rfl) pe_int (fun _ _ => rfl)) (pg_tupK (K := K) (n := 4) rfl (pgs_cons (pg_name (i := 3) scRoad_is_beyond.nd rfl (Or.inl rfl)) (pgs_cons (pg_name (i := 4) scRoad_is_beyond.nd rfl (Or.inl rfl)) (pgs_cons (pg_name (i := 5) scRoad_is_beyond.nd rfl (Or.inl rfl)) (pgs_cons (pg_name (i := 6) scRoad_is_beyond.nd rfl (Or.inl rfl)) pgs_nil)))))) (pss_cons (ps_if (PW.pt (pw_and (pt_cmpR op_notN (pe_fldK (K := K) (pv 0) rfl) pe_non (nomark _)) (pw_and1 (pt_cmpR op_gt (pe_op op_sub (pe_fldK (K := K) (pv 0) rfl) (pv 1)) (pv 5) (nomark _))))) (pss_one (ps_ret pe_bl)) pss_nil) (pss_cons (ps_set (i := 7) scRoad_is_beyond.nd rfl (Or.inl rfl) (pe_mt0 M_Reader_top hr (pe_fldK (K := K) (pv 0) rfl))) (pss_one (ps_ret (pe_and (pe_cmpR op_notN (pv 7) pe_non (nomark _)) (pe_and (pe_cmpR op_gt (pv 1) (pe_op (op_addK (K := K)) (pe_op (op_addK (K := K)) (pv 7) (pv 4)) pe_int) (nomark _)) (pe_one (pe_cmpR op_notN (pe_ixK (K := K) (pe_fn F_parted hr rfl (pa_cons (pe_fldK (K := K) (pv 0) rfl) (pa_cons (pv 2) pa_nil))) pe_int (fun _ _ => rfl)) pe_non (nomark _)))))))))), ?_⟩
    walk_at "s"
    refine w_field o TC.cls TC.pact pf.pact ?_
    walk_at "s"
    refine w_ixD hR.rdr.pact rfl fun v iv => ?_
    obtain ⟨a1, xs1, rfl, t1, s1⟩ := iv.tup_eq
    obtain ⟨u1, u2, u3, u4, rfl, j1, j2, j3, j4⟩ := s1.four
    obtain rfl := j1.int_eq
    obtain rfl := j2.int_eq
    obtain rfl := j3.int_eq
    obtain rfl := j4.int_eq
    refine w_gTup t1 rfl ?_
    walk_at "s"
    have pc := pf.came
    refine w_field o TC.cls TC.came pc ?_
    walk_at "s"
    have hd2 : decide (optV R.came = V.non) = decide (R.came = none) := by
      cases R.came with
      | none => exact decide_eq_decide.mpr ⟨fun _ => rfl, fun _ => rfl⟩
      | some t => exact decide_eq_decide.mpr ⟨(fun h => nomatch h), (fun h => nomatch h)⟩
    rw [hd2]
    suffices hrest : (beyondF p R a n = (match R.r.top with | none => false | some g => decide ((n : Int) > (g : Int) + p.gap + 1) && decide (a ≠ none))) → _ by
      refine w_ifn (fun h => ?_) (fun h => ?_)
      · walk_at "s"
        exact hrest (by unfold beyondF; rw [h]; try (cases R.r.top <;> rfl))
      · obtain ⟨c, hc⟩ : ∃ c, R.came = some c := by
          cases e : R.came with
          | none => exact absurd e h
          | some c => exact ⟨c, rfl⟩
        rw [hc] at pc
        walk_at "s"
        refine w_field o TC.cls TC.came pc ?_
        walk_at "s"
        refine w_I0 (i := c) ?_
        walk_at "s"
        refine w_if (fun h2 => ?_) (fun h2 => ?_)
        · walk_at "s"
          have e : beyondF p R a n = true := by
            unfold beyondF
            rw [hc]
            exact if_pos (by simpa using h2)
          rw [← e]
          exact q _ Chg.refl
        · walk_at "s"
          refine hrest ?_
          unfold beyondF
          rw [hc]
          exact if_neg (by simpa using h2)
    intro hb
    refine w_field o TC.cls TC.other pf.other ?_
    refine w_self o3 (pf3.no _ (by decide +kernel)) ?_
    walk_at "s"
    refine ⟨_, _, _, _, p, _, _, rfl, hR.rdr, ?_⟩
    walk_at "s"
    match ht : R.r.top, hb with
    | none, hb =>
      refine w_ifn (fun _ => ?_) (fun h => absurd rfl h)
      have e := q _ Chg.refl
      rw [hb] at e
      exact e
    | some g, hb =>
      refine w_ifn (fun h => nomatch h) (fun _ => ?_)
      walk_at "s"
      refine w_addI (i := g) ?_
      walk_at "s"
      refine w_if (fun h2 => ?_) (fun h2 => ?_)
      · walk_at "s"
        refine w_field o TC.cls TC.pact pf.pact ?_
        walk_at "s"
        refine ⟨_, p, a, _, _, _, rfl, hp, hlo, hR.rdr.pact, fun H1 v1 c1 i1 => ?_⟩
        walk_at "s"
        refine w_ixD i1 rfl fun v2 i2 => ?_
        obtain rfl := i2.at_eq
        walk_at "s"
        have e := q _ c1
        rw [hb] at e
        simp only at e
        rw [decide_eq_true h2, Bool.true_and] at e
        have e3 : (!decide (atV a = V.non)) = decide (a ≠ none) := by
          match a with
          | none => rfl
          | some (i, f) => rfl
        rw [e3]
        exact e
      · have e := q _ Chg.refl
        rw [hb] at e
        simp only at e
        rw [decide_eq_false h2, Bool.false_and] at e
        exact e
end
end Sh
namespace Sh
open PySem L2 PySem.Spec PyProof.Rows
local macro_rules | `(tactic| walk_at "s1") => `(tactic| first
  | with_reducible refine w_seq ?_
  | with_reducible refine w_asg ?_
  | with_reducible refine w_name ?_
  | with_reducible refine w_ret ?_
  | with_reducible refine w_retN ?_
  | with_reducible refine w_drop ?_
  | with_reducible refine w_next ?_
  | with_reducible refine w_ifS ?_
  | ((with_reducible refine' w_var ?h ?_); (case h => rfl))
  | with_reducible refine w_c ?_
  | with_reducible refine w_op ?_
  | with_reducible refine w_un ?_
  | with_reducible refine w_sl ?_
  | with_reducible refine w_nopart ?_
  | with_reducible refine w_part ?_
  | with_reducible refine w_exint ?_
  | with_reducible refine w_exbl ?_
  | with_reducible refine w_exbl' ?_
  | with_reducible refine w_exint' ?_
  | with_reducible refine w_nn ?_
  | with_reducible refine w_test ?_
  | with_reducible refine w_B ?_
  | with_reducible refine w_and ?_
  | with_reducible refine w_or ?_
  | with_reducible refine w_not ?_
  | with_reducible refine w_andV ?_
  | with_reducible refine w_orV ?_
  | with_reducible refine w_notV ?_
  | with_reducible refine w_ifE ?_
  | with_reducible refine w_nil ?_
  | with_reducible refine w_cons ?_
  | with_reducible refine w_tup ?_
  | with_reducible refine w_lst ?_
  | with_reducible refine w_CB ?_
  | with_reducible refine w_fn ?_
  | with_reducible refine w_T ?_
  | with_reducible refine w_F ?_
  | with_reducible refine w_I0 ?_
  | with_reducible refine w_U ?_
  | with_reducible refine w_addI ?_
  | with_reducible refine w_eqI ?_
  | with_reducible refine w_neI ?_
  | with_reducible refine w_eqS ?_
  | with_reducible refine w_neS ?_
  | with_reducible refine w_for ?_
  | with_reducible refine w_rng1 ?_
  | with_reducible refine w_rng2 ?_
  | with_reducible refine w_iStr ?_
  | with_reducible refine w_iTup ?_
  | with_reducible refine w_iList ?_
  | with_reducible refine w_iEnumT ?_
  | with_reducible refine w_iZip3 ?_
  | with_reducible refine w_iZipA ?_
  | with_reducible refine w_BM ?_
  | with_reducible refine w_gCons ?_
  | with_reducible refine w_gNil ?_
  | ((with_reducible refine' w_gTup ?h ?e ?_); (case h => exact SqT.of upd_same); (case e => rfl))
  | ((with_reducible refine' w_aug ?h ?_); (case h => rfl))
  | with_reducible refine w_ip ?_
  | with_reducible refine w_lc ?_
  | with_reducible refine w_fld ?_
  | with_reducible refine w_chain ?_
  | with_reducible refine w_mt ?_
  | with_reducible refine w_fset ?_
  | with_reducible refine w_dget ?_
  | with_reducible refine w_din ?_
  | with_reducible refine w_dput ?_
  | with_reducible refine w_dnew ?_
  | with_reducible refine w_keys ?_
  | with_reducible refine w_nT ?_
  | with_reducible refine w_nF ?_
  | with_reducible refine w_rowIndex ?_)
local macro_rules | `(tactic| walk_at "s") => `(tactic| repeat (walk_at "s1"))
section
variable {P : Program} {w : World} {K : PySem.W.Frag} {mg : Str → Option Value} {base : Heap} {CP CR CO CB : Addr}
theorem seqIx_nat {n k : Nat} (h : k < n) : seqIndex? (k : Int) n = some k := (ixN_seq (show ixN n (k : Int) = some k by unfold ixN; rw [if_pos (by omega), if_pos (by omega)]; simp)).1
theorem Iss.erase {H : Hp} : ∀ {xs : List V} {ds : List PyData} (k : Nat), Iss K H xs ds → Iss K H (xs.eraseIdx k) (ds.eraseIdx k)
  | [], _, k, h => by cases h; cases k <;> exact .nil
  | x :: xs, _, 0, h => by cases h with | cons h1 h2 => exact h2
  | x :: xs, _, k + 1, h => by cases h with | cons h1 h2 => exact .cons h1 (Iss.erase k h2)
theorem map_erase {α β : Type} (f : α → β) : ∀ (l : List α) (k : Nat), (l.map f).eraseIdx k = (l.eraseIdx k).map f
  | [], k => by cases k <;> rfl
  | a :: l, 0 => rfl
  | a :: l, k + 1 => by
    simp only [List.map_cons, List.eraseIdx_cons_succ]
    rw [map_erase f l k]
theorem mem_erase {α : Type} {l : List α} {k : Nat} {a : α} (h : a ∈ l.eraseIdx k) : a ∈ l := List.mem_of_mem_eraseIdx h
theorem erase_le {α : Type} (l : List α) (k : Nat) : (l.eraseIdx k).length ≤ l.length := (List.eraseIdx_sublist l k).length_le
/-- pop(k) of a tracked list -/
theorem w_popAt {H : Hp} {Q : VK} {l : Addr} {xs : List V} {k : Nat} {y : V} (h : H l = some (.lst xs)) (e : xs[k]? = some y) (hz : k < 1000000) (q : Q y (upd H l (.lst (xs.eraseIdx k)))) : tyV K "list" (.ref l) H ∧ rPopAt (.ref l) [.int (k : Int)] H Q :=
  ⟨.inl ⟨rfl, _, SqL.of h⟩, l, xs, k, k, y, rfl, rfl, h, by omega, by omega, seqIx_nat (List.getElem?_eq_some_iff.mp e).1, e, q⟩
theorem letter_same {p : Pact} {hs : List (List Int)} {came : Option Nat} {hd : List Int} : ∀ {line : List (At × Nat)}, (∀ l ∈ line, LineOk p hs came l.1 l.2) → line.map (letterD p (hs ++ [hd])) = line.map (letterD p hs) := by
  intro line h
  apply List.map_congr_left
  intro l hl
  unfold letterD
  rw [getD_append (h l hl).lt]
theorem scRoad_put_on : FnScope ["self", "head", "number", "letter"] ["self", "head"] (defScope sRoad_put_on) := ⟨rfl, rfl, rfl, by decide +kernel, rfl, by decide +kernel, by decide +kernel⟩
def sp_Road_put_on (K : PySem.W.Frag) (CP CR CO CB : Addr) : Sp := fun vs H Q _ => ∃ (ad : Adr) (p : Pact) (R : RoadS) (hd : List Int) (x : V), vs = [.ref ad.o, x] ∧ RoadAt K CP CR CO H ad p R ∧ HeadOk p.fs hd ∧ Is K H x (headD hd) ∧ R.s.past.length ≤ 399 ∧
  ∀ H' v a, Chg ad.all H H' → RoadAt K CP CR CO H' ad p { R with s := { R.s with past := R.s.past ++ [hd] }, line := R.line ++ [(a, R.s.past.length)] } → AtOk p a → sizeL p a ≤ sizeL p none → Is K H' v (.tuple [.str "sent", .int R.s.past.length, .int (sizeL p a)]) → Q v H'
theorem ok_Road_put_on (T : Txt K mg) (TC : ClsRoad K CO) (F : TopM K CO "put_on" "Road.put_on" sRoad_put_on) (M_Presser_press : Mt P w K mg base CX0 10 CP "press" ["self", "head"] (sp_Presser_press K CP)) (M_Presser_sent : Mt P w K mg base CX0 1 CP "sent" ["self"] (sp_Presser_sent K CP)) : Mt P w K mg base CX0 11 CO "put_on" ["self", "head"] (sp_Road_put_on K CP CR CO CB) := by
  refine F.mt TC.cls (fun _ _ _ _ _ _ us hl => match us, hl with | [_, _], _ => rfl) fun f fd F => F.ok scRoad_put_on (fun vs H Q E h => ?_) (fun cdv A outer s H vs Q E hr h => ?_)
  · obtain ⟨ad, p, R, hd, x, rfl, _⟩ := h
    rfl
  · obtain ⟨ad, p, R, hd, x, rfl, hR, hh, ix, hfew, q⟩ := h
    obtain ⟨fs, o, pf⟩ := hR.obj
    obtain ⟨f2, o2, pf2⟩ := hR.pre.obj
    obtain ⟨x1, l1, i1⟩ := hR.line
    obtain ⟨x2, l2, i2⟩ := hR.back
    obtain ⟨x3, l3, i3⟩ := hR.row
    have ap := hR.apart
    have ne := hR.ne
    refine ⟨_, (pss_cons (ps_set (i := 2) scRoad_put_on.nd rfl (Or.inl rfl) (pe_mt0 M_Presser_sent hr (pe_fldK (K := K) (pv 0) rfl))) (pss_cons (ps_set (i := 3) scRoad_put_on.nd rfl (Or.inl rfl) (pe_mt M_Presser_press hr (pe_fldK (K := K) (pv 0) rfl) (pa_cons (pv 1) pa_nil))) (pss_cons (ps_expr (pe_bmK (K := K) PySem.F.plainAttrs_list PySem.F.slot_list_append PySem.F.type_list_append mt_append (pe_fldK (K := K) (pv 0) rfl) (pa_cons (pv 1) pa_nil))) (pss_cons (ps_expr (pe_bmK (K := K) PySem.F.plainAttrs_list PySem.F.slot_list_append PySem.F.type_list_append mt_append (pe_fldK (K := K) (pv 0) rfl) (pa_cons (pe_tup (pa_cons (pv 2) (pa_cons (pv 3) pa_nil))) pa_nil))) (pss_one (ps_ret (pe_tup (pa_cons pe_str (pa_cons (pv 2) (pa_cons (pe_callB (call_lenK (K := K)) (by rfl) T.b_len PySem.boot_len (pa_cons (pv 3) pa_nil)) pa_nil)))))))))), ?_⟩
    walk_at "s"
    refine w_field o TC.cls TC.one pf.one ?_
    refine w_self o2 (pf2.no _ (by decide +kernel)) ?_
    walk_at "s"
    refine ⟨_, _, _, _, p, R.s, rfl, hR.pre, ?_⟩
    walk_at "s"
    refine w_field o TC.cls TC.one pf.one ?_
    refine w_self o2 (pf2.no _ (by decide +kernel)) ?_
    walk_at "s"
    refine ⟨_, _, _, _, _, p, R.s, hd, rfl, hR.pre, ap.p_pl, hh, ix, by omega, fun H1 a c1 hp1 ha ht hsz => ?_⟩
    have o1 : H1 ad.o = some (.ins CO ad.odx fs) := c1.keep _ _ o (by simpa using ap.o_pl)
    have r1 : H1 ad.rw_ = some (.lst x3) := c1.keep _ _ l3 (by simpa using Ne.symm ne.l3)
    have n1 : H1 ad.ln = some (.lst x1) := c1.keep _ _ l1 (by simpa using Ne.symm ne.l1)
    have hlen3 : x3.length = R.s.past.length := by rw [i3.length, List.length_map]
    have hlen1 : x1.length = R.line.length := by rw [i1.length, List.length_map]
    have hfl := hR.inv.few
    walk_at "s"
    refine w_field o1 TC.cls TC.row pf.row ?_
    refine ⟨.inl ⟨rfl, _, SqL.of r1⟩, ?_⟩
    walk_at "s"
    refine ⟨_, _, _, rfl, rfl, r1, sl1000 (by omega), ?_⟩
    have c2 : Chg [ad.rw_] H1 (upd H1 ad.rw_ (.lst (x3 ++ [x]))) := Chg.refl.put (by simp) r1 rfl
    have o2' := c2.keep _ _ o1 (by simpa using ap.o_rw)
    have n2 := c2.keep _ _ n1 (by simpa using ne.l5)
    walk_at "s"
    refine w_field o2' TC.cls TC.line pf.line ?_
    refine ⟨.inl ⟨rfl, _, SqL.of n2⟩, ?_⟩
    walk_at "s"
    refine ⟨sz1000 (by simp), fun u hu => ?_⟩
    have hnu : ad.ln ≠ u := ne_of_none n2 hu
    have c3 : Chg [] (upd H1 ad.rw_ (.lst (x3 ++ [x]))) (upd (upd H1 ad.rw_ (.lst (x3 ++ [x]))) u (.tup [.int R.s.past.length, .str (S (letterOf p a R.s.past.length hd))])) := Chg.new hu
    have n3 := c3.keep _ _ n2 (by simp)
    walk_at "s"
    refine ⟨_, _, _, rfl, rfl, n3, sl1000 (by omega), ?_⟩
    generalize hH3 : upd (upd H1 ad.rw_ (.lst (x3 ++ [x]))) u (.tup [.int R.s.past.length, .str (S (letterOf p a R.s.past.length hd))]) = H3 at c3 n3 ⊢
    have c4 : Chg [ad.ln] H3 (upd H3 ad.ln (.lst (x1 ++ [.ref u]))) := Chg.refl.put (by simp) n3 rfl
    have hu3 : H3 u = some (.tup [.int R.s.past.length, .str (S (letterOf p a R.s.past.length hd))]) := by rw [← hH3]; exact upd_same
    have hlt : (letterOf p a R.s.past.length hd).length = sizeL p a := letterL_length (LetOk.of (n := R.s.past.length) hR.pre.ok ha hh).len
    have hsz2 := sizeL_le hR.pre.ok ha
    walk_at "s"
    refine w_lenS (by rw [S_len, hlt]; exact sz1000 (by omega)) ?_
    walk_at "s"
    refine ⟨sz1000 (by simp), fun d hd0 => ?_⟩
    rw [S_len, hlt]
    have c5 : Chg [] (upd H3 ad.ln (.lst (x1 ++ [.ref u]))) (upd (upd H3 ad.ln (.lst (x1 ++ [.ref u]))) d (.tup [.str "sent", .int R.s.past.length, .int (sizeL p a)])) := Chg.new hd0
    have call : Chg ad.all H (upd (upd H3 ad.ln (.lst (x1 ++ [.ref u]))) d (.tup [.str "sent", .int R.s.past.length, .int (sizeL p a)])) :=
      ((((c1.mono (by simp [Adr.all])).trans (c2.mono (by simp [Adr.all]))).trans c3.nil).trans (c4.mono (by simp [Adr.all]))).trans c5.nil
    have c25 : Chg [ad.rw_, ad.ln] H1 (upd (upd H3 ad.ln (.lst (x1 ++ [.ref u]))) d (.tup [.str "sent", .int R.s.past.length, .int (sizeL p a)])) :=
      (((c2.mono (by simp)).trans c3.nil).trans (c4.mono (by simp))).trans c5.nil
    have hnew : (R.s.past ++ [hd]).getD R.s.past.length [] = hd := by rw [List.getD_eq_getElem?_getD, List.getElem?_append_right (Nat.le_refl _)]; simp
    refine q _ _ a call ?_ ha hsz (is_new (.cons (.str _) (.cons (.int _) (Iss.one (.int _)))) hd0)
    have hrd := hR.rdr.on c1 (by simpa using ap.r_pl) (by simpa using ap.h_pl)
    have hrd2 := hrd.on c25 (by simp [ap.r_rw, ap.r_ln]) (by simp [ap.h_rw, ap.h_ln])
    have hpr2 := hp1.on c25 (by simp [ap.p_rw, ap.p_ln]) (by simp [ne.l1, ne.l3])
    refine ⟨⟨fs, c25.keep _ _ o1 (by simp [ap.o_rw, ap.o_ln]), pf⟩, hpr2, ?_, ⟨x1 ++ [.ref u], c5.keep _ _ upd_same (by simp), ?_⟩, ⟨x2, c25.keep _ _ (c1.keep _ _ l2 (by simpa using Ne.symm ne.l2)) (by simp [Ne.symm ne.l4, ne.l6]), ?_⟩, ⟨x3 ++ [x], ?_, ?_⟩, ne, inv_press hR.inv ha ht⟩
    · refine ⟨hrd2.obj, ?_, hrd2.pact, hrd2.ok, hpr2.heads, fun n hn => ?_, hrd2.nodup, hpr2.few⟩
      · obtain ⟨vf, h1, h2⟩ := hrd2.dict
        refine ⟨vf, h1, fun n hn => ?_⟩
        show Is K _ (vf n) (headD ((R.s.past ++ [hd]).getD n []))
        rw [getD_append (hR.rdr.keys n hn)]
        exact h2 n hn
      · have := hR.rdr.keys n hn
        show n < (R.s.past ++ [hd]).length
        simp
        omega
    · rw [List.map_append]
      show Iss K _ (x1 ++ [.ref u]) (R.line.map (letterD p (R.s.past ++ [hd])) ++ _)
      rw [letter_same hR.inv.line]
      refine Iss.append ?_ (Iss.one ?_)
      · exact i1.on call
      · show Is K _ (.ref u) (.tuple [.int R.s.past.length, .str (S (letterOf p a R.s.past.length ((R.s.past ++ [hd]).getD R.s.past.length [])))])
        rw [hnew]
        exact (Is.tup (SqT.of hu3) (.cons (.int _) (Iss.one (.str _)))).on (c4.trans c5.nil)
    · exact i2.on call
    · exact c5.keep _ _ (c4.keep _ _ (c3.keep _ _ upd_same (by simp)) (by simpa using Ne.symm ne.l5)) (by simp)
    · show Iss K _ (x3 ++ [x]) ((R.s.past ++ [hd]).map headD)
      rw [List.map_append]
      exact (i3.on call).append (Iss.one (ix.on call))
end
end Sh
namespace Sh
open PySem L2 PySem.Spec PyProof.Rows
local macro_rules | `(tactic| walk_at "s1") => `(tactic| first
  | with_reducible refine w_seq ?_
  | with_reducible refine w_asg ?_
  | with_reducible refine w_name ?_
  | with_reducible refine w_ret ?_
  | with_reducible refine w_retN ?_
  | with_reducible refine w_drop ?_
  | with_reducible refine w_next ?_
  | with_reducible refine w_ifS ?_
  | ((with_reducible refine' w_var ?h ?_); (case h => rfl))
  | with_reducible refine w_c ?_
  | with_reducible refine w_op ?_
  | with_reducible refine w_un ?_
  | with_reducible refine w_sl ?_
  | with_reducible refine w_nopart ?_
  | with_reducible refine w_part ?_
  | with_reducible refine w_exint ?_
  | with_reducible refine w_exbl ?_
  | with_reducible refine w_exbl' ?_
  | with_reducible refine w_exint' ?_
  | with_reducible refine w_nn ?_
  | with_reducible refine w_test ?_
  | with_reducible refine w_B ?_
  | with_reducible refine w_and ?_
  | with_reducible refine w_or ?_
  | with_reducible refine w_not ?_
  | with_reducible refine w_andV ?_
  | with_reducible refine w_orV ?_
  | with_reducible refine w_notV ?_
  | with_reducible refine w_ifE ?_
  | with_reducible refine w_nil ?_
  | with_reducible refine w_cons ?_
  | with_reducible refine w_tup ?_
  | with_reducible refine w_lst ?_
  | with_reducible refine w_CB ?_
  | with_reducible refine w_fn ?_
  | with_reducible refine w_T ?_
  | with_reducible refine w_F ?_
  | with_reducible refine w_I0 ?_
  | with_reducible refine w_U ?_
  | with_reducible refine w_addI ?_
  | with_reducible refine w_eqI ?_
  | with_reducible refine w_neI ?_
  | with_reducible refine w_eqS ?_
  | with_reducible refine w_neS ?_
  | with_reducible refine w_for ?_
  | with_reducible refine w_rng1 ?_
  | with_reducible refine w_rng2 ?_
  | with_reducible refine w_iStr ?_
  | with_reducible refine w_iTup ?_
  | with_reducible refine w_iList ?_
  | with_reducible refine w_iEnumT ?_
  | with_reducible refine w_iZip3 ?_
  | with_reducible refine w_iZipA ?_
  | with_reducible refine w_BM ?_
  | with_reducible refine w_gCons ?_
  | with_reducible refine w_gNil ?_
  | ((with_reducible refine' w_gTup ?h ?e ?_); (case h => exact SqT.of upd_same); (case e => rfl))
  | ((with_reducible refine' w_aug ?h ?_); (case h => rfl))
  | with_reducible refine w_ip ?_
  | with_reducible refine w_lc ?_
  | with_reducible refine w_fld ?_
  | with_reducible refine w_chain ?_
  | with_reducible refine w_mt ?_
  | with_reducible refine w_fset ?_
  | with_reducible refine w_dget ?_
  | with_reducible refine w_din ?_
  | with_reducible refine w_dput ?_
  | with_reducible refine w_dnew ?_
  | with_reducible refine w_keys ?_
  | with_reducible refine w_nT ?_
  | with_reducible refine w_nF ?_
  | with_reducible refine w_rowIndex ?_)
local macro_rules | `(tactic| walk_at "s") => `(tactic| repeat (walk_at "s1"))
section
variable {P : Program} {w : World} {K : PySem.W.Frag} {mg : Str → Option Value} {base : Heap} {CP CR CO CB : Addr}
/-- the letter is taken off the line, or stays -/
theorem arr_pop {D : Ends} {H : Hp} {σ : L2.St} {o dx ln : Addr} {fs : List (Str × V)} {xs : List V} {y : V} {k : Nat} {wdn : Str} (TC : ClsRoad K CO) (ho : H o = some (.ins CO dx fs)) (hf : fget fs "line" = some (.ref ln)) (hl : H ln = some (.lst xs)) (he : xs[k]? = some y) (hk : k < 1000000)
    (s0 : σ[0]? = some (some (.ref o))) (s1 : σ[1]? = some (some (.str wdn))) (s2 : σ[2]? = some (some (.int k)))
    (h : ∀ H1, Chg [ln] H H1 → H1 ln = some (.lst (if wdn = "come" then xs.eraseIdx k else xs)) → D.nx σ H1) :
    tIfS (tTest (tOp (rEqA K) (tVar 1) (tC (.str "come")))) (tDrop (tBM K "list" rPopAt (tFld K (tVar 0) "line") (tCons (tVar 2) tNil))) tNext D σ H := by
  walk_at "s"
  refine w_var s1 ?_
  walk_at "s"
  refine w_if (fun e => ?_) (fun e => ?_)
  · walk_at "s"
    refine w_var s0 ?_
    refine w_field ho TC.cls TC.line hf ?_
    refine ⟨.inl ⟨rfl, _, SqL.of hl⟩, ?_⟩
    walk_at "s"
    refine w_var s2 ?_
    walk_at "s"
    refine (w_popAt (K := K) hl he hk ?_).2
    refine h _ (Chg.refl.put (by simp) hl rfl) ?_
    rw [upd_same, if_pos e]
  · walk_at "s"
    refine h _ Chg.refl ?_
    rw [if_neg e]
    exact hl
/-- came_most -/
theorem arr_came {D : Ends} {H : Hp} {σ : L2.St} {ad : Adr} {fs : List (Str × V)} {came : Option Nat} {n : Nat} (TC : ClsRoad K CO) (ho : H ad.o = some (.ins CO ad.odx fs)) (pf : RoadF fs ad came)
    (s0 : σ[0]? = some (some (.ref ad.o))) (s3 : σ[3]? = some (some (.int n)))
    (h : ∀ H1 fs', Chg [ad.o] H H1 → H1 ad.o = some (.ins CO ad.odx fs') → RoadF fs' ad (cameF came n) → D.nx σ H1) :
    tIfS (tOr (tTest (tOp (fun x y H Q => y = .non ∧ Q (.bl (decide (x = .non))) H) (tFld K (tVar 0) "came_most") (tC .non))) (tTest (tOp (rI0 fun i j => .bl (decide (j < i))) (tVar 3) (tFld K (tVar 0) "came_most")))) (sFld K (tVar 0) (tVar 3) "came_most") tNext D σ H := by
  have pt := pf.came
  have key : cameF came n = some n → sFld K (tVar 0) (tVar 3) "came_most" D σ H := by
    intro e
    walk_at "s"
    refine w_var s3 ?_
    refine w_var s0 ?_
    refine ⟨_, _, _, _, rfl, ho, TC.cls, TC.came, pf.n1, ?_⟩
    refine h _ _ (Chg.refl.put (by simp) ho rfl) upd_same ?_
    rw [e]
    exact pf.cameW (some n)
  walk_at "s"
  refine w_var s0 ?_
  refine w_field ho TC.cls TC.came pt ?_
  walk_at "s"
  match came, pf, pt, key, h with
  | none, pf, pt, key, h =>
    refine w_ifT rfl ?_
    walk_at "s1"
    exact key rfl
  | some t, pf, pt, key, h =>
    refine w_ifF (fun h => nomatch h) ?_
    walk_at "s"
    refine w_var s3 ?_
    refine w_var s0 ?_
    refine w_field ho TC.cls TC.came pt ?_
    refine w_I0 (j := t) ?_
    walk_at "s"
    refine w_if (fun h1 => ?_) (fun h1 => ?_)
    · exact key (if_pos (by omega))
    · walk_at "s"
      refine h _ fs Chg.refl ho ?_
      have e : cameF (some t) n = some t := if_neg (by omega)
      rw [e]
      exact pf
theorem told_of {a : At} {n : Nat} {hd : List Int} {r r' : Rdr} {e : PyData} (h : ReadR a n hd r e r') : ∃ wd, ToldWord e wd := by
  cases h with
  | blank => exact ⟨none, .inl ⟨_, rfl, rfl⟩⟩
  | twice => exact ⟨some n, .inr ⟨_, n, [], rfl, by decide +kernel, rfl⟩⟩
  | far => exact ⟨none, .inl ⟨_, rfl, rfl⟩⟩
  | read => exact ⟨some n, .inr ⟨_, n, _, rfl, by decide +kernel, rfl⟩⟩
/-- what arrives does -/
def ArrR (K : PySem.W.Frag) (CP CR CO CB : Addr) (H : Hp) (ad : Adr) (p : Pact) (R : RoadS) (Q : VK) (E : XK) (come : Bool) (k : Nat) : Prop :=
  ∃ (a : At) (n : Nat), R.line[k]? = some (a, n) ∧ R.s.past.length ≤ 400 ∧ (beyondF p R a n = true → ∀ H', Chg [] H H' → E (.ref CB) none H') ∧
    (beyondF p R a n = false → ∀ H' hx' r' e wd v, Chg ad.all H H' → (hx' = ad.hx ∨ H hx' = none) → RoadAt K CP CR CO H' { ad with hx := hx' } p { R with r := r', line := if come then R.line.eraseIdx k else R.line, back := R.back ++ [wd], came := cameF R.came n } →
      ReadR a n (R.s.past.getD n []) R.r e r' → Is K H' v e → Q v H')
theorem scRoad_arrives : FnScope ["self", "word", "k", "number", "letter", "told"] ["self", "word", "k"] (defScope sRoad_arrives) := ⟨rfl, rfl, rfl, by decide +kernel, rfl, by decide +kernel, by decide +kernel⟩
def sp_Road_arrives (K : PySem.W.Frag) (CP CR CO CB : Addr) : Sp := fun vs H Q E => ∃ (ad : Adr) (p : Pact) (R : RoadS) (wdn : Str) (k : Nat), vs = [.ref ad.o, .str wdn, .int k] ∧ RoadAt K CP CR CO H ad p R ∧ R.back.length ≤ 5000 ∧ ArrR K CP CR CO CB H ad p R Q E (decide (wdn = "come")) k
theorem ok_Road_arrives (T : Txt K mg) (TC : ClsRoad K CO) (F : TopM K CO "arrives" "Road.arrives" sRoad_arrives) (F_word_of : Fk P w K mg base CX0 1 "word_of" ["told"] (sp_word_of K)) (M_Reader_read : Mt P w K mg base CX0 7 CR "read" ["self", "letter"] (sp_Reader_read K CR)) (M_Road_is_beyond : Mt P w K mg base CX0 6 CO "is_beyond" ["self", "number", "letter"] (sp_Road_is_beyond K CP CR CO CB)) (TB : TxtB K mg CB) : Mt P w K mg base (L2.CX P w) 8 CO "arrives" ["self", "word", "k"] (sp_Road_arrives K CP CR CO CB) := by
  refine F.mt TC.cls (fun _ _ _ _ _ _ us hl => match us, hl with | [_, _, _], _ => rfl) fun f fd F => F.okX scRoad_arrives (fun vs H Q E h => ?_) (fun cdv A outer s H vs Q E hr h => ?_)
  · obtain ⟨ad, p, R, wdn, k, rfl, _⟩ := h
    rfl
  · obtain ⟨ad, p, R, wdn, k, rfl, hR, hbf, a, n, ek, hfew, qE, q⟩ := h
    obtain ⟨fs, o, pf⟩ := hR.obj
    obtain ⟨f3, o3, pf3⟩ := hR.rdr.obj
    obtain ⟨x1, l1, i1⟩ := hR.line
    obtain ⟨x2, l2, i2⟩ := hR.back
    obtain ⟨x3, l3, i3⟩ := hR.row
    have ap := hR.apart
    have ne := hR.ne
    obtain ⟨v0, e0, iv0⟩ := getMapD i1 ek
    have hlo := hR.inv.line _ (List.mem_of_getElem? ek)
    have hkl := (List.getElem?_eq_some_iff.mp ek).1
    have hfl := hR.inv.few
    have hpf := hR.pre.few
    obtain ⟨a1, xs1, rfl, t1, s1⟩ := iv0.tup_eq
    obtain ⟨u1, u2, rfl, j1, j2⟩ := s1.two
    obtain rfl := j1.int_eq
    obtain rfl := j2.str_eq
    refine ⟨_, (pss_cons (ps_asg (pe_ixK (K := K) (pe_fldK (K := K) (pv 0) rfl) (pv 2) (fun _ _ => rfl)) (pg_tupK (K := K) (n := 2) rfl (pgs_cons (pg_name (i := 3) scRoad_arrives.nd rfl (Or.inl rfl)) (pgs_cons (pg_name (i := 4) scRoad_arrives.nd rfl (Or.inl rfl)) pgs_nil)))) (pss_cons (ps_if (pt_val (pe_mt M_Road_is_beyond hr (pv 0) (pa_cons (pv 3) (pa_cons (pv 4) pa_nil)))) (pss_one (ps_raise rfl (takes_of rfl rfl rfl rfl) (pmk_own PySem.F.excBase_ValueError TB.exc TB.gC TB.kC (raises_own TB.sub TB.ty) rfl))) pss_nil) (pss_cons (ps_if (pt_cmpR (op_eqK (K := K) hr.units) (pv 1) pe_str (nomark _)) (pss_one (ps_expr (pe_bmK (K := K) PySem.F.plainAttrs_list PySem.F.slot_list_pop PySem.F.type_list_pop mt_popAt (pe_fldK (K := K) (pv 0) rfl) (pa_cons (pv 2) pa_nil)))) pss_nil) (pss_cons (ps_if (PW.pt (pw_or (pt_cmpR op_isN (pe_fldK (K := K) (pv 0) rfl) pe_non (nomark _)) (pw_or1 (pt_cmpR op_gt (pv 3) (pe_fldK (K := K) (pv 0) rfl) (nomark _))))) (pss_one (ps_fldK (K := K) (pv 0) (pv 3) rfl)) pss_nil) (pss_cons (ps_set (i := 5) scRoad_arrives.nd rfl (Or.inl rfl) (pe_mt M_Reader_read hr (pe_fldK (K := K) (pv 0) rfl) (pa_cons (pv 4) pa_nil))) (pss_cons (ps_expr (pe_bmK (K := K) PySem.F.plainAttrs_list PySem.F.slot_list_append PySem.F.type_list_append mt_append (pe_fldK (K := K) (pv 0) rfl) (pa_cons (pe_fn F_word_of hr rfl (pa_cons (pv 5) pa_nil)) pa_nil))) (pss_one (ps_ret (pv 5))))))))), ?_⟩
    walk_at "s"
    refine w_field o TC.cls TC.line pf.line ?_
    walk_at "s"
    refine w_ixL (SqL.of l1) (atI_nat e0) ?_
    refine w_gTup t1 rfl ?_
    walk_at "s"
    refine w_self o (pf.no _ (by decide +kernel)) ?_
    walk_at "s"
    refine ⟨ad, p, R, a, n, rfl, hR, hlo.lt, hlo.at_, fun H1 c1 => ?_⟩
    cases hb : beyondF p R a n with
    | true =>
      walk_at "s"
      exact qE hb _ c1
    | false =>
      refine ⟨false, rfl, w_F ?_⟩
      refine w_next ?_
      refine w_seq ?_
      have o1 := c1.keep _ _ o (by simp)
      have n1 := c1.keep _ _ l1 (by simp)
      refine arr_pop TC o1 pf.line n1 e0 (by omega) rfl rfl rfl fun H2 c2 n2 => ?_
      refine w_seq ?_
      have o2 := c2.keep _ _ o1 (by simpa using ap.o_ln)
      refine arr_came TC o2 pf rfl rfl fun H3 fs3 c3 o3' pf' => ?_
      have c13 : Chg [ad.o, ad.ln] H H3 := (c1.nil.trans (c2.mono (by simp))).trans (c3.mono (by simp))
      have hr3 := hR.rdr.on c13 (by simp [Ne.symm ne.or_, ap.r_ln]) (by simp [Ne.symm ap.o_hx, ap.h_ln])
      have hc := comes_of hR.inv hlo hb hfew
      obtain ⟨f4, o4, pf4⟩ := hr3.obj
      walk_at "s"
      refine w_field o3' TC.cls TC.other pf'.other ?_
      refine w_self o4 (pf4.no _ (by decide +kernel)) ?_
      walk_at "s"
      refine ⟨_, _, _, _, p, _, _, a, n, rfl, hr3, hc, fun H4 hx' r' e v c4 hhx hr4 hrr iv => ?_⟩
      obtain ⟨wd, hwd⟩ := told_of hrr
      have o5 := c4.keep _ _ o3' (by simp [ne.or_, ap.o_hx])
      have b3 := c13.keep _ _ l2 (by simp [Ne.symm ap.o_bk, Ne.symm ne.l4])
      have b4 := c4.keep _ _ b3 (by simp [Ne.symm ap.r_bk, Ne.symm ap.h_bk])
      walk_at "s"
      refine w_field o5 TC.cls TC.back pf'.back ?_
      refine ⟨.inl ⟨rfl, _, SqL.of b4⟩, ?_⟩
      walk_at "s"
      refine ⟨_, e, wd, rfl, iv, hwd, fun H5 v5 c5 i5 => ?_⟩
      have b5 := c5.keep _ _ b4 (by simp)
      have hl2 : x2.length = R.back.length := by rw [i2.length, List.length_map]
      walk_at "s"
      refine ⟨_, _, _, rfl, rfl, b5, sl1000 (by omega), ?_⟩
      have c6 : Chg [ad.bk] H5 (upd H5 ad.bk (.lst (x2 ++ [v5]))) := Chg.refl.put (by simp) b5 rfl
      walk_at "s"
      have call : Chg ad.all H (upd H5 ad.bk (.lst (x2 ++ [v5]))) := (((c13.mono (by simp [Adr.all])).trans (c4.mono (by simp [Adr.all]))).trans c5.nil).trans (c6.mono (by simp [Adr.all]))
      have hfx : hx' = ad.hx ∨ H hx' = none := by
        rcases hhx with z | z
        · exact .inl z
        · by_cases y : hx' = ad.ln ∨ hx' = ad.o
          · rcases y with y | y
            · exfalso
              rw [y, c3.keep _ _ n2 (by simpa using Ne.symm ap.o_ln)] at z
              cases z
            · exfalso
              rw [y, o3'] at z
              cases z
          · exact .inr (c13.free z (by simp only [List.mem_cons, List.not_mem_nil, or_false]; intro h; exact y (h.symm)))
      have n3 := c3.keep _ _ n2 (by simpa using Ne.symm ap.o_ln)
      have n4 := c4.keep _ _ n3 (by simp [Ne.symm ap.r_ln, Ne.symm ap.h_ln])
      have c46 : Chg [ad.rx, ad.hx, ad.bk] H3 (upd H5 ad.bk (.lst (x2 ++ [v5]))) := ((c4.mono (by simp)).trans c5.nil).trans (c6.mono (by simp))
      have hbk : hx' ≠ ad.bk := by
        rcases hhx with z | z
        · rw [z]; exact ap.h_bk
        · intro y; rw [y, b3] at z; cases z
      have hx5 : RdrAt K CR (upd H5 ad.bk (.lst (x2 ++ [v5]))) ad.rx ad.rdx hx' ad.pv_ p R.s.past r' := (hr4.calm c5).on c6 (by simpa using ap.r_bk) (by simpa using hbk)
      have hp5 : PreAt K CP (upd H5 ad.bk (.lst (x2 ++ [v5]))) ad.px ad.pdx ad.pl ad.pv_ p R.s := (hR.pre.on c13 (by simp [Ne.symm ne.op, ap.p_ln]) (by simp [Ne.symm ap.o_pl, ne.l1])).on c46 (by simp [ne.pr, ap.p_hx, ap.p_bk]) (by simp [Ne.symm ap.r_pl, Ne.symm ap.h_pl, ne.l2])
      refine q hb _ hx' r' e wd _ call hfx ?_ hrr ((iv.on c5).on c6)
      refine ⟨⟨fs3, ?_, ⟨pf'.pact, pf'.one, pf'.other, pf'.line, pf'.back, pf'.row, pf'.came, pf'.no, pf'.len⟩⟩, hp5, hx5, ⟨_, c6.keep _ _ (c5.keep _ _ n4 (by simp)) (by simpa using ne.l4), ?_⟩, ⟨_, upd_same, ?_⟩, ⟨x3, ?_, ?_⟩, ⟨ne.op, ne.or_, ne.pr, ne.l1, ne.l2, ne.l3, ne.l4, ne.l5, ne.l6⟩, ?_⟩
      · exact c46.keep _ _ o3' (by simp [ne.or_, ap.o_hx, ap.o_bk])
      · by_cases hw : wdn = "come"
        · rw [if_pos hw]
          simp only [decide_eq_true hw, if_true]
          rw [← map_erase]
          exact (i1.erase k).on call
        · rw [if_neg hw]
          simp only [decide_eq_false hw, Bool.false_eq_true, if_false]
          exact i1.on call
      · rw [List.map_append]
        exact (i2.on call).append (Iss.one (i5.on c6))
      · exact c46.keep _ _ (c13.keep _ _ l3 (by simp [Ne.symm ap.o_rw, Ne.symm ne.l5])) (by simp [Ne.symm ap.r_rw, Ne.symm ap.h_rw, Ne.symm ne.l6])
      · exact i3.on call
      · refine inv_arrive hR.inv hlo hb hrr hwd ?_ ?_
        · intro l hl
          split at hl
          · exact mem_erase hl
          · exact hl
        · split
          · exact erase_le _ _
          · exact Nat.le_refl _
end
end Sh
namespace Sh
open PySem L2 PySem.Spec PyProof.Rows
local macro_rules | `(tactic| walk_at "s1") => `(tactic| first
  | with_reducible refine w_seq ?_
  | with_reducible refine w_asg ?_
  | with_reducible refine w_name ?_
  | with_reducible refine w_ret ?_
  | with_reducible refine w_retN ?_
  | with_reducible refine w_drop ?_
  | with_reducible refine w_next ?_
  | with_reducible refine w_ifS ?_
  | ((with_reducible refine' w_var ?h ?_); (case h => rfl))
  | with_reducible refine w_c ?_
  | with_reducible refine w_op ?_
  | with_reducible refine w_un ?_
  | with_reducible refine w_sl ?_
  | with_reducible refine w_nopart ?_
  | with_reducible refine w_part ?_
  | with_reducible refine w_exint ?_
  | with_reducible refine w_exbl ?_
  | with_reducible refine w_exbl' ?_
  | with_reducible refine w_exint' ?_
  | with_reducible refine w_nn ?_
  | with_reducible refine w_test ?_
  | with_reducible refine w_B ?_
  | with_reducible refine w_and ?_
  | with_reducible refine w_or ?_
  | with_reducible refine w_not ?_
  | with_reducible refine w_andV ?_
  | with_reducible refine w_orV ?_
  | with_reducible refine w_notV ?_
  | with_reducible refine w_ifE ?_
  | with_reducible refine w_nil ?_
  | with_reducible refine w_cons ?_
  | with_reducible refine w_tup ?_
  | with_reducible refine w_lst ?_
  | with_reducible refine w_CB ?_
  | with_reducible refine w_fn ?_
  | with_reducible refine w_T ?_
  | with_reducible refine w_F ?_
  | with_reducible refine w_I0 ?_
  | with_reducible refine w_U ?_
  | with_reducible refine w_addI ?_
  | with_reducible refine w_eqI ?_
  | with_reducible refine w_neI ?_
  | with_reducible refine w_eqS ?_
  | with_reducible refine w_neS ?_
  | with_reducible refine w_for ?_
  | with_reducible refine w_rng1 ?_
  | with_reducible refine w_rng2 ?_
  | with_reducible refine w_iStr ?_
  | with_reducible refine w_iTup ?_
  | with_reducible refine w_iList ?_
  | with_reducible refine w_iEnumT ?_
  | with_reducible refine w_iZip3 ?_
  | with_reducible refine w_iZipA ?_
  | with_reducible refine w_BM ?_
  | with_reducible refine w_gCons ?_
  | with_reducible refine w_gNil ?_
  | ((with_reducible refine' w_gTup ?h ?e ?_); (case h => exact SqT.of upd_same); (case e => rfl))
  | ((with_reducible refine' w_aug ?h ?_); (case h => rfl))
  | with_reducible refine w_ip ?_
  | with_reducible refine w_lc ?_
  | with_reducible refine w_fld ?_
  | with_reducible refine w_chain ?_
  | with_reducible refine w_mt ?_
  | with_reducible refine w_fset ?_
  | with_reducible refine w_dget ?_
  | with_reducible refine w_din ?_
  | with_reducible refine w_dput ?_
  | with_reducible refine w_dnew ?_
  | with_reducible refine w_keys ?_
  | with_reducible refine w_nT ?_
  | with_reducible refine w_nF ?_
  | with_reducible refine w_rowIndex ?_)
local macro_rules | `(tactic| walk_at "s") => `(tactic| repeat (walk_at "s1"))
section
variable {P : Program} {w : World} {K : PySem.W.Frag} {mg : Str → Option Value} {base : Heap} {CP CR CO CB : Addr}
inductive Wd where
  | come | copy | lose | word | echo | drop
def Wd.name : Wd → Str
  | .come => "come"
  | .copy => "copy"
  | .lose => "lose"
  | .word => "word"
  | .echo => "echo"
  | .drop => "drop"
inductive Deed where
  | press (hd : List Int)
  | place (wd : Wd) (k : Nat)
  | forget
def deedD : Deed → PyData
  | .press hd => .tuple [.str "press", headD hd]
  | .place wd k => .tuple [.str wd.name, .int k]
  | .forget => .tuple [.str "forget"]
/-- the module's own tuples -/
structure Tups (K : PySem.W.Frag) (mg : Str → Option Value) (aD aL aW : Addr) : Prop where
  gD : mg "DONE" = some (.ref aD)
  gL : mg "OF_LETTERS" = some (.ref aL)
  gW : mg "OF_WORDS" = some (.ref aW)
  tL : ∀ H, Tp K H aL [.str "come", .str "copy", .str "lose"]
  tW : ∀ H, Tp K H aW [.str "word", .str "echo", .str "drop"]
theorem w_inT {H : Hp} {Q : VK} {x : V} {a : Addr} {xs : List V} {b : Bool} (t : Tp K H a xs) (hx : flatV x = true) (hf : xs.all flatV = true) (e : inV x xs = b) (h : Q (.bl b) H) : rInA K x (.ref a) H Q :=
  .inl ⟨a, xs, rfl, .inr t, hx, hf, by rw [show (if false = true then !inV x xs else inV x xs) = inV x xs from rfl, e]; exact h⟩
/-- a + b, two tuples -/
theorem w_catTT {H : Hp} {Q : VK} {a b : Addr} {x y : V} {xs ys : List V} (ta : Tp K H a (x :: xs)) (tb : Tp K H b (y :: ys)) (hz : (x :: xs).length + (y :: ys).length ≤ 1000) (q : ∀ p, H p = none → Q (.ref p) (upd H p (.tup ((x :: xs) ++ (y :: ys))))) : rAddA K (.ref a) (.ref b) H Q :=
  .inr (.inr (.inr ⟨a, b, _, _, rfl, rfl, ta, tb, sz1000 (by omega), fun e => (nomatch e), fun _ e => (nomatch e), fun _ _ => q⟩))
theorem scis_deed : FnScope ["thing"] ["thing"] (defScope sis_deed) := ⟨rfl, rfl, rfl, by decide +kernel, rfl, by decide +kernel, by decide +kernel⟩
def sp_is_deed (K : PySem.W.Frag) : Sp := fun vs H Q _ => ∃ (x : V) (d : Deed), vs = [x] ∧ Is K H x (deedD d) ∧ ∀ H', Chg [] H H' → Q (.bl true) H'
theorem ok_is_deed (T : Txt K mg) (F : Top K mg "is_deed" sis_deed) (F_is_whole : Fk P w K mg base CX0 1 "is_whole" ["thing"] (sp_is_whole K)) {aDONE aOF_LETTERS aOF_WORDS : Addr} (TT : Tups K mg aDONE aOF_LETTERS aOF_WORDS) : Fk P w K mg base CX0 2 "is_deed" ["thing"] (sp_is_deed K) := by
  refine F.fk (fun _ _ _ _ _ _ us hl => match us, hl with | [_], _ => rfl) fun f fd F => F.ok scis_deed (fun vs H Q E h => ?_) (fun cdv A outer s H vs Q E hr h => ?_)
  · obtain ⟨x, d, rfl, _⟩ := h
    rfl
  · obtain ⟨x, d, rfl, ix, q⟩ := h
    have gOF_LETTERS := TT.gL
    have gOF_WORDS := TT.gW
    have ty : TyX K H x (.type "tuple") := by
      cases d <;> exact Is.tyX ix
    refine ⟨_, (pss_cons (ps_if (PW.pt (pw_or (pt_not (pt_val (pe_callB (call_isiK' (K := K)) (by rfl) T.b_isinstance (by decide +kernel) (pa_cons (pv 0) (pa_cons (pe_bltn (v := .ty "tuple") (by rfl) T.b_tuple (by decide +kernel) rfl) pa_nil))))) (pw_or (pt_cmpR (op_eqK (K := K) hr.units) (pe_callB (call_lenK (K := K)) (by rfl) T.b_len PySem.boot_len (pa_cons (pv 0) pa_nil)) pe_int (nomark _)) (pw_or1 (pt_not (pt_val (pe_callB (call_isiK' (K := K)) (by rfl) T.b_isinstance (by decide +kernel) (pa_cons (pe_ixK (K := K) (pv 0) pe_int (fun _ _ => rfl)) (pa_cons (pe_bltn (v := .ty "str") (by rfl) T.b_str (by decide +kernel) rfl) pa_nil))))))))) (pss_one (ps_ret pe_bl)) pss_nil) (pss_cons (ps_if (pt_cmpR (op_eqK (K := K) hr.units) (pe_ixK (K := K) (pv 0) pe_int (fun _ _ => rfl)) pe_str (nomark _)) (pss_one (ps_ret (pe_cmpR (op_eqK (K := K) hr.units) (pe_callB (call_lenK (K := K)) (by rfl) T.b_len PySem.boot_len (pa_cons (pv 0) pa_nil)) pe_int (nomark _)))) pss_nil) (pss_cons (ps_if (PW.pt (pw_or (pt_cmpR (op_neK (K := K) hr.units) (pe_callB (call_lenK (K := K)) (by rfl) T.b_len PySem.boot_len (pa_cons (pv 0) pa_nil)) pe_int (nomark _)) (pw_or1 (pt_cmpR (op_eqK (K := K) hr.units) (pe_ixK (K := K) (pv 0) pe_int (fun _ _ => rfl)) pe_str (nomark _))))) (pss_one (ps_ret (pe_cmpR (op_eqK (K := K) hr.units) (pe_callB (call_lenK (K := K)) (by rfl) T.b_len PySem.boot_len (pa_cons (pv 0) pa_nil)) pe_int (nomark _)))) pss_nil) (pss_one (ps_ret (pe_and (pe_cmpR (op_inK (K := K) (hu65 hr)) (pe_ixK (K := K) (pv 0) pe_int (fun _ _ => rfl)) (pe_op (op_addK (K := K)) (pe_glob (v := .ref aOF_LETTERS) (by rfl) gOF_LETTERS rfl) (pe_glob (v := .ref aOF_WORDS) (by rfl) gOF_WORDS rfl)) (by rfl)) (pe_and (pe_fn F_is_whole hr rfl (pa_cons (pe_ixK (K := K) (pv 0) pe_int (fun _ _ => rfl)) pa_nil)) (pe_one (pe_cmpR op_ge (pe_ixK (K := K) (pv 0) pe_int (fun _ _ => rfl)) pe_int (nomark _)))))))))), ?_⟩
    walk_at "s"
    refine w_isiB (r := true) ty (by decide +kernel) ?_
    walk_at "s"
    match d, ix with
    | .press hd, ix =>
      refine w_lenD ix ?_
      walk_at "s"
      refine w_ifF (by simp) ?_
      walk_at "s"
      refine w_ixDS ix rfl ?_
      walk_at "s"
      refine w_isiB (r := true) (.base (.str _)) (by decide +kernel) ?_
      walk_at "s"
      refine w_ixDS ix rfl ?_
      walk_at "s"
      refine w_ifF (by decide +kernel) ?_
      walk_at "s"
      refine w_lenD ix ?_
      walk_at "s"
      refine w_ifn (fun _ => ?_) (fun h => absurd rfl h)
      walk_at "s"
      refine w_ixDS ix rfl ?_
      walk_at "s"
      refine w_ifT (by decide +kernel) ?_
      walk_at "s"
      refine w_lenD ix ?_
      walk_at "s"
      exact q _ Chg.refl
    | .forget, ix =>
      refine w_lenD ix ?_
      walk_at "s"
      refine w_ifF (by decide) ?_
      walk_at "s"
      refine w_ixDS ix rfl ?_
      walk_at "s"
      refine w_isiB (r := true) (.base (.str _)) (by decide +kernel) ?_
      walk_at "s"
      refine w_ixDS ix rfl ?_
      walk_at "s"
      refine w_ifT (by decide +kernel) ?_
      walk_at "s"
      refine w_lenD ix ?_
      walk_at "s"
      exact q _ Chg.refl
    | .place wd k, ix =>
      have e1 : wd.name ≠ "forget" := by cases wd <;> decide +kernel
      have e2 : wd.name ≠ "press" := by cases wd <;> decide +kernel
      have e3 : inV (.str wd.name) ([.str "come", .str "copy", .str "lose"] ++ [.str "word", .str "echo", .str "drop"]) = true := by cases wd <;> decide +kernel
      refine w_lenD ix ?_
      walk_at "s"
      refine w_ifF (by simp) ?_
      walk_at "s"
      refine w_ixDS ix rfl ?_
      walk_at "s"
      refine w_isiB (r := true) (.base (.str _)) (by decide +kernel) ?_
      walk_at "s"
      refine w_ixDS ix rfl ?_
      walk_at "s"
      refine w_ifF e1 ?_
      walk_at "s"
      refine w_lenD ix ?_
      walk_at "s"
      refine w_ifn (fun _ => ?_) (fun h => absurd rfl h)
      walk_at "s"
      refine w_ixDS ix rfl ?_
      walk_at "s"
      refine w_ifF e2 ?_
      walk_at "s"
      refine w_ixDS ix rfl ?_
      walk_at "s"
      refine w_catTT (TT.tL H) (TT.tW H) (by simp) fun u hu => ?_
      have c1 : Chg [] H (upd H u (.tup ([.str "come", .str "copy", .str "lose"] ++ [.str "word", .str "echo", .str "drop"]))) := Chg.new hu
      refine w_inT (SqT.of upd_same) rfl (by decide +kernel) e3 ?_
      walk_at "s"
      refine w_ixDI (ix.on c1) rfl ?_
      walk_at "s"
      refine ⟨_, rfl, ?_⟩
      walk_at "s"
      refine w_ixDI (ix.on c1) rfl ?_
      walk_at "s"
      rw [decide_eq_true (by omega)]
      exact q _ c1
/-- what happens at a place -/
def PlaceR (K : PySem.W.Frag) (CP CR CO CB : Addr) (H : Hp) (ad : Adr) (p : Pact) (R : RoadS) (Q : VK) (E : XK) : Wd → Nat → Prop
  | .come, k => ArrR K CP CR CO CB H ad p R Q E true k
  | .copy, k => ArrR K CP CR CO CB H ad p R Q E false k
  | .lose, k => k < R.line.length ∧ ∀ H' v, Chg ad.all H H' → RoadAt K CP CR CO H' ad p { R with line := R.line.eraseIdx k } → Q v H'
  | .word, k => ∃ wd, R.back[k]? = some wd ∧ ∀ H' v, Chg ad.all H H' → RoadAt K CP CR CO H' ad p { R with s := hearF R.s wd, back := R.back.eraseIdx k } → Q v H'
  | .echo, k => ∃ wd, R.back[k]? = some wd ∧ ∀ H' v, Chg ad.all H H' → RoadAt K CP CR CO H' ad p { R with s := hearF R.s wd } → Q v H'
  | .drop, k => k < R.back.length ∧ ∀ H' v, Chg ad.all H H' → RoadAt K CP CR CO H' ad p { R with back := R.back.eraseIdx k } → Q v H'
theorem hear_past (s : Pre) (wd : Option Nat) : (hearF s wd).past = s.past := by cases wd <;> rfl
/-- a word is heard -/
theorem road_heard {H H' : Hp} {ad : Adr} {p : Pact} {R : RoadS} {wd : Option Nat} (hR : RoadAt K CP CR CO H ad p R) (hm : wd ∈ R.back) (c : Chg [ad.px] H H') (hp : PreAt K CP H' ad.px ad.pdx ad.pl ad.pv_ p (hearF R.s wd)) : RoadAt K CP CR CO H' ad p { R with s := hearF R.s wd } := by
  obtain ⟨fs, o, pf⟩ := hR.obj
  obtain ⟨x1, l1, i1⟩ := hR.line
  obtain ⟨x2, l2, i2⟩ := hR.back
  obtain ⟨x3, l3, i3⟩ := hR.row
  have ap := hR.apart
  have ne := hR.ne
  refine ⟨⟨fs, c.keep _ _ o (by simpa using ne.op), pf⟩, hp, ?_, ⟨x1, c.keep _ _ l1 (by simpa using Ne.symm ap.p_ln), ?_⟩, ⟨x2, c.keep _ _ l2 (by simpa using Ne.symm ap.p_bk), i2.on c⟩, ⟨x3, c.keep _ _ l3 (by simpa using Ne.symm ap.p_rw), ?_⟩, ne, inv_hear hR.inv hm⟩
  · show RdrAt K CR H' ad.rx ad.rdx ad.hx ad.pv_ p (hearF R.s wd).past R.r
    rw [hear_past]
    exact hR.rdr.on c (by simpa using Ne.symm ne.pr) (by simpa using Ne.symm ap.p_hx)
  · show Iss K H' x1 (R.line.map (letterD p (hearF R.s wd).past))
    rw [hear_past]
    exact i1.on c
  · show Iss K H' x3 ((hearF R.s wd).past.map headD)
    rw [hear_past]
    exact i3.on c
/-- a letter goes -/
theorem road_line {H : Hp} {ad : Adr} {p : Pact} {R : RoadS} {k : Nat} {xs : List V} (hR : RoadAt K CP CR CO H ad p R) (hl : H ad.ln = some (.lst xs)) (hi : Iss K H xs (R.line.map (letterD p R.s.past))) :
    Chg [ad.ln] H (upd H ad.ln (.lst (xs.eraseIdx k))) ∧ RoadAt K CP CR CO (upd H ad.ln (.lst (xs.eraseIdx k))) ad p { R with line := R.line.eraseIdx k } := by
  obtain ⟨fs, o, pf⟩ := hR.obj
  obtain ⟨x2, l2, i2⟩ := hR.back
  obtain ⟨x3, l3, i3⟩ := hR.row
  have ap := hR.apart
  have ne := hR.ne
  have c : Chg [ad.ln] H (upd H ad.ln (.lst (xs.eraseIdx k))) := Chg.refl.put (by simp) hl rfl
  refine ⟨c, ⟨fs, c.keep _ _ o (by simpa using ap.o_ln), pf⟩, hR.pre.on c (by simpa using ap.p_ln) (by simpa using ne.l1), hR.rdr.on c (by simpa using ap.r_ln) (by simpa using ap.h_ln), ⟨_, upd_same, ?_⟩, ⟨x2, c.keep _ _ l2 (by simpa using Ne.symm ne.l4), i2.on c⟩, ⟨x3, c.keep _ _ l3 (by simpa using Ne.symm ne.l5), i3.on c⟩, ne, inv_line hR.inv (fun l h => mem_erase h) (erase_le _ _)⟩
  show Iss K _ (xs.eraseIdx k) ((R.line.eraseIdx k).map (letterD p R.s.past))
  rw [← map_erase]
  exact (hi.erase k).on c
/-- a word goes -/
theorem road_back {H : Hp} {ad : Adr} {p : Pact} {R : RoadS} {k : Nat} {xs : List V} (hR : RoadAt K CP CR CO H ad p R) (hl : H ad.bk = some (.lst xs)) (hi : Iss K H xs (R.back.map wordD)) :
    Chg [ad.bk] H (upd H ad.bk (.lst (xs.eraseIdx k))) ∧ RoadAt K CP CR CO (upd H ad.bk (.lst (xs.eraseIdx k))) ad p { R with back := R.back.eraseIdx k } := by
  obtain ⟨fs, o, pf⟩ := hR.obj
  obtain ⟨x1, l1, i1⟩ := hR.line
  obtain ⟨x3, l3, i3⟩ := hR.row
  have ap := hR.apart
  have ne := hR.ne
  have c : Chg [ad.bk] H (upd H ad.bk (.lst (xs.eraseIdx k))) := Chg.refl.put (by simp) hl rfl
  refine ⟨c, ⟨fs, c.keep _ _ o (by simpa using ap.o_bk), pf⟩, hR.pre.on c (by simpa using ap.p_bk) (by simpa using ne.l2), hR.rdr.on c (by simpa using ap.r_bk) (by simpa using ap.h_bk), ⟨x1, c.keep _ _ l1 (by simpa using ne.l4), i1.on c⟩, ⟨_, upd_same, ?_⟩, ⟨x3, c.keep _ _ l3 (by simpa using Ne.symm ne.l6), i3.on c⟩, ne, inv_back hR.inv (fun l h => mem_erase h)⟩
  show Iss K _ (xs.eraseIdx k) ((R.back.eraseIdx k).map wordD)
  rw [← map_erase]
  exact (hi.erase k).on c
theorem scRoad_placed : FnScope ["self", "word", "k", "some"] ["self", "word", "k"] (defScope sRoad_placed) := ⟨rfl, rfl, rfl, by decide +kernel, rfl, by decide +kernel, by decide +kernel⟩
def sp_Road_placed (K : PySem.W.Frag) (CP CR CO CB : Addr) : Sp := fun vs H Q E => ∃ (ad : Adr) (p : Pact) (R : RoadS) (wd : Wd) (k : Nat), vs = [.ref ad.o, .str wd.name, .int k] ∧ RoadAt K CP CR CO H ad p R ∧ R.back.length ≤ 5000 ∧ PlaceR K CP CR CO CB H ad p R Q E wd k
theorem ok_Road_placed (T : Txt K mg) (TC : ClsRoad K CO) (F : TopM K CO "placed" "Road.placed" sRoad_placed) (M_Presser_heard : Mt P w K mg base CX0 4 CP "heard" ["self", "word"] (sp_Presser_heard K CP)) (M_Road_arrives : Mt P w K mg base (L2.CX P w) 8 CO "arrives" ["self", "word", "k"] (sp_Road_arrives K CP CR CO CB)) {aDONE aOF_LETTERS aOF_WORDS : Addr} (TT : Tups K mg aDONE aOF_LETTERS aOF_WORDS) : Mt P w K mg base (L2.CX P w) 9 CO "placed" ["self", "word", "k"] (sp_Road_placed K CP CR CO CB) := by
  refine F.mt TC.cls (fun _ _ _ _ _ _ us hl => match us, hl with | [_, _, _], _ => rfl) fun f fd F => F.okX scRoad_placed (fun vs H Q E h => ?_) (fun cdv A outer s H vs Q E hr h => ?_)
  · obtain ⟨ad, p, R, wd, k, rfl, _⟩ := h
    rfl
  · obtain ⟨ad, p, R, wd, k, rfl, hR, hbf, q⟩ := h
    have gOF_LETTERS := TT.gL
    have gDONE := TT.gD
    obtain ⟨fs, o, pf⟩ := hR.obj
    obtain ⟨x1, l1, i1⟩ := hR.line
    obtain ⟨x2, l2, i2⟩ := hR.back
    obtain ⟨f2, o2, pf2⟩ := hR.pre.obj
    have ap := hR.apart
    have hx1 : x1.length = R.line.length := by rw [i1.length, List.length_map]
    have hx2 : x2.length = R.back.length := by rw [i2.length, List.length_map]
    have hfl := hR.inv.few
    have hpf := hR.pre.few
    refine ⟨_, (pss_cons (ps_set (i := 3) scRoad_placed.nd rfl (Or.inl rfl) (pe_ifExp (pt_cmpR (op_inK (K := K) (hu65 hr)) (pv 1) (pe_glob (v := .ref aOF_LETTERS) (by rfl) gOF_LETTERS rfl) (by rfl)) (pe_fldK (K := K) (pv 0) rfl) (pe_fldK (K := K) (pv 0) rfl))) (pss_cons (ps_if (pt_cmpR op_ge (pv 2) (pe_callB (call_lenK (K := K)) (by rfl) T.b_len PySem.boot_len (pa_cons (pv 3) pa_nil)) (nomark _)) (pss_one ps_never) pss_nil) (pss_cons (ps_if (pt_cmpR (op_inK (K := K) (hu65 hr)) (pv 1) (pe_tup (pa_cons pe_str (pa_cons pe_str pa_nil))) (by rfl)) (pss_one (ps_ret (pe_mt M_Road_arrives hr (pv 0) (pa_cons (pv 1) (pa_cons (pv 2) pa_nil)) (hx := passes_call (W := fun cls d _ H => E cls d H) (takes_of rfl rfl rfl rfl) (fun _ _ _ _ h => h))))) pss_nil) (pss_cons (ps_if (pt_cmpR (op_inK (K := K) (hu65 hr)) (pv 1) (pe_tup (pa_cons pe_str (pa_cons pe_str pa_nil))) (by rfl)) (pss_one (ps_expr (pe_mt M_Presser_heard hr (pe_fldK (K := K) (pv 0) rfl) (pa_cons (pe_ixK (K := K) (pv 3) (pv 2) (fun _ _ => rfl)) pa_nil)))) pss_nil) (pss_cons (ps_if (pt_cmpR (op_neK (K := K) hr.units) (pv 1) pe_str (nomark _)) (pss_one (ps_expr (pe_bmK (K := K) PySem.F.plainAttrs_list PySem.F.slot_list_pop PySem.F.type_list_pop mt_popAt (pv 3) (pa_cons (pv 2) pa_nil)))) pss_nil) (pss_one (ps_ret (pe_glob (v := .ref aDONE) (by rfl) gDONE rfl)))))))), ?_⟩
    walk_at "s"
    match wd, q with
    | .come, q =>
      have q : ArrR K CP CR CO CB H ad p R Q E true k := q
      obtain ⟨a, n, ek, _⟩ := id q
      have hk := (List.getElem?_eq_some_iff.mp ek).1
      refine w_inT (b := true) (TT.tL H) rfl (by decide +kernel) (by decide +kernel) ?_
      walk_at "s"
      refine w_field o TC.cls TC.line pf.line ?_
      walk_at "s"
      refine w_lenL l1 ?_
      walk_at "s"
      refine w_ifF (by omega) ?_
      walk_at "s"
      refine ⟨sz1000 (by simp), fun u hu => ?_⟩
      have c1 : Chg [] H (upd H u (.tup [.str "come", .str "copy"])) := Chg.new hu
      refine w_inT (b := true) (SqT.of upd_same) rfl (by decide +kernel) (by decide +kernel) ?_
      walk_at "s"
      refine w_self (c1.keep _ _ o (by simp)) (pf.no _ (by decide +kernel)) ?_
      walk_at "s"
      refine ⟨ad, p, R, "come", k, rfl, hR.calm c1, hbf, ?_⟩
      rw [show decide (("come" : Str) = "come") = true by decide +kernel]
      obtain ⟨a, n, e1, e2, e3, e4⟩ := q
      exact ⟨a, n, e1, e2, fun hb H' c => e3 hb H' (c1.trans c), fun hb H' hx' r' e wd v c hh => e4 hb H' hx' r' e wd v (c1.nil.trans c) (hh.imp id fun z => c1.free z (by simp))⟩
    | .copy, q =>
      have q : ArrR K CP CR CO CB H ad p R Q E false k := q
      obtain ⟨a, n, ek, _⟩ := id q
      have hk := (List.getElem?_eq_some_iff.mp ek).1
      refine w_inT (b := true) (TT.tL H) rfl (by decide +kernel) (by decide +kernel) ?_
      walk_at "s"
      refine w_field o TC.cls TC.line pf.line ?_
      walk_at "s"
      refine w_lenL l1 ?_
      walk_at "s"
      refine w_ifF (by omega) ?_
      walk_at "s"
      refine ⟨sz1000 (by simp), fun u hu => ?_⟩
      have c1 : Chg [] H (upd H u (.tup [.str "come", .str "copy"])) := Chg.new hu
      refine w_inT (b := true) (SqT.of upd_same) rfl (by decide +kernel) (by decide +kernel) ?_
      walk_at "s"
      refine w_self (c1.keep _ _ o (by simp)) (pf.no _ (by decide +kernel)) ?_
      walk_at "s"
      refine ⟨ad, p, R, "copy", k, rfl, hR.calm c1, hbf, ?_⟩
      rw [show decide (("copy" : Str) = "come") = false by decide +kernel]
      obtain ⟨a, n, e1, e2, e3, e4⟩ := q
      exact ⟨a, n, e1, e2, fun hb H' c => e3 hb H' (c1.trans c), fun hb H' hx' r' e wd v c hh => e4 hb H' hx' r' e wd v (c1.nil.trans c) (hh.imp id fun z => c1.free z (by simp))⟩
    | .lose, q =>
      obtain ⟨hk, q⟩ := q
      refine w_inT (b := true) (TT.tL H) rfl (by decide +kernel) (by decide +kernel) ?_
      walk_at "s"
      refine w_field o TC.cls TC.line pf.line ?_
      walk_at "s"
      refine w_lenL l1 ?_
      walk_at "s"
      refine w_ifF (by omega) ?_
      walk_at "s"
      refine ⟨sz1000 (by simp), fun u hu => ?_⟩
      have c1 : Chg [] H (upd H u (.tup [.str "come", .str "copy"])) := Chg.new hu
      refine w_inT (b := false) (SqT.of upd_same) rfl (by decide +kernel) (by decide +kernel) ?_
      walk_at "s"
      refine ⟨sz1000 (by simp), fun u2 hu2 => ?_⟩
      have c2 := c1.trans (Chg.new (o := .tup [.str "word", .str "echo"]) hu2)
      refine w_inT (b := false) (SqT.of upd_same) rfl (by decide +kernel) (by decide +kernel) ?_
      walk_at "s"
      refine w_ifn (fun h => absurd h (by decide +kernel)) (fun _ => ?_)
      have n2 := c2.keep _ _ l1 (by simp)
      walk_at "s"
      refine ⟨.inl ⟨rfl, _, SqL.of n2⟩, ?_⟩
      walk_at "s"
      refine (w_popAt (K := K) n2 (List.getElem?_eq_getElem (show k < x1.length by omega)) (by omega) ?_).2
      walk_at "s"
      obtain ⟨c3, hR3⟩ := road_line (k := k) (hR.calm c2) n2 (i1.on c2)
      exact q _ _ (c2.nil.trans (c3.mono (by simp [Adr.all]))) hR3
    | .word, q =>
      obtain ⟨wd, ek, q⟩ := q
      have hk := (List.getElem?_eq_some_iff.mp ek).1
      obtain ⟨v, ev, iv⟩ := getMapD i2 ek
      refine w_inT (b := false) (TT.tL H) rfl (by decide +kernel) (by decide +kernel) ?_
      walk_at "s"
      refine w_field o TC.cls TC.back pf.back ?_
      walk_at "s"
      refine w_lenL l2 ?_
      walk_at "s"
      refine w_ifF (by omega) ?_
      walk_at "s"
      refine ⟨sz1000 (by simp), fun u hu => ?_⟩
      have c1 : Chg [] H (upd H u (.tup [.str "come", .str "copy"])) := Chg.new hu
      refine w_inT (b := false) (SqT.of upd_same) rfl (by decide +kernel) (by decide +kernel) ?_
      walk_at "s"
      refine ⟨sz1000 (by simp), fun u2 hu2 => ?_⟩
      have c2 := c1.trans (Chg.new (o := .tup [.str "word", .str "echo"]) hu2)
      refine w_inT (b := true) (SqT.of upd_same) rfl (by decide +kernel) (by decide +kernel) ?_
      walk_at "s"
      refine w_field (c2.keep _ _ o (by simp)) TC.cls TC.one pf.one ?_
      refine w_self (c2.keep _ _ o2 (by simp)) (pf2.no _ (by decide +kernel)) ?_
      walk_at "s"
      refine w_ixL (SqL.of (c2.keep _ _ l2 (by simp))) (atI_nat ev) ?_
      walk_at "s"
      have hmem := List.mem_of_getElem? ek
      refine ⟨_, _, _, _, v, p, R.s, wd, rfl, hR.pre.calm c2, ap.p_pl, iv.on c2, fun n hn => ?_, fun H3 c3 hp3 => ?_⟩
      · obtain ⟨c, hc1, hc2⟩ := hR.inv.back n (hn ▸ hmem)
        have := hR.inv.came c hc1
        omega
      · have hR3 := road_heard (hR.calm c2) hmem c3 hp3
        have n3 := c3.keep _ _ (c2.keep _ _ l2 (by simp)) (by simpa using Ne.symm ap.p_bk)
        walk_at "s"
        refine w_ifn (fun h => absurd h (by decide +kernel)) (fun _ => ?_)
        walk_at "s"
        refine ⟨.inl ⟨rfl, _, SqL.of n3⟩, ?_⟩
        walk_at "s"
        refine (w_popAt (K := K) n3 (List.getElem?_eq_getElem (show k < x2.length by omega)) (by omega) ?_).2
        walk_at "s"
        obtain ⟨c4, hR4⟩ := road_back (k := k) hR3 n3 ((i2.on c2).on c3)
        exact q _ _ ((c2.nil.trans (c3.mono (by simp [Adr.all]))).trans (c4.mono (by simp [Adr.all]))) hR4
    | .echo, q =>
      obtain ⟨wd, ek, q⟩ := q
      have hk := (List.getElem?_eq_some_iff.mp ek).1
      obtain ⟨v, ev, iv⟩ := getMapD i2 ek
      refine w_inT (b := false) (TT.tL H) rfl (by decide +kernel) (by decide +kernel) ?_
      walk_at "s"
      refine w_field o TC.cls TC.back pf.back ?_
      walk_at "s"
      refine w_lenL l2 ?_
      walk_at "s"
      refine w_ifF (by omega) ?_
      walk_at "s"
      refine ⟨sz1000 (by simp), fun u hu => ?_⟩
      have c1 : Chg [] H (upd H u (.tup [.str "come", .str "copy"])) := Chg.new hu
      refine w_inT (b := false) (SqT.of upd_same) rfl (by decide +kernel) (by decide +kernel) ?_
      walk_at "s"
      refine ⟨sz1000 (by simp), fun u2 hu2 => ?_⟩
      have c2 := c1.trans (Chg.new (o := .tup [.str "word", .str "echo"]) hu2)
      refine w_inT (b := true) (SqT.of upd_same) rfl (by decide +kernel) (by decide +kernel) ?_
      walk_at "s"
      refine w_field (c2.keep _ _ o (by simp)) TC.cls TC.one pf.one ?_
      refine w_self (c2.keep _ _ o2 (by simp)) (pf2.no _ (by decide +kernel)) ?_
      walk_at "s"
      refine w_ixL (SqL.of (c2.keep _ _ l2 (by simp))) (atI_nat ev) ?_
      walk_at "s"
      have hmem := List.mem_of_getElem? ek
      refine ⟨_, _, _, _, v, p, R.s, wd, rfl, hR.pre.calm c2, ap.p_pl, iv.on c2, fun n hn => ?_, fun H3 c3 hp3 => ?_⟩
      · obtain ⟨c, hc1, hc2⟩ := hR.inv.back n (hn ▸ hmem)
        have := hR.inv.came c hc1
        omega
      · have hR3 := road_heard (hR.calm c2) hmem c3 hp3
        walk_at "s"
        refine w_ifn (fun _ => ?_) (fun h => absurd rfl h)
        walk_at "s"
        exact q _ _ (c2.nil.trans (c3.mono (by simp [Adr.all]))) hR3
    | .drop, q =>
      obtain ⟨hk, q⟩ := q
      refine w_inT (b := false) (TT.tL H) rfl (by decide +kernel) (by decide +kernel) ?_
      walk_at "s"
      refine w_field o TC.cls TC.back pf.back ?_
      walk_at "s"
      refine w_lenL l2 ?_
      walk_at "s"
      refine w_ifF (by omega) ?_
      walk_at "s"
      refine ⟨sz1000 (by simp), fun u hu => ?_⟩
      have c1 : Chg [] H (upd H u (.tup [.str "come", .str "copy"])) := Chg.new hu
      refine w_inT (b := false) (SqT.of upd_same) rfl (by decide +kernel) (by decide +kernel) ?_
      walk_at "s"
      refine ⟨sz1000 (by simp), fun u2 hu2 => ?_⟩
      have c2 := c1.trans (Chg.new (o := .tup [.str "word", .str "echo"]) hu2)
      refine w_inT (b := false) (SqT.of upd_same) rfl (by decide +kernel) (by decide +kernel) ?_
      walk_at "s"
      refine w_ifn (fun h => absurd h (by decide +kernel)) (fun _ => ?_)
      have n2 := c2.keep _ _ l2 (by simp)
      walk_at "s"
      refine ⟨.inl ⟨rfl, _, SqL.of n2⟩, ?_⟩
      walk_at "s"
      refine (w_popAt (K := K) n2 (List.getElem?_eq_getElem (show k < x2.length by omega)) (by omega) ?_).2
      walk_at "s"
      obtain ⟨c3, hR3⟩ := road_back (k := k) (hR.calm c2) n2 (i2.on c2)
      exact q _ _ (c2.nil.trans (c3.mono (by simp [Adr.all]))) hR3
/-- what a deed does -/
def DoR (K : PySem.W.Frag) (CP CR CO CB : Addr) (H : Hp) (ad : Adr) (p : Pact) (R : RoadS) (Q : VK) (E : XK) : Deed → Prop
  | .press hd => HeadOk p.fs hd ∧ R.s.past.length ≤ 399 ∧ ∀ H' v a, Chg ad.all H H' → RoadAt K CP CR CO H' ad p { R with s := { R.s with past := R.s.past ++ [hd] }, line := R.line ++ [(a, R.s.past.length)] } → AtOk p a → sizeL p a ≤ sizeL p none → Is K H' v (.tuple [.str "sent", .int R.s.past.length, .int (sizeL p a)]) → Q v H'
  | .place wd k => R.back.length ≤ 5000 ∧ PlaceR K CP CR CO CB H ad p R Q E wd k
  | .forget => ∀ H' hx' v, Chg ad.all H H' → H hx' = none → RoadAt K CP CR CO H' { ad with hx := hx' } p { R with r := ⟨none, []⟩ } → Q v H'
theorem scRoad_do : FnScope ["self", "deed"] ["self", "deed"] (defScope sRoad_do) := ⟨rfl, rfl, rfl, by decide +kernel, rfl, by decide +kernel, by decide +kernel⟩
def sp_Road_do (K : PySem.W.Frag) (CP CR CO CB : Addr) : Sp := fun vs H Q E => ∃ (ad : Adr) (p : Pact) (R : RoadS) (d : Deed) (x : V), vs = [.ref ad.o, x] ∧ RoadAt K CP CR CO H ad p R ∧ Is K H x (deedD d) ∧ DoR K CP CR CO CB H ad p R Q E d
theorem PlaceR.on {H H1 : Hp} {ad : Adr} {p : Pact} {R : RoadS} {Q : VK} {E : XK} {wd : Wd} {k : Nat} (c : Chg [] H H1) (h : PlaceR K CP CR CO CB H ad p R Q E wd k) : PlaceR K CP CR CO CB H1 ad p R Q E wd k := by
  have arr : ∀ b, ArrR K CP CR CO CB H ad p R Q E b k → ArrR K CP CR CO CB H1 ad p R Q E b k := by
    rintro b ⟨a, n, e1, e2, e3, e4⟩
    exact ⟨a, n, e1, e2, fun hb H' c2 => e3 hb H' (c.trans c2), fun hb H' hx' r' e wd v c2 hh => e4 hb H' hx' r' e wd v (c.nil.trans c2) (hh.imp id fun z => c.free z (by simp))⟩
  cases wd with
  | come => exact arr _ h
  | copy => exact arr _ h
  | lose => exact ⟨h.1, fun H' v c2 => h.2 H' v (c.nil.trans c2)⟩
  | word => obtain ⟨w, e, q⟩ := h; exact ⟨w, e, fun H' v c2 => q H' v (c.nil.trans c2)⟩
  | echo => obtain ⟨w, e, q⟩ := h; exact ⟨w, e, fun H' v c2 => q H' v (c.nil.trans c2)⟩
  | drop => exact ⟨h.1, fun H' v c2 => h.2 H' v (c.nil.trans c2)⟩
theorem ok_Road_do (T : Txt K mg) (TC : ClsRoad K CO) (F : TopM K CO "do" "Road.do" sRoad_do) (M_Road_placed : Mt P w K mg base (L2.CX P w) 9 CO "placed" ["self", "word", "k"] (sp_Road_placed K CP CR CO CB)) (M_Road_put_on : Mt P w K mg base CX0 11 CO "put_on" ["self", "head"] (sp_Road_put_on K CP CR CO CB)) (M_Reader_forget : Mt P w K mg base CX0 1 CR "forget" ["self"] (sp_Reader_forget K CR)) (F_is_deed : Fk P w K mg base CX0 2 "is_deed" ["thing"] (sp_is_deed K)) {aDONE aOF_LETTERS aOF_WORDS : Addr} (TT : Tups K mg aDONE aOF_LETTERS aOF_WORDS) : Mt P w K mg base (L2.CX P w) 12 CO "do" ["self", "deed"] (sp_Road_do K CP CR CO CB) := by
  refine F.mt TC.cls (fun _ _ _ _ _ _ us hl => match us, hl with | [_, _], _ => rfl) fun f fd F => F.okX scRoad_do (fun vs H Q E h => ?_) (fun cdv A outer s H vs Q E hr h => ?_)
  · obtain ⟨ad, p, R, d, x, rfl, _⟩ := h
    rfl
  · obtain ⟨ad, p, R, d, x, rfl, hR, ix, q⟩ := h
    have gDONE := TT.gD
    refine ⟨_, (pss_cons (ps_if (pt_not (pt_val (pe_fn F_is_deed hr rfl (pa_cons (pv 1) pa_nil)))) (pss_one ps_never) pss_nil) (pss_cons (ps_if (pt_cmpR (op_eqK (K := K) hr.units) (pe_ixK (K := K) (pv 1) pe_int (fun _ _ => rfl)) pe_str (nomark _)) (pss_cons (ps_expr (pe_mt0 M_Reader_forget hr (pe_fldK (K := K) (pv 0) rfl))) (pss_one (ps_ret (pe_glob (v := .ref aDONE) (by rfl) gDONE rfl)))) pss_nil) (pss_cons (ps_if (pt_cmpR (op_eqK (K := K) hr.units) (pe_ixK (K := K) (pv 1) pe_int (fun _ _ => rfl)) pe_str (nomark _)) (pss_one (ps_ret (pe_mt M_Road_put_on hr (pv 0) (pa_cons (pe_ixK (K := K) (pv 1) pe_int (fun _ _ => rfl)) pa_nil)))) pss_nil) (pss_one (ps_ret (pe_mt M_Road_placed hr (pv 0) (pa_cons (pe_ixK (K := K) (pv 1) pe_int (fun _ _ => rfl)) (pa_cons (pe_ixK (K := K) (pv 1) pe_int (fun _ _ => rfl)) pa_nil)) (hx := passes_call (W := fun cls d _ H => E cls d H) (takes_of rfl rfl rfl rfl) (fun _ _ _ _ h => h)))))))), ?_⟩
    walk_at "s"
    refine ⟨_, d, rfl, ix, fun H1 c1 => ?_⟩
    walk_at "s"
    have hR1 := hR.calm c1
    obtain ⟨fs, o, pf⟩ := hR1.obj
    obtain ⟨f3, o3, pf3⟩ := hR1.rdr.obj
    have ap := hR1.apart
    have ne := hR1.ne
    match d, ix, q with
    | .forget, ix, q =>
      refine w_ixDS (ix.on c1) rfl ?_
      walk_at "s"
      refine w_ifT (by decide +kernel) ?_
      walk_at "s"
      refine w_field o TC.cls TC.other pf.other ?_
      refine w_self o3 (pf3.no _ (by decide +kernel)) ?_
      walk_at "s"
      refine ⟨_, _, _, _, p, _, _, rfl, hR1.rdr, fun H2 hx' c2 hn hr2 => ?_⟩
      walk_at "s"
      have h0 : H hx' = none := c1.free hn (by simp)
      have call : Chg ad.all H H2 := c1.nil.trans (c2.mono (by simp [Adr.all]))
      obtain ⟨x1, l1, i1⟩ := hR1.line
      obtain ⟨x2, l2, i2⟩ := hR1.back
      obtain ⟨x3, l3, i3⟩ := hR1.row
      exact q _ hx' _ call h0 ⟨⟨fs, c2.keep _ _ o (by simpa using ne.or_), ⟨pf.pact, pf.one, pf.other, pf.line, pf.back, pf.row, pf.came, pf.no, pf.len⟩⟩, hR1.pre.on c2 (by simpa using ne.pr) (by simpa using Ne.symm ap.r_pl), hr2, ⟨x1, c2.keep _ _ l1 (by simpa using Ne.symm ap.r_ln), i1.on c2⟩, ⟨x2, c2.keep _ _ l2 (by simpa using Ne.symm ap.r_bk), i2.on c2⟩, ⟨x3, c2.keep _ _ l3 (by simpa using Ne.symm ap.r_rw), i3.on c2⟩, ⟨ne.op, ne.or_, ne.pr, ne.l1, ne.l2, ne.l3, ne.l4, ne.l5, ne.l6⟩, inv_forget hR1.inv⟩
    | .press hd, ix, q =>
      obtain ⟨hh, hfew, q⟩ := q
      refine w_ixDS (ix.on c1) rfl ?_
      walk_at "s"
      refine w_ifF (by decide +kernel) ?_
      walk_at "s"
      refine w_ixDS (ix.on c1) rfl ?_
      walk_at "s"
      refine w_ifT (by decide +kernel) ?_
      walk_at "s"
      refine w_self o (pf.no _ (by decide +kernel)) ?_
      walk_at "s"
      refine w_ixD (ix.on c1) rfl fun v iv => ?_
      walk_at "s"
      exact ⟨ad, p, R, hd, v, rfl, hR1, hh, iv, hfew, fun H' v a c => q H' v a (c1.nil.trans c)⟩
    | .place wd k, ix, q =>
      obtain ⟨hbf, q⟩ := q
      have e1 : wd.name ≠ "forget" := by cases wd <;> decide +kernel
      have e2 : wd.name ≠ "press" := by cases wd <;> decide +kernel
      refine w_ixDS (ix.on c1) rfl ?_
      walk_at "s"
      refine w_ifF e1 ?_
      walk_at "s"
      refine w_ixDS (ix.on c1) rfl ?_
      walk_at "s"
      refine w_ifF e2 ?_
      walk_at "s"
      refine w_self o (pf.no _ (by decide +kernel)) ?_
      walk_at "s"
      refine w_ixDS (ix.on c1) rfl ?_
      walk_at "s"
      refine w_ixDI (ix.on c1) rfl ?_
      walk_at "s"
      exact ⟨ad, p, R, wd, k, rfl, hR1, hbf, q.on c1⟩
end
end Sh
namespace Sh
open PySem L2 PySem.Spec PyProof.Rows
local macro_rules | `(tactic| walk_at "s1") => `(tactic| first
  | with_reducible refine w_seq ?_
  | with_reducible refine w_asg ?_
  | with_reducible refine w_name ?_
  | with_reducible refine w_ret ?_
  | with_reducible refine w_retN ?_
  | with_reducible refine w_drop ?_
  | with_reducible refine w_next ?_
  | with_reducible refine w_ifS ?_
  | ((with_reducible refine' w_var ?h ?_); (case h => rfl))
  | with_reducible refine w_c ?_
  | with_reducible refine w_op ?_
  | with_reducible refine w_un ?_
  | with_reducible refine w_sl ?_
  | with_reducible refine w_nopart ?_
  | with_reducible refine w_part ?_
  | with_reducible refine w_exint ?_
  | with_reducible refine w_exbl ?_
  | with_reducible refine w_exbl' ?_
  | with_reducible refine w_exint' ?_
  | with_reducible refine w_nn ?_
  | with_reducible refine w_test ?_
  | with_reducible refine w_B ?_
  | with_reducible refine w_and ?_
  | with_reducible refine w_or ?_
  | with_reducible refine w_not ?_
  | with_reducible refine w_andV ?_
  | with_reducible refine w_orV ?_
  | with_reducible refine w_notV ?_
  | with_reducible refine w_ifE ?_
  | with_reducible refine w_nil ?_
  | with_reducible refine w_cons ?_
  | with_reducible refine w_tup ?_
  | with_reducible refine w_lst ?_
  | with_reducible refine w_CB ?_
  | with_reducible refine w_fn ?_
  | with_reducible refine w_T ?_
  | with_reducible refine w_F ?_
  | with_reducible refine w_I0 ?_
  | with_reducible refine w_U ?_
  | with_reducible refine w_addI ?_
  | with_reducible refine w_eqI ?_
  | with_reducible refine w_neI ?_
  | with_reducible refine w_eqS ?_
  | with_reducible refine w_neS ?_
  | with_reducible refine w_for ?_
  | with_reducible refine w_rng1 ?_
  | with_reducible refine w_rng2 ?_
  | with_reducible refine w_iStr ?_
  | with_reducible refine w_iTup ?_
  | with_reducible refine w_iList ?_
  | with_reducible refine w_iEnumT ?_
  | with_reducible refine w_iZip3 ?_
  | with_reducible refine w_iZipA ?_
  | with_reducible refine w_BM ?_
  | with_reducible refine w_gCons ?_
  | with_reducible refine w_gNil ?_
  | ((with_reducible refine' w_gTup ?h ?e ?_); (case h => exact SqT.of upd_same); (case e => rfl))
  | ((with_reducible refine' w_aug ?h ?_); (case h => rfl))
  | with_reducible refine w_ip ?_
  | with_reducible refine w_lc ?_
  | with_reducible refine w_fld ?_
  | with_reducible refine w_chain ?_
  | with_reducible refine w_mt ?_
  | with_reducible refine w_fset ?_
  | with_reducible refine w_dget ?_
  | with_reducible refine w_din ?_
  | with_reducible refine w_dput ?_
  | with_reducible refine w_dnew ?_
  | with_reducible refine w_keys ?_
  | with_reducible refine w_nT ?_
  | with_reducible refine w_nF ?_
  | with_reducible refine w_rowIndex ?_)
local macro_rules | `(tactic| walk_at "s") => `(tactic| repeat (walk_at "s1"))
section
variable {P : Program} {w : World} {K : PySem.W.Frag} {mg : Str → Option Value} {base : Heap} {CP CR CO CB : Addr}
theorem some_ne_none {H : Hp} {a b : Addr} {u : HO} (h1 : H a = some u) (h2 : H b = none) : a ≠ b := fun e => by rw [e, h2] at h1; cases h1
theorem scRoad_init : FnScope ["self", "pact"] ["self", "pact"] (defScope sRoad_init) := ⟨rfl, rfl, rfl, by decide +kernel, rfl, by decide +kernel, by decide +kernel⟩
def sp_Road_init (K : PySem.W.Frag) (CP CR CO CB : Addr) : Sp := fun vs H Q _ => ∃ (o odx : Addr) (x : V) (p : Pact), vs = [.ref o, x] ∧ H o = some (.ins CO odx []) ∧ PactOk p ∧ Is K H x (pactD p) ∧
  ∀ H' ad, Chg [o] H H' → ad.o = o → (∀ b ∈ ad.all, b ≠ o → H b = none) → RoadAt K CP CR CO H' ad p ⟨⟨[], none, none, 0⟩, ⟨none, []⟩, [], [], none⟩ → Q .non H'
theorem ok_Road_init (T : Txt K mg) (TC : ClsRoad K CO) (F : TopI K mg "Road" CO sRoad_init) (K_Reader : Mkk P w K mg base CX0 1 "Reader" CR ["self", "pact"] (sp_Reader_init K CR)) (K_Presser : Mkk P w K mg base CX0 1 "Presser" CP ["self", "pact"] (sp_Presser_init K CP)) : Mkk P w K mg base CX0 3 "Road" CO ["self", "pact"] (sp_Road_init K CP CR CO CB) := by
  refine F.mk (fun _ _ _ _ _ _ us hl => match us, hl with | [_, _], _ => rfl) fun f fd F => F.ok scRoad_init (fun vs H Q E h => ?_) (fun cdv A outer s H vs Q E hr h => ?_)
  · obtain ⟨o, odx, x, p, rfl, _⟩ := h
    rfl
  · obtain ⟨o, odx, x, p, rfl, ho, hp, ix, q⟩ := h
    refine ⟨_, (pss_cons (ps_fldK (K := K) (pv 0) (pv 1) rfl) (pss_cons (ps_fldK (K := K) (pv 0) (pe_mkk K_Presser hr rfl (pa_cons (pv 1) pa_nil)) rfl) (pss_cons (ps_fldK (K := K) (pv 0) (pe_mkk K_Reader hr rfl (pa_cons (pv 1) pa_nil)) rfl) (pss_cons (ps_fldK (K := K) (pv 0) (pe_lst pa_nil) rfl) (pss_cons (ps_fldK (K := K) (pv 0) (pe_lst pa_nil) rfl) (pss_cons (ps_fldK (K := K) (pv 0) (pe_lst pa_nil) rfl) (pss_one (ps_fldK (K := K) (pv 0) pe_non rfl)))))))), ?_⟩
    walk_at "s"
    refine ⟨_, _, _, _, rfl, ho, TC.cls, TC.pact, by decide, ?_⟩
    have c1 : Chg [o] H (upd H o (.ins CO odx (putF "pact" x []))) := Chg.refl.put (by simp) ho rfl
    generalize hH1 : upd H o (.ins CO odx (putF "pact" x [])) = H1 at c1 ⊢
    have o1 : H1 o = some (.ins CO odx (putF "pact" x [])) := by rw [← hH1]; exact upd_same
    -- the presser
    walk_at "s"
    refine w_mkk ?_
    walk_at "s"
    intro px pdx hpx hpdx hne1
    have c2 : Chg [o] H1 (upd (upd H1 pdx (.own px)) px (.ins CP pdx [])) := (Chg.new hpdx).trans (Chg.new (by rw [upd_ne (Ne.symm hne1)]; exact hpx))
    generalize hH2 : upd (upd H1 pdx (.own px)) px (.ins CP pdx []) = H2 at c2 ⊢
    have p2 : H2 px = some (.ins CP pdx []) := by rw [← hH2]; exact upd_same
    have hop : o ≠ px := some_ne_none o1 hpx
    have o2 : H2 o = some (.ins CO odx (putF "pact" x [])) := by
      rw [← hH2, upd_ne hop, upd_ne (some_ne_none o1 hpdx)]; exact o1
    refine ⟨px, pdx, x, p, rfl, p2, hp, (ix.on c1).on c2, fun H3 pl c3 hpl hP => ⟨rfl, ?_⟩⟩
    have o3 := c3.keep _ _ o2 (by simpa using hop)
    obtain ⟨f3, p3, _⟩ := hP.obj
    obtain ⟨y3, l3, _⟩ := hP.lst
    walk_at "s"
    refine ⟨_, _, _, _, rfl, o3, TC.cls, TC.one, Nat.lt_of_le_of_lt (pl1 (Nat.le_refl 0)) (by decide), ?_⟩
    have c4 : Chg [o] H3 (upd H3 o (.ins CO odx (putF "one_end" (.ref px) (putF "pact" x [])))) := Chg.refl.put (by simp) o3 rfl
    generalize hH4 : upd H3 o (.ins CO odx (putF "one_end" (.ref px) (putF "pact" x []))) = H4 at c4 ⊢
    have o4 : H4 o = some (.ins CO odx (putF "one_end" (.ref px) (putF "pact" x []))) := by rw [← hH4]; exact upd_same
    have hopl : o ≠ pl := ins_ne_lst o3 l3
    have hP4 := hP.on c4 (by simpa using Ne.symm hop) (by simpa using Ne.symm hopl)
    obtain ⟨f4, p4, _⟩ := hP4.obj
    obtain ⟨y4, l4, _⟩ := hP4.lst
    -- the reader
    walk_at "s"
    refine w_mkk ?_
    walk_at "s"
    intro rx rdx hrx hrdx hne2
    have c5 : Chg [] H4 (upd (upd H4 rdx (.own rx)) rx (.ins CR rdx [])) := (Chg.new hrdx).trans (Chg.new (by rw [upd_ne (Ne.symm hne2)]; exact hrx))
    generalize hH5 : upd (upd H4 rdx (.own rx)) rx (.ins CR rdx []) = H5 at c5 ⊢
    have r5 : H5 rx = some (.ins CR rdx []) := by rw [← hH5]; exact upd_same
    have hor : o ≠ rx := some_ne_none o4 hrx
    have hpr : px ≠ rx := some_ne_none p4 hrx
    have hlr : pl ≠ rx := some_ne_none l4 hrx
    have c14 : Chg [o, px] H H4 := (((c1.mono (by simp)).trans (c2.mono (by simp))).trans (c3.mono (by simp))).trans (c4.mono (by simp))
    refine ⟨rx, rdx, x, p, rfl, r5, hp, (ix.on c14).on c5, fun H6 hx c6 hhx hRd => ⟨rfl, ?_⟩⟩
    have o6 := c6.keep _ _ (c5.keep _ _ o4 (by simp)) (by simpa using hor)
    have hP6 := (hP4.calm c5).on c6 (by simpa using hpr) (by simpa using hlr)
    obtain ⟨f6, r6, _⟩ := hRd.obj
    obtain ⟨vf6, d6, _⟩ := hRd.dict
    walk_at "s"
    refine ⟨_, _, _, _, rfl, o6, TC.cls, TC.other, Nat.lt_of_le_of_lt (pl1 (pl1 (Nat.le_refl 0))) (by decide), ?_⟩
    have c7 : Chg [o] H6 (upd H6 o (.ins CO odx (putF "other_end" (.ref rx) (putF "one_end" (.ref px) (putF "pact" x []))))) := Chg.refl.put (by simp) o6 rfl
    generalize hH7 : upd H6 o (.ins CO odx (putF "other_end" (.ref rx) (putF "one_end" (.ref px) (putF "pact" x [])))) = H7 at c7 ⊢
    have o7 : H7 o = some (.ins CO odx (putF "other_end" (.ref rx) (putF "one_end" (.ref px) (putF "pact" x [])))) := by rw [← hH7]; exact upd_same
    have hohx : o ≠ hx := ins_ne_dK o6 d6
    have hP7 := hP6.on c7 (by simpa using Ne.symm hop) (by simpa using Ne.symm hopl)
    have hRd7 := hRd.on c7 (by simpa using Ne.symm hor) (by simpa using Ne.symm hohx)
    obtain ⟨f7, p7, _⟩ := hP7.obj
    obtain ⟨y7, l7, _⟩ := hP7.lst
    obtain ⟨g7, r7, _⟩ := hRd7.obj
    obtain ⟨vf7, d7, _⟩ := hRd7.dict
    -- three lists
    walk_at "s"
    refine ⟨Nat.zero_le _, fun ln hln => ?_⟩
    walk_at "s"
    have oln : o ≠ ln := some_ne_none o7 hln
    refine ⟨_, _, _, _, rfl, by rw [upd_ne oln]; exact o7, TC.cls, TC.line, Nat.lt_of_le_of_lt (pl1 (pl1 (pl1 (Nat.le_refl 0)))) (by decide), ?_⟩
    have c8 : Chg [o] H7 (upd (upd H7 ln (.lst [])) o (.ins CO odx (putF "line" (.ref ln) (putF "other_end" (.ref rx) (putF "one_end" (.ref px) (putF "pact" x [])))))) := (Chg.new hln).trans (Chg.refl.put (by simp) (by rw [upd_ne oln]; exact o7) rfl)
    generalize hH8 : upd (upd H7 ln (.lst [])) o (.ins CO odx (putF "line" (.ref ln) (putF "other_end" (.ref rx) (putF "one_end" (.ref px) (putF "pact" x []))))) = H8 at c8 ⊢
    have o8 : H8 o = some (.ins CO odx (putF "line" (.ref ln) (putF "other_end" (.ref rx) (putF "one_end" (.ref px) (putF "pact" x []))))) := by rw [← hH8]; exact upd_same
    have n8 : H8 ln = some (.lst []) := by rw [← hH8, upd_ne (Ne.symm oln)]; exact upd_same
    walk_at "s"
    refine ⟨Nat.zero_le _, fun bk hbk => ?_⟩
    walk_at "s"
    have obk : o ≠ bk := some_ne_none o8 hbk
    refine ⟨_, _, _, _, rfl, by rw [upd_ne obk]; exact o8, TC.cls, TC.back, Nat.lt_of_le_of_lt (pl1 (pl1 (pl1 (pl1 (Nat.le_refl 0))))) (by decide), ?_⟩
    have c9 : Chg [o] H8 (upd (upd H8 bk (.lst [])) o (.ins CO odx (putF "back" (.ref bk) (putF "line" (.ref ln) (putF "other_end" (.ref rx) (putF "one_end" (.ref px) (putF "pact" x []))))))) := (Chg.new hbk).trans (Chg.refl.put (by simp) (by rw [upd_ne obk]; exact o8) rfl)
    generalize hH9 : upd (upd H8 bk (.lst [])) o (.ins CO odx (putF "back" (.ref bk) (putF "line" (.ref ln) (putF "other_end" (.ref rx) (putF "one_end" (.ref px) (putF "pact" x [])))))) = H9 at c9 ⊢
    have o9 : H9 o = some (.ins CO odx (putF "back" (.ref bk) (putF "line" (.ref ln) (putF "other_end" (.ref rx) (putF "one_end" (.ref px) (putF "pact" x [])))))) := by rw [← hH9]; exact upd_same
    have b9 : H9 bk = some (.lst []) := by rw [← hH9, upd_ne (Ne.symm obk)]; exact upd_same
    walk_at "s"
    refine ⟨Nat.zero_le _, fun rw1 hrw => ?_⟩
    walk_at "s"
    have orw : o ≠ rw1 := some_ne_none o9 hrw
    refine ⟨_, _, _, _, rfl, by rw [upd_ne orw]; exact o9, TC.cls, TC.row, Nat.lt_of_le_of_lt (pl1 (pl1 (pl1 (pl1 (pl1 (Nat.le_refl 0)))))) (by decide), ?_⟩
    have c10 : Chg [o] H9 (upd (upd H9 rw1 (.lst [])) o (.ins CO odx (putF "whole_row" (.ref rw1) (putF "back" (.ref bk) (putF "line" (.ref ln) (putF "other_end" (.ref rx) (putF "one_end" (.ref px) (putF "pact" x [])))))))) := (Chg.new hrw).trans (Chg.refl.put (by simp) (by rw [upd_ne orw]; exact o9) rfl)
    generalize hH10 : upd (upd H9 rw1 (.lst [])) o (.ins CO odx (putF "whole_row" (.ref rw1) (putF "back" (.ref bk) (putF "line" (.ref ln) (putF "other_end" (.ref rx) (putF "one_end" (.ref px) (putF "pact" x []))))))) = H10 at c10 ⊢
    have o10 : H10 o = some (.ins CO odx (putF "whole_row" (.ref rw1) (putF "back" (.ref bk) (putF "line" (.ref ln) (putF "other_end" (.ref rx) (putF "one_end" (.ref px) (putF "pact" x []))))))) := by rw [← hH10]; exact upd_same
    have w10 : H10 rw1 = some (.lst []) := by rw [← hH10, upd_ne (Ne.symm orw)]; exact upd_same
    walk_at "s"
    refine ⟨_, _, _, _, rfl, o10, TC.cls, TC.came, Nat.lt_of_le_of_lt (pl1 (pl1 (pl1 (pl1 (pl1 (pl1 (Nat.le_refl 0))))))) (by decide), ?_⟩
    have c11 : Chg [o] H10 (upd H10 o (.ins CO odx (putF "came_most" .non (putF "whole_row" (.ref rw1) (putF "back" (.ref bk) (putF "line" (.ref ln) (putF "other_end" (.ref rx) (putF "one_end" (.ref px) (putF "pact" x []))))))))) := Chg.refl.put (by simp) o10 rfl
    have c711 := ((c8.trans c9).trans c10).trans c11
    -- what was free
    have hne8 := some_ne_none (c8.keep _ _ l7 (by simpa using Ne.symm hopl)) hbk
    have c89 := c8.trans c9
    have c8_10 := c89.trans c10
    have hpxn : ∀ b, b ≠ o → b ≠ px → H2 b = none → H b = none := fun b h1 h2 h => (c1.trans c2).free h (by simpa using h1)
    have f_px : H px = none := c1.free hpx (by simpa using Ne.symm hop)
    have f_pl : H pl = none := (c1.trans c2).free hpl (by simpa using Ne.symm hopl)
    have f_rx : H rx = none := c14.free hrx (by simp [Ne.symm hor, Ne.symm hpr])
    have hpxhx : px ≠ hx := ins_ne_dK (hP6.obj.choose_spec.1) d6
    have f_hx : H hx = none := (c14.trans (c5.nil)).free hhx (by simp [Ne.symm hohx, Ne.symm hpxhx])
    have c17 : Chg [o, px, rx] H H7 := (((c14.mono (by simp)).trans c5.nil).trans (c6.mono (by simp))).trans (c7.mono (by simp))
    have hpln : px ≠ ln := some_ne_none p7 hln
    have hrln : rx ≠ ln := some_ne_none r7 hln
    have f_ln : H ln = none := c17.free hln (by simp [Ne.symm oln, Ne.symm hpln, Ne.symm hrln])
    have p8 := c8.keep _ _ p7 (by simpa using Ne.symm hop)
    have r8 := c8.keep _ _ r7 (by simpa using Ne.symm hor)
    have f_bk : H bk = none := (c17.trans (c8.mono (by simp))).free hbk (by simp [Ne.symm obk, Ne.symm (some_ne_none p8 hbk), Ne.symm (some_ne_none r8 hbk)])
    have p9 := c9.keep _ _ p8 (by simpa using Ne.symm hop)
    have r9 := c9.keep _ _ r8 (by simpa using Ne.symm hor)
    have f_rw : H rw1 = none := ((c17.trans (c8.mono (by simp))).trans (c9.mono (by simp))).free hrw (by simp [Ne.symm orw, Ne.symm (some_ne_none p9 hrw), Ne.symm (some_ne_none r9 hrw)])
    have call : Chg [o] H (upd H10 o (.ins CO odx (putF "came_most" .non (putF "whole_row" (.ref rw1) (putF "back" (.ref bk) (putF "line" (.ref ln) (putF "other_end" (.ref rx) (putF "one_end" (.ref px) (putF "pact" x []))))))))) := by
      have c := c17.trans (c711.mono (m := [o, px, rx]) (by simp))
      refine ⟨fun b u e n => c.keep _ _ e ?_, c.still⟩
      simp only [List.mem_cons, List.not_mem_nil, or_false] at n ⊢
      intro hz
      rcases hz with z | z | z
      · exact n z
      · rw [z, f_px] at e; cases e
      · rw [z, f_rx] at e; cases e
    have n9 := c9.keep _ _ n8 (by simpa using Ne.symm oln)
    have n10 := c10.keep _ _ n9 (by simpa using Ne.symm oln)
    have b10 := c10.keep _ _ b9 (by simpa using Ne.symm obk)
    have y8 := c8.keep _ _ l7 (by simpa using Ne.symm hopl)
    have y9 := c9.keep _ _ y8 (by simpa using Ne.symm hopl)
    refine q _ ⟨o, odx, px, pdx, pl, rx, rdx, hx, ln, bk, rw1, x⟩ call rfl ?_ ?_
    · intro b hb hbo
      simp only [Adr.all, List.mem_cons, List.not_mem_nil, or_false] at hb
      rcases hb with z | z | z | z | z | z | z | z
      · exact absurd z hbo
      · rw [z]; exact f_px
      · rw [z]; exact f_pl
      · rw [z]; exact f_rx
      · rw [z]; exact f_hx
      · rw [z]; exact f_ln
      · rw [z]; exact f_bk
      · rw [z]; exact f_rw
    · refine ⟨⟨_, upd_same, ?_⟩, hP7.on c711 (by simpa using Ne.symm hop) (by simpa using Ne.symm hopl), hRd7.on c711 (by simpa using Ne.symm hor) (by simpa using Ne.symm hohx), ⟨[], c11.keep _ _ n10 (by simpa using Ne.symm oln), .nil⟩, ⟨[], c11.keep _ _ b10 (by simpa using Ne.symm obk), .nil⟩, ⟨[], c11.keep _ _ w10 (by simpa using Ne.symm orw), .nil⟩,
        ⟨hop, hor, hpr, some_ne_none l7 hln, some_ne_none y8 hbk, some_ne_none y9 hrw, some_ne_none n8 hbk, some_ne_none n9 hrw, some_ne_none b9 hrw⟩, ⟨by simp, by simp, fun n h => (nomatch h), fun n h => (nomatch h), fun n h => (nomatch h), by simp, by simp⟩⟩
      have z1 : ∀ {f g : Str} {v : V} {fs : List (Str × V)}, (g == f) = false → fget (putF f v fs) g = fget fs g := fun h => look_other h
      refine ⟨?_, ?_, ?_, ?_, ?_, ?_, look_same, fun g hg => ?_, Nat.le_trans (pl1 (pl1 (pl1 (pl1 (pl1 (pl1 (pl1 (Nat.le_refl 0)))))))) (by decide)⟩
      · rw [z1 (by decide +kernel), z1 (by decide +kernel), z1 (by decide +kernel), z1 (by decide +kernel), z1 (by decide +kernel), z1 (by decide +kernel)]; exact look_same
      · rw [z1 (by decide +kernel), z1 (by decide +kernel), z1 (by decide +kernel), z1 (by decide +kernel), z1 (by decide +kernel)]; exact look_same
      · rw [z1 (by decide +kernel), z1 (by decide +kernel), z1 (by decide +kernel), z1 (by decide +kernel)]; exact look_same
      · rw [z1 (by decide +kernel), z1 (by decide +kernel), z1 (by decide +kernel)]; exact look_same
      · rw [z1 (by decide +kernel), z1 (by decide +kernel)]; exact look_same
      · rw [z1 (by decide +kernel)]; exact look_same
      · simp only [Bool.or_eq_false_iff] at hg
        rw [z1 hg.2, z1 hg.1.2, z1 hg.1.1.2, z1 hg.1.1.1.2, z1 hg.1.1.1.1.2, z1 hg.1.1.1.1.1.2, z1 hg.1.1.1.1.1.1]
        rfl
end
end Sh
namespace Sh
open PySem L2 PySem.Spec PyProof.Rows
local macro_rules | `(tactic| walk_at "s1") => `(tactic| first
  | with_reducible refine w_seq ?_
  | with_reducible refine w_asg ?_
  | with_reducible refine w_name ?_
  | with_reducible refine w_ret ?_
  | with_reducible refine w_retN ?_
  | with_reducible refine w_drop ?_
  | with_reducible refine w_next ?_
  | with_reducible refine w_ifS ?_
  | ((with_reducible refine' w_var ?h ?_); (case h => rfl))
  | with_reducible refine w_c ?_
  | with_reducible refine w_op ?_
  | with_reducible refine w_un ?_
  | with_reducible refine w_sl ?_
  | with_reducible refine w_nopart ?_
  | with_reducible refine w_part ?_
  | with_reducible refine w_exint ?_
  | with_reducible refine w_exbl ?_
  | with_reducible refine w_exbl' ?_
  | with_reducible refine w_exint' ?_
  | with_reducible refine w_nn ?_
  | with_reducible refine w_test ?_
  | with_reducible refine w_B ?_
  | with_reducible refine w_and ?_
  | with_reducible refine w_or ?_
  | with_reducible refine w_not ?_
  | with_reducible refine w_andV ?_
  | with_reducible refine w_orV ?_
  | with_reducible refine w_notV ?_
  | with_reducible refine w_ifE ?_
  | with_reducible refine w_nil ?_
  | with_reducible refine w_cons ?_
  | with_reducible refine w_tup ?_
  | with_reducible refine w_lst ?_
  | with_reducible refine w_CB ?_
  | with_reducible refine w_fn ?_
  | with_reducible refine w_T ?_
  | with_reducible refine w_F ?_
  | with_reducible refine w_I0 ?_
  | with_reducible refine w_U ?_
  | with_reducible refine w_addI ?_
  | with_reducible refine w_eqI ?_
  | with_reducible refine w_neI ?_
  | with_reducible refine w_eqS ?_
  | with_reducible refine w_neS ?_
  | with_reducible refine w_for ?_
  | with_reducible refine w_rng1 ?_
  | with_reducible refine w_rng2 ?_
  | with_reducible refine w_iStr ?_
  | with_reducible refine w_iTup ?_
  | with_reducible refine w_iList ?_
  | with_reducible refine w_iEnumT ?_
  | with_reducible refine w_iZip3 ?_
  | with_reducible refine w_iZipA ?_
  | with_reducible refine w_BM ?_
  | with_reducible refine w_gCons ?_
  | with_reducible refine w_gNil ?_
  | ((with_reducible refine' w_gTup ?h ?e ?_); (case h => exact SqT.of upd_same); (case e => rfl))
  | ((with_reducible refine' w_aug ?h ?_); (case h => rfl))
  | with_reducible refine w_ip ?_
  | with_reducible refine w_lc ?_
  | with_reducible refine w_fld ?_
  | with_reducible refine w_chain ?_
  | with_reducible refine w_mt ?_
  | with_reducible refine w_fset ?_
  | with_reducible refine w_dget ?_
  | with_reducible refine w_din ?_
  | with_reducible refine w_dput ?_
  | with_reducible refine w_dnew ?_
  | with_reducible refine w_keys ?_
  | with_reducible refine w_nT ?_
  | with_reducible refine w_nF ?_
  | with_reducible refine w_rowIndex ?_)
local macro_rules | `(tactic| walk_at "s") => `(tactic| repeat (walk_at "s1"))
section
variable {P : Program} {w : World} {K : PySem.W.Frag} {mg : Str → Option Value} {base : Heap} {CP CR CO CB : Addr}
theorem w_gSub {to ti : TE} {t : TSet} {v : V} {σ : L2.St} {H : Hp} {Q : L2.St → Hp → Prop} (h : to σ H fun o H1 => ti σ H1 fun i H2 => t o i v H2 fun H3 => Q σ H3) : gSub to ti t v σ H Q := h
/-! ### the law's box -/
def boxK (ow : Addr) (s t : Int) : List (Key × V) := [(.inr "own", .ref ow), (.inr "seed", .int s), (.inr "turn", .int t)]
def Bx (H : Hp) (b ow : Addr) (T : Nat) : Prop := ∃ (ns : List Int) (s t : Int), H b = some (.dK (boxK ow s t)) ∧ H ow = some (.lst (ns.map V.int)) ∧ 0 ≤ t ∧ t ≤ T
theorem Bx.on {H H' : Hp} {l : List Addr} {b ow : Addr} {T : Nat} (h : Bx H b ow T) (c : Chg l H H') (h1 : b ∉ l) (h2 : ow ∉ l) : Bx H' b ow T := by
  obtain ⟨ns, s, t, e1, e2, e3⟩ := h
  exact ⟨ns, s, t, c.keep _ _ e1 h1, c.keep _ _ e2 h2, e3⟩
theorem Bx.calm {H H' : Hp} {b ow : Addr} {T : Nat} (h : Bx H b ow T) (c : Chg [] H H') : Bx H' b ow T := h.on c (by simp) (by simp)
theorem Bx.le {H : Hp} {b ow : Addr} {T T' : Nat} (h : Bx H b ow T) (e : T ≤ T') : Bx H b ow T' := by
  obtain ⟨ns, s, t, e1, e2, e3, e4⟩ := h
  exact ⟨ns, s, t, e1, e2, e3, by omega⟩
theorem box_own {ow : Addr} {s t : Int} : valV (boxK ow s t) (.inr "own") = some (.ref ow) := valV_pos rfl
theorem box_seed {ow : Addr} {s t : Int} : valV (boxK ow s t) (.inr "seed") = some (.int s) := by
  have h1 : ¬ ((.inr "own" : Key) = .inr "seed") := by decide +kernel
  unfold boxK
  rw [valV_neg h1, valV_pos rfl]
theorem box_turn {ow : Addr} {s t : Int} : valV (boxK ow s t) (.inr "turn") = some (.int t) := by
  have h1 : ¬ ((.inr "own" : Key) = .inr "turn") := by decide +kernel
  have h2 : ¬ ((.inr "seed" : Key) = .inr "turn") := by decide +kernel
  unfold boxK
  rw [valV_neg h1, valV_neg h2, valV_pos rfl]
theorem box_put {ow : Addr} {s t t' : Int} : putK (boxK ow s t) (.inr "turn") (.int t') = boxK ow s t' := by
  unfold putK
  rw [valV_any, box_turn]
  unfold boxK
  have h1 : ¬ ((.inr "own" : Key) = .inr "turn") := by decide +kernel
  have h2 : ¬ ((.inr "seed" : Key) = .inr "turn") := by decide +kernel
  simp [h1, h2]
theorem get_own {H : Hp} {b ow : Addr} {s t : Int} (h : H b = some (.dK (boxK ow s t))) : DGet H b (.str "own") (some (.ref ow)) := .inl ⟨_, .inr "own", .inl h, rfl, box_own.symm⟩
theorem get_seed {H : Hp} {b ow : Addr} {s t : Int} (h : H b = some (.dK (boxK ow s t))) : DGet H b (.str "seed") (some (.int s)) := .inl ⟨_, .inr "seed", .inl h, rfl, box_seed.symm⟩
theorem get_turn {H : Hp} {b ow : Addr} {s t : Int} (h : H b = some (.dK (boxK ow s t))) : DGet H b (.str "turn") (some (.int t)) := .inl ⟨_, .inr "turn", .inl h, rfl, box_turn.symm⟩
theorem canLayAll_of : ∀ ds : List PyData, (∀ d ∈ ds, d.canLay0 = true ∧ d.depth ≤ 10) → PyData.canLayAll0 ds = true ∧ PyData.depthAll ds ≤ 10
  | [], _ => ⟨rfl, by simp [PyData.depthAll]⟩
  | d :: ds, h => by
    have h1 := h d (by simp)
    have h2 := canLayAll_of ds fun e he => h e (by simp [he])
    refine ⟨by simp [PyData.canLayAll0, h1.1, h2.1], ?_⟩
    simp only [PyData.depthAll]
    omega
theorem shaped_list {ds : List PyData} (h : ∀ d ∈ ds, d.canLay0 = true ∧ d.depth ≤ 10) : SeqAt.shaped (.list ds) = true := by
  have h2 := canLayAll_of ds h
  unfold SeqAt.shaped
  rw [Bool.and_eq_true]
  refine ⟨by simp [PyData.canLay0, h2.1], decide_eq_true ?_⟩
  simp only [PyData.depth]
  omega
theorem eqv_list_nil (ds : List PyData) : PyData.eqv (.list ds) (.list []) = decide (ds = []) := by
  cases ds with
  | nil => simp [PyData.eqv, PyData.eqvAll]
  | cons d ds => simp [PyData.eqv, PyData.eqvAll]
/-- a list of data against [] -/
theorem w_neNil {H : Hp} {Q : VK} {a p : Addr} {xs : List V} {ds : List PyData} (h : H a = some (.lst xs)) (hp : H p = some (.lst [])) (hd : DpAll K H xs ds) (hs : ∀ d ∈ ds, d.canLay0 = true ∧ d.depth ≤ 10) (q : Q (.bl (!decide (ds = []))) H) : rNeA K (.ref a) (.ref p) H Q := by
  refine w_neD (d := .list ds) (e := .list []) (.lst (SqL.of h) hd) (.lst (SqL.of hp) .nil) (shaped_list hs) (by decide +kernel) ?_
  rw [eqv_list_nil]
  exact q
theorem lay_int (n : Int) : (PyData.int n).canLay0 = true ∧ (PyData.int n).depth ≤ 10 := ⟨by simp [PyData.canLay0], by simp [PyData.depth]⟩
theorem lay_ints {ns : List Int} : ∀ d ∈ ns.map PyData.int, d.canLay0 = true ∧ d.depth ≤ 10 := by
  intro d hd
  obtain ⟨n, _, rfl⟩ := List.mem_map.mp hd
  exact lay_int n
theorem dp_ints {H : Hp} (ns : List Int) : DpAll K H (ns.map V.int) (ns.map PyData.int) := Iss.dp _ _ (noRows_ints ns) Iss.ints
theorem sclaw_next : FnScope ["_law_box_here", "_law_many", "_law_digit", "_law_turn", "_law_mixed"] ["_law_box_here", "_law_many"] (defScope slaw_next) := ⟨rfl, rfl, rfl, by decide +kernel, rfl, by decide +kernel, by decide +kernel⟩
def sp_law_next (_ : PySem.W.Frag) : Sp := fun vs H Q _ => ∃ (b ow : Addr) (T : Nat) (m : Int), vs = [.ref b, .int m] ∧ Bx H b ow T ∧ T ≤ 2 ^ 60 ∧ 1 ≤ m ∧ m ≤ 2 ^ 60 ∧ ∀ H' d, Chg [b, ow] H H' → Bx H' b ow (T + 1) → 0 ≤ d → d < m → Q (.int d) H'
theorem ok_law_next (T : Txt K mg) (F : Top K mg "_law_next" slaw_next)  : Fk P w K mg base CX0 1 "_law_next" ["_law_box_here", "_law_many"] (sp_law_next K) := by
  refine F.fk (fun _ _ _ _ _ _ us hl => match us, hl with | [_, _], _ => rfl) fun f fd F => F.ok sclaw_next (fun vs H Q E h => ?_) (fun cdv A outer s H vs Q E hr h => ?_)
  · obtain ⟨b, ow, T, m, rfl, _⟩ := h
    rfl
  · obtain ⟨b, ow, T, m, rfl, ⟨ns, s, t, hb, ho, ht0, htT⟩, hT, hm1, hm2, q⟩ := h
    have hu := hu_of hr
    have hbo : b ≠ ow := dK_ne_lst hb ho
    refine ⟨_, (pss_cons (ps_while PassesOwn.never (PW.pt (pw_and (pt_cmpR (op_neK (K := K) hr.units) (pe_dget hu (pv 0) pe_str (fun _ _ => rfl)) (pe_lst pa_nil) (nomark _)) (pw_and1 (pt_cmpR (op_eqK (K := K) hr.units) (pe_ixK (K := K) (pe_dget hu (pv 0) pe_str (fun _ _ => rfl)) pe_int (fun _ _ => rfl)) pe_int (nomark _))))) (pss_one (ps_expr (pe_bmK (K := K) PySem.F.plainAttrs_list PySem.F.slot_list_pop PySem.F.type_list_pop mt_popAt (pe_dget hu (pv 0) pe_str (fun _ _ => rfl)) (pa_cons pe_int pa_nil))))) (pss_cons (ps_if (pt_cmpR (op_neK (K := K) hr.units) (pe_dget hu (pv 0) pe_str (fun _ _ => rfl)) (pe_lst pa_nil) (nomark _)) (pss_cons (ps_set (i := 2) sclaw_next.nd rfl (Or.inl rfl) (pe_op op_mod (pe_ixK (K := K) (pe_dget hu (pv 0) pe_str (fun _ _ => rfl)) pe_int (fun _ _ => rfl)) (pv 1))) (pss_cons (ps_asg (pe_op op_fdivW (pe_ixK (K := K) (pe_dget hu (pv 0) pe_str (fun _ _ => rfl)) pe_int (fun _ _ => rfl)) (pv 1)) (pg_sub (pe_dget hu (pv 0) pe_str (fun _ _ => rfl)) pe_int set_list)) (pss_one (ps_ret (pv 2))))) pss_nil) (pss_cons (ps_dput hu (pv 0) pe_str (pe_op (op_addK (K := K)) (pe_dget hu (pv 0) pe_str (fun _ _ => rfl)) pe_int) rfl) (pss_cons (ps_set (i := 3) sclaw_next.nd rfl (Or.inl rfl) (pe_dget hu (pv 0) pe_str (fun _ _ => rfl))) (pss_cons (ps_set (i := 4) sclaw_next.nd rfl (Or.inl rfl) (pe_op (op_addK (K := K)) (pe_op (op_addK (K := K)) (pe_dget hu (pv 0) pe_str (fun _ _ => rfl)) (pe_op op_mulA (pe_op op_mulA (pv 3) (pv 3)) pe_int)) (pe_op op_mulA (pv 3) pe_int))) (pss_cons (ps_set (i := 4) sclaw_next.nd rfl (Or.inl rfl) (pe_op op_mod (pe_op op_mulA (pv 4) pe_int) pe_int)) (pss_cons (ps_set (i := 4) sclaw_next.nd rfl (Or.inl rfl) (pe_op op_mod (pe_op op_mulA (pv 4) (pe_op (op_addK (K := K)) (pe_op op_mod (pv 4) pe_int) pe_int)) pe_int)) (pss_one (ps_ret (pe_op op_mod (pe_op op_fdivW (pv 4) pe_int) (pv 1))))))))))), ?_⟩
    walk_at "s1"
    refine ⟨fun n σ H' => ∃ ns : List Int, σ = [some (.ref b), some (.int m), none, none, none] ∧ ns.length = n ∧ H' b = some (.dK (boxK ow s t)) ∧ H' ow = some (.lst (ns.map V.int)) ∧ Chg [b, ow] H H', ⟨_, ns, rfl, rfl, hb, ho, Chg.refl⟩, ?_⟩
    rintro n σ H1 ⟨ns, rfl, hn, hb, ho, c1⟩
    -- behind the loop
    suffices hrest : ∀ H1 : Hp, (∃ ns : List Int, H1 b = some (.dK (boxK ow s t)) ∧ H1 ow = some (.lst (ns.map V.int)) ∧ Chg [b, ow] H H1) → _ by
      walk_at "s"
      refine ⟨b, _, rfl, get_own hb, ?_⟩
      walk_at "s"
      refine ⟨Nat.zero_le _, fun p hp => ?_⟩
      have c2 : Chg [] H1 (upd H1 p (.lst [])) := Chg.new hp
      have hb2 := c2.keep _ _ hb (by simp)
      have ho2 := c2.keep _ _ ho (by simp)
      have hp2 : upd H1 p (.lst []) p = some (.lst []) := upd_same
      generalize upd H1 p (.lst []) = H2 at c2 hb2 ho2 hp2 ⊢
      refine w_neNil ho2 hp2 (dp_ints ns) lay_ints ?_
      walk_at "s"
      by_cases hnil : ns = []
      · refine w_ifn (fun _ => ?_) (fun h => absurd (by rw [hnil]; rfl) h)
        refine w_F ?_
        exact hrest _ ⟨ns, hb2, ho2, c1.trans c2.nil⟩
      · obtain ⟨n0, ns', hns⟩ := List.exists_cons_of_ne_nil hnil
        have ho3 : H2 ow = some (.lst (V.int n0 :: ns'.map V.int)) := by rw [ho2, hns]; rfl
        have hlen : ns.length = ns'.length + 1 := by rw [hns]; rfl
        refine w_ifn (fun h => absurd h (by rw [hns]; simp)) (fun _ => ?_)
        walk_at "s"
        refine ⟨b, _, rfl, get_own hb2, ?_⟩
        walk_at "s"
        refine w_ixL (SqL.of ho3) (atI_nat (j := 0) rfl) ?_
        walk_at "s"
        refine w_if (fun h => ?_) (fun h => ?_)
        · refine ⟨fun σ' H' => σ' = [some (.ref b), some (.int m), none, none, none] ∧ H' b = some (.dK (boxK ow s t)) ∧ H' ow = some (.lst (ns'.map V.int)) ∧ Chg [b, ow] H H', ?_, ?_⟩
          · rintro σ' H' ⟨rfl, h1, h2, h3⟩
            exact ⟨n - 1, by omega, ns', rfl, by omega, h1, h2, h3⟩
          · walk_at "s"
            refine ⟨b, _, rfl, get_own hb2, ?_⟩
            refine ⟨.inl ⟨rfl, _, SqL.of ho3⟩, ?_⟩
            walk_at "s"
            refine (w_popAt (K := K) (k := 0) ho3 rfl (by decide) ?_).2
            walk_at "s"
            exact ⟨rfl, by rw [upd_ne hbo]; exact hb2, upd_same, (c1.trans c2.nil).trans (Chg.refl.put (by simp) ho3 rfl)⟩
        · exact hrest _ ⟨ns, hb2, ho2, c1.trans c2.nil⟩
    clear hb ho c1 hn ns n H1
    rintro H1 ⟨ns, hb, ho, c1⟩
    walk_at "s"
    refine ⟨b, _, rfl, get_own hb, ?_⟩
    walk_at "s"
    refine ⟨Nat.zero_le _, fun p hp => ?_⟩
    have c2 : Chg [] H1 (upd H1 p (.lst [])) := Chg.new hp
    have hb2 := c2.keep _ _ hb (by simp)
    have ho2 := c2.keep _ _ ho (by simp)
    have hp2 : upd H1 p (.lst []) p = some (.lst []) := upd_same
    generalize upd H1 p (.lst []) = H2 at c2 hb2 ho2 hp2 ⊢
    refine w_neNil ho2 hp2 (dp_ints ns) lay_ints ?_
    walk_at "s"
    cases ns with
    | cons n0 ns =>
      refine w_ifn (fun h => nomatch h) (fun _ => ?_)
      walk_at "s"
      refine ⟨b, _, rfl, get_own hb2, ?_⟩
      walk_at "s"
      refine w_ixL (SqL.of ho2) (atI_nat (j := 0) rfl) ?_
      walk_at "s"
      refine w_mod (by omega) ?_
      walk_at "s"
      refine ⟨b, _, rfl, get_own hb2, ?_⟩
      walk_at "s"
      refine w_ixL (SqL.of ho2) (atI_nat (j := 0) rfl) ?_
      walk_at "s"
      refine w_I (wide_div (b := 100) (by omega) (by omega) (by decide) (by decide)) ?_
      refine w_gSub ?_
      walk_at "s"
      refine ⟨b, _, rfl, get_own hb2, ?_⟩
      walk_at "s"
      refine ⟨ow, _, 0, 0, rfl, rfl, ho2, by unfold ixN; simp, ?_⟩
      walk_at "s"
      have c3 : Chg [b, ow] H2 (upd H2 ow (.lst ((V.int n0 :: ns.map V.int).set 0 (.int (n0 / m))))) := Chg.refl.put (by simp) ho2 rfl
      refine q _ _ ((c1.trans c2.nil).trans c3) ⟨n0 / m :: ns, s, t, ?_, upd_same, ht0, by omega⟩ (Int.emod_nonneg _ (by omega)) (Int.emod_lt_of_pos _ (by omega))
      rw [upd_ne hbo]
      exact hb2
    | nil =>
      refine w_ifn (fun _ => ?_) (fun h => absurd rfl h)
      walk_at "s"
      refine ⟨b, _, rfl, get_turn hb2, ?_⟩
      walk_at "s"
      refine ⟨b, _, rfl, DPut.k (k := .inr "turn") hb2 (sl1000 (by simp [boxK])), ?_⟩
      rw [box_put]
      have c3 : Chg [b, ow] H2 (upd H2 b (.dK (boxK ow s (t + 1)))) := Chg.refl.put (by simp) hb2 rfl
      have hb3 : upd H2 b (.dK (boxK ow s (t + 1))) b = some (.dK (boxK ow s (t + 1))) := upd_same
      have ho3 : upd H2 b (.dK (boxK ow s (t + 1))) ow = some (.lst ([] : List V)) := by rw [upd_ne (Ne.symm hbo)]; exact ho2
      generalize upd H2 b (.dK (boxK ow s (t + 1))) = H3 at c3 hb3 ho3 ⊢
      walk_at "s"
      refine ⟨b, _, rfl, get_turn hb3, ?_⟩
      walk_at "s"
      refine ⟨b, _, rfl, get_seed hb3, ?_⟩
      walk_at "s"
      have ht64 : -(2 ^ 64) < t + 1 ∧ t + 1 < 2 ^ 64 := by omega
      refine w_mulL ht64 ?_
      walk_at "s"
      refine w_mulR (by decide) ?_
      walk_at "s"
      refine w_mulR (by decide) ?_
      walk_at "s"
      refine w_mulR (by decide) ?_
      walk_at "s"
      refine w_mod (by decide) ?_
      walk_at "s"
      refine w_mod (by decide) ?_
      walk_at "s"
      refine w_mulR ?_ ?_
      · rename_i v
        omega
      · walk_at "s"
        refine w_mod (by decide) ?_
        walk_at "s"
        refine w_I (wide_div (b := 100) (by decide) (by decide) (by decide) (by decide)) ?_
        walk_at "s"
        refine w_mod (by omega) ?_
        exact q _ _ ((c1.trans c2.nil).trans c3) ⟨[], s, t + 1, hb3, ho3, by omega, by omega⟩ (Int.emod_nonneg _ (by omega)) (Int.emod_lt_of_pos _ (by omega))
end
end Sh
namespace Sh
open PySem L2 PySem.Spec PyProof.Rows
local macro_rules | `(tactic| walk_at "s1") => `(tactic| first
  | with_reducible refine w_seq ?_
  | with_reducible refine w_asg ?_
  | with_reducible refine w_name ?_
  | with_reducible refine w_ret ?_
  | with_reducible refine w_retN ?_
  | with_reducible refine w_drop ?_
  | with_reducible refine w_next ?_
  | with_reducible refine w_ifS ?_
  | ((with_reducible refine' w_var ?h ?_); (case h => rfl))
  | with_reducible refine w_c ?_
  | with_reducible refine w_op ?_
  | with_reducible refine w_un ?_
  | with_reducible refine w_sl ?_
  | with_reducible refine w_nopart ?_
  | with_reducible refine w_part ?_
  | with_reducible refine w_exint ?_
  | with_reducible refine w_exbl ?_
  | with_reducible refine w_exbl' ?_
  | with_reducible refine w_exint' ?_
  | with_reducible refine w_nn ?_
  | with_reducible refine w_test ?_
  | with_reducible refine w_B ?_
  | with_reducible refine w_and ?_
  | with_reducible refine w_or ?_
  | with_reducible refine w_not ?_
  | with_reducible refine w_andV ?_
  | with_reducible refine w_orV ?_
  | with_reducible refine w_notV ?_
  | with_reducible refine w_ifE ?_
  | with_reducible refine w_nil ?_
  | with_reducible refine w_cons ?_
  | with_reducible refine w_tup ?_
  | with_reducible refine w_lst ?_
  | with_reducible refine w_CB ?_
  | with_reducible refine w_fn ?_
  | with_reducible refine w_T ?_
  | with_reducible refine w_F ?_
  | with_reducible refine w_I0 ?_
  | with_reducible refine w_U ?_
  | with_reducible refine w_addI ?_
  | with_reducible refine w_eqI ?_
  | with_reducible refine w_neI ?_
  | with_reducible refine w_eqS ?_
  | with_reducible refine w_neS ?_
  | with_reducible refine w_for ?_
  | with_reducible refine w_rng1 ?_
  | with_reducible refine w_rng2 ?_
  | with_reducible refine w_iStr ?_
  | with_reducible refine w_iTup ?_
  | with_reducible refine w_iList ?_
  | with_reducible refine w_iEnumT ?_
  | with_reducible refine w_iZip3 ?_
  | with_reducible refine w_iZipA ?_
  | with_reducible refine w_BM ?_
  | with_reducible refine w_gCons ?_
  | with_reducible refine w_gNil ?_
  | ((with_reducible refine' w_gTup ?h ?e ?_); (case h => exact SqT.of upd_same); (case e => rfl))
  | ((with_reducible refine' w_aug ?h ?_); (case h => rfl))
  | with_reducible refine w_ip ?_
  | with_reducible refine w_lc ?_
  | with_reducible refine w_fld ?_
  | with_reducible refine w_chain ?_
  | with_reducible refine w_mt ?_
  | with_reducible refine w_fset ?_
  | with_reducible refine w_dget ?_
  | with_reducible refine w_din ?_
  | with_reducible refine w_dput ?_
  | with_reducible refine w_dnew ?_
  | with_reducible refine w_keys ?_
  | with_reducible refine w_nT ?_
  | with_reducible refine w_nF ?_
  | with_reducible refine w_rowIndex ?_)
local macro_rules | `(tactic| walk_at "s") => `(tactic| repeat (walk_at "s1"))
section
variable {P : Program} {w : World} {K : PySem.W.Frag} {mg : Str → Option Value} {base : Heap} {CP CR CO CB : Addr}
theorem Bx.ne_ow {H : Hp} {b ow p : Addr} {tn : Nat} (h : Bx H b ow tn) (hp : H p = none) : p ≠ ow := by
  obtain ⟨ns, s, t, e1, e2, e3⟩ := h
  exact fun e => by rw [e, e2] at hp; cases hp
theorem Bx.ne_b {H : Hp} {b ow p : Addr} {tn : Nat} (h : Bx H b ow tn) (hp : H p = none) : p ≠ b := by
  obtain ⟨ns, s, t, e1, e2, e3⟩ := h
  exact fun e => by rw [e, e1] at hp; cases hp
theorem Bx.upd {H : Hp} {b ow p : Addr} {tn : Nat} {o : HO} (h : Bx H b ow tn) (h1 : p ≠ b) (h2 : p ≠ ow) : Bx (upd H p o) b ow tn := by
  obtain ⟨ns, s, t, e1, e2, e3⟩ := h
  exact ⟨ns, s, t, by rw [upd_ne (Ne.symm h1)]; exact e1, by rw [upd_ne (Ne.symm h2)]; exact e2, e3⟩
theorem Bx.new {H : Hp} {b ow p : Addr} {tn : Nat} {o : HO} (h : Bx H b ow tn) (hp : H p = none) : Bx (L2.upd H p o) b ow tn := h.upd (h.ne_b hp) (h.ne_ow hp)
theorem atI_range {α : Type} {xs : List α} {d : Int} (h0 : 0 ≤ d) (h1 : d < xs.length) : ∃ v, atI xs d = some v ∧ v ∈ xs := by
  obtain ⟨k, rfl⟩ : ∃ k : Nat, d = k := ⟨d.toNat, by omega⟩
  have hlt : k < xs.length := by omega
  exact ⟨xs[k], atI_nat (List.getElem?_eq_getElem hlt), List.getElem_mem hlt⟩
theorem mem_ints {v : V} {l : List Nat} (h : v ∈ l.map fun (n : Nat) => V.int n) : ∃ n, n ∈ l ∧ v = .int n := by
  obtain ⟨n, hn, rfl⟩ := List.mem_map.mp h
  exact ⟨n, hn, rfl⟩
theorem one_le_pow (k : Nat) : (1 : Int) ≤ 2 ^ k := by have := two_pow_pos k; omega
theorem pow_le_60 {k : Nat} (h : k ≤ 60) : (2 : Int) ^ k ≤ 2 ^ 60 := by
  have e : ((2 : Int) ^ k) = ((2 ^ k : Nat) : Int) := by simp
  have h2 : (2 : Nat) ^ k ≤ 2 ^ 60 := Nat.pow_le_pow_right (by decide) h
  rw [e]
  omega
theorem sclaw_of : FnScope ["_law_box_here", "_law_some"] ["_law_box_here", "_law_some"] (defScope slaw_of) := ⟨rfl, rfl, rfl, by decide +kernel, rfl, by decide +kernel, by decide +kernel⟩
def sp_law_of (_ : PySem.W.Frag) : Sp := fun vs H Q _ => ∃ (b ow : Addr) (tn : Nat) (a : Addr) (xs : List V), vs = [.ref b, .ref a] ∧ Bx H b ow tn ∧ tn ≤ 2 ^ 59 ∧ H a = some (.lst xs) ∧ a ≠ ow ∧ 1 ≤ xs.length ∧ xs.length ≤ 1000 ∧ ∀ H' v, Chg [b, ow] H H' → Bx H' b ow (tn + 1) → v ∈ xs → Q v H'
theorem ok_law_of (T : Txt K mg) (F : Top K mg "_law_of" slaw_of) (F_law_next : Fk P w K mg base CX0 1 "_law_next" ["_law_box_here", "_law_many"] (sp_law_next K)) : Fk P w K mg base CX0 2 "_law_of" ["_law_box_here", "_law_some"] (sp_law_of K) := by
  refine F.fk (fun _ _ _ _ _ _ us hl => match us, hl with | [_, _], _ => rfl) fun f fd F => F.ok sclaw_of (fun vs H Q E h => ?_) (fun cdv A outer s H vs Q E hr h => ?_)
  · obtain ⟨b, ow, tn, a, xs, rfl, _⟩ := h
    rfl
  · obtain ⟨b, ow, tn, a, xs, rfl, hB, hT, ha, hne, h1, h2, q⟩ := h
    have hnb : a ≠ b := by
      obtain ⟨ns, s, t, e1, e2, e3⟩ := hB
      exact fun e => by rw [e, e1] at ha; cases ha
    refine ⟨_, (pss_one (ps_ret (pe_ixK (K := K) (pv 1) (pe_fn F_law_next hr rfl (pa_cons (pv 0) (pa_cons (pe_callB (call_lenK (K := K)) (by rfl) T.b_len PySem.boot_len (pa_cons (pv 1) pa_nil)) pa_nil))) (fun _ _ => rfl)))), ?_⟩
    walk_at "s"
    refine w_lenL ha ?_
    walk_at "s"
    refine ⟨b, ow, tn, _, rfl, hB, by omega, by omega, by omega, fun H1 d c1 B1 hd0 hd1 => ?_⟩
    obtain ⟨v, hv, hm⟩ := atI_range hd0 hd1
    exact w_ixL (SqL.of (c1.keep _ _ ha (by simp [hnb, hne]))) hv (q _ _ c1 B1 hm)
theorem sclaw_value : FnScope ["_law_box_here", "_law_breadth", "_law_some"] ["_law_box_here", "_law_breadth"] (defScope slaw_value) := ⟨rfl, rfl, rfl, by decide +kernel, rfl, by decide +kernel, by decide +kernel⟩
def sp_law_value (_ : PySem.W.Frag) : Sp := fun vs H Q _ => ∃ (b ow : Addr) (tn br : Nat), vs = [.ref b, .int br] ∧ Bx H b ow tn ∧ tn ≤ 2 ^ 58 ∧ br ≤ 60 ∧ ∀ H' n, Chg [b, ow] H H' → Bx H' b ow (tn + 2) → 0 ≤ n → n < 2 ^ br → Q (.int n) H'
theorem ok_law_value (T : Txt K mg) (F : Top K mg "_law_value" slaw_value) (F_law_next : Fk P w K mg base CX0 1 "_law_next" ["_law_box_here", "_law_many"] (sp_law_next K)) : Fk P w K mg base CX0 2 "_law_value" ["_law_box_here", "_law_breadth"] (sp_law_value K) := by
  refine F.fk (fun _ _ _ _ _ _ us hl => match us, hl with | [_, _], _ => rfl) fun f fd F => F.ok sclaw_value (fun vs H Q E h => ?_) (fun cdv A outer s H vs Q E hr h => ?_)
  · obtain ⟨b, ow, tn, br, rfl, _⟩ := h
    rfl
  · obtain ⟨b, ow, tn, br, rfl, hB, hT, hbr, q⟩ := h
    have hp := two_pow_pos br
    refine ⟨_, (pss_cons (ps_set (i := 2) sclaw_value.nd rfl (Or.inl rfl) (pe_lst (pa_cons pe_int (pa_cons pe_int (pa_cons (pe_op op_sub (pe_op op_shl pe_int (pv 1)) pe_int) (pa_cons (pe_fn F_law_next hr rfl (pa_cons (pv 0) (pa_cons (pe_op op_shl pe_int (pv 1)) pa_nil))) pa_nil)))))) (pss_one (ps_ret (pe_op op_mod (pe_ixK (K := K) (pv 2) (pe_fn F_law_next hr rfl (pa_cons (pv 0) (pa_cons pe_int pa_nil))) (fun _ _ => rfl)) (pe_op op_shl pe_int (pv 1)))))), ?_⟩
    walk_at "s"
    refine w_shl1 (by omega) ?_
    walk_at "s"
    refine w_shl1 (by omega) ?_
    walk_at "s"
    refine ⟨b, ow, tn, _, rfl, hB, by omega, one_le_pow br, pow_le_60 hbr, fun H1 d c1 B1 hd0 hd1 => ?_⟩
    walk_at "s"
    refine ⟨sz1000 (by simp), fun p hp0 => ?_⟩
    walk_at "s"
    have B2 := B1.new (o := .lst [.int 0, .int 1, .int (2 ^ br - 1), .int d]) hp0
    refine ⟨b, ow, tn + 1, _, rfl, B2, by omega, by decide, by decide, fun H3 d3 c3 B3 h0 h1 => ?_⟩
    have hl : H3 p = some (.lst ([0, 1, 2 ^ br - 1, d].map V.int)) := c3.keep _ _ upd_same (by simp [B1.ne_b hp0, B1.ne_ow hp0])
    obtain ⟨v, hv, hm⟩ := atI_range (xs := [0, 1, 2 ^ br - 1, d].map V.int) h0 (by simpa using h1)
    obtain ⟨n, _, rfl⟩ := List.mem_map.mp hm
    refine w_ixL (SqL.of hl) hv ?_
    walk_at "s"
    refine w_shl1 (by omega) ?_
    refine w_mod hp ?_
    exact q _ _ ((c1.trans (Chg.new hp0)).trans c3) B3 (Int.emod_nonneg _ (by omega)) (Int.emod_lt_of_pos _ hp)
theorem sclaw_way : FnScope ["_law_box_here", "_law_breadth", "_law_way_here", "_law_width_here"] ["_law_box_here", "_law_breadth"] (defScope slaw_way) := ⟨rfl, rfl, rfl, by decide +kernel, rfl, by decide +kernel, by decide +kernel⟩
def sp_law_way (K : PySem.W.Frag) : Sp := fun vs H Q _ => ∃ (b ow : Addr) (tn br : Nat), vs = [.ref b, .int br] ∧ Bx H b ow tn ∧ tn ≤ 2 ^ 57 ∧ 1 ≤ br ∧ br ≤ 40 ∧ ∀ H' v wy, Chg [b, ow] H H' → Bx H' b ow (tn + 10) → WayOk br wy → Is K H' v (wayD wy) → Q v H'
theorem ok_law_way (T : Txt K mg) (F : Top K mg "_law_way" slaw_way) (F_law_value : Fk P w K mg base CX0 2 "_law_value" ["_law_box_here", "_law_breadth"] (sp_law_value K)) (F_law_next : Fk P w K mg base CX0 1 "_law_next" ["_law_box_here", "_law_many"] (sp_law_next K)) : Fk P w K mg base CX0 3 "_law_way" ["_law_box_here", "_law_breadth"] (sp_law_way K) := by
  refine F.fk (fun _ _ _ _ _ _ us hl => match us, hl with | [_, _], _ => rfl) fun f fd F => F.ok sclaw_way (fun vs H Q E h => ?_) (fun cdv A outer s H vs Q E hr h => ?_)
  · obtain ⟨b, ow, tn, br, rfl, _⟩ := h
    rfl
  · obtain ⟨b, ow, tn, br, rfl, hB, hT, hb1, hb2, q⟩ := h
    refine ⟨_, (pss_cons (ps_set (i := 2) sclaw_way.nd rfl (Or.inl rfl) (pe_fn F_law_next hr rfl (pa_cons (pv 0) (pa_cons pe_int pa_nil)))) (pss_cons (ps_if (pt_cmpR op_lt (pv 2) pe_int (nomark _)) (pss_one (ps_ret (pe_tup (pa_cons pe_str pa_nil)))) pss_nil) (pss_cons (ps_if (pt_cmpR (op_eqK (K := K) hr.units) (pv 2) pe_int (nomark _)) (pss_one (ps_ret (pe_tup (pa_cons pe_str pa_nil)))) pss_nil) (pss_cons (ps_set (i := 3) sclaw_way.nd rfl (Or.inl rfl) (pe_op (op_addK (K := K)) pe_int (pe_fn F_law_next hr rfl (pa_cons (pv 0) (pa_cons (pv 1) pa_nil))))) (pss_one (ps_ret (pe_tup (pa_cons pe_str (pa_cons (pv 3) (pa_cons (pe_fn F_law_value hr rfl (pa_cons (pv 0) (pa_cons (pv 3) pa_nil))) pa_nil)))))))))), ?_⟩
    walk_at "s"
    refine ⟨b, ow, tn, _, rfl, hB, by omega, by decide, by decide, fun H1 d c1 B1 hd0 hd1 => ?_⟩
    walk_at "s"
    refine w_if (fun h => ?_) (fun h => ?_)
    · walk_at "s"
      refine ⟨sz1000 (by simp), fun p hp => ?_⟩
      exact q _ _ .keep (c1.trans (Chg.new hp)) ((B1.new hp).le (by omega)) trivial (is_new (Iss.one (.str _)) hp)
    · walk_at "s"
      refine w_if (fun h => ?_) (fun h => ?_)
      · walk_at "s"
        refine ⟨sz1000 (by simp), fun p hp => ?_⟩
        exact q _ _ .whole (c1.trans (Chg.new hp)) ((B1.new hp).le (by omega)) trivial (is_new (Iss.one (.str _)) hp)
      · walk_at "s"
        refine ⟨b, ow, tn + 1, _, rfl, B1, by omega, by omega, by omega, fun H2 e c2 B2 he0 he1 => ?_⟩
        walk_at "s"
        obtain ⟨e', rfl⟩ : ∃ e' : Nat, e = e' := ⟨e.toNat, by omega⟩
        refine ⟨b, ow, tn + 2, 1 + e', rfl, B2, by omega, by omega, fun H3 n c3 B3 hn0 hn1 => ?_⟩
        walk_at "s"
        refine ⟨sz1000 (by simp), fun p hp => ?_⟩
        obtain ⟨n', rfl⟩ : ∃ n' : Nat, n = n' := ⟨n.toNat, by omega⟩
        exact q _ _ (.low (1 + e') n') (((c1.trans c2).trans c3).trans (Chg.new hp)) ((B3.new hp).le (by omega)) ⟨by omega, by omega, hn0, hn1⟩ (is_new (.cons (.str _) (.cons (.int _) (Iss.one (.int _)))) hp)
theorem sclaw_any_head : FnScope ["_law_box_here", "_law_shape_here", "_law_field"] ["_law_box_here", "_law_shape_here"] (defScope slaw_any_head) := ⟨rfl, rfl, rfl, by decide +kernel, rfl, by decide +kernel, by decide +kernel⟩
def sp_law_any_head (K : PySem.W.Frag) : Sp := fun vs H Q _ => ∃ (b ow : Addr) (tn : Nat) (x : V) (fs : List Field) (m : Nat), vs = [.ref b, x] ∧ Bx H b ow tn ∧ tn ≤ 2 ^ 57 ∧ ShapeOk fs m ∧ Is K H x (shapeD fs m) ∧ ∀ H' v hd, Chg [b, ow] H H' → Bx H' b ow (tn + 100) → HeadOk fs hd → Is K H' v (headD hd) → Q v H'
theorem ok_law_any_head (T : Txt K mg) (F : Top K mg "_law_any_head" slaw_any_head) (F_law_value : Fk P w K mg base CX0 2 "_law_value" ["_law_box_here", "_law_breadth"] (sp_law_value K)) : Fk P w K mg base CX0 3 "_law_any_head" ["_law_box_here", "_law_shape_here"] (sp_law_any_head K) := by
  refine F.fk (fun _ _ _ _ _ _ us hl => match us, hl with | [_, _], _ => rfl) fun f fd F => F.ok sclaw_any_head (fun vs H Q E h => ?_) (fun cdv A outer s H vs Q E hr h => ?_)
  · obtain ⟨b, ow, tn, x, fs, m, rfl, _⟩ := h
    rfl
  · obtain ⟨b, ow, tn, x, fs, m, rfl, hB, hT, hs, ix, q⟩ := h
    refine ⟨_, (pss_one (ps_ret (pe_callTy (call_tupleK (K := K)) (by rfl) T.b_tuple (by decide +kernel) (pa_cons (pe_lc (own := [("_law_field", 2)]) rfl sclaw_any_head.nd (pi_tupK (K := K) (pe_ixK (K := K) (pv 1) pe_int (fun _ _ => rfl))) (blkOk_by (own := [("_law_field", 2)]) (N := ["_law_box_here", "_law_shape_here", "_law_field"]) (sc := defScope slaw_any_head) (by decide +kernel)) (fun _ _ _ _ _ => (pg_name (i := 2) sclaw_any_head.nd rfl (Or.inl rfl))) (fun _ _ _ _ _ => pts_nil) (fun _ _ _ _ _ => (pe_fn F_law_value hr rfl (pa_cons (pv 0) (pa_cons (pe_ixK (K := K) (pv 2) pe_int (fun _ _ => rfl)) pa_nil))))) pa_nil)))), ?_⟩
    walk_at "s"
    refine w_ixD ix rfl fun v iv => ?_
    obtain ⟨a0, xs, rfl, t0, s0⟩ := iv.tup_eq
    have hxs : xs.length = fs.length := by rw [s0.length, List.length_map]
    have hfew := hs.few
    refine ⟨_, rfl, ⟨_, t0.sq⟩, fun D hD => ?_⟩
    refine lc_data (K := K) (walk_tup (xs := xs)) [b, ow] hD (by simp [hB.ne_b hD, hB.ne_ow hD]) (by omega) (fun i H => Bx H b ow (tn + 2 * i)) (fun i e => ∃ (f : Field) (n : Int), fs[i]? = some f ∧ e = .int n ∧ 0 ≤ n ∧ n < 2 ^ f.br) hB (fun i H o h => h.upd (hB.ne_b hD) (hB.ne_ow hD)) (fun H1 c1 => (t0.mono c1).sq) (fun i x H1 H2 Q' hi c1 B1 hY hQ => ?_) fun H1 ys es c1 B1 hL hsy hle hok => ?_
    · obtain ⟨rfl, e1⟩ := hY
      obtain ⟨fd, ef, i1⟩ := getMap s0 e1
      have hf := hs.ok i fd ef
      walk_at "s"
      refine ⟨rfl, ?_⟩
      walk_at "s"
      refine w_ixDI (i1.on c1) rfl ?_
      walk_at "s"
      refine ⟨b, ow, _, fd.br, rfl, B1, by omega, by have := hf.2.1; omega, fun H3 n c3 B3 h0 h1 => ?_⟩
      exact hQ _ _ (.int n) c3 (B3.le (by omega)) (.int n) ⟨fd, n, ef, rfl, h0, h1⟩
    · walk_at "s"
      refine ⟨D, _, rfl, SqL.of hL, fun r o hr _ _ => ?_⟩
      obtain ⟨hd, rfl⟩ : ∃ hd : List Int, es = hd.map PyData.int := by
        refine ⟨es.map fun e => match e with | .int n => n | _ => 0, ?_⟩
        rw [List.map_map]
        apply List.ext_getElem?
        intro j
        by_cases hj : j < es.length
        · obtain ⟨f, n, _, e2, _⟩ := hok j _ (List.getElem?_eq_getElem hj)
          rw [List.getElem?_map, List.getElem?_eq_getElem hj, e2]
          rfl
        · rw [List.getElem?_eq_none (by omega), List.getElem?_eq_none (by simp; omega)]
      refine q _ _ hd (c1.trans (Chg.new hr)) ((B1.new hr).le (by omega)) ⟨by simpa [hxs] using hle, fun i f v ef ev => ?_⟩ (is_tupOf hsy hr)
      obtain ⟨f', n, e1, e2, h0, h1⟩ := hok i (.int v) (by rw [List.getElem?_map, ev]; rfl)
      rw [ef] at e1
      cases e1
      cases e2
      exact ⟨h0, h1⟩
end
end Sh
namespace Sh
open PySem L2 PySem.Spec PyProof.Rows
local macro_rules | `(tactic| walk_at "s1") => `(tactic| first
  | with_reducible refine w_seq ?_
  | with_reducible refine w_asg ?_
  | with_reducible refine w_name ?_
  | with_reducible refine w_ret ?_
  | with_reducible refine w_retN ?_
  | with_reducible refine w_drop ?_
  | with_reducible refine w_next ?_
  | with_reducible refine w_ifS ?_
  | ((with_reducible refine' w_var ?h ?_); (case h => rfl))
  | with_reducible refine w_c ?_
  | with_reducible refine w_op ?_
  | with_reducible refine w_un ?_
  | with_reducible refine w_sl ?_
  | with_reducible refine w_nopart ?_
  | with_reducible refine w_part ?_
  | with_reducible refine w_exint ?_
  | with_reducible refine w_exbl ?_
  | with_reducible refine w_exbl' ?_
  | with_reducible refine w_exint' ?_
  | with_reducible refine w_nn ?_
  | with_reducible refine w_test ?_
  | with_reducible refine w_B ?_
  | with_reducible refine w_and ?_
  | with_reducible refine w_or ?_
  | with_reducible refine w_not ?_
  | with_reducible refine w_andV ?_
  | with_reducible refine w_orV ?_
  | with_reducible refine w_notV ?_
  | with_reducible refine w_ifE ?_
  | with_reducible refine w_nil ?_
  | with_reducible refine w_cons ?_
  | with_reducible refine w_tup ?_
  | with_reducible refine w_lst ?_
  | with_reducible refine w_CB ?_
  | with_reducible refine w_fn ?_
  | with_reducible refine w_T ?_
  | with_reducible refine w_F ?_
  | with_reducible refine w_I0 ?_
  | with_reducible refine w_U ?_
  | with_reducible refine w_addI ?_
  | with_reducible refine w_eqI ?_
  | with_reducible refine w_neI ?_
  | with_reducible refine w_eqS ?_
  | with_reducible refine w_neS ?_
  | with_reducible refine w_for ?_
  | with_reducible refine w_rng1 ?_
  | with_reducible refine w_rng2 ?_
  | with_reducible refine w_iStr ?_
  | with_reducible refine w_iTup ?_
  | with_reducible refine w_iList ?_
  | with_reducible refine w_iEnumT ?_
  | with_reducible refine w_iZip3 ?_
  | with_reducible refine w_iZipA ?_
  | with_reducible refine w_BM ?_
  | with_reducible refine w_gCons ?_
  | with_reducible refine w_gNil ?_
  | ((with_reducible refine' w_gTup ?h ?e ?_); (case h => exact SqT.of upd_same); (case e => rfl))
  | ((with_reducible refine' w_aug ?h ?_); (case h => rfl))
  | with_reducible refine w_ip ?_
  | with_reducible refine w_lc ?_
  | with_reducible refine w_fld ?_
  | with_reducible refine w_chain ?_
  | with_reducible refine w_mt ?_
  | with_reducible refine w_fset ?_
  | with_reducible refine w_dget ?_
  | with_reducible refine w_din ?_
  | with_reducible refine w_dput ?_
  | with_reducible refine w_dnew ?_
  | with_reducible refine w_keys ?_
  | with_reducible refine w_nT ?_
  | with_reducible refine w_nF ?_
  | with_reducible refine w_rowIndex ?_)
local macro_rules | `(tactic| walk_at "s") => `(tactic| repeat (walk_at "s1"))
section
variable {P : Program} {w : World} {K : PySem.W.Frag} {mg : Str → Option Value} {base : Heap} {CP CR CO CB : Addr}
theorem w_par {i j : Nat} {ta : TA} {D : Ends} {σ : L2.St} {H : Hp} (h : ta σ H fun vs H1 => ∃ v w, vs = [v, w] ∧ D.nx ((σ.set i (some v)).set j (some w)) H1) : tPar i j ta D σ H := h
theorem collect {α : Type} {g : α → PyData} : ∀ (es : List PyData) (P : Nat → α → Prop), (∀ j e, es[j]? = some e → ∃ a, e = g a ∧ P j a) → ∃ l : List α, es = l.map g ∧ ∀ (j : Nat) (a : α), l[j]? = some a → P j a
  | [], P, _ => ⟨[], rfl, fun j a h => by simp at h⟩
  | e :: es, P, h => by
    obtain ⟨a, h1, h2⟩ := h 0 e rfl
    obtain ⟨l, h3, h4⟩ := collect (g := g) es (fun j => P (j + 1)) fun j e he => h (j + 1) e (by simpa using he)
    refine ⟨a :: l, by rw [h1, h3]; rfl, fun j b hb => ?_⟩
    cases j with
    | zero => cases hb; exact h2
    | succ j => exact h4 j b (by simpa using hb)
theorem mulOk_one {c n : Nat} (h : n ≤ 8) : MulOk ⟨#[c]⟩ (n : Int) := by
  have hl : (⟨#[c]⟩ : Str).length = 1 := rfl
  unfold MulOk
  rw [hl]
  refine ⟨?_, fun h1 _ => ?_, fun h1 _ => ?_⟩
  · rw [Bool.or_eq_false_iff]
    exact ⟨decide_eq_false (by omega), decide_eq_false (by omega)⟩
  · have h2 : (1 : Int) ≤ (2 ^ 63 - 1) / (n : Int) := by
      apply (Int.le_ediv_iff_mul_le (by omega)).mpr
      omega
    simpa using h2
  · show decide (1 * (n : Int).toNat > sizeLine) = false
    apply decide_eq_false
    rw [sizeLine_eq]
    omega
theorem nat_of {d : Int} (h : 0 ≤ d) : ∃ n : Nat, d = n := ⟨d.toNat, by omega⟩
theorem sclaw_kind : FnScope ["_law_box_here", "_law_place_here", "_law_breadth", "_law_way_here", "_law_many", "_law_first", "_law_step", "_law_times", "_law_k"] ["_law_box_here", "_law_place_here", "_law_breadth"] (defScope slaw_kind) := ⟨rfl, rfl, rfl, by decide +kernel, rfl, by decide +kernel, by decide +kernel⟩
def sp_law_kind (K : PySem.W.Frag) : Sp := fun vs H Q _ => ∃ (b ow : Addr) (tn place br : Nat), vs = [.ref b, .int place, .int br] ∧ Bx H b ow tn ∧ tn ≤ 2 ^ 57 ∧ place ≤ 100 ∧ 1 ≤ br ∧ br ≤ 40 ∧ ∀ H' v k, Chg [b, ow] H H' → Bx H' b ow (tn + 10) → KindOk place br k → Is K H' v (kindD k) → Q v H'
theorem ok_law_kind (T : Txt K mg) (F : Top K mg "_law_kind" slaw_kind) (F_law_of : Fk P w K mg base CX0 2 "_law_of" ["_law_box_here", "_law_some"] (sp_law_of K)) (F_law_next : Fk P w K mg base CX0 1 "_law_next" ["_law_box_here", "_law_many"] (sp_law_next K)) (F_law_value : Fk P w K mg base CX0 2 "_law_value" ["_law_box_here", "_law_breadth"] (sp_law_value K)) : Fk P w K mg base CX0 3 "_law_kind" ["_law_box_here", "_law_place_here", "_law_breadth"] (sp_law_kind K) := by
  refine F.fk (fun _ _ _ _ _ _ us hl => match us, hl with | [_, _, _], _ => rfl) fun f fd F => F.ok sclaw_kind (fun vs H Q E h => ?_) (fun cdv A outer s H vs Q E hr h => ?_)
  · obtain ⟨b, ow, tn, place, br, rfl, _⟩ := h
    rfl
  · obtain ⟨b, ow, tn, place, br, rfl, hB, hT, hpl, hb1, hb2, q⟩ := h
    have hp2 := two_pow_pos br
    have hp22 : (2 : Int) ≤ 2 ^ br := by
      have e : ((2 : Int) ^ br) = ((2 ^ br : Nat) : Int) := by simp
      have h2 : (2 : Nat) ^ 1 ≤ 2 ^ br := Nat.pow_le_pow_right (by decide) hb1
      rw [e]
      omega
    refine ⟨_, (pss_cons (ps_set (i := 3) sclaw_kind.nd rfl (Or.inl rfl) (pe_fn F_law_next hr rfl (pa_cons (pv 0) (pa_cons pe_int pa_nil)))) (pss_cons (ps_if (pt_cmpR op_lt (pv 3) pe_int (nomark _)) (pss_one (ps_ret (pe_tup (pa_cons pe_str pa_nil)))) pss_nil) (pss_cons (ps_if (pt_cmpR op_lt (pv 3) pe_int (nomark _)) (pss_one (ps_ret (pe_tup (pa_cons pe_str (pa_cons (pe_fn F_law_value hr rfl (pa_cons (pv 0) (pa_cons (pv 2) pa_nil))) pa_nil))))) pss_nil) (pss_cons (ps_if (pt_cmpR (op_eqK (K := K) hr.units) (pv 3) pe_int (nomark _)) (pss_cons (ps_set (i := 4) sclaw_kind.nd rfl (Or.inl rfl) (pe_callB (call_min2 rfl) (by rfl) T.b_min (by decide +kernel) (pa_cons (pe_op (op_addK (K := K)) pe_int (pe_fn F_law_next hr rfl (pa_cons (pv 0) (pa_cons pe_int pa_nil)))) (pa_cons (pe_op op_shl pe_int (pv 2)) pa_nil)))) (pss_cons (ps_asg (pe_tup (pa_cons (pe_fn F_law_next hr rfl (pa_cons (pv 0) (pa_cons (pe_op op_shl pe_int (pv 2)) pa_nil))) (pa_cons (pe_op (op_addK (K := K)) (pe_op op_mulA pe_int (pe_fn F_law_next hr rfl (pa_cons (pv 0) (pa_cons pe_int pa_nil)))) pe_int) pa_nil))) (pg_tupK (K := K) (n := 2) rfl (pgs_cons (pg_name (i := 5) sclaw_kind.nd rfl (Or.inr rfl)) (pgs_cons (pg_name (i := 6) sclaw_kind.nd rfl (Or.inr rfl)) pgs_nil)))) (pss_one (ps_ret (pe_tup (pa_cons pe_str (pa_cons (pe_callTy (call_tupleK (K := K)) (by rfl) T.b_tuple (by decide +kernel) (pa_cons (pe_lc (own := [("_law_k", 8)]) rfl sclaw_kind.nd (pi_range1 (by rfl) T.b_range (pa_cons (pv 4) pa_nil)) (blkOk_by (own := [("_law_k", 8)]) (N := ["_law_box_here", "_law_place_here", "_law_breadth", "_law_way_here", "_law_many", "_law_first", "_law_step", "_law_times", "_law_k"]) (sc := defScope slaw_kind) (by decide +kernel)) (fun _ _ _ _ _ => (pg_name (i := 8) sclaw_kind.nd rfl (Or.inl rfl))) (fun _ _ _ _ _ => pts_nil) (fun _ _ _ _ _ => (pe_op op_mod (pe_op (op_addK (K := K)) (pv 5) (pe_op op_mulA (pv 6) (pv 8))) (pe_op op_shl pe_int (pv 2))))) pa_nil)) pa_nil))))))) pss_nil) (pss_cons (ps_if (PW.pt (pw_and (pt_cmpR op_lt (pv 3) pe_int (nomark _)) (pw_and1 (pt_cmpR op_gt (pv 1) pe_int (nomark _))))) (pss_cons (ps_set (i := 7) sclaw_kind.nd rfl (Or.inl rfl) (pe_lst (pa_cons pe_int (pa_cons pe_int (pa_cons (pe_un un_neg pe_int) (pa_cons pe_int (pa_cons pe_int (pa_cons (pe_un un_neg pe_int) (pa_cons (pe_op op_sub (pe_fn F_law_next hr rfl (pa_cons (pv 0) (pa_cons pe_int pa_nil))) pe_int) pa_nil))))))))) (pss_one (ps_ret (pe_tup (pa_cons pe_str (pa_cons (pe_fn F_law_next hr rfl (pa_cons (pv 0) (pa_cons (pv 1) pa_nil))) (pa_cons (pe_fn F_law_of hr rfl (pa_cons (pv 0) (pa_cons (pv 7) pa_nil))) pa_nil))))))) pss_nil) (pss_one (ps_ret (pe_tup (pa_cons pe_str pa_nil))))))))), ?_⟩
    walk_at "s"
    refine ⟨b, ow, tn, _, rfl, hB, by omega, by decide, by decide, fun H1 d c1 B1 hd0 hd1 => ?_⟩
    walk_at "s"
    refine w_if (fun h => ?_) (fun h => ?_)
    · walk_at "s"
      refine ⟨sz1000 (by simp), fun p hp => ?_⟩
      exact q _ _ .still (c1.trans (Chg.new hp)) ((B1.new hp).le (by omega)) trivial (is_new (Iss.one (.str _)) hp)
    walk_at "s"
    refine w_if (fun h => ?_) (fun h => ?_)
    · walk_at "s"
      refine ⟨b, ow, _, br, rfl, B1, by omega, by omega, fun H2 n c2 B2 hn0 hn1 => ?_⟩
      walk_at "s"
      refine ⟨sz1000 (by simp), fun p hp => ?_⟩
      exact q _ _ (.step n) ((c1.trans c2).trans (Chg.new hp)) ((B2.new hp).le (by omega)) ⟨hn0, hn1⟩ (is_new (.cons (.str _) (Iss.one (.int _))) hp)
    walk_at "s"
    refine w_if (fun h => ?_) (fun h => ?_)
    · walk_at "s"
      refine ⟨b, ow, _, _, rfl, B1, by omega, by decide, by decide, fun H2 n c2 B2 hn0 hn1 => ?_⟩
      walk_at "s"
      refine w_shl1 (by omega) ?_
      walk_at "s"
      refine ⟨_, _, rfl, ?_⟩
      have hmany : ∃ m : Nat, (if (2 : Int) ^ br < 2 + n then (2 : Int) ^ br else 2 + n) = m ∧ 2 ≤ m ∧ m ≤ 12 := by
        split
        · obtain ⟨m, hm⟩ := nat_of (show 0 ≤ (2 : Int) ^ br by omega)
          exact ⟨m, hm, by omega, by omega⟩
        · obtain ⟨m, hm⟩ := nat_of (show 0 ≤ 2 + n by omega)
          exact ⟨m, hm, by omega, by omega⟩
      obtain ⟨m, hm, hm2, hm12⟩ := hmany
      rw [hm]
      walk_at "s"
      refine w_shl1 (by omega) ?_
      walk_at "s"
      refine ⟨b, ow, _, _, rfl, B2, by omega, one_le_pow br, pow_le_60 (by omega), fun H3 f0 c3 B3 _ _ => ?_⟩
      walk_at "s"
      refine ⟨b, ow, _, _, rfl, B3, by omega, by decide, by decide, fun H4 s0 c4 B4 _ _ => ?_⟩
      refine w_mulL (by decide) ?_
      walk_at "s"
      refine ⟨sz1000 (by simp), fun tp htp => ?_⟩
      walk_at "s"
      have B4 := B4.new (o := .tup [.int f0, .int (2 * s0 + 1)]) htp
      have c4 := c4.trans (Chg.new (o := .tup [.int f0, .int (2 * s0 + 1)]) htp)
      refine ⟨_, rfl, by omega, by omega, fun D hD => ?_⟩
      have em : (m : Int).toNat = m := by omega
      rw [em]
      refine lc_map walk_range hD (fun i => .int ((f0 + (2 * s0 + 1) * (0 + (i : Int))) % 2 ^ br)) (by omega) (fun _ _ => trivial) (fun i x H5 H6 Q' hi c5 hY hQ => ?_) fun H5 c5 hL => ?_
      · obtain ⟨rfl, rfl⟩ := hY
        walk_at "s"
        refine ⟨rfl, ?_⟩
        walk_at "s"
        refine w_mulR (by omega) ?_
        walk_at "s"
        refine w_shl1 (by omega) ?_
        refine w_mod hp2 ?_
        exact hQ _ Chg.refl
      · walk_at "s"
        have e : (List.range m).map (fun (i : Nat) => V.int ((f0 + (2 * s0 + 1) * (0 + (i : Int))) % 2 ^ br)) = ((List.range m).map fun (i : Nat) => (f0 + (2 * s0 + 1) * (0 + (i : Int))) % 2 ^ br).map V.int := by
          rw [List.map_map]
          rfl
        rw [e] at hL
        refine ⟨D, _, rfl, SqL.of hL, fun l o hl ho1 ho2 => ?_⟩
        walk_at "s"
        refine ⟨sz1000 (by simp), fun p hp => ?_⟩
        have cc := (((((c1.trans c2).trans c3).trans c4).trans c5.nil).trans (Chg.new (o := .frz o (.tup (((List.range m).map fun (i : Nat) => (f0 + (2 * s0 + 1) * (0 + (i : Int))) % 2 ^ br).map V.int))) hl))
        refine q _ _ (.turn ((List.range m).map fun (i : Nat) => (f0 + (2 * s0 + 1) * (0 + (i : Int))) % 2 ^ br)) (cc.trans (Chg.new hp)) ((((B4.calm c5).new hl).new hp).le (by omega)) ⟨?_, by simpa using hm12⟩ (is_new (.cons (.str _) (Iss.one (.row ⟨o, upd_same, ho1, ho2⟩))) hp)
        intro hz
        have := congrArg List.length hz
        simp at this
        omega
    walk_at "s"
    have hdrawn : ∀ p, H1 p = none → Q (.ref p) (upd H1 p (.tup [.str "drawn"])) := fun p hp => q _ _ .drawn (c1.trans (Chg.new hp)) ((B1.new hp).le (by omega)) trivial (is_new (Iss.one (.str _)) hp)
    refine w_if (fun h => ?_) (fun h => ?_)
    · walk_at "s"
      refine w_if (fun h2 => ?_) (fun h2 => ?_)
      · walk_at "s"
        refine ⟨b, ow, _, _, rfl, B1, by omega, by decide, by decide, fun H2 n c2 B2 hn0 hn1 => ?_⟩
        walk_at "s"
        refine ⟨sz1000 (by simp), fun a ha => ?_⟩
        have B3 := B2.new (o := .lst [.int 0, .int 1, .int (-1), .int 3, .int 99, .int (-99), .int (n - 99)]) ha
        walk_at "s"
        refine ⟨b, ow, _, _, rfl, B3, by omega, by omega, by omega, fun H3 f0 c3 B4 hf0 hf1 => ?_⟩
        obtain ⟨f0, rfl⟩ := nat_of hf0
        walk_at "s"
        refine ⟨b, ow, _, a, ([0, 1, -1, 3, 99, -99, n - 99] : List Int).map V.int, rfl, B4, by omega, c3.keep _ _ upd_same (by simp [B2.ne_b ha, B2.ne_ow ha]), B2.ne_ow ha, by simp, by simp, fun H4 v c4 B5 hv => ?_⟩
        obtain ⟨s0, hs0, rfl⟩ := List.mem_map.mp hv
        have hs : -99 ≤ s0 ∧ s0 ≤ 99 := by
          simp only [List.mem_cons, List.not_mem_nil, or_false] at hs0
          omega
        walk_at "s"
        refine ⟨sz1000 (by simp), fun p hp => ?_⟩
        exact q _ _ (.wth f0 s0) ((((c1.trans c2).trans (Chg.new ha)).trans (c3.trans c4)).trans (Chg.new hp)) ((B5.new hp).le (by omega)) ⟨by omega, hs⟩ (is_new (.cons (.str _) (.cons (.int _) (Iss.one (.int _)))) hp)
      · walk_at "s"
        exact ⟨sz1000 (by simp), hdrawn⟩
    · walk_at "s"
      exact ⟨sz1000 (by simp), hdrawn⟩
theorem sclaw_shape : FnScope ["_law_box_here", "_law_most", "_law_letters", "_law_first", "_law_fields", "_law_place_here", "_law_breadth", "_law_name"] ["_law_box_here", "_law_most"] (defScope slaw_shape) := ⟨rfl, rfl, rfl, by decide +kernel, rfl, by decide +kernel, by decide +kernel⟩
def sp_law_shape (K : PySem.W.Frag) : Sp := fun vs H Q _ => ∃ (b ow : Addr) (tn most : Nat), vs = [.ref b, .int most] ∧ Bx H b ow tn ∧ tn ≤ 2 ^ 56 ∧ 1 ≤ most ∧ most ≤ 11 ∧ ∀ H' v fs m, Chg [b, ow] H H' → Bx H' b ow (tn + 1000) → ShapeOk fs m → Is K H' v (shapeD fs m) → Q v H'
theorem ok_law_shape (T : Txt K mg) (F : Top K mg "_law_shape" slaw_shape) (F_law_of : Fk P w K mg base CX0 2 "_law_of" ["_law_box_here", "_law_some"] (sp_law_of K)) (F_law_next : Fk P w K mg base CX0 1 "_law_next" ["_law_box_here", "_law_many"] (sp_law_next K)) (F_law_kind : Fk P w K mg base CX0 3 "_law_kind" ["_law_box_here", "_law_place_here", "_law_breadth"] (sp_law_kind K)) : Fk P w K mg base CX0 4 "_law_shape" ["_law_box_here", "_law_most"] (sp_law_shape K) := by
  refine F.fk (fun _ _ _ _ _ _ us hl => match us, hl with | [_, _], _ => rfl) fun f fd F => F.ok sclaw_shape (fun vs H Q E h => ?_) (fun cdv A outer s H vs Q E hr h => ?_)
  · obtain ⟨b, ow, tn, most, rfl, _⟩ := h
    rfl
  · obtain ⟨b, ow, tn, most, rfl, hB, hT, hm1, hm2, q⟩ := h
    have hz26 : ("abcdefghijklmnopqrstuvwxyz" : Str).cps.toList.length = 26 := by decide +kernel
    have hzl : ("abcdefghijklmnopqrstuvwxyz" : Str).length = 26 := by decide +kernel
    refine ⟨_, (pss_cons (ps_set (i := 2) sclaw_shape.nd rfl (Or.inl rfl) pe_str) (pss_cons (ps_par (i := 3) (j := 4) (by rfl) sclaw_shape.nd rfl rfl (by decide) rfl rfl (pa_cons (pe_fn F_law_next hr rfl (pa_cons (pv 0) (pa_cons pe_int pa_nil))) (pa_cons (pe_lst pa_nil) pa_nil)) (by rfl)) (pss_cons (ps_for PassesOwn.never rfl (pi_range1 (by rfl) T.b_range (pa_cons (pe_op (op_addK (K := K)) pe_int (pe_fn F_law_next hr rfl (pa_cons (pv 0) (pa_cons (pv 1) pa_nil)))) pa_nil)) (pg_name (i := 5) sclaw_shape.nd rfl (Or.inl rfl)) (pss_cons (ps_set (i := 6) sclaw_shape.nd rfl (Or.inl rfl) (pe_fn F_law_of hr rfl (pa_cons (pv 0) (pa_cons (pe_lst (pa_cons pe_int (pa_cons pe_int (pa_cons pe_int (pa_cons pe_int (pa_cons pe_int (pa_cons pe_int (pa_cons pe_int (pa_cons pe_int pa_nil))))))))) pa_nil)))) (pss_cons (ps_set (i := 7) sclaw_shape.nd rfl (Or.inl rfl) (pe_op op_mulA (pe_ixK (K := K) (pv 2) (pe_op op_mod (pe_op (op_addK (K := K)) (pv 3) (pe_op op_mulA pe_int (pv 5))) pe_int) (fun _ _ => rfl)) (pe_op (op_addK (K := K)) pe_int (pe_op op_mod (pe_op (op_addK (K := K)) (pv 3) (pv 5)) pe_int)))) (pss_one (ps_expr (pe_bmK (K := K) PySem.F.plainAttrs_list PySem.F.slot_list_append PySem.F.type_list_append mt_append (pv 4) (pa_cons (pe_tup (pa_cons (pv 7) (pa_cons (pv 6) (pa_cons (pe_fn F_law_kind hr rfl (pa_cons (pv 0) (pa_cons (pv 5) (pa_cons (pv 6) pa_nil)))) pa_nil)))) pa_nil))))))) (pss_one (ps_ret (pe_tup (pa_cons (pe_callTy (call_tupleK (K := K)) (by rfl) T.b_tuple (by decide +kernel) (pa_cons (pv 4) pa_nil)) (pa_cons (pe_fn F_law_of hr rfl (pa_cons (pv 0) (pa_cons (pe_lst (pa_cons pe_int (pa_cons pe_int (pa_cons pe_int (pa_cons pe_int (pa_cons pe_int (pa_cons pe_int (pa_cons pe_int (pa_cons (pe_op op_pow pe_int pe_int) pa_nil))))))))) pa_nil))) pa_nil)))))))), ?_⟩
    walk_at "s"
    refine w_par ?_
    walk_at "s"
    refine ⟨b, ow, tn, _, rfl, hB, by omega, by decide, by decide, fun H1 f0 c1 B1 hf0 hf1 => ?_⟩
    obtain ⟨f0, rfl⟩ := nat_of hf0
    walk_at "s"
    refine ⟨Nat.zero_le _, fun D hD => ?_⟩
    walk_at "s"
    refine ⟨_, _, rfl, ?_⟩
    walk_at "s"
    have B1' := B1.new (o := .lst []) hD
    refine ⟨b, ow, _, _, rfl, B1', by omega, by omega, by omega, fun H2 n c2 B2 hn0 hn1 => ?_⟩
    obtain ⟨n, rfl⟩ := nat_of hn0
    walk_at "s"
    refine ⟨_, rfl, by omega, by omega, ?_⟩
    have en : (1 + (n : Int)).toNat = 1 + n := by omega
    rw [en]
    have hDb := B1.ne_b hD
    have hDo := B1.ne_ow hD
    have hD0 : H D = none := c1.free hD (by simp [hDb, hDo])
    have c12 : Chg [b, ow] H H2 := (c1.trans (Chg.new hD)).trans c2
    have hL2 : H2 D = some (.lst []) := c2.keep _ _ upd_same (by simp [hDb, hDo])
    refine for_it walk_range (fun i σ H' => ∃ a1 a2 a3, σ = [some (.ref b), some (.int most), some (.str "abcdefghijklmnopqrstuvwxyz"), some (.int f0), some (.ref D), a1, a2, a3] ∧ Chg [b, ow] H H' ∧ Bx H' b ow (tn + 2 + 20 * i) ∧ ∃ xs fs, H' D = some (.lst xs) ∧ Iss K H' xs (fs.map fieldD) ∧ fs.length = i ∧ ∀ (j : Nat) (f : Field), fs[j]? = some f → FieldOk j f)
      ⟨none, none, none, by rfl, c12, B2, [], [], hL2, .nil, rfl, fun j f h => by simp at h⟩ (fun _ _ _ _ _ => trivial) ?_ ?_
    · rintro i v σ H3 H4 hi ⟨a1, a2, a3, rfl, c3, B3, xs, fs, hL, hs, hle, hok⟩ ⟨rfl, rfl⟩
      have hi' : i < 1 + n := hi
      walk_at "s"
      refine ⟨sz1000 (by simp), fun a ha => ?_⟩
      have hL4 := (Chg.new (l := []) (o := .lst [.int 1, .int 2, .int 3, .int 4, .int 5, .int 8, .int 16, .int 40]) ha).keep _ _ hL (by simp)
      refine ⟨b, ow, _, a, _, rfl, B3.new ha, by omega, upd_same, B3.ne_ow ha, by simp, by simp, fun H5 v c5 B5 hv => ?_⟩
      obtain ⟨br, hbr, rfl⟩ := mem_ints (l := [1, 2, 3, 4, 5, 8, 16, 40]) hv
      have hbr2 := (by decide : ∀ n ∈ [1, 2, 3, 4, 5, 8, 16, 40], 1 ≤ n ∧ n ≤ 40) br hbr
      have hL5 := c5.keep _ _ hL4 (by simp [hDb, hDo])
      have c35 := (c3.trans (Chg.new ha)).trans c5
      walk_at "s"
      refine w_mulL (by decide) ?_
      walk_at "s"
      refine w_mod (by decide) ?_
      obtain ⟨c, hc, _⟩ := atI_range (xs := ("abcdefghijklmnopqrstuvwxyz" : Str).cps.toList) (d := ((f0 : Int) + 3 * (0 + (i : Int))) % 26) (by omega) (by rw [hz26]; omega)
      refine w_ixS (by rw [hzl]; exact sz1000 (by decide)) hc ?_
      walk_at "s"
      refine w_mod (by decide) ?_
      walk_at "s"
      obtain ⟨r8, hr8⟩ := nat_of (show 0 ≤ 1 + ((f0 : Int) + (0 + (i : Int))) % 8 by omega)
      have hr8b : r8 ≤ 8 := by omega
      refine w_mulS (by rw [hr8]; exact mulOk_one hr8b) ?_
      walk_at "s"
      refine ⟨.inl ⟨rfl, _, SqL.of hL5⟩, ?_⟩
      walk_at "s"
      refine ⟨b, ow, _, i, br, by show [V.ref b, V.int (0 + (i : Int)), V.int br] = _; rw [Int.zero_add], B5, by omega, by omega, hbr2.1, hbr2.2, fun H6 v6 k c6 B6 hk ik => ?_⟩
      walk_at "s"
      refine ⟨sz1000 (by simp), fun u hu => ?_⟩
      have hL6 := c6.keep _ _ hL5 (by simp [hDb, hDo])
      have hDu : D ≠ u := ne_of_none hL6 hu
      walk_at "s"
      generalize hnm : Txt.mul _ _ = nm at hu ⊢
      have hL7 : upd H6 u (.tup [.str nm, .int br, v6]) D = some (.lst xs) := by rw [upd_ne hDu]; exact hL6
      refine ⟨D, _, _, rfl, rfl, hL7, sl1000 ?_, ?_⟩
      · rw [hs.length, List.length_map]; omega
      walk_at "s"
      have c7 : Chg [D] (upd H6 u (.tup [.str nm, .int br, v6])) (upd (upd H6 u (.tup [.str nm, .int br, v6])) D (.lst (xs ++ [.ref u]))) := Chg.refl.put (by simp) hL7 rfl
      have c36 : Chg [b, ow] H (upd H6 u (.tup [.str nm, .int br, v6])) := (c35.trans c6).trans (Chg.new hu)
      have cx : Chg [b, ow, D] H4 (upd (upd H6 u (.tup [.str nm, .int br, v6])) D (.lst (xs ++ [.ref u]))) := ((((Chg.new ha).trans (c5.mono (by simp))).trans (c6.mono (by simp))).trans (Chg.new hu)).trans (c7.mono (by simp))
      refine ⟨_, _, _, rfl, c36.mut hD0, ((B6.new hu).upd hDb hDo).le (by omega), _, fs ++ [⟨nm, br, k⟩], upd_same, ?_, by simp [hle], fun j f hj => ?_⟩
      · rw [List.map_append]
        refine Iss.append (hs.on cx) (Iss.one ?_)
        exact ((is_new (.cons (.str nm) (.cons (.int _) (Iss.one ik))) hu : Is K _ _ (fieldD ⟨nm, br, k⟩))).on c7
      · by_cases hj2 : j < fs.length
        · rw [List.getElem?_append_left hj2] at hj
          exact hok j f hj
        · have hj3 : j = fs.length := by
            have := (List.getElem?_eq_some_iff.mp hj).1
            simp at this
            omega
          subst hj3
          rw [List.getElem?_append_right (Nat.le_refl _)] at hj
          simp at hj
          subst hj
          rw [hle]
          exact ⟨hbr2.1, hbr2.2, hk⟩
    · rintro σ H3 ⟨a1, a2, a3, rfl, c3, B3, xs, fs, hL, hs, hle, hok⟩
      walk_at "s"
      refine ⟨D, _, rfl, SqL.of hL, fun r o hr _ _ => ?_⟩
      have B4 := B3.new (o := .frz o (.tup xs)) hr
      have ir := is_tupOf (o := o) hs hr
      have c4 : Chg [b, ow] H (upd H3 r (.frz o (.tup xs))) := c3.trans (Chg.new hr)
      generalize upd H3 r (.frz o (.tup xs)) = H4 at B4 ir c4 ⊢
      walk_at "s"
      refine w_I (⟨by decide, by decide, by decide⟩ : CPow 10 6) ?_
      walk_at "s"
      rw [show (10 : Int) ^ (6 : Int).toNat = 1000000 by decide +kernel]
      refine ⟨sz1000 (by simp), fun a ha => ?_⟩
      refine ⟨b, ow, _, a, _, rfl, B4.new ha, by omega, upd_same, B4.ne_ow ha, by simp, by simp, fun H5 v c5 B5 hv => ?_⟩
      obtain ⟨m, hm, rfl⟩ := mem_ints (l := [1, 2, 7, 16, 251, 1000, 999983, 1000000]) hv
      have hm2 := (by decide : ∀ n ∈ [1, 2, 7, 16, 251, 1000, 999983, 1000000], 1 ≤ n ∧ n ≤ 1000000) m hm
      walk_at "s"
      refine ⟨sz1000 (by simp), fun p hp => ?_⟩
      exact q _ _ fs m (((c4.trans (Chg.new ha)).trans c5).trans (Chg.new hp)) ((B5.new hp).le (by omega)) ⟨by omega, by omega, hok, hm2.1, hm2.2⟩ (is_new (.cons ((ir.on (Chg.new (l := []) ha)).on c5) (Iss.one (.int _))) hp)
end
end Sh
namespace Sh
open PySem L2 PySem.Spec PyProof.Rows
local macro_rules | `(tactic| walk_at "s1") => `(tactic| first
  | with_reducible refine w_seq ?_
  | with_reducible refine w_asg ?_
  | with_reducible refine w_name ?_
  | with_reducible refine w_ret ?_
  | with_reducible refine w_retN ?_
  | with_reducible refine w_drop ?_
  | with_reducible refine w_next ?_
  | with_reducible refine w_ifS ?_
  | ((with_reducible refine' w_var ?h ?_); (case h => rfl))
  | with_reducible refine w_c ?_
  | with_reducible refine w_op ?_
  | with_reducible refine w_un ?_
  | with_reducible refine w_sl ?_
  | with_reducible refine w_nopart ?_
  | with_reducible refine w_part ?_
  | with_reducible refine w_exint ?_
  | with_reducible refine w_exbl ?_
  | with_reducible refine w_exbl' ?_
  | with_reducible refine w_exint' ?_
  | with_reducible refine w_nn ?_
  | with_reducible refine w_test ?_
  | with_reducible refine w_B ?_
  | with_reducible refine w_and ?_
  | with_reducible refine w_or ?_
  | with_reducible refine w_not ?_
  | with_reducible refine w_andV ?_
  | with_reducible refine w_orV ?_
  | with_reducible refine w_notV ?_
  | with_reducible refine w_ifE ?_
  | with_reducible refine w_nil ?_
  | with_reducible refine w_cons ?_
  | with_reducible refine w_tup ?_
  | with_reducible refine w_lst ?_
  | with_reducible refine w_CB ?_
  | with_reducible refine w_fn ?_
  | with_reducible refine w_T ?_
  | with_reducible refine w_F ?_
  | with_reducible refine w_I0 ?_
  | with_reducible refine w_U ?_
  | with_reducible refine w_addI ?_
  | with_reducible refine w_eqI ?_
  | with_reducible refine w_neI ?_
  | with_reducible refine w_eqS ?_
  | with_reducible refine w_neS ?_
  | with_reducible refine w_for ?_
  | with_reducible refine w_rng1 ?_
  | with_reducible refine w_rng2 ?_
  | with_reducible refine w_iStr ?_
  | with_reducible refine w_iTup ?_
  | with_reducible refine w_iList ?_
  | with_reducible refine w_iEnumT ?_
  | with_reducible refine w_iZip3 ?_
  | with_reducible refine w_iZipA ?_
  | with_reducible refine w_BM ?_
  | with_reducible refine w_gCons ?_
  | with_reducible refine w_gNil ?_
  | ((with_reducible refine' w_gTup ?h ?e ?_); (case h => exact SqT.of upd_same); (case e => rfl))
  | ((with_reducible refine' w_aug ?h ?_); (case h => rfl))
  | with_reducible refine w_ip ?_
  | with_reducible refine w_lc ?_
  | with_reducible refine w_fld ?_
  | with_reducible refine w_chain ?_
  | with_reducible refine w_mt ?_
  | with_reducible refine w_fset ?_
  | with_reducible refine w_dget ?_
  | with_reducible refine w_din ?_
  | with_reducible refine w_dput ?_
  | with_reducible refine w_dnew ?_
  | with_reducible refine w_keys ?_
  | with_reducible refine w_nT ?_
  | with_reducible refine w_nF ?_
  | with_reducible refine w_rowIndex ?_)
local macro_rules | `(tactic| walk_at "s") => `(tactic| repeat (walk_at "s1"))
section
variable {P : Program} {w : World} {K : PySem.W.Frag} {mg : Str → Option Value} {base : Heap} {CP CR CO CB : Addr}
theorem sclaw_form : FnScope ["_law_box_here", "_law_shape_here", "_law_ways", "_law_field"] ["_law_box_here", "_law_shape_here"] (defScope slaw_form) := ⟨rfl, rfl, rfl, by decide +kernel, rfl, by decide +kernel, by decide +kernel⟩
def sp_law_form (K : PySem.W.Frag) : Sp := fun vs H Q _ => ∃ (b ow : Addr) (tn : Nat) (x : V) (fs : List Field) (m : Nat), vs = [.ref b, x] ∧ Bx H b ow tn ∧ tn ≤ 2 ^ 56 ∧ ShapeOk fs m ∧ Is K H x (shapeD fs m) ∧ ∀ H' v f, Chg [b, ow] H H' → Bx H' b ow (tn + 1000) → FormOk fs f → Is K H' v (formD f) → Q v H'
theorem ok_law_form (T : Txt K mg) (F : Top K mg "_law_form" slaw_form) (F_law_of : Fk P w K mg base CX0 2 "_law_of" ["_law_box_here", "_law_some"] (sp_law_of K)) (F_law_way : Fk P w K mg base CX0 3 "_law_way" ["_law_box_here", "_law_breadth"] (sp_law_way K)) : Fk P w K mg base CX0 4 "_law_form" ["_law_box_here", "_law_shape_here"] (sp_law_form K) := by
  refine F.fk (fun _ _ _ _ _ _ us hl => match us, hl with | [_, _], _ => rfl) fun f fd F => F.ok sclaw_form (fun vs H Q E h => ?_) (fun cdv A outer s H vs Q E hr h => ?_)
  · obtain ⟨b, ow, tn, x, fs, m, rfl, _⟩ := h
    rfl
  · obtain ⟨b, ow, tn, x, fs, m, rfl, hB, hT, hs, ix, q⟩ := h
    refine ⟨_, (pss_cons (ps_set (i := 2) sclaw_form.nd rfl (Or.inl rfl) (pe_callTy (call_tupleK (K := K)) (by rfl) T.b_tuple (by decide +kernel) (pa_cons (pe_lc (own := [("_law_field", 3)]) rfl sclaw_form.nd (pi_tupK (K := K) (pe_ixK (K := K) (pv 1) pe_int (fun _ _ => rfl))) (blkOk_by (own := [("_law_field", 3)]) (N := ["_law_box_here", "_law_shape_here", "_law_ways", "_law_field"]) (sc := defScope slaw_form) (by decide +kernel)) (fun _ _ _ _ _ => (pg_name (i := 3) sclaw_form.nd rfl (Or.inl rfl))) (fun _ _ _ _ _ => pts_nil) (fun _ _ _ _ _ => (pe_fn F_law_way hr rfl (pa_cons (pv 0) (pa_cons (pe_ixK (K := K) (pv 3) pe_int (fun _ _ => rfl)) pa_nil))))) pa_nil))) (pss_one (ps_ret (pe_tup (pa_cons (pe_fn F_law_of hr rfl (pa_cons (pv 0) (pa_cons (pe_lst (pa_cons pe_int (pa_cons pe_int (pa_cons pe_int (pa_cons pe_int (pa_cons pe_int (pa_cons pe_int (pa_cons pe_int pa_nil)))))))) pa_nil))) (pa_cons (pe_fn F_law_of hr rfl (pa_cons (pv 0) (pa_cons (pe_lst (pa_cons pe_int (pa_cons pe_int (pa_cons pe_int (pa_cons pe_int (pa_cons pe_int (pa_cons pe_int (pa_cons pe_int (pa_cons pe_int (pa_cons pe_int pa_nil)))))))))) pa_nil))) (pa_cons (pv 2) pa_nil))))))), ?_⟩
    walk_at "s"
    refine w_ixD ix rfl fun v iv => ?_
    obtain ⟨a0, xs, rfl, t0, s0⟩ := iv.tup_eq
    have hxs : xs.length = fs.length := by rw [s0.length, List.length_map]
    have hfew := hs.few
    refine ⟨_, rfl, ⟨_, t0.sq⟩, fun D hD => ?_⟩
    refine lc_data (K := K) (walk_tup (xs := xs)) [b, ow] hD (by simp [hB.ne_b hD, hB.ne_ow hD]) (by omega) (fun i H => Bx H b ow (tn + 10 * i)) (fun i e => ∃ wy, e = wayD wy ∧ ∃ f : Field, fs[i]? = some f ∧ WayOk f.br wy) hB (fun i H o h => h.upd (hB.ne_b hD) (hB.ne_ow hD)) (fun H1 c1 => (t0.mono c1).sq) (fun i x H1 H2 Q' hi c1 B1 hY hQ => ?_) fun H1 ys es c1 B1 hL hsy hle hok => ?_
    · obtain ⟨rfl, e1⟩ := hY
      obtain ⟨fd, ef, i1⟩ := getMap s0 e1
      have hf := hs.ok i fd ef
      walk_at "s"
      refine ⟨rfl, ?_⟩
      walk_at "s"
      refine w_ixDI (i1.on c1) rfl ?_
      walk_at "s"
      exact ⟨b, ow, _, fd.br, rfl, B1, by omega, hf.1, hf.2.1, fun H3 v wy c3 B3 hw iw => hQ _ _ (wayD wy) c3 (B3.le (by omega)) iw ⟨wy, rfl, fd, ef, hw⟩⟩
    · obtain ⟨ways, rfl, hways⟩ := collect es _ hok
      walk_at "s"
      refine ⟨D, _, rfl, SqL.of hL, fun r o hr _ _ => ?_⟩
      have B2 := B1.new (o := .frz o (.tup ys)) hr
      have ir := is_tupOf (o := o) hsy hr
      have c2 : Chg [b, ow] H (upd H1 r (.frz o (.tup ys))) := c1.trans (Chg.new hr)
      generalize upd H1 r (.frz o (.tup ys)) = H2 at B2 ir c2 ⊢
      walk_at "s"
      refine ⟨sz1000 (by simp), fun p1 hp1 => ?_⟩
      have B3 := B2.new (o := .lst [.int 1, .int 2, .int 3, .int 4, .int 6, .int 9, .int 40]) hp1
      refine ⟨b, ow, _, p1, _, rfl, B3, by omega, upd_same, B2.ne_ow hp1, by simp, by simp, fun H3 v3 c3 B4 hv => ?_⟩
      obtain ⟨re, hre, rfl⟩ := mem_ints (l := [1, 2, 3, 4, 6, 9, 40]) hv
      have hre2 := (by decide : ∀ n ∈ [1, 2, 3, 4, 6, 9, 40], 1 ≤ n ∧ n ≤ 40) re hre
      walk_at "s"
      refine ⟨sz1000 (by simp), fun p2 hp2 => ?_⟩
      have B5 := B4.new (o := .lst [.int 1, .int 2, .int 3, .int 4, .int 5, .int 6, .int 8, .int 12, .int 40]) hp2
      refine ⟨b, ow, _, p2, _, rfl, B5, by omega, upd_same, B4.ne_ow hp2, by simp, by simp, fun H4 v4 c4 B6 hv => ?_⟩
      obtain ⟨co, hco, rfl⟩ := mem_ints (l := [1, 2, 3, 4, 5, 6, 8, 12, 40]) hv
      have hco2 := (by decide : ∀ n ∈ [1, 2, 3, 4, 5, 6, 8, 12, 40], 1 ≤ n ∧ n ≤ 40) co hco
      walk_at "s"
      refine ⟨sz1000 (by simp), fun p3 hp3 => ?_⟩
      have c24 := (((Chg.new (l := [b, ow]) (o := .lst [.int 1, .int 2, .int 3, .int 4, .int 6, .int 9, .int 40]) hp1).trans c3).trans (Chg.new (o := .lst [.int 1, .int 2, .int 3, .int 4, .int 5, .int 6, .int 8, .int 12, .int 40]) hp2)).trans c4
      exact q _ _ ⟨re, co, ways⟩ ((c2.trans c24).trans (Chg.new hp3)) ((B6.new hp3).le (by omega)) ⟨hre2.1, hre2.2, hco2.1, hco2.2, by simpa [hxs] using hle, fun i f wy ef ew => by
        obtain ⟨f', e1, e2⟩ := hways i wy ew
        rw [ef] at e1
        cases e1
        exact e2⟩ (is_new (.cons (.int _) (.cons (.int _) (Iss.one (ir.on c24)))) hp3)
theorem sclaw_road : FnScope ["_law_box_here", "_law_skips", "_law_gap"] ["_law_box_here"] (defScope slaw_road) := ⟨rfl, rfl, rfl, by decide +kernel, rfl, by decide +kernel, by decide +kernel⟩
def sp_law_road (K : PySem.W.Frag) : Sp := fun vs H Q _ => ∃ (b ow : Addr) (tn : Nat), vs = [.ref b] ∧ Bx H b ow tn ∧ tn ≤ 2 ^ 56 ∧ ∀ H' v (s g l a : Nat), Chg [b, ow] H H' → Bx H' b ow (tn + 10) → s ≤ 1000 → g ≤ 1000 → l ≤ 1000 → a ≤ 1000 → Is K H' v (.tuple [.int s, .int g, .int l, .int a]) → Q v H'
theorem ok_law_road (T : Txt K mg) (F : Top K mg "_law_road" slaw_road) (F_law_of : Fk P w K mg base CX0 2 "_law_of" ["_law_box_here", "_law_some"] (sp_law_of K)) : Fk P w K mg base CX0 3 "_law_road" ["_law_box_here"] (sp_law_road K) := by
  refine F.fk (fun _ _ _ _ _ _ us hl => match us, hl with | [_], _ => rfl) fun f fd F => F.ok sclaw_road (fun vs H Q E h => ?_) (fun cdv A outer s H vs Q E hr h => ?_)
  · obtain ⟨b, ow, tn, rfl, _⟩ := h
    rfl
  · obtain ⟨b, ow, tn, rfl, hB, hT, q⟩ := h
    refine ⟨_, (pss_cons (ps_set (i := 1) sclaw_road.nd rfl (Or.inl rfl) (pe_fn F_law_of hr rfl (pa_cons (pv 0) (pa_cons (pe_lst (pa_cons pe_int (pa_cons pe_int (pa_cons pe_int (pa_cons pe_int (pa_cons pe_int (pa_cons pe_int (pa_cons pe_int pa_nil)))))))) pa_nil)))) (pss_cons (ps_set (i := 2) sclaw_road.nd rfl (Or.inl rfl) (pe_op (op_addK (K := K)) (pv 1) (pe_fn F_law_of hr rfl (pa_cons (pv 0) (pa_cons (pe_lst (pa_cons pe_int (pa_cons pe_int (pa_cons pe_int (pa_cons pe_int (pa_cons pe_int pa_nil)))))) pa_nil))))) (pss_one (ps_ret (pe_tup (pa_cons (pv 1) (pa_cons (pv 2) (pa_cons (pe_fn F_law_of hr rfl (pa_cons (pv 0) (pa_cons (pe_lst (pa_cons pe_int (pa_cons pe_int (pa_cons pe_int (pa_cons pe_int (pa_cons pe_int (pa_cons pe_int pa_nil))))))) pa_nil))) (pa_cons (pe_fn F_law_of hr rfl (pa_cons (pv 0) (pa_cons (pe_lst (pa_cons pe_int (pa_cons pe_int (pa_cons pe_int (pa_cons pe_int (pa_cons pe_int (pa_cons pe_int (pa_cons pe_int pa_nil)))))))) pa_nil))) pa_nil))))))))), ?_⟩
    walk_at "s"
    refine ⟨sz1000 (by simp), fun p1 hp1 => ?_⟩
    refine ⟨b, ow, _, p1, _, rfl, hB.new hp1, by omega, upd_same, hB.ne_ow hp1, by simp, by simp, fun H1 v c1 B1 hv => ?_⟩
    obtain ⟨n1, hn1, rfl⟩ := mem_ints (l := [0, 0, 1, 2, 3, 5, 39]) hv
    have hb1 := (by decide : ∀ n ∈ [0, 0, 1, 2, 3, 5, 39], n ≤ 39) n1 hn1
    walk_at "s"
    refine ⟨sz1000 (by simp), fun p2 hp2 => ?_⟩
    refine ⟨b, ow, _, p2, _, rfl, B1.new hp2, by omega, upd_same, B1.ne_ow hp2, by simp, by simp, fun H2 v c2 B2 hv => ?_⟩
    obtain ⟨n2, hn2, rfl⟩ := mem_ints (l := [0, 1, 4, 30, 361]) hv
    have hb2 := (by decide : ∀ n ∈ [0, 1, 4, 30, 361], n ≤ 361) n2 hn2
    walk_at "s"
    refine ⟨sz1000 (by simp), fun p3 hp3 => ?_⟩
    refine ⟨b, ow, _, p3, _, rfl, B2.new hp3, by omega, upd_same, B2.ne_ow hp3, by simp, by simp, fun H3 v c3 B3 hv => ?_⟩
    obtain ⟨n3, hn3, rfl⟩ := mem_ints (l := [0, 0, 1, 2, 5, 20]) hv
    have hb3 := (by decide : ∀ n ∈ [0, 0, 1, 2, 5, 20], n ≤ 20) n3 hn3
    walk_at "s"
    refine ⟨sz1000 (by simp), fun p4 hp4 => ?_⟩
    refine ⟨b, ow, _, p4, _, rfl, B3.new hp4, by omega, upd_same, B3.ne_ow hp4, by simp, by simp, fun H4 v c4 B4 hv => ?_⟩
    obtain ⟨n4, hn4, rfl⟩ := mem_ints (l := [0, 0, 0, 7, 30, 1, 400]) hv
    have hb4 := (by decide : ∀ n ∈ [0, 0, 0, 7, 30, 1, 400], n ≤ 400) n4 hn4
    walk_at "s"
    refine ⟨sz1000 (by simp), fun p5 hp5 => ?_⟩
    have e : (n1 : Int) + (n2 : Int) = ((n1 + n2 : Nat) : Int) := by omega
    rw [e]
    exact q _ _ n1 (n1 + n2) n3 n4 (((((((Chg.new hp1).trans c1).trans (Chg.new hp2)).trans c2).trans ((Chg.new hp3).trans c3)).trans ((Chg.new hp4).trans c4)).trans (Chg.new hp5)) ((B4.new hp5).le (by omega)) (by omega) (by omega) (by omega) (by omega)
      (is_new (.cons (.int _) (.cons (.int _) (.cons (.int _) (Iss.one (.int _))))) hp5)
theorem sclaw_pact : FnScope ["_law_box_here", "_law_most", "_law_shape_here", "_law_forms", "_law_k"] ["_law_box_here", "_law_most"] (defScope slaw_pact) := ⟨rfl, rfl, rfl, by decide +kernel, rfl, by decide +kernel, by decide +kernel⟩
def sp_law_pact (K : PySem.W.Frag) : Sp := fun vs H Q _ => ∃ (b ow : Addr) (tn most : Nat), vs = [.ref b, .int most] ∧ Bx H b ow tn ∧ tn ≤ 2 ^ 55 ∧ 1 ≤ most ∧ most ≤ 11 ∧ ∀ H' v p, Chg [b, ow] H H' → Bx H' b ow (tn + 100000) → PactOk p → Is K H' v (pactD p) → Q v H'
theorem ok_law_pact (T : Txt K mg) (F : Top K mg "_law_pact" slaw_pact) (F_law_road : Fk P w K mg base CX0 3 "_law_road" ["_law_box_here"] (sp_law_road K)) (F_law_of : Fk P w K mg base CX0 2 "_law_of" ["_law_box_here", "_law_some"] (sp_law_of K)) (F_law_form : Fk P w K mg base CX0 4 "_law_form" ["_law_box_here", "_law_shape_here"] (sp_law_form K)) (F_law_shape : Fk P w K mg base CX0 4 "_law_shape" ["_law_box_here", "_law_most"] (sp_law_shape K)) : Fk P w K mg base CX0 5 "_law_pact" ["_law_box_here", "_law_most"] (sp_law_pact K) := by
  refine F.fk (fun _ _ _ _ _ _ us hl => match us, hl with | [_, _], _ => rfl) fun f fd F => F.ok sclaw_pact (fun vs H Q E h => ?_) (fun cdv A outer s H vs Q E hr h => ?_)
  · obtain ⟨b, ow, tn, most, rfl, _⟩ := h
    rfl
  · obtain ⟨b, ow, tn, most, rfl, hB, hT, hm1, hm2, q⟩ := h
    refine ⟨_, (pss_cons (ps_set (i := 2) sclaw_pact.nd rfl (Or.inr rfl) (pe_fn F_law_shape hr rfl (pa_cons (pv 0) (pa_cons (pv 1) pa_nil)))) (pss_cons (ps_set (i := 3) sclaw_pact.nd rfl (Or.inl rfl) (pe_callTy (call_tupleK (K := K)) (by rfl) T.b_tuple (by decide +kernel) (pa_cons (pe_lc (own := [("_law_k", 4)]) rfl sclaw_pact.nd (pi_range1 (by rfl) T.b_range (pa_cons (pe_fn F_law_of hr rfl (pa_cons (pv 0) (pa_cons (pe_lst (pa_cons pe_int (pa_cons pe_int (pa_cons pe_int (pa_cons pe_int (pa_cons pe_int (pa_cons pe_int pa_nil))))))) pa_nil))) pa_nil)) (blkOk_by (own := [("_law_k", 4)]) (N := ["_law_box_here", "_law_most", "_law_shape_here", "_law_forms", "_law_k"]) (sc := defScope slaw_pact) (by decide +kernel)) (fun _ _ _ _ _ => (pg_name (i := 4) sclaw_pact.nd rfl (Or.inl rfl))) (fun _ _ _ _ _ => pts_nil) (fun _ _ _ _ _ => (pe_fn F_law_form hr rfl (pa_cons (pv 0) (pa_cons (pv 2) pa_nil))))) pa_nil))) (pss_one (ps_ret (pe_tup (pa_cons (pv 2) (pa_cons (pe_fn F_law_of hr rfl (pa_cons (pv 0) (pa_cons (pe_lst (pa_cons pe_int (pa_cons pe_int (pa_cons pe_int (pa_cons pe_int pa_nil))))) pa_nil))) (pa_cons (pv 3) (pa_cons (pe_fn F_law_road hr rfl (pa_cons (pv 0) pa_nil)) pa_nil))))))))), ?_⟩
    walk_at "s"
    refine ⟨b, ow, tn, most, rfl, hB, by omega, hm1, hm2, fun H1 x fs m c1 B1 hs ix => ?_⟩
    walk_at "s"
    refine ⟨sz1000 (by simp), fun p1 hp1 => ?_⟩
    refine ⟨b, ow, _, p1, _, rfl, B1.new hp1, by omega, upd_same, B1.ne_ow hp1, by simp, by simp, fun H2 v c2 B2 hv => ?_⟩
    obtain ⟨n1, hn1, rfl⟩ := mem_ints (l := [0, 1, 2, 3, 5, 12]) hv
    have hb1 := (by decide : ∀ n ∈ [0, 1, 2, 3, 5, 12], n ≤ 12) n1 hn1
    have c12 : Chg [b, ow] H H2 := (c1.trans (Chg.new hp1)).trans c2
    have ix2 := (ix.on (Chg.new (l := []) (o := .lst [.int 0, .int 1, .int 2, .int 3, .int 5, .int 12]) hp1)).on c2
    walk_at "s"
    refine ⟨_, rfl, by omega, by omega, fun D hD => ?_⟩
    have em : (n1 : Int).toNat = n1 := by omega
    rw [em]
    refine lc_data (K := K) walk_range [b, ow] hD (by simp [B2.ne_b hD, B2.ne_ow hD]) (by omega) (fun i H => Bx H b ow (tn + 1001 + 1000 * i)) (fun i e => ∃ f, e = formD f ∧ FormOk fs f) B2 (fun i H o h => h.upd (B2.ne_b hD) (B2.ne_ow hD)) (fun _ _ => trivial) (fun i x' H3 H4 Q' hi c3 B3 hY hQ => ?_) fun H3 ys es c3 B3 hL hsy hle hok => ?_
    · obtain ⟨rfl, rfl⟩ := hY
      walk_at "s"
      refine ⟨rfl, ?_⟩
      walk_at "s"
      exact ⟨b, ow, _, x, fs, m, rfl, B3, by omega, hs, ix2.on c3, fun H5 v f c5 B5 hf jf => hQ _ _ (formD f) c5 (B5.le (by omega)) jf ⟨f, rfl, hf⟩⟩
    · obtain ⟨forms, rfl, hforms⟩ := collect es _ hok
      walk_at "s"
      refine ⟨D, _, rfl, SqL.of hL, fun r o hr _ _ => ?_⟩
      have B4 := B3.new (o := .frz o (.tup ys)) hr
      have ir := is_tupOf (o := o) hsy hr
      have c4 : Chg [b, ow] H2 (upd H3 r (.frz o (.tup ys))) := c3.trans (Chg.new hr)
      generalize upd H3 r (.frz o (.tup ys)) = H4 at B4 ir c4 ⊢
      walk_at "s"
      refine ⟨sz1000 (by simp), fun p2 hp2 => ?_⟩
      refine ⟨b, ow, _, p2, _, rfl, B4.new hp2, by omega, upd_same, B4.ne_ow hp2, by simp, by simp, fun H5 v c5 B5 hv => ?_⟩
      obtain ⟨wd, hwd, rfl⟩ := mem_ints (l := [9, 12, 16, 40]) hv
      have hb2 := (by decide : ∀ n ∈ [9, 12, 16, 40], 9 ≤ n ∧ n ≤ 40) wd hwd
      have c45 : Chg [b, ow] H4 H5 := (Chg.new hp2).trans c5
      walk_at "s"
      refine ⟨b, ow, _, rfl, B5, by omega, fun H6 v6 s g l a c6 B6 h1 h2 h3 h4 i6 => ?_⟩
      walk_at "s"
      refine ⟨sz1000 (by simp), fun p3 hp3 => ?_⟩
      have c46 := c45.trans c6
      refine q _ _ ⟨fs, m, wd, forms, s, g, l, a⟩ ((c12.trans (c4.trans c46)).trans (Chg.new hp3)) ((B6.new hp3).le (by omega)) ⟨hs, hb2.1, hb2.2, hforms, by simpa using (show forms.length ≤ 12 by rw [List.length_map] at hle; omega), h1, h2, h3, h4⟩ ?_
      exact is_new (.cons (ix2.on (c4.trans c46)) (.cons (.int _) (.cons (ir.on c46) (Iss.one i6)))) hp3
end
end Sh
namespace Sh
open PySem L2 PySem.Spec PyProof.Rows
local macro_rules | `(tactic| walk_at "s1") => `(tactic| first
  | with_reducible refine w_seq ?_
  | with_reducible refine w_asg ?_
  | with_reducible refine w_name ?_
  | with_reducible refine w_ret ?_
  | with_reducible refine w_retN ?_
  | with_reducible refine w_drop ?_
  | with_reducible refine w_next ?_
  | with_reducible refine w_ifS ?_
  | ((with_reducible refine' w_var ?h ?_); (case h => rfl))
  | with_reducible refine w_c ?_
  | with_reducible refine w_op ?_
  | with_reducible refine w_un ?_
  | with_reducible refine w_sl ?_
  | with_reducible refine w_nopart ?_
  | with_reducible refine w_part ?_
  | with_reducible refine w_exint ?_
  | with_reducible refine w_exbl ?_
  | with_reducible refine w_exbl' ?_
  | with_reducible refine w_exint' ?_
  | with_reducible refine w_nn ?_
  | with_reducible refine w_test ?_
  | with_reducible refine w_B ?_
  | with_reducible refine w_and ?_
  | with_reducible refine w_or ?_
  | with_reducible refine w_not ?_
  | with_reducible refine w_andV ?_
  | with_reducible refine w_orV ?_
  | with_reducible refine w_notV ?_
  | with_reducible refine w_ifE ?_
  | with_reducible refine w_nil ?_
  | with_reducible refine w_cons ?_
  | with_reducible refine w_tup ?_
  | with_reducible refine w_lst ?_
  | with_reducible refine w_CB ?_
  | with_reducible refine w_fn ?_
  | with_reducible refine w_T ?_
  | with_reducible refine w_F ?_
  | with_reducible refine w_I0 ?_
  | with_reducible refine w_U ?_
  | with_reducible refine w_addI ?_
  | with_reducible refine w_eqI ?_
  | with_reducible refine w_neI ?_
  | with_reducible refine w_eqS ?_
  | with_reducible refine w_neS ?_
  | with_reducible refine w_for ?_
  | with_reducible refine w_rng1 ?_
  | with_reducible refine w_rng2 ?_
  | with_reducible refine w_iStr ?_
  | with_reducible refine w_iTup ?_
  | with_reducible refine w_iList ?_
  | with_reducible refine w_iEnumT ?_
  | with_reducible refine w_iZip3 ?_
  | with_reducible refine w_iZipA ?_
  | with_reducible refine w_BM ?_
  | with_reducible refine w_gCons ?_
  | with_reducible refine w_gNil ?_
  | ((with_reducible refine' w_gTup ?h ?e ?_); (case h => exact SqT.of upd_same); (case e => rfl))
  | ((with_reducible refine' w_aug ?h ?_); (case h => rfl))
  | with_reducible refine w_ip ?_
  | with_reducible refine w_lc ?_
  | with_reducible refine w_fld ?_
  | with_reducible refine w_chain ?_
  | with_reducible refine w_mt ?_
  | with_reducible refine w_fset ?_
  | with_reducible refine w_dget ?_
  | with_reducible refine w_din ?_
  | with_reducible refine w_dput ?_
  | with_reducible refine w_dnew ?_
  | with_reducible refine w_keys ?_
  | with_reducible refine w_nT ?_
  | with_reducible refine w_nF ?_
  | with_reducible refine w_rowIndex ?_)
local macro_rules | `(tactic| walk_at "s") => `(tactic| repeat (walk_at "s1"))
section
variable {P : Program} {w : World} {K : PySem.W.Frag} {mg : Str → Option Value} {base : Heap} {CP CR CO CB : Addr}
def kindN : Kind → Str
  | .still => "still"
  | .step _ => "step"
  | .turn _ => "turn"
  | .wth _ _ => "with"
  | .drawn => "drawn"
theorem sclaw_expected : FnScope ["_law_shape_here", "_law_place_here", "_law_former", "_law_ahead", "_law_more", "_law_kind_here", "_law_was"] ["_law_shape_here", "_law_place_here", "_law_former", "_law_ahead", "_law_more"] (defScope slaw_expected) := ⟨rfl, rfl, rfl, by decide +kernel, rfl, by decide +kernel, by decide +kernel⟩
def sp_law_expected (K : PySem.W.Frag) : Sp := fun vs H Q _ => ∃ (x y z : V) (fs : List Field) (m p : Nat) (fd : Field) (former ahead : List Int), vs = [x, .int p, y, z, .int 1] ∧ Is K H x (shapeD fs m) ∧ Is K H y (headD former) ∧ Is K H z (headD ahead) ∧
  fs[p]? = some fd ∧ FieldOk p fd ∧ p < former.length ∧ p ≤ ahead.length ∧ ∀ n, 0 ≤ n → n < 2 ^ fd.br → Q (.int n) H
theorem ok_law_expected (T : Txt K mg) (F : Top K mg "_law_expected" slaw_expected)  : Fk P w K mg base CX0 1 "_law_expected" ["_law_shape_here", "_law_place_here", "_law_former", "_law_ahead", "_law_more"] (sp_law_expected K) := by
  refine F.fk (fun _ _ _ _ _ _ us hl => match us, hl with | [_, _, _, _, _], _ => rfl) fun f fd F => F.ok sclaw_expected (fun vs H Q E h => ?_) (fun cdv A outer s H vs Q E hr h => ?_)
  · obtain ⟨x, y, z, fs, m, p, fd, former, ahead, rfl, _⟩ := h
    rfl
  · obtain ⟨x, y, z, fs, m, p, fd, former, ahead, rfl, ix, iy, iz, ef, hf, hpl, ha, q⟩ := h
    have ev : former[p]? = some former[p] := List.getElem?_eq_getElem hpl
    generalize former[p] = v at ev
    have hb : fd.br ≤ 40 := hf.2.1
    have hp2 := two_pow_pos fd.br
    have fin : ∀ σ : L2.St, ∀ n : Int, σ[0]? = some (some x) → σ[1]? = some (some (.int p)) → σ[6]? = some (some (.int n)) →
        tRet (tOp (rI (fun _ j => 0 < j) fun i j => .int (i % j)) (tVar 6) (tOp (rI CPow fun i j => .int (i * 2 ^ j.toNat)) (tC (.int 1)) (tOp (rIx K) (tOp (rIx K) (tOp (rIx K) (tVar 0) (tC (.int 0))) (tVar 1)) (tC (.int 1))))) { nx := fun x H' => Q V.non H', rt := Q } σ H := by
      intro σ n s0 s1 s6
      walk_at "s"
      refine w_var s6 ?_
      walk_at "s"
      refine w_var s0 ?_
      walk_at "s"
      refine w_ixD ix rfl fun v0 i0 => ?_
      refine w_var s1 ?_
      refine w_ixM i0 ef fun v1 i1 => ?_
      walk_at "s"
      refine w_ixDI i1 rfl ?_
      refine w_shl1 (by omega) ?_
      refine w_mod hp2 ?_
      exact q _ (Int.emod_nonneg _ (by omega)) (Int.emod_lt_of_pos _ hp2)
    refine ⟨_, (pss_cons (ps_par (i := 5) (j := 6) (by rfl) sclaw_expected.nd rfl rfl (by decide) rfl rfl (pa_cons (pe_ixK (K := K) (pe_ixK (K := K) (pe_ixK (K := K) (pv 0) pe_int (fun _ _ => rfl)) (pv 1) (fun _ _ => rfl)) pe_int (fun _ _ => rfl)) (pa_cons (pe_ixK (K := K) (pv 2) (pv 1) (fun _ _ => rfl)) pa_nil)) (by rfl)) (pss_cons (ps_if (pt_cmpR (op_eqK (K := K) hr.units) (pe_ixK (K := K) (pv 5) pe_int (fun _ _ => rfl)) pe_str (nomark _)) (pss_one (ps_set (i := 6) sclaw_expected.nd rfl (Or.inl rfl) (pe_op (op_addK (K := K)) (pv 6) (pe_op op_mulA (pe_ixK (K := K) (pv 5) pe_int (fun _ _ => rfl)) (pv 4))))) (pss_one (ps_if (PW.pt (pw_and (pt_cmpR (op_eqK (K := K) hr.units) (pe_ixK (K := K) (pv 5) pe_int (fun _ _ => rfl)) pe_str (nomark _)) (pw_and1 (pt_cmpR (op_inK (K := K) (hu65 hr)) (pv 6) (pe_ixK (K := K) (pv 5) pe_int (fun _ _ => rfl)) (by rfl))))) (pss_one (ps_set (i := 6) sclaw_expected.nd rfl (Or.inl rfl) (pe_ixK (K := K) (pe_ixK (K := K) (pv 5) pe_int (fun _ _ => rfl)) (pe_op op_mod (pe_op (op_addK (K := K)) (pe_rowIndex (pe_ixK (K := K) (pv 5) pe_int (fun _ _ => rfl)) (pv 6)) (pv 4)) (pe_callB (call_lenK (K := K)) (by rfl) T.b_len PySem.boot_len (pa_cons (pe_ixK (K := K) (pv 5) pe_int (fun _ _ => rfl)) pa_nil))) (fun _ _ => rfl)))) (pss_one (ps_if (pt_cmpR (op_eqK (K := K) hr.units) (pe_ixK (K := K) (pv 5) pe_int (fun _ _ => rfl)) pe_str (nomark _)) (pss_one (ps_set (i := 6) sclaw_expected.nd rfl (Or.inl rfl) (pe_op (op_addK (K := K)) (pv 6) (pe_op op_mulA (pe_ixK (K := K) (pv 5) pe_int (fun _ _ => rfl)) (pe_op op_sub (pe_ixK (K := K) (pv 3) (pe_ixK (K := K) (pv 5) pe_int (fun _ _ => rfl)) (fun _ _ => rfl)) (pe_ixK (K := K) (pv 2) (pe_ixK (K := K) (pv 5) pe_int (fun _ _ => rfl)) (fun _ _ => rfl))))))) pss_nil))))) (pss_one (ps_ret (pe_op op_mod (pv 6) (pe_op op_shl pe_int (pe_ixK (K := K) (pe_ixK (K := K) (pe_ixK (K := K) (pv 0) pe_int (fun _ _ => rfl)) (pv 1) (fun _ _ => rfl)) pe_int (fun _ _ => rfl)))))))), ?_⟩
    refine w_seq ?_
    refine w_par ?_
    walk_at "s"
    refine w_ixD ix rfl fun v0 i0 => ?_
    walk_at "s"
    refine w_ixM i0 ef fun v1 i1 => ?_
    walk_at "s"
    refine w_ixD i1 rfl fun v2 j3 => ?_
    walk_at "s"
    refine w_ixMI iy ev ?_
    walk_at "s"
    refine ⟨_, _, rfl, ?_⟩
    walk_at "s"
    obtain ⟨nm, br, kd⟩ := fd
    have hk : KindOk p br kd := hf.2.2
    cases kd with
    | still =>
      refine w_ixDS j3 rfl ?_
      walk_at "s"
      refine w_ifF (by decide +kernel) ?_
      walk_at "s"
      refine w_ixDS j3 rfl ?_
      walk_at "s"
      refine w_ifF (by decide +kernel) ?_
      refine w_F ?_
      walk_at "s"
      refine w_ixDS j3 rfl ?_
      walk_at "s"
      refine w_ifF (by decide +kernel) ?_
      refine w_next ?_
      exact fin _ _ rfl rfl rfl
    | step st =>
      refine w_ixDS j3 rfl ?_
      walk_at "s"
      refine w_ifT (by decide +kernel) ?_
      walk_at "s"
      refine w_ixDI j3 rfl ?_
      walk_at "s"
      refine w_mulR (by decide) ?_
      refine w_addI ?_
      refine w_name ?_
      exact fin _ _ rfl rfl rfl
    | turn row =>
      refine w_ixDS j3 rfl ?_
      walk_at "s"
      refine w_ifF (by decide +kernel) ?_
      walk_at "s"
      refine w_ixDS j3 rfl ?_
      walk_at "s"
      refine w_ifT (by decide +kernel) ?_
      walk_at "s"
      refine w_ixD j3 rfl fun v4 i4 => ?_
      obtain ⟨a0, rfl, r0⟩ := i4.row_eq
      refine w_inI r0.tp ?_
      walk_at "s"
      have hne : row ≠ [] := hk.1
      have hpos : 0 < row.length := List.length_pos_iff.mpr hne
      refine w_if (fun hv => ?_) (fun hv => ?_)
      · refine w_asg ?_
        walk_at "s"
        refine w_ixD j3 rfl fun v4 i4 => ?_
        obtain ⟨a1, rfl, r1⟩ := i4.row_eq
        walk_at "s"
        refine w_ixD j3 rfl fun v4 i4 => ?_
        obtain ⟨a2, rfl, r2⟩ := i4.row_eq
        refine ⟨a2, row, rfl, r2, ?_⟩
        walk_at "s"
        refine ⟨r2, hv, ?_⟩
        walk_at "s"
        refine w_ixD j3 rfl fun v4 i4 => ?_
        obtain ⟨a3, rfl, r3⟩ := i4.row_eq
        walk_at "s"
        refine w_lenT r3.tp ?_
        refine w_mod (by simpa using hpos) ?_
        have e2 : (((row.idxOf v : Nat) : Int) + 1) % (((row.map V.int).length : Nat) : Int) = (((row.idxOf v + 1) % row.length : Nat) : Int) := by
          have e1 : ((row.idxOf v : Nat) : Int) + 1 = ((row.idxOf v + 1 : Nat) : Int) := by omega
          rw [e1, List.length_map]
          omega
        rw [e2]
        have hlt : (row.idxOf v + 1) % row.length < row.length := Nat.mod_lt _ hpos
        refine w_ixT r1.tp (v := .int row[(row.idxOf v + 1) % row.length]) (atI_nat ?_) ?_
        · rw [List.getElem?_map, List.getElem?_eq_getElem hlt]
          rfl
        · refine w_name ?_
          exact fin _ _ rfl rfl rfl
      · walk_at "s"
        refine w_ixDS j3 rfl ?_
        walk_at "s"
        refine w_ifF (by decide +kernel) ?_
        refine w_next ?_
        exact fin _ _ rfl rfl rfl
    | wth g st =>
      have hg : g < p := hk.1
      refine w_ixDS j3 rfl ?_
      walk_at "s"
      refine w_ifF (by decide +kernel) ?_
      walk_at "s"
      refine w_ixDS j3 rfl ?_
      walk_at "s"
      refine w_ifF (by decide +kernel) ?_
      refine w_F ?_
      walk_at "s"
      refine w_ixDS j3 rfl ?_
      walk_at "s"
      refine w_ifT (by decide +kernel) ?_
      refine w_asg ?_
      walk_at "s"
      refine w_ixDI j3 rfl ?_
      walk_at "s"
      refine w_ixDI j3 rfl ?_
      refine w_ixMI iz (List.getElem?_eq_getElem (show g < ahead.length by omega)) ?_
      walk_at "s"
      refine w_ixDI j3 rfl ?_
      refine w_ixMI iy (List.getElem?_eq_getElem (show g < former.length by omega)) ?_
      walk_at "s"
      refine w_mulL (by have := hk.2; omega) ?_
      refine w_addI ?_
      refine w_name ?_
      exact fin _ _ rfl rfl rfl
    | drawn =>
      refine w_ixDS j3 rfl ?_
      walk_at "s"
      refine w_ifF (by decide +kernel) ?_
      walk_at "s"
      refine w_ixDS j3 rfl ?_
      walk_at "s"
      refine w_ifF (by decide +kernel) ?_
      refine w_F ?_
      walk_at "s"
      refine w_ixDS j3 rfl ?_
      walk_at "s"
      refine w_ifF (by decide +kernel) ?_
      refine w_next ?_
      exact fin _ _ rfl rfl rfl
theorem sclaw_next_head : FnScope ["_law_box_here", "_law_shape_here", "_law_former", "_law_calm", "_law_head", "_law_place_here", "_law_field", "_law_value_here"] ["_law_box_here", "_law_shape_here", "_law_former", "_law_calm"] (defScope slaw_next_head) := ⟨rfl, rfl, rfl, by decide +kernel, rfl, by decide +kernel, by decide +kernel⟩
def sp_law_next_head (K : PySem.W.Frag) : Sp := fun vs H Q _ => ∃ (b ow : Addr) (tn : Nat) (x y : V) (fs : List Field) (m : Nat) (former : List Int), vs = [.ref b, x, y, .int 9] ∧ Bx H b ow tn ∧ tn ≤ 2 ^ 56 ∧ ShapeOk fs m ∧ HeadOk fs former ∧ Is K H x (shapeD fs m) ∧ Is K H y (headD former) ∧
  ∀ H' v hd, Chg [b, ow] H H' → Bx H' b ow (tn + 1000) → HeadOk fs hd → Is K H' v (headD hd) → Q v H'
theorem ok_law_next_head (T : Txt K mg) (F : Top K mg "_law_next_head" slaw_next_head) (F_law_next : Fk P w K mg base CX0 1 "_law_next" ["_law_box_here", "_law_many"] (sp_law_next K)) (F_law_of : Fk P w K mg base CX0 2 "_law_of" ["_law_box_here", "_law_some"] (sp_law_of K)) (F_law_expected : Fk P w K mg base CX0 1 "_law_expected" ["_law_shape_here", "_law_place_here", "_law_former", "_law_ahead", "_law_more"] (sp_law_expected K)) : Fk P w K mg base CX0 3 "_law_next_head" ["_law_box_here", "_law_shape_here", "_law_former", "_law_calm"] (sp_law_next_head K) := by
  refine F.fk (fun _ _ _ _ _ _ us hl => match us, hl with | [_, _, _, _], _ => rfl) fun f fd F => F.ok sclaw_next_head (fun vs H Q E h => ?_) (fun cdv A outer s H vs Q E hr h => ?_)
  · obtain ⟨b, ow, tn, x, y, fs, m, former, rfl, _⟩ := h
    rfl
  · obtain ⟨b, ow, tn, x, y, fs, m, former, rfl, hB, hT, hs, hh, ix, iy, q⟩ := h
    have hlen := hh.len
    have hfew := hs.few
    refine ⟨_, (pss_cons (ps_set (i := 4) sclaw_next_head.nd rfl (Or.inl rfl) (pe_tup pa_nil)) (pss_cons (ps_for PassesOwn.never rfl (pi_enumK (K := K) (by rfl) T.b_enumerate (pa_cons (pe_ixK (K := K) (pv 1) pe_int (fun _ _ => rfl)) pa_nil)) (pg_tupK (K := K) (n := 2) rfl (pgs_cons (pg_name (i := 5) sclaw_next_head.nd rfl (Or.inl rfl)) (pgs_cons (pg_name (i := 6) sclaw_next_head.nd rfl (Or.inl rfl)) pgs_nil))) (pss_cons (ps_set (i := 7) sclaw_next_head.nd rfl (Or.inl rfl) (pe_fn F_law_expected hr rfl (pa_cons (pv 1) (pa_cons (pv 5) (pa_cons (pv 2) (pa_cons (pv 4) (pa_cons pe_int pa_nil))))))) (pss_cons (ps_if (pt_cmpR (op_eqK (K := K) hr.units) (pe_fn F_law_next hr rfl (pa_cons (pv 0) (pa_cons (pv 3) pa_nil))) pe_int (nomark _)) (pss_one (ps_set (i := 7) sclaw_next_head.nd rfl (Or.inl rfl) (pe_op op_mod (pe_op (op_addK (K := K)) (pv 7) (pe_fn F_law_of hr rfl (pa_cons (pv 0) (pa_cons (pe_lst (pa_cons pe_int (pa_cons (pe_un un_neg pe_int) (pa_cons pe_int (pa_cons (pe_un un_neg pe_int) (pa_cons (pe_fn F_law_next hr rfl (pa_cons (pv 0) (pa_cons (pe_op op_shl pe_int (pe_ixK (K := K) (pv 6) pe_int (fun _ _ => rfl))) pa_nil))) pa_nil)))))) pa_nil)))) (pe_op op_shl pe_int (pe_ixK (K := K) (pv 6) pe_int (fun _ _ => rfl)))))) pss_nil) (pss_one (ps_set (i := 4) sclaw_next_head.nd rfl (Or.inl rfl) (pe_op (op_addK (K := K)) (pv 4) (pe_tup (pa_cons (pv 7) pa_nil)))))))) (pss_one (ps_ret (pv 4))))), ?_⟩
    walk_at "s"
    refine ⟨by decide, fun p0 hp0 => ?_⟩
    walk_at "s"
    have c0 : Chg [] H (upd H p0 (.tup [])) := Chg.new hp0
    have B0 := hB.new (o := .tup []) hp0
    have i0 : Is K (upd H p0 (.tup [])) (.ref p0) (headD []) := is_new .nil hp0
    generalize upd H p0 (.tup []) = H0 at c0 B0 i0 ⊢
    refine w_ixD (ix.on c0) rfl fun v0 iv => ?_
    obtain ⟨a0, xs, rfl, t0, s0⟩ := iv.tup_eq
    have hxs : xs.length = fs.length := by rw [s0.length, List.length_map]
    walk_at "s"
    refine ⟨_, _, rfl, t0.sq, for_it walk_enumT (fun i σ H' => ∃ hv hd a1 a2 a3, σ = [some (.ref b), some x, some y, some (.int 9), some hv, a1, a2, a3] ∧ Chg [b, ow] H0 H' ∧ Bx H' b ow (tn + 10 * i) ∧ Is K H' hv (headD hd) ∧ hd.length = i ∧ ∀ (j : Nat) (f : Field) (n : Int), fs[j]? = some f → hd[j]? = some n → 0 ≤ n ∧ n < 2 ^ f.br)
      ⟨_, [], none, none, none, by rfl, Chg.refl, B0, i0, rfl, fun j f n _ h => by simp at h⟩ (fun i σ H' _ h => by obtain ⟨_, _, _, _, _, _, c, _⟩ := h; exact (t0.mono c).sq) ?_ ?_⟩
    · rintro i v σ H1 H2 hi ⟨hv, hd, a1, a2, a3, rfl, c1, B1, ih, hdl, hok⟩ ⟨T', x1, x2, rfl, hT', rfl, e1, e2⟩
      cases e1
      have e2 : xs[i]? = some x2 := e2
      obtain ⟨fd, ef, i1⟩ := getMap s0 e2
      have hf := hs.ok i fd ef
      have hbr := hf.2.1
      have c2 : Chg [b, ow] H0 (upd H1 T' (.tup [.int (i : Int), x2])) := c1.trans (Chg.new hT')
      have B2 := B1.new (o := .tup [.int (i : Int), x2]) hT'
      have ih2 := ih.on (Chg.new (l := []) (o := .tup [.int (i : Int), x2]) hT')
      walk_at "s"
      generalize upd H1 T' (.tup [.int (i : Int), x2]) = H2 at c2 B2 ih2 ⊢
      have c02 := c0.nil.trans c2
      refine ⟨_, _, _, fs, m, i, fd, former, hd, rfl, ix.on c02, iy.on c02, ih2, ef, hf, by omega, by omega, fun n hn0 hn1 => ?_⟩
      walk_at "s"
      refine ⟨b, ow, _, _, rfl, B2, by omega, by decide, by decide, fun H3 d c3 B3 _ _ => ?_⟩
      walk_at "s"
      have hp2 := two_pow_pos fd.br
      suffices hrest : ∀ n' : Int, ∀ H4 : Hp, (Chg [b, ow] H2 H4 ∧ Bx H4 b ow (tn + 10 * i + 4) ∧ 0 ≤ n' ∧ n' < 2 ^ fd.br) → _ by
        refine w_if (fun h => ?_) (fun h => ?_)
        · walk_at "s"
          refine w_ixDI (i1.on (c2.trans c3)) rfl ?_
          refine w_shl1 (by omega) ?_
          walk_at "s"
          refine ⟨b, ow, _, _, rfl, B3, by omega, one_le_pow _, pow_le_60 (by omega), fun H4 d4 c4 B4 _ _ => ?_⟩
          walk_at "s"
          refine ⟨sz1000 (by simp), fun a ha => ?_⟩
          refine ⟨b, ow, _, a, ([1, -1, 3, -7, d4] : List Int).map V.int, rfl, B4.new ha, by omega, upd_same, B4.ne_ow ha, by simp, by simp, fun H5 v5 c5 B5 hv5 => ?_⟩
          obtain ⟨s5, _, rfl⟩ := List.mem_map.mp hv5
          walk_at "s"
          have c35 : Chg [b, ow] H2 H5 := ((c3.trans c4).trans (Chg.new ha)).trans c5
          refine w_ixDI (i1.on (c2.trans c35)) rfl ?_
          refine w_shl1 (by omega) ?_
          refine w_mod hp2 ?_
          refine w_name ?_
          generalize hnn : (n + s5) % 2 ^ fd.br = nn
          have hnn0 : 0 ≤ nn := by rw [← hnn]; exact Int.emod_nonneg _ (by omega)
          have hnn1 : nn < 2 ^ fd.br := by rw [← hnn]; exact Int.emod_lt_of_pos _ hp2
          exact hrest nn H5 ⟨c35, B5.le (by omega), hnn0, hnn1⟩
        · refine w_next ?_
          exact hrest n H3 ⟨c3, B3.le (by omega), hn0, hn1⟩
      rintro n' H4 ⟨c4, B4, hn0, hn1⟩
      walk_at "s"
      refine ⟨sz1000 (by simp), fun p1 hp1 => ?_⟩
      refine w_catOne (ih2.on c4) hp1 (by omega) fun H5 v5 c5 i5 => ?_
      walk_at "s"
      refine ⟨_, hd ++ [n'], _, _, _, rfl, (c2.trans c4).trans c5.nil, (B4.calm c5).le (by omega), i5, by simp [hdl], fun j f k hj hk => ?_⟩
      by_cases hj2 : j < hd.length
      · rw [List.getElem?_append_left hj2] at hk
        exact hok j f k hj hk
      · have hj3 : j = hd.length := by
          have := (List.getElem?_eq_some_iff.mp hk).1
          simp at this
          omega
        subst hj3
        rw [List.getElem?_append_right (Nat.le_refl _)] at hk
        simp at hk
        subst hk
        rw [hdl, ef] at hj
        cases hj
        exact ⟨hn0, hn1⟩
    · rintro σ H1 ⟨hv, hd, a1, a2, a3, rfl, c1, B1, ih, hdl, hok⟩
      walk_at "s"
      exact q _ _ hd (c0.nil.trans c1) (B1.le (by omega)) ⟨by omega, hok⟩ ih
theorem sclaw_width : FnScope ["_law_many", "_law_width_here"] ["_law_many"] (defScope slaw_width) := ⟨rfl, rfl, rfl, by decide +kernel, rfl, by decide +kernel, by decide +kernel⟩
def sp_law_width (_ : PySem.W.Frag) : Sp := fun vs H Q _ => ∃ m : Nat, vs = [.int m] ∧ m ≤ 2 ^ 1000 ∧ Q (.int (wfor m)) H
theorem ok_law_width (T : Txt K mg) (F : Top K mg "_law_width" slaw_width)  : Fk P w K mg base CX0 1 "_law_width" ["_law_many"] (sp_law_width K) := by
  refine F.fk (fun _ _ _ _ _ _ us hl => match us, hl with | [_], _ => rfl) fun f fd F => F.ok sclaw_width (fun vs H Q E h => ?_) (fun cdv A outer s H vs Q E hr h => ?_)
  · obtain ⟨m, rfl, _⟩ := h
    rfl
  · obtain ⟨m, rfl, hm, q⟩ := h
    refine ⟨_, (pss_cons (ps_set (i := 1) sclaw_width.nd rfl (Or.inl rfl) pe_int) (pss_cons (ps_while PassesOwn.never (pt_cmpR op_lt (pe_op op_shl pe_int (pv 1)) (pv 0) (nomark _)) (pss_one (ps_set (i := 1) sclaw_width.nd rfl (Or.inl rfl) (pe_op (op_addK (K := K)) (pv 1) pe_int)))) (pss_one (ps_ret (pv 1))))), ?_⟩
    walk_at "s"
    refine ⟨fun n σ H' => ∃ j : Nat, σ = [some (.int m), some (.int j)] ∧ j + n = wfor m ∧ H' = H, ⟨wfor m, 0, rfl, by omega, rfl⟩, ?_⟩
    rintro n σ H1 ⟨j, rfl, hj, rfl⟩
    have hw : wfor m ≤ 1000 := wfor_le hm
    walk_at "s"
    refine w_shl1 (by omega) ?_
    walk_at "s"
    have h2 : ((2 : Int) ^ j) = ((2 ^ j : Nat) : Int) := by simp
    refine w_if (fun h => ?_) (fun h => ?_)
    · have hlt : 0 < n := by
        by_cases q : 0 < n
        · exact q
        · have e : j = wfor m := by omega
          have := wfor_ge m
          rw [← e] at this
          rw [h2] at h
          omega
      refine ⟨fun σ H' => σ = [some (.int m), some (.int ((j + 1 : Nat) : Int))] ∧ H' = H1, ?_, ?_⟩
      · rintro σ H' ⟨rfl, rfl⟩
        exact ⟨n - 1, by omega, j + 1, rfl, by omega, rfl⟩
      · walk_at "s"
        exact ⟨rfl, rfl⟩
    · have e : j = wfor m := by
        rw [h2] at h
        have h3 : m ≤ 2 ^ j := by omega
        have := wfor_le h3
        omega
      walk_at "s"
      rw [e]
      exact q
end
end Sh
namespace Sh
open PySem L2 PySem.Spec PyProof.Rows
local macro_rules | `(tactic| walk_at "s1") => `(tactic| first
  | with_reducible refine w_seq ?_
  | with_reducible refine w_asg ?_
  | with_reducible refine w_name ?_
  | with_reducible refine w_ret ?_
  | with_reducible refine w_retN ?_
  | with_reducible refine w_drop ?_
  | with_reducible refine w_next ?_
  | with_reducible refine w_ifS ?_
  | ((with_reducible refine' w_var ?h ?_); (case h => rfl))
  | with_reducible refine w_c ?_
  | with_reducible refine w_op ?_
  | with_reducible refine w_un ?_
  | with_reducible refine w_sl ?_
  | with_reducible refine w_nopart ?_
  | with_reducible refine w_part ?_
  | with_reducible refine w_exint ?_
  | with_reducible refine w_exbl ?_
  | with_reducible refine w_exbl' ?_
  | with_reducible refine w_exint' ?_
  | with_reducible refine w_nn ?_
  | with_reducible refine w_test ?_
  | with_reducible refine w_B ?_
  | with_reducible refine w_and ?_
  | with_reducible refine w_or ?_
  | with_reducible refine w_not ?_
  | with_reducible refine w_andV ?_
  | with_reducible refine w_orV ?_
  | with_reducible refine w_notV ?_
  | with_reducible refine w_ifE ?_
  | with_reducible refine w_nil ?_
  | with_reducible refine w_cons ?_
  | with_reducible refine w_tup ?_
  | with_reducible refine w_lst ?_
  | with_reducible refine w_CB ?_
  | with_reducible refine w_fn ?_
  | with_reducible refine w_T ?_
  | with_reducible refine w_F ?_
  | with_reducible refine w_I0 ?_
  | with_reducible refine w_U ?_
  | with_reducible refine w_addI ?_
  | with_reducible refine w_eqI ?_
  | with_reducible refine w_neI ?_
  | with_reducible refine w_eqS ?_
  | with_reducible refine w_neS ?_
  | with_reducible refine w_for ?_
  | with_reducible refine w_rng1 ?_
  | with_reducible refine w_rng2 ?_
  | with_reducible refine w_iStr ?_
  | with_reducible refine w_iTup ?_
  | with_reducible refine w_iList ?_
  | with_reducible refine w_iEnumT ?_
  | with_reducible refine w_iZip3 ?_
  | with_reducible refine w_iZipA ?_
  | with_reducible refine w_BM ?_
  | with_reducible refine w_gCons ?_
  | with_reducible refine w_gNil ?_
  | ((with_reducible refine' w_gTup ?h ?e ?_); (case h => exact SqT.of upd_same); (case e => rfl))
  | ((with_reducible refine' w_aug ?h ?_); (case h => rfl))
  | with_reducible refine w_ip ?_
  | with_reducible refine w_lc ?_
  | with_reducible refine w_fld ?_
  | with_reducible refine w_chain ?_
  | with_reducible refine w_mt ?_
  | with_reducible refine w_fset ?_
  | with_reducible refine w_dget ?_
  | with_reducible refine w_din ?_
  | with_reducible refine w_dput ?_
  | with_reducible refine w_dnew ?_
  | with_reducible refine w_keys ?_
  | with_reducible refine w_nT ?_
  | with_reducible refine w_nF ?_
  | with_reducible refine w_rowIndex ?_)
local macro_rules | `(tactic| walk_at "s") => `(tactic| repeat (walk_at "s1"))
section
variable {P : Program} {w : World} {K : PySem.W.Frag} {mg : Str → Option Value} {base : Heap} {CP CR CO CB : Addr}
theorem Iss.drop {H : Hp} : ∀ {xs : List V} {ds : List PyData} (k : Nat), Iss K H xs ds → Iss K H (xs.drop k) (ds.drop k)
  | _, _, 0, h => h
  | [], _, k + 1, h => by cases h; exact .nil
  | x :: xs, _, k + 1, h => by cases h with | cons h1 h2 => exact Iss.drop k h2
theorem Iss.take {H : Hp} : ∀ {xs : List V} {ds : List PyData} (k : Nat), Iss K H xs ds → Iss K H (xs.take k) (ds.take k)
  | _, _, 0, h => .nil
  | [], _, k + 1, h => by cases h; exact .nil
  | x :: xs, _, k + 1, h => by cases h with | cons h1 h2 => exact .cons h1 (Iss.take k h2)
theorem Iss.cut {α : Type} {g : α → PyData} {H : Hp} {xs : List V} {l : List α} (h : Iss K H xs (l.map g)) (i j : Nat) : Iss K H ((xs.drop i).take j) (((l.drop i).take j).map g) := by
  have := (h.drop i).take j
  rw [← List.map_drop, ← List.map_take] at this
  exact this
/-- a slice of a tuple -/
theorem w_slT {H : Hp} {Q : VK} {a : Addr} {xs : List V} {lo hi : Option Int} (t : Tp K H a xs) (q : ∀ H' a' i j, Chg [] H H' → Tp K H' a' ((xs.drop i).take j) → Q (.ref a') H') : rSlAA K (.ref a) lo hi H Q := by
  refine .inr (.inl ⟨a, xs, rfl, t.sq, fun _ => ?_, fun _ p hp => ?_⟩)
  · refine q H a 0 xs.length Chg.refl ?_
    rw [List.drop_zero, List.take_length]
    exact t
  · exact q _ p _ _ (Chg.new hp) (SqT.of upd_same)
def kindR : Kind → List PyData
  | .still => []
  | .step s => [.int s]
  | .turn row => [.list (row.map PyData.int)]
  | .wth f s => [.int f, .int s]
  | .drawn => []
theorem kindD_eq (k : Kind) : kindD k = .tuple (.str (kindN k) :: kindR k) := by cases k <;> rfl
theorem formOk_way {b : Nat} : WayOk b .keep := trivial
theorem sclaw_fit_way : FnScope ["_law_box_here", "_law_field", "_law_width_here"] ["_law_box_here", "_law_field"] (defScope slaw_fit_way) := ⟨rfl, rfl, rfl, by decide +kernel, rfl, by decide +kernel, by decide +kernel⟩
def sp_law_fit_way (K : PySem.W.Frag) : Sp := fun vs H Q _ => ∃ (b ow : Addr) (tn : Nat) (x : V) (fd : Field), vs = [.ref b, x] ∧ Bx H b ow tn ∧ tn ≤ 2 ^ 56 ∧ 1 ≤ fd.br ∧ fd.br ≤ 40 ∧ Is K H x (fieldD fd) ∧ ∀ H' v wy, Chg [b, ow] H H' → Bx H' b ow (tn + 10) → WayOk fd.br wy → Is K H' v (wayD wy) → Q v H'
theorem ok_law_fit_way (T : Txt K mg) (F : Top K mg "_law_fit_way" slaw_fit_way) (F_law_of : Fk P w K mg base CX0 2 "_law_of" ["_law_box_here", "_law_some"] (sp_law_of K)) (F_law_next : Fk P w K mg base CX0 1 "_law_next" ["_law_box_here", "_law_many"] (sp_law_next K)) : Fk P w K mg base CX0 3 "_law_fit_way" ["_law_box_here", "_law_field"] (sp_law_fit_way K) := by
  refine F.fk (fun _ _ _ _ _ _ us hl => match us, hl with | [_, _], _ => rfl) fun f fd F => F.ok sclaw_fit_way (fun vs H Q E h => ?_) (fun cdv A outer s H vs Q E hr h => ?_)
  · obtain ⟨b, ow, tn, x, fd, rfl, _⟩ := h
    rfl
  · obtain ⟨b, ow, tn, x, fd, rfl, hB, hT, hb1, hb2, ix, q⟩ := h
    refine ⟨_, (pss_cons (ps_if (pt_cmpR (op_eqK (K := K) hr.units) (pe_ixK (K := K) (pe_ixK (K := K) (pv 1) pe_int (fun _ _ => rfl)) pe_int (fun _ _ => rfl)) pe_str (nomark _)) (pss_one (ps_ret (pe_tup (pa_cons pe_str pa_nil)))) pss_nil) (pss_cons (ps_set (i := 2) sclaw_fit_way.nd rfl (Or.inl rfl) (pe_callB (call_min2 rfl) (by rfl) T.b_min (by decide +kernel) (pa_cons (pe_ixK (K := K) (pv 1) pe_int (fun _ _ => rfl)) (pa_cons (pe_op (op_addK (K := K)) pe_int (pe_fn F_law_next hr rfl (pa_cons (pv 0) (pa_cons pe_int pa_nil)))) pa_nil)))) (pss_one (ps_ret (pe_fn F_law_of hr rfl (pa_cons (pv 0) (pa_cons (pe_lst (pa_cons (pe_tup (pa_cons pe_str pa_nil)) (pa_cons (pe_tup (pa_cons pe_str pa_nil)) (pa_cons (pe_tup (pa_cons pe_str (pa_cons (pv 2) (pa_cons (pe_op op_fdivW (pe_op op_shl pe_int (pv 2)) pe_int) pa_nil)))) pa_nil)))) pa_nil))))))), ?_⟩
    walk_at "s"
    refine w_ixD ix rfl fun v0 j3 => ?_
    walk_at "s"
    rw [kindD_eq] at j3
    refine w_ixD j3 (d := .str (kindN fd.kind)) (atI_nat (j := 0) rfl) fun v1 i1 => ?_
    obtain rfl := i1.str_eq
    walk_at "s"
    refine w_if (fun h => ?_) (fun h => ?_)
    · walk_at "s"
      refine ⟨sz1000 (by simp), fun p hp => ?_⟩
      exact q _ _ .whole (Chg.new hp) ((hB.new hp).le (by omega)) trivial (is_new (Iss.one (.str _)) hp)
    · walk_at "s"
      refine w_ixDI ix rfl ?_
      walk_at "s"
      refine ⟨b, ow, tn, _, rfl, hB, by omega, by decide, by decide, fun H1 d c1 B1 hd0 hd1 => ?_⟩
      walk_at "s"
      refine ⟨_, _, rfl, ?_⟩
      obtain ⟨wd, hwd, hw1, hw2⟩ : ∃ wd : Nat, (if (1 : Int) + d < (fd.br : Int) then 1 + d else (fd.br : Int)) = wd ∧ 1 ≤ wd ∧ wd ≤ fd.br := by
        obtain ⟨d, rfl⟩ := nat_of hd0
        split
        · exact ⟨1 + d, by omega, by omega, by omega⟩
        · exact ⟨fd.br, rfl, hb1, Nat.le_refl _⟩
      rw [hwd]
      walk_at "s"
      refine ⟨sz1000 (by simp), fun p1 hp1 => ?_⟩
      have B2 := B1.new (o := .tup [.str "keep"]) hp1
      have k1 : Is K (upd H1 p1 (.tup [.str "keep"])) (.ref p1) (wayD .keep) := is_new (Iss.one (.str _)) hp1
      have cc1 : Chg [] H1 (upd H1 p1 (.tup [.str "keep"])) := Chg.new hp1
      generalize upd H1 p1 (.tup [.str "keep"]) = H2 at B2 k1 cc1 ⊢
      walk_at "s"
      refine ⟨sz1000 (by simp), fun p2 hp2 => ?_⟩
      have B3 := B2.new (o := .tup [.str "keep"]) hp2
      have k2 : Is K (upd H2 p2 (.tup [.str "keep"])) (.ref p2) (wayD .keep) := is_new (Iss.one (.str _)) hp2
      have cc2 : Chg [] H2 (upd H2 p2 (.tup [.str "keep"])) := Chg.new hp2
      generalize upd H2 p2 (.tup [.str "keep"]) = H3 at B3 k2 cc2 ⊢
      walk_at "s"
      refine w_shl1 (by omega) ?_
      walk_at "s"
      refine w_I (wide_div (b := 100) (by decide) (by decide) (by decide) (by decide)) ?_
      walk_at "s"
      refine ⟨sz1000 (by simp), fun p3 hp3 => ?_⟩
      obtain ⟨hf, hhf⟩ := nat_of (show 0 ≤ (2 : Int) ^ wd / 2 by have := two_pow_pos wd; omega)
      have hhf2 : (hf : Int) < 2 ^ wd := by have := two_pow_pos wd; omega
      rw [hhf]
      have B4 := B3.new (o := .tup [.str "low", .int wd, .int hf]) hp3
      have k3 : Is K (upd H3 p3 (.tup [.str "low", .int wd, .int hf])) (.ref p3) (wayD (.low wd hf)) := is_new (.cons (.str _) (.cons (.int _) (Iss.one (.int _)))) hp3
      have cc3 : Chg [] H3 (upd H3 p3 (.tup [.str "low", .int wd, .int hf])) := Chg.new hp3
      generalize upd H3 p3 (.tup [.str "low", .int wd, .int hf]) = H4 at B4 k3 cc3 ⊢
      walk_at "s"
      refine ⟨sz1000 (by simp), fun a ha => ?_⟩
      refine ⟨b, ow, _, a, _, rfl, B4.new ha, by omega, upd_same, B4.ne_ow ha, by simp, by simp, fun H5 v c5 B5 hv => ?_⟩
      have c45 : Chg [b, ow] H4 H5 := (Chg.new ha).trans c5
      have call : Chg [b, ow] H H5 := c1.trans (((cc1.trans cc2).trans cc3).nil.trans c45)
      simp only [List.mem_cons, List.not_mem_nil, or_false] at hv
      rcases hv with rfl | rfl | rfl
      · exact q _ _ .keep call (B5.le (by omega)) trivial (((k1.on cc2).on cc3).on c45)
      · exact q _ _ .keep call (B5.le (by omega)) trivial ((k2.on cc3).on c45)
      · exact q _ _ (.low wd hf) call (B5.le (by omega)) ⟨hw1, hw2, by omega, hhf2⟩ (k3.on c45)
theorem sclaw_road_pact : FnScope ["_law_box_here", "_law_many", "_law_shape_here", "_law_wide", "_law_forms", "_law_road_here", "_law_some", "_law_reach", "_law_count", "_law_ways", "_law_field"] ["_law_box_here", "_law_many"] (defScope slaw_road_pact) := ⟨rfl, rfl, rfl, by decide +kernel, rfl, by decide +kernel, by decide +kernel⟩
def sp_law_road_pact (K : PySem.W.Frag) : Sp := fun vs H Q _ => ∃ (b ow : Addr) (tn : Nat), vs = [.ref b, .int 4] ∧ Bx H b ow tn ∧ tn ≤ 2 ^ 54 ∧ ∀ H' v p, Chg [b, ow] H H' → Bx H' b ow (tn + 1000000) → PactOk p → Is K H' v (pactD p) → Q v H'
theorem ok_law_road_pact (T : Txt K mg) (F : Top K mg "_law_road_pact" slaw_road_pact) (F_law_of : Fk P w K mg base CX0 2 "_law_of" ["_law_box_here", "_law_some"] (sp_law_of K)) (F_law_next : Fk P w K mg base CX0 1 "_law_next" ["_law_box_here", "_law_many"] (sp_law_next K)) (F_law_fit_way : Fk P w K mg base CX0 3 "_law_fit_way" ["_law_box_here", "_law_field"] (sp_law_fit_way K)) (F_law_pact : Fk P w K mg base CX0 5 "_law_pact" ["_law_box_here", "_law_most"] (sp_law_pact K)) : Fk P w K mg base CX0 6 "_law_road_pact" ["_law_box_here", "_law_many"] (sp_law_road_pact K) := by
  refine F.fk (fun _ _ _ _ _ _ us hl => match us, hl with | [_, _], _ => rfl) fun f fd F => F.ok sclaw_road_pact (fun vs H Q E h => ?_) (fun cdv A outer s H vs Q E hr h => ?_)
  · obtain ⟨b, ow, tn, rfl, _⟩ := h
    rfl
  · obtain ⟨b, ow, tn, rfl, hB, hT, q⟩ := h
    refine ⟨_, (pss_cons (ps_asg (pe_fn F_law_pact hr rfl (pa_cons (pv 0) (pa_cons pe_int pa_nil))) (pg_tupK (K := K) (n := 4) rfl (pgs_cons (pg_name (i := 2) sclaw_road_pact.nd rfl (Or.inl rfl)) (pgs_cons (pg_name (i := 3) sclaw_road_pact.nd rfl (Or.inl rfl)) (pgs_cons (pg_name (i := 4) sclaw_road_pact.nd rfl (Or.inl rfl)) (pgs_cons (pg_name (i := 5) sclaw_road_pact.nd rfl (Or.inl rfl)) pgs_nil)))))) (pss_cons (ps_set (i := 6) sclaw_road_pact.nd rfl (Or.inl rfl) (pe_lst pa_nil)) (pss_cons (ps_for PassesOwn.never rfl (pi_tupK (K := K) (pe_slK (K := K) (pv 4) po_none (po_some (pv 1)))) (pg_tupK (K := K) (n := 3) rfl (pgs_cons (pg_name (i := 7) sclaw_road_pact.nd rfl (Or.inl rfl)) (pgs_cons (pg_name (i := 8) sclaw_road_pact.nd rfl (Or.inl rfl)) (pgs_cons (pg_name (i := 9) sclaw_road_pact.nd rfl (Or.inl rfl)) pgs_nil)))) (pss_cons (ps_if (pt_cmpR op_gt (pe_fn F_law_next hr rfl (pa_cons (pv 0) (pa_cons pe_int pa_nil))) pe_int (nomark _)) (pss_one (ps_set (i := 9) sclaw_road_pact.nd rfl (Or.inl rfl) (pe_callTy (call_tupleK (K := K)) (by rfl) T.b_tuple (by decide +kernel) (pa_cons (pe_lc (own := [("_law_field", 10)]) rfl sclaw_road_pact.nd (pi_tupK (K := K) (pe_ixK (K := K) (pv 2) pe_int (fun _ _ => rfl))) (blkOk_by (own := [("_law_field", 10)]) (N := ["_law_box_here", "_law_many", "_law_shape_here", "_law_wide", "_law_forms", "_law_road_here", "_law_some", "_law_reach", "_law_count", "_law_ways", "_law_field"]) (sc := defScope slaw_road_pact) (by decide +kernel)) (fun _ _ _ _ _ => (pg_name (i := 10) sclaw_road_pact.nd rfl (Or.inl rfl))) (fun _ _ _ _ _ => pts_nil) (fun _ _ _ _ _ => (pe_fn F_law_fit_way hr rfl (pa_cons (pv 0) (pa_cons (pv 10) pa_nil))))) pa_nil)))) pss_nil) (pss_one (ps_expr (pe_bmK (K := K) PySem.F.plainAttrs_list PySem.F.slot_list_append PySem.F.type_list_append mt_append (pv 6) (pa_cons (pe_tup (pa_cons (pv 7) (pa_cons (pe_callB (call_min2 rfl) (by rfl) T.b_min (by decide +kernel) (pa_cons pe_int (pa_cons (pe_op (op_addK (K := K)) (pv 8) (pe_fn F_law_of hr rfl (pa_cons (pv 0) (pa_cons (pe_lst (pa_cons pe_int (pa_cons pe_int (pa_cons pe_int pa_nil)))) pa_nil)))) pa_nil))) (pa_cons (pv 9) pa_nil)))) pa_nil)))))) (pss_one (ps_ret (pe_tup (pa_cons (pv 2) (pa_cons (pv 3) (pa_cons (pe_callTy (call_tupleK (K := K)) (by rfl) T.b_tuple (by decide +kernel) (pa_cons (pv 6) pa_nil)) (pa_cons (pv 5) pa_nil)))))))))), ?_⟩
    walk_at "s"
    refine ⟨b, ow, tn, 3, rfl, hB, by omega, by decide, by decide, fun H1 v p c1 B1 hp iv => ?_⟩
    obtain ⟨a1, xs1, rfl, t1, s1⟩ := iv.tup_eq
    obtain ⟨u1, u2, u3, u4, rfl, j1, j2, j3, j4⟩ := s1.four
    obtain rfl := j2.int_eq
    refine w_gTup t1 rfl ?_
    walk_at "s"
    refine ⟨Nat.zero_le _, fun D hD => ?_⟩
    have hDb := B1.ne_b hD
    have hDo := B1.ne_ow hD
    have hD0 : H D = none := c1.free hD (by simp [hDb, hDo])
    obtain ⟨a3, xs3, rfl, t3, s3⟩ := j3.tup_eq
    have cD : Chg [] H1 (upd H1 D (.lst [])) := Chg.new hD
    have hL0 : upd H1 D (.lst []) D = some (.lst []) := upd_same
    have B1' := B1.new (o := .lst []) hD
    have c1' : Chg [b, ow] H (upd H1 D (.lst [])) := c1.trans cD.nil
    walk_at "s"
    generalize upd H1 D (.lst []) = H2 at cD hL0 B1' c1' ⊢
    refine w_slT (t3.mono cD) fun H3 a' i0 j0 c3 t' => ?_
    have s3' := ((s3.on cD).on c3).cut i0 j0
    generalize hys : (xs3.drop i0).take j0 = ys at t' s3'
    generalize hfo : (p.forms.drop i0).take j0 = forms at s3'
    have hforms : ∀ (j : Nat) (f : Form), forms[j]? = some f → FormOk p.fs f := by
      intro j f hj
      have hm : f ∈ p.forms := by
        rw [← hfo] at hj
        exact List.mem_of_mem_drop (List.mem_of_mem_take (List.mem_of_getElem? hj))
      obtain ⟨k, hk⟩ := List.getElem?_of_mem hm
      exact hp.forms k f hk
    have hfl : forms.length ≤ 12 := by
      have := hp.few
      rw [← hfo, List.length_take, List.length_drop]
      omega
    have hyl : ys.length = forms.length := by rw [s3'.length, List.length_map]
    have c13 := c1'.trans c3.nil
    have jx := (j1.on cD).on c3
    have jr := (j4.on cD).on c3
    have B3 := B1'.calm c3
    refine ⟨_, rfl, ⟨_, t'.sq⟩, ?_⟩
    refine for_it (walk_tup (xs := ys)) (fun i σ H' => ∃ z1 z2 z3 z4, σ = [some (.ref b), some (.int 4), some u1, some (.int p.wide), some (.ref a3), some u4, some (.ref D), z1, z2, z3, z4] ∧ Chg [b, ow] H H' ∧ Chg [b, ow, D] H3 H' ∧ Bx H' b ow (tn + 100000 + 1000 * i) ∧ ∃ zs fo, H' D = some (.lst zs) ∧ Iss K H' zs (fo.map formD) ∧ fo.length = i ∧ ∀ (j : Nat) (f : Form), fo[j]? = some f → FormOk p.fs f)
      ⟨none, none, none, none, by rfl, c13, Chg.refl, B3, [], [], c3.keep _ _ hL0 (by simp), .nil, rfl, fun j f h => by simp at h⟩ (fun i σ H' _ h => by obtain ⟨_, _, _, _, _, _, c, _⟩ := h; exact (t'.mono c).sq) ?_ ?_
    · rintro i v σ H4 H5 hi ⟨z1, z2, z3, z4, rfl, c4, c34, B4, zs, fo, hL, hs, hle, hok⟩ ⟨rfl, e1⟩
      obtain ⟨f, ef, i1⟩ := getMap s3' e1
      have hf := hforms i f ef
      obtain ⟨af, xf, rfl, tf, sf⟩ := i1.tup_eq
      obtain ⟨y1, y2, y3, rfl, k1, k2, k3⟩ := sf.three
      obtain rfl := k1.int_eq
      obtain rfl := k2.int_eq
      refine w_gTup (tf.mono c34) rfl ?_
      walk_at "s"
      refine ⟨b, ow, _, _, rfl, B4, by omega, by decide, by decide, fun H6 d c6 B6 _ _ => ?_⟩
      walk_at "s"
      suffices hrest : ∀ (wv : V) (H7 : Hp), ((∃ ways : List Way, Is K H7 wv (.tuple (ways.map wayD)) ∧ FormOk p.fs ⟨f.reach, f.count, ways⟩) ∧ (∃ z4', z4' = z4 ∧ Chg [b, ow] H5 H7 ∧ Bx H7 b ow (tn + 100000 + 1000 * i + 200))) → _ by
        refine w_if (fun h => ?_) (fun h => ?_)
        · walk_at "s"
          refine w_ixD ((jx.on c34).on c6) rfl fun v0 i0 => ?_
          obtain ⟨a0, xs, rfl, t0, s0⟩ := i0.tup_eq
          have hxs : xs.length = p.fs.length := by rw [s0.length, List.length_map]
          have hfew := hp.shape.few
          refine ⟨_, rfl, ⟨_, t0.sq⟩, fun D2 hD2 => ?_⟩
          refine lc_data (K := K) (walk_tup (xs := xs)) [b, ow] hD2 (by simp [B6.ne_b hD2, B6.ne_ow hD2]) (by omega) (fun i' H => Bx H b ow (tn + 100000 + 1000 * i + 1 + 10 * i')) (fun i e => ∃ wy, e = wayD wy ∧ ∃ fd : Field, p.fs[i]? = some fd ∧ WayOk fd.br wy) B6 (fun i H o h => h.upd (B6.ne_b hD2) (B6.ne_ow hD2)) (fun H1 c1 => (t0.mono c1).sq) (fun i' x H7 H8 Q' hi c7 B7 hY hQ => ?_) fun H7 ys' es c7 B7 hL7 hsy hle7 hok7 => ?_
          · obtain ⟨rfl, e1⟩ := hY
            obtain ⟨fd, ef2, i2⟩ := getMap s0 e1
            have hfd := hp.shape.ok i' fd ef2
            walk_at "s"
            refine ⟨rfl, ?_⟩
            walk_at "s"
            exact ⟨b, ow, _, x, fd, rfl, B7, by omega, hfd.1, hfd.2.1, i2.on c7, fun H9 v9 wy c9 B9 hw iw => hQ _ _ (wayD wy) c9 (B9.le (by omega)) iw ⟨wy, rfl, fd, ef2, hw⟩⟩
          · obtain ⟨ways, rfl, hways⟩ := collect es _ hok7
            walk_at "s"
            refine ⟨D2, _, rfl, SqL.of hL7, fun r o hr _ _ => ?_⟩
            have B8 := B7.new (o := .frz o (.tup ys')) hr
            have ir := is_tupOf (o := o) hsy hr
            have c8 : Chg [b, ow] H6 (upd H7 r (.frz o (.tup ys'))) := c7.trans (Chg.new hr)
            generalize upd H7 r (.frz o (.tup ys')) = H8 at B8 ir c8 ⊢
            generalize V.ref r = wv at ir ⊢
            refine w_name ?_
            exact hrest wv H8 ⟨⟨ways, ir, ⟨hf.r1, hf.r2, hf.c1, hf.c2, by simpa [hxs] using hle7, fun i f wy ef ew => by
              obtain ⟨f', e1, e2⟩ := hways i wy ew
              rw [ef] at e1
              cases e1
              exact e2⟩⟩, z4, rfl, c6.trans c8, B8.le (by omega)⟩
        · refine w_next ?_
          exact hrest y3 H6 ⟨⟨f.ways, (k3.on c34).on c6, hf⟩, z4, rfl, c6, B6.le (by omega)⟩
      rintro wv H7 ⟨⟨ways, iw, hfw⟩, _, _, c7, B7⟩
      have hL7 := c7.keep _ _ hL (by simp [hDb, hDo])
      walk_at "s"
      refine ⟨.inl ⟨rfl, _, SqL.of hL7⟩, ?_⟩
      walk_at "s"
      refine ⟨sz1000 (by simp), fun a ha => ?_⟩
      refine ⟨b, ow, _, a, _, rfl, B7.new ha, by omega, upd_same, B7.ne_ow ha, by simp, by simp, fun H8 v8 c8 B8 hv8 => ?_⟩
      obtain ⟨n8, hn8, rfl⟩ := mem_ints (l := [0, 2, 4]) hv8
      have c78 : Chg [b, ow] H7 H8 := (Chg.new ha).trans c8
      walk_at "s"
      refine ⟨_, _, rfl, ?_⟩
      obtain ⟨co, hco, hc1, hc2⟩ : ∃ co : Nat, (if (f.count : Int) + (n8 : Int) < 40 then (f.count : Int) + (n8 : Int) else 40) = co ∧ 1 ≤ co ∧ co ≤ 40 := by
        have := hf.c1
        split
        · exact ⟨f.count + n8, by omega, by omega, by omega⟩
        · exact ⟨40, rfl, by decide, by decide⟩
      rw [hco]
      walk_at "s"
      refine ⟨sz1000 (by simp), fun u hu => ?_⟩
      have hL8 := c78.keep _ _ hL7 (by simp [hDb, hDo])
      have hDu : D ≠ u := ne_of_none hL8 hu
      have cu : Chg [] H8 (upd H8 u (.tup [.int f.reach, .int co, wv])) := Chg.new hu
      have hL9 := cu.keep _ _ hL8 (by simp)
      have iu : Is K (upd H8 u (.tup [.int f.reach, .int co, wv])) (.ref u) (formD ⟨f.reach, co, ways⟩) := is_new (.cons (.int _) (.cons (.int _) (Iss.one (iw.on c78)))) hu
      have B9 := B8.new (o := .tup [.int f.reach, .int co, wv]) hu
      generalize upd H8 u (.tup [.int f.reach, .int co, wv]) = H9 at cu hL9 iu B9 ⊢
      walk_at "s"
      refine ⟨D, _, _, rfl, rfl, hL9, sl1000 (by rw [hs.length, List.length_map]; omega), ?_⟩
      have c9 : Chg [D] H9 (upd H9 D (.lst (zs ++ [.ref u]))) := Chg.refl.put (by simp) hL9 rfl
      have c59 : Chg [b, ow, D] H5 (upd H9 D (.lst (zs ++ [.ref u]))) := (((c7.mono (by simp)).trans (c78.mono (by simp))).trans cu.nil).trans (c9.mono (by simp))
      have c49 : Chg [b, ow] H H9 := ((c4.trans c7).trans c78).trans cu.nil
      refine ⟨_, _, _, _, rfl, c49.mut hD0, c34.trans c59, (B9.upd hDb hDo).le (by omega), _, fo ++ [⟨f.reach, co, ways⟩], upd_same, ?_, by simp [hle], fun j g hj => ?_⟩
      · rw [List.map_append]
        exact (hs.on c59).append (Iss.one (iu.on c9))
      · by_cases hj2 : j < fo.length
        · rw [List.getElem?_append_left hj2] at hj
          exact hok j g hj
        · have hj3 : j = fo.length := by
            have := (List.getElem?_eq_some_iff.mp hj).1
            simp at this
            omega
          subst hj3
          rw [List.getElem?_append_right (Nat.le_refl _)] at hj
          simp at hj
          subst hj
          exact ⟨hfw.r1, hfw.r2, hc1, hc2, hfw.len, hfw.ok⟩
    · rintro σ H4 ⟨z1, z2, z3, z4, rfl, c4, c34, B4, zs, fo, hL, hs, hle, hok⟩
      walk_at "s"
      refine ⟨D, _, rfl, SqL.of hL, fun r o hr _ _ => ?_⟩
      have B5 := B4.new (o := .frz o (.tup zs)) hr
      have ir := is_tupOf (o := o) hs hr
      have c5 : Chg [] H4 (upd H4 r (.frz o (.tup zs))) := Chg.new hr
      generalize upd H4 r (.frz o (.tup zs)) = H5 at B5 ir c5 ⊢
      walk_at "s"
      refine ⟨sz1000 (by simp), fun p3 hp3 => ?_⟩
      refine q _ _ ⟨p.fs, p.m, p.wide, fo, p.skips, p.gap, p.late, p.anew⟩ ((c4.trans c5.nil).trans (Chg.new hp3)) ((B5.new hp3).le (by omega)) ⟨hp.shape, hp.w1, hp.w2, hok, by show fo.length ≤ 12; omega, hp.skips, hp.gap, hp.late, hp.anew⟩ ?_
      exact is_new (.cons ((jx.on c34).on c5) (.cons (.int _) (.cons ir (Iss.one ((jr.on c34).on c5))))) hp3
end
end Sh
namespace Sh
open PySem L2 PySem.Spec PyProof.Rows
local macro_rules | `(tactic| walk_at "s1") => `(tactic| first
  | with_reducible refine w_seq ?_
  | with_reducible refine w_asg ?_
  | with_reducible refine w_name ?_
  | with_reducible refine w_ret ?_
  | with_reducible refine w_retN ?_
  | with_reducible refine w_drop ?_
  | with_reducible refine w_next ?_
  | with_reducible refine w_ifS ?_
  | ((with_reducible refine' w_var ?h ?_); (case h => rfl))
  | with_reducible refine w_c ?_
  | with_reducible refine w_op ?_
  | with_reducible refine w_un ?_
  | with_reducible refine w_sl ?_
  | with_reducible refine w_nopart ?_
  | with_reducible refine w_part ?_
  | with_reducible refine w_exint ?_
  | with_reducible refine w_exbl ?_
  | with_reducible refine w_exbl' ?_
  | with_reducible refine w_exint' ?_
  | with_reducible refine w_nn ?_
  | with_reducible refine w_test ?_
  | with_reducible refine w_B ?_
  | with_reducible refine w_and ?_
  | with_reducible refine w_or ?_
  | with_reducible refine w_not ?_
  | with_reducible refine w_andV ?_
  | with_reducible refine w_orV ?_
  | with_reducible refine w_notV ?_
  | with_reducible refine w_ifE ?_
  | with_reducible refine w_nil ?_
  | with_reducible refine w_cons ?_
  | with_reducible refine w_tup ?_
  | with_reducible refine w_lst ?_
  | with_reducible refine w_CB ?_
  | with_reducible refine w_fn ?_
  | with_reducible refine w_T ?_
  | with_reducible refine w_F ?_
  | with_reducible refine w_I0 ?_
  | with_reducible refine w_U ?_
  | with_reducible refine w_addI ?_
  | with_reducible refine w_eqI ?_
  | with_reducible refine w_neI ?_
  | with_reducible refine w_eqS ?_
  | with_reducible refine w_neS ?_
  | with_reducible refine w_for ?_
  | with_reducible refine w_rng1 ?_
  | with_reducible refine w_rng2 ?_
  | with_reducible refine w_iStr ?_
  | with_reducible refine w_iTup ?_
  | with_reducible refine w_iList ?_
  | with_reducible refine w_iEnumT ?_
  | with_reducible refine w_iZip3 ?_
  | with_reducible refine w_iZipA ?_
  | with_reducible refine w_BM ?_
  | with_reducible refine w_gCons ?_
  | with_reducible refine w_gNil ?_
  | ((with_reducible refine' w_gTup ?h ?e ?_); (case h => exact SqT.of upd_same); (case e => rfl))
  | ((with_reducible refine' w_aug ?h ?_); (case h => rfl))
  | with_reducible refine w_ip ?_
  | with_reducible refine w_lc ?_
  | with_reducible refine w_fld ?_
  | with_reducible refine w_chain ?_
  | with_reducible refine w_mt ?_
  | with_reducible refine w_fset ?_
  | with_reducible refine w_dget ?_
  | with_reducible refine w_din ?_
  | with_reducible refine w_dput ?_
  | with_reducible refine w_dnew ?_
  | with_reducible refine w_keys ?_
  | with_reducible refine w_nT ?_
  | with_reducible refine w_nF ?_
  | with_reducible refine w_rowIndex ?_)
local macro_rules | `(tactic| walk_at "s") => `(tactic| repeat (walk_at "s1"))
section
variable {P : Program} {w : World} {K : PySem.W.Frag} {mg : Str → Option Value} {base : Heap} {CP CR CO CB : Addr}
theorem sclaw_is_whole : FnScope ["_law_pact_here", "_law_letter"] ["_law_pact_here", "_law_letter"] (defScope slaw_is_whole) := ⟨rfl, rfl, rfl, by decide +kernel, rfl, by decide +kernel, by decide +kernel⟩
def sp_law_is_whole (K : PySem.W.Frag) : Sp := fun vs H Q _ => ∃ (x : V) (p : Pact) (a : At) (n : Nat) (hd : List Int), vs = [x, .str (S (letterOf p a n hd))] ∧ PactOk p ∧ AtOk p a ∧ a ≠ none ∧ HeadOk p.fs hd ∧ Is K H x (pactD p) ∧ Q (.bl false) H
theorem ok_law_is_whole (T : Txt K mg) (F : Top K mg "_law_is_whole" slaw_is_whole) (F_law_width : Fk P w K mg base CX0 1 "_law_width" ["_law_many"] (sp_law_width K)) : Fk P w K mg base CX0 2 "_law_is_whole" ["_law_pact_here", "_law_letter"] (sp_law_is_whole K) := by
  refine F.fk (fun _ _ _ _ _ _ us hl => match us, hl with | [_, _], _ => rfl) fun f fd F => F.ok sclaw_is_whole (fun vs H Q E h => ?_) (fun cdv A outer s H vs Q E hr h => ?_)
  · obtain ⟨x, p, a, n, hd, rfl, _⟩ := h
    rfl
  · obtain ⟨x, p, a, n, hd, rfl, hp, ha, hne, hh, ix, q⟩ := h
    have hlo := LetOk.of (n := n) hp ha hh
    have hL : (letterOf p a n hd).length = sizeL p a := letterL_length hlo.len
    have hL2 := sizeL_le hp ha
    refine ⟨_, (pss_one (ps_ret (pe_cmpR (op_ninK (K := K)) pe_str (pe_slK (K := K) (pv 1) po_none (po_some (pe_fn F_law_width hr rfl (pa_cons (pe_op (op_addK (K := K)) pe_int (pe_callB (call_lenK (K := K)) (by rfl) T.b_len PySem.boot_len (pa_cons (pe_ixK (K := K) (pv 0) pe_int (fun _ _ => rfl)) pa_nil))) pa_nil)))) (by rfl)))), ?_⟩
    walk_at "s"
    refine w_ixD ix rfl fun v iv => ?_
    walk_at "s"
    refine w_lenD iv ?_
    walk_at "s"
    refine ⟨1 + p.forms.length, ?_, ?_, ?_⟩
    · rw [List.length_map]
      congr 2
    · have := hp.few
      exact Nat.le_trans (show 1 + p.forms.length ≤ 2 ^ 4 by omega) (Nat.pow_le_pow_right (by decide) (by decide))
    walk_at "s"
    refine w_slS (by rw [S_len, hL]; exact sz1000 (by omega)) ?_
    rw [cutA (L := letterOf p a n hd) (A := bitsL (sortN a : Nat) (sortW p)) rfl (by rw [bitsL_length]; rfl)]
    have e1 : ("1" : Str) = ⟨#[49]⟩ := by decide +kernel
    rw [e1]
    refine .inr ⟨49, _, rfl, rfl, ?_⟩
    have hpos : 0 < sortN a := by
      cases e : sortN a with
      | zero => exact absurd (atN_of_zero e) hne
      | succ k => omega
    have hm : 49 ∈ bitsL (sortN a : Nat) (sortW p) := one_in_bits (by omega) (sort_lt ha)
    rw [S_list, decide_eq_true hm]
    exact q
theorem sclaw_whole_size : FnScope ["_law_pact_here", "_law_shape_here", "_law_wide", "_law_forms", "_law_road_here", "_law_field"] ["_law_pact_here"] (defScope slaw_whole_size) := ⟨rfl, rfl, rfl, by decide +kernel, rfl, by decide +kernel, by decide +kernel⟩
def sp_law_whole_size (K : PySem.W.Frag) : Sp := fun vs H Q _ => ∃ (x : V) (p : Pact), vs = [x] ∧ PactOk p ∧ Is K H x (pactD p) ∧ ∀ H', Chg [] H H' → Q (.int (sizeL p none)) H'
theorem ok_law_whole_size (T : Txt K mg) (F : Top K mg "_law_whole_size" slaw_whole_size) (F_law_width : Fk P w K mg base CX0 1 "_law_width" ["_law_many"] (sp_law_width K)) : Fk P w K mg base CX0 2 "_law_whole_size" ["_law_pact_here"] (sp_law_whole_size K) := by
  refine F.fk (fun _ _ _ _ _ _ us hl => match us, hl with | [_], _ => rfl) fun f fd F => F.ok sclaw_whole_size (fun vs H Q E h => ?_) (fun cdv A outer s H vs Q E hr h => ?_)
  · obtain ⟨x, p, rfl, _⟩ := h
    rfl
  · obtain ⟨x, p, rfl, hp, ix, q⟩ := h
    obtain ⟨a1, xs1, rfl, t1, s1⟩ := ix.tup_eq
    obtain ⟨u1, u2, u3, u4, rfl, j1, j2, j3, j4⟩ := s1.four
    obtain rfl := j2.int_eq
    refine ⟨_, (pss_cons (ps_asg (pv 0) (pg_tupK (K := K) (n := 4) rfl (pgs_cons (pg_name (i := 1) sclaw_whole_size.nd rfl (Or.inl rfl)) (pgs_cons (pg_name (i := 2) sclaw_whole_size.nd rfl (Or.inl rfl)) (pgs_cons (pg_name (i := 3) sclaw_whole_size.nd rfl (Or.inl rfl)) (pgs_cons (pg_name (i := 4) sclaw_whole_size.nd rfl (Or.inl rfl)) pgs_nil)))))) (pss_one (ps_ret (pe_op (op_addK (K := K)) (pe_op (op_addK (K := K)) (pe_op (op_addK (K := K)) (pe_fn F_law_width hr rfl (pa_cons (pe_op (op_addK (K := K)) pe_int (pe_callB (call_lenK (K := K)) (by rfl) T.b_len PySem.boot_len (pa_cons (pv 3) pa_nil))) pa_nil)) (pv 2)) (pe_callB (cr_sumK (K := K) rfl) (by rfl) T.b_sum (by decide +kernel) (pa_cons (pe_lc (own := [("_law_field", 5)]) rfl sclaw_whole_size.nd (pi_tupK (K := K) (pe_ixK (K := K) (pv 1) pe_int (fun _ _ => rfl))) (blkOk_by (own := [("_law_field", 5)]) (N := ["_law_pact_here", "_law_shape_here", "_law_wide", "_law_forms", "_law_road_here", "_law_field"]) (sc := defScope slaw_whole_size) (by decide +kernel)) (fun _ _ _ _ _ => (pg_name (i := 5) sclaw_whole_size.nd rfl (Or.inl rfl))) (fun _ _ _ _ _ => pts_nil) (fun _ _ _ _ _ => (pe_ixK (K := K) (pv 5) pe_int (fun _ _ => rfl)))) pa_nil))) (pe_fn F_law_width hr rfl (pa_cons (pe_ixK (K := K) (pv 1) pe_int (fun _ _ => rfl)) pa_nil)))))), ?_⟩
    walk_at "s"
    refine w_gTup t1 rfl ?_
    walk_at "s"
    refine w_lenD j3 ?_
    walk_at "s"
    refine ⟨1 + p.forms.length, ?_, ?_, ?_⟩
    · rw [List.length_map]
      congr 2
    · have := hp.few
      exact Nat.le_trans (show 1 + p.forms.length ≤ 2 ^ 4 by omega) (Nat.pow_le_pow_right (by decide) (by decide))
    walk_at "s"
    refine w_ixD j1 rfl fun u iu => ?_
    obtain ⟨a0, xs, rfl, t0, s0⟩ := iu.tup_eq
    have hxs : xs.length = p.fs.length := by rw [s0.length, List.length_map]
    refine ⟨_, rfl, ⟨_, t0.sq⟩, fun D hD => ?_⟩
    refine lc_map (walk_tup (xs := xs)) hD (fun i => .int ((p.fs.map Field.br).getD i 0 : Nat)) (by have := hp.shape.few; omega) (fun H1 c1 => (t0.mono c1).sq) (fun i x H1 H2 Q' hi c1 hY hQ => ?_) fun H1 c1 hL => ?_
    · obtain ⟨rfl, e1⟩ := hY
      obtain ⟨fd, ef, i1⟩ := getMap s0 e1
      walk_at "s"
      refine ⟨rfl, ?_⟩
      walk_at "s"
      refine w_ixDI (i1.on c1) rfl ?_
      have e : (p.fs.map Field.br).getD i 0 = fd.br := by
        rw [List.getD_eq_getElem?_getD, List.getElem?_map, ef]
        rfl
      rw [← e]
      exact hQ _ Chg.refl
    · walk_at "s"
      have e : (List.range xs.length).map (fun i => V.int ((p.fs.map Field.br).getD i 0 : Nat)) = (p.fs.map fun f => ((f.br : Nat) : Int)).map V.int := by
        have e4 : (p.fs.map Field.br).length = xs.length := by rw [List.length_map, hxs]
        rw [← e4, range_getD 0 (fun (n : Nat) => V.int (n : Int)), List.map_map, List.map_map]
        rfl
      rw [e] at hL
      refine ⟨D, _, rfl, SqL.of hL, ?_⟩
      rw [wsiz_sum]
      walk_at "s"
      refine w_ixDI (j1.on c1) rfl ?_
      walk_at "s"
      refine ⟨p.m, rfl, Nat.le_trans (show p.m ≤ 2 ^ 20 by have := hp.shape.m2; omega) (Nat.pow_le_pow_right (by decide) (by decide)), ?_⟩
      walk_at "s"
      exact q H1 c1
theorem sclaw_place : FnScope ["_law_box_here", "_law_many"] ["_law_box_here", "_law_many"] (defScope slaw_place) := ⟨rfl, rfl, rfl, by decide +kernel, rfl, by decide +kernel, by decide +kernel⟩
def sp_law_place (_ : PySem.W.Frag) : Sp := fun vs H Q _ => ∃ (b ow : Addr) (tn many : Nat), vs = [.ref b, .int many] ∧ Bx H b ow tn ∧ tn ≤ 2 ^ 58 ∧ 1 ≤ many ∧ many ≤ 1000000 ∧ ∀ (H' : Hp) (k : Nat), Chg [b, ow] H H' → Bx H' b ow (tn + 2) → k < many → Q (.int k) H'
theorem ok_law_place (T : Txt K mg) (F : Top K mg "_law_place" slaw_place) (F_law_of : Fk P w K mg base CX0 2 "_law_of" ["_law_box_here", "_law_some"] (sp_law_of K)) (F_law_next : Fk P w K mg base CX0 1 "_law_next" ["_law_box_here", "_law_many"] (sp_law_next K)) : Fk P w K mg base CX0 3 "_law_place" ["_law_box_here", "_law_many"] (sp_law_place K) := by
  refine F.fk (fun _ _ _ _ _ _ us hl => match us, hl with | [_, _], _ => rfl) fun f fd F => F.ok sclaw_place (fun vs H Q E h => ?_) (fun cdv A outer s H vs Q E hr h => ?_)
  · obtain ⟨b, ow, tn, many, rfl, _⟩ := h
    rfl
  · obtain ⟨b, ow, tn, many, rfl, hB, hT, hm1, hm2, q⟩ := h
    refine ⟨_, (pss_one (ps_ret (pe_callB (call_max2 rfl) (by rfl) T.b_max (by decide +kernel) (pa_cons pe_int (pa_cons (pe_op op_sub (pe_op op_sub (pv 1) pe_int) (pe_fn F_law_of hr rfl (pa_cons (pv 0) (pa_cons (pe_lst (pa_cons pe_int (pa_cons pe_int (pa_cons pe_int (pa_cons pe_int (pa_cons pe_int (pa_cons (pe_fn F_law_next hr rfl (pa_cons (pv 0) (pa_cons (pv 1) pa_nil))) pa_nil))))))) pa_nil)))) pa_nil))))), ?_⟩
    walk_at "s"
    refine ⟨b, ow, tn, _, rfl, hB, by omega, by omega, by omega, fun H1 d c1 B1 hd0 hd1 => ?_⟩
    walk_at "s"
    refine ⟨sz1000 (by simp), fun a ha => ?_⟩
    refine ⟨b, ow, _, a, ([0, 0, 0, 1, 2, d] : List Int).map V.int, rfl, B1.new ha, by omega, upd_same, B1.ne_ow ha, by simp, by simp, fun H2 v c2 B2 hv => ?_⟩
    obtain ⟨s, hs, rfl⟩ := List.mem_map.mp hv
    have hs0 : 0 ≤ s := by
      simp only [List.mem_cons, List.not_mem_nil, or_false] at hs
      omega
    walk_at "s"
    refine ⟨_, _, rfl, ?_⟩
    obtain ⟨k, hk, hkm⟩ : ∃ k : Nat, (if (many : Int) - 1 - s > 0 then (many : Int) - 1 - s else 0) = k ∧ k < many := by
      split
      · exact ⟨((many : Int) - 1 - s).toNat, by omega, by omega⟩
      · exact ⟨0, rfl, by omega⟩
    rw [hk]
    exact q _ k ((c1.trans (Chg.new ha)).trans c2) B2 hkm
/-- the objects of the law beside the road -/
def Out (b ow : Addr) (ad : Adr) : Prop := b ∉ ad.all ∧ ow ∉ ad.all
theorem sclaw_words : FnScope ["_law_box_here", "_law_road_here"] ["_law_box_here", "_law_road_here"] (defScope slaw_words) := ⟨rfl, rfl, rfl, by decide +kernel, rfl, by decide +kernel, by decide +kernel⟩
def sp_law_words (K : PySem.W.Frag) (CP CR CO CB : Addr) : Sp := fun vs H Q _ => ∃ (b ow : Addr) (tn : Nat) (ad : Adr) (p : Pact) (R : RoadS), vs = [.ref b, .ref ad.o] ∧ Bx H b ow tn ∧ tn ≤ 2 ^ 57 ∧ RoadAt K CP CR CO H ad p R ∧ Out b ow ad ∧ R.back ≠ [] ∧ R.back.length ≤ 5000 ∧
  ∀ H' R' v, Chg (b :: ow :: ad.all) H H' → Bx H' b ow (tn + 10) → RoadAt K CP CR CO H' ad p R' → R'.s.past = R.s.past → R'.r = R.r → R'.line = R.line → R'.back.length ≤ R.back.length → Q v H'
theorem ok_law_words (T : Txt K mg) (F : Top K mg "_law_words" slaw_words) (M_Road_do : Mt P w K mg base (L2.CX P w) 12 CO "do" ["self", "deed"] (sp_Road_do K CP CR CO CB)) (F_law_place : Fk P w K mg base CX0 3 "_law_place" ["_law_box_here", "_law_many"] (sp_law_place K)) (M_Road_words : Mt P w K mg base CX0 1 CO "words" ["self"] (sp_Road_words K CP CR CO CB)) (F_law_of : Fk P w K mg base CX0 2 "_law_of" ["_law_box_here", "_law_some"] (sp_law_of K)) : Fk P w K mg base CX0 13 "_law_words" ["_law_box_here", "_law_road_here"] (sp_law_words K CP CR CO CB) := by
  refine F.fk (fun _ _ _ _ _ _ us hl => match us, hl with | [_, _], _ => rfl) fun f fd F => F.ok sclaw_words (fun vs H Q E h => ?_) (fun cdv A outer s H vs Q E hr h => ?_)
  · obtain ⟨b, ow, tn, ad, p, R, rfl, _⟩ := h
    rfl
  · obtain ⟨b, ow, tn, ad, p, R, rfl, hB, hT, hR, hO, hne, hbf, q⟩ := h
    obtain ⟨fs, o, pf⟩ := hR.obj
    have hpos : 0 < R.back.length := List.length_pos_iff.mpr hne
    have hoAll : ad.o ∈ ad.all := by simp [Adr.all]
    have hob : ad.o ≠ b := fun e => hO.1 (e ▸ hoAll)
    have hoo : ad.o ≠ ow := fun e => hO.2 (e ▸ hoAll)
    have hall : ∀ c ∈ ad.all, c ∉ [b, ow] := fun c hc => by
      simp only [List.mem_cons, List.not_mem_nil, or_false]
      rintro (e | e)
      · exact hO.1 (e ▸ hc)
      · exact hO.2 (e ▸ hc)
    refine ⟨_, (pss_one (ps_expr (pe_mt M_Road_do hr (pv 1) (pa_cons (pe_tup (pa_cons (pe_fn F_law_of hr rfl (pa_cons (pv 0) (pa_cons (pe_lst (pa_cons pe_str (pa_cons pe_str (pa_cons pe_str (pa_cons pe_str pa_nil))))) pa_nil))) (pa_cons (pe_fn F_law_place hr rfl (pa_cons (pv 0) (pa_cons (pe_callB (call_lenK (K := K)) (by rfl) T.b_len PySem.boot_len (pa_cons (pe_mt0 M_Road_words hr (pv 1)) pa_nil)) pa_nil))) pa_nil))) pa_nil)))), ?_⟩
    refine w_drop ?_
    walk_at "s"
    refine w_self o (pf.no _ (by decide +kernel)) ?_
    walk_at "s"
    refine ⟨sz1000 (by simp), fun a ha => ?_⟩
    have B1 := hB.new (o := .lst [.str "word", .str "word", .str "echo", .str "drop"]) ha
    have c1 : Chg [] H (upd H a (.lst [.str "word", .str "word", .str "echo", .str "drop"])) := Chg.new ha
    refine ⟨b, ow, tn, a, _, rfl, B1, by omega, upd_same, hB.ne_ow ha, by simp, by simp, fun H2 v c2 B2 hv => ?_⟩
    obtain ⟨wd, rfl, hwd⟩ : ∃ wd : Wd, v = .str wd.name ∧ (wd = .word ∨ wd = .echo ∨ wd = .drop) := by
      simp only [List.mem_cons, List.not_mem_nil, or_false] at hv
      rcases hv with rfl | rfl | rfl | rfl
      · exact ⟨.word, rfl, .inl rfl⟩
      · exact ⟨.word, rfl, .inl rfl⟩
      · exact ⟨.echo, rfl, .inr (.inl rfl)⟩
      · exact ⟨.drop, rfl, .inr (.inr rfl)⟩
    have hR2 := (hR.calm c1).on c2 hall
    obtain ⟨fs2, o2, pf2⟩ := hR2.obj
    walk_at "s"
    refine w_self o2 (pf2.no _ (by decide +kernel)) ?_
    walk_at "s"
    refine ⟨ad, p, R, rfl, hR2, fun H3 l xs c3 hl hL hi => ?_⟩
    walk_at "s"
    refine w_lenL hL ?_
    have hlen : xs.length = R.back.length := by rw [hi.length, List.length_map]
    rw [hlen]
    walk_at "s"
    refine ⟨b, ow, _, R.back.length, rfl, B2.calm c3, by omega, hpos, by omega, fun H4 k c4 B4 hk => ?_⟩
    walk_at "s"
    refine ⟨sz1000 (by simp), fun u hu => ?_⟩
    have B5 := B4.new (o := .tup [.str wd.name, .int k]) hu
    have iu : Is K (upd H4 u (.tup [.str wd.name, .int k])) (.ref u) (deedD (.place wd k)) := is_new (.cons (.str _) (Iss.one (.int _))) hu
    have c5 : Chg [] H4 (upd H4 u (.tup [.str wd.name, .int k])) := Chg.new hu
    generalize upd H4 u (.tup [.str wd.name, .int k]) = H5 at B5 iu c5 ⊢
    have hR5 := ((hR2.calm c3).on c4 hall).calm c5
    have c05 : Chg [b, ow] H H5 := (((c1.nil.trans c2).trans c3.nil).trans c4).trans c5.nil
    have c05' : Chg (b :: ow :: ad.all) H H5 := c05.mono (by simp)
    have B6 : ∀ H', Chg ad.all H5 H' → Bx H' b ow (tn + 10) := fun H' c => (B5.on c hO.1 hO.2).le (by omega)
    walk_at "s"
    refine ⟨ad, p, R, .place wd k, _, rfl, hR5, iu, hbf, ?_⟩
    have hk2 : R.back[k]? = some (R.back[k]'hk) := List.getElem?_eq_getElem hk
    rcases hwd with rfl | rfl | rfl
    · exact ⟨_, hk2, fun H' v c hR' => q _ _ _ (c05'.trans (c.mono (by intro x hx; simp [hx]))) (B6 _ c) hR' (hear_past _ _) rfl rfl (erase_le _ _)⟩
    · exact ⟨_, hk2, fun H' v c hR' => q _ _ _ (c05'.trans (c.mono (by intro x hx; simp [hx]))) (B6 _ c) hR' (hear_past _ _) rfl rfl (Nat.le_refl _)⟩
    · exact ⟨hk, fun H' v c hR' => q _ _ _ (c05'.trans (c.mono (by intro x hx; simp [hx]))) (B6 _ c) hR' rfl rfl rfl (erase_le _ _)⟩
end
end Sh
namespace Sh
open PySem L2 PySem.Spec PyProof.Rows
local macro_rules | `(tactic| walk_at "s1") => `(tactic| first
  | with_reducible refine w_seq ?_
  | with_reducible refine w_asg ?_
  | with_reducible refine w_name ?_
  | with_reducible refine w_ret ?_
  | with_reducible refine w_retN ?_
  | with_reducible refine w_drop ?_
  | with_reducible refine w_next ?_
  | with_reducible refine w_ifS ?_
  | ((with_reducible refine' w_var ?h ?_); (case h => rfl))
  | with_reducible refine w_c ?_
  | with_reducible refine w_op ?_
  | with_reducible refine w_un ?_
  | with_reducible refine w_sl ?_
  | with_reducible refine w_nopart ?_
  | with_reducible refine w_part ?_
  | with_reducible refine w_exint ?_
  | with_reducible refine w_exbl ?_
  | with_reducible refine w_exbl' ?_
  | with_reducible refine w_exint' ?_
  | with_reducible refine w_nn ?_
  | with_reducible refine w_test ?_
  | with_reducible refine w_B ?_
  | with_reducible refine w_and ?_
  | with_reducible refine w_or ?_
  | with_reducible refine w_not ?_
  | with_reducible refine w_andV ?_
  | with_reducible refine w_orV ?_
  | with_reducible refine w_notV ?_
  | with_reducible refine w_ifE ?_
  | with_reducible refine w_nil ?_
  | with_reducible refine w_cons ?_
  | with_reducible refine w_tup ?_
  | with_reducible refine w_lst ?_
  | with_reducible refine w_CB ?_
  | with_reducible refine w_fn ?_
  | with_reducible refine w_T ?_
  | with_reducible refine w_F ?_
  | with_reducible refine w_I0 ?_
  | with_reducible refine w_U ?_
  | with_reducible refine w_addI ?_
  | with_reducible refine w_eqI ?_
  | with_reducible refine w_neI ?_
  | with_reducible refine w_eqS ?_
  | with_reducible refine w_neS ?_
  | with_reducible refine w_for ?_
  | with_reducible refine w_rng1 ?_
  | with_reducible refine w_rng2 ?_
  | with_reducible refine w_iStr ?_
  | with_reducible refine w_iTup ?_
  | with_reducible refine w_iList ?_
  | with_reducible refine w_iEnumT ?_
  | with_reducible refine w_iZip3 ?_
  | with_reducible refine w_iZipA ?_
  | with_reducible refine w_BM ?_
  | with_reducible refine w_gCons ?_
  | with_reducible refine w_gNil ?_
  | ((with_reducible refine' w_gTup ?h ?e ?_); (case h => exact SqT.of upd_same); (case e => rfl))
  | ((with_reducible refine' w_aug ?h ?_); (case h => rfl))
  | with_reducible refine w_ip ?_
  | with_reducible refine w_lc ?_
  | with_reducible refine w_fld ?_
  | with_reducible refine w_chain ?_
  | with_reducible refine w_mt ?_
  | with_reducible refine w_fset ?_
  | with_reducible refine w_dget ?_
  | with_reducible refine w_din ?_
  | with_reducible refine w_dput ?_
  | with_reducible refine w_dnew ?_
  | with_reducible refine w_keys ?_
  | with_reducible refine w_nT ?_
  | with_reducible refine w_nF ?_
  | with_reducible refine w_rowIndex ?_)
local macro_rules | `(tactic| walk_at "s") => `(tactic| repeat (walk_at "s1"))
section
variable {P : Program} {w : World} {K : PySem.W.Frag} {mg : Str → Option Value} {base : Heap} {CP CR CO CB : Addr}
theorem lay_sent (n m : Int) : SeqAt.shaped (.tuple [.str "sent", .int n, .int m]) = true := by
  simp [SeqAt.shaped, PyData.canLay0, PyData.canLayAll0, PyData.depth, PyData.depthAll]
  decide +kernel
theorem eqv_sent (n m : Int) : PyData.eqv (.tuple [.str "sent", .int n, .int m]) (.tuple [.str "sent", .int n, .int m]) = true := by simp [PyData.eqv, PyData.eqvAll]
/-- the state behind a head that was pressed -/
def pressS (R : RoadS) (hd : List Int) (a : At) : RoadS := { R with s := { R.s with past := R.s.past ++ [hd] }, line := R.line ++ [(a, R.s.past.length)] }
theorem sclaw_pressed : FnScope ["_law_pact_here", "_law_road_here", "_law_head", "_law_number", "_law_told", "_law_last"] ["_law_pact_here", "_law_road_here", "_law_head", "_law_number"] (defScope slaw_pressed) := ⟨rfl, rfl, rfl, by decide +kernel, rfl, by decide +kernel, by decide +kernel⟩
def sp_law_pressed (K : PySem.W.Frag) (CP CR CO CB : Addr) : Sp := fun vs H Q _ => ∃ (ad : Adr) (p : Pact) (R : RoadS) (x y : V) (hd : List Int), vs = [x, .ref ad.o, y, .int R.s.past.length] ∧ RoadAt K CP CR CO H ad p R ∧ R.s.past.length ≤ 399 ∧ Is K H x (pactD p) ∧ HeadOk p.fs hd ∧ Is K H y (headD hd) ∧
  ∀ H' a, Chg ad.all H H' → RoadAt K CP CR CO H' ad p (pressS R hd a) → Q (.bl true) H'
theorem ok_law_pressed (T : Txt K mg) (F : Top K mg "_law_pressed" slaw_pressed) (M_Road_letters : Mt P w K mg base CX0 1 CO "letters" ["self"] (sp_Road_letters K CP CR CO CB)) (F_law_whole_size : Fk P w K mg base CX0 2 "_law_whole_size" ["_law_pact_here"] (sp_law_whole_size K)) (M_Road_do : Mt P w K mg base (L2.CX P w) 12 CO "do" ["self", "deed"] (sp_Road_do K CP CR CO CB)) : Fk P w K mg base CX0 13 "_law_pressed" ["_law_pact_here", "_law_road_here", "_law_head", "_law_number"] (sp_law_pressed K CP CR CO CB) := by
  refine F.fk (fun _ _ _ _ _ _ us hl => match us, hl with | [_, _, _, _], _ => rfl) fun f fd F => F.ok sclaw_pressed (fun vs H Q E h => ?_) (fun cdv A outer s H vs Q E hr h => ?_)
  · obtain ⟨ad, p, R, x, y, hd, rfl, _⟩ := h
    rfl
  · obtain ⟨ad, p, R, x, y, hd, rfl, hR, hfew, ix, hh, iy, q⟩ := h
    obtain ⟨fs, o, pf⟩ := hR.obj
    have hp := hR.pre.ok
    refine ⟨_, (pss_cons (ps_set (i := 4) sclaw_pressed.nd rfl (Or.inl rfl) (pe_mt M_Road_do hr (pv 1) (pa_cons (pe_tup (pa_cons pe_str (pa_cons (pv 2) pa_nil))) pa_nil))) (pss_cons (ps_if (PW.pt (pw_or (pt_cmpR (op_neK (K := K) hr.units) (pv 4) (pe_tup (pa_cons pe_str (pa_cons (pv 3) (pa_cons (pe_ixK (K := K) (pv 4) pe_int (fun _ _ => rfl)) pa_nil)))) (nomark _)) (pw_or1 (pt_cmpR op_gt (pe_ixK (K := K) (pv 4) pe_int (fun _ _ => rfl)) (pe_fn F_law_whole_size hr rfl (pa_cons (pv 0) pa_nil)) (nomark _))))) (pss_one (ps_ret pe_bl)) pss_nil) (pss_cons (ps_set (i := 5) sclaw_pressed.nd rfl (Or.inl rfl) (pe_ixK (K := K) (pe_mt0 M_Road_letters hr (pv 1)) (pe_un un_neg pe_int) (fun _ _ => rfl))) (pss_one (ps_ret (pe_and (pe_cmpR (op_eqK (K := K) hr.units) (pe_ixK (K := K) (pv 5) pe_int (fun _ _ => rfl)) (pv 3) (nomark _)) (pe_one (pe_cmpR (op_eqK (K := K) hr.units) (pe_callB (call_lenK (K := K)) (by rfl) T.b_len PySem.boot_len (pa_cons (pe_ixK (K := K) (pv 5) pe_int (fun _ _ => rfl)) pa_nil)) (pe_ixK (K := K) (pv 4) pe_int (fun _ _ => rfl)) (nomark _))))))))), ?_⟩
    walk_at "s"
    refine w_self o (pf.no _ (by decide +kernel)) ?_
    walk_at "s"
    refine ⟨sz1000 (by simp), fun u hu => ?_⟩
    have iu : Is K (upd H u (.tup [.str "press", y])) (.ref u) (deedD (.press hd)) := is_new (.cons (.str _) (Iss.one iy)) hu
    have c1 : Chg [] H (upd H u (.tup [.str "press", y])) := Chg.new hu
    generalize upd H u (.tup [.str "press", y]) = H1 at iu c1 ⊢
    walk_at "s"
    refine ⟨ad, p, R, .press hd, _, rfl, hR.calm c1, iu, hh, hfew, fun H2 v a c2 hR2 ha hsz iv => ?_⟩
    have c12 : Chg ad.all H H2 := c1.nil.trans c2
    walk_at "s"
    refine w_ixDI iv rfl ?_
    walk_at "s"
    refine ⟨sz1000 (by simp), fun u2 hu2 => ?_⟩
    have i3 : Is K (upd H2 u2 (.tup [.str "sent", .int R.s.past.length, .int (sizeL p a)])) (.ref u2) (.tuple [.str "sent", .int R.s.past.length, .int (sizeL p a)]) := is_new (.cons (.str _) (.cons (.int _) (Iss.one (.int _)))) hu2
    have c3 : Chg [] H2 (upd H2 u2 (.tup [.str "sent", .int R.s.past.length, .int (sizeL p a)])) := Chg.new hu2
    generalize upd H2 u2 (.tup [.str "sent", .int R.s.past.length, .int (sizeL p a)]) = H3 at i3 c3 ⊢
    refine w_neD ((iv.on c3).dp _ _ rfl) (i3.dp _ _ rfl) (lay_sent _ _) (lay_sent _ _) ?_
    rw [eqv_sent]
    walk_at "s"
    refine w_ixDI (iv.on c3) rfl ?_
    walk_at "s"
    refine ⟨_, p, rfl, hp, (ix.on c12).on c3, fun H4 c4 => ?_⟩
    walk_at "s"
    refine w_ifF (by omega) ?_
    have hR4 := (hR2.calm c3).calm c4
    obtain ⟨fs4, o4, pf4⟩ := hR4.obj
    walk_at "s"
    refine w_self o4 (pf4.no _ (by decide +kernel)) ?_
    walk_at "s"
    refine ⟨ad, p, _, rfl, hR4, fun H5 l xs c5 hl hL hi => ?_⟩
    have hxl : xs.length = R.line.length + 1 := by rw [hi.length, List.length_map]; simp
    have hlast : (R.line ++ [(a, R.s.past.length)])[R.line.length]? = some (a, R.s.past.length) := by
      rw [List.getElem?_append_right (Nat.le_refl _)]
      simp
    obtain ⟨v5, e5, i5⟩ := getMapD hi hlast
    walk_at "s"
    have hat : atI xs (-1) = some v5 := atI_neg (xs := xs) (i := 0) (by rw [hxl]; exact e5) (by omega)
    refine w_ixL (SqL.of hL) hat ?_
    walk_at "s"
    have hnew : (R.s.past ++ [hd]).getD R.s.past.length [] = hd := by rw [List.getD_eq_getElem?_getD, List.getElem?_append_right (Nat.le_refl _)]; simp
    have hlt : (letterOf p a R.s.past.length hd).length = sizeL p a := letterL_length (LetOk.of (n := R.s.past.length) hp ha hh).len
    have hsz2 := sizeL_le hp ha
    have i5' : Is K H5 v5 (.tuple [.int R.s.past.length, .str (S (letterOf p a R.s.past.length hd))]) := by
      unfold letterD at i5
      rw [hnew] at i5
      exact i5
    refine w_ixDI i5' rfl ?_
    walk_at "s"
    refine w_ifT rfl ?_
    walk_at "s"
    refine w_ixDS i5' rfl ?_
    walk_at "s"
    refine w_lenS (by rw [S_len, hlt]; exact sz1000 (by omega)) ?_
    walk_at "s"
    refine w_ixDI (((iv.on c3).on c4).on c5) rfl ?_
    walk_at "s"
    rw [S_len, hlt, decide_eq_true rfl]
    exact q _ a (((c12.trans c3.nil).trans c4.nil).trans c5.nil) (hR4.calm c5)
theorem cut_mem {xs : List V} {lo hi : Option Int} {v : V} (h : v ∈ cutV xs lo hi) : v ∈ xs := List.mem_of_mem_drop (List.mem_of_mem_take h)
theorem sqL_on {H H' : Hp} {a : Addr} {xs : List V} (h : SqL K H a xs) (c : Chg [] H H') : SqL K H' a xs := by
  rcases h with (h | ⟨o, h⟩) | h
  · exact .inl (.inl (c.keep _ _ h (by simp)))
  · exact .inl (.inr ⟨o, c.keep _ _ h (by simp)⟩)
  · exact .inr h
theorem putK_new {kvs : List (Key × V)} {k : Key} {v : V} (h : valV kvs k = none) : putK kvs k v = kvs ++ [(k, v)] := by
  unfold putK
  rw [valV_any, h]
  rfl
theorem box_merge {ow : Addr} {s t : Int} : mergeK [] (boxK ow s t) = boxK ow s t := by
  have h1 : ¬ ((.inr "own" : Key) = .inr "seed") := by decide +kernel
  have h2 : ¬ ((.inr "own" : Key) = .inr "turn") := by decide +kernel
  have h3 : ¬ ((.inr "seed" : Key) = .inr "turn") := by decide +kernel
  show putK (putK (putK ([] : List (Key × V)) (.inr "own" : Key) (.ref ow)) (.inr "seed" : Key) (.int s)) (.inr "turn" : Key) (.int t) = _
  rw [putK_new (kvs := []) valV_nil, putK_new (kvs := [] ++ _) (by rw [List.nil_append, valV_neg h1]; exact valV_nil), putK_new (by rw [List.nil_append, List.cons_append, List.nil_append, valV_neg h2, valV_neg h3]; exact valV_nil)]
  rfl
theorem sclaw_box : FnScope ["_law_script", "_law_seed", "_law_own", "_law_far", "_law_cell"] ["_law_script"] (defScope slaw_box) := ⟨rfl, rfl, rfl, by decide +kernel, rfl, by decide +kernel, by decide +kernel⟩
def sp_law_box (K : PySem.W.Frag) : Sp := fun vs H Q _ => ∃ (a : Addr) (ns : List Int), vs = [.ref a] ∧ SqL K H a (ns.map V.int) ∧ ns.length ≤ 1000 ∧ ∀ H' b ow, Chg [] H H' → H b = none → H ow = none → Bx H' b ow 0 → Q (.ref b) H'
theorem ok_law_box (T : Txt K mg) (F : Top K mg "_law_box" slaw_box)  : Fk P w K mg base CX0 1 "_law_box" ["_law_script"] (sp_law_box K) := by
  refine F.fk (fun _ _ _ _ _ _ us hl => match us, hl with | [_], _ => rfl) fun f fd F => F.ok sclaw_box (fun vs H Q E h => ?_) (fun cdv A outer s H vs Q E hr h => ?_)
  · obtain ⟨a, ns, rfl, _⟩ := h
    rfl
  · obtain ⟨a, ns, rfl, hs, hz, q⟩ := h
    refine ⟨_, (pss_cons (ps_set (i := 1) sclaw_box.nd rfl (Or.inl rfl) pe_int) (pss_cons (ps_set (i := 2) sclaw_box.nd rfl (Or.inl rfl) (pe_lst pa_nil)) (pss_cons (ps_set (i := 3) sclaw_box.nd rfl (Or.inl rfl) (pe_op op_mulA (pe_op op_mulA (pe_op op_mulA (pe_op op_mulA (pe_op op_pow pe_int pe_int) (pe_op op_pow pe_int pe_int)) (pe_op op_pow pe_int pe_int)) (pe_op op_pow pe_int pe_int)) (pe_op op_pow pe_int pe_int))) (pss_cons (ps_for PassesOwn.never rfl (pi_listK (K := K) (pe_slK (K := K) (pv 0) po_none (po_some pe_int))) (pg_name (i := 4) sclaw_box.nd rfl (Or.inl rfl)) (pss_cons (ps_set (i := 1) sclaw_box.nd rfl (Or.inl rfl) (pe_op op_mod (pe_op (op_addK (K := K)) (pe_op (op_addK (K := K)) (pe_op op_mulA (pv 1) pe_int) (pe_op op_mod (pv 4) (pe_op op_pow pe_int pe_int))) pe_int) pe_int)) (pss_one (ps_if (pt_cmpR op_ge (pe_callB call_abs (by rfl) T.b_abs (by decide +kernel) (pa_cons (pv 4) pa_nil)) (pe_op op_pow pe_int pe_int) (nomark _)) (pss_one (ps_expr (pe_bmK (K := K) PySem.F.plainAttrs_list PySem.F.slot_list_append PySem.F.type_list_append mt_append (pv 2) (pa_cons (pe_op op_mod (pe_callB call_abs (by rfl) T.b_abs (by decide +kernel) (pa_cons (pv 4) pa_nil)) (pv 3)) pa_nil)))) pss_nil)))) (pss_one (ps_ret (pe_disp (pps_cons pe_str (pv 2) (pps_cons pe_str (pv 1) (pps_cons pe_str pe_int pps_nil))) (by rfl) (by rfl) (fun z => by cases z) (by decide)))))))), ?_⟩
    walk_at "s"
    refine ⟨Nat.zero_le _, fun ow how => ?_⟩
    have c0 : Chg [] H (upd H ow (.lst [])) := Chg.new how
    walk_at "s"
    refine w_I (⟨by decide, by decide, by decide⟩ : CPow 10 60) ?_
    walk_at "s"
    refine w_I (⟨by decide, by decide, by decide⟩ : CPow 10 60) ?_
    refine w_mulW (by unfold CMulW; decide +kernel) ?_
    walk_at "s"
    refine w_I (⟨by decide, by decide, by decide⟩ : CPow 10 60) ?_
    refine w_mulW (by unfold CMulW; decide +kernel) ?_
    walk_at "s"
    refine w_I (⟨by decide, by decide, by decide⟩ : CPow 10 60) ?_
    refine w_mulW (by unfold CMulW; decide +kernel) ?_
    walk_at "s"
    refine w_I (⟨by decide, by decide, by decide⟩ : CPow 10 60) ?_
    refine w_mulW (by unfold CMulW; decide +kernel) ?_
    have hfar : (0 : Int) < 10 ^ (60 : Int).toNat * 10 ^ (60 : Int).toNat * 10 ^ (60 : Int).toNat * 10 ^ (60 : Int).toNat * 10 ^ (60 : Int).toNat := by decide +kernel
    generalize (10 : Int) ^ (60 : Int).toNat * 10 ^ (60 : Int).toNat * 10 ^ (60 : Int).toNat * 10 ^ (60 : Int).toNat * 10 ^ (60 : Int).toNat = far at hfar ⊢
    walk_at "s"
    refine w_slL (sqL_on hs c0) fun p hp => ?_
    have hpo : ow ≠ p := fun e => by rw [← e, upd_same] at hp; cases hp
    have c1 : Chg [] H (upd (upd H ow (.lst [])) p (.lst (cutV (ns.map V.int) none (some 63)))) := c0.trans (Chg.new hp)
    have hL1 : upd (upd H ow (.lst [])) p (.lst (cutV (ns.map V.int) none (some 63))) p = some (.lst (cutV (ns.map V.int) none (some 63))) := upd_same
    have hO1 : upd (upd H ow (.lst [])) p (.lst (cutV (ns.map V.int) none (some 63))) ow = some (.lst ([] : List V)) := by rw [upd_ne hpo]; exact upd_same
    generalize upd (upd H ow (.lst [])) p (.lst (cutV (ns.map V.int) none (some 63))) = H1 at c1 hL1 hO1 ⊢
    have hcl : (cutV (ns.map V.int) none (some 63)).length ≤ 1000 := Nat.le_trans (cutV_length _ _ _) (by rw [List.length_map]; exact hz)
    refine ⟨_, rfl, ⟨_, SqL.of hL1⟩, for_it (walk_list (xs := cutV (ns.map V.int) none (some 63))) (fun i σ H' => ∃ (sd : Int) (z1 : Option V) (own : List Int), σ = [some (.ref a), some (.int sd), some (.ref ow), some (.int far), z1] ∧ Chg [] H H' ∧ H' p = some (.lst (cutV (ns.map V.int) none (some 63))) ∧ H' ow = some (.lst (own.map V.int)) ∧ own.length ≤ i)
      ⟨41, none, [], by rfl, c1, hL1, hO1, Nat.le_refl _⟩ (fun i σ H' _ h => by obtain ⟨_, _, _, _, _, h, _⟩ := h; exact SqL.of h) ?_ ?_⟩
    · rintro i v σ H2 H3 hi ⟨sd, z1, own, rfl, c2, hL, hO, hle⟩ ⟨rfl, e1⟩
      obtain ⟨n, _, rfl⟩ := List.mem_map.mp (cut_mem (List.mem_of_getElem? e1))
      walk_at "s"
      refine w_mulR (by decide) ?_
      walk_at "s"
      refine w_I (⟨by decide, by decide, by decide⟩ : CPow 10 30) ?_
      refine w_mod (by decide +kernel) ?_
      walk_at "s"
      refine w_mod (by decide) ?_
      walk_at "s"
      refine ⟨_, rfl, ?_⟩
      walk_at "s"
      refine w_I (⟨by decide, by decide, by decide⟩ : CPow 10 18) ?_
      walk_at "s"
      refine w_if (fun h => ?_) (fun h => ?_)
      · walk_at "s"
        refine ⟨.inl ⟨rfl, _, SqL.of hO⟩, ?_⟩
        walk_at "s"
        refine ⟨_, rfl, ?_⟩
        walk_at "s"
        refine w_mod hfar ?_
        walk_at "s"
        refine ⟨ow, _, _, rfl, rfl, hO, sl1000 (by rw [List.length_map]; omega), ?_⟩
        walk_at "s"
        generalize (if n < 0 then -n else n) % far = nn
        refine ⟨_, _, own ++ [nn], rfl, c2.mut how, by rw [upd_ne (Ne.symm hpo)]; exact hL, ?_, by simp; omega⟩
        rw [upd_same, List.map_append]
        rfl
      · walk_at "s"
        exact ⟨_, _, own, rfl, c2, hL, hO, by omega⟩
    · rintro σ H2 ⟨sd, z1, own, rfl, c2, hL, hO, hle⟩
      walk_at "s"
      intro b hb
      have hob : ow ≠ b := ne_of_none hO hb
      simp only [tPairs]
      walk_at "s"
      refine ⟨upd_same, boxK ow sd 0, rfl, by simp [boxK], ?_⟩
      rw [box_merge, upd_upd]
      refine q _ b ow (c2.trans (Chg.new hb)) (c2.free hb (by simp)) how ⟨own, sd, 0, upd_same, by rw [upd_ne hob]; exact hO, by decide, by decide⟩
end
end Sh
namespace Sh
open PySem L2 PySem.Spec PyProof.Rows
/-! ### calls where an exception may be handled (an except suite): the body's rules ask nothing of what is handled -/
structure RoomN (k : Nat) (A : Around) : Prop where
  dp : A.depth + 3 * k + 5 < recursionLimit
  un : A.units + 16 * k + 200 < cLine
theorem RoomN.mono {j k : Nat} {A : Around} (r : RoomN k A) (h : j ≤ k) : RoomN j A := ⟨by have := r.dp; omega, by have := r.un; omega⟩
theorem RoomN.deep {k : Nat} {A : Around} (r : RoomN (k + 1) A) (env : Env) : RoomN k (A.deeper env) :=
  ⟨by have h := r.dp; show A.depth + 1 + 3 * k + 5 < recursionLimit; omega, by have h := r.un; show A.units + 3 + 16 * k + 200 < cLine; omega⟩
theorem roomN_of {k : Nat} {A : Around} (r : Room k A) : RoomN k A := ⟨r.dp, r.un⟩
theorem roomN_mark {k : Nat} {A : Around} {h : Option Value} (r : Room k A) : RoomN k (A.mark h) := ⟨r.dp, r.un⟩
/-- a body's context without a word of what is handled -/
def cxN (P : Program) (w : World) (K : PySem.W.Frag) (mg : Str → Option Value) (base : Heap) (N : List Str) (qual : Str) (scope : Scope) (f : Addr) (cd : Value) (A : Around) (outer : List Env) (s : Shared) (H : Hp) (E : XK) : Cx :=
  { cxOf CX0 P w K mg base N qual scope f cd A outer s H E with calm := false }
structure FnN (P : Program) (w : World) (K : PySem.W.Frag) (mg : Str → Option Value) (base : Heap) (k : Nat) (f : Addr) (fd : FuncData) (ps : List Str) (sp : Sp) : Prop where
  len : ∀ vs H Q E, sp vs H Q E → vs.length = ps.length
  run : ∀ (A : Around) (outer : List Env) (s : Shared) (H : Hp) (args : Args) (us : List Value) (vs : List V) (Q : VK) (E : XK),
    RoomN k A → Env0 P w K mg base A outer s H → BindsTo s fd args (ps.zip us) → Vals vs us → sp vs H Q E → codeAny (model P w) A (.call (.ref f) args) (CR CX0 outer P w H s Q E) s
section
variable {P : Program} {w : World} {K : PySem.W.Frag} {mg : Str → Option Value} {base : Heap}
theorem inv_startN {N ps : List Str} {qual : Str} {scope : Scope} {f : Addr} {cd : Value} {A : Around} {outer : List Env} {s s1 : Shared} {H : Hp} {E : XK} {us : List Value} {vs : List V}
    (S : FnScope N ps scope) (e0 : Env0 P w K mg base A outer s H) (hl : vs.length = ps.length) (r : Vals vs us)
    (x : InCallC s s.heap.objs.size (bindL (envOfC qual scope s.heap.objs.size f cd).kindOf (ps.zip us) fun _ => none) (cellsFrom (s.heap.objs.size + 1) scope.names []) (bindC (envOfC qual scope s.heap.objs.size f cd).kindOf (ps.zip us) fun _ => none) s1) :
    Inv (cxN P w K mg base N qual scope f cd A outer s H E) [] (L2.start N vs) H s1 := by
  have e1 : Env0 P w K mg base { A with handled := none } outer s H := ⟨e0.frames, e0.mod, e0.bs, e0.bsz, e0.funs, e0.frf, e0.hok, e0.bare⟩
  have I : Inv (cxOf CX0 P w K mg base N qual scope f cd { A with handled := none } outer s H E) [] (L2.start N vs) H s1 := inv_start S rfl e1 hl r x
  have ok := I.ok
  have okN : (cxN P w K mg base N qual scope f cd A outer s H E).Ok :=
    { mod := ok.mod, kind := ok.kind, glob := ok.glob, blt := ok.blt, above := ok.above, inj := ok.inj, has := ok.has, cab := ok.cab, hd := fun z => (nomatch z), frames := Around.frames_deeper e0.frames, stk := ok.stk, exf := ok.exf, bs := ok.bs, bsz := ok.bsz, noex := ok.noex, exfs := ok.exfs, funs := ok.funs, frf := ok.frf }
  exact { ok := okN, os := I.os, bare := I.bare, base := I.base, loc := I.loc, cell := I.cell, free := I.free, freeC := I.freeC, pin := I.pin, hok := I.hok, len := I.len }
set_option maxHeartbeats 200000 in
theorem fun_okN {x qual : Str} {st : Stmt} {f : Addr} {fd : FuncData} {N ps : List Str} {k : Nat} {sp : Sp} (F : L2.Fun K x qual st f fd) (S : FnScope N ps (defScope st)) (len : ∀ vs H Q E, sp vs H Q E → vs.length = ps.length)
    (hbody : ∀ (cdv : Value) (A : Around) (outer : List Env) (s : Shared) (H : Hp) (vs : List V) (Q : VK) (E : XK), RoomN k (A.deeper (envOfC qual (defScope st) s.heap.objs.size f cdv)) → sp vs H Q E →
      ∃ t, PSs (cxN P w K mg base N qual (defScope st) f cdv A outer s H E) (defBody st) t ∧ t { nx := fun _ H' => Q .non H', rt := Q } (L2.start N vs) H) :
    FnN P w K mg base (k + 1) f fd ps sp := by
  obtain ⟨oc, od, kV, doc, pm, an, cdv, ct, osl, rfl, lk, hcd⟩ := F.ex
  constructor
  · exact len
  intro A outer s H args us vs Q E hr e0 hb r hsp
  have hl := len _ _ _ _ hsp
  have inS : K.In s.heap := e0.mod.kin.keeps (fun b o e => (e0.bs b o e).1)
  have room : A.depth < recursionLimit := by have := hr.dp; omega
  have kinds : ∀ y ∈ ps.zip us, (defScope st).names.lookup y.1 = some .local ∨ ((defScope st).names.lookup y.1 = some .cell ∧ ((cellsFrom (s.heap.objs.size + 1) (defScope st).names []).lookup y.1).isSome = true) := by
    intro y hy
    cases S.par y.1 (List.of_mem_zip (a := y.1) (b := y.2) hy).1 with
    | inl q => exact .inl q
    | inr q => exact .inr ⟨q, PySem.W.cellsFrom_some _ _ _ (.inl q)⟩
  refine codeAny_call_function room (inS _ _ lk) rfl S.co S.gen rfl (PySem.W.codeRec_of inS hcd) (hb _ _ _ _ ?_)
  refine wpAny_newFunctionEnv_cells S.kind kinds fun env he s1 x => ?_
  subst he
  obtain ⟨t, ht, hq⟩ := hbody cdv A outer s H vs Q E (hr.deep _) hsp
  have hlim : s.heap.NoLimit := e0.mod.nolimit.keeps (fun b o e => (e0.bs b o e).1)
  refine ⟨hlim.keeps x.toInCall.keep, codeAny_func ?_⟩
  have hi : Inv (cxN P w K mg base N qual (defScope st) f cdv A outer s H E) [] (L2.start N vs) H s1 := inv_startN S e0 hl r x
  refine wpAny_mono (ht.run [] s1 (L2.start N vs) H _ hi hq) (fun fl s' hs => ?_) fun e s' he => he
  have fin : ∀ (σ' : L2.St) (H' : Hp) (v : V) (u : Value), Inv (cxN P w K mg base N qual (defScope st) f cdv A outer s H E) [] σ' H' s' → RelV v u → Q v H' → CE outer P w H s Q u s' := by
    intro σ' H' v u J rv q
    exact ⟨v, H', J.os, J.bare, J.base, J.hok, rv, q⟩
  cases fl with
  | ret u =>
    obtain ⟨v, σ2, H2, J, rv, q⟩ := hs
    exact fin _ _ _ _ J rv q
  | next =>
    obtain ⟨σ2, H2, J, q⟩ := hs
    exact fin _ _ V.non Value.none J rfl q
  | brk =>
    obtain ⟨_, _, _, z⟩ := hs
    exact z.elim
  | cont =>
    obtain ⟨_, _, _, z⟩ := hs
    exact z.elim
end
end Sh
namespace Sh
open PySem L2 PySem.Spec PyProof.Rows
local macro_rules | `(tactic| walk_at "s1") => `(tactic| first
  | with_reducible refine w_seq ?_
  | with_reducible refine w_asg ?_
  | with_reducible refine w_name ?_
  | with_reducible refine w_ret ?_
  | with_reducible refine w_retN ?_
  | with_reducible refine w_drop ?_
  | with_reducible refine w_next ?_
  | with_reducible refine w_ifS ?_
  | ((with_reducible refine' w_var ?h ?_); (case h => rfl))
  | with_reducible refine w_c ?_
  | with_reducible refine w_op ?_
  | with_reducible refine w_un ?_
  | with_reducible refine w_sl ?_
  | with_reducible refine w_nopart ?_
  | with_reducible refine w_part ?_
  | with_reducible refine w_exint ?_
  | with_reducible refine w_exbl ?_
  | with_reducible refine w_exbl' ?_
  | with_reducible refine w_exint' ?_
  | with_reducible refine w_nn ?_
  | with_reducible refine w_test ?_
  | with_reducible refine w_B ?_
  | with_reducible refine w_and ?_
  | with_reducible refine w_or ?_
  | with_reducible refine w_not ?_
  | with_reducible refine w_andV ?_
  | with_reducible refine w_orV ?_
  | with_reducible refine w_notV ?_
  | with_reducible refine w_ifE ?_
  | with_reducible refine w_nil ?_
  | with_reducible refine w_cons ?_
  | with_reducible refine w_tup ?_
  | with_reducible refine w_lst ?_
  | with_reducible refine w_CB ?_
  | with_reducible refine w_fn ?_
  | with_reducible refine w_T ?_
  | with_reducible refine w_F ?_
  | with_reducible refine w_I0 ?_
  | with_reducible refine w_U ?_
  | with_reducible refine w_addI ?_
  | with_reducible refine w_eqI ?_
  | with_reducible refine w_neI ?_
  | with_reducible refine w_eqS ?_
  | with_reducible refine w_neS ?_
  | with_reducible refine w_for ?_
  | with_reducible refine w_rng1 ?_
  | with_reducible refine w_rng2 ?_
  | with_reducible refine w_iStr ?_
  | with_reducible refine w_iTup ?_
  | with_reducible refine w_iList ?_
  | with_reducible refine w_iEnumT ?_
  | with_reducible refine w_iZip3 ?_
  | with_reducible refine w_iZipA ?_
  | with_reducible refine w_BM ?_
  | with_reducible refine w_gCons ?_
  | with_reducible refine w_gNil ?_
  | ((with_reducible refine' w_gTup ?h ?e ?_); (case h => exact SqT.of upd_same); (case e => rfl))
  | ((with_reducible refine' w_aug ?h ?_); (case h => rfl))
  | with_reducible refine w_ip ?_
  | with_reducible refine w_lc ?_
  | with_reducible refine w_fld ?_
  | with_reducible refine w_chain ?_
  | with_reducible refine w_mt ?_
  | with_reducible refine w_fset ?_
  | with_reducible refine w_dget ?_
  | with_reducible refine w_din ?_
  | with_reducible refine w_dput ?_
  | with_reducible refine w_dnew ?_
  | with_reducible refine w_keys ?_
  | with_reducible refine w_nT ?_
  | with_reducible refine w_nF ?_
  | with_reducible refine w_rowIndex ?_)
local macro_rules | `(tactic| walk_at "s") => `(tactic| repeat (walk_at "s1"))
section
variable {P : Program} {w : World} {K : PySem.W.Frag} {mg : Str → Option Value} {base : Heap}
/-- the method m of the class at C keeps its promise, whatever is handled -/
structure MtN (P : Program) (w : World) (K : PySem.W.Frag) (mg : Str → Option Value) (base : Heap) (k : Nat) (C : Addr) (m : Str) (ps : List Str) (sp : Sp) : Prop where
  cls : Cls K C
  out : ∃ f fd, FnN P w K mg base k f fd ps sp ∧ Meth K C m f ∧ Binds K fd ps []
theorem TopM.mtN {C : Addr} {m qn : Str} {st : Stmt} {ps : List Str} {k : Nat} {sp : Sp} (F : TopM K C m qn st) (c : Cls K C) (hb : ∀ (kV doc pm : Value) (an : Option Addr) (cdv ct : Value) (us : List Value), us.length = ps.length → bindArgs (PySem.W.fnOf m qn (defArgs st) (defBody st) (defScope st) .none kV doc pm an cdv ct) ⟨us, []⟩ = pure (ps.zip us))
    (h : ∀ f fd, Fun K m qn st f fd → FnN P w K mg base k f fd ps sp) : MtN P w K mg base k C m ps sp := by
  obtain ⟨f, fd, F1, hm⟩ := F.out
  exact ⟨c, f, fd, h f fd F1, hm, F1.binds hb⟩
end
section
variable {X : Cx} {CX : CXT} {j k : Nat} {f C : Addr} {fd : FuncData} {ps : List Str} {sp : Sp} {m : Str} {pos apos : Pos} {e o : Expr} {es : List Expr} {ta : TE} {t : TA}
set_option maxHeartbeats 200000 in
theorem run_fnN {pins : List (Addr × Obj)} {σ : L2.St} {H : Hp} {s : Shared} {Q : VK} {us : List Value} {vs : List V} (F : FnN X.prog X.w X.K X.mg X.base k f fd ps sp) (hr : RoomN k X.A) (hb : Binds X.K fd ps [])
    (I : Inv X pins σ H s) (r : Vals vs us) (h : sp vs H Q E0) : wpAny (model X.prog X.w) X.A (call (.ref f) us) (EP X pins σ Q) X.xe s := by
  have hl : us.length = ps.length := by rw [← r.length]; exact F.len _ _ _ _ h
  have b := hb s us I.kIn (by simpa using hl)
  rw [List.append_nil] at b
  refine wpAny_call (codeAny_mono (F.run X.A X.stack s H ⟨us, []⟩ us vs Q E0 hr I.env0 b r h) fun r s2 hq => ?_)
  cases r with
  | error e => exact (show False from hq).elim
  | ok fl =>
    cases fl with
    | ret u => exact I.after hq
    | next => exact (show False from hq).elim
    | brk => exact (show False from hq).elim
    | cont => exact (show False from hq).elim
set_option maxHeartbeats 200000 in
theorem pe_mtN0 {pl : Sem Bool} (F : MtN X.prog X.w X.K X.mg X.base j C m ps sp) (hr : RoomN k X.A) (he : PE X o ta) (hjk : j ≤ k := by decide)
    (ht : eval (.Call (.Attribute o m apos) [] [] pos) X.env = (do
      let ov ← eval o X.env
      standAt apos.atName
      let (f, first) ← holding [ov] (getMethod ov m pl)
      callWith pos f first (backTo pos (starEach [] X.env)) (backToKw pos (keywordEach [] X.env))) := by rfl) :
    PE X (.Call (.Attribute o m apos) [] [] pos) (tMt C m sp E0 ta tNil) := by
  obtain ⟨g, fd, G, hm, hb⟩ := F.out
  refine ⟨fun pins s σ H Q I h => ?_⟩
  refine PySem.W.methodCall_KW (pl := pl) (thn (he.run pins s σ H _ I h) fun u s1 hh => ?_) ht
  obtain ⟨x, H1, I1, rx, a, dx, fs, ex, ea, l, q⟩ := hh
  subst ex
  obtain rfl : u = Value.ref a := rx
  refine getmeth_ok I1 ea F.cls hm l ?_
  have q2 : sp [.ref a] H1 Q E0 := q
  exact PySem.W.callWith_K0 (first := [.ref a]) I1.kIn hm.kp (run_fnN (us := [.ref a]) (vs := [.ref a]) G (hr.mono hjk) hb I1 (.cons rfl .nil) q2)
def tMtS (C : Addr) (m : Str) (sp : Sp) (E : L2.St → XK) (ta : TE) (t : TA) : TE := fun σ H Q => ta σ H fun x H1 => ∃ a dx fs, x = .ref a ∧ H1 a = some (.ins C dx fs) ∧ fs.lookup m = none ∧ t σ H1 fun vs H2 => sp (.ref a :: vs) H2 Q (E σ)
set_option maxHeartbeats 200000 in
theorem pe_mtS {pl : Sem Bool} {E : L2.St → XK} (F : Mt X.prog X.w X.K X.mg X.base CX j C m ps sp) (hr : Room k X.A) (he : PE X o ta) (ha : PA X (e :: es) t) (hx : ∀ σ, PassesAt CX X σ (E σ)) (hjk : j ≤ k := by decide)
    (hst : starEach (e :: es) X.env = (false, eval e X.env) :: starEach es X.env := by rfl) (hpl : (backTo pos (starEach es X.env)).any (·.1) = false := by rfl)
    (ht : eval (.Call (.Attribute o m apos) (e :: es) [] pos) X.env = (do
      let ov ← eval o X.env
      standAt apos.atName
      let (f, first) ← holding [ov] (getMethod ov m pl)
      callWith pos f first (backTo pos (starEach (e :: es) X.env)) (backToKw pos (keywordEach [] X.env))) := by rfl) :
    PE X (.Call (.Attribute o m apos) (e :: es) [] pos) (tMtS C m sp E ta t) := by
  obtain ⟨g, fd, G, hm, hb⟩ := F.out
  refine ⟨fun pins s σ H Q I h => ?_⟩
  refine PySem.W.methodCall_KW (pl := pl) (thn (he.run pins s σ H _ I h) fun u s1 hh => ?_) ht
  obtain ⟨x, H1, I1, rx, a, dx, fs, ex, ea, l, q⟩ := hh
  subst ex
  obtain rfl : u = Value.ref a := rx
  refine getmeth_ok I1 ea F.cls hm l ?_
  refine PySem.W.callWith_K (first := [.ref a]) (h₀ := X.base) I.ok.mod.kin hm.kp (thn (ha.run pos pins s1 σ H1 _ I1 q) fun us s2 hh2 => ?_) hst hpl
  obtain ⟨vs, H2, I2, r, q2⟩ := hh2
  exact ⟨I2.kIn, run_fnS (us := .ref a :: us) (vs := .ref a :: vs) G (hr.mono hjk) hb (hx σ) I2 (.cons rfl r) q2⟩
end
section
variable {P : Program} {w : World} {K : PySem.W.Frag} {mg : Str → Option Value} {base : Heap} {CP CR CO CB : Addr}
/-- letters(), whatever is handled -/
theorem okN_Road_letters (T : Txt K mg) (TC : ClsRoad K CO) (F : TopM K CO "letters" "Road.letters" sRoad_letters) : MtN P w K mg base 1 CO "letters" ["self"] (sp_Road_letters K CP CR CO CB) := by
  refine F.mtN TC.cls (fun _ _ _ _ _ _ us hl => match us, hl with | [_], _ => rfl) fun f fd F => fun_okN F scRoad_letters (fun vs H Q E h => ?_) (fun cdv A outer s H vs Q E hr h => ?_)
  · obtain ⟨a, p, R, rfl, _⟩ := h
    rfl
  · obtain ⟨a, p, R, rfl, hR, q⟩ := h
    obtain ⟨fs, o, pf⟩ := hR.obj
    obtain ⟨xs, hl, hi⟩ := hR.line
    refine ⟨_, (pss_one (ps_ret (pe_callTy (call_listK (K := K)) (by rfl) T.b_list (by decide +kernel) (pa_cons (pe_fldK (K := K) (pv 0) rfl) pa_nil)))), ?_⟩
    walk_at "s"
    refine w_field o TC.cls TC.line pf.line ?_
    walk_at "s"
    exact ⟨_, _, rfl, .inl (SqL.of hl), fun l hn => q _ l xs (Chg.new hn) hn upd_same (hi.on (Chg.new (l := []) hn))⟩
end
end Sh
namespace Sh
open PySem L2 PySem.Spec PyProof.Rows
local macro_rules | `(tactic| walk_at "s1") => `(tactic| first
  | with_reducible refine w_seq ?_
  | with_reducible refine w_asg ?_
  | with_reducible refine w_name ?_
  | with_reducible refine w_ret ?_
  | with_reducible refine w_retN ?_
  | with_reducible refine w_drop ?_
  | with_reducible refine w_next ?_
  | with_reducible refine w_ifS ?_
  | ((with_reducible refine' w_var ?h ?_); (case h => rfl))
  | with_reducible refine w_c ?_
  | with_reducible refine w_op ?_
  | with_reducible refine w_un ?_
  | with_reducible refine w_sl ?_
  | with_reducible refine w_nopart ?_
  | with_reducible refine w_part ?_
  | with_reducible refine w_exint ?_
  | with_reducible refine w_exbl ?_
  | with_reducible refine w_exbl' ?_
  | with_reducible refine w_exint' ?_
  | with_reducible refine w_nn ?_
  | with_reducible refine w_test ?_
  | with_reducible refine w_B ?_
  | with_reducible refine w_and ?_
  | with_reducible refine w_or ?_
  | with_reducible refine w_not ?_
  | with_reducible refine w_andV ?_
  | with_reducible refine w_orV ?_
  | with_reducible refine w_notV ?_
  | with_reducible refine w_ifE ?_
  | with_reducible refine w_nil ?_
  | with_reducible refine w_cons ?_
  | with_reducible refine w_tup ?_
  | with_reducible refine w_lst ?_
  | with_reducible refine w_CB ?_
  | with_reducible refine w_fn ?_
  | with_reducible refine w_T ?_
  | with_reducible refine w_F ?_
  | with_reducible refine w_I0 ?_
  | with_reducible refine w_U ?_
  | with_reducible refine w_addI ?_
  | with_reducible refine w_eqI ?_
  | with_reducible refine w_neI ?_
  | with_reducible refine w_eqS ?_
  | with_reducible refine w_neS ?_
  | with_reducible refine w_for ?_
  | with_reducible refine w_rng1 ?_
  | with_reducible refine w_rng2 ?_
  | with_reducible refine w_iStr ?_
  | with_reducible refine w_iTup ?_
  | with_reducible refine w_iList ?_
  | with_reducible refine w_iEnumT ?_
  | with_reducible refine w_iZip3 ?_
  | with_reducible refine w_iZipA ?_
  | with_reducible refine w_BM ?_
  | with_reducible refine w_gCons ?_
  | with_reducible refine w_gNil ?_
  | ((with_reducible refine' w_gTup ?h ?e ?_); (case h => exact SqT.of upd_same); (case e => rfl))
  | ((with_reducible refine' w_aug ?h ?_); (case h => rfl))
  | with_reducible refine w_ip ?_
  | with_reducible refine w_lc ?_
  | with_reducible refine w_fld ?_
  | with_reducible refine w_chain ?_
  | with_reducible refine w_mt ?_
  | with_reducible refine w_fset ?_
  | with_reducible refine w_dget ?_
  | with_reducible refine w_din ?_
  | with_reducible refine w_dput ?_
  | with_reducible refine w_dnew ?_
  | with_reducible refine w_keys ?_
  | with_reducible refine w_nT ?_
  | with_reducible refine w_nF ?_
  | with_reducible refine w_rowIndex ?_)
local macro_rules | `(tactic| walk_at "s") => `(tactic| repeat (walk_at "s1"))
section
variable {P : Program} {w : World} {K : PySem.W.Frag} {mg : Str → Option Value} {base : Heap} {CP CR CO CB : Addr}
def tryB (K : PySem.W.Frag) (CP CR CO CB : Addr) : WX → TS := fun W => tAsg (tMtS CO "do" (sp_Road_do K CP CR CO CB) (WE W) (tVar 2) (tCons (tTup (tCons (tVar 8) (tCons (tVar 5) tNil))) tNil)) (gName 9)
def tryS (K : PySem.W.Frag) (CP CR CO CB : Addr) : TS := tRet (tOp (rEqA K) (tMt CO "letters" (sp_Road_letters K CP CR CO CB) E0 (tVar 2) tNil) (tVar 4))
theorem w_mtS {C : Addr} {m : Str} {sp : Sp} {E : L2.St → XK} {ta : TE} {t : TA} {σ : L2.St} {H : Hp} {Q : VK} (h : ta σ H fun x H1 => ∃ a dx fs, x = .ref a ∧ H1 a = some (.ins C dx fs) ∧ fs.lookup m = none ∧ t σ H1 fun vs H2 => sp (.ref a :: vs) H2 Q (E σ)) : tMtS C m sp E ta t σ H Q := h
theorem cutV_to {xs : List V} {k : Nat} (h : k ≤ xs.length) : cutV xs none (some (k : Int)) = xs.take k := by
  unfold cutV
  have e1 : HT.sIx xs.length 0 none = 0 := rfl
  have e2 : HT.sIx xs.length xs.length (some (k : Int)) = min k xs.length := HT.sIx_nat ..
  rw [e1, e2, Nat.min_eq_left h]
  simp
theorem cutV_from {xs : List V} {k : Nat} (h : k ≤ xs.length) : cutV xs (some (k : Int)) none = xs.drop k := by
  unfold cutV
  have e1 : HT.sIx xs.length 0 (some (k : Int)) = min k xs.length := HT.sIx_nat ..
  have e2 : HT.sIx xs.length xs.length none = xs.length := rfl
  rw [e1, e2, Nat.min_eq_left h]
  exact List.take_of_length_le (by simp)
theorem letter_01 {p : Pact} {a : At} {n : Nat} {hd : List Int} : B01 (letterOf p a n hd) := by
  refine (show B01 (bitsL _ _) from bitsL_01 _ _).app ((show B01 (bitsL _ _) from bitsL_01 _ _).app (B01.app ?_ (show B01 (bitsL _ _) from bitsL_01 _ _)))
  match a with
  | none => exact wpcs_01 _ _
  | some (i, f) => exact pcs_01 _ _ _
theorem strOk_S {l : List Nat} (h : B01 l) : PyData.strOk (S l) = true := by
  unfold PyData.strOk S
  simp only [List.all_toArray, List.all_eq_true, decide_eq_true_eq]
  intro c hc
  rcases h c hc with z | z <;> omega
theorem lay_letters {p : Pact} {hs : List (List Int)} {line : List (At × Nat)} : ∀ d ∈ line.map (letterD p hs), d.canLay0 = true ∧ d.depth ≤ 10 := by
  intro d hd
  obtain ⟨l, _, rfl⟩ := List.mem_map.mp hd
  unfold letterD
  refine ⟨by simp [PyData.canLay0, PyData.canLayAll0, strOk_S letter_01], by simp [PyData.depth, PyData.depthAll]⟩
theorem noRows_letters {p : Pact} {hs : List (List Int)} : ∀ line : List (At × Nat), noRows (line.map (letterD p hs)) = true
  | [] => rfl
  | l :: line => by
    rw [List.map_cons]
    simp [noRows, noRow, letterD, noRows_letters line]
theorem dp_letters {H : Hp} {xs : List V} {p : Pact} {hs : List (List Int)} {line : List (At × Nat)} (h : Iss K H xs (line.map (letterD p hs))) : DpAll K H xs (line.map (letterD p hs)) := Iss.dp _ _ (noRows_letters line) h
theorem shaped_tuple {ds : List PyData} (h : ∀ d ∈ ds, d.canLay0 = true ∧ d.depth ≤ 10) : SeqAt.shaped (.tuple ds) = true := by
  have h2 := canLayAll_of ds h
  unfold SeqAt.shaped
  rw [Bool.and_eq_true]
  refine ⟨by simp [PyData.canLay0, h2.1], decide_eq_true ?_⟩
  simp only [PyData.depth]
  omega
theorem out_hx {ad : Adr} {rd hx' : Addr} (h : rd ∉ ad.all) (h2 : rd ≠ hx') : ∀ c ∈ ({ ad with hx := hx' } : Adr).all, c ∉ [rd] := by
  intro c hc hm
  have e : c = rd := by simpa using hm
  subst e
  simp only [Adr.all, List.mem_cons, List.not_mem_nil, or_false, not_or] at hc h
  obtain ⟨h1, h3, h4, h5, h6, h7, h8, h9⟩ := h
  rcases hc with z | z | z | z | z | z | z | z
  · exact h1 z
  · exact h3 z
  · exact h4 z
  · exact h5 z
  · exact h2 z
  · exact h7 z
  · exact h8 z
  · exact h9 z
/-- two lists of the same letters -/
theorem eqv_letters {p : Pact} {hs : List (List Int)} {line : List (At × Nat)} : PyData.eqv (.list (line.map (letterD p hs))) (.list (line.map (letterD p hs))) = true :=
  SeqAt.eqv_refl _ (SeqAt.canLay_of_shaped (shaped_list lay_letters))
theorem lay_head (hd : List Int) : (headD hd).canLay0 = true ∧ (headD hd).depth ≤ 10 := by
  have h := canLayAll_of (hd.map PyData.int) lay_ints
  have h2 : PyData.depthAll (hd.map PyData.int) ≤ 1 := depth_ints hd
  refine ⟨by simp [headD, PyData.canLay0, h.1], ?_⟩
  simp only [headD, PyData.depth]
  omega
theorem lay_str {s : Str} (h : PyData.strOk s = true) : (PyData.str s).canLay0 = true ∧ (PyData.str s).depth ≤ 10 := ⟨by simp [PyData.canLay0, h], by simp [PyData.depth]⟩
theorem noRow_head (hd : List Int) : noRow (headD hd) = true := by simp [headD, noRow, noRows_ints]
theorem sclaw_comes : FnScope ["_law_box_here", "_law_pact_here", "_law_road_here", "_law_read", "_law_before", "_law_k", "_law_number", "_law_letter", "_law_word", "_law_told"] ["_law_box_here", "_law_pact_here", "_law_road_here", "_law_read"] (defScope slaw_comes) := ⟨rfl, rfl, rfl, by decide +kernel, rfl, by decide +kernel, by decide +kernel⟩
def sp_law_comes (K : PySem.W.Frag) (CP CR CO CB : Addr) : Sp := fun vs H Q _ => ∃ (b ow rd : Addr) (tn : Nat) (x : V) (ad : Adr) (p : Pact) (R : RoadS) (reads : List Int), vs = [.ref b, x, .ref ad.o, .ref rd] ∧ Bx H b ow tn ∧ tn ≤ 2 ^ 56 ∧ Is K H x (pactD p) ∧ RoadAt K CP CR CO H ad p R ∧ Out b ow ad ∧
  H rd = some (.lst (reads.map V.int)) ∧ rd ∉ ad.all ∧ rd ≠ ow ∧ reads.length ≤ 5000 ∧ (∀ k ∈ R.r.keys, (k : Int) ∈ reads) ∧ R.line ≠ [] ∧ R.back.length ≤ 4000 ∧ R.s.past.length ≤ 399 ∧
  ∀ (H' : Hp) (hx' : Addr) (R' : RoadS) (reads' : List Int), Chg (b :: ow :: rd :: ad.all) H H' → (hx' = ad.hx ∨ H hx' = none) → Bx H' b ow (tn + 20) → RoadAt K CP CR CO H' { ad with hx := hx' } p R' → H' rd = some (.lst (reads'.map V.int)) → reads'.length ≤ reads.length + 1 → (∀ k ∈ R'.r.keys, (k : Int) ∈ reads') → R'.s.past = R.s.past → R'.back.length ≤ R.back.length + 1 → Q (.bl true) H'
theorem ok_law_comes (T : Txt K mg) (F : Top K mg "_law_comes" slaw_comes) (F_law_is_whole : Fk P w K mg base CX0 2 "_law_is_whole" ["_law_pact_here", "_law_letter"] (sp_law_is_whole K)) (M_Road_heads : Mt P w K mg base CX0 1 CO "heads" ["self"] (sp_Road_heads K CP CR CO CB)) (M_Road_letters : Mt P w K mg base CX0 1 CO "letters" ["self"] (sp_Road_letters K CP CR CO CB)) (M_Road_do : Mt P w K mg base (L2.CX P w) 12 CO "do" ["self", "deed"] (sp_Road_do K CP CR CO CB)) (F_law_of : Fk P w K mg base CX0 2 "_law_of" ["_law_box_here", "_law_some"] (sp_law_of K)) (F_law_place : Fk P w K mg base CX0 3 "_law_place" ["_law_box_here", "_law_many"] (sp_law_place K)) (TB : TxtB K mg CB) (N_Road_letters : MtN P w K mg base 1 CO "letters" ["self"] (sp_Road_letters K CP CR CO CB)) : Fk P w K mg base CX0 13 "_law_comes" ["_law_box_here", "_law_pact_here", "_law_road_here", "_law_read"] (sp_law_comes K CP CR CO CB) := by
  refine F.fk (fun _ _ _ _ _ _ us hl => match us, hl with | [_, _, _, _], _ => rfl) fun f fd F => F.ok sclaw_comes (fun vs H Q E h => ?_) (fun cdv A outer s H vs Q E hr h => ?_)
  · obtain ⟨b, ow, rd, tn, x, ad, p, R, reads, rfl, _⟩ := h
    rfl
  · obtain ⟨b, ow, rd, tn, x, ad, p, R, reads, rfl, hB, hT, ix, hR, hO, hrd, hrdO, hrdo, hrl, hkr, hne, hbf, hfew, q⟩ := h
    obtain ⟨fs, o, pf⟩ := hR.obj
    have hp := hR.pre.ok
    have hpos : 0 < R.line.length := List.length_pos_iff.mpr hne
    have hfl := hR.inv.few
    have hall : ∀ c ∈ ad.all, c ∉ [b, ow] := fun c hc => by
      simp only [List.mem_cons, List.not_mem_nil, or_false]
      rintro (e | e)
      · exact hO.1 (e ▸ hc)
      · exact hO.2 (e ▸ hc)
    have hrdb : rd ≠ b := by
      obtain ⟨ns, s, t, e1, e2, e3⟩ := hB
      exact fun e => by rw [e, e1] at hrd; cases hrd
    refine ⟨_, (pss_cons (ps_set (i := 4) sclaw_comes.nd rfl (Or.inl rfl) (pe_mt0 M_Road_letters hr (pv 2))) (pss_cons (ps_set (i := 5) sclaw_comes.nd rfl (Or.inl rfl) (pe_fn F_law_place hr rfl (pa_cons (pv 0) (pa_cons (pe_callB (call_lenK (K := K)) (by rfl) T.b_len PySem.boot_len (pa_cons (pv 4) pa_nil)) pa_nil)))) (pss_cons (ps_asg (pe_ixK (K := K) (pv 4) (pv 5) (fun _ _ => rfl)) (pg_tupK (K := K) (n := 2) rfl (pgs_cons (pg_name (i := 6) sclaw_comes.nd rfl (Or.inl rfl)) (pgs_cons (pg_name (i := 7) sclaw_comes.nd rfl (Or.inl rfl)) pgs_nil)))) (pss_cons (ps_set (i := 8) sclaw_comes.nd rfl (Or.inl rfl) (pe_fn F_law_of hr rfl (pa_cons (pv 0) (pa_cons (pe_lst (pa_cons pe_str (pa_cons pe_str (pa_cons pe_str pa_nil)))) pa_nil)))) (pss_cons (ps_try_only (tb := tryB K CP CR CO CB) (ts := fun _ _ _ => tryS K CP CR CO CB) (Wout := fun _ _ _ _ => False) rfl rfl ⟨rfl, by decide, Or.inl TB.gC⟩ takes0 (fun W pn xe tk _ => (pss_one (ps_set (i := 9) sclaw_comes.nd rfl (Or.inl rfl) (pe_mtS M_Road_do hr (pv 2) (pa_cons (pe_tup (pa_cons (pv 8) (pa_cons (pv 5) pa_nil))) pa_nil) (fun σ => passAt tk σ))))) (fun a oe cls d pn hz hf => (pss_one (ps_ret (pe_cmpR (op_eqK (K := K) (by exact hr.units)) (pe_mtN0 N_Road_letters (roomN_mark hr) (pv 2)) (pv 4) (nomark _)))))) (pss_cons (ps_if (pt_cmpR (op_neK (K := K) hr.units) (pe_mt0 M_Road_letters hr (pv 2)) (pe_op (op_addK (K := K)) (pe_slK (K := K) (pv 4) po_none (po_some (pv 5))) (pe_slK (K := K) (pv 4) (po_some (pe_op (op_addK (K := K)) (pv 5) (pe_callTy call_int1 (by rfl) T.b_int (by decide +kernel) (pa_cons (pe_cmpR (op_eqK (K := K) hr.units) (pv 8) pe_str (nomark _)) pa_nil)))) po_none)) (nomark _)) (pss_one (ps_ret pe_bl)) pss_nil) (pss_cons (ps_if (pt_cmpR (op_eqK (K := K) hr.units) (pe_ixK (K := K) (pv 9) pe_int (fun _ _ => rfl)) pe_str (nomark _)) (pss_cons (ps_expr (pe_bmK (K := K) PySem.F.plainAttrs_list PySem.F.slot_list_append PySem.F.type_list_append mt_append (pv 3) (pa_cons (pv 6) pa_nil))) (pss_one (ps_ret (pe_cmpR (op_eqK (K := K) hr.units) (pv 9) (pe_tup (pa_cons pe_str (pa_cons (pv 6) (pa_cons (pe_ixK (K := K) (pe_mt0 M_Road_heads hr (pv 2)) (pv 6) (fun _ _ => rfl)) pa_nil)))) (nomark _))))) pss_nil) (pss_cons (ps_if (pt_cmpR (op_eqK (K := K) hr.units) (pe_ixK (K := K) (pv 9) pe_int (fun _ _ => rfl)) pe_str (nomark _)) (pss_one (ps_ret (pe_and (pe_cmpR (op_eqK (K := K) hr.units) (pv 9) (pe_tup (pa_cons pe_str (pa_cons (pv 6) pa_nil))) (nomark _)) (pe_one (pe_cmpR (op_inK (K := K) (hu65 hr)) (pv 6) (pv 3) (by rfl)))))) pss_nil) (pss_one (ps_ret (pe_and (pe_cmpR (op_inK (K := K) (hu65 hr)) (pv 9) (pe_tup (pa_cons (pe_tup (pa_cons pe_str (pa_cons pe_str pa_nil))) (pa_cons (pe_tup (pa_cons pe_str (pa_cons pe_str pa_nil))) pa_nil))) (by rfl)) (pe_one (pe_not (pe_fn F_law_is_whole hr rfl (pa_cons (pv 1) (pa_cons (pv 7) pa_nil)))))))))))))))), ?_⟩
    walk_at "s"
    refine w_self o (pf.no _ (by decide +kernel)) ?_
    walk_at "s"
    refine ⟨ad, p, R, rfl, hR, fun H1 l xs c1 hl hL hi => ?_⟩
    have hlen : xs.length = R.line.length := by rw [hi.length, List.length_map]
    have hlO : l ∉ ad.all := by
      intro hm
      have hsome : ∃ u, H l = some u := by
        obtain ⟨f2, o2, _⟩ := hR.pre.obj
        obtain ⟨y2, l2, _⟩ := hR.pre.lst
        obtain ⟨f3, o3, _⟩ := hR.rdr.obj
        obtain ⟨vf, d3, _⟩ := hR.rdr.dict
        obtain ⟨y4, l4, _⟩ := hR.line
        obtain ⟨y5, l5, _⟩ := hR.back
        obtain ⟨y6, l6, _⟩ := hR.row
        simp only [Adr.all, List.mem_cons, List.not_mem_nil, or_false] at hm
        rcases hm with z | z | z | z | z | z | z | z <;> rw [z] <;> exact ⟨_, by assumption⟩
      obtain ⟨u, hu⟩ := hsome
      rw [hu] at hl
      cases hl
    have hlb : l ≠ b := hB.ne_b hl
    have hlo : l ≠ ow := hB.ne_ow hl
    have hlr : l ≠ rd := fun e => by rw [e, hrd] at hl; cases hl
    walk_at "s"
    refine w_lenL hL ?_
    rw [hlen]
    walk_at "s"
    refine ⟨b, ow, _, R.line.length, rfl, hB.calm c1, by omega, hpos, by omega, fun H2 k c2 B2 hk => ?_⟩
    have ek : R.line[k]? = some R.line[k] := List.getElem?_eq_getElem hk
    generalize R.line[k] = an at ek
    obtain ⟨a, n⟩ := an
    have hlo' := hR.inv.line _ (List.mem_of_getElem? ek)
    obtain ⟨v0, e0, iv0⟩ := getMapD hi ek
    obtain ⟨a1, xs1, rfl, t1, s1⟩ := iv0.tup_eq
    obtain ⟨u1, u2, rfl, j1, j2⟩ := s1.two
    obtain rfl := j1.int_eq
    obtain rfl := j2.str_eq
    have hL2 := c2.keep _ _ hL (by simp [hlb, hlo])
    have hi2 := hi.on c2
    walk_at "s"
    refine w_ixL (SqL.of hL2) (atI_nat e0) ?_
    refine w_gTup (t1.mono c2) rfl ?_
    walk_at "s"
    refine ⟨sz1000 (by simp), fun al hal => ?_⟩
    refine ⟨b, ow, _, al, _, rfl, B2.new hal, by omega, upd_same, B2.ne_ow hal, by simp, by simp, fun H3 v3 c3 B3 hv3 => ?_⟩
    obtain ⟨wd, rfl, hwd⟩ : ∃ wd : Wd, v3 = .str wd.name ∧ (wd = .come ∨ wd = .copy) := by
      simp only [List.mem_cons, List.not_mem_nil, or_false] at hv3
      rcases hv3 with rfl | rfl | rfl
      · exact ⟨.come, rfl, .inl rfl⟩
      · exact ⟨.come, rfl, .inl rfl⟩
      · exact ⟨.copy, rfl, .inr rfl⟩
    have c23 : Chg [b, ow] H2 H3 := (Chg.new hal).trans c3
    have c03 : Chg [b, ow] H H3 := (c1.nil.trans c2).trans c23
    have hL3 := c23.keep _ _ hL2 (by simp [hlb, hlo])
    have hi3 := hi2.on c23
    have hR3 := hR.on c03 hall
    have hrd3 := c03.keep _ _ hrd (by simp [hrdb, hrdo])
    obtain ⟨fs3, o3, pf3⟩ := hR3.obj
    refine w_name ?_
    refine w_seq ?_
    -- the try
    show tryB K CP CR CO CB _ _ _ _
    unfold tryB
    refine w_asg ?_
    refine w_mtS ?_
    walk_at "s"
    refine w_self o3 (pf3.no _ (by decide +kernel)) ?_
    walk_at "s"
    refine ⟨sz1000 (by simp), fun u hu => ?_⟩
    have iu : Is K (upd H3 u (.tup [.str wd.name, .int k])) (.ref u) (deedD (.place wd k)) := is_new (.cons (.str _) (Iss.one (.int _))) hu
    have c4 : Chg [] H3 (upd H3 u (.tup [.str wd.name, .int k])) := Chg.new hu
    generalize upd H3 u (.tup [.str wd.name, .int k]) = H4 at iu c4 ⊢
    have hR4 := hR3.calm c4
    have hL4 := c4.keep _ _ hL3 (by simp)
    have hi4 := hi3.on c4
    walk_at "s"
    refine ⟨ad, p, R, .place wd k, _, rfl, hR4, iu, by omega, ?_⟩
    have place : ∀ (Q' : VK) (E' : XK), (∀ cm : Bool, decide (wd.name = "come") = cm → ArrR K CP CR CO CB H4 ad p R Q' E' cm k) → PlaceR K CP CR CO CB H4 ad p R Q' E' wd k := by
      intro Q' E' h
      rcases hwd with rfl | rfl
      · exact h true (by decide +kernel)
      · exact h false (by decide +kernel)
    have wide : ∀ {l1 : List Addr} {G G' : Hp}, Chg l1 G G' → (∀ c ∈ l1, c ∈ b :: ow :: rd :: ad.all) → Chg (b :: ow :: rd :: ad.all) G G' := fun c h => c.mono h
    have c04 : Chg (b :: ow :: rd :: ad.all) H H4 := (wide c03 (by simp)).trans c4.nil
    have B4 : Bx H4 b ow (tn + 3) := (B3.calm c4).le (by omega)
    have hrd4 := c4.keep _ _ hrd3 (by simp)
    refine place _ _ fun cm hcm => ⟨a, n, ek, by omega, fun hb H5 c5 => ?_, fun hb H5 hx' r' e wdd v c5 hhx hR5 hrr iv => ?_⟩
    · refine ⟨true, TB.exm, fun _ a0 _ => ?_, fun h => nomatch h⟩
      have hR5 := hR4.calm c5
      obtain ⟨fs5, o5, pf5⟩ := hR5.obj
      show tryS K CP CR CO CB _ _ _
      unfold tryS
      walk_at "s"
      refine w_self o5 (pf5.no _ (by decide +kernel)) ?_
      walk_at "s"
      refine ⟨ad, p, R, rfl, hR5, fun H6 l6 xs6 c6 hl6 hL6 hi6 => ?_⟩
      walk_at "s"
      have c56 := c5.trans c6
      refine w_eqD (.lst (SqL.of hL6) (dp_letters hi6)) (.lst (SqL.of (c56.keep _ _ hL4 (by simp))) (dp_letters (hi4.on c56))) (shaped_list lay_letters) (shaped_list lay_letters) ?_
      rw [eqv_letters]
      exact q _ ad.hx R reads (c04.trans c56.nil) (.inl rfl) ((B4.calm c56).le (by omega)) (hR5.calm c6) (c56.keep _ _ hrd4 (by simp)) (by omega) hkr rfl (by omega)
    · have hLO : l ∉ ad.all := hlO
      have c05 : Chg (b :: ow :: rd :: ad.all) H H5 := c04.trans (wide c5 (by intro c hc; simp [hc]))
      have hxf : hx' = ad.hx ∨ H hx' = none := by
        rcases hhx with z | z
        · exact .inl z
        · refine .inr ?_
          by_cases hz : hx' ∈ [b, ow]
          · exfalso
            obtain ⟨ns, s9, t9, e1, e2, e3⟩ := B4
            simp only [List.mem_cons, List.not_mem_nil, or_false] at hz
            rcases hz with z' | z'
            · rw [z', e1] at z; cases z
            · rw [z', e2] at z; cases z
          · exact c03.free (c4.free z (by simp)) hz
      have B5 : Bx H5 b ow (tn + 3) := B4.on c5 hO.1 hO.2
      have hrd5 := c5.keep _ _ hrd4 hrdO
      have hL5 := c5.keep _ _ hL4 hLO
      have hi5 := hi4.on c5
      have hbeq : ∀ {α : Type} (line : List α), (if cm then line.eraseIdx k else line) = line.take k ++ line.drop (k + if cm then 1 else 0) := by
        intro α line
        cases cm with
        | true => simp [List.eraseIdx_eq_take_drop_succ]
        | false => simp
      obtain ⟨fs5, o5, pf5⟩ := hR5.obj
      have o5' : H5 ad.o = some (.ins CO ad.odx fs5) := o5
      walk_at "s"
      refine w_self o5' (pf5.no _ (by decide +kernel)) ?_
      walk_at "s"
      refine ⟨{ ad with hx := hx' }, p, _, rfl, hR5, fun H6 l6 xs6 c6 hl6 hL6 hi6 => ?_⟩
      walk_at "s"
      refine w_slL (SqL.of (c6.keep _ _ hL5 (by simp))) fun p1 hp1 => ?_
      rw [cutV_to (by omega)]
      have c7 : Chg [] H6 (upd H6 p1 (.lst (xs.take k))) := Chg.new hp1
      have h71 : upd H6 p1 (.lst (xs.take k)) p1 = some (.lst (xs.take k)) := upd_same
      generalize upd H6 p1 (.lst (xs.take k)) = H7 at c7 h71 ⊢
      walk_at "s"
      refine .inr ⟨_, rfl, ?_⟩
      rw [hcm]
      walk_at "s"
      have ek2 : (k : Int) + (if cm = true then 1 else 0) = ((k + if cm then 1 else 0 : Nat) : Int) := by cases cm <;> simp
      rw [ek2]
      refine w_slL (SqL.of (c7.keep _ _ (c6.keep _ _ hL5 (by simp)) (by simp))) fun p2 hp2 => ?_
      rw [cutV_from (by cases cm <;> simp <;> omega)]
      have c8 : Chg [] H7 (upd H7 p2 (.lst (xs.drop (k + if cm then 1 else 0)))) := Chg.new hp2
      have h82 : upd H7 p2 (.lst (xs.drop (k + if cm then 1 else 0))) p2 = some (.lst (xs.drop (k + if cm then 1 else 0))) := upd_same
      have h81 := c8.keep _ _ h71 (by simp)
      generalize upd H7 p2 (.lst (xs.drop (k + if cm then 1 else 0))) = H8 at c8 h82 h81 ⊢
      refine .inr (.inr (.inl ⟨p1, p2, _, _, rfl, rfl, h81, h82, ?_, fun p3 hp3 => ?_⟩))
      · rw [List.length_take, List.length_drop]
        exact sz1000 (by omega)
      have c9 : Chg [] H8 (upd H8 p3 (.lst (xs.take k ++ xs.drop (k + if cm then 1 else 0)))) := Chg.new hp3
      have h93 : upd H8 p3 (.lst (xs.take k ++ xs.drop (k + if cm then 1 else 0))) p3 = some (.lst (xs.take k ++ xs.drop (k + if cm then 1 else 0))) := upd_same
      generalize upd H8 p3 (.lst (xs.take k ++ xs.drop (k + if cm then 1 else 0))) = H9 at c9 h93 ⊢
      have c69 : Chg [] H6 H9 := (c7.trans c8).trans c9
      have c59 : Chg [] H5 H9 := c6.trans c69
      have hcat : Iss K H9 (xs.take k ++ xs.drop (k + if cm then 1 else 0)) ((if cm then R.line.eraseIdx k else R.line).map (letterD p R.s.past)) := by
        rw [hbeq R.line, List.map_append, List.map_take, List.map_drop]
        exact ((hi5.on c59).take k).append ((hi5.on c59).drop _)
      refine w_neD (.lst (SqL.of (c69.keep _ _ hL6 (by simp))) (dp_letters (hi6.on c69))) (.lst (SqL.of h93) (dp_letters hcat)) (shaped_list lay_letters) (shaped_list lay_letters) ?_
      rw [show PyData.eqv (.list ((if cm then R.line.eraseIdx k else R.line).map (letterD p R.s.past))) (.list ((if cm then R.line.eraseIdx k else R.line).map (letterD p R.s.past))) = true from eqv_letters]
      walk_at "s"
      have hR9 := hR5.calm c59
      have iv9 := iv.on c59
      have hrd9 := c59.keep _ _ hrd5 (by simp)
      have B9 := B5.calm c59
      have c09 : Chg (b :: ow :: rd :: ad.all) H H9 := c05.trans c59.nil
      obtain ⟨fs9, o9, pf9⟩ := hR9.obj
      have o9' : H9 ad.o = some (.ins CO ad.odx fs9) := o9
      have hh : ∀ h ∈ R.s.past, HeadOk p.fs h := hR.pre.heads
      have hnl := hlo'.lt
      have eg : R.s.past.getD n [] = R.s.past[n] := by rw [List.getD_eq_getElem?_getD, List.getElem?_eq_getElem hnl]; rfl
      have hhn : HeadOk p.fs (R.s.past.getD n []) := by rw [eg]; exact hh _ (List.getElem_mem hnl)
      have iletter : ∀ H', Chg [] H9 H' → True := fun _ _ => trivial
      cases hrr with
      | read keys hnd hsub =>
        refine w_ixDS iv9 rfl ?_
        walk_at "s"
        refine w_ifT rfl ?_
        walk_at "s"
        refine ⟨.inl ⟨rfl, _, SqL.of hrd9⟩, ?_⟩
        walk_at "s"
        refine ⟨rd, _, _, rfl, rfl, hrd9, sl1000 (by rw [List.length_map]; omega), ?_⟩
        have c10 : Chg [rd] H9 (upd H9 rd (.lst (reads.map V.int ++ [.int n]))) := Chg.refl.put (by simp) hrd9 rfl
        have hrd10 : upd H9 rd (.lst (reads.map V.int ++ [.int n])) rd = some (.lst ((reads ++ [(n : Int)]).map V.int)) := by rw [upd_same, List.map_append]; rfl
        have hrhx : rd ≠ hx' := by
          rcases hxf with y | y
          · intro z
            exact hrdO (by rw [z, y]; simp [Adr.all])
          · intro z
            rw [z, y] at hrd
            cases hrd
        have hR10 := hR9.on c10 (out_hx hrdO hrhx)
        have B10 := B9.on c10 (by simpa using Ne.symm hrdb) (by simpa using Ne.symm hrdo)
        have iv10 := iv9.on c10
        have c010 := c09.trans (wide c10 (by simp))
        generalize upd H9 rd (.lst (reads.map V.int ++ [.int n])) = H10 at c10 hrd10 hR10 B10 iv10 c010 ⊢
        obtain ⟨fs10, o10, pf10⟩ := hR10.obj
        have o10' : H10 ad.o = some (.ins CO ad.odx fs10) := o10
        walk_at "s"
        refine w_self o10' (pf10.no _ (by decide +kernel)) ?_
        walk_at "s"
        refine ⟨{ ad with hx := hx' }, p, _, rfl, hR10, fun H11 l11 xs11 c11 hl11 hL11 hi11 => ?_⟩
        walk_at "s"
        have ep : R.s.past[n]? = some (R.s.past.getD n []) := by rw [eg]; exact List.getElem?_eq_getElem hnl
        obtain ⟨v11, e11, i11⟩ := getMapD hi11 ep
        refine w_ixL (SqL.of hL11) (atI_nat e11) ?_
        walk_at "s"
        refine ⟨sz1000 (by simp), fun u11 hu11 => ?_⟩
        have c12 : Chg [] H11 (upd H11 u11 (.tup [.str "read", .int n, v11])) := Chg.new hu11
        have i12 : Is K (upd H11 u11 (.tup [.str "read", .int n, v11])) (.ref u11) (.tuple [.str "read", .int n, headD (R.s.past.getD n [])]) := is_new (.cons (.str _) (.cons (.int _) (Iss.one i11))) hu11
        have hsh : SeqAt.shaped (.tuple [.str "read", .int n, headD (R.s.past.getD n [])]) = true := shaped_tuple (by
          intro d hd
          simp only [List.mem_cons, List.not_mem_nil, or_false] at hd
          rcases hd with rfl | rfl | rfl
          · exact lay_str (by decide +kernel)
          · exact lay_int _
          · exact lay_head _)
        have hnr : noRow (.tuple [.str "read", .int n, headD (R.s.past.getD n [])]) = true := by simp [noRow, noRows, noRow_head]
        have c1012 := c11.trans c12
        generalize upd H11 u11 (.tup [.str "read", .int n, v11]) = H12 at c12 i12 c1012 ⊢
        refine w_eqD ((iv10.on c1012).dp _ _ hnr) (i12.dp _ _ hnr) hsh hsh ?_
        rw [SeqAt.eqv_refl _ (SeqAt.canLay_of_shaped hsh)]
        refine q _ hx' _ (reads ++ [(n : Int)]) (c010.trans c1012.nil) hxf ((B10.calm c1012).le (by omega)) (hR10.calm c1012) (c1012.keep _ _ hrd10 (by simp)) (by simp) (fun kk hkk => ?_) rfl (by simp)
        rcases List.mem_cons.mp (hsub kk hkk) with z | z
        · subst z; simp
        · exact List.mem_append_left _ (hkr kk z)
      | twice hmem =>
        refine w_ixDS iv9 rfl ?_
        walk_at "s"
        refine w_ifF (by decide +kernel) ?_
        walk_at "s"
        refine w_ixDS iv9 rfl ?_
        walk_at "s"
        refine w_ifT rfl ?_
        walk_at "s"
        refine ⟨sz1000 (by simp), fun u11 hu11 => ?_⟩
        have c12 : Chg [] H9 (upd H9 u11 (.tup [.str "twice", .int n])) := Chg.new hu11
        have i12 : Is K (upd H9 u11 (.tup [.str "twice", .int n])) (.ref u11) (.tuple [.str "twice", .int n]) := is_new (.cons (.str _) (Iss.one (.int _))) hu11
        have hsh : SeqAt.shaped (.tuple [.str "twice", .int n]) = true := shaped_tuple (by
          intro d hd
          simp only [List.mem_cons, List.not_mem_nil, or_false] at hd
          rcases hd with rfl | rfl
          · exact lay_str (by decide +kernel)
          · exact lay_int _)
        generalize upd H9 u11 (.tup [.str "twice", .int n]) = H12 at c12 i12 ⊢
        refine w_eqD ((iv9.on c12).dp _ _ rfl) (i12.dp _ _ rfl) hsh hsh ?_
        rw [SeqAt.eqv_refl _ (SeqAt.canLay_of_shaped hsh)]
        walk_at "s"
        have hrd12 := c12.keep _ _ hrd9 (by simp)
        refine w_inLI hrd12 ?_
        rw [decide_eq_true (hkr n hmem)]
        exact q _ hx' _ reads (c09.trans c12.nil) hxf ((B9.calm c12).le (by omega)) (hR9.calm c12) hrd12 (by omega) hkr rfl (by simp)
      | blank hne2 htop =>
        refine w_ixDS iv9 rfl ?_
        walk_at "s"
        refine w_ifF (by decide +kernel) ?_
        walk_at "s"
        refine w_ixDS iv9 rfl ?_
        walk_at "s"
        refine w_ifF (by decide +kernel) ?_
        walk_at "s"
        refine ⟨sz1000 (by simp), fun p11 hp11 => ?_⟩
        have c11 : Chg [] H9 (upd H9 p11 (.tup [.str "not", .str "blank"])) := Chg.new hp11
        have i11 : Is K (upd H9 p11 (.tup [.str "not", .str "blank"])) (.ref p11) (.tuple [.str "not", .str "blank"]) := is_new (.cons (.str _) (Iss.one (.str _))) hp11
        generalize upd H9 p11 (.tup [.str "not", .str "blank"]) = H11 at c11 i11 ⊢
        walk_at "s"
        refine ⟨sz1000 (by simp), fun p12 hp12 => ?_⟩
        have c12 : Chg [] H11 (upd H11 p12 (.tup [.str "not", .str "far"])) := Chg.new hp12
        have i12 : Is K (upd H11 p12 (.tup [.str "not", .str "far"])) (.ref p12) (.tuple [.str "not", .str "far"]) := is_new (.cons (.str _) (Iss.one (.str _))) hp12
        have i11' := i11.on c12
        generalize upd H11 p12 (.tup [.str "not", .str "far"]) = H12 at c12 i12 i11' ⊢
        walk_at "s"
        refine ⟨sz1000 (by simp), fun p13 hp13 => ?_⟩
        have c13 : Chg [] H12 (upd H12 p13 (.tup [.ref p11, .ref p12])) := Chg.new hp13
        have i13 : Is K (upd H12 p13 (.tup [.ref p11, .ref p12])) (.ref p13) (.tuple [.tuple [.str "not", .str "blank"], .tuple [.str "not", .str "far"]]) := is_new (.cons i11' (Iss.one i12)) hp13
        have c913 := (c11.trans c12).trans c13
        generalize upd H12 p13 (.tup [.ref p11, .ref p12]) = H13 at c913 i13 ⊢
        refine .inr (.inr ⟨.tuple [.str "not", .str "blank"], _, (iv9.on c913).dp _ _ rfl, i13.dp _ _ rfl, by decide +kernel, by decide +kernel, ?_⟩)
        rw [show (List.any [PyData.tuple [.str "not", .str "blank"], .tuple [.str "not", .str "far"]] fun z => PyData.eqv z (.tuple [.str "not", .str "blank"])) = true by decide +kernel]
        walk_at "s"
        refine ⟨x, p, a, n, _, rfl, hp, hlo'.at_, hne2, hhn, (ix.on c09).on c913, ?_⟩
        walk_at "s"
        exact q _ hx' _ reads (c09.trans c913.nil) hxf ((B9.calm c913).le (by omega)) (hR9.calm c913) (c913.keep _ _ hrd9 (by simp)) (by omega) hkr rfl (by simp)
      | far keys hne2 htop hnd hsub =>
        refine w_ixDS iv9 rfl ?_
        walk_at "s"
        refine w_ifF (by decide +kernel) ?_
        walk_at "s"
        refine w_ixDS iv9 rfl ?_
        walk_at "s"
        refine w_ifF (by decide +kernel) ?_
        walk_at "s"
        refine ⟨sz1000 (by simp), fun p11 hp11 => ?_⟩
        have c11 : Chg [] H9 (upd H9 p11 (.tup [.str "not", .str "blank"])) := Chg.new hp11
        have i11 : Is K (upd H9 p11 (.tup [.str "not", .str "blank"])) (.ref p11) (.tuple [.str "not", .str "blank"]) := is_new (.cons (.str _) (Iss.one (.str _))) hp11
        generalize upd H9 p11 (.tup [.str "not", .str "blank"]) = H11 at c11 i11 ⊢
        walk_at "s"
        refine ⟨sz1000 (by simp), fun p12 hp12 => ?_⟩
        have c12 : Chg [] H11 (upd H11 p12 (.tup [.str "not", .str "far"])) := Chg.new hp12
        have i12 : Is K (upd H11 p12 (.tup [.str "not", .str "far"])) (.ref p12) (.tuple [.str "not", .str "far"]) := is_new (.cons (.str _) (Iss.one (.str _))) hp12
        have i11' := i11.on c12
        generalize upd H11 p12 (.tup [.str "not", .str "far"]) = H12 at c12 i12 i11' ⊢
        walk_at "s"
        refine ⟨sz1000 (by simp), fun p13 hp13 => ?_⟩
        have c13 : Chg [] H12 (upd H12 p13 (.tup [.ref p11, .ref p12])) := Chg.new hp13
        have i13 : Is K (upd H12 p13 (.tup [.ref p11, .ref p12])) (.ref p13) (.tuple [.tuple [.str "not", .str "blank"], .tuple [.str "not", .str "far"]]) := is_new (.cons i11' (Iss.one i12)) hp13
        have c913 := (c11.trans c12).trans c13
        generalize upd H12 p13 (.tup [.ref p11, .ref p12]) = H13 at c913 i13 ⊢
        refine .inr (.inr ⟨.tuple [.str "not", .str "far"], _, (iv9.on c913).dp _ _ rfl, i13.dp _ _ rfl, by decide +kernel, by decide +kernel, ?_⟩)
        rw [show (List.any [PyData.tuple [.str "not", .str "blank"], .tuple [.str "not", .str "far"]] fun z => PyData.eqv z (.tuple [.str "not", .str "far"])) = true by decide +kernel]
        walk_at "s"
        refine ⟨x, p, a, n, _, rfl, hp, hlo'.at_, hne2, hhn, (ix.on c09).on c913, ?_⟩
        walk_at "s"
        exact q _ hx' _ reads (c09.trans c913.nil) hxf ((B9.calm c913).le (by omega)) (hR9.calm c913) (c913.keep _ _ hrd9 (by simp)) (by omega) (fun kk hkk => hkr kk (hsub kk hkk)) rfl (by simp)
end
end Sh
namespace Sh
open PySem L2 PySem.Spec PyProof.Rows
local macro_rules | `(tactic| walk_at "s1") => `(tactic| first
  | with_reducible refine w_seq ?_
  | with_reducible refine w_asg ?_
  | with_reducible refine w_name ?_
  | with_reducible refine w_ret ?_
  | with_reducible refine w_retN ?_
  | with_reducible refine w_drop ?_
  | with_reducible refine w_next ?_
  | with_reducible refine w_ifS ?_
  | ((with_reducible refine' w_var ?h ?_); (case h => rfl))
  | with_reducible refine w_c ?_
  | with_reducible refine w_op ?_
  | with_reducible refine w_un ?_
  | with_reducible refine w_sl ?_
  | with_reducible refine w_nopart ?_
  | with_reducible refine w_part ?_
  | with_reducible refine w_exint ?_
  | with_reducible refine w_exbl ?_
  | with_reducible refine w_exbl' ?_
  | with_reducible refine w_exint' ?_
  | with_reducible refine w_nn ?_
  | with_reducible refine w_test ?_
  | with_reducible refine w_B ?_
  | with_reducible refine w_and ?_
  | with_reducible refine w_or ?_
  | with_reducible refine w_not ?_
  | with_reducible refine w_andV ?_
  | with_reducible refine w_orV ?_
  | with_reducible refine w_notV ?_
  | with_reducible refine w_ifE ?_
  | with_reducible refine w_nil ?_
  | with_reducible refine w_cons ?_
  | with_reducible refine w_tup ?_
  | with_reducible refine w_lst ?_
  | with_reducible refine w_CB ?_
  | with_reducible refine w_fn ?_
  | with_reducible refine w_T ?_
  | with_reducible refine w_F ?_
  | with_reducible refine w_I0 ?_
  | with_reducible refine w_U ?_
  | with_reducible refine w_addI ?_
  | with_reducible refine w_eqI ?_
  | with_reducible refine w_neI ?_
  | with_reducible refine w_eqS ?_
  | with_reducible refine w_neS ?_
  | with_reducible refine w_for ?_
  | with_reducible refine w_rng1 ?_
  | with_reducible refine w_rng2 ?_
  | with_reducible refine w_iStr ?_
  | with_reducible refine w_iTup ?_
  | with_reducible refine w_iList ?_
  | with_reducible refine w_iEnumT ?_
  | with_reducible refine w_iZip3 ?_
  | with_reducible refine w_iZipA ?_
  | with_reducible refine w_BM ?_
  | with_reducible refine w_gCons ?_
  | with_reducible refine w_gNil ?_
  | ((with_reducible refine' w_gTup ?h ?e ?_); (case h => exact SqT.of upd_same); (case e => rfl))
  | ((with_reducible refine' w_aug ?h ?_); (case h => rfl))
  | with_reducible refine w_ip ?_
  | with_reducible refine w_lc ?_
  | with_reducible refine w_fld ?_
  | with_reducible refine w_chain ?_
  | with_reducible refine w_mt ?_
  | with_reducible refine w_fset ?_
  | with_reducible refine w_dget ?_
  | with_reducible refine w_din ?_
  | with_reducible refine w_dput ?_
  | with_reducible refine w_dnew ?_
  | with_reducible refine w_keys ?_
  | with_reducible refine w_nT ?_
  | with_reducible refine w_nF ?_
  | with_reducible refine w_rowIndex ?_)
local macro_rules | `(tactic| walk_at "s") => `(tactic| repeat (walk_at "s1"))
section
variable {P : Program} {w : World} {K : PySem.W.Frag} {mg : Str → Option Value} {base : Heap} {CP CR CO CB : Addr}
theorem notin_hx {ad : Adr} {c hx' : Addr} (h : c ∉ ad.all) (h2 : c ≠ hx') : c ∉ ({ ad with hx := hx' } : Adr).all := fun hm => out_hx h h2 c hm (by simp)
theorem road_some {H : Hp} {ad : Adr} {p : Pact} {R : RoadS} (hR : RoadAt K CP CR CO H ad p R) {c : Addr} (hm : c ∈ ad.all) : ∃ u, H c = some u := by
  obtain ⟨f1, o1, _⟩ := hR.obj
  obtain ⟨f2, o2, _⟩ := hR.pre.obj
  obtain ⟨y2, l2, _⟩ := hR.pre.lst
  obtain ⟨f3, o3, _⟩ := hR.rdr.obj
  obtain ⟨vf, d3, _⟩ := hR.rdr.dict
  obtain ⟨y4, l4, _⟩ := hR.line
  obtain ⟨y5, l5, _⟩ := hR.back
  obtain ⟨y6, l6, _⟩ := hR.row
  simp only [Adr.all, List.mem_cons, List.not_mem_nil, or_false] at hm
  rcases hm with z | z | z | z | z | z | z | z <;> rw [z] <;> exact ⟨_, by assumption⟩
theorem road_fresh {H : Hp} {ad : Adr} {p : Pact} {R : RoadS} (hR : RoadAt K CP CR CO H ad p R) {c : Addr} (hc : H c = none) : c ∉ ad.all := fun hm => by
  obtain ⟨u, hu⟩ := road_some hR hm
  rw [hu] at hc
  cases hc
theorem noRows_words : ∀ l : List (Option Nat), noRows (l.map wordD) = true
  | [] => rfl
  | none :: l => by rw [List.map_cons]; simp [noRows, noRow, wordD, noRows_words l]
  | some n :: l => by rw [List.map_cons]; simp [noRows, noRow, wordD, noRows_words l]
theorem lay_words {l : List (Option Nat)} : ∀ d ∈ l.map wordD, d.canLay0 = true ∧ d.depth ≤ 10 := by
  intro d hd
  obtain ⟨o, _, rfl⟩ := List.mem_map.mp hd
  have h1 : PyData.strOk "anew" = true := by decide +kernel
  have h2 : PyData.strOk "have" = true := by decide +kernel
  cases o with
  | none => exact ⟨by simp [wordD, PyData.canLay0, PyData.canLayAll0, h1], by simp [wordD, PyData.depth, PyData.depthAll]⟩
  | some n => exact ⟨by simp [wordD, PyData.canLay0, PyData.canLayAll0, h2], by simp [wordD, PyData.depth, PyData.depthAll]⟩
/-- what holds at each turn of the law -/
structure LSt (K : PySem.W.Frag) (CP CR CO : Addr) (H : Hp) (b ow : Addr) (tn : Nat) (x : V) (p : Pact) (ad : Adr) (R : RoadS) (hv : V) (hd : List Int) (rd : Addr) (reads : List Int) (i : Nat) : Prop where
  box : Bx H b ow tn
  ix : Is K H x (pactD p)
  road : RoadAt K CP CR CO H ad p R
  out : Out b ow ad
  head : HeadOk p.fs hd
  ihd : Is K H hv (headD hd)
  rds : H rd = some (.lst (reads.map V.int))
  rout : rd ∉ ad.all
  ro : rd ≠ ow
  rb : rd ≠ b
  keys : ∀ k ∈ R.r.keys, (k : Int) ∈ reads
  rl : reads.length ≤ i
  bl : R.back.length ≤ i
  nl : R.s.past.length ≤ 45
theorem LSt.calm {H H' : Hp} {b ow : Addr} {tn : Nat} {x : V} {p : Pact} {ad : Adr} {R : RoadS} {hv : V} {hd : List Int} {rd : Addr} {reads : List Int} {i : Nat} (h : LSt K CP CR CO H b ow tn x p ad R hv hd rd reads i) (c : Chg [] H H') : LSt K CP CR CO H' b ow tn x p ad R hv hd rd reads i :=
  ⟨h.box.calm c, h.ix.on c, h.road.calm c, h.out, h.head, h.ihd.on c, c.keep _ _ h.rds (by simp), h.rout, h.ro, h.rb, h.keys, h.rl, h.bl, h.nl⟩
theorem LSt.boxed {H H' : Hp} {b ow : Addr} {tn tn' : Nat} {x : V} {p : Pact} {ad : Adr} {R : RoadS} {hv : V} {hd : List Int} {rd : Addr} {reads : List Int} {i : Nat} (h : LSt K CP CR CO H b ow tn x p ad R hv hd rd reads i) (c : Chg [b, ow] H H') (B : Bx H' b ow tn') : LSt K CP CR CO H' b ow tn' x p ad R hv hd rd reads i := by
  have hall : ∀ c ∈ ad.all, c ∉ [b, ow] := fun c hc => by
    simp only [List.mem_cons, List.not_mem_nil, or_false]
    rintro (e | e)
    · exact h.out.1 (e ▸ hc)
    · exact h.out.2 (e ▸ hc)
  exact ⟨B, h.ix.on c, h.road.on c hall, h.out, h.head, h.ihd.on c, c.keep _ _ h.rds (by simp [h.rb, h.ro]), h.rout, h.ro, h.rb, h.keys, h.rl, h.bl, h.nl⟩
theorem LSt.le {H : Hp} {b ow : Addr} {tn tn' : Nat} {x : V} {p : Pact} {ad : Adr} {R : RoadS} {hv : V} {hd : List Int} {rd : Addr} {reads : List Int} {i i' : Nat} (h : LSt K CP CR CO H b ow tn x p ad R hv hd rd reads i) (e : tn ≤ tn') (e2 : i ≤ i') : LSt K CP CR CO H b ow tn' x p ad R hv hd rd reads i' :=
  ⟨h.box.le e, h.ix, h.road, h.out, h.head, h.ihd, h.rds, h.rout, h.ro, h.rb, h.keys, Nat.le_trans h.rl e2, Nat.le_trans h.bl e2, h.nl⟩
theorem Out.hx {b ow : Addr} {ad : Adr} {hx' : Addr} {H : Hp} {tn : Nat} (h : Out b ow ad) (B : Bx H b ow tn) (e : hx' = ad.hx ∨ H hx' = none) : Out b ow { ad with hx := hx' } := by
  have hm : ad.hx ∈ ad.all := by simp [Adr.all]
  refine ⟨notin_hx h.1 ?_, notin_hx h.2 ?_⟩
  · rcases e with z | z
    · rw [z]; exact fun y => h.1 (y ▸ hm)
    · exact Ne.symm (B.ne_b z)
  · rcases e with z | z
    · rw [z]; exact fun y => h.2 (y ▸ hm)
    · exact Ne.symm (B.ne_ow z)
theorem sclaw : FnScope ["_law_script", "_law_box_here", "_law_turn", "_law_pact_here", "_law_road_here", "_law_head", "_law_read", "_law_number", "_law_more", "_law_way_here"] ["_law_script"] (defScope slaw) := ⟨rfl, rfl, rfl, by decide +kernel, rfl, by decide +kernel, by decide +kernel⟩
def sp_law (K : PySem.W.Frag) (_ _ _ _ : Addr) : Sp := fun vs H Q _ => ∃ (a : Addr) (ns : List Int), vs = [.ref a] ∧ SqL K H a (ns.map V.int) ∧ ns.length ≤ 1000 ∧ ∀ H', Q (.bl true) H'
theorem ok_law (T : Txt K mg) {f0 : Addr} {fd0 : FuncData} (F : Fun K "law" "law" slaw f0 fd0) (F_law_of : Fk P w K mg base CX0 2 "_law_of" ["_law_box_here", "_law_some"] (sp_law_of K)) (F_law_next_head : Fk P w K mg base CX0 3 "_law_next_head" ["_law_box_here", "_law_shape_here", "_law_former", "_law_calm"] (sp_law_next_head K)) (F_law_pressed : Fk P w K mg base CX0 13 "_law_pressed" ["_law_pact_here", "_law_road_here", "_law_head", "_law_number"] (sp_law_pressed K CP CR CO CB)) (M_Road_letters : Mt P w K mg base CX0 1 CO "letters" ["self"] (sp_Road_letters K CP CR CO CB)) (F_law_comes : Fk P w K mg base CX0 13 "_law_comes" ["_law_box_here", "_law_pact_here", "_law_road_here", "_law_read"] (sp_law_comes K CP CR CO CB)) (M_Road_do : Mt P w K mg base (L2.CX P w) 12 CO "do" ["self", "deed"] (sp_Road_do K CP CR CO CB)) (F_law_place : Fk P w K mg base CX0 3 "_law_place" ["_law_box_here", "_law_many"] (sp_law_place K)) (M_Road_words : Mt P w K mg base CX0 1 CO "words" ["self"] (sp_Road_words K CP CR CO CB)) (F_law_words : Fk P w K mg base CX0 13 "_law_words" ["_law_box_here", "_law_road_here"] (sp_law_words K CP CR CO CB)) (F_law_next : Fk P w K mg base CX0 1 "_law_next" ["_law_box_here", "_law_many"] (sp_law_next K)) (F_law_any_head : Fk P w K mg base CX0 3 "_law_any_head" ["_law_box_here", "_law_shape_here"] (sp_law_any_head K)) (K_Road : Mkk P w K mg base CX0 3 "Road" CO ["self", "pact"] (sp_Road_init K CP CR CO CB)) (F_law_road_pact : Fk P w K mg base CX0 6 "_law_road_pact" ["_law_box_here", "_law_many"] (sp_law_road_pact K)) (F_law_box : Fk P w K mg base CX0 1 "_law_box" ["_law_script"] (sp_law_box K)) : FnOk P w K mg base CX0 14 f0 fd0 ["_law_script"] (sp_law K CP CR CO CB) := by
  refine F.ok sclaw (fun vs H Q E h => ?_) (fun cdv A outer s H vs Q E hr h => ?_)
  · obtain ⟨a, ns, rfl, _⟩ := h
    rfl
  · obtain ⟨a, ns, rfl, hs, hz, q⟩ := h
    refine ⟨_, (pss_cons (ps_set (i := 1) sclaw.nd rfl (Or.inl rfl) (pe_fn F_law_box hr rfl (pa_cons (pv 0) pa_nil))) (pss_cons (ps_for PassesOwn.never rfl (pi_range1 (by rfl) T.b_range (pa_cons pe_int pa_nil)) (pg_name (i := 2) sclaw.nd rfl (Or.inl rfl)) (pss_cons (ps_set (i := 3) sclaw.nd rfl (Or.inl rfl) (pe_fn F_law_road_pact hr rfl (pa_cons (pv 1) (pa_cons pe_int pa_nil)))) (pss_cons (ps_asg (pe_tup (pa_cons (pe_mkk K_Road hr rfl (pa_cons (pv 3) pa_nil)) (pa_cons (pe_fn F_law_any_head hr rfl (pa_cons (pv 1) (pa_cons (pe_ixK (K := K) (pv 3) pe_int (fun _ _ => rfl)) pa_nil))) (pa_cons (pe_lst pa_nil) (pa_cons pe_int pa_nil))))) (pg_tupK (K := K) (n := 4) rfl (pgs_cons (pg_name (i := 4) sclaw.nd rfl (Or.inl rfl)) (pgs_cons (pg_name (i := 5) sclaw.nd rfl (Or.inl rfl)) (pgs_cons (pg_name (i := 6) sclaw.nd rfl (Or.inl rfl)) (pgs_cons (pg_name (i := 7) sclaw.nd rfl (Or.inl rfl)) pgs_nil)))))) (pss_one (ps_for PassesOwn.never rfl (pi_range1 (by rfl) T.b_range (pa_cons (pe_fn F_law_of hr rfl (pa_cons (pv 1) (pa_cons (pe_lst (pa_cons pe_int (pa_cons pe_int (pa_cons pe_int pa_nil)))) pa_nil))) pa_nil)) (pg_name (i := 8) sclaw.nd rfl (Or.inl rfl)) (pss_cons (ps_set (i := 9) sclaw.nd rfl (Or.inl rfl) (pe_fn F_law_next hr rfl (pa_cons (pv 1) (pa_cons pe_int pa_nil)))) (pss_one (ps_if (PW.pt (pw_and (pt_cmpR op_lt (pv 9) pe_int (nomark _)) (pw_and1 (pt_cmpR op_lt (pv 7) pe_int (nomark _))))) (pss_cons (ps_if (pt_not (pt_val (pe_fn F_law_pressed hr rfl (pa_cons (pv 3) (pa_cons (pv 4) (pa_cons (pv 5) (pa_cons (pv 7) pa_nil))))))) (pss_one (ps_ret pe_bl)) pss_nil) (pss_one (ps_par (i := 5) (j := 7) (by rfl) sclaw.nd rfl rfl (by decide) rfl rfl (pa_cons (pe_fn F_law_next_head hr rfl (pa_cons (pv 1) (pa_cons (pe_ixK (K := K) (pv 3) pe_int (fun _ _ => rfl)) (pa_cons (pv 5) (pa_cons pe_int pa_nil))))) (pa_cons (pe_op (op_addK (K := K)) (pv 7) pe_int) pa_nil)) (by rfl)))) (pss_one (ps_if (PW.pt (pw_and (pt_cmpR op_lt (pv 9) pe_int (nomark _)) (pw_and1 (pt_cmpR (op_neK (K := K) hr.units) (pe_mt0 M_Road_letters hr (pv 4)) (pe_lst pa_nil) (nomark _))))) (pss_one (ps_if (pt_not (pt_val (pe_fn F_law_comes hr rfl (pa_cons (pv 1) (pa_cons (pv 3) (pa_cons (pv 4) (pa_cons (pv 6) pa_nil))))))) (pss_one (ps_ret pe_bl)) pss_nil)) (pss_one (ps_if (PW.pt (pw_and (pt_cmpR op_lt (pv 9) pe_int (nomark _)) (pw_and1 (pt_cmpR (op_neK (K := K) hr.units) (pe_mt0 M_Road_letters hr (pv 4)) (pe_lst pa_nil) (nomark _))))) (pss_one (ps_expr (pe_mt M_Road_do hr (pv 4) (pa_cons (pe_tup (pa_cons pe_str (pa_cons (pe_fn F_law_place hr rfl (pa_cons (pv 1) (pa_cons (pe_callB (call_lenK (K := K)) (by rfl) T.b_len PySem.boot_len (pa_cons (pe_mt0 M_Road_letters hr (pv 4)) pa_nil)) pa_nil))) pa_nil))) pa_nil)))) (pss_one (ps_if (PW.pt (pw_and (pt_cmpR op_lt (pv 9) pe_int (nomark _)) (pw_and1 (pt_cmpR (op_neK (K := K) hr.units) (pe_mt0 M_Road_words hr (pv 4)) (pe_lst pa_nil) (nomark _))))) (pss_one (ps_expr (pe_fn F_law_words hr rfl (pa_cons (pv 1) (pa_cons (pv 4) pa_nil))))) (pss_one (ps_if (pt_cmpR (op_eqK (K := K) hr.units) (pe_fn F_law_next hr rfl (pa_cons (pv 1) (pa_cons pe_int pa_nil))) pe_int (nomark _)) (pss_cons (ps_expr (pe_mt M_Road_do hr (pv 4) (pa_cons (pe_tup (pa_cons pe_str pa_nil)) pa_nil))) (pss_one (ps_set (i := 6) sclaw.nd rfl (Or.inl rfl) (pe_lst pa_nil)))) pss_nil)))))))))))))))) (pss_one (ps_ret pe_bl)))), ?_⟩
    walk_at "s"
    refine ⟨a, ns, rfl, hs, hz, fun H1 b ow c1 _ _ B1 => ?_⟩
    walk_at "s"
    refine ⟨_, rfl, by decide, by decide, ?_⟩
    rw [show (2 : Int).toNat = 2 from rfl]
    refine for_it walk_range (fun j σ H' => ∃ z2 z3 z4 z5 z6 z7 z8 z9, σ = [some (.ref a), some (.ref b), z2, z3, z4, z5, z6, z7, z8, z9] ∧ Bx H' b ow (10000000 * j)) ⟨none, none, none, none, none, none, none, none, by rfl, B1⟩ (fun _ _ _ _ _ => trivial) ?_ ?_
    · rintro j v σ H2 H3 hj ⟨z2, z3, z4, z5, z6, z7, z8, z9, rfl, B2⟩ ⟨rfl, rfl⟩
      have hj2 : j < 2 := hj
      walk_at "s"
      refine ⟨b, ow, _, rfl, B2, by omega, fun H4 x p c4 B4 hp ix => ?_⟩
      walk_at "s"
      refine w_mkk ?_
      walk_at "s"
      intro o dx ho hdx hne
      have c5 : Chg [] H4 (upd (upd H4 dx (.own o)) o (.ins CO dx [])) := (Chg.new hdx).trans (Chg.new (by rw [upd_ne (Ne.symm hne)]; exact ho))
      have h5 : upd (upd H4 dx (.own o)) o (.ins CO dx []) o = some (.ins CO dx []) := upd_same
      generalize upd (upd H4 dx (.own o)) o (.ins CO dx []) = H5 at c5 h5 ⊢
      have B5 := B4.calm c5
      refine ⟨o, dx, x, p, rfl, h5, hp, ix.on c5, fun H6 ad c6 hado hfree hR6 => ⟨rfl, ?_⟩⟩
      subst hado
      have hob : ad.o ≠ b := B4.ne_b ho
      have hoo : ad.o ≠ ow := B4.ne_ow ho
      have hO : Out b ow ad := by
        refine ⟨fun hm => ?_, fun hm => ?_⟩
        · exact B5.ne_b (hfree b hm (Ne.symm hob)) rfl
        · exact B5.ne_ow (hfree ow hm (Ne.symm hoo)) rfl
      have B6 := B5.on c6 (by simpa using Ne.symm hob) (by simpa using Ne.symm hoo)
      have ix6 := (ix.on c5).on c6
      walk_at "s"
      refine w_ixD ix6 rfl fun vs iv => ?_
      walk_at "s"
      refine ⟨b, ow, _, vs, p.fs, p.m, rfl, B6, by omega, hp.shape, iv, fun H7 hv hd c7 B7 hh ihv => ?_⟩
      have hall : ∀ c ∈ ad.all, c ∉ [b, ow] := fun c hc => by
        simp only [List.mem_cons, List.not_mem_nil, or_false]
        rintro (e | e)
        · exact hO.1 (e ▸ hc)
        · exact hO.2 (e ▸ hc)
      have hR7 := hR6.on c7 hall
      walk_at "s"
      refine ⟨Nat.zero_le _, fun rd hrd => ?_⟩
      have c8 : Chg [] H7 (upd H7 rd (.lst [])) := Chg.new hrd
      have L8 : LSt K CP CR CO (upd H7 rd (.lst [])) b ow (10000000 * j + 1000200) x p ad _ hv hd rd [] 0 :=
        ⟨(B7.calm c8).le (by omega), (ix6.on c7).on c8, hR7.calm c8, hO, hh, ihv.on c8, upd_same, road_fresh hR7 hrd, B7.ne_ow hrd, B7.ne_b hrd, fun k hk => (nomatch hk), Nat.le_refl _, Nat.zero_le _, Nat.zero_le _⟩
      generalize upd H7 rd (.lst []) = H8 at c8 L8 ⊢
      walk_at "s"
      refine ⟨sz1000 (by simp), fun tp htp => ?_⟩
      walk_at "s"
      have L9 := L8.calm (Chg.new (o := .tup [.ref ad.o, hv, .ref rd, .int 0]) htp)
      generalize upd H8 tp (.tup [.ref ad.o, hv, .ref rd, .int 0]) = H9 at L9 ⊢
      refine ⟨sz1000 (by simp), fun al hal => ?_⟩
      refine ⟨b, ow, _, al, _, rfl, L9.box.new hal, by omega, upd_same, L9.box.ne_ow hal, by simp, by simp, fun H10 v10 c10 B10 hv10 => ?_⟩
      obtain ⟨n, hn, rfl⟩ := mem_ints (l := [30, 70, 150]) hv10
      have hn150 := (by decide : ∀ n ∈ [30, 70, 150], n ≤ 150) n hn
      have L10 : LSt K CP CR CO H10 b ow (10000000 * j + 1000300) x p ad _ hv hd rd [] 0 := L9.boxed ((Chg.new hal).trans c10) (B10.le (by omega))
      walk_at "s"
      refine ⟨_, rfl, by omega, by omega, ?_⟩
      rw [show ((n : Nat) : Int).toNat = n by omega]
      refine for_it walk_range (fun i σ H' => ∃ ad R hv hd rd reads z8 z9, σ = [some (.ref a), some (.ref b), some (.int (0 + (j : Int))), some x, some (.ref ad.o), some hv, some (.ref rd), some (.int R.s.past.length), z8, z9] ∧ LSt K CP CR CO H' b ow (10000000 * j + 1000300 + 3000 * i) x p ad R hv hd rd reads i)
        ⟨ad, _, hv, hd, rd, [], _, _, by rfl, L10⟩ (fun _ _ _ _ _ => trivial) ?_ ?_
      · clear L10 L9 L8 hR7 hR6 ihv B10 c10 hv10 B7 hO hh hrd
        rintro i v σ G0 G1 hi ⟨ad, R, hv, hd, rd, reads, z8, z9, rfl, L0⟩ ⟨rfl, rfl⟩
        have hi2 : i < n := hi
        have hrl := L0.rl
        have hbl := L0.bl
        have hnl := L0.nl
        have hlf := L0.road.inv.few
        walk_at "s"
        refine ⟨b, ow, _, _, rfl, L0.box, by omega, by decide, by decide, fun G2 way d2 D2 _ _ => ?_⟩
        have L2 : LSt K CP CR CO G2 b ow (10000000 * j + 1000300 + 3000 * i + 1) x p ad R hv hd rd reads i := L0.boxed d2 D2
        walk_at "s"
        have hshape := (L0.road.pre.ok).shape
        suffices h2 : ∀ G : Hp, LSt K CP CR CO G b ow (10000000 * j + 1000300 + 3000 * i + 1) x p ad R hv hd rd reads i → _ by
          refine w_if (fun h => ?_) (fun h => ?_)
          · walk_at "s"
            refine w_if (fun h' => ?_) (fun h' => ?_)
            · walk_at "s"
              refine ⟨ad, p, R, x, hv, hd, rfl, L2.road, by omega, L2.ix, L2.head, L2.ihd, fun G3 aa d3 hR3 => ?_⟩
              have D3 := L2.box.on d3 L2.out.1 L2.out.2
              have hlen : (pressS R hd aa).s.past.length = R.s.past.length + 1 := by simp [pressS]
              have L3 : LSt K CP CR CO G3 b ow (10000000 * j + 1000300 + 3000 * i + 1) x p ad (pressS R hd aa) hv hd rd reads i :=
                ⟨D3, L2.ix.on d3, hR3, L2.out, L2.head, L2.ihd.on d3, d3.keep _ _ L2.rds L2.rout, L2.rout, L2.ro, L2.rb, L2.keys, L2.rl, L2.bl, by omega⟩
              walk_at "s"
              with_reducible refine w_par ?_
              walk_at "s"
              refine w_ixD L3.ix rfl fun vs iv => ?_
              walk_at "s"
              refine ⟨b, ow, _, vs, hv, p.fs, p.m, hd, rfl, L3.box, by omega, hshape, L3.head, iv, L3.ihd, fun G4 hv' hd' d4 D4 hh' ihv' => ?_⟩
              have L4 := L3.boxed d4 D4
              walk_at "s"
              refine ⟨_, _, rfl, ?_⟩
              have hnum : (((pressS R hd aa).s.past.length : Nat) : Int) = (R.s.past.length : Int) + 1 := by omega
              refine ⟨ad, pressS R hd aa, hv', hd', rd, reads, _, _, by rw [hnum]; rfl, LSt.le ⟨L4.box, L4.ix, L4.road, L4.out, hh', ihv', L4.rds, L4.rout, L4.ro, L4.rb, L4.keys, L4.rl, L4.bl, L4.nl⟩ (by omega) (by omega)⟩
            · exact h2 G2 L2
          · refine w_F ?_
            exact h2 G2 L2
        clear L2 d2 D2
        intro G L
        have hlet : ∀ (G : Hp), LSt K CP CR CO G b ow (10000000 * j + 1000300 + 3000 * i + 1) x p ad R hv hd rd reads i → ∃ fs, G ad.o = some (.ins CO ad.odx fs) ∧ RoadF fs ad R.came := fun G L => L.road.obj
        walk_at "s"
        suffices h3 : ∀ G : Hp, LSt K CP CR CO G b ow (10000000 * j + 1000300 + 3000 * i + 1) x p ad R hv hd rd reads i → _ by
          refine w_if (fun h => ?_) (fun h => ?_)
          · walk_at "s"
            obtain ⟨fs, o, pf⟩ := hlet G L
            refine w_self o (pf.no _ (by decide +kernel)) ?_
            walk_at "s"
            refine ⟨ad, p, R, rfl, L.road, fun G3 l xs d3 hl hL hi => ?_⟩
            walk_at "s"
            refine ⟨Nat.zero_le _, fun p0 hp0 => ?_⟩
            have d4 : Chg [] G3 (upd G3 p0 (.lst [])) := Chg.new hp0
            have hL4 := d4.keep _ _ hL (by simp)
            have hp4 : upd G3 p0 (.lst []) p0 = some (.lst []) := upd_same
            have L4 := (L.calm d3).calm d4
            have hi4 := hi.on d4
            generalize upd G3 p0 (.lst []) = G4 at d4 hL4 hp4 L4 hi4 ⊢
            refine w_neNil hL4 hp4 (dp_letters hi4) lay_letters ?_
            walk_at "s"
            refine w_ifn (fun e => ?_) (fun e => ?_)
            · exact h3 G4 L4
            · walk_at "s"
              have hne : R.line ≠ [] := fun z => e (by rw [z]; rfl)
              refine ⟨b, ow, rd, _, x, ad, p, R, reads, rfl, L4.box, by omega, L4.ix, L4.road, L4.out, L4.rds, L4.rout, L4.ro, by omega, L4.keys, hne, by omega, by omega, fun G5 hx' R' reads' d5 hxf D5 hR5 hrd5 hlen5 hk5 hp5 hb5 => ?_⟩
              have hrx : rd ≠ hx' := by
                rcases hxf with z | z
                · intro y
                  exact L4.rout (by rw [y, z]; simp [Adr.all])
                · intro y
                  have := L4.rds
                  rw [y, z] at this
                  cases this
              walk_at "s"
              exact ⟨{ ad with hx := hx' }, R', hv, hd, rd, reads', _, _, by rw [hp5]; rfl, LSt.le (i := i + 1) ⟨D5, L4.ix.on d5, hR5, L4.out.hx L4.box hxf, L4.head, L4.ihd.on d5, hrd5, notin_hx L4.rout hrx, L4.ro, L4.rb, hk5, by omega, by omega, by rw [hp5]; exact hnl⟩ (by omega) (by omega)⟩
          · refine w_F ?_
            exact h3 G L
        clear L G
        intro G L
        walk_at "s"
        suffices h4 : ∀ G : Hp, LSt K CP CR CO G b ow (10000000 * j + 1000300 + 3000 * i + 1) x p ad R hv hd rd reads i → _ by
          refine w_if (fun h => ?_) (fun h => ?_)
          · walk_at "s"
            obtain ⟨fs, o, pf⟩ := hlet G L
            refine w_self o (pf.no _ (by decide +kernel)) ?_
            walk_at "s"
            refine ⟨ad, p, R, rfl, L.road, fun G3 l xs d3 hl hL hi => ?_⟩
            walk_at "s"
            refine ⟨Nat.zero_le _, fun p0 hp0 => ?_⟩
            have d4 : Chg [] G3 (upd G3 p0 (.lst [])) := Chg.new hp0
            have hL4 := d4.keep _ _ hL (by simp)
            have hp4 : upd G3 p0 (.lst []) p0 = some (.lst []) := upd_same
            have L4 := (L.calm d3).calm d4
            have hi4 := hi.on d4
            generalize upd G3 p0 (.lst []) = G4 at d4 hL4 hp4 L4 hi4 ⊢
            refine w_neNil hL4 hp4 (dp_letters hi4) lay_letters ?_
            walk_at "s"
            refine w_ifn (fun e => ?_) (fun e => ?_)
            · exact h4 G4 L4
            · walk_at "s"
              have hne : R.line ≠ [] := fun z => e (by rw [z]; rfl)
              have hpos : 0 < R.line.length := List.length_pos_iff.mpr hne
              obtain ⟨fs4, o4, pf4⟩ := hlet G4 L4
              refine w_self o4 (pf4.no _ (by decide +kernel)) ?_
              walk_at "s"
              refine w_self o4 (pf4.no _ (by decide +kernel)) ?_
              walk_at "s"
              refine ⟨ad, p, R, rfl, L4.road, fun G5 l5 xs5 d5 hl5 hL5 hi5 => ?_⟩
              have L5 := L4.calm d5
              walk_at "s"
              refine w_lenL hL5 ?_
              have hlen5 : xs5.length = R.line.length := by rw [hi5.length, List.length_map]
              rw [hlen5]
              walk_at "s"
              refine ⟨b, ow, _, R.line.length, rfl, L5.box, by omega, hpos, by omega, fun G6 k d6 D6 hk => ?_⟩
              have L6 := L5.boxed d6 D6
              walk_at "s"
              refine ⟨sz1000 (by simp), fun u hu => ?_⟩
              have d7 : Chg [] G6 (upd G6 u (.tup [.str "lose", .int k])) := Chg.new hu
              have iu : Is K (upd G6 u (.tup [.str "lose", .int k])) (.ref u) (deedD (.place .lose k)) := is_new (.cons (.str _) (Iss.one (.int _))) hu
              have L7 := L6.calm d7
              generalize upd G6 u (.tup [.str "lose", .int k]) = G7 at d7 iu L7 ⊢
              walk_at "s"
              refine ⟨ad, p, R, .place .lose k, _, rfl, L7.road, iu, by omega, hk, fun G8 v8 d8 hR8 => ?_⟩
              walk_at "s"
              exact ⟨ad, _, hv, hd, rd, reads, _, _, by rfl, LSt.le (i := i) ⟨L7.box.on d8 L7.out.1 L7.out.2, L7.ix.on d8, hR8, L7.out, L7.head, L7.ihd.on d8, d8.keep _ _ L7.rds L7.rout, L7.rout, L7.ro, L7.rb, L7.keys, L7.rl, L7.bl, L7.nl⟩ (by omega) (by omega)⟩
          · refine w_F ?_
            exact h4 G L
        clear L G
        intro G L
        walk_at "s"
        suffices h5 : ∀ G : Hp, LSt K CP CR CO G b ow (10000000 * j + 1000300 + 3000 * i + 1) x p ad R hv hd rd reads i → _ by
          refine w_if (fun h => ?_) (fun h => ?_)
          · walk_at "s"
            obtain ⟨fs, o, pf⟩ := hlet G L
            refine w_self o (pf.no _ (by decide +kernel)) ?_
            walk_at "s"
            refine ⟨ad, p, R, rfl, L.road, fun G3 l xs d3 hl hL hi => ?_⟩
            walk_at "s"
            refine ⟨Nat.zero_le _, fun p0 hp0 => ?_⟩
            have d4 : Chg [] G3 (upd G3 p0 (.lst [])) := Chg.new hp0
            have hL4 := d4.keep _ _ hL (by simp)
            have hp4 : upd G3 p0 (.lst []) p0 = some (.lst []) := upd_same
            have L4 := (L.calm d3).calm d4
            have hi4 := hi.on d4
            generalize upd G3 p0 (.lst []) = G4 at d4 hL4 hp4 L4 hi4 ⊢
            refine w_neNil hL4 hp4 (Iss.dp _ _ (noRows_words _) hi4) lay_words ?_
            walk_at "s"
            refine w_ifn (fun e => ?_) (fun e => ?_)
            · exact h5 G4 L4
            · walk_at "s"
              have hne : R.back ≠ [] := fun z => e (by rw [z]; rfl)
              refine ⟨b, ow, _, ad, p, R, rfl, L4.box, by omega, L4.road, L4.out, hne, by omega, fun G5 R' v5 d5 D5 hR5 hp5 hr5 hl5 hb5 => ?_⟩
              have hrd5 : G5 rd = some (.lst (reads.map V.int)) := d5.keep _ _ L4.rds (by simp [L4.rb, L4.ro, L4.rout])
              walk_at "s"
              exact ⟨ad, R', hv, hd, rd, reads, _, _, by rw [hp5]; rfl, LSt.le (i := i) ⟨D5, L4.ix.on d5, hR5, L4.out, L4.head, L4.ihd.on d5, hrd5, L4.rout, L4.ro, L4.rb, by rw [hr5]; exact L4.keys, L4.rl, by omega, by rw [hp5]; exact hnl⟩ (by omega) (by omega)⟩
          · refine w_F ?_
            exact h5 G L
        clear L G
        intro G L
        walk_at "s"
        refine ⟨b, ow, _, _, rfl, L.box, by omega, by decide, by decide, fun G2 d d2 D2 _ _ => ?_⟩
        have L2 := L.boxed d2 D2
        walk_at "s"
        refine w_if (fun h => ?_) (fun h => ?_)
        · walk_at "s"
          obtain ⟨fs, o, pf⟩ := L2.road.obj
          refine w_self o (pf.no _ (by decide +kernel)) ?_
          walk_at "s"
          refine ⟨sz1000 (by simp), fun u hu => ?_⟩
          have d3 : Chg [] G2 (upd G2 u (.tup [.str "forget"])) := Chg.new hu
          have iu : Is K (upd G2 u (.tup [.str "forget"])) (.ref u) (deedD .forget) := is_new (Iss.one (.str _)) hu
          have L3 := L2.calm d3
          generalize upd G2 u (.tup [.str "forget"]) = G3 at d3 iu L3 ⊢
          walk_at "s"
          refine ⟨ad, p, R, .forget, _, rfl, L3.road, iu, fun G4 hx' v4 d4 hxn hR4 => ?_⟩
          walk_at "s"
          refine ⟨Nat.zero_le _, fun rd' hrd' => ?_⟩
          have d5 : Chg [] G4 (upd G4 rd' (.lst [])) := Chg.new hrd'
          have D4 : Bx G4 b ow _ := L3.box.on d4 L3.out.1 L3.out.2
          walk_at "s"
          refine ⟨{ ad with hx := hx' }, _, hv, hd, rd', [], _, _, by rfl, LSt.le (i := i) ⟨D4.calm d5, (L3.ix.on d4).on d5, hR4.calm d5, L3.out.hx L3.box (.inr hxn), L3.head, (L3.ihd.on d4).on d5, upd_same, road_fresh hR4 hrd', D4.ne_ow hrd', D4.ne_b hrd', fun k hk => (nomatch hk), Nat.zero_le _, L3.bl, L3.nl⟩ (by omega) (by omega)⟩
        · walk_at "s"
          exact ⟨ad, R, hv, hd, rd, reads, _, _, by rfl, L2.le (by omega) (by omega)⟩
      · rintro σ G0 ⟨ad, R, hv, hd, rd, reads, z8, z9, rfl, L0⟩
        exact ⟨_, _, _, _, _, _, _, _, rfl, L0.box.le (by omega)⟩
    · rintro σ H2 ⟨z2, z3, z4, z5, z6, z7, z8, z9, rfl, B2⟩
      walk_at "s"
      exact q _
end
end Sh
namespace Sh
open PySem L2 PySem.Spec PyProof.Rows
theorem SaysU.d {K : PySem.W.Frag} (c : SaysU K) : He.SaysD faAll ddAll K := congrArg (fun z : AlU => z.1) c
theorem SaysU.tup {K : PySem.W.Frag} (c : SaysU K) (i : Nat) {t : Str × List He.Dv} (h : tuL[i]? = some t := by rfl) : He.tupB K t.1 t.2 = true := by
  have c2 : (tuL.all fun t => He.tupB K t.1 t.2) = true := congrArg (fun z : AlU => z.2) c
  exact List.all_eq_true.mp c2 t (List.mem_of_getElem? h)
theorem fun_of {K : PySem.W.Frag} {x qn : Str} {st : Stmt} {f : Addr} {fd : FuncData} (F : FunD K x qn (defArgs st) (defBody st) (defScope st) [] [] f fd) : Fun K x qn st f fd := by
  obtain ⟨⟨oc, od, dV, kV, doc, pm, an, cdv, ct, osl, e, lk, hc, hd, _⟩, kp⟩ := F
  have e2 : dV = .none := by
    rcases hd with ⟨_, h⟩ | ⟨hn, _⟩
    · exact h
    · exact absurd rfl hn
  subst e2
  exact ⟨⟨oc, od, kV, doc, pm, an, cdv, ct, osl, e, lk, hc⟩, kp⟩
theorem facts {P : Program} {w : World} {K : PySem.W.Frag} {h : Heap} {mg : Str → Option Value} {f : Addr} (X : K.In h) (G : h.Ns mainGlobals mg) (hfa : mg ("law" : Str) = some (.ref f)) (c : SaysU K) :
    ∃ fd : FuncData, (∀ (s : Shared) (v : Value), BindsTo s fd ⟨[v], []⟩ [("_law_script", v)]) ∧ ∀ base : Heap, K.In base → base.Ns mainGlobals mg → FnOk P w K mg base CX0 14 f fd ["_law_script"] (sp_law K (He.ga K "Presser") (He.ga K "Reader") (He.ga K "Road") (He.ga K "Beyond")) := by
  have cd := c.d
  have T : Txt K mg := ⟨He.free_ok X G (cd.fact 0 (f := .free "len") rfl), He.free_ok X G (cd.fact 1 (f := .free "isinstance") rfl), He.free_ok X G (cd.fact 2 (f := .free "all") rfl), He.free_ok X G (cd.fact 3 (f := .free "sum") rfl), He.free_ok X G (cd.fact 4 (f := .free "range") rfl), He.free_ok X G (cd.fact 5 (f := .free "divmod") rfl), He.free_ok X G (cd.fact 6 (f := .free "reversed") rfl), He.free_ok X G (cd.fact 7 (f := .free "zip") rfl), He.free_ok X G (cd.fact 8 (f := .free "enumerate") rfl), He.free_ok X G (cd.fact 9 (f := .free "tuple") rfl), He.free_ok X G (cd.fact 10 (f := .free "list") rfl), He.free_ok X G (cd.fact 11 (f := .free "dict") rfl), He.free_ok X G (cd.fact 12 (f := .free "min") rfl), He.free_ok X G (cd.fact 13 (f := .free "max") rfl), He.free_ok X G (cd.fact 14 (f := .free "abs") rfl), He.free_ok X G (cd.fact 15 (f := .free "int") rfl), He.free_ok X G (cd.fact 16 (f := .free "str") rfl), He.free_ok X G (cd.fact 17 (f := .free "bool") rfl), He.str_ok X G (cd.fact 18 (f := .str "SIGNS" "01") rfl)⟩
  have TCPresser : ClsPresser K (He.ga K "Presser") := ⟨He.cls_ok (cd.fact 115 (f := .cls "Presser") rfl), He.noat_ok (cd.fact 116 (f := .noat "Presser" "pact") rfl), He.noat_ok (cd.fact 117 (f := .noat "Presser" "past") rfl), He.noat_ok (cd.fact 118 (f := .noat "Presser" "had_most") rfl), He.noat_ok (cd.fact 119 (f := .noat "Presser" "base_most") rfl), He.noat_ok (cd.fact 120 (f := .noat "Presser" "fresh_from") rfl)⟩
  have TCReader : ClsReader K (He.ga K "Reader") := ⟨He.cls_ok (cd.fact 121 (f := .cls "Reader") rfl), He.noat_ok (cd.fact 122 (f := .noat "Reader" "pact") rfl), He.noat_ok (cd.fact 123 (f := .noat "Reader" "greatest") rfl), He.noat_ok (cd.fact 124 (f := .noat "Reader" "held") rfl)⟩
  have TCRoad : ClsRoad K (He.ga K "Road") := ⟨He.cls_ok (cd.fact 125 (f := .cls "Road") rfl), He.noat_ok (cd.fact 126 (f := .noat "Road" "pact") rfl), He.noat_ok (cd.fact 127 (f := .noat "Road" "one_end") rfl), He.noat_ok (cd.fact 128 (f := .noat "Road" "other_end") rfl), He.noat_ok (cd.fact 129 (f := .noat "Road" "line") rfl), He.noat_ok (cd.fact 130 (f := .noat "Road" "back") rfl), He.noat_ok (cd.fact 131 (f := .noat "Road" "whole_row") rfl), He.noat_ok (cd.fact 132 (f := .noat "Road" "came_most") rfl)⟩
  have TB : TxtB K mg (He.ga K "Beyond") := by
    obtain ⟨e1, e2, e3, e4⟩ := He.exc_ok (cd.fact 134 (f := .exc "Beyond") rfl)
    exact ⟨He.glo_ok X G (cd.fact 133 (f := .glo "Beyond") rfl), e2, e1, e3, e4, He.exm_ok (cd.fact 135 (f := .exm "Beyond" "Beyond" true) rfl)⟩
  have TT : Tups K mg (He.ga K "DONE") (He.ga K "OF_LETTERS") (He.ga K "OF_WORDS") := ⟨He.glo_ok X G (cd.fact 136 (f := .glo "DONE") rfl), He.glo_ok X G (cd.fact 137 (f := .glo "OF_LETTERS") rfl), He.glo_ok X G (cd.fact 138 (f := .glo "OF_WORDS") rfl), He.tupB_ok (c.tup 0), He.tupB_ok (c.tup 1)⟩
  have t_law_next : Top K mg "_law_next" slaw_next := by
    obtain ⟨fd, F⟩ := cd.def_ 0 (d := ⟨("_law_next", none), "_law_next", "_law_next", defArgs slaw_next, defBody slaw_next, defScope slaw_next, [], []⟩) rfl
    exact ⟨_, fd, fun_of F, He.glo_ok X G (cd.fact 19 (f := .glo "_law_next") rfl)⟩
  have t_law_of : Top K mg "_law_of" slaw_of := by
    obtain ⟨fd, F⟩ := cd.def_ 1 (d := ⟨("_law_of", none), "_law_of", "_law_of", defArgs slaw_of, defBody slaw_of, defScope slaw_of, [], []⟩) rfl
    exact ⟨_, fd, fun_of F, He.glo_ok X G (cd.fact 20 (f := .glo "_law_of") rfl)⟩
  have t_law_expected : Top K mg "_law_expected" slaw_expected := by
    obtain ⟨fd, F⟩ := cd.def_ 2 (d := ⟨("_law_expected", none), "_law_expected", "_law_expected", defArgs slaw_expected, defBody slaw_expected, defScope slaw_expected, [], []⟩) rfl
    exact ⟨_, fd, fun_of F, He.glo_ok X G (cd.fact 21 (f := .glo "_law_expected") rfl)⟩
  have t_law_next_head : Top K mg "_law_next_head" slaw_next_head := by
    obtain ⟨fd, F⟩ := cd.def_ 3 (d := ⟨("_law_next_head", none), "_law_next_head", "_law_next_head", defArgs slaw_next_head, defBody slaw_next_head, defScope slaw_next_head, [], []⟩) rfl
    exact ⟨_, fd, fun_of F, He.glo_ok X G (cd.fact 22 (f := .glo "_law_next_head") rfl)⟩
  have t_Road_letters : TopM K (He.ga K "Road") "letters" "Road.letters" sRoad_letters := by
    obtain ⟨fd, F⟩ := cd.def_ 4 (d := ⟨("Road", some "letters"), "letters", "Road.letters", defArgs sRoad_letters, defBody sRoad_letters, defScope sRoad_letters, [], []⟩) rfl
    exact ⟨_, fd, fun_of F, He.meth_ok (cd.fact 23 (f := .meth "Road" "letters") rfl)⟩
  have t_law_width : Top K mg "_law_width" slaw_width := by
    obtain ⟨fd, F⟩ := cd.def_ 5 (d := ⟨("_law_width", none), "_law_width", "_law_width", defArgs slaw_width, defBody slaw_width, defScope slaw_width, [], []⟩) rfl
    exact ⟨_, fd, fun_of F, He.glo_ok X G (cd.fact 24 (f := .glo "_law_width") rfl)⟩
  have t_law_whole_size : Top K mg "_law_whole_size" slaw_whole_size := by
    obtain ⟨fd, F⟩ := cd.def_ 6 (d := ⟨("_law_whole_size", none), "_law_whole_size", "_law_whole_size", defArgs slaw_whole_size, defBody slaw_whole_size, defScope slaw_whole_size, [], []⟩) rfl
    exact ⟨_, fd, fun_of F, He.glo_ok X G (cd.fact 25 (f := .glo "_law_whole_size") rfl)⟩
  have t_Presser_sent : TopM K (He.ga K "Presser") "sent" "Presser.sent" sPresser_sent := by
    obtain ⟨fd, F⟩ := cd.def_ 7 (d := ⟨("Presser", some "sent"), "sent", "Presser.sent", defArgs sPresser_sent, defBody sPresser_sent, defScope sPresser_sent, [], []⟩) rfl
    exact ⟨_, fd, fun_of F, He.meth_ok (cd.fact 26 (f := .meth "Presser" "sent") rfl)⟩
  have t_is_whole : Top K mg "is_whole" sis_whole := by
    obtain ⟨fd, F⟩ := cd.def_ 8 (d := ⟨("is_whole", none), "is_whole", "is_whole", defArgs sis_whole, defBody sis_whole, defScope sis_whole, [], []⟩) rfl
    exact ⟨_, fd, fun_of F, He.glo_ok X G (cd.fact 27 (f := .glo "is_whole") rfl)⟩
  have t_is_between : Top K mg "is_between" sis_between := by
    obtain ⟨fd, F⟩ := cd.def_ 9 (d := ⟨("is_between", none), "is_between", "is_between", defArgs sis_between, defBody sis_between, defScope sis_between, [], []⟩) rfl
    exact ⟨_, fd, fun_of F, He.glo_ok X G (cd.fact 28 (f := .glo "is_between") rfl)⟩
  have t_Presser_is_had : TopM K (He.ga K "Presser") "is_had" "Presser.is_had" sPresser_is_had := by
    obtain ⟨fd, F⟩ := cd.def_ 10 (d := ⟨("Presser", some "is_had"), "is_had", "Presser.is_had", defArgs sPresser_is_had, defBody sPresser_is_had, defScope sPresser_is_had, [], []⟩) rfl
    exact ⟨_, fd, fun_of F, He.meth_ok (cd.fact 29 (f := .meth "Presser" "is_had") rfl)⟩
  have t_greater : Top K mg "greater" sgreater := by
    obtain ⟨fd, F⟩ := cd.def_ 11 (d := ⟨("greater", none), "greater", "greater", defArgs sgreater, defBody sgreater, defScope sgreater, [], []⟩) rfl
    exact ⟨_, fd, fun_of F, He.glo_ok X G (cd.fact 30 (f := .glo "greater") rfl)⟩
  have t_Presser_heard : TopM K (He.ga K "Presser") "heard" "Presser.heard" sPresser_heard := by
    obtain ⟨fd, F⟩ := cd.def_ 12 (d := ⟨("Presser", some "heard"), "heard", "Presser.heard", defArgs sPresser_heard, defBody sPresser_heard, defScope sPresser_heard, [], []⟩) rfl
    exact ⟨_, fd, fun_of F, He.meth_ok (cd.fact 31 (f := .meth "Presser" "heard") rfl)⟩
  have t_word_of : Top K mg "word_of" sword_of := by
    obtain ⟨fd, F⟩ := cd.def_ 13 (d := ⟨("word_of", none), "word_of", "word_of", defArgs sword_of, defBody sword_of, defScope sword_of, [], []⟩) rfl
    exact ⟨_, fd, fun_of F, He.glo_ok X G (cd.fact 32 (f := .glo "word_of") rfl)⟩
  have t_Reader_below : TopM K (He.ga K "Reader") "below" "Reader.below" sReader_below := by
    obtain ⟨fd, F⟩ := cd.def_ 14 (d := ⟨("Reader", some "below"), "below", "Reader.below", defArgs sReader_below, defBody sReader_below, defScope sReader_below, [], []⟩) rfl
    exact ⟨_, fd, fun_of F, He.meth_ok (cd.fact 33 (f := .meth "Reader" "below") rfl)⟩
  have t_Reader_come : TopM K (He.ga K "Reader") "come" "Reader.come" sReader_come := by
    obtain ⟨fd, F⟩ := cd.def_ 15 (d := ⟨("Reader", some "come"), "come", "Reader.come", defArgs sReader_come, defBody sReader_come, defScope sReader_come, [], []⟩) rfl
    exact ⟨_, fd, fun_of F, He.meth_ok (cd.fact 34 (f := .meth "Reader" "come") rfl)⟩
  have t_check_of : Top K mg "check_of" scheck_of := by
    obtain ⟨fd, F⟩ := cd.def_ 16 (d := ⟨("check_of", none), "check_of", "check_of", defArgs scheck_of, defBody scheck_of, defScope scheck_of, [], []⟩) rfl
    exact ⟨_, fd, fun_of F, He.glo_ok X G (cd.fact 35 (f := .glo "check_of") rfl)⟩
  have t_rest_of : Top K mg "rest_of" srest_of := by
    obtain ⟨fd, F⟩ := cd.def_ 17 (d := ⟨("rest_of", none), "rest_of", "rest_of", defArgs srest_of, defBody srest_of, defScope srest_of, [], []⟩) rfl
    exact ⟨_, fd, fun_of F, He.glo_ok X G (cd.fact 36 (f := .glo "rest_of") rfl)⟩
  have t_windowed : Top K mg "windowed" swindowed := by
    obtain ⟨fd, F⟩ := cd.def_ 18 (d := ⟨("windowed", none), "windowed", "windowed", defArgs swindowed, defBody swindowed, defScope swindowed, [], []⟩) rfl
    exact ⟨_, fd, fun_of F, He.glo_ok X G (cd.fact 37 (f := .glo "windowed") rfl)⟩
  have t_around : Top K mg "around" saround := by
    obtain ⟨fd, F⟩ := cd.def_ 19 (d := ⟨("around", none), "around", "around", defArgs saround, defBody saround, defScope saround, [], []⟩) rfl
    exact ⟨_, fd, fun_of F, He.glo_ok X G (cd.fact 38 (f := .glo "around") rfl)⟩
  have t_number_of : Top K mg "number_of" snumber_of := by
    obtain ⟨fd, F⟩ := cd.def_ 20 (d := ⟨("number_of", none), "number_of", "number_of", defArgs snumber_of, defBody snumber_of, defScope snumber_of, [], []⟩) rfl
    exact ⟨_, fd, fun_of F, He.glo_ok X G (cd.fact 39 (f := .glo "number_of") rfl)⟩
  have t_gone_round : Top K mg "gone_round" sgone_round := by
    obtain ⟨fd, F⟩ := cd.def_ 21 (d := ⟨("gone_round", none), "gone_round", "gone_round", defArgs sgone_round, defBody sgone_round, defScope sgone_round, [], []⟩) rfl
    exact ⟨_, fd, fun_of F, He.glo_ok X G (cd.fact 40 (f := .glo "gone_round") rfl)⟩
  have t_expected : Top K mg "expected" sexpected := by
    obtain ⟨fd, F⟩ := cd.def_ 22 (d := ⟨("expected", none), "expected", "expected", defArgs sexpected, defBody sexpected, defScope sexpected, [], []⟩) rfl
    exact ⟨_, fd, fun_of F, He.glo_ok X G (cd.fact 41 (f := .glo "expected") rfl)⟩
  have t_value_opened : Top K mg "value_opened" svalue_opened := by
    obtain ⟨fd, F⟩ := cd.def_ 23 (d := ⟨("value_opened", none), "value_opened", "value_opened", defArgs svalue_opened, defBody svalue_opened, defScope svalue_opened, [], []⟩) rfl
    exact ⟨_, fd, fun_of F, He.glo_ok X G (cd.fact 42 (f := .glo "value_opened") rfl)⟩
  have t_width_of : Top K mg "width_of" swidth_of := by
    obtain ⟨fd, F⟩ := cd.def_ 24 (d := ⟨("width_of", none), "width_of", "width_of", defArgs swidth_of, defBody swidth_of, defScope swidth_of, [], []⟩) rfl
    exact ⟨_, fd, fun_of F, He.glo_ok X G (cd.fact 43 (f := .glo "width_of") rfl)⟩
  have t_opened : Top K mg "opened" sopened := by
    obtain ⟨fd, F⟩ := cd.def_ 25 (d := ⟨("opened", none), "opened", "opened", defArgs sopened, defBody sopened, defScope sopened, [], []⟩) rfl
    exact ⟨_, fd, fun_of F, He.glo_ok X G (cd.fact 44 (f := .glo "opened") rfl)⟩
  have t_whole_head : Top K mg "whole_head" swhole_head := by
    obtain ⟨fd, F⟩ := cd.def_ 26 (d := ⟨("whole_head", none), "whole_head", "whole_head", defArgs swhole_head, defBody swhole_head, defScope swhole_head, [], []⟩) rfl
    exact ⟨_, fd, fun_of F, He.glo_ok X G (cd.fact 45 (f := .glo "whole_head") rfl)⟩
  have t_Reader_told_by : TopM K (He.ga K "Reader") "told_by" "Reader.told_by" sReader_told_by := by
    obtain ⟨fd, F⟩ := cd.def_ 27 (d := ⟨("Reader", some "told_by"), "told_by", "Reader.told_by", defArgs sReader_told_by, defBody sReader_told_by, defScope sReader_told_by, [], []⟩) rfl
    exact ⟨_, fd, fun_of F, He.meth_ok (cd.fact 46 (f := .meth "Reader" "told_by") rfl)⟩
  have t_Reader_is_late : TopM K (He.ga K "Reader") "is_late" "Reader.is_late" sReader_is_late := by
    obtain ⟨fd, F⟩ := cd.def_ 28 (d := ⟨("Reader", some "is_late"), "is_late", "Reader.is_late", defArgs sReader_is_late, defBody sReader_is_late, defScope sReader_is_late, [], []⟩) rfl
    exact ⟨_, fd, fun_of F, He.meth_ok (cd.fact 47 (f := .meth "Reader" "is_late") rfl)⟩
  have t_Reader_numbered : TopM K (He.ga K "Reader") "numbered" "Reader.numbered" sReader_numbered := by
    obtain ⟨fd, F⟩ := cd.def_ 29 (d := ⟨("Reader", some "numbered"), "numbered", "Reader.numbered", defArgs sReader_numbered, defBody sReader_numbered, defScope sReader_numbered, [], []⟩) rfl
    exact ⟨_, fd, fun_of F, He.meth_ok (cd.fact 48 (f := .meth "Reader" "numbered") rfl)⟩
  have t_size_of : Top K mg "size_of" ssize_of := by
    obtain ⟨fd, F⟩ := cd.def_ 30 (d := ⟨("size_of", none), "size_of", "size_of", defArgs ssize_of, defBody ssize_of, defScope ssize_of, [], []⟩) rfl
    exact ⟨_, fd, fun_of F, He.glo_ok X G (cd.fact 49 (f := .glo "size_of") rfl)⟩
  have t_pieces_size : Top K mg "pieces_size" spieces_size := by
    obtain ⟨fd, F⟩ := cd.def_ 31 (d := ⟨("pieces_size", none), "pieces_size", "pieces_size", defArgs spieces_size, defBody spieces_size, defScope spieces_size, [], []⟩) rfl
    exact ⟨_, fd, fun_of F, He.glo_ok X G (cd.fact 50 (f := .glo "pieces_size") rfl)⟩
  have t_number_width : Top K mg "number_width" snumber_width := by
    obtain ⟨fd, F⟩ := cd.def_ 32 (d := ⟨("number_width", none), "number_width", "number_width", defArgs snumber_width, defBody snumber_width, defScope snumber_width, [], []⟩) rfl
    exact ⟨_, fd, fun_of F, He.glo_ok X G (cd.fact 51 (f := .glo "number_width") rfl)⟩
  have t_width_for : Top K mg "width_for" swidth_for := by
    obtain ⟨fd, F⟩ := cd.def_ 33 (d := ⟨("width_for", none), "width_for", "width_for", defArgs swidth_for, defBody swidth_for, defScope swidth_for, [], []⟩) rfl
    exact ⟨_, fd, fun_of F, He.glo_ok X G (cd.fact 52 (f := .glo "width_for") rfl)⟩
  have t_sort_width : Top K mg "sort_width" ssort_width := by
    obtain ⟨fd, F⟩ := cd.def_ 34 (d := ⟨("sort_width", none), "sort_width", "sort_width", defArgs ssort_width, defBody ssort_width, defScope ssort_width, [], []⟩) rfl
    exact ⟨_, fd, fun_of F, He.glo_ok X G (cd.fact 53 (f := .glo "sort_width") rfl)⟩
  have t_check_width : Top K mg "check_width" scheck_width := by
    obtain ⟨fd, F⟩ := cd.def_ 35 (d := ⟨("check_width", none), "check_width", "check_width", defArgs scheck_width, defBody scheck_width, defScope scheck_width, [], []⟩) rfl
    exact ⟨_, fd, fun_of F, He.glo_ok X G (cd.fact 54 (f := .glo "check_width") rfl)⟩
  have t_letter_size : Top K mg "letter_size" sletter_size := by
    obtain ⟨fd, F⟩ := cd.def_ 36 (d := ⟨("letter_size", none), "letter_size", "letter_size", defArgs sletter_size, defBody sletter_size, defScope sletter_size, [], []⟩) rfl
    exact ⟨_, fd, fun_of F, He.glo_ok X G (cd.fact 55 (f := .glo "letter_size") rfl)⟩
  have t_sort_of : Top K mg "sort_of" ssort_of := by
    obtain ⟨fd, F⟩ := cd.def_ 37 (d := ⟨("sort_of", none), "sort_of", "sort_of", defArgs ssort_of, defBody ssort_of, defScope ssort_of, [], []⟩) rfl
    exact ⟨_, fd, fun_of F, He.glo_ok X G (cd.fact 56 (f := .glo "sort_of") rfl)⟩
  have t_are_bits : Top K mg "are_bits" sare_bits := by
    obtain ⟨fd, F⟩ := cd.def_ 38 (d := ⟨("are_bits", none), "are_bits", "are_bits", defArgs sare_bits, defBody sare_bits, defScope sare_bits, [], []⟩) rfl
    exact ⟨_, fd, fun_of F, He.glo_ok X G (cd.fact 57 (f := .glo "are_bits") rfl)⟩
  have t_parted : Top K mg "parted" sparted := by
    obtain ⟨fd, F⟩ := cd.def_ 39 (d := ⟨("parted", none), "parted", "parted", defArgs sparted, defBody sparted, defScope sparted, [], []⟩) rfl
    exact ⟨_, fd, fun_of F, He.glo_ok X G (cd.fact 58 (f := .glo "parted") rfl)⟩
  have t_Reader_read : TopM K (He.ga K "Reader") "read" "Reader.read" sReader_read := by
    obtain ⟨fd, F⟩ := cd.def_ 40 (d := ⟨("Reader", some "read"), "read", "Reader.read", defArgs sReader_read, defBody sReader_read, defScope sReader_read, [], []⟩) rfl
    exact ⟨_, fd, fun_of F, He.meth_ok (cd.fact 59 (f := .meth "Reader" "read") rfl)⟩
  have t_Reader_top : TopM K (He.ga K "Reader") "top" "Reader.top" sReader_top := by
    obtain ⟨fd, F⟩ := cd.def_ 41 (d := ⟨("Reader", some "top"), "top", "Reader.top", defArgs sReader_top, defBody sReader_top, defScope sReader_top, [], []⟩) rfl
    exact ⟨_, fd, fun_of F, He.meth_ok (cd.fact 60 (f := .meth "Reader" "top") rfl)⟩
  have t_Road_is_beyond : TopM K (He.ga K "Road") "is_beyond" "Road.is_beyond" sRoad_is_beyond := by
    obtain ⟨fd, F⟩ := cd.def_ 42 (d := ⟨("Road", some "is_beyond"), "is_beyond", "Road.is_beyond", defArgs sRoad_is_beyond, defBody sRoad_is_beyond, defScope sRoad_is_beyond, [], []⟩) rfl
    exact ⟨_, fd, fun_of F, He.meth_ok (cd.fact 61 (f := .meth "Road" "is_beyond") rfl)⟩
  have t_Road_arrives : TopM K (He.ga K "Road") "arrives" "Road.arrives" sRoad_arrives := by
    obtain ⟨fd, F⟩ := cd.def_ 43 (d := ⟨("Road", some "arrives"), "arrives", "Road.arrives", defArgs sRoad_arrives, defBody sRoad_arrives, defScope sRoad_arrives, [], []⟩) rfl
    exact ⟨_, fd, fun_of F, He.meth_ok (cd.fact 62 (f := .meth "Road" "arrives") rfl)⟩
  have t_Road_placed : TopM K (He.ga K "Road") "placed" "Road.placed" sRoad_placed := by
    obtain ⟨fd, F⟩ := cd.def_ 44 (d := ⟨("Road", some "placed"), "placed", "Road.placed", defArgs sRoad_placed, defBody sRoad_placed, defScope sRoad_placed, [], []⟩) rfl
    exact ⟨_, fd, fun_of F, He.meth_ok (cd.fact 63 (f := .meth "Road" "placed") rfl)⟩
  have t_bits_of : Top K mg "bits_of" sbits_of := by
    obtain ⟨fd, F⟩ := cd.def_ 45 (d := ⟨("bits_of", none), "bits_of", "bits_of", defArgs sbits_of, defBody sbits_of, defScope sbits_of, [], []⟩) rfl
    exact ⟨_, fd, fun_of F, He.glo_ok X G (cd.fact 64 (f := .glo "bits_of") rfl)⟩
  have t_check_bits : Top K mg "check_bits" scheck_bits := by
    obtain ⟨fd, F⟩ := cd.def_ 46 (d := ⟨("check_bits", none), "check_bits", "check_bits", defArgs scheck_bits, defBody scheck_bits, defScope scheck_bits, [], []⟩) rfl
    exact ⟨_, fd, fun_of F, He.glo_ok X G (cd.fact 65 (f := .glo "check_bits") rfl)⟩
  have t_bits_ahead : Top K mg "bits_ahead" sbits_ahead := by
    obtain ⟨fd, F⟩ := cd.def_ 47 (d := ⟨("bits_ahead", none), "bits_ahead", "bits_ahead", defArgs sbits_ahead, defBody sbits_ahead, defScope sbits_ahead, [], []⟩) rfl
    exact ⟨_, fd, fun_of F, He.glo_ok X G (cd.fact 66 (f := .glo "bits_ahead") rfl)⟩
  have t_pieces : Top K mg "pieces" spieces := by
    obtain ⟨fd, F⟩ := cd.def_ 48 (d := ⟨("pieces", none), "pieces", "pieces", defArgs spieces, defBody spieces, defScope spieces, [], []⟩) rfl
    exact ⟨_, fd, fun_of F, He.glo_ok X G (cd.fact 67 (f := .glo "pieces") rfl)⟩
  have t_pressed_letter : Top K mg "pressed_letter" spressed_letter := by
    obtain ⟨fd, F⟩ := cd.def_ 49 (d := ⟨("pressed_letter", none), "pressed_letter", "pressed_letter", defArgs spressed_letter, defBody spressed_letter, defScope spressed_letter, [], []⟩) rfl
    exact ⟨_, fd, fun_of F, He.glo_ok X G (cd.fact 68 (f := .glo "pressed_letter") rfl)⟩
  have t_whole_pieces : Top K mg "whole_pieces" swhole_pieces := by
    obtain ⟨fd, F⟩ := cd.def_ 50 (d := ⟨("whole_pieces", none), "whole_pieces", "whole_pieces", defArgs swhole_pieces, defBody swhole_pieces, defScope swhole_pieces, [], []⟩) rfl
    exact ⟨_, fd, fun_of F, He.glo_ok X G (cd.fact 69 (f := .glo "whole_pieces") rfl)⟩
  have t_whole_letter : Top K mg "whole_letter" swhole_letter := by
    obtain ⟨fd, F⟩ := cd.def_ 51 (d := ⟨("whole_letter", none), "whole_letter", "whole_letter", defArgs swhole_letter, defBody swhole_letter, defScope swhole_letter, [], []⟩) rfl
    exact ⟨_, fd, fun_of F, He.glo_ok X G (cd.fact 70 (f := .glo "whole_letter") rfl)⟩
  have t_first_unlike : Top K mg "first_unlike" sfirst_unlike := by
    obtain ⟨fd, F⟩ := cd.def_ 52 (d := ⟨("first_unlike", none), "first_unlike", "first_unlike", defArgs sfirst_unlike, defBody sfirst_unlike, defScope sfirst_unlike, [], []⟩) rfl
    exact ⟨_, fd, fun_of F, He.glo_ok X G (cd.fact 71 (f := .glo "first_unlike") rfl)⟩
  have t_doubt : Top K mg "doubt" sdoubt := by
    obtain ⟨fd, F⟩ := cd.def_ 53 (d := ⟨("doubt", none), "doubt", "doubt", defArgs sdoubt, defBody sdoubt, defScope sdoubt, [], []⟩) rfl
    exact ⟨_, fd, fun_of F, He.glo_ok X G (cd.fact 72 (f := .glo "doubt") rfl)⟩
  have t_Presser_formers : TopM K (He.ga K "Presser") "formers" "Presser.formers" sPresser_formers := by
    obtain ⟨fd, F⟩ := cd.def_ 54 (d := ⟨("Presser", some "formers"), "formers", "Presser.formers", defArgs sPresser_formers, defBody sPresser_formers, defScope sPresser_formers, [], []⟩) rfl
    exact ⟨_, fd, fun_of F, He.meth_ok (cd.fact 73 (f := .meth "Presser" "formers") rfl)⟩
  have t_Presser_least_top : TopM K (He.ga K "Presser") "least_top" "Presser.least_top" sPresser_least_top := by
    obtain ⟨fd, F⟩ := cd.def_ 55 (d := ⟨("Presser", some "least_top"), "least_top", "Presser.least_top", defArgs sPresser_least_top, defBody sPresser_least_top, defScope sPresser_least_top, [], []⟩) rfl
    exact ⟨_, fd, fun_of F, He.meth_ok (cd.fact 74 (f := .meth "Presser" "least_top") rfl)⟩
  have t_Presser_does_count : TopM K (He.ga K "Presser") "does_count" "Presser.does_count" sPresser_does_count := by
    obtain ⟨fd, F⟩ := cd.def_ 56 (d := ⟨("Presser", some "does_count"), "does_count", "Presser.does_count", defArgs sPresser_does_count, defBody sPresser_does_count, defScope sPresser_does_count, [], []⟩) rfl
    exact ⟨_, fd, fun_of F, He.meth_ok (cd.fact 75 (f := .meth "Presser" "does_count") rfl)⟩
  have t_Presser_shared_most : TopM K (He.ga K "Presser") "shared_most" "Presser.shared_most" sPresser_shared_most := by
    obtain ⟨fd, F⟩ := cd.def_ 57 (d := ⟨("Presser", some "shared_most"), "shared_most", "Presser.shared_most", defArgs sPresser_shared_most, defBody sPresser_shared_most, defScope sPresser_shared_most, [], []⟩) rfl
    exact ⟨_, fd, fun_of F, He.meth_ok (cd.fact 76 (f := .meth "Presser" "shared_most") rfl)⟩
  have t_Presser_is_shared : TopM K (He.ga K "Presser") "is_shared" "Presser.is_shared" sPresser_is_shared := by
    obtain ⟨fd, F⟩ := cd.def_ 58 (d := ⟨("Presser", some "is_shared"), "is_shared", "Presser.is_shared", defArgs sPresser_is_shared, defBody sPresser_is_shared, defScope sPresser_is_shared, [], []⟩) rfl
    exact ⟨_, fd, fun_of F, He.meth_ok (cd.fact 77 (f := .meth "Presser" "is_shared") rfl)⟩
  have t_Presser_is_turn_of_whole : TopM K (He.ga K "Presser") "is_turn_of_whole" "Presser.is_turn_of_whole" sPresser_is_turn_of_whole := by
    obtain ⟨fd, F⟩ := cd.def_ 59 (d := ⟨("Presser", some "is_turn_of_whole"), "is_turn_of_whole", "Presser.is_turn_of_whole", defArgs sPresser_is_turn_of_whole, defBody sPresser_is_turn_of_whole, defScope sPresser_is_turn_of_whole, [], []⟩) rfl
    exact ⟨_, fd, fun_of F, He.meth_ok (cd.fact 78 (f := .meth "Presser" "is_turn_of_whole") rfl)⟩
  have t_Presser_hindered : TopM K (He.ga K "Presser") "hindered" "Presser.hindered" sPresser_hindered := by
    obtain ⟨fd, F⟩ := cd.def_ 60 (d := ⟨("Presser", some "hindered"), "hindered", "Presser.hindered", defArgs sPresser_hindered, defBody sPresser_hindered, defScope sPresser_hindered, [], []⟩) rfl
    exact ⟨_, fd, fun_of F, He.meth_ok (cd.fact 79 (f := .meth "Presser" "hindered") rfl)⟩
  have t_is_value : Top K mg "is_value" sis_value := by
    obtain ⟨fd, F⟩ := cd.def_ 61 (d := ⟨("is_value", none), "is_value", "is_value", defArgs sis_value, defBody sis_value, defScope sis_value, [], []⟩) rfl
    exact ⟨_, fd, fun_of F, He.glo_ok X G (cd.fact 80 (f := .glo "is_value") rfl)⟩
  have t_is_head : Top K mg "is_head" sis_head := by
    obtain ⟨fd, F⟩ := cd.def_ 62 (d := ⟨("is_head", none), "is_head", "is_head", defArgs sis_head, defBody sis_head, defScope sis_head, [], []⟩) rfl
    exact ⟨_, fd, fun_of F, He.glo_ok X G (cd.fact 81 (f := .glo "is_head") rfl)⟩
  have t_Presser_look_at : TopM K (He.ga K "Presser") "look_at" "Presser.look_at" sPresser_look_at := by
    obtain ⟨fd, F⟩ := cd.def_ 63 (d := ⟨("Presser", some "look_at"), "look_at", "Presser.look_at", defArgs sPresser_look_at, defBody sPresser_look_at, defScope sPresser_look_at, [], []⟩) rfl
    exact ⟨_, fd, fun_of F, He.meth_ok (cd.fact 82 (f := .meth "Presser" "look_at") rfl)⟩
  have t_Presser_usable : TopM K (He.ga K "Presser") "usable" "Presser.usable" sPresser_usable := by
    obtain ⟨fd, F⟩ := cd.def_ 64 (d := ⟨("Presser", some "usable"), "usable", "Presser.usable", defArgs sPresser_usable, defBody sPresser_usable, defScope sPresser_usable, [], []⟩) rfl
    exact ⟨_, fd, fun_of F, He.meth_ok (cd.fact 83 (f := .meth "Presser" "usable") rfl)⟩
  have t_Presser_chosen : TopM K (He.ga K "Presser") "chosen" "Presser.chosen" sPresser_chosen := by
    obtain ⟨fd, F⟩ := cd.def_ 65 (d := ⟨("Presser", some "chosen"), "chosen", "Presser.chosen", defArgs sPresser_chosen, defBody sPresser_chosen, defScope sPresser_chosen, [], []⟩) rfl
    exact ⟨_, fd, fun_of F, He.meth_ok (cd.fact 84 (f := .meth "Presser" "chosen") rfl)⟩
  have t_Presser_press : TopM K (He.ga K "Presser") "press" "Presser.press" sPresser_press := by
    obtain ⟨fd, F⟩ := cd.def_ 66 (d := ⟨("Presser", some "press"), "press", "Presser.press", defArgs sPresser_press, defBody sPresser_press, defScope sPresser_press, [], []⟩) rfl
    exact ⟨_, fd, fun_of F, He.meth_ok (cd.fact 85 (f := .meth "Presser" "press") rfl)⟩
  have t_Road_put_on : TopM K (He.ga K "Road") "put_on" "Road.put_on" sRoad_put_on := by
    obtain ⟨fd, F⟩ := cd.def_ 67 (d := ⟨("Road", some "put_on"), "put_on", "Road.put_on", defArgs sRoad_put_on, defBody sRoad_put_on, defScope sRoad_put_on, [], []⟩) rfl
    exact ⟨_, fd, fun_of F, He.meth_ok (cd.fact 86 (f := .meth "Road" "put_on") rfl)⟩
  have t_Reader_forget : TopM K (He.ga K "Reader") "forget" "Reader.forget" sReader_forget := by
    obtain ⟨fd, F⟩ := cd.def_ 68 (d := ⟨("Reader", some "forget"), "forget", "Reader.forget", defArgs sReader_forget, defBody sReader_forget, defScope sReader_forget, [], []⟩) rfl
    exact ⟨_, fd, fun_of F, He.meth_ok (cd.fact 87 (f := .meth "Reader" "forget") rfl)⟩
  have t_is_deed : Top K mg "is_deed" sis_deed := by
    obtain ⟨fd, F⟩ := cd.def_ 69 (d := ⟨("is_deed", none), "is_deed", "is_deed", defArgs sis_deed, defBody sis_deed, defScope sis_deed, [], []⟩) rfl
    exact ⟨_, fd, fun_of F, He.glo_ok X G (cd.fact 88 (f := .glo "is_deed") rfl)⟩
  have t_Road_do : TopM K (He.ga K "Road") "do" "Road.do" sRoad_do := by
    obtain ⟨fd, F⟩ := cd.def_ 70 (d := ⟨("Road", some "do"), "do", "Road.do", defArgs sRoad_do, defBody sRoad_do, defScope sRoad_do, [], []⟩) rfl
    exact ⟨_, fd, fun_of F, He.meth_ok (cd.fact 89 (f := .meth "Road" "do") rfl)⟩
  have t_law_pressed : Top K mg "_law_pressed" slaw_pressed := by
    obtain ⟨fd, F⟩ := cd.def_ 71 (d := ⟨("_law_pressed", none), "_law_pressed", "_law_pressed", defArgs slaw_pressed, defBody slaw_pressed, defScope slaw_pressed, [], []⟩) rfl
    exact ⟨_, fd, fun_of F, He.glo_ok X G (cd.fact 90 (f := .glo "_law_pressed") rfl)⟩
  have t_law_is_whole : Top K mg "_law_is_whole" slaw_is_whole := by
    obtain ⟨fd, F⟩ := cd.def_ 72 (d := ⟨("_law_is_whole", none), "_law_is_whole", "_law_is_whole", defArgs slaw_is_whole, defBody slaw_is_whole, defScope slaw_is_whole, [], []⟩) rfl
    exact ⟨_, fd, fun_of F, He.glo_ok X G (cd.fact 91 (f := .glo "_law_is_whole") rfl)⟩
  have t_Road_heads : TopM K (He.ga K "Road") "heads" "Road.heads" sRoad_heads := by
    obtain ⟨fd, F⟩ := cd.def_ 73 (d := ⟨("Road", some "heads"), "heads", "Road.heads", defArgs sRoad_heads, defBody sRoad_heads, defScope sRoad_heads, [], []⟩) rfl
    exact ⟨_, fd, fun_of F, He.meth_ok (cd.fact 92 (f := .meth "Road" "heads") rfl)⟩
  have t_law_place : Top K mg "_law_place" slaw_place := by
    obtain ⟨fd, F⟩ := cd.def_ 74 (d := ⟨("_law_place", none), "_law_place", "_law_place", defArgs slaw_place, defBody slaw_place, defScope slaw_place, [], []⟩) rfl
    exact ⟨_, fd, fun_of F, He.glo_ok X G (cd.fact 93 (f := .glo "_law_place") rfl)⟩
  have t_law_comes : Top K mg "_law_comes" slaw_comes := by
    obtain ⟨fd, F⟩ := cd.def_ 75 (d := ⟨("_law_comes", none), "_law_comes", "_law_comes", defArgs slaw_comes, defBody slaw_comes, defScope slaw_comes, [], []⟩) rfl
    exact ⟨_, fd, fun_of F, He.glo_ok X G (cd.fact 94 (f := .glo "_law_comes") rfl)⟩
  have t_Road_words : TopM K (He.ga K "Road") "words" "Road.words" sRoad_words := by
    obtain ⟨fd, F⟩ := cd.def_ 76 (d := ⟨("Road", some "words"), "words", "Road.words", defArgs sRoad_words, defBody sRoad_words, defScope sRoad_words, [], []⟩) rfl
    exact ⟨_, fd, fun_of F, He.meth_ok (cd.fact 95 (f := .meth "Road" "words") rfl)⟩
  have t_law_words : Top K mg "_law_words" slaw_words := by
    obtain ⟨fd, F⟩ := cd.def_ 77 (d := ⟨("_law_words", none), "_law_words", "_law_words", defArgs slaw_words, defBody slaw_words, defScope slaw_words, [], []⟩) rfl
    exact ⟨_, fd, fun_of F, He.glo_ok X G (cd.fact 96 (f := .glo "_law_words") rfl)⟩
  have t_law_value : Top K mg "_law_value" slaw_value := by
    obtain ⟨fd, F⟩ := cd.def_ 78 (d := ⟨("_law_value", none), "_law_value", "_law_value", defArgs slaw_value, defBody slaw_value, defScope slaw_value, [], []⟩) rfl
    exact ⟨_, fd, fun_of F, He.glo_ok X G (cd.fact 97 (f := .glo "_law_value") rfl)⟩
  have t_law_any_head : Top K mg "_law_any_head" slaw_any_head := by
    obtain ⟨fd, F⟩ := cd.def_ 79 (d := ⟨("_law_any_head", none), "_law_any_head", "_law_any_head", defArgs slaw_any_head, defBody slaw_any_head, defScope slaw_any_head, [], []⟩) rfl
    exact ⟨_, fd, fun_of F, He.glo_ok X G (cd.fact 98 (f := .glo "_law_any_head") rfl)⟩
  have t_Reader_init : TopI K mg "Reader" (He.ga K "Reader") sReader_init := by
    obtain ⟨fd, F⟩ := cd.def_ 80 (d := ⟨("Reader", some "__init__"), "__init__", (("Reader" : Str) ++ ".__init__"), defArgs sReader_init, defBody sReader_init, defScope sReader_init, [], []⟩) rfl
    exact ⟨_, fd, fun_of F, He.mkr_ok (cd.fact 100 (f := .mkr "Reader") rfl), He.glo_ok X G (cd.fact 99 (f := .glo "Reader") rfl)⟩
  have t_Presser_init : TopI K mg "Presser" (He.ga K "Presser") sPresser_init := by
    obtain ⟨fd, F⟩ := cd.def_ 81 (d := ⟨("Presser", some "__init__"), "__init__", (("Presser" : Str) ++ ".__init__"), defArgs sPresser_init, defBody sPresser_init, defScope sPresser_init, [], []⟩) rfl
    exact ⟨_, fd, fun_of F, He.mkr_ok (cd.fact 102 (f := .mkr "Presser") rfl), He.glo_ok X G (cd.fact 101 (f := .glo "Presser") rfl)⟩
  have t_Road_init : TopI K mg "Road" (He.ga K "Road") sRoad_init := by
    obtain ⟨fd, F⟩ := cd.def_ 82 (d := ⟨("Road", some "__init__"), "__init__", (("Road" : Str) ++ ".__init__"), defArgs sRoad_init, defBody sRoad_init, defScope sRoad_init, [], []⟩) rfl
    exact ⟨_, fd, fun_of F, He.mkr_ok (cd.fact 104 (f := .mkr "Road") rfl), He.glo_ok X G (cd.fact 103 (f := .glo "Road") rfl)⟩
  have t_law_fit_way : Top K mg "_law_fit_way" slaw_fit_way := by
    obtain ⟨fd, F⟩ := cd.def_ 83 (d := ⟨("_law_fit_way", none), "_law_fit_way", "_law_fit_way", defArgs slaw_fit_way, defBody slaw_fit_way, defScope slaw_fit_way, [], []⟩) rfl
    exact ⟨_, fd, fun_of F, He.glo_ok X G (cd.fact 105 (f := .glo "_law_fit_way") rfl)⟩
  have t_law_road : Top K mg "_law_road" slaw_road := by
    obtain ⟨fd, F⟩ := cd.def_ 84 (d := ⟨("_law_road", none), "_law_road", "_law_road", defArgs slaw_road, defBody slaw_road, defScope slaw_road, [], []⟩) rfl
    exact ⟨_, fd, fun_of F, He.glo_ok X G (cd.fact 106 (f := .glo "_law_road") rfl)⟩
  have t_law_way : Top K mg "_law_way" slaw_way := by
    obtain ⟨fd, F⟩ := cd.def_ 85 (d := ⟨("_law_way", none), "_law_way", "_law_way", defArgs slaw_way, defBody slaw_way, defScope slaw_way, [], []⟩) rfl
    exact ⟨_, fd, fun_of F, He.glo_ok X G (cd.fact 107 (f := .glo "_law_way") rfl)⟩
  have t_law_form : Top K mg "_law_form" slaw_form := by
    obtain ⟨fd, F⟩ := cd.def_ 86 (d := ⟨("_law_form", none), "_law_form", "_law_form", defArgs slaw_form, defBody slaw_form, defScope slaw_form, [], []⟩) rfl
    exact ⟨_, fd, fun_of F, He.glo_ok X G (cd.fact 108 (f := .glo "_law_form") rfl)⟩
  have t_law_kind : Top K mg "_law_kind" slaw_kind := by
    obtain ⟨fd, F⟩ := cd.def_ 87 (d := ⟨("_law_kind", none), "_law_kind", "_law_kind", defArgs slaw_kind, defBody slaw_kind, defScope slaw_kind, [], []⟩) rfl
    exact ⟨_, fd, fun_of F, He.glo_ok X G (cd.fact 109 (f := .glo "_law_kind") rfl)⟩
  have t_law_shape : Top K mg "_law_shape" slaw_shape := by
    obtain ⟨fd, F⟩ := cd.def_ 88 (d := ⟨("_law_shape", none), "_law_shape", "_law_shape", defArgs slaw_shape, defBody slaw_shape, defScope slaw_shape, [], []⟩) rfl
    exact ⟨_, fd, fun_of F, He.glo_ok X G (cd.fact 110 (f := .glo "_law_shape") rfl)⟩
  have t_law_pact : Top K mg "_law_pact" slaw_pact := by
    obtain ⟨fd, F⟩ := cd.def_ 89 (d := ⟨("_law_pact", none), "_law_pact", "_law_pact", defArgs slaw_pact, defBody slaw_pact, defScope slaw_pact, [], []⟩) rfl
    exact ⟨_, fd, fun_of F, He.glo_ok X G (cd.fact 111 (f := .glo "_law_pact") rfl)⟩
  have t_law_road_pact : Top K mg "_law_road_pact" slaw_road_pact := by
    obtain ⟨fd, F⟩ := cd.def_ 90 (d := ⟨("_law_road_pact", none), "_law_road_pact", "_law_road_pact", defArgs slaw_road_pact, defBody slaw_road_pact, defScope slaw_road_pact, [], []⟩) rfl
    exact ⟨_, fd, fun_of F, He.glo_ok X G (cd.fact 112 (f := .glo "_law_road_pact") rfl)⟩
  have t_law_box : Top K mg "_law_box" slaw_box := by
    obtain ⟨fd, F⟩ := cd.def_ 91 (d := ⟨("_law_box", none), "_law_box", "_law_box", defArgs slaw_box, defBody slaw_box, defScope slaw_box, [], []⟩) rfl
    exact ⟨_, fd, fun_of F, He.glo_ok X G (cd.fact 113 (f := .glo "_law_box") rfl)⟩
  obtain ⟨fd, F⟩ := cd.def_ 92 (d := ⟨("law", none), "law", "law", defArgs slaw, defBody slaw, defScope slaw, [], []⟩) rfl
  have Fl : Fun K "law" "law" slaw _ fd := fun_of F
  have e := hfa.symm.trans (He.glo_ok X G (cd.fact 114 (f := .glo "law") rfl))
  cases e
  have b := FunD.bindsA (ps := ["_law_script"]) F fun _ _ _ _ _ _ us hl => match us, hl with | [_], _ => rfl
  refine ⟨fd, fun s v => b s [v] rfl, fun base _ _ => ?_⟩
  have r_law_next : Fk P w K mg base CX0 1 "_law_next" ["_law_box_here", "_law_many"] (sp_law_next K) := ok_law_next T t_law_next 
  have r_law_of : Fk P w K mg base CX0 2 "_law_of" ["_law_box_here", "_law_some"] (sp_law_of K) := ok_law_of T t_law_of r_law_next
  have r_law_expected : Fk P w K mg base CX0 1 "_law_expected" ["_law_shape_here", "_law_place_here", "_law_former", "_law_ahead", "_law_more"] (sp_law_expected K) := ok_law_expected T t_law_expected 
  have r_law_next_head : Fk P w K mg base CX0 3 "_law_next_head" ["_law_box_here", "_law_shape_here", "_law_former", "_law_calm"] (sp_law_next_head K) := ok_law_next_head T t_law_next_head r_law_next r_law_of r_law_expected
  have r_Road_letters : Mt P w K mg base CX0 1 (He.ga K "Road") "letters" ["self"] (sp_Road_letters K (He.ga K "Presser") (He.ga K "Reader") (He.ga K "Road") (He.ga K "Beyond")) := ok_Road_letters T TCRoad t_Road_letters 
  have n_Road_letters : MtN P w K mg base 1 (He.ga K "Road") "letters" ["self"] (sp_Road_letters K (He.ga K "Presser") (He.ga K "Reader") (He.ga K "Road") (He.ga K "Beyond")) := okN_Road_letters T TCRoad t_Road_letters
  have r_law_width : Fk P w K mg base CX0 1 "_law_width" ["_law_many"] (sp_law_width K) := ok_law_width T t_law_width 
  have r_law_whole_size : Fk P w K mg base CX0 2 "_law_whole_size" ["_law_pact_here"] (sp_law_whole_size K) := ok_law_whole_size T t_law_whole_size r_law_width
  have r_Presser_sent : Mt P w K mg base CX0 1 (He.ga K "Presser") "sent" ["self"] (sp_Presser_sent K (He.ga K "Presser")) := ok_Presser_sent T TCPresser t_Presser_sent 
  have r_is_whole : Fk P w K mg base CX0 1 "is_whole" ["thing"] (sp_is_whole K) := ok_is_whole T t_is_whole 
  have r_is_between : Fk P w K mg base CX0 2 "is_between" ["thing", "least", "most"] (sp_is_between K) := ok_is_between T t_is_between r_is_whole
  have r_Presser_is_had : Mt P w K mg base CX0 3 (He.ga K "Presser") "is_had" ["self", "word"] (sp_Presser_is_had K (He.ga K "Presser")) := ok_Presser_is_had T TCPresser t_Presser_is_had r_is_between r_Presser_sent
  have r_greater : Fk P w K mg base CX0 1 "greater" ["one", "other"] (sp_greater K) := ok_greater T t_greater 
  have r_Presser_heard : Mt P w K mg base CX0 4 (He.ga K "Presser") "heard" ["self", "word"] (sp_Presser_heard K (He.ga K "Presser")) := ok_Presser_heard T TCPresser t_Presser_heard r_Presser_sent r_Presser_is_had r_greater
  have r_word_of : Fk P w K mg base CX0 1 "word_of" ["told"] (sp_word_of K) := ok_word_of T t_word_of 
  have r_Reader_below : Mt P w K mg base CX0 1 (He.ga K "Reader") "below" ["self", "number"] (sp_Reader_below K (He.ga K "Reader")) := ok_Reader_below T TCReader t_Reader_below 
  have r_Reader_come : Mt P w K mg base CX0 2 (He.ga K "Reader") "come" ["self", "number"] (sp_Reader_come K (He.ga K "Reader")) := ok_Reader_come T TCReader t_Reader_come r_Reader_below
  have r_check_of : Fk P w K mg base CX0 1 "check_of" ["shape", "number", "head"] (sp_check_of K) := ok_check_of T t_check_of 
  have r_rest_of : Fk P w K mg base CX0 1 "rest_of" ["number", "width"] (sp_rest_of K) := ok_rest_of T t_rest_of 
  have r_windowed : Fk P w K mg base CX0 2 "windowed" ["least", "rest", "width"] (sp_windowed K) := ok_windowed T t_windowed r_rest_of
  have r_around : Fk P w K mg base CX0 3 "around" ["w", "base", "below", "rest", "width"] (sp_around K) := ok_around T t_around r_rest_of r_windowed
  have r_number_of : Fk P w K mg base CX0 1 "number_of" ["bits"] (sp_number_of K) := ok_number_of T t_number_of 
  have r_gone_round : Fk P w K mg base CX0 1 "gone_round" ["row", "value", "more"] (sp_gone_round K) := ok_gone_round T t_gone_round 
  have r_expected : Fk P w K mg base CX0 2 "expected" ["shape", "place", "former", "ahead", "more"] (sp_expected K) := ok_expected T t_expected r_rest_of r_gone_round
  have r_value_opened : Fk P w K mg base CX0 4 "value_opened" ["shape", "form", "place", "told", "former", "ahead", "more"] (sp_value_opened K) := ok_value_opened T t_value_opened r_around r_number_of r_expected
  have r_width_of : Fk P w K mg base CX0 1 "width_of" ["field", "way"] (sp_width_of K) := ok_width_of T t_width_of 
  have r_opened : Fk P w K mg base CX0 5 "opened" ["shape", "form", "bits", "former", "more"] (sp_opened K) := ok_opened T t_opened r_value_opened r_width_of
  have r_whole_head : Fk P w K mg base CX0 2 "whole_head" ["shape", "told"] (sp_whole_head K) := ok_whole_head T t_whole_head r_number_of
  have r_Reader_told_by : Mt P w K mg base CX0 6 (He.ga K "Reader") "told_by" ["self", "at", "number", "told"] (sp_Reader_told_by K (He.ga K "Reader")) := ok_Reader_told_by T TCReader t_Reader_told_by r_opened r_Reader_below r_whole_head
  have r_Reader_is_late : Mt P w K mg base CX0 1 (He.ga K "Reader") "is_late" ["self", "number"] (sp_Reader_is_late K (He.ga K "Reader")) := ok_Reader_is_late T TCReader t_Reader_is_late 
  have r_Reader_numbered : Mt P w K mg base CX0 3 (He.ga K "Reader") "numbered" ["self", "at", "written"] (sp_Reader_numbered K (He.ga K "Reader")) := ok_Reader_numbered T TCReader t_Reader_numbered r_windowed
  have r_size_of : Fk P w K mg base CX0 2 "size_of" ["shape", "form"] (sp_size_of K) := ok_size_of T t_size_of r_width_of
  have r_pieces_size : Fk P w K mg base CX0 3 "pieces_size" ["pact", "at"] (sp_pieces_size K) := ok_pieces_size T t_pieces_size r_size_of
  have r_number_width : Fk P w K mg base CX0 1 "number_width" ["pact", "at"] (sp_number_width K) := ok_number_width T t_number_width 
  have r_width_for : Fk P w K mg base CX0 1 "width_for" ["many"] (sp_width_for K) := ok_width_for T t_width_for 
  have r_sort_width : Fk P w K mg base CX0 2 "sort_width" ["pact"] (sp_sort_width K) := ok_sort_width T t_sort_width r_width_for
  have r_check_width : Fk P w K mg base CX0 2 "check_width" ["pact"] (sp_check_width K) := ok_check_width T t_check_width r_width_for
  have r_letter_size : Fk P w K mg base CX0 4 "letter_size" ["pact", "at"] (sp_letter_size K) := ok_letter_size T t_letter_size r_sort_width r_number_width r_pieces_size r_check_width
  have r_sort_of : Fk P w K mg base CX0 3 "sort_of" ["pact", "letter"] (sp_sort_of K) := ok_sort_of T t_sort_of r_number_of r_sort_width
  have r_are_bits : Fk P w K mg base CX0 1 "are_bits" ["thing"] (sp_are_bits K) := ok_are_bits T t_are_bits 
  have r_parted : Fk P w K mg base CX0 5 "parted" ["pact", "letter"] (sp_parted K) := ok_parted T t_parted r_number_of r_pieces_size r_number_width r_sort_width r_letter_size r_sort_of r_are_bits
  have r_Reader_read : Mt P w K mg base CX0 7 (He.ga K "Reader") "read" ["self", "letter"] (sp_Reader_read K (He.ga K "Reader")) := ok_Reader_read T TCReader t_Reader_read r_Reader_come r_check_of r_Reader_told_by r_Reader_is_late r_Reader_numbered r_parted
  have r_Reader_top : Mt P w K mg base CX0 1 (He.ga K "Reader") "top" ["self"] (sp_Reader_top K (He.ga K "Reader")) := ok_Reader_top T TCReader t_Reader_top 
  have r_Road_is_beyond : Mt P w K mg base CX0 6 (He.ga K "Road") "is_beyond" ["self", "number", "letter"] (sp_Road_is_beyond K (He.ga K "Presser") (He.ga K "Reader") (He.ga K "Road") (He.ga K "Beyond")) := ok_Road_is_beyond T TCRoad t_Road_is_beyond r_parted r_Reader_top
  have r_Road_arrives : Mt P w K mg base (L2.CX P w) 8 (He.ga K "Road") "arrives" ["self", "word", "k"] (sp_Road_arrives K (He.ga K "Presser") (He.ga K "Reader") (He.ga K "Road") (He.ga K "Beyond")) := ok_Road_arrives T TCRoad t_Road_arrives r_word_of r_Reader_read r_Road_is_beyond TB
  have r_Road_placed : Mt P w K mg base (L2.CX P w) 9 (He.ga K "Road") "placed" ["self", "word", "k"] (sp_Road_placed K (He.ga K "Presser") (He.ga K "Reader") (He.ga K "Road") (He.ga K "Beyond")) := ok_Road_placed T TCRoad t_Road_placed r_Presser_heard r_Road_arrives TT
  have r_bits_of : Fk P w K mg base CX0 1 "bits_of" ["number", "width"] (sp_bits_of K) := ok_bits_of T t_bits_of 
  have r_check_bits : Fk P w K mg base CX0 3 "check_bits" ["pact", "number", "head"] (sp_check_bits K) := ok_check_bits T t_check_bits r_bits_of r_check_width r_check_of
  have r_bits_ahead : Fk P w K mg base CX0 3 "bits_ahead" ["pact", "at", "written"] (sp_bits_ahead K) := ok_bits_ahead T t_bits_ahead r_bits_of r_sort_width r_number_width
  have r_pieces : Fk P w K mg base CX0 2 "pieces" ["shape", "form", "head"] (sp_pieces K) := ok_pieces T t_pieces r_bits_of r_rest_of r_width_of
  have r_pressed_letter : Fk P w K mg base CX0 4 "pressed_letter" ["pact", "at", "number", "head"] (sp_pressed_letter K) := ok_pressed_letter T t_pressed_letter r_check_bits r_bits_ahead r_rest_of r_pieces
  have r_whole_pieces : Fk P w K mg base CX0 2 "whole_pieces" ["shape", "head"] (sp_whole_pieces K) := ok_whole_pieces T t_whole_pieces r_bits_of
  have r_whole_letter : Fk P w K mg base CX0 4 "whole_letter" ["pact", "number", "head"] (sp_whole_letter K) := ok_whole_letter T t_whole_letter r_bits_ahead r_whole_pieces r_check_bits
  have r_first_unlike : Fk P w K mg base CX0 1 "first_unlike" ["one", "other"] (sp_first_unlike K) := ok_first_unlike T t_first_unlike 
  have r_doubt : Fk P w K mg base CX0 6 "doubt" ["shape", "form", "head", "formers"] (sp_doubt K) := ok_doubt T t_doubt r_first_unlike r_opened r_pieces
  have r_Presser_formers : Mt P w K mg base CX0 1 (He.ga K "Presser") "formers" ["self", "reach"] (sp_Presser_formers K (He.ga K "Presser")) := ok_Presser_formers T TCPresser t_Presser_formers 
  have r_Presser_least_top : Mt P w K mg base CX0 2 (He.ga K "Presser") "least_top" ["self"] (sp_Presser_least_top K (He.ga K "Presser")) := ok_Presser_least_top T TCPresser t_Presser_least_top r_Presser_sent
  have r_Presser_does_count : Mt P w K mg base CX0 3 (He.ga K "Presser") "does_count" ["self", "form"] (sp_Presser_does_count K (He.ga K "Presser")) := ok_Presser_does_count T TCPresser t_Presser_does_count r_Presser_sent r_Presser_least_top
  have r_Presser_shared_most : Mt P w K mg base CX0 2 (He.ga K "Presser") "shared_most" ["self"] (sp_Presser_shared_most K (He.ga K "Presser")) := ok_Presser_shared_most T TCPresser t_Presser_shared_most r_greater r_Presser_sent
  have r_Presser_is_shared : Mt P w K mg base CX0 3 (He.ga K "Presser") "is_shared" ["self", "form"] (sp_Presser_is_shared K (He.ga K "Presser")) := ok_Presser_is_shared T TCPresser t_Presser_is_shared r_Presser_sent r_Presser_shared_most
  have r_Presser_is_turn_of_whole : Mt P w K mg base CX0 2 (He.ga K "Presser") "is_turn_of_whole" ["self"] (sp_Presser_is_turn_of_whole K (He.ga K "Presser")) := ok_Presser_is_turn_of_whole T TCPresser t_Presser_is_turn_of_whole r_Presser_sent
  have r_Presser_hindered : Mt P w K mg base CX0 7 (He.ga K "Presser") "hindered" ["self", "head", "at"] (sp_Presser_hindered K (He.ga K "Presser")) := ok_Presser_hindered T TCPresser t_Presser_hindered r_doubt r_Presser_formers r_Presser_does_count r_Presser_is_shared r_Presser_is_turn_of_whole
  have r_is_value : Fk P w K mg base CX0 3 "is_value" ["thing", "breadth"] (sp_is_value K) := ok_is_value T t_is_value r_is_between
  have r_is_head : Fk P w K mg base CX0 4 "is_head" ["shape", "thing"] (sp_is_head K) := ok_is_head T t_is_head r_is_value
  have r_Presser_look_at : Mt P w K mg base CX0 5 (He.ga K "Presser") "look_at" ["self", "head"] (sp_Presser_look_at K (He.ga K "Presser")) := ok_Presser_look_at T TCPresser t_Presser_look_at r_is_head
  have r_Presser_usable : Mt P w K mg base CX0 8 (He.ga K "Presser") "usable" ["self", "head"] (sp_Presser_usable K (He.ga K "Presser")) := ok_Presser_usable T TCPresser t_Presser_usable r_Presser_hindered r_Presser_look_at
  have r_Presser_chosen : Mt P w K mg base CX0 9 (He.ga K "Presser") "chosen" ["self", "head"] (sp_Presser_chosen K (He.ga K "Presser")) := ok_Presser_chosen T TCPresser t_Presser_chosen r_Presser_usable r_letter_size
  have r_Presser_press : Mt P w K mg base CX0 10 (He.ga K "Presser") "press" ["self", "head"] (sp_Presser_press K (He.ga K "Presser")) := ok_Presser_press T TCPresser t_Presser_press r_pressed_letter r_whole_letter r_Presser_chosen r_Presser_sent r_Presser_look_at
  have r_Road_put_on : Mt P w K mg base CX0 11 (He.ga K "Road") "put_on" ["self", "head"] (sp_Road_put_on K (He.ga K "Presser") (He.ga K "Reader") (He.ga K "Road") (He.ga K "Beyond")) := ok_Road_put_on T TCRoad t_Road_put_on r_Presser_press r_Presser_sent
  have r_Reader_forget : Mt P w K mg base CX0 1 (He.ga K "Reader") "forget" ["self"] (sp_Reader_forget K (He.ga K "Reader")) := ok_Reader_forget T TCReader t_Reader_forget 
  have r_is_deed : Fk P w K mg base CX0 2 "is_deed" ["thing"] (sp_is_deed K) := ok_is_deed T t_is_deed r_is_whole TT
  have r_Road_do : Mt P w K mg base (L2.CX P w) 12 (He.ga K "Road") "do" ["self", "deed"] (sp_Road_do K (He.ga K "Presser") (He.ga K "Reader") (He.ga K "Road") (He.ga K "Beyond")) := ok_Road_do T TCRoad t_Road_do r_Road_placed r_Road_put_on r_Reader_forget r_is_deed TT
  have r_law_pressed : Fk P w K mg base CX0 13 "_law_pressed" ["_law_pact_here", "_law_road_here", "_law_head", "_law_number"] (sp_law_pressed K (He.ga K "Presser") (He.ga K "Reader") (He.ga K "Road") (He.ga K "Beyond")) := ok_law_pressed T t_law_pressed r_Road_letters r_law_whole_size r_Road_do
  have r_law_is_whole : Fk P w K mg base CX0 2 "_law_is_whole" ["_law_pact_here", "_law_letter"] (sp_law_is_whole K) := ok_law_is_whole T t_law_is_whole r_law_width
  have r_Road_heads : Mt P w K mg base CX0 1 (He.ga K "Road") "heads" ["self"] (sp_Road_heads K (He.ga K "Presser") (He.ga K "Reader") (He.ga K "Road") (He.ga K "Beyond")) := ok_Road_heads T TCRoad t_Road_heads 
  have r_law_place : Fk P w K mg base CX0 3 "_law_place" ["_law_box_here", "_law_many"] (sp_law_place K) := ok_law_place T t_law_place r_law_of r_law_next
  have r_law_comes : Fk P w K mg base CX0 13 "_law_comes" ["_law_box_here", "_law_pact_here", "_law_road_here", "_law_read"] (sp_law_comes K (He.ga K "Presser") (He.ga K "Reader") (He.ga K "Road") (He.ga K "Beyond")) := ok_law_comes T t_law_comes r_law_is_whole r_Road_heads r_Road_letters r_Road_do r_law_of r_law_place TB n_Road_letters
  have r_Road_words : Mt P w K mg base CX0 1 (He.ga K "Road") "words" ["self"] (sp_Road_words K (He.ga K "Presser") (He.ga K "Reader") (He.ga K "Road") (He.ga K "Beyond")) := ok_Road_words T TCRoad t_Road_words 
  have r_law_words : Fk P w K mg base CX0 13 "_law_words" ["_law_box_here", "_law_road_here"] (sp_law_words K (He.ga K "Presser") (He.ga K "Reader") (He.ga K "Road") (He.ga K "Beyond")) := ok_law_words T t_law_words r_Road_do r_law_place r_Road_words r_law_of
  have r_law_value : Fk P w K mg base CX0 2 "_law_value" ["_law_box_here", "_law_breadth"] (sp_law_value K) := ok_law_value T t_law_value r_law_next
  have r_law_any_head : Fk P w K mg base CX0 3 "_law_any_head" ["_law_box_here", "_law_shape_here"] (sp_law_any_head K) := ok_law_any_head T t_law_any_head r_law_value
  have r_Reader_init : Mkk P w K mg base CX0 1 "Reader" (He.ga K "Reader") ["self", "pact"] (sp_Reader_init K (He.ga K "Reader")) := ok_Reader_init T TCReader t_Reader_init 
  have r_Presser_init : Mkk P w K mg base CX0 1 "Presser" (He.ga K "Presser") ["self", "pact"] (sp_Presser_init K (He.ga K "Presser")) := ok_Presser_init T TCPresser t_Presser_init 
  have r_Road_init : Mkk P w K mg base CX0 3 "Road" (He.ga K "Road") ["self", "pact"] (sp_Road_init K (He.ga K "Presser") (He.ga K "Reader") (He.ga K "Road") (He.ga K "Beyond")) := ok_Road_init T TCRoad t_Road_init r_Reader_init r_Presser_init
  have r_law_fit_way : Fk P w K mg base CX0 3 "_law_fit_way" ["_law_box_here", "_law_field"] (sp_law_fit_way K) := ok_law_fit_way T t_law_fit_way r_law_of r_law_next
  have r_law_road : Fk P w K mg base CX0 3 "_law_road" ["_law_box_here"] (sp_law_road K) := ok_law_road T t_law_road r_law_of
  have r_law_way : Fk P w K mg base CX0 3 "_law_way" ["_law_box_here", "_law_breadth"] (sp_law_way K) := ok_law_way T t_law_way r_law_value r_law_next
  have r_law_form : Fk P w K mg base CX0 4 "_law_form" ["_law_box_here", "_law_shape_here"] (sp_law_form K) := ok_law_form T t_law_form r_law_of r_law_way
  have r_law_kind : Fk P w K mg base CX0 3 "_law_kind" ["_law_box_here", "_law_place_here", "_law_breadth"] (sp_law_kind K) := ok_law_kind T t_law_kind r_law_of r_law_next r_law_value
  have r_law_shape : Fk P w K mg base CX0 4 "_law_shape" ["_law_box_here", "_law_most"] (sp_law_shape K) := ok_law_shape T t_law_shape r_law_of r_law_next r_law_kind
  have r_law_pact : Fk P w K mg base CX0 5 "_law_pact" ["_law_box_here", "_law_most"] (sp_law_pact K) := ok_law_pact T t_law_pact r_law_road r_law_of r_law_form r_law_shape
  have r_law_road_pact : Fk P w K mg base CX0 6 "_law_road_pact" ["_law_box_here", "_law_many"] (sp_law_road_pact K) := ok_law_road_pact T t_law_road_pact r_law_of r_law_next r_law_fit_way r_law_pact
  have r_law_box : Fk P w K mg base CX0 1 "_law_box" ["_law_script"] (sp_law_box K) := ok_law_box T t_law_box 
  exact ok_law T Fl r_law_of r_law_next_head r_law_pressed r_Road_letters r_law_comes r_Road_do r_law_place r_Road_words r_law_words r_law_next r_law_any_head r_Road_init r_law_road_pact r_law_box
end Sh
set_option maxHeartbeats 0
open PySem PySem.W PySem.Calls PyProof.Rows
theorem PySem.Challenge.cw_shorthead_k60_whole_never_wrong_holds : PySem.Challenge.rw_shorthead_k60_whole_never_wrong.Holds := by
  w_on; o_law
  refine HandSHeadRun.head_any (r := OpenLaw.row PySem.Challenge.rw_shorthead_k60_whole_never_wrong) (q := view (OpenLaw.row PySem.Challenge.rw_shorthead_k60_whole_never_wrong).prog [86]) (H := Sh.hookN) (ob := Sh.obN) (M := 8000) (loose := Sh.names) (d := HandSHeadRun.topDef (OpenLaw.row PySem.Challenge.rw_shorthead_k60_whole_never_wrong).prog 86) (kwd := []) Sh.obN_eq
    (by kernel_rfl) (fun s => by kernel_rfl) Sh.run (by kernel_rfl) (by kernel_rfl) (by kernel_rfl) (by rfl) (by first | assumption | decide +kernel) (by decide +kernel) ⟨rfl, rfl, rfl, rfl, rfl, by decide +kernel⟩ ?hw ?hc
  case hw => w_witness2
  case hc =>
    refine L2.walk_ofE (l := PySem.Challenge.rw_shorthead_k60_whole_never_wrong) (n := 63) (k := 14) (x := "_law_script") (CX := L2.CX0) rfl (by decide) (by kernel_rfl) ⟨rfl, by decide, by decide⟩ ?F (fun _ _ _ _ z => z)
    intro w mg fa h Y G hmg0
    obtain ⟨K, KX, c⟩ := Y
    have hmg : mg ("law" : PySem.Str) = some (.ref fa) := by
      have e : (HandSHeadRun.topDef (OpenLaw.row PySem.Challenge.rw_shorthead_k60_whole_never_wrong).prog 86).name = ("law" : PySem.Str) := by kernel_rfl
      rw [← e]
      exact hmg0
    obtain ⟨fd, hb, hF⟩ := Sh.facts (P := (PySem.Challenge.rw_shorthead_k60_whole_never_wrong).prog) (w := w) KX G hmg c
    exact ⟨K, fd, Sh.sp_law K _ _ _ _, KX, hb, fun H a ns hl _ hS => ⟨a, ns, rfl, hS, by omega, fun _ => rfl⟩, hF⟩
