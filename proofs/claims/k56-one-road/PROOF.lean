import PyProof.Rows.All
import Wide.All
import OpenK.AllK
import Wide.FinOn
import KE.KStateDown
import Lean
import HandS.ForMost
import HandS.Exc
import HandS.Codes
import HandS.Defaults
import HandS.IsInst
import HandS.Head0
import HandS.Head1
import HandS.Head2
import HandS.HeadEnd
import HandS.HeadHook1
import HandS.HeadHook2
import HandS.HeadHook3
import PySem.Challenge.RW_fitwords_k56_whole_one_road_of_a_drawing
import HandS.Style
import HandS.Evl
import HandS.TupAny
import HandS.StrMore
import HandS.FStr
import HandS.CallLocal
import HandS.Walk
import HandS.OwnEq
import HandS.Strs
import HandS.MakeKw
import HandS.IntHex
import KE.Datum
import HandS.Conv
import KE.KDictSum
import KE.KItemsList
import HandS.ForDict
import HandS.DictEq
import PyProof.InstNe
import PyProof.NeKinds
import HandS.TryOnly
import KE.GoesMore
import PyProof.EnumMake
import KE.DatumMore
set_option Elab.async false
set_option linter.all false
set_option maxRecDepth 100000
set_option maxHeartbeats 0
namespace Fw
open PySem PySem.Spec PyProof.Rows L2
/-! the text by places -/
def top (i : Nat) : Stmt := PySem.Challenge.pw_fitwords_k56_whole_one_road_of_a_drawing.main.body.getD i (.Pass ⟨0, 0, 0, 0⟩)
abbrev tp (i : Nat) (nm ql : Str) (dfl : List He.Dv) : He.DefD := ⟨(nm, none), nm, ql, defArgs (top i), defBody (top i), defScope (top i), dfl, []⟩
abbrev mp (i j : Nat) (cl nm ql : Str) (dfl : List He.Dv) : He.DefD := ⟨(cl, some nm), nm, ql, defArgs (inClass (top i) j), defBody (inClass (top i) j), defScope (inClass (top i) j), dfl, []⟩
abbrev d_is_measure : He.DefD := tp 29 "is_measure" "is_measure" []
abbrev d_check_measure : He.DefD := tp 30 "check_measure" "check_measure" []
abbrev d_minus_of : He.DefD := tp 31 "minus_of" "minus_of" []
abbrev d_by_parts : He.DefD := tp 32 "by_parts" "by_parts" []
abbrev d_by_inches : He.DefD := tp 33 "by_inches" "by_inches" []
abbrev d_doubled : He.DefD := tp 34 "doubled" "doubled" []
abbrev d_by_halves : He.DefD := tp 35 "by_halves" "by_halves" []
abbrev d_counted : He.DefD := tp 36 "counted" "counted" []
abbrev d_by_words : He.DefD := tp 37 "by_words" "by_words" []
abbrev d_is_way : He.DefD := tp 39 "is_way" "is_way" []
abbrev d_check_way : He.DefD := tp 40 "check_way" "check_way" []
abbrev d_shown : He.DefD := tp 41 "shown" "shown" []
abbrev d_shown_span : He.DefD := tp 42 "shown_span" "shown_span" []
abbrev d_word_at : He.DefD := tp 43 "word_at" "word_at" []
abbrev d_is_figures : He.DefD := tp 44 "is_figures" "is_figures" []
abbrev d_unsigned : He.DefD := tp 45 "unsigned" "unsigned" []
abbrev d_from_parts : He.DefD := tp 46 "from_parts" "from_parts" []
abbrev d_share_of : He.DefD := tp 47 "share_of" "share_of" []
abbrev d_from_inches : He.DefD := tp 48 "from_inches" "from_inches" []
abbrev d_from_halves : He.DefD := tp 49 "from_halves" "from_halves" []
abbrev d_shares_from : He.DefD := tp 50 "shares_from" "shares_from" []
abbrev d_inches_from : He.DefD := tp 51 "inches_from" "inches_from" []
abbrev d_from_words : He.DefD := tp 52 "from_words" "from_words" []
abbrev d_read_from : He.DefD := tp 54 "read_from" "read_from" []
abbrev d_check_allowance : He.DefD := tp 56 "check_allowance" "check_allowance" []
abbrev d_Span_init : He.DefD := mp 57 0 "Span" "__init__" "Span.__init__" [.int 0, .int 0]
abbrev d_Span_eq : He.DefD := mp 57 1 "Span" "__eq__" "Span.__eq__" []
abbrev d_Span_len : He.DefD := mp 57 2 "Span" "__len__" "Span.__len__" []
abbrev d_Span_lets : He.DefD := mp 57 5 "Span" "lets" "Span.lets" []
abbrev d_Span_plus : He.DefD := mp 57 6 "Span" "plus" "Span.plus" []
abbrev d_Span_minus : He.DefD := mp 57 7 "Span" "minus" "Span.minus" []
abbrev d_Span_turned : He.DefD := mp 57 8 "Span" "turned" "Span.turned" []
abbrev d_check_span : He.DefD := tp 58 "check_span" "check_span" []
abbrev d_is_name : He.DefD := tp 62 "is_name" "is_name" []
abbrev d_Drawing_init : He.DefD := mp 63 0 "Drawing" "__init__" "Drawing.__init__" [.str "zero"]
abbrev d_Drawing_eq : He.DefD := mp 63 1 "Drawing" "__eq__" "Drawing.__eq__" []
abbrev d_Drawing_len : He.DefD := mp 63 2 "Drawing" "__len__" "Drawing.__len__" []
abbrev d_Drawing_mark : He.DefD := mp 63 4 "Drawing" "mark" "Drawing.mark" [.non]
abbrev d_Drawing_check_there : He.DefD := mp 63 5 "Drawing" "check_there" "Drawing.check_there" []
abbrev d_Drawing_names : He.DefD := mp 63 6 "Drawing" "names" "Drawing.names" []
abbrev d_Drawing_told : He.DefD := mp 63 7 "Drawing" "told" "Drawing.told" []
abbrev d_Drawing_way_up : He.DefD := mp 63 8 "Drawing" "way_up" "Drawing.way_up" []
abbrev d_Drawing_road : He.DefD := mp 63 9 "Drawing" "road" "Drawing.road" []
abbrev d_Drawing_between : He.DefD := mp 63 10 "Drawing" "between" "Drawing.between" []
abbrev d_Drawing_placed : He.DefD := mp 63 11 "Drawing" "placed" "Drawing.placed" []
abbrev d_Drawing_placing_of : He.DefD := mp 63 12 "Drawing" "placing_of" "Drawing.placing_of" []
abbrev d_lines_of : He.DefD := tp 64 "lines_of" "lines_of" []
abbrev d_check_drawing : He.DefD := tp 65 "check_drawing" "check_drawing" []
abbrev d_tell_span : He.DefD := tp 67 "tell_span" "tell_span" [.str "inches"]
abbrev d_behind_plus : He.DefD := tp 68 "behind_plus" "behind_plus" []
abbrev d_above_from : He.DefD := tp 69 "above_from" "above_from" []
abbrev d_below_from : He.DefD := tp 70 "below_from" "below_from" []
abbrev d_named_from : He.DefD := tp 71 "named_from" "named_from" []
abbrev d_parts_from : He.DefD := tp 72 "parts_from" "parts_from" []
abbrev d_read_span : He.DefD := tp 73 "read_span" "read_span" [.str "inches"]
abbrev d_is_want : He.DefD := tp 75 "is_want" "is_want" []
abbrev d_check_wants : He.DefD := tp 76 "check_wants" "check_wants" []
abbrev d_held : He.DefD := tp 77 "held" "held" []
abbrev d_judged : He.DefD := tp 78 "judged" "judged" []
abbrev d_show_drawing : He.DefD := tp 80 "show_drawing" "show_drawing" [.non, .str "inches"]
abbrev d_zero_of : He.DefD := tp 81 "zero_of" "zero_of" []
abbrev d_span_behind : He.DefD := tp 82 "span_behind" "span_behind" []
abbrev d_is_mark_line : He.DefD := tp 83 "is_mark_line" "is_mark_line" []
abbrev d_is_want_line : He.DefD := tp 84 "is_want_line" "is_want_line" []
abbrev d_add_mark : He.DefD := tp 85 "add_mark" "add_mark" []
abbrev d_want_of : He.DefD := tp 86 "want_of" "want_of" []
abbrev d_read_drawing : He.DefD := tp 87 "read_drawing" "read_drawing" [.str "inches"]
abbrev d_hung_on : He.DefD := tp 89 "hung_on" "hung_on" []
abbrev d_hung : He.DefD := tp 90 "hung" "hung" []
abbrev d_zeros_of : He.DefD := tp 91 "zeros_of" "zeros_of" []
abbrev d_last_zero : He.DefD := tp 92 "last_zero" "last_zero" []
abbrev d_straight_from : He.DefD := tp 93 "straight_from" "straight_from" []
abbrev d_wider_between : He.DefD := tp 94 "wider_between" "wider_between" []
abbrev d_straight : He.DefD := tp 95 "straight" "straight" [.non]
abbrev d_unsure : He.DefD := tp 96 "unsure" "unsure" [.non]
abbrev d_law_cell : He.DefD := tp 98 "_law_cell" "_law_cell" []
abbrev d_law_purse : He.DefD := tp 99 "_law_purse" "_law_purse" []
abbrev d_law_take : He.DefD := tp 100 "_law_take" "_law_take" []
abbrev d_law_word : He.DefD := tp 101 "_law_word" "_law_word" []
abbrev d_law_measure : He.DefD := tp 102 "_law_measure" "_law_measure" []
abbrev d_law_allowed : He.DefD := tp 103 "_law_allowed" "_law_allowed" []
abbrev d_law_parts : He.DefD := tp 104 "_law_parts" "_law_parts" []
abbrev d_law_ends : He.DefD := tp 105 "_law_ends" "_law_ends" []
abbrev d_law_tell : He.DefD := tp 106 "_law_tell" "_law_tell" []
abbrev d_law_doubles : He.DefD := tp 107 "_law_doubles" "_law_doubles" []
abbrev d_law_counted : He.DefD := tp 108 "_law_counted" "_law_counted" []
abbrev d_law_tell_parts : He.DefD := tp 109 "_law_tell_parts" "_law_tell_parts" []
abbrev d_law_sketch : He.DefD := tp 110 "_law_sketch" "_law_sketch" []
abbrev d_law_way_up : He.DefD := tp 111 "_law_way_up" "_law_way_up" []
abbrev d_law_road : He.DefD := tp 112 "_law_road" "_law_road" []
abbrev d_law_apart : He.DefD := tp 113 "_law_apart" "_law_apart" []
abbrev d_law_made : He.DefD := tp 114 "_law_made" "_law_made" []
abbrev d_law_plain_sketch : He.DefD := tp 115 "_law_plain_sketch" "_law_plain_sketch" []
abbrev d_law_some_sketch : He.DefD := tp 116 "_law_some_sketch" "_law_some_sketch" []
abbrev d_law_named : He.DefD := tp 117 "_law_named" "_law_named" []
abbrev d_law_turned : He.DefD := tp 118 "_law_turned" "_law_turned" []
abbrev d_law_hung : He.DefD := tp 119 "_law_hung" "_law_hung" []
abbrev d_law_down : He.DefD := tp 120 "_law_down" "_law_down" []
abbrev d_law_straight : He.DefD := tp 121 "_law_straight" "_law_straight" []
abbrev d_law_zeros : He.DefD := tp 122 "_law_zeros" "_law_zeros" []
abbrev d_law_is_drawing : He.DefD := tp 123 "_law_is_drawing" "_law_is_drawing" []
abbrev d_law_wants : He.DefD := tp 124 "_law_wants" "_law_wants" []
abbrev d_law_wants_made : He.DefD := tp 125 "_law_wants_made" "_law_wants_made" []
abbrev d_law_lines : He.DefD := tp 126 "_law_lines" "_law_lines" []
abbrev d_law_near_sketch : He.DefD := tp 127 "_law_near_sketch" "_law_near_sketch" []
abbrev d_law_there_and_back : He.DefD := tp 128 "_law_there_and_back" "_law_there_and_back" []
abbrev d_law_right : He.DefD := tp 129 "_law_right" "_law_right" []
abbrev d_law : He.DefD := tp 130 "law" "law" []
def fn0 : List He.DefD := [d_is_measure, d_check_measure, d_minus_of, d_by_parts, d_by_inches, d_doubled, d_by_halves, d_counted, d_by_words, d_is_way, d_check_way, d_shown, d_shown_span, d_word_at, d_is_figures, d_unsigned, d_from_parts, d_share_of, d_from_inches, d_from_halves, d_shares_from, d_inches_from, d_from_words, d_read_from, d_check_allowance, d_Span_init, d_Span_eq, d_Span_len, d_Span_lets, d_Span_plus]
def fn1 : List He.DefD := [d_Span_minus, d_Span_turned, d_check_span, d_is_name, d_Drawing_init, d_Drawing_eq, d_Drawing_len, d_Drawing_mark, d_Drawing_check_there, d_Drawing_names, d_Drawing_told, d_Drawing_way_up, d_Drawing_road, d_Drawing_between, d_Drawing_placed, d_Drawing_placing_of, d_lines_of, d_check_drawing, d_tell_span, d_behind_plus, d_above_from, d_below_from, d_named_from, d_parts_from, d_read_span, d_is_want, d_check_wants, d_held, d_judged, d_show_drawing]
def fn2 : List He.DefD := [d_zero_of, d_span_behind, d_is_mark_line, d_is_want_line, d_add_mark, d_want_of, d_read_drawing, d_hung_on, d_hung, d_zeros_of, d_last_zero, d_straight_from, d_wider_between, d_straight, d_unsure, d_law_cell, d_law_purse, d_law_take, d_law_word, d_law_measure, d_law_allowed, d_law_parts, d_law_ends, d_law_tell, d_law_doubles, d_law_counted, d_law_tell_parts, d_law_sketch, d_law_way_up, d_law_road]
def fn3 : List He.DefD := [d_law_apart, d_law_made, d_law_plain_sketch, d_law_some_sketch, d_law_named, d_law_turned, d_law_hung, d_law_down, d_law_straight, d_law_zeros, d_law_is_drawing, d_law_wants, d_law_wants_made, d_law_lines, d_law_near_sketch, d_law_there_and_back, d_law_right, d_law]
def fn : List He.DefD := fn0 ++ fn1 ++ fn2 ++ fn3
def fa0 : List He.Fa := [.glo "COUNTS", .glo "TENS", .glo "SHARES", .glo "is_measure", .glo "check_measure", .glo "minus_of", .glo "by_parts", .glo "by_inches", .glo "doubled", .glo "by_halves", .glo "counted", .glo "by_words", .glo "TELLERS", .glo "is_way", .glo "check_way", .glo "shown", .glo "shown_span", .glo "word_at", .glo "is_figures", .glo "unsigned", .glo "from_parts", .glo "share_of", .glo "from_inches", .glo "from_halves", .glo "shares_from", .glo "inches_from", .glo "from_words", .glo "READERS", .glo "read_from", .glo "check_allowance"]
def fa1 : List He.Fa := [.glo "Span", .glo "check_span", .glo "is_name", .glo "Drawing", .glo "lines_of", .glo "check_drawing", .glo "tell_span", .glo "behind_plus", .glo "above_from", .glo "below_from", .glo "named_from", .glo "parts_from", .glo "read_span", .glo "is_want", .glo "check_wants", .glo "held", .glo "judged", .glo "show_drawing", .glo "zero_of", .glo "span_behind", .glo "is_mark_line", .glo "is_want_line", .glo "add_mark", .glo "want_of", .glo "read_drawing", .glo "hung_on", .glo "hung", .glo "zeros_of", .glo "last_zero", .glo "straight_from"]
def fa2 : List He.Fa := [.glo "wider_between", .glo "straight", .glo "unsure", .glo "_law_cell", .glo "_law_purse", .glo "_law_take", .glo "_law_word", .glo "_law_measure", .glo "_law_allowed", .glo "_law_parts", .glo "_law_ends", .glo "_law_tell", .glo "_law_doubles", .glo "_law_counted", .glo "_law_tell_parts", .glo "_law_sketch", .glo "_law_way_up", .glo "_law_road", .glo "_law_apart", .glo "_law_made", .glo "_law_plain_sketch", .glo "_law_some_sketch", .glo "_law_named", .glo "_law_turned", .glo "_law_hung", .glo "_law_down", .glo "_law_straight", .glo "_law_zeros", .glo "_law_is_drawing", .glo "_law_wants"]
def fa3 : List He.Fa := [.glo "_law_wants_made", .glo "_law_lines", .glo "_law_near_sketch", .glo "_law_there_and_back", .glo "_law_right", .glo "law", .free "abs", .free "all", .free "bool", .free "dict", .free "divmod", .free "enumerate", .free "int", .free "isinstance", .free "len", .free "list", .free "max", .free "min", .free "range", .free "str", .free "sum", .free "tuple", .int "INCH" 64, .int "MOST_BY_WORDS" 100, .int "MOST_LETTERS" 6, .str "FIGURES" "0123456789", .str "DOUBLES" "01", .str "LETTERS" "abcdefghijklmnopqrstuvwxyz", .cls "Span", .mkr "Span"]
def fa4 : List He.Fa := [.noat "Span" "size", .noat "Span" "above", .noat "Span" "below", .noat "Span" "low", .noat "Span" "high", .meth "Span" "__eq__", .meth "Span" "__len__", .meth "Span" "lets", .meth "Span" "plus", .meth "Span" "minus", .meth "Span" "turned", .cls "Drawing", .mkr "Drawing", .noat "Drawing" "zero", .noat "Drawing" "rows", .meth "Drawing" "__eq__", .meth "Drawing" "__len__", .meth "Drawing" "mark", .meth "Drawing" "check_there", .meth "Drawing" "names", .meth "Drawing" "told", .meth "Drawing" "way_up", .meth "Drawing" "road", .meth "Drawing" "between", .meth "Drawing" "placed", .meth "Drawing" "placing_of"]
def fa : List He.Fa := fa0 ++ fa1 ++ fa2 ++ fa3 ++ fa4
def nm0 : List Str := ["_wall", "FitError", "NoMeasure", "NoAllowance", "NoSpan", "NoOption", "NoNew", "NoDrawing", "NoWants", "NoZeros", "ReadError", "NoWord", "NoLine", "MissError", "NoName", "RoomError", "TooLong", "INCH", "FIGURES", "DOUBLES", "MOST_BY_WORDS", "ONES", "TEENS", "COUNTS", "TENS", "GREAT_SHARES", "SHARES", "is_measure", "check_measure", "minus_of"]
def nm1 : List Str := ["by_parts", "by_inches", "doubled", "by_halves", "counted", "by_words", "TELLERS", "is_way", "check_way", "shown", "shown_span", "word_at", "is_figures", "unsigned", "from_parts", "share_of", "from_inches", "from_halves", "shares_from", "inches_from", "from_words", "READERS", "read_from", "check_allowance", "Span", "check_span", "LETTERS", "MOST_LETTERS", "is_name", "Drawing"]
def nm2 : List Str := ["lines_of", "check_drawing", "tell_span", "behind_plus", "above_from", "below_from", "named_from", "parts_from", "read_span", "is_want", "check_wants", "held", "judged", "show_drawing", "zero_of", "span_behind", "is_mark_line", "is_want_line", "add_mark", "want_of", "read_drawing", "hung_on", "hung", "zeros_of", "last_zero", "straight_from", "wider_between", "straight", "unsure", "_law_cell"]
def nm3 : List Str := ["_law_purse", "_law_take", "_law_word", "_law_measure", "_law_allowed", "_law_parts", "_law_ends", "_law_tell", "_law_doubles", "_law_counted", "_law_tell_parts", "_law_sketch", "_law_way_up", "_law_road", "_law_apart", "_law_made", "_law_plain_sketch", "_law_some_sketch", "_law_named", "_law_turned", "_law_hung", "_law_down", "_law_straight", "_law_zeros", "_law_is_drawing", "_law_wants", "_law_wants_made", "_law_lines", "_law_near_sketch", "_law_there_and_back"]
def nm4 : List Str := ["_law_right"]
def nms : List Str := nm0 ++ nm1 ++ nm2 ++ nm3 ++ nm4
/-! more facts: nested tables, tables of defs, isinstance of own instances -/
def pairB (K : PySem.W.Frag) (u : Value) (p : Str × Str) : Bool := match u with
  | .ref a => (match K.lookup a with
    | some ⟨.type c, _, .seq its _, _⟩ => decide (c = "tuple") && (decide (its.size ≤ sizeLine) && He.relAll [.str p.1, .str p.2] its.toList)
    | _ => false)
  | _ => false
def allPairB (K : PySem.W.Frag) : List Value → List (Str × Str) → Bool
  | [], [] => true
  | u :: us, p :: ps => pairB K u p && allPairB K us ps
  | _, _ => false
def shares : List (Str × Str) := [("a", "half"), ("a", "quarter"), ("an", "eighth"), ("a", "sixteenth"), ("a", "thirtysecond"), ("a", "sixtyfourth")]
def sharesB (K : PySem.W.Frag) : Bool := match K.lookup (He.ga K "SHARES") with
  | some ⟨.type c, _, .seq its _, _⟩ => decide (c = "tuple") && (decide (its.size ≤ sizeLine) && allPairB K its.toList shares)
  | _ => false
def counts : List Str := ["nothing", "one", "two", "three", "four", "five", "six", "seven", "eight", "nine", "ten", "eleven", "twelve", "thirteen", "fourteen", "fifteen", "sixteen", "seventeen", "eighteen", "nineteen"]
def tens : List Str := ["twenty", "thirty", "forty", "fifty", "sixty", "seventy", "eighty", "ninety"]
def insB (K : PySem.W.Frag) (C : Addr) : Bool :=
  He.eqO (PySem.W.findIn K (.ref C) "__class__") (some (some (.builtin "object.__class__"))) && (He.eqO (PySem.W.specialIn K (.builtin "object.__class__") "__get__") (some (some (.builtin "getset_descriptor.__get__"))) &&
    (decide (PySem.W.takesIn K (.builtin "object.__class__") = some true) && (decide (PySem.W.mroIn K C (.type "object") = some true) && (decide (PySem.W.kitOne K (.ref C) (.ref C) = some true) && He.eqO (PySem.W.findIn K (.ref C) "__ne__") (some (some (.builtin "object.__ne__")))))))
def tellers : List (Str × He.Dv) := [("parts", .glo "by_parts"), ("inches", .glo "by_inches"), ("halves", .glo "by_halves"), ("words", .glo "by_words")]
def readers : List (Str × He.Dv) := [("parts", .glo "from_parts"), ("inches", .glo "from_inches"), ("halves", .glo "from_halves"), ("words", .glo "from_words")]
def bareB (K : PySem.W.Frag) (a : Addr) : Bool := match K.lookup a with
  | some ⟨.type c, none, .seq _ _, _⟩ => decide (c = "tuple")
  | _ => false
def exB (K : PySem.W.Frag) : Bool := He.tupB K "COUNTS" (counts.map He.Dv.str) && (He.tupB K "TENS" (tens.map He.Dv.str) && (sharesB K && (insB K (He.ga K "Span") && (insB K (He.ga K "Drawing") && (He.valsB K (He.ga K "TELLERS") tellers && (He.valsB K (He.ga K "READERS") readers && (bareB K (He.ga K "COUNTS") && bareB K (He.ga K "TENS"))))))))
def ways : List Str := ["parts", "inches", "halves", "words"]
def ts : List He.Tab := [(fun K => He.ga K "TELLERS", ways), (fun K => He.ga K "READERS", ways)]
/-! the Hook -/
def ad0 : List Addr := [3, 537, 536, 654, 653, 275, 276, 285, 277, 278, 279, 281, 282, 283, 349, 442, 292, 291, 299, 298, 306, 305, 313, 312, 320, 319, 327, 326, 334, 333, 341, 340, 348, 347, 356, 355, 363, 362, 370, 369]
def ad1 : List Addr := [377, 376, 384, 383, 389, 388, 396, 395, 403, 402, 410, 409, 417, 416, 422, 421, 427, 426, 434, 433, 441, 440, 449, 448, 456, 455, 471, 470, 464, 478, 477, 485, 484, 506, 505, 513, 512, 520, 519, 527]
def ad2 : List Addr := [526, 548, 547, 553, 552, 568, 567, 561, 575, 574, 582, 581, 597, 596, 590, 604, 603, 611, 610, 618, 617, 625, 624, 630, 629, 637, 636, 644, 643, 651, 650, 665, 664, 672, 671, 680, 679, 673, 687, 686]
def ad3 : List Addr := [694, 693, 701, 700, 708, 707, 715, 714, 723, 722, 716, 728, 727, 735, 734, 742, 741, 747, 746, 755, 754, 748, 762, 761, 769, 768, 776, 775, 783, 782, 790, 789, 797, 796, 805, 804, 798, 812, 811, 819]
def ad4 : List Addr := [818, 826, 825, 833, 832, 840, 839, 847, 846, 855, 854, 848, 861, 860, 856, 868, 867, 875, 874, 882, 881, 887, 886, 894, 893, 901, 900, 908, 907, 915, 914, 922, 921, 929, 928, 936, 935, 943, 942, 948]
def ad5 : List Addr := [947, 953, 952, 958, 957, 963, 962, 970, 969, 975, 974, 982, 981, 987, 986, 994, 993, 999, 998, 1004, 1003, 1009, 1008, 1016, 1015, 1023, 1022, 1030, 1029, 1035, 1034, 1042, 1041, 1047, 1046, 1054, 1053, 1059, 1058, 1064]
def ad6 : List Addr := [1063]
/-- where the things stand that are looked at -/
def addrs : List Addr := ad0 ++ ad1 ++ ad2 ++ ad3 ++ ad4 ++ ad5 ++ ad6
abbrev AlY : Type := He.AlT × Bool
def obsYG (g : Addr → Option Obj) : AlY := (He.obsT fa fn ts (He.frG g addrs), exB (He.frG g addrs))
structure Says (w : World) (K : PySem.W.Frag) : Prop where
  t : He.SaysT fa fn ts w K
  ex : exB K = true
def hk : PySem.W.Hook where
  α := AlY
  obs := fun s => obsYG s.heap.get?
  val := fun w => (He.valT fn ts w, true)
  says := fun w h => ∃ K : PySem.W.Frag, K.In h ∧ Says w K
  of := fun _ _ e => ⟨_, He.frG_in, ⟨congrArg (fun z : AlY => z.1) e, congrArg (fun z : AlY => z.2) e⟩⟩
  keeps := fun _ _ _ ⟨K, hK, c⟩ k => ⟨K, PySem.W.Frag.In.keeps hK k, c⟩
def ob (s : PySem.W.SharedT) : AlY := obsYG (HandSHeadRun.getT s)
theorem ob_eq (s : PySem.W.SharedT) : ob s = hk.obs s.abs := by
  have e : HandSHeadRun.getT s = s.abs.heap.get? := funext (HandSHeadRun.getT_eq s)
  show obsYG (HandSHeadRun.getT s) = obsYG s.abs.heap.get?
  rw [e]
abbrev R : PySem.W.OpenRow := PySem.W.OpenLaw.row PySem.Challenge.rw_fitwords_k56_whole_one_road_of_a_drawing
end Fw
set_option maxRecDepth 100000
set_option maxHeartbeats 0
set_option Elab.async false
namespace Fw
open PySem PySem.Spec PyProof.Rows L2 PySem.W PySem.Calls
section
open HandSHeadRun
theorem run_fA (w : World) : ∀ os : OsState, (endF (stepQ (denQ tabQ) R.prog (w.withFollow "special-get-raises" false)) 20000 R.prog (w.withFollow "special-get-raises" false) os).map (fun s => (looksF R.prog (boot_heap (w.withFollow "special-get-raises" false).params) s.abs, seenQ (PySem.W.view R.prog [130]) nms (importedModules R.prog.main.body) (fun s => xlAt (PySem.W.view R.prog [130]) [] s && recOk R.toRowW.records s) s.abs)) = some (true, openGood (PySem.W.view R.prog [130]) nms) := by
  intro os
  kernel_rfl
theorem run_fB (w : World) : ∀ os : OsState, (endF (stepQ (denQ tabQ) R.prog (w.withFollow "special-get-raises" false)) 20000 R.prog (w.withFollow "special-get-raises" false) os).map (fun s => ob s) = some (hk.val (w.withFollow "special-get-raises" false)) := by
  intro os
  kernel_rfl
theorem run_tA (w : World) : ∀ os : OsState, (endF (stepQ (denQ tabQ) R.prog (w.withFollow "special-get-raises" true)) 20000 R.prog (w.withFollow "special-get-raises" true) os).map (fun s => (looksF R.prog (boot_heap (w.withFollow "special-get-raises" true).params) s.abs, seenQ (PySem.W.view R.prog [130]) nms (importedModules R.prog.main.body) (fun s => xlAt (PySem.W.view R.prog [130]) [] s && recOk R.toRowW.records s) s.abs)) = some (true, openGood (PySem.W.view R.prog [130]) nms) := by
  intro os
  kernel_rfl
theorem run_tB (w : World) : ∀ os : OsState, (endF (stepQ (denQ tabQ) R.prog (w.withFollow "special-get-raises" true)) 20000 R.prog (w.withFollow "special-get-raises" true) os).map (fun s => ob s) = some (hk.val (w.withFollow "special-get-raises" true)) := by
  intro os
  kernel_rfl
theorem opt_three {α β γ δ : Type} {x : Option α} {f : α → β} {g : α → γ} {h : α → δ} {a : β} {b : γ} {c : δ} (e1 : x.map (fun s => (f s, g s)) = some (a, b)) (e2 : x.map (fun s => h s) = some c) : x.map (fun s => (f s, g s, h s)) = some (a, b, c) := by
  cases x with
  | none => cases e1
  | some v =>
    injection e1 with e1
    injection e1 with e3 e4
    injection e2 with e2
    have e2 : h v = c := e2
    show some (f v, g v, h v) = _
    rw [e3, e4, e2]
theorem run (w : World) : HandSHeadRun.RunEq R (PySem.W.view R.prog [130]) hk ob 20000 nms w :=
  PySem.W.byRow2 "special-get-raises" (P := fun w => HandSHeadRun.RunEq R (PySem.W.view R.prog [130]) hk ob 20000 nms w) (fun w os => opt_three (run_fA w os) (run_fB w os)) (fun w os => opt_three (run_tA w os) (run_tB w os)) w
end
end Fw
set_option maxRecDepth 100000
set_option maxHeartbeats 0
set_option Elab.async false
namespace Fw
open PySem PySem.W PySem.Calls PyProof.Rows
theorem top_bare : R.prog.bare := ⟨rfl, rfl, rfl, rfl, rfl, by decide +kernel⟩
end Fw
set_option Elab.async false
set_option linter.all false
set_option maxRecDepth 100000
set_option maxHeartbeats 4000000
namespace Fw
open PySem PySem.Spec PyProof.Rows L2
open C8 (Cal CalAt Met Mak pe_c pe_mk pe_mt pe_mt0 pe_gc InsC call_isC)
/-! the facts in short -/
structure Txt (w : World) (K : PySem.W.Frag) (mg : Str → Option Value) : Prop where
  ex : ∃ h : Heap, K.In h ∧ h.Ns mainGlobals mg
  says : Says w K
section
variable {P : Program} {w : World} {K : PySem.W.Frag} {mg : Str → Option Value} {base : Heap}
theorem Txt.g (T : Txt w K mg) (i : Nat) {x : Str} (h : fa[i]? = some (.glo x) := by rfl) : mg x = some (.ref (He.ga K x)) := by
  obtain ⟨hp, X, G⟩ := T.ex
  exact He.glo_ok X G (T.says.t.d.fact i h)
theorem Txt.f (T : Txt w K mg) (i : Nat) {x : Str} (h : fa[i]? = some (.free x) := by rfl) : mg x = none := by
  obtain ⟨hp, X, G⟩ := T.ex
  exact He.free_ok X G (T.says.t.d.fact i h)
theorem Txt.int (T : Txt w K mg) (i : Nat) {x : Str} {n : Int} (h : fa[i]? = some (.int x n) := by rfl) : ∃ u, mg x = some u ∧ RelV (.int n) u := by
  obtain ⟨hp, X, G⟩ := T.ex
  obtain ⟨t, e⟩ := He.int_ok X G (T.says.t.d.fact i h)
  exact ⟨_, e, t, rfl⟩
theorem Txt.str (T : Txt w K mg) (i : Nat) {x z : Str} (h : fa[i]? = some (.str x z) := by rfl) : ∃ u, mg x = some u ∧ RelV (.str z) u := by
  obtain ⟨hp, X, G⟩ := T.ex
  obtain ⟨t, e⟩ := He.str_ok X G (T.says.t.d.fact i h)
  exact ⟨_, e, t, rfl⟩
theorem Txt.gr (T : Txt w K mg) (i : Nat) {x : Str} (h : fa[i]? = some (.glo x) := by rfl) : ∃ u, mg x = some u ∧ RelV (.ref (He.ga K x)) u := ⟨_, T.g i h, rfl⟩
theorem Txt.cl (T : Txt w K mg) (i : Nat) {x : Str} (h : fa[i]? = some (.cls x) := by rfl) : Cls K (He.ga K x) := He.cls_ok (T.says.t.d.fact i h)
theorem Txt.mkr (T : Txt w K mg) (i : Nat) {x : Str} (h : fa[i]? = some (.mkr x) := by rfl) : Mk K (He.ga K x) (He.ma K (He.ga K x) "__init__") := He.mkr_ok (T.says.t.d.fact i h)
theorem Txt.na (T : Txt w K mg) (i : Nat) {x f : Str} (h : fa[i]? = some (.noat x f) := by rfl) : NoAttr K (He.ga K x) f := He.noat_ok (T.says.t.d.fact i h)
theorem Txt.me (T : Txt w K mg) (i : Nat) {x m : Str} (h : fa[i]? = some (.meth x m) := by rfl) : Meth K (He.ga K x) m (He.ma K (He.ga K x) m) := He.meth_ok (T.says.t.d.fact i h)
/-- the promise of a def by its body, no defaults -/
theorem Txt.cal (T : Txt w K mg) (i j : Nat) {x : Str} {d : He.DefD} {N ps : List Str} {k : Nat} {sp : Sp} (hd : fn[i]? = some d := by rfl) (hj : fa[j]? = some (.glo x) := by rfl) (hx : d.at_ = (x, none) := by rfl) (hn : d.dfl = [] := by rfl) (hk : d.kwd = [] := by rfl)
    (S : FnScope N ps d.scope) (hb : ∀ (kV doc pm : Value) (an : Option Addr) (cdv ct : Value) (us : List Value), us.length = ps.length → bindArgs (PySem.W.fnOf d.name d.qual d.params d.body d.scope .none kV doc pm an cdv ct) ⟨us, []⟩ = pure (ps.zip us))
    (len : ∀ vs H Q E, sp vs H Q E → vs.length = ps.length)
    (hbody : ∀ (cdv : Value) (A : Around) (outer : List Env) (s : Shared) (H : Hp) (vs : List V) (Q : VK) (E : XK), Room k (A.deeper (envOfC d.qual d.scope s.heap.objs.size (He.fAd K d.at_) cdv)) → sp vs H Q E →
      ∃ t, PSs (cxOf C8.CX0 P w K mg base N d.qual d.scope (He.fAd K d.at_) cdv A outer s H E).nox d.body t ∧ t { nx := fun _ H' => Q .non H', rt := Q } (start N vs) H) : Cal P w K mg base (k + 1) x sp [] := by
  obtain ⟨fd, F⟩ := T.says.t.d.def_ i hd
  have e1 : d.dvs K = [] := by unfold He.DefD.dvs; rw [hn]; rfl
  have e2 : d.kws K = [] := by unfold He.DefD.kws; rw [hk]; rfl
  rw [e1, e2] at F
  have G : FnOk P w K mg base C8.CX0 (k + 1) (He.fAd K d.at_) fd ps sp := F.ok S len fun cdv A outer s H vs Q E hr h => by
    obtain ⟨t, p, q⟩ := hbody cdv A outer s H vs Q E hr h
    exact ⟨t, p.nox, q⟩
  have ea : He.fAd K d.at_ = He.ga K x := by rw [hx]; rfl
  have kp := F.kp
  rw [ea] at G kp
  rw [ea] at F
  exact ⟨_, fd, ps, [], G, T.g j hj, kp, F.bindsN hb, .nil⟩
end
end Fw
set_option Elab.async false
set_option linter.all false
set_option maxRecDepth 100000
set_option maxHeartbeats 4000000
namespace Fw
open PySem PySem.Spec PyProof.Rows L2
open C8 (Cal CalAt Met Mak pe_c pe_mk pe_mt pe_mt0 pe_gc InsC call_isC)

section
variable {P : Program} {w : World} {K : PySem.W.Frag} {mg : Str → Option Value} {base : Heap}

/-! tools -/
/-! rules with the written part named -/
theorem ix_tupK {X : Cx} (h : X.K = K) : IxR X (rIxT K) := h ▸ ix_tup
theorem ix_listK {X : Cx} (h : X.K = K) : IxR X (rIxL K) := h ▸ ix_list
theorem op_in_seqK {X : Cx} (h : X.K = K) : OpR X (compareOp .In) (rIn K false) := h ▸ op_in_seq
theorem op_notIn_seqK {X : Cx} (h : X.K = K) : OpR X (compareOp .NotIn) (rIn K true) := h ▸ op_notIn_seq
theorem sl_tupAK {X : Cx} (h : X.K = K) : SlR X (rSlA K) := h ▸ sl_tupA
theorem sl_listK {X : Cx} (h : X.K = K) : SlR X (rSlL K) := h ▸ sl_list
theorem call_len_seqK {X : Cx} (h : X.K = K) : CallR X (.builtin "len") (fun xs H Q => ∃ p ys, xs = [.ref p] ∧ (SqL K H p ys ∨ SqT K H p ys) ∧ Q (.int ys.length) H) := h ▸ call_len_seq
theorem ip_fdiv {X : Cx} : PIp X .FloorDiv (rI CDiv fun i j => .int (i / j)) := iop_fdiv
theorem ip_addS {X : Cx} : PIp X .Add (fun x y H Q => ∃ i j, x = .str i ∧ y = .str j ∧ i.length + j.length ≤ sizeLine ∧ Q (.str (i ++ j)) H) := iop_add_str
/-- the minus ahead -/
def sgn (m : Int) : Str := if m < 0 then "-" else ""
def absI (m : Int) : Int := if m < 0 then -m else m
theorem absI_nn (m : Int) : 0 ≤ absI m := by unfold absI; split <;> omega
theorem absI_eq (m : Int) : absI m = (m.natAbs : Int) := by unfold absI; split <;> omega
theorem call_absI {X : Cx} : CallR X (.builtin "abs") (fun xs H Q => ∃ i, xs = [.int i] ∧ Q (.int (absI i)) H) := call_abs
/-- halving top and bottom -/
def redF : Nat → Int → Int → Int × Int
  | 0, t, b => (t, b)
  | n + 1, t, b => if t > 0 ∧ t % 2 = 0 then redF n (t / 2) (b / 2) else (t, b)
def spIsMeasure : Sp := fun vs H Q _ => ∃ m : Int, vs = [.int m] ∧ Q (.bl true) H
def spCheckMeasure : Sp := fun vs H Q _ => ∃ m : Int, vs = [.int m] ∧ Q .non H
def spMinus : Sp := fun vs H Q _ => ∃ m : Int, vs = [.int m] ∧ Q (.str (sgn m)) H
theorem bool_of_true {c : Prop} [Decidable c] {A B : Prop} (hc : c) (h : A) : if decide c = true then A else B := by rw [if_pos (decide_eq_true hc)]; exact h
theorem bool_of_false {c : Prop} [Decidable c] {A B : Prop} (hc : ¬ c) (h : B) : if decide c = true then A else B := by rw [if_neg (fun z => hc (of_decide_eq_true z))]; exact h
theorem s_is_measure : FnScope ["thing"] ["thing"] d_is_measure.scope := ⟨rfl, rfl, rfl, by decide +kernel, rfl, by decide +kernel, by decide +kernel⟩
theorem c_is_measure (T : Txt w K mg) : Cal P w K mg base 1 "is_measure" spIsMeasure [] := by
  refine T.cal 0 3 (d := d_is_measure) (S := s_is_measure) (hb := fun _ _ _ _ _ _ us hl => match us, hl with | [_], _ => rfl) (len := fun vs H Q E h => ?_) (hbody := fun cdv A outer s H vs Q E hr h => ?_)
  · obtain ⟨m, rfl, k⟩ := h
    rfl
  · obtain ⟨m, rfl, k⟩ := h
    refine ⟨_, (pss_one (ps_ret (pe_and (pe_callB (id := "isinstance") call_isi (by rfl) (T.f 103) (by decide +kernel) (pa_cons (pv 0) (pa_cons (pe_bltn (v := .ty "int") (by rfl) (T.f 102) (by decide +kernel) rfl) pa_nil))) (pe_one (pe_not (pe_callB (id := "isinstance") call_isi (by rfl) (T.f 103) (by decide +kernel) (pa_cons (pv 0) (pa_cons (pe_bltn (v := .ty "bool") (by rfl) (T.f 98) (by decide +kernel) rfl) pa_nil)))))))), ?_⟩
    refine ⟨_, rfl, .int m, .ty "int", .type "int", .type "int", true, rfl, .ty "int", .base (.int m), kit_ty (by decide +kernel), true, rfl, ?_⟩
    refine iteT ?_
    refine ⟨_, rfl, .int m, .ty "bool", .type "int", .type "bool", false, rfl, .ty "bool", .base (.int m), kit_ty (by decide +kernel), false, rfl, ?_⟩
    exact k
theorem s_check_measure : FnScope ["thing"] ["thing"] d_check_measure.scope := ⟨rfl, rfl, rfl, by decide +kernel, rfl, by decide +kernel, by decide +kernel⟩
theorem c_check_measure (T : Txt w K mg) : Cal P w K mg base 2 "check_measure" spCheckMeasure [] := by
  refine T.cal 1 4 (d := d_check_measure) (S := s_check_measure) (hb := fun _ _ _ _ _ _ us hl => match us, hl with | [_], _ => rfl) (len := fun vs H Q E h => ?_) (hbody := fun cdv A outer s H vs Q E hr h => ?_)
  · obtain ⟨m, rfl, k⟩ := h
    rfl
  · obtain ⟨m, rfl, k⟩ := h
    refine ⟨_, (pss_one (ps_if (pt_not (pt_val (pe_c (c_is_measure T) hr (by decide) rfl (pa_cons (pv 0) pa_nil)))) (pss_one ps_never) pss_nil)), ?_⟩
    refine ⟨_, rfl, m, rfl, true, rfl, ?_⟩
    exact k
theorem s_minus_of : FnScope ["measure"] ["measure"] d_minus_of.scope := ⟨rfl, rfl, rfl, by decide +kernel, rfl, by decide +kernel, by decide +kernel⟩
theorem c_minus_of (T : Txt w K mg) : Cal P w K mg base 1 "minus_of" spMinus [] := by
  refine T.cal 2 5 (d := d_minus_of) (S := s_minus_of) (hb := fun _ _ _ _ _ _ us hl => match us, hl with | [_], _ => rfl) (len := fun vs H Q E h => ?_) (hbody := fun cdv A outer s H vs Q E hr h => ?_)
  · obtain ⟨m, rfl, k⟩ := h
    rfl
  · obtain ⟨m, rfl, k⟩ := h
    refine ⟨_, (pss_one (ps_ret (pe_ifExp (pt_cmpR op_lt (pv 0) pe_int (nomark _)) pe_str pe_str))), ?_⟩
    refine ⟨_, rfl, _, _, rfl, rfl, _, rfl, ?_⟩
    unfold sgn at k
    refine ite2 (fun h => ?_) (fun h => ?_)
    · rw [if_pos (of_decide_eq_true h)] at k
      exact k
    · rw [if_neg (fun z => h (decide_eq_true z))] at k
      exact k
end
end Fw
set_option Elab.async false
set_option linter.all false
set_option maxRecDepth 100000
set_option maxHeartbeats 4000000
namespace Fw
open PySem PySem.Spec PyProof.Rows L2
open C8 (Cal CalAt Met Mak pe_c pe_mk pe_mt pe_mt0 pe_gc InsC call_isC)

section
variable {P : Program} {w : World} {K : PySem.W.Frag} {mg : Str → Option Value} {base : Heap}

/-! numbers as texts -/
abbrev numS (i : Int) : Str := Str.ofString (toString i)
abbrev Sm (m : Int) : Prop := -1000000 ≤ m ∧ m ≤ 1000000
theorem sm_log {m : Int} (h : Sm m) : m.natAbs.log2 < 1920 := by
  have h1 : m.natAbs ≤ 1000000 := by omega
  by_cases hz : m.natAbs = 0
  · rw [hz]; decide
  · have h2 : m.natAbs < 2 ^ 1920 := Nat.lt_of_le_of_lt h1 (by decide)
    exact (Nat.log2_lt hz).mpr h2
theorem len_num {i : Int} (h0 : 0 ≤ i) (h : i ≤ 1000000) : (numS i).length ≤ 7 := by
  obtain ⟨n, rfl⟩ := Int.eq_ofNat_of_zero_le h0
  rw [TL.len_tl, TL.tl_num]
  exact TL.numL_len (by decide) (by omega)
theorem len_app (x y : Str) : (x ++ y).length = x.length + y.length := by
  rw [TL.len_tl, TL.len_tl, TL.len_tl, TL.tl_append, List.length_append]
theorem len_sgn (m : Int) : (sgn m).length ≤ 1 := by unfold sgn; split <;> decide
/-- f"{t}/{b}" -/
def frS (t b : Int) : Str := ((Str.empty ++ numS t) ++ "/") ++ numS b
theorem len_frS {t b : Int} (h0 : 0 ≤ t) (h1 : t ≤ 1000000) (h2 : 0 ≤ b) (h3 : b ≤ 1000000) : (frS t b).length ≤ 15 := by
  unfold frS
  rw [len_app, len_app, len_app]
  have := len_num h0 h1
  have := len_num h2 h3
  have e1 : (Str.empty).length = 0 := rfl
  have e2 : ("/" : Str).length = 1 := rfl
  omega
theorem len_fr1 {t : Int} (h0 : 0 ≤ t) (h1 : t ≤ 1000000) : ((Str.empty ++ numS t) ++ "/").length ≤ 15 := by
  rw [len_app, len_app]
  have := len_num h0 h1
  have e1 : (Str.empty).length = 0 := rfl
  have e2 : ("/" : Str).length = 1 := rfl
  omega
def inchA (m : Int) : List Str := if absI m / 64 > 0 ∨ (redF 6 (absI m % 64) 64).1 = 0 then [numS (absI m / 64)] else []
def inchB (m : Int) : List Str := if (redF 6 (absI m % 64) 64).1 > 0 then [frS (redF 6 (absI m % 64) 64).1 (redF 6 (absI m % 64) 64).2] else []
def inchS (m : Int) : Str := sgn m ++ Txt.join " " (inchA m ++ inchB m)
theorem redF_bounds : ∀ (n : Nat) (t b : Int), 0 ≤ t → 0 ≤ b → b ≤ 64 → 0 ≤ (redF n t b).1 ∧ (redF n t b).1 ≤ t ∧ 0 ≤ (redF n t b).2 ∧ (redF n t b).2 ≤ 64
  | 0, t, b, h0, h1, h2 => ⟨h0, Int.le_refl _, h1, h2⟩
  | n + 1, t, b, h0, h1, h2 => by
    unfold redF
    split
    · have := redF_bounds n (t / 2) (b / 2) (by omega) (by omega) (by omega)
      omega
    · exact ⟨h0, Int.le_refl _, h1, h2⟩
theorem join_small {ys : List Str} (h : ys.length ≤ 4) (hl : ∀ y ∈ ys, y.length ≤ 1000) : (ys.map (·.length)).sum + ys.length * (" " : Str).length ≤ 16777216 := by
  have e : (" " : Str).length = 1 := rfl
  rw [e]
  match ys, h with
  | [], _ => decide
  | [a], _ => have := hl a (by simp); simp; omega
  | [a, b], _ => have := hl a (by simp); have := hl b (by simp); simp; omega
  | [a, b, c], _ => have := hl a (by simp); have := hl b (by simp); have := hl c (by simp); simp; omega
  | [a, b, c, d], _ => have := hl a (by simp); have := hl b (by simp); have := hl c (by simp); have := hl d (by simp); simp; omega
theorem inch_len {m : Int} (h : Sm m) : ∀ y ∈ inchA m ++ inchB m, y.length ≤ 1000 := by
  intro y hy
  have a0 := absI_nn m
  have a1 : absI m ≤ 1000000 := by unfold absI; split <;> omega
  obtain ⟨r0, r1, r2, r3⟩ := redF_bounds 6 (absI m % 64) 64 (by omega) (by omega) (by omega)
  rcases List.mem_append.mp hy with hy | hy
  · unfold inchA at hy
    split at hy
    · rw [List.mem_singleton.mp hy]
      have := len_num (i := absI m / 64) (by omega) (by omega)
      omega
    · cases hy
  · unfold inchB at hy
    split at hy
    · rw [List.mem_singleton.mp hy]
      have := len_frS r0 (by omega) r2 (by omega)
      omega
    · cases hy
theorem inch_ab (m : Int) : (inchA m ++ inchB m).length ≤ 4 := by
  unfold inchA inchB
  rw [List.length_append]
  split <;> split <;> simp
theorem join_len : ∀ {ys : List Str}, ys.length ≤ 4 → (∀ y ∈ ys, y.length ≤ 1000) → (Txt.join " " ys).length ≤ 5000 := by
  intro ys h hl
  rw [TL.join_eq, TL.len_tl, TL.tl_join]
  have hm : ∀ y ∈ ys, (TL.tl y).length ≤ 1000 := fun y hy => by rw [← TL.len_tl]; exact hl y hy
  have e : (TL.tl (" " : Str)).length = 1 := rfl
  match ys, h with
  | [], _ => show (TL.joinL _ []).length ≤ _; decide
  | [a], _ => have := hm a (by simp); show (TL.tl a).length ≤ 5000; omega
  | [a, b], _ => have := hm a (by simp); have := hm b (by simp); show (TL.tl a ++ (TL.tl (" " : Str) ++ TL.tl b)).length ≤ 5000; simp only [List.length_append]; omega
  | [a, b, c], _ => have := hm a (by simp); have := hm b (by simp); have := hm c (by simp); show (TL.tl a ++ (TL.tl (" " : Str) ++ (TL.tl b ++ (TL.tl (" " : Str) ++ TL.tl c)))).length ≤ 5000; simp only [List.length_append]; omega
  | [a, b, c, d], _ => have := hm a (by simp); have := hm b (by simp); have := hm c (by simp); have := hm d (by simp); show (TL.tl a ++ (TL.tl (" " : Str) ++ (TL.tl b ++ (TL.tl (" " : Str) ++ (TL.tl c ++ (TL.tl (" " : Str) ++ TL.tl d)))))).length ≤ 5000; simp only [List.length_append]; omega
/-- a pure def of one int that tells a text -/
def spTell (C : Int → Prop) (f : Int → Str) : Sp := fun vs H Q _ => ∃ m : Int, vs = [.int m] ∧ C m ∧ ∀ H', Same H H' → Q (.str (f m)) H'
theorem same_new {H : Hp} {p : Addr} {o : HO} (h : H p = none) : Same H (upd H p o) := Ext.upd h
theorem same_mut {H H' : Hp} {p : Addr} {o : HO} (e : Same H H') (h : H p = none) : Same H (upd H' p o) := Evl.Ex.mut e h
theorem s_by_parts : FnScope ["measure"] ["measure"] d_by_parts.scope := ⟨rfl, rfl, rfl, by decide +kernel, rfl, by decide +kernel, by decide +kernel⟩
theorem c_by_parts (T : Txt w K mg) : Cal P w K mg base 1 "by_parts" (spTell Sm numS) [] := by
  refine T.cal 3 6 (d := d_by_parts) (S := s_by_parts) (hb := fun _ _ _ _ _ _ us hl => match us, hl with | [_], _ => rfl) (len := fun vs H Q E h => ?_) (hbody := fun cdv A outer s H vs Q E hr h => ?_)
  · obtain ⟨m, rfl, hm, k⟩ := h
    rfl
  · obtain ⟨m, rfl, hm, k⟩ := h
    refine ⟨_, (pss_one (ps_ret (pe_callTy (T := "str") call_str_int (by rfl) (T.f 109) (by decide +kernel) (pa_cons (pv 0) pa_nil)))), ?_⟩
    exact ⟨_, rfl, _, rfl, sm_log hm, k H (Same.refl H)⟩
theorem s_by_inches : FnScope ["measure", "whole", "top", "bottom", "told"] ["measure"] d_by_inches.scope := ⟨rfl, rfl, rfl, by decide +kernel, rfl, by decide +kernel, by decide +kernel⟩
theorem c_by_inches (T : Txt w K mg) : Cal P w K mg base 2 "by_inches" (spTell Sm inchS) [] := by
  refine T.cal 4 7 (d := d_by_inches) (S := s_by_inches) (hb := fun _ _ _ _ _ _ us hl => match us, hl with | [_], _ => rfl) (len := fun vs H Q E h => ?_) (hbody := fun cdv A outer s H vs Q E hr h => ?_)
  · obtain ⟨m, rfl, hm, k⟩ := h
    rfl
  · obtain ⟨m, rfl, hm, k⟩ := h
    refine ⟨_, (pss_cons (ps_asg (pe_callB (id := "divmod") call_divmod (by rfl) (T.f 100) (by decide +kernel) (pa_cons (pe_callB (id := "abs") call_absI (by rfl) (T.f 96) (by decide +kernel) (pa_cons (pv 0) pa_nil)) (pa_cons (pe_gc rfl (T.int 112)) pa_nil))) (pg_tup rfl (pgs_cons (pg_name (i := 1) s_by_inches.nd rfl (Or.inl rfl)) (pgs_cons (pg_name (i := 2) s_by_inches.nd rfl (Or.inl rfl)) pgs_nil))))
      (pss_cons (ps_set (i := 3) s_by_inches.nd rfl (Or.inl rfl) (pe_gc rfl (T.int 112)))
      (C8.pss_cut (ps_while PassesOwn.never (PW.pt (pw_and (pt_cmpR op_gt (pv 2) pe_int (nomark _)) (pw_and1 (pt_cmpR op_eq (pe_op op_mod (pv 2) pe_int) pe_int (nomark _)))))
      (pss_cons (ps_aug (i := 2) s_by_inches.nd rfl (Or.inl rfl) pe_int ip_fdiv)
        (pss_one (ps_aug (i := 3) s_by_inches.nd rfl (Or.inl rfl) pe_int ip_fdiv))))
      (pss_cons (ps_set (i := 4) s_by_inches.nd rfl (Or.inl rfl) (pe_lst pa_nil))
      (C8.pss_cut (ps_if (PW.pt (pw_or (pt_cmpR op_gt (pv 1) pe_int (nomark _)) (pw_or1 (pt_cmpR op_eq (pv 2) pe_int (nomark _))))) (pss_one (ps_expr (pe_bm PySem.F.plainAttrs_list PySem.F.slot_list_append PySem.F.type_list_append mt_append (pv 4) (pa_cons (pe_callTy (T := "str") call_str_int (by rfl) (T.f 109) (by decide +kernel) (pa_cons (pv 1) pa_nil)) pa_nil)))) pss_nil)
      (C8.pss_cut (ps_if (pt_cmpR op_gt (pv 2) pe_int (nomark _)) (pss_one (ps_expr (pe_bm PySem.F.plainAttrs_list PySem.F.slot_list_append PySem.F.type_list_append mt_append (pv 4) (pa_cons (pe_joined (.cons (pe_fmt (pv 2)) (.cons pe_str (.cons (pe_fmt (pv 3)) .nil)))) pa_nil)))) pss_nil)
      (pss_one (ps_ret (pe_op op_add_str (pe_c (c_minus_of T) hr (by decide) rfl (pa_cons (pv 0) pa_nil)) (pe_join pe_str (pv 4))))))))))), ?_⟩
    refine ⟨_, rfl, m, rfl, _, _, rfl, ⟨by decide, by decide⟩, fun p hp => ?_⟩
    refine ⟨p, _, rfl, SqT.of upd_same, rfl, _, _, rfl, _, _, rfl, rfl, ?_⟩
    have a0 := absI_nn m
    have a1 : absI m ≤ 1000000 := by unfold absI; split <;> omega
    refine ⟨fun σ' H' => ∃ t b : Int, (t, b) = redF 6 (absI m % 64) 64 ∧ σ' = [some (.int m), some (.int (absI m / 64)), some (.int t), some (.int b), none] ∧ H' = upd H p (.tup [.int (absI m / 64), .int (absI m % 64)]), ⟨fun n σ H' => ∃ t b : Int, σ = [some (.int m), some (.int (absI m / 64)), some (.int t), some (.int b), none] ∧ H' = upd H p (.tup [.int (absI m / 64), .int (absI m % 64)]) ∧ redF n t b = redF 6 (absI m % 64) 64 ∧ 0 ≤ t ∧ t < 2 ^ n ∧ 0 ≤ b, ⟨6, _, _, rfl, rfl, rfl, by omega, by omega, by decide⟩, ?_⟩, ?_⟩
    · rintro n σ H' ⟨t, b, rfl, rfl, he, h0, h1, hb⟩
      refine ⟨_, rfl, _, _, rfl, rfl, _, rfl, ?_⟩
      have fin : ¬ (t > 0 ∧ t % 2 = 0) → redF n t b = (t, b) := fun hn => by
        cases n with
        | zero => rfl
        | succ n => unfold redF; rw [if_neg hn]
      refine ite2 (fun h => ?_) (fun h => ?_)
      · have ht := of_decide_eq_true h
        refine ⟨_, rfl, _, _, rfl, rfl, (by decide : (0 : Int) < 2), rfl, _, rfl, ?_⟩
        refine ite2 (fun h2 => ?_) (fun h2 => ?_)
        · have h2 := of_decide_eq_true h2
          have h2 : t % 2 = 0 := by injection h2
          cases n with
          | zero => omega
          | succ n =>
            refine ⟨_, fun σ' H' h' => ⟨n, Nat.lt_succ_self n, h'⟩, ?_⟩
            refine ⟨_, rfl, _, _, rfl, rfl, ⟨by decide, by decide⟩, _, rfl, _, _, rfl, rfl, ⟨by decide, by decide⟩, ?_⟩
            refine ⟨t / 2, b / 2, rfl, rfl, ?_, by omega, ?_, by omega⟩
            · rw [← he]
              conv => rhs; unfold redF
              rw [if_pos ⟨ht, h2⟩]
            · rw [Int.pow_succ] at h1
              omega
        · refine ⟨t, b, ?_, rfl, rfl⟩
          rw [← fin (fun z => h2 (decide_eq_true (congrArg V.int z.2))), he]
      · refine iteF ?_
        refine ⟨t, b, ?_, rfl, rfl⟩
        rw [← fin (fun z => h (decide_eq_true z.1)), he]
    · rintro _ _ ⟨t, b, he, rfl, rfl⟩
      refine ⟨by decide, fun l hl => ?_⟩
      have e1 : (redF 6 (absI m % 64) 64).1 = t := by rw [← he]
      have e2 : (redF 6 (absI m % 64) 64).2 = b := by rw [← he]
      obtain ⟨r0, r1, r2, r3⟩ := redF_bounds 6 (absI m % 64) 64 (by omega) (by omega) (by omega)
      rw [e1] at r0 r1
      rw [e2] at r2 r3
      refine ⟨fun σ' H' => σ' = [some (.int m), some (.int (absI m / 64)), some (.int t), some (.int b), some (.ref l)] ∧ H' = upd (upd H p (.tup [.int (absI m / 64), .int (absI m % 64)])) l (.lst ((inchA m).map V.str)), ?_, ?_⟩
      · refine ⟨_, rfl, _, _, rfl, rfl, _, rfl, ?_⟩
        refine ite2 (fun h => ?_) (fun h => ?_)
        · refine ⟨_, rfl, Or.inl ⟨rfl, _, SqL.of upd_same⟩, _, rfl, _, rfl, sm_log ⟨by omega, by omega⟩, l, _, _, rfl, rfl, upd_same, by decide, rfl, ?_⟩
          have := of_decide_eq_true h
          unfold inchA
          rw [if_pos (Or.inl this), upd_upd]
          rfl
        · refine ⟨_, rfl, rfl, _, rfl, ?_⟩
          refine ite2 (fun h2 => ?_) (fun h2 => ?_)
          · refine ⟨_, rfl, Or.inl ⟨rfl, _, SqL.of upd_same⟩, _, rfl, _, rfl, sm_log ⟨by omega, by omega⟩, l, _, _, rfl, rfl, upd_same, by decide, rfl, ?_⟩
            have := of_decide_eq_true h2
            unfold inchA
            rw [if_pos (Or.inr (by rw [e1]; injection this)), upd_upd]
            rfl
          · refine ⟨rfl, ?_⟩
            unfold inchA
            rw [if_neg ?_]
            · rfl
            · rintro (h' | h')
              · exact h (decide_eq_true h')
              · exact h2 (decide_eq_true (by rw [← e1, h']))
      · rintro _ _ ⟨rfl, rfl⟩
        refine ⟨fun σ' H' => σ' = [some (.int m), some (.int (absI m / 64)), some (.int t), some (.int b), some (.ref l)] ∧ H' = upd (upd H p (.tup [.int (absI m / 64), .int (absI m % 64)])) l (.lst ((inchA m ++ inchB m).map V.str)), ?_, ?_⟩
        · refine ⟨_, rfl, _, _, rfl, rfl, _, rfl, ?_⟩
          refine ite2 (fun h => ?_) (fun h => ?_)
          · have ht := of_decide_eq_true h
            have l1 := len_num (i := t) (by omega) (by omega)
            have l2 := len_fr1 (t := t) (by omega) (by omega)
            have l3 := len_frS (t := t) (b := b) (by omega) (by omega) (by omega) (by omega)
            have e0 : (Str.empty ++ numS t).length = (numS t).length := by rw [len_app]; exact Nat.zero_add _
            refine ⟨_, rfl, Or.inl ⟨rfl, _, SqL.of upd_same⟩, _, rfl, Or.inr ⟨t, rfl, sm_log ⟨by omega, by omega⟩, _, rfl, by rw [e0]; exact Nat.le_trans l1 (by decide), _, rfl, Nat.le_trans l2 (by decide), _, rfl, Or.inr ⟨b, rfl, sm_log ⟨by omega, by omega⟩, _, rfl, Nat.le_trans l3 (by decide), l, _, _, rfl, rfl, upd_same, ?_, rfl, ?_⟩⟩⟩
            · rw [List.length_map]
              exact Nat.lt_of_le_of_lt (Nat.le_trans (by rw [List.length_append]; exact Nat.le_add_right _ _) (inch_ab m)) (by decide)
            · rw [upd_upd]
              unfold inchB
              rw [e1, e2, if_pos ht, List.map_append]
              rfl
          · refine ⟨rfl, ?_⟩
            unfold inchB
            rw [e1, if_neg (fun z => h (decide_eq_true z)), List.append_nil]
        · rintro _ _ ⟨rfl, rfl⟩
          refine ⟨_, rfl, m, rfl, ⟨_, rfl⟩, _, rfl, _, l, inchA m ++ inchB m, rfl, rfl, Or.inl (SqL.of upd_same), join_small (inch_ab m) (inch_len hm), _, _, rfl, rfl, ?_, ?_⟩
          · have := join_len (inch_ab m) (inch_len hm)
            have := len_sgn m
            exact Nat.le_trans (by omega : _ ≤ 6000) (by decide)
          · exact k _ (same_mut (same_new hp) ((same_new hp).free hl))
end
end Fw
set_option Elab.async false
set_option linter.all false
set_option maxRecDepth 100000
set_option maxHeartbeats 4000000
namespace Fw
open PySem PySem.Spec PyProof.Rows L2
open C8 (Cal CalAt Met Mak pe_c pe_mk pe_mt pe_mt0 pe_gc InsC call_isC)

section
variable {P : Program} {w : World} {K : PySem.W.Frag} {mg : Str → Option Value} {base : Heap}

/-! more of texts -/
theorem join_ok {a : Str} {ys : List Str} (h : ys.length ≤ 100) (hl : ∀ y ∈ ys, y.length ≤ 1000) (ha : a.length ≤ 10) :
    (ys.map (·.length)).sum + ys.length * a.length ≤ 16777216 ∧ (Txt.join a ys).length ≤ 101000 := by
  have q1 : ∀ zs : List Str, (∀ y ∈ zs, y.length ≤ 1000) → (zs.map (·.length)).sum ≤ 1000 * zs.length := by
    intro zs
    induction zs with
    | nil => intro _; exact Nat.le_refl 0
    | cons z zs ih =>
      intro hz
      have h1 := ih fun y hy => hz y (List.mem_cons_of_mem _ hy)
      have h2 := hz z (List.mem_cons_self ..)
      rw [List.map_cons, List.sum_cons, List.length_cons]
      omega
  have q2 : ∀ zs : List (List Nat), (∀ y ∈ zs, y.length ≤ 1000) → (TL.joinL (TL.tl a) zs).length ≤ 1010 * zs.length := by
    intro zs
    induction zs with
    | nil => intro _; exact Nat.le_refl 0
    | cons z zs ih =>
      intro hz
      have h1 := ih fun y hy => hz y (List.mem_cons_of_mem _ hy)
      have h2 := hz z (List.mem_cons_self ..)
      cases zs with
      | nil => show z.length ≤ _; rw [List.length_cons, List.length_nil]; omega
      | cons y ys =>
        show (z ++ (TL.tl a ++ TL.joinL (TL.tl a) (y :: ys))).length ≤ _
        rw [List.length_append, List.length_append, ← TL.len_tl, List.length_cons (a := z)]
        omega
  have h1 := q1 ys hl
  have h3 : ys.length * a.length ≤ 100 * 10 := Nat.mul_le_mul h ha
  refine ⟨by omega, ?_⟩
  rw [TL.join_eq, TL.len_tl, TL.tl_join]
  have h2 := q2 (ys.map TL.tl) fun y hy => by
    obtain ⟨z, hz, rfl⟩ := List.mem_map.mp hy
    rw [← TL.len_tl]
    exact hl z hz
  rw [List.length_map] at h2
  omega
/-- figures 0 and 1 by halving -/
def dblF : Nat → Int → Str → Str
  | 0, _, t => t
  | n + 1, x, t => if x > 1 then dblF n (x / 2) (numS (x / 2 % 2) ++ t) else t
def dblS (x : Int) : Str := dblF 20 x (numS (x % 2))
theorem dblF_len : ∀ (n : Nat) (x : Int) (t : Str), (dblF n x t).length ≤ t.length + 7 * n
  | 0, _, t => Nat.le_add_right _ _
  | n + 1, x, t => by
    unfold dblF
    split
    · have h := dblF_len n (x / 2) (numS (x / 2 % 2) ++ t)
      rw [len_app] at h
      have := len_num (i := x / 2 % 2) (by omega) (by omega)
      omega
    · omega
theorem dblS_len (x : Int) : (dblS x).length ≤ 150 := by
  have := dblF_len 20 x (numS (x % 2))
  have := len_num (i := x % 2) (by omega) (by omega)
  unfold dblS
  omega
def halvS (m : Int) : Str := ((sgn m ++ dblS (absI m / 64)) ++ ".") ++ Txt.zfill (dblS (absI m % 64)) 6
theorem zf_len : ∀ n : Nat, n < 64 → (Txt.zfill (dblS (n : Int)) 6).length = 6 := by decide +kernel
theorem zf_len' {i : Int} (h0 : 0 ≤ i) (h : i < 64) : (Txt.zfill (dblS i) 6).length = 6 := by
  obtain ⟨n, rfl⟩ := Int.eq_ofNat_of_zero_le h0
  exact zf_len n (by omega)
/-! the tables -/
theorem Txt.ex_ (T : Txt w K mg) : exB K = true := T.says.ex
theorem Txt.counts (T : Txt w K mg) (H : Hp) : SqT K H (He.ga K "COUNTS") (counts.map V.str) := He.tupB_ok (He.ba T.ex_).1 H
theorem Txt.tens (T : Txt w K mg) (H : Hp) : SqT K H (He.ga K "TENS") (tens.map V.str) := He.tupB_ok (He.ba (He.ba T.ex_).2).1 H
theorem pairB_ok {u : Value} {p : Str × Str} (h : pairB K u p = true) (H : Hp) : ∃ a, u = .ref a ∧ SqT K H a [.str p.1, .str p.2] := by
  cases u with
  | ref a =>
    refine ⟨a, rfl, ?_⟩
    have h1 : (match K.lookup a with
      | some ⟨.type c, _, .seq its _, _⟩ => decide (c = "tuple") && (decide (its.size ≤ sizeLine) && He.relAll [.str p.1, .str p.2] its.toList)
      | _ => false) = true := h
    split at h1
    · rename_i c d its n sl e
      obtain ⟨h2, h3⟩ := He.ba h1
      obtain ⟨h3, h4⟩ := He.ba h3
      have hc := of_decide_eq_true h2
      subst hc
      exact Or.inr ⟨_, its, n, e, rfl, rfl, of_decide_eq_true h3, He.relAll_ok h4⟩
    · cases h1
  | _ => cases h
theorem allPairB_ok : ∀ {us : List Value} {ps : List (Str × Str)}, allPairB K us ps = true → ∃ as : List Addr, us = as.map Value.ref ∧ ∀ H, Paired (fun a (p : Str × Str) => SqT K H a [.str p.1, .str p.2]) as ps
  | [], [], _ => ⟨[], rfl, fun _ => .nil⟩
  | [], _ :: _, h => by cases h
  | _ :: _, [], h => by cases h
  | u :: us, p :: ps, h => by
    obtain ⟨h1, h2⟩ := He.ba (show (pairB K u p && allPairB K us ps) = true from h)
    obtain ⟨as, rfl, q⟩ := allPairB_ok h2
    obtain ⟨a, rfl, _⟩ := pairB_ok h1 (fun _ => none)
    refine ⟨a :: as, rfl, fun H => .cons ?_ (q H)⟩
    obtain ⟨b, e, s⟩ := pairB_ok h1 H
    cases e
    exact s
theorem refs_vals : ∀ as : List Addr, Vals (as.map V.ref) (as.map Value.ref)
  | [] => .nil
  | _ :: r => .cons rfl (refs_vals r)
theorem Txt.shares (T : Txt w K mg) : ∃ as : List Addr, (∀ H, SqT K H (He.ga K "SHARES") (as.map V.ref)) ∧ ∀ H, Paired (fun a (p : Str × Str) => SqT K H a [.str p.1, .str p.2]) as Fw.shares := by
  have h := (He.ba (He.ba (He.ba T.ex_).2).2).1
  have h1 : (match K.lookup (He.ga K "SHARES") with
    | some ⟨.type c, _, .seq its _, _⟩ => decide (c = "tuple") && (decide (its.size ≤ sizeLine) && allPairB K its.toList Fw.shares)
    | _ => false) = true := h
  split at h1
  · rename_i c d its n sl e
    obtain ⟨h2, h3⟩ := He.ba h1
    obtain ⟨h3, h4⟩ := He.ba h3
    obtain ⟨as, e2, q⟩ := allPairB_ok h4
    have hc := of_decide_eq_true h2
    subst hc
    refine ⟨as, fun H => Or.inr ⟨_, its, n, e, rfl, rfl, of_decide_eq_true h3, ?_⟩, q⟩
    rw [e2]
    exact refs_vals as
  · cases h1
theorem Txt.insS (T : Txt w K mg) : insB K (He.ga K "Span") = true := (He.ba (He.ba (He.ba (He.ba T.ex_).2).2).2).1
theorem Txt.insD (T : Txt w K mg) : insB K (He.ga K "Drawing") = true := (He.ba (He.ba (He.ba (He.ba (He.ba T.ex_).2).2).2).2).1
theorem Txt.tel (T : Txt w K mg) : He.valsB K (He.ga K "TELLERS") tellers = true := (He.ba (He.ba (He.ba (He.ba (He.ba (He.ba T.ex_).2).2).2).2).2).1
theorem Txt.rea (T : Txt w K mg) : He.valsB K (He.ga K "READERS") readers = true := (He.ba (He.ba (He.ba (He.ba (He.ba (He.ba (He.ba T.ex_).2).2).2).2).2).2).1
theorem bareB_ok {x : Str} (h : bareB K (He.ga K x) = true) : ∃ o, K.lookup (He.ga K x) = some o ∧ o.cls = .type "tuple" ∧ o.dict = none := by
  unfold bareB at h
  split at h
  · rename_i c x1 x2 x3 e
    have hc := of_decide_eq_true h
    subst hc
    exact ⟨_, e, rfl, rfl⟩
  · cases h
theorem Txt.bare2 (T : Txt w K mg) : (bareB K (He.ga K "COUNTS") && bareB K (He.ga K "TENS")) = true := (He.ba (He.ba (He.ba (He.ba (He.ba (He.ba (He.ba T.ex_).2).2).2).2).2).2).2
theorem Txt.bareC (T : Txt w K mg) : ∃ o, K.lookup (He.ga K "COUNTS") = some o ∧ o.cls = .type "tuple" ∧ o.dict = none := bareB_ok (He.ba T.bare2).1
theorem Txt.bareT (T : Txt w K mg) : ∃ o, K.lookup (He.ga K "TENS") = some o ∧ o.cls = .type "tuple" ∧ o.dict = none := bareB_ok (He.ba T.bare2).2
theorem at_map {l : List Str} {i : Int} (h0 : 0 ≤ i) (h : i < l.length) : atI (l.map V.str) i = some (.str (l.getD i.toNat "")) := by
  obtain ⟨n, rfl⟩ := Int.eq_ofNat_of_zero_le h0
  have hn : n < l.length := by omega
  refine atI_nat ?_
  rw [List.getElem?_map, List.getD_eq_getElem?_getD]
  show (l[n]?).map V.str = some (.str ((l[((n : Nat) : Int).toNat]?).getD ""))
  rw [Int.toNat_natCast, List.getElem?_eq_getElem hn]
  rfl
/-! words -/
def cntS (x : Int) : Str := if x < 20 then counts.getD x.toNat "" else if x % 10 > 0 then tens.getD (x / 10 - 2).toNat "" ++ (" " ++ counts.getD (x % 10).toNat "") else tens.getD (x / 10 - 2).toNat ""
theorem counts_len : ∀ n : Nat, n < 20 → (counts.getD n "").length ≤ 9 := by decide +kernel
theorem tens_len : ∀ n : Nat, n < 8 → (tens.getD n "").length ≤ 9 := by decide +kernel
theorem cntS_len {x : Int} (h : x < 100) : (cntS x).length ≤ 30 := by
  unfold cntS
  split
  · have := counts_len x.toNat (by omega); omega
  · have := tens_len (x / 10 - 2).toNat (by omega)
    split
    · have := counts_len (x % 10).toNat (by omega)
      rw [len_app, len_app]
      have e : (" " : Str).length = 1 := rfl
      omega
    · omega
def shW : List (Str × Str) → Int → Int → List Str
  | [], _, _ => []
  | p :: l, r, w => if r ≥ w then ((p.1 ++ " ") ++ p.2) :: shW l (r - w) (w / 2) else shW l r (w / 2)
theorem shW_ok : ∀ (l : List (Str × Str)) (r w : Int), (∀ p ∈ l, p.1.length ≤ 5 ∧ p.2.length ≤ 20) → (shW l r w).length ≤ l.length ∧ ∀ y ∈ shW l r w, y.length ≤ 30
  | [], _, _, _ => ⟨Nat.le_refl _, fun y hy => by cases hy⟩
  | p :: l, r, w, h => by
    unfold shW
    have e : (" " : Str).length = 1 := rfl
    split
    · obtain ⟨h1, h2⟩ := shW_ok l (r - w) (w / 2) fun q hq => h q (List.mem_cons_of_mem _ hq)
      refine ⟨by rw [List.length_cons, List.length_cons]; omega, fun y hy => ?_⟩
      rcases List.mem_cons.mp hy with rfl | hy
      · have := h p (List.mem_cons_self ..)
        rw [len_app, len_app]
        omega
      · exact h2 y hy
    · obtain ⟨h1, h2⟩ := shW_ok l r (w / 2) fun q hq => h q (List.mem_cons_of_mem _ hq)
      exact ⟨by rw [List.length_cons]; omega, h2⟩
theorem shares_len : ∀ p ∈ shares, p.1.length ≤ 5 ∧ p.2.length ≤ 20 := by decide +kernel
def wordsA (m : Int) : List Str := if absI m / 64 > 0 then [cntS (absI m / 64)] else []
def wordsB (m : Int) : List Str := shW shares (absI m % 64) 32
def wsgn (m : Int) : Str := if m < 0 then "minus " else ""
theorem wsgn_len (m : Int) : (wsgn m).length ≤ 6 := by unfold wsgn; split <;> decide
def wordsS (m : Int) : Str := if m = 0 then "nothing" else wsgn m ++ Txt.join " and " (wordsA m ++ wordsB m)
theorem words_ok {m : Int} (h : absI m < 6400) : (wordsA m ++ wordsB m).length ≤ 100 ∧ ∀ y ∈ wordsA m ++ wordsB m, y.length ≤ 1000 := by
  obtain ⟨h1, h2⟩ := shW_ok shares (absI m % 64) 32 shares_len
  have h1 : (wordsB m).length ≤ 6 := h1
  refine ⟨?_, fun y hy => ?_⟩
  · rw [List.length_append]
    unfold wordsA
    split
    · rw [List.length_singleton]; omega
    · rw [List.length_nil]; omega
  · rcases List.mem_append.mp hy with hy | hy
    · unfold wordsA at hy
      split at hy
      · rw [List.mem_singleton.mp hy]
        have := cntS_len (x := absI m / 64) (by omega)
        omega
      · cases hy
    · have := h2 y hy
      omega
theorem Paired.len {α β : Type} {G : α → β → Prop} : ∀ {l₁ : List α} {l₂ : List β}, Paired G l₁ l₂ → l₁.length = l₂.length
  | _, _, .nil => rfl
  | _, _, .cons _ t => by rw [List.length_cons, List.length_cons, Paired.len t]
theorem Paired.at {α β : Type} {G : α → β → Prop} : ∀ {l₁ : List α} {l₂ : List β} {i : Nat} {a : α} {b : β}, Paired G l₁ l₂ → l₁[i]? = some a → l₂[i]? = some b → G a b
  | _, _, 0, a, b, .cons h _, e1, e2 => by
    cases e1
    cases e2
    exact h
  | _, _, i + 1, a, b, .cons _ t, e1, e2 => Paired.at (i := i) t e1 e2
  | _, _, 0, _, _, .nil, e1, _ => by cases e1
  | _, _, i + 1, _, _, .nil, e1, _ => by cases e1
theorem s_doubled : FnScope ["number", "told"] ["number"] d_doubled.scope := ⟨rfl, rfl, rfl, by decide +kernel, rfl, by decide +kernel, by decide +kernel⟩
theorem c_doubled (T : Txt w K mg) : Cal P w K mg base 1 "doubled" (spTell (fun x => 0 ≤ x ∧ x < 1048576) dblS) [] := by
  refine T.cal 5 8 (d := d_doubled) (S := s_doubled) (hb := fun _ _ _ _ _ _ us hl => match us, hl with | [_], _ => rfl) (len := fun vs H Q E h => ?_) (hbody := fun cdv A outer s H vs Q E hr h => ?_)
  · obtain ⟨m, rfl, hm, k⟩ := h
    rfl
  · obtain ⟨m, rfl, hm, k⟩ := h
    refine ⟨_, (pss_cons (ps_set (i := 1) s_doubled.nd rfl (Or.inl rfl) (pe_callTy (T := "str") call_str_int (by rfl) (T.f 109) (by decide +kernel) (pa_cons (pe_op op_mod (pv 0) pe_int) pa_nil)))
      (pss_cons (ps_while PassesOwn.never (pt_cmpR op_gt (pv 0) pe_int (nomark _))
      (pss_cons (ps_aug (i := 0) s_doubled.nd rfl (Or.inl rfl) pe_int ip_fdiv)
        (pss_one (ps_set (i := 1) s_doubled.nd rfl (Or.inl rfl) (pe_op op_add_str (pe_callTy (T := "str") call_str_int (by rfl) (T.f 109) (by decide +kernel) (pa_cons (pe_op op_mod (pv 0) pe_int) pa_nil)) (pv 1))))))
      (pss_one (ps_ret (pv 1))))), ?_⟩
    refine ⟨_, rfl, _, _, rfl, rfl, (by decide : (0 : Int) < 2), _, rfl, sm_log ⟨by omega, by omega⟩, ?_⟩
    refine ⟨fun n σ H' => ∃ x t, σ = [some (.int x), some (.str t)] ∧ H' = H ∧ dblF n x t = dblS m ∧ 0 ≤ x ∧ x < 2 ^ n ∧ t.length + 7 * n ≤ 150, ⟨20, m, _, rfl, rfl, rfl, hm.1, by omega, by have := len_num (i := m % 2) (by omega) (by omega); exact Nat.le_trans (Nat.add_le_add_right this _) (by decide)⟩, ?_⟩
    rintro n σ H' ⟨x, t, rfl, rfl, he, h0, h1, hl⟩
    refine ⟨_, rfl, _, _, rfl, rfl, _, rfl, ?_⟩
    refine ite2 (fun h => ?_) (fun h => ?_)
    · have hx := of_decide_eq_true h
      cases n with
      | zero => omega
      | succ n =>
        refine ⟨_, fun σ' H' h' => ⟨n, Nat.lt_succ_self n, h'⟩, ?_⟩
        have l1 : (Str.ofString (toString (x / 2 % 2))).length ≤ 7 := len_num (by omega) (by omega)
        rw [Int.pow_succ] at h1
        refine ⟨_, rfl, _, _, rfl, rfl, ⟨by decide, by decide⟩, ?_⟩
        refine ⟨_, rfl, _, _, rfl, rfl, (by decide : (0 : Int) < 2), _, rfl, sm_log ⟨by omega, by omega⟩, _, rfl, _, _, rfl, rfl, Nat.le_trans (by omega : _ ≤ 200) (by decide), ?_⟩
        refine ⟨x / 2, _, rfl, rfl, ?_, by omega, by omega, by rw [len_app]; omega⟩
        rw [← he]
        conv => rhs; unfold dblF
        rw [if_pos hx]
    · refine ⟨_, rfl, ?_⟩
      have e : dblF n x t = t := by
        cases n with
        | zero => rfl
        | succ n => unfold dblF; rw [if_neg (fun z => h (decide_eq_true z))]
      rw [← e, he]
      exact k _ (Same.refl _)
theorem s_by_halves : FnScope ["measure", "whole", "rest"] ["measure"] d_by_halves.scope := ⟨rfl, rfl, rfl, by decide +kernel, rfl, by decide +kernel, by decide +kernel⟩
theorem c_by_halves (T : Txt w K mg) : Cal P w K mg base 2 "by_halves" (spTell Sm halvS) [] := by
  refine T.cal 6 9 (d := d_by_halves) (S := s_by_halves) (hb := fun _ _ _ _ _ _ us hl => match us, hl with | [_], _ => rfl) (len := fun vs H Q E h => ?_) (hbody := fun cdv A outer s H vs Q E hr h => ?_)
  · obtain ⟨m, rfl, hm, k⟩ := h
    rfl
  · obtain ⟨m, rfl, hm, k⟩ := h
    refine ⟨_, (pss_cons (ps_asg (pe_callB (id := "divmod") call_divmod (by rfl) (T.f 100) (by decide +kernel) (pa_cons (pe_callB (id := "abs") call_absI (by rfl) (T.f 96) (by decide +kernel) (pa_cons (pv 0) pa_nil)) (pa_cons (pe_gc rfl (T.int 112)) pa_nil))) (pg_tup rfl (pgs_cons (pg_name (i := 1) s_by_halves.nd rfl (Or.inl rfl)) (pgs_cons (pg_name (i := 2) s_by_halves.nd rfl (Or.inl rfl)) pgs_nil))))
      (pss_one (ps_ret (pe_op op_add_str (pe_op op_add_str (pe_op op_add_str (pe_c (c_minus_of T) hr (by decide) rfl (pa_cons (pv 0) pa_nil)) (pe_c (c_doubled T) hr (by decide) rfl (pa_cons (pv 1) pa_nil))) pe_str) (pe_bm PySem.F.plainAttrs_str PySem.F.slot_str_zfill PySem.F.type_str_zfill mt_zfill (pe_c (c_doubled T) hr (by decide) rfl (pa_cons (pv 2) pa_nil)) (pa_cons pe_int pa_nil)))))), ?_⟩
    have a0 := absI_nn m
    have a1 : absI m ≤ 1000000 := by unfold absI; split <;> omega
    refine ⟨_, rfl, m, rfl, _, _, rfl, ⟨by decide, by decide⟩, fun p hp => ?_⟩
    refine ⟨p, _, rfl, SqT.of upd_same, rfl, _, _, rfl, _, _, rfl, rfl, ?_⟩
    refine ⟨_, rfl, m, rfl, ?_⟩
    refine ⟨_, rfl, absI m / 64, rfl, ⟨by omega, by omega⟩, fun H1 s1 => ?_⟩
    have l1 := len_sgn m
    have l2 := dblS_len (absI m / 64)
    have l3 := zf_len' (i := absI m % 64) (by omega) (by omega)
    have l4 : ("." : Str).length = 1 := rfl
    refine ⟨_, _, rfl, rfl, Nat.le_trans (by omega : _ ≤ 200) (by decide), _, _, rfl, rfl, Nat.le_trans (by rw [len_app]; omega : _ ≤ 200) (by decide), ?_⟩
    refine ⟨_, rfl, absI m % 64, rfl, ⟨by omega, by omega⟩, fun H2 s2 => ?_⟩
    refine ⟨rfl, _, _, rfl, rfl, rfl, _, _, rfl, rfl, Nat.le_trans (by rw [len_app, len_app]; omega : _ ≤ 300) (by decide), ?_⟩
    exact k _ ((same_new hp).trans (s1.trans s2))
theorem s_counted : FnScope ["whole", "told"] ["whole"] d_counted.scope := ⟨rfl, rfl, rfl, by decide +kernel, rfl, by decide +kernel, by decide +kernel⟩
theorem c_counted (T : Txt w K mg) : Cal P w K mg base 1 "counted" (spTell (fun x => 1 ≤ x ∧ x < 100) cntS) [] := by
  refine T.cal 7 10 (d := d_counted) (S := s_counted) (hb := fun _ _ _ _ _ _ us hl => match us, hl with | [_], _ => rfl) (len := fun vs H Q E h => ?_) (hbody := fun cdv A outer s H vs Q E hr h => ?_)
  · obtain ⟨x, rfl, hx, k⟩ := h
    rfl
  · obtain ⟨x, rfl, hx, k⟩ := h
    refine ⟨_, (pss_cons (ps_if (pt_cmpR op_lt (pv 0) (pe_callB (id := "len") (call_len_seqK (K := K) rfl) (by rfl) (T.f 104) (by decide +kernel) (pa_cons (pe_gc rfl (T.gr 0)) pa_nil)) (nomark _)) (pss_one (ps_ret (pe_ix (ix_tupK (K := K) rfl) (pe_gc rfl (T.gr 0)) (pv 0) (fun _ _ => rfl)))) pss_nil)
      (pss_cons (ps_set (i := 1) s_counted.nd rfl (Or.inl rfl) (pe_ix (ix_tupK (K := K) rfl) (pe_gc rfl (T.gr 1)) (pe_op op_sub (pe_op op_fdiv (pv 0) pe_int) pe_int) (fun _ _ => rfl)))
      (pss_cons (ps_if (pt_cmpR op_gt (pe_op op_mod (pv 0) pe_int) pe_int (nomark _)) (pss_one (ps_aug (i := 1) s_counted.nd rfl (Or.inl rfl) (pe_op op_add_str pe_str (pe_ix (ix_tupK (K := K) rfl) (pe_gc rfl (T.gr 0)) (pe_op op_mod (pv 0) pe_int) (fun _ _ => rfl))) ip_addS)) pss_nil)
      (pss_one (ps_ret (pv 1)))))), ?_⟩
    have k := k H (Same.refl H)
    unfold cntS at k
    refine ⟨_, rfl, _, _, rfl, Or.inr (T.counts H), _, _, rfl, rfl, _, rfl, ?_⟩
    rw [List.length_map]
    refine ite2 (fun h => ?_) (fun h => ?_)
    · have h := of_decide_eq_true h
      have h : x < 20 := h
      rw [if_pos h] at k
      exact ⟨_, rfl, _, _, _, _, rfl, rfl, T.counts H, at_map (by omega) h, k⟩
    · have h : ¬ x < 20 := fun z => h (decide_eq_true z)
      rw [if_neg h] at k
      have e : ((tens.length : Nat) : Int) = 8 := rfl
      refine ⟨_, rfl, _, _, rfl, rfl, ⟨by decide, by decide⟩, _, _, rfl, rfl, _, _, _, _, rfl, rfl, T.tens H, at_map (by omega) (by omega), ?_⟩
      refine ⟨_, rfl, _, _, rfl, rfl, (by decide : (0 : Int) < 10), _, _, rfl, rfl, _, rfl, ?_⟩
      refine ite2 (fun h2 => ?_) (fun h2 => ?_)
      · rw [if_pos (of_decide_eq_true h2)] at k
        have e : ((counts.length : Nat) : Int) = 20 := rfl
        have l1 := tens_len (x / 10 - 2).toNat (by omega)
        have l2 := counts_len (x % 10).toNat (by omega)
        have l3 : (" " : Str).length = 1 := rfl
        refine ⟨_, rfl, _, rfl, _, _, rfl, rfl, (by decide : (0 : Int) < 10), _, _, _, _, rfl, rfl, T.counts H, at_map (by omega) (by omega), _, _, rfl, rfl, Nat.le_trans (by omega : _ ≤ 100) (by decide), _, _, rfl, rfl, Nat.le_trans (by rw [len_app]; omega : _ ≤ 100) (by decide), ?_⟩
        exact ⟨_, rfl, k⟩
      · rw [if_neg (fun z => h2 (decide_eq_true z))] at k
        exact ⟨_, rfl, k⟩
end
end Fw
set_option Elab.async false
set_option linter.all false
set_option maxRecDepth 100000
set_option maxHeartbeats 4000000
namespace Fw
open PySem PySem.Spec PyProof.Rows L2
open C8 (Cal CalAt Met Mak pe_c pe_mk pe_mt pe_mt0 pe_gc InsC call_isC)

section
variable {P : Program} {w : World} {K : PySem.W.Frag} {mg : Str → Option Value} {base : Heap}

inductive Way where
  | parts | inches | halves | words
  deriving DecidableEq
def Way.s : Way → Str
  | .parts => "parts" | .inches => "inches" | .halves => "halves" | .words => "words"
def Way.tn : Way → Str
  | .parts => "by_parts" | .inches => "by_inches" | .halves => "by_halves" | .words => "by_words"
def Way.rn : Way → Str
  | .parts => "from_parts" | .inches => "from_inches" | .halves => "from_halves" | .words => "from_words"
theorem Txt.tl (T : Txt w K mg) (y : Way) : ∃ u, PySem.W.nsIn K (He.ga K "TELLERS") y.s = some (some u) ∧ RelV (.ref (He.ga K y.tn)) u := by
  cases y
  · exact He.valsB_ok T.tel (q := ("parts", .glo "by_parts")) (by simp [tellers])
  · exact He.valsB_ok T.tel (q := ("inches", .glo "by_inches")) (by simp [tellers])
  · exact He.valsB_ok T.tel (q := ("halves", .glo "by_halves")) (by simp [tellers])
  · exact He.valsB_ok T.tel (q := ("words", .glo "by_words")) (by simp [tellers])
theorem Txt.rd (T : Txt w K mg) (y : Way) : ∃ u, PySem.W.nsIn K (He.ga K "READERS") y.s = some (some u) ∧ RelV (.ref (He.ga K y.rn)) u := by
  cases y
  · exact He.valsB_ok T.rea (q := ("parts", .glo "from_parts")) (by simp [readers])
  · exact He.valsB_ok T.rea (q := ("inches", .glo "from_inches")) (by simp [readers])
  · exact He.valsB_ok T.rea (q := ("halves", .glo "from_halves")) (by simp [readers])
  · exact He.valsB_ok T.rea (q := ("words", .glo "from_words")) (by simp [readers])
def tellS : Way → Int → Str
  | .parts => numS | .inches => inchS | .halves => halvS | .words => wordsS
abbrev Md (m : Int) : Prop := -6400 < m ∧ m < 6400
theorem Md.sm {m : Int} (h : Md m) : Sm m := ⟨by omega, by omega⟩
theorem Md.ab {m : Int} (h : Md m) : absI m < 6400 := by unfold absI; split <;> omega
theorem numS_len {i : Int} (h : Sm i) : (numS i).length ≤ 20 := by
  rcases Int.lt_or_le i 0 with h0 | h0
  · obtain ⟨n, rfl⟩ : ∃ n : Nat, i = -((n + 1 : Nat) : Int) := ⟨(-i).toNat - 1, by omega⟩
    have e : numS (-((n + 1 : Nat) : Int)) = "-" ++ numS ((n + 1 : Nat) : Int) := by
      apply TL.ext_tl
      rw [TL.tl_append]
      show TL.tl (Str.ofString (toString (Int.negSucc n))) = TL.tl (Str.ofString "-") ++ TL.tl (Str.ofString (toString ((n + 1 : Nat) : Int)))
      rw [TL.tl_ofString, TL.tl_ofString, TL.tl_ofString]
      show ("-" ++ toString (n + 1)).toList.map Char.toNat = "-".toList.map Char.toNat ++ (toString (n + 1)).toList.map Char.toNat
      rw [String.toList_append, List.map_append]
    rw [e, len_app]
    have := len_num (i := ((n + 1 : Nat) : Int)) (by omega) (by omega)
    have e1 : ("-" : Str).length = 1 := rfl
    omega
  · have := len_num h0 h.2
    omega
theorem tellS_len (y : Way) {m : Int} (h : Md m) : (tellS y m).length ≤ 120000 := by
  cases y with
  | parts => have := numS_len h.sm; show (numS m).length ≤ _; omega
  | inches =>
    show (inchS m).length ≤ _
    unfold inchS
    rw [len_app]
    have := len_sgn m
    have := join_len (inch_ab m) (inch_len h.sm)
    omega
  | halves =>
    show (halvS m).length ≤ _
    unfold halvS
    have a0 := absI_nn m
    rw [len_app, len_app, len_app, zf_len' (by omega) (by omega)]
    have := len_sgn m
    have := dblS_len (absI m / 64)
    have e1 : ("." : Str).length = 1 := rfl
    omega
  | words =>
    show (wordsS m).length ≤ _
    unfold wordsS
    split
    · decide
    · rw [len_app]
      obtain ⟨h1, h2⟩ := words_ok h.ab
      have := (join_ok h1 h2 (a := " and ") (by decide)).2
      have := wsgn_len m
      omega
def overS (a : Int) : Str := if a ≥ 0 then "+" else ""
def underS (b : Int) : Str := if b = 0 then "-" else if b < 0 then "+" else ""
def spanS (y : Way) (s a b : Int) : Str :=
  if y = .words then (((tellS y s ++ " above ") ++ tellS y a) ++ " below ") ++ tellS y b
  else ((((((tellS y s ++ " ") ++ overS a) ++ tellS y a) ++ " ") ++ underS b) ++ tellS y (0 - b))
theorem overS_len (a : Int) : (overS a).length ≤ 1 := by unfold overS; split <;> decide
theorem underS_len (a : Int) : (underS a).length ≤ 1 := by unfold underS; split <;> (try split) <;> decide
theorem spanS_len (y : Way) {s a b : Int} (h1 : Md s) (h2 : Md a) (h3 : Md b) : (spanS y s a b).length ≤ 400000 := by
  have l1 := tellS_len y h1
  have l2 := tellS_len y h2
  have l3 := tellS_len y h3
  have l4 := tellS_len y (m := 0 - b) ⟨by omega, by omega⟩
  have l5 := overS_len a
  have l6 := underS_len b
  have e1 : (" above " : Str).length = 7 := rfl
  have e2 : (" below " : Str).length = 7 := rfl
  have e3 : (" " : Str).length = 1 := rfl
  unfold spanS
  split
  · rw [len_app, len_app, len_app, len_app]; omega
  · rw [len_app, len_app, len_app, len_app, len_app, len_app]; omega
/-! a call of a local name that holds a def -/
def tLoc (P : Program) (w : World) (K : PySem.W.Frag) (mg : Str → Option Value) (base : Heap) (k i : Nat) (t : TA) : TE := fun σ H Q => ∃ f sp, σ[i]? = some (some (.ref f)) ∧ CalAt P w K mg base k f sp ∧ t σ H fun vs H1 => sp vs H1 Q C8.E0
theorem pe_loc {X : Cx} {j k i : Nat} {x : Str} {p pos : Pos} {e : Expr} {es : List Expr} {t : TA} (hr : Room j X.A) (hk : k ≤ j) (hN : X.N[i]? = some x) (hv : Vis X.env.scope x) (ha : PA X (e :: es) t)
    (hd : (x == ("__debug__" : Str)) = false := by decide) (hcd : (x == ("__classdict__" : Str)) = false := by decide)
    (he : starEach (e :: es) X.env = (false, eval e X.env) :: starEach es X.env := by rfl) (hpl : (backTo pos (starEach es X.env)).any (·.1) = false := by rfl) :
    PE X (.Call (.Name x p) (e :: es) [] pos) (tLoc X.prog X.w X.K X.mg X.base k i t) := by
  refine ⟨fun pins s σ H Q I h => ?_⟩
  obtain ⟨f, sp, hs, c, ht⟩ := h
  obtain ⟨fd, ps, F, kp, b⟩ := c.ex
  have hn := (pe_var (pos := p) hN hv hd hcd).run pins s σ H (fun v H1 => v = .ref f ∧ H1 = H) I ⟨.ref f, hs, rfl, rfl⟩
  refine wpAny_Call_Name_kw (thn hn ?_)
  rintro u s1 ⟨v, H1, I1, r1, rfl, rfl⟩
  cases r1
  have hq := ha.run pos pins s1 σ _ _ I1 ht
  refine PySem.W.callWith_K (h₀ := X.base) I.ok.mod.kin kp (thn hq ?_) he hpl
  rintro us s2 ⟨vs, H2, I2, r, q⟩
  exact ⟨I2.kIn, run_fn F (hr.mono hk) b .nil C8.pass0 I2 r (by rw [List.append_nil]; exact q)⟩
/-- the promise by the address of the module's name -/
theorem calAt {k k' : Nat} {x : Str} {sp : Sp} (c : Cal P w K mg base k x sp []) (hk : k ≤ k') (hm : mg x = some (.ref (He.ga K x))) : CalAt P w K mg base k' (He.ga K x) sp := by
  obtain ⟨f, fd, ps, ds, F, e, kp, b, d⟩ := c.ex
  have e2 := e.symm.trans hm
  cases e2
  cases d
  exact ⟨fd, ps, F.mono hk, kp, b⟩
/-- a weaker promise -/
theorem cal_imp {k : Nat} {f : Addr} {sp sp' : Sp} (c : CalAt P w K mg base k f sp) (h : ∀ vs H Q E, sp' vs H Q E → sp vs H Q E) : CalAt P w K mg base k f sp' := by
  obtain ⟨fd, ps, F, kp, b⟩ := c.ex
  exact ⟨fd, ps, F.imp h, kp, b⟩
theorem s_by_words : FnScope ["measure", "whole", "rest", "told", "worth", "article", "share", "sign"] ["measure"] d_by_words.scope := ⟨rfl, rfl, rfl, by decide +kernel, rfl, by decide +kernel, by decide +kernel⟩
theorem c_by_words (T : Txt w K mg) : Cal P w K mg base 2 "by_words" (spTell (fun m => absI m < 6400) wordsS) [] := by
  refine T.cal 8 11 (d := d_by_words) (S := s_by_words) (hb := fun _ _ _ _ _ _ us hl => match us, hl with | [_], _ => rfl) (len := fun vs H Q E h => ?_) (hbody := fun cdv A outer s H vs Q E hr h => ?_)
  · obtain ⟨m, rfl, hm, k⟩ := h
    rfl
  · obtain ⟨m, rfl, hm, k⟩ := h
    obtain ⟨as, hS, hP⟩ := T.shares
    refine ⟨_, (pss_cons (ps_asg (pe_callB (id := "divmod") call_divmod (by rfl) (T.f 100) (by decide +kernel) (pa_cons (pe_callB (id := "abs") call_absI (by rfl) (T.f 96) (by decide +kernel) (pa_cons (pv 0) pa_nil)) (pa_cons (pe_gc rfl (T.int 112)) pa_nil))) (pg_tup rfl (pgs_cons (pg_name (i := 1) s_by_words.nd rfl (Or.inl rfl)) (pgs_cons (pg_name (i := 2) s_by_words.nd rfl (Or.inl rfl)) pgs_nil))))
      (pss_cons (ps_if (pt_cmpR op_ge (pv 1) (pe_gc rfl (T.int 113)) (nomark _)) (pss_one ps_never) pss_nil)
      (pss_cons (ps_if (pt_cmpR op_eq (pv 0) pe_int (nomark _)) (pss_one (ps_ret (pe_ix (ix_tupK (K := K) rfl) (pe_gc rfl (T.gr 0)) pe_int (fun _ _ => rfl)))) pss_nil)
      (pss_cons (ps_set (i := 3) s_by_words.nd rfl (Or.inl rfl) (pe_lst pa_nil))
      (C8.pss_cut (ps_if (pt_cmpR op_gt (pv 1) pe_int (nomark _)) (pss_one (ps_expr (pe_bm PySem.F.plainAttrs_list PySem.F.slot_list_append PySem.F.type_list_append mt_append (pv 3) (pa_cons (pe_c (c_counted T) hr (by decide) rfl (pa_cons (pv 1) pa_nil)) pa_nil)))) pss_nil)
      (pss_cons (ps_set (i := 4) s_by_words.nd rfl (Or.inl rfl) (pe_op op_fdiv (pe_gc rfl (T.int 112)) pe_int))
      (pss_cons (ps_for PassesOwn.never rfl (pi_tup (pe_gc rfl (T.gr 2))) (pg_tup rfl (pgs_cons (pg_name (i := 5) s_by_words.nd rfl (Or.inl rfl)) (pgs_cons (pg_name (i := 6) s_by_words.nd rfl (Or.inl rfl)) pgs_nil)))
      (pss_cons (ps_if (pt_cmpR op_ge (pv 2) (pv 4) (nomark _)) (pss_cons (ps_expr (pe_bm PySem.F.plainAttrs_list PySem.F.slot_list_append PySem.F.type_list_append mt_append (pv 3) (pa_cons (pe_op op_add_str (pe_op op_add_str (pv 5) pe_str) (pv 6)) pa_nil)))
          (pss_one (ps_aug (i := 2) s_by_words.nd rfl (Or.inl rfl) (pv 4) ip_sub))) pss_nil)
        (pss_one (ps_aug (i := 4) s_by_words.nd rfl (Or.inl rfl) pe_int ip_fdiv))))
      (C8.pss_cut (ps_set (i := 7) s_by_words.nd rfl (Or.inl rfl) (pe_ifExp (pt_cmpR op_lt (pv 0) pe_int (nomark _)) pe_str pe_str))
      (pss_one (ps_ret (pe_op op_add_str (pv 7) (pe_join pe_str (pv 3))))))))))))), ?_⟩
    have a0 := absI_nn m
    refine ⟨_, rfl, m, rfl, _, _, rfl, ⟨by decide, by decide⟩, fun p hp => ?_⟩
    refine ⟨p, _, rfl, SqT.of upd_same, rfl, _, _, rfl, _, _, rfl, rfl, ?_⟩
    refine ⟨_, rfl, _, _, rfl, rfl, _, rfl, ?_⟩
    refine bool_of_false (by omega) ?_
    refine ⟨_, rfl, rfl, _, rfl, ?_⟩
    refine ite2 (fun h => ?_) (fun h => ?_)
    · have hz := of_decide_eq_true h
      have hz : m = 0 := by injection hz
      subst hz
      exact ⟨_, _, _, _, rfl, rfl, T.counts _, rfl, k _ (same_new hp)⟩
    have hz : m ≠ 0 := fun z => h (decide_eq_true (congrArg V.int z))
    refine ⟨by decide, fun l hl => ?_⟩
    have hlp : Same H (upd (upd H p (.tup [.int (absI m / 64), .int (absI m % 64)])) l (.lst [])) := same_mut (same_new hp) ((same_new hp).free hl)
    refine ⟨fun σ' H' => σ' = [some (.int m), some (.int (absI m / 64)), some (.int (absI m % 64)), some (.ref l), none, none, none, none] ∧ Same H H' ∧ H' l = some (.lst ((wordsA m).map V.str)), ?_, ?_⟩
    · refine ⟨_, rfl, _, _, rfl, rfl, _, rfl, ?_⟩
      unfold wordsA
      refine ite2 (fun h => ?_) (fun h => ?_)
      · have h := of_decide_eq_true h
        rw [if_pos h]
        refine ⟨_, rfl, Or.inl ⟨rfl, _, SqL.of upd_same⟩, _, rfl, absI m / 64, rfl, ⟨by omega, by omega⟩, fun H2 s2 => ?_⟩
        refine ⟨l, _, _, rfl, rfl, s2 _ _ upd_same, by decide, rfl, ?_, upd_same⟩
        exact same_mut (hlp.trans s2) ((same_new hp).free hl)
      · rw [if_neg (fun z => h (decide_eq_true z))]
        exact ⟨rfl, hlp, upd_same⟩
    rintro _ H1 ⟨rfl, s1, h1⟩
    have nl : H l = none := (same_new hp).free hl
    refine ⟨_, _, rfl, rfl, ⟨by decide, by decide⟩, ?_⟩
    refine ⟨_, rfl, ⟨_, hS _⟩, for_tup (K := K) (xs := as.map V.ref) (fun i σ' H' => ∃ r wo acc oa os, σ' = [some (.int m), some (.int (absI m / 64)), some (.int r), some (.ref l), some (.int wo), oa, os, none] ∧ Same H H' ∧ H' l = some (.lst (acc.map V.str)) ∧ acc ++ shW (Fw.shares.drop i) r wo = wordsA m ++ wordsB m ∧ 0 ≤ wo ∧ acc.length ≤ 1 + i) ?_ (fun i σ' H' _ _ => hS H') ?_ ?_⟩
    · refine ⟨_, 32, wordsA m, none, none, rfl, s1, h1, rfl, by decide, ?_⟩
      unfold wordsA
      split <;> simp
    · rintro i x σ' H' hx ⟨r, wo, acc, oa, os, rfl, s2, h2, he, hw, hn⟩
      have hi : i < as.length := by have := (List.getElem?_eq_some_iff.mp hx).1; rwa [List.length_map] at this
      have hl6 := Paired.len (hP H')
      rw [List.getElem?_map, List.getElem?_eq_getElem hi] at hx
      cases hx
      have hi6 : i < Fw.shares.length := by omega
      have hq := Paired.at (hP H') (List.getElem?_eq_getElem hi) (List.getElem?_eq_getElem hi6)
      rw [List.drop_eq_getElem_cons hi6] at he
      unfold shW at he
      have hsl := shares_len _ (List.getElem_mem hi6)
      refine ⟨_, _, rfl, hq, rfl, _, _, rfl, _, _, rfl, rfl, ?_⟩
      refine ⟨_, rfl, _, rfl, _, _, rfl, rfl, _, rfl, ?_⟩
      have e7 : Fw.shares.length = 6 := rfl
      refine ite2 (fun h => ?_) (fun h => ?_)
      · have h := of_decide_eq_true h
        rw [if_pos h] at he
        have l3 : (" " : Str).length = 1 := rfl
        refine ⟨_, rfl, Or.inl ⟨rfl, _, SqL.of h2⟩, _, rfl, _, _, rfl, rfl, Nat.le_trans (by omega : _ ≤ 100) (by decide), _, rfl, _, _, rfl, rfl, Nat.le_trans (by rw [len_app]; omega : _ ≤ 100) (by decide), l, _, _, rfl, rfl, h2, ?_, ?_⟩
        · rw [List.length_map]
          exact Nat.lt_of_le_of_lt (by omega : _ ≤ 100) (by decide)
        · refine ⟨_, rfl, _, rfl, _, _, rfl, rfl, _, rfl, _, _, rfl, rfl, ⟨by decide, by decide⟩, ?_⟩
          refine ⟨r - wo, wo / 2, acc ++ [(Fw.shares[i].1 ++ " ") ++ Fw.shares[i].2], _, _, rfl, same_mut s2 nl, ?_, ?_, by omega, ?_⟩
          · rw [upd_same, List.map_append]
            rfl
          · rw [List.append_assoc]
            exact he
          · rw [List.length_append, List.length_singleton]
            omega
      · rw [if_neg (fun z => h (decide_eq_true z))] at he
        refine ⟨_, rfl, _, _, rfl, rfl, ⟨by decide, by decide⟩, ?_⟩
        exact ⟨r, wo / 2, acc, _, _, rfl, s2, h2, he, by omega, by omega⟩
    · rintro σ' H' ⟨r, wo, acc, oa, os, rfl, s2, h2, he, hw, hn⟩
      have hl6 := Paired.len (hP H')
      have e7 : Fw.shares.length = 6 := rfl
      rw [List.length_map, hl6, List.drop_length] at he
      have he : acc = wordsA m ++ wordsB m := by rw [← he]; exact (List.append_nil acc).symm
      refine ⟨fun σ3 H3 => σ3 = [some (.int m), some (.int (absI m / 64)), some (.int r), some (.ref l), some (.int wo), oa, os, some (.str (wsgn m))] ∧ H3 = H', ?_, ?_⟩
      · refine ⟨_, rfl, _, _, rfl, rfl, _, rfl, ?_⟩
        unfold wsgn
        refine ite2 (fun h => ?_) (fun h => ?_)
        · rw [if_pos (of_decide_eq_true h)]
          exact ⟨rfl, rfl⟩
        · rw [if_neg (fun z => h (decide_eq_true z))]
          exact ⟨rfl, rfl⟩
      · rintro _ _ ⟨rfl, rfl⟩
        obtain ⟨w1, w2⟩ := words_ok hm
        have w3 := join_ok w1 w2 (a := " and ") (by decide)
        have w4 := wsgn_len m
        rw [he] at h2
        refine ⟨_, rfl, ⟨_, rfl⟩, _, rfl, _, l, _, rfl, rfl, Or.inl (SqL.of h2), w3.1, _, _, rfl, rfl, Nat.le_trans (by omega : _ ≤ 102000) (by decide), ?_⟩
        have k := k _ s2
        unfold wordsS at k
        rw [if_neg hz] at k
        exact k
def spWay (r : V) : Sp := fun vs H Q _ => ∃ y : Way, vs = [.str y.s] ∧ Q r H
theorem s_is_way : FnScope ["thing"] ["thing"] d_is_way.scope := ⟨rfl, rfl, rfl, by decide +kernel, rfl, by decide +kernel, by decide +kernel⟩
theorem c_is_way (T : Txt w K mg) : Cal P w K mg base 1 "is_way" (spWay (.bl true)) [] := by
  refine T.cal 9 13 (d := d_is_way) (S := s_is_way) (hb := fun _ _ _ _ _ _ us hl => match us, hl with | [_], _ => rfl) (len := fun vs H Q E h => ?_) (hbody := fun cdv A outer s H vs Q E hr h => ?_)
  · obtain ⟨y, rfl, k⟩ := h
    rfl
  · obtain ⟨y, rfl, k⟩ := h
    obtain ⟨es, n, D⟩ := T.says.t.tab (ts := ts) 0
    refine ⟨_, (pss_one (ps_ret (pe_and (pe_callB (id := "isinstance") call_isi (by rfl) (T.f 103) (by decide +kernel) (pa_cons (pv 0) (pa_cons (pe_bltn (v := .ty "str") (by rfl) (T.f 109) (by decide +kernel) rfl) pa_nil))) (pe_one (pe_cmpR (op_in_kd D) (pv 0) (pe_gc rfl (T.gr 12)) (by rfl)))))), ?_⟩
    obtain ⟨u, hu, _⟩ := T.tl y
    refine ⟨_, rfl, .str y.s, .ty "str", .type "str", .type "str", true, rfl, .ty "str", .base (.str _), kit_ty (by decide +kernel), true, rfl, ?_⟩
    refine iteT ?_
    exact ⟨_, rfl, _, _, rfl, rfl, hu, k⟩
theorem s_check_way : FnScope ["way"] ["way"] d_check_way.scope := ⟨rfl, rfl, rfl, by decide +kernel, rfl, by decide +kernel, by decide +kernel⟩
theorem c_check_way (T : Txt w K mg) : Cal P w K mg base 2 "check_way" (spWay .non) [] := by
  refine T.cal 10 14 (d := d_check_way) (S := s_check_way) (hb := fun _ _ _ _ _ _ us hl => match us, hl with | [_], _ => rfl) (len := fun vs H Q E h => ?_) (hbody := fun cdv A outer s H vs Q E hr h => ?_)
  · obtain ⟨y, rfl, k⟩ := h
    rfl
  · obtain ⟨y, rfl, k⟩ := h
    refine ⟨_, (pss_one (ps_if (pt_not (pt_val (pe_c (c_is_way T) hr (by decide) rfl (pa_cons (pv 0) pa_nil)))) (pss_one ps_never) pss_nil)), ?_⟩
    refine ⟨_, rfl, y, rfl, _, rfl, ?_⟩
    exact k
def spShown : Sp := fun vs H Q _ => ∃ (m : Int) (y : Way), vs = [.int m, .str y.s] ∧ Md m ∧ ∀ H', Same H H' → Q (.str (tellS y m)) H'
theorem s_shown : FnScope ["measure", "way", "teller"] ["measure", "way"] d_shown.scope := ⟨rfl, rfl, rfl, by decide +kernel, rfl, by decide +kernel, by decide +kernel⟩
theorem c_shown (T : Txt w K mg) : Cal P w K mg base 5 "shown" spShown [] := by
  refine T.cal 11 15 (d := d_shown) (S := s_shown) (hb := fun _ _ _ _ _ _ us hl => match us, hl with | [_, _], _ => rfl) (len := fun vs H Q E h => ?_) (hbody := fun cdv A outer s H vs Q E hr h => ?_)
  · obtain ⟨m, y, rfl, hm, k⟩ := h
    rfl
  · obtain ⟨m, y, rfl, hm, k⟩ := h
    obtain ⟨es, n, D⟩ := T.says.t.tab (ts := ts) 0
    refine ⟨_, (pss_cons (ps_set (i := 2) s_shown.nd rfl (Or.inl rfl) (pe_ix ix_kdict (pe_gc rfl (T.gr 12)) (pv 1) (fun _ _ => rfl)))
      (pss_one (ps_ret (pe_loc (k := 4) (i := 2) hr (by decide) rfl (Or.inl rfl) (pa_cons (pv 0) pa_nil))))), ?_⟩
    obtain ⟨u, hu, ru⟩ := T.tl y
    refine ⟨_, rfl, _, _, _, rfl, rfl, ⟨es, n, u, D.at_, D.lit, hu, ru⟩, ?_⟩
    refine ⟨_, (spTell (fun m => Md m) (tellS y)), rfl, ?_, _, rfl, m, rfl, hm, k⟩
    cases y with
    | parts => exact cal_imp (calAt (c_by_parts T) (by decide) (T.g 6)) fun vs H Q E ⟨m, e, h, k⟩ => ⟨m, e, h.sm, k⟩
    | inches => exact cal_imp (calAt (c_by_inches T) (by decide) (T.g 7)) fun vs H Q E ⟨m, e, h, k⟩ => ⟨m, e, h.sm, k⟩
    | halves => exact cal_imp (calAt (c_by_halves T) (by decide) (T.g 9)) fun vs H Q E ⟨m, e, h, k⟩ => ⟨m, e, h.sm, k⟩
    | words => exact cal_imp (calAt (c_by_words T) (by decide) (T.g 11)) fun vs H Q E ⟨m, e, h, k⟩ => ⟨m, e, h.ab, k⟩
def spShownSpan : Sp := fun vs H Q _ => ∃ (s a b : Int) (y : Way), vs = [.int s, .int a, .int b, .str y.s] ∧ Md s ∧ Md a ∧ Md b ∧ ∀ H', Same H H' → Q (.str (spanS y s a b)) H'
theorem way_words (y : Way) : decide (V.str y.s = V.str "words") = decide (y = .words) := by cases y <;> decide +kernel
theorem s_shown_span : FnScope ["size", "above", "below", "way", "told", "over", "under"] ["size", "above", "below", "way"] d_shown_span.scope := ⟨rfl, rfl, rfl, by decide +kernel, rfl, by decide +kernel, by decide +kernel⟩
theorem c_shown_span (T : Txt w K mg) : Cal P w K mg base 6 "shown_span" spShownSpan [] := by
  refine T.cal 12 16 (d := d_shown_span) (S := s_shown_span) (hb := fun _ _ _ _ _ _ us hl => match us, hl with | [_, _, _, _], _ => rfl) (len := fun vs H Q E h => ?_) (hbody := fun cdv A outer s H vs Q E hr h => ?_)
  · obtain ⟨sz, a, b, y, rfl, h1, h2, h3, k⟩ := h
    rfl
  · obtain ⟨sz, a, b, y, rfl, h1, h2, h3, k⟩ := h
    refine ⟨_, (pss_cons (ps_set (i := 4) s_shown_span.nd rfl (Or.inl rfl) (pe_c (c_shown T) hr (by decide) rfl (pa_cons (pv 0) (pa_cons (pv 3) pa_nil))))
      (pss_cons (ps_if (pt_cmpR op_eq (pv 3) pe_str (nomark _)) (pss_one (ps_ret (pe_op op_add_str (pe_op op_add_str (pe_op op_add_str (pe_op op_add_str (pv 4) pe_str) (pe_c (c_shown T) hr (by decide) rfl (pa_cons (pv 1) (pa_cons (pv 3) pa_nil)))) pe_str) (pe_c (c_shown T) hr (by decide) rfl (pa_cons (pv 2) (pa_cons (pv 3) pa_nil)))))) pss_nil)
      (C8.pss_cut (ps_set (i := 5) s_shown_span.nd rfl (Or.inl rfl) (pe_ifExp (pt_cmpR op_ge (pv 1) pe_int (nomark _)) pe_str pe_str))
      (C8.pss_cut (ps_set (i := 6) s_shown_span.nd rfl (Or.inl rfl) (pe_ifExp (pt_cmpR op_lt (pv 2) pe_int (nomark _)) pe_str pe_str))
      (C8.pss_cut (ps_if (pt_cmpR op_eq (pv 2) pe_int (nomark _)) (pss_one (ps_set (i := 6) s_shown_span.nd rfl (Or.inl rfl) pe_str)) pss_nil)
      (pss_one (ps_ret (pe_op op_add_str (pe_op op_add_str (pe_op op_add_str (pe_op op_add_str (pe_op op_add_str (pe_op op_add_str (pv 4) pe_str) (pv 5)) (pe_c (c_shown T) hr (by decide) rfl (pa_cons (pv 1) (pa_cons (pv 3) pa_nil)))) pe_str) (pv 6)) (pe_c (c_shown T) hr (by decide) rfl (pa_cons (pe_op op_sub pe_int (pv 2)) (pa_cons (pv 3) pa_nil))))))))))), ?_⟩
    have l1 := tellS_len y h1
    have l2 := tellS_len y h2
    have l3 := tellS_len y h3
    have l4 := tellS_len y (m := 0 - b) ⟨by omega, by omega⟩
    have l5 := overS_len a
    have l6 := underS_len b
    have x1 : (" above " : Str).length = 7 := rfl
    have x2 : (" below " : Str).length = 7 := rfl
    have x3 : (" " : Str).length = 1 := rfl
    refine ⟨_, rfl, _, rfl, sz, y, rfl, h1, fun H1 s1 => ?_⟩
    refine ⟨_, rfl, rfl, _, rfl, ?_⟩
    rw [way_words]
    refine ite2 (fun h => ?_) (fun h => ?_)
    · have hy := of_decide_eq_true h
      refine ⟨_, rfl, _, _, rfl, rfl, Nat.le_trans (by omega : _ ≤ 400000) (by decide), _, rfl, _, rfl, a, y, rfl, h2, fun H2 s2 => ?_⟩
      refine ⟨_, _, rfl, rfl, Nat.le_trans (by rw [len_app]; omega : _ ≤ 400000) (by decide), _, _, rfl, rfl, Nat.le_trans (by rw [len_app, len_app]; omega : _ ≤ 400000) (by decide), _, rfl, _, rfl, b, y, rfl, h3, fun H3 s3 => ?_⟩
      refine ⟨_, _, rfl, rfl, Nat.le_trans (by rw [len_app, len_app, len_app]; omega : _ ≤ 400000) (by decide), ?_⟩
      have k := k H3 ((s1.trans s2).trans s3)
      unfold spanS at k
      rw [if_pos hy] at k
      exact k
    have hy : ¬ y = .words := fun z => h (decide_eq_true z)
    refine ⟨fun σ' H' => σ' = [some (.int sz), some (.int a), some (.int b), some (.str y.s), some (.str (tellS y sz)), some (.str (overS a)), none] ∧ H' = H1, ?_, ?_⟩
    · refine ⟨_, rfl, _, _, rfl, rfl, _, rfl, ?_⟩
      unfold overS
      refine ite2 (fun h => ?_) (fun h => ?_)
      · rw [if_pos (of_decide_eq_true h)]
        exact ⟨rfl, rfl⟩
      · rw [if_neg (fun z => h (decide_eq_true z))]
        exact ⟨rfl, rfl⟩
    rintro _ H1 ⟨rfl, rfl⟩
    refine ⟨fun σ' H' => σ' = [some (.int sz), some (.int a), some (.int b), some (.str y.s), some (.str (tellS y sz)), some (.str (overS a)), some (.str (if b < 0 then "+" else ""))] ∧ H' = H1, ?_, ?_⟩
    · refine ⟨_, rfl, _, _, rfl, rfl, _, rfl, ?_⟩
      refine ite2 (fun h => ?_) (fun h => ?_)
      · rw [if_pos (of_decide_eq_true h)]
        exact ⟨rfl, rfl⟩
      · rw [if_neg (fun z => h (decide_eq_true z))]
        exact ⟨rfl, rfl⟩
    rintro _ H1 ⟨rfl, rfl⟩
    refine ⟨fun σ' H' => σ' = [some (.int sz), some (.int a), some (.int b), some (.str y.s), some (.str (tellS y sz)), some (.str (overS a)), some (.str (underS b))] ∧ H' = H1, ?_, ?_⟩
    · refine ⟨_, rfl, rfl, _, rfl, ?_⟩
      unfold underS
      refine ite2 (fun h => ?_) (fun h => ?_)
      · have hb := of_decide_eq_true h
        have hb : b = 0 := by injection hb
        rw [if_pos hb]
        exact ⟨rfl, rfl⟩
      · rw [if_neg (fun z => h (decide_eq_true (congrArg V.int z)))]
        exact ⟨rfl, rfl⟩
    rintro _ _ ⟨rfl, rfl⟩
    refine ⟨_, rfl, _, _, rfl, rfl, Nat.le_trans (by omega : _ ≤ 400000) (by decide), _, rfl, _, _, rfl, rfl, Nat.le_trans (by rw [len_app]; omega : _ ≤ 400000) (by decide), _, rfl, _, rfl, a, y, rfl, h2, fun H2 s2 => ?_⟩
    refine ⟨_, _, rfl, rfl, Nat.le_trans (by rw [len_app, len_app]; omega : _ ≤ 400000) (by decide), _, _, rfl, rfl, Nat.le_trans (by rw [len_app, len_app, len_app]; omega : _ ≤ 400000) (by decide), _, rfl, _, _, rfl, rfl, Nat.le_trans (by rw [len_app, len_app, len_app, len_app]; omega : _ ≤ 400000) (by decide), ?_⟩
    refine ⟨_, rfl, _, _, rfl, rfl, _, rfl, 0 - b, y, rfl, ⟨by omega, by omega⟩, fun H3 s3 => ?_⟩
    refine ⟨_, _, rfl, rfl, Nat.le_trans (by rw [len_app, len_app, len_app, len_app, len_app]; omega : _ ≤ 400000) (by decide), ?_⟩
    have k := k H3 ((s1.trans s2).trans s3)
    unfold spanS at k
    rw [if_neg hy] at k
    exact k
end
end Fw
set_option Elab.async false
set_option linter.all false
set_option maxRecDepth 100000
set_option maxHeartbeats 4000000
namespace Fw
open PySem PySem.Spec PyProof.Rows L2
open C8 (Cal CalAt Met Mak pe_c pe_mk pe_mt pe_mt0 pe_gc InsC call_isC)

section
variable {P : Program} {w : World} {K : PySem.W.Frag} {mg : Str → Option Value} {base : Heap}

/-! int(t, 2): a text of the signs 0 and 1 -/
namespace Bn
open PySem.NumText PySem.Calls
abbrev Is01 (c : Nat) : Prop := c = 48 ∨ c = 49
def binNum (l : List Nat) : Nat := l.foldl (fun a c => a * 2 + (c - 48)) 0
theorem hex_of {c : Nat} (h : Is01 c) : Hx.IsHex c := .inl (by rcases h with h | h <;> omega)
theorem step2 {ds : Array Nat} {b : Bool} {c : Nat} (h : Is01 c) : PySem.NumText.step 2 (ds, b) c = some (ds.push (c - 48), true) := by
  rcases h with rfl | rfl
  · rfl
  · rfl
theorem fold2 : ∀ (cs : List Nat) (ds : Array Nat), (∀ c ∈ cs, Is01 c) → cs.foldlM (PySem.NumText.step 2) (ds, true) = some (cs.foldl (fun acc c => acc.push (c - 48)) ds, true) := by
  intro cs
  induction cs with
  | nil => intro ds _; rfl
  | cons c cs ih =>
    intro ds h
    rw [List.foldlM_cons, step2 (h c (List.mem_cons_self ..))]
    exact ih _ fun d hd => h d (List.mem_cons_of_mem _ hd)
theorem digs2 {cs : List Nat} (h : ∀ c ∈ cs, Is01 c) (hne : cs ≠ []) : digits? 2 cs = some (cs.foldl (fun acc c => acc.push (c - 48)) #[]) := by
  cases cs with
  | nil => exact absurd rfl hne
  | cons c cs =>
    unfold digits?
    rw [List.foldlM_cons, step2 (h c (List.mem_cons_self ..))]
    have q := fold2 cs ((#[] : Array Nat).push (c - 48)) fun d hd => h d (List.mem_cons_of_mem _ hd)
    show (cs.foldlM (PySem.NumText.step 2) ((#[] : Array Nat).push (c - 48), true)).bind _ = _
    rw [q]
    rfl
theorem value2 : ∀ (cs : List Nat) (ds : Array Nat), (cs.foldl (fun acc c => acc.push (c - 48)) ds).foldl (fun acc d => acc * 2 + d) 0 = cs.foldl (fun a c => a * 2 + (c - 48)) (ds.foldl (fun acc d => acc * 2 + d) 0) := by
  intro cs
  induction cs with
  | nil => intro ds; rfl
  | cons c cs ih =>
    intro ds
    rw [List.foldl_cons, ih, List.foldl_cons]
    congr 1
    simp
theorem pre2 {cs : List Nat} (h : ∀ c ∈ cs, Is01 c) : NumText.prefix? cs = none := by
  match cs, h with
  | [], _ => rfl
  | [a], _ =>
    unfold NumText.prefix?
    split
    · rename_i e
      cases e
    · rfl
  | a :: c :: r, h =>
    have hc := h c (List.mem_cons_of_mem _ (List.mem_cons_self ..))
    have ha := h a (List.mem_cons_self ..)
    rcases ha with rfl | rfl <;> rcases hc with rfl | rfl <;> rfl
theorem read2 {cs : List Nat} (h : ∀ c ∈ cs, Is01 c) (hne : cs ≠ []) : (int_private% "readNumeral") 0 2 cs = (int_private% "Numeral.value") ((binNum cs : Nat) : Int) := by
  have hh : ∀ c ∈ cs, Hx.IsHex c := fun c hc => hex_of (h c hc)
  have hr : ∀ c ∈ cs.reverse, Hx.IsHex c := fun c hc => hh c (List.mem_reverse.mp hc)
  have hb : based 2 cs = (2, false, cs) := by
    unfold based
    rw [pre2 h]
    rfl
  refine (readNumeral_eq 0 2 cs).trans ?_
  rw [Hx.dropB hh, Hx.signH hh]
  show judge 0 false (based 2 cs).1 (based 2 cs).2.1 (digits? (based 2 cs).1 (((based 2 cs).2.2.reverse.dropWhile blank).reverse)) = _
  rw [hb]
  show judge 0 false 2 false (digits? 2 ((cs.reverse.dropWhile blank).reverse)) = _
  rw [Hx.dropB hr, List.reverse_reverse, digs2 h hne]
  show (int_private% "Numeral.value") (((cs.foldl (fun acc c => acc.push (c - 48)) (#[] : Array Nat)).foldl (fun acc d => acc * 2 + d) 0 : Nat) : Int) = _
  rw [value2]
  rfl
structure Kept (p : Prop) : Prop where
  out : p
theorem gives2 {x : PySem.Str} {u t : Tok} (hl : x.length ≤ 640) (h : ∀ c ∈ x.cps.toList, Is01 c) (hne : x.cps.toList ≠ []) :
    Gives (Builtin.«int.__new__» ⟨[.type "int", .str x u, .int 2 t], []⟩) (.int ((binNum x.cps.toList : Nat) : Int)) := by
  refine .of_wp fun M A E s Q hQ => ?_
  obtain ⟨hp, g, d, tk, os⟩ := s
  have f1 := F.conv_sub_int
  have f2 := F.madeHere_int
  have f6 : typeOf (.str x u) = pure (.type "str") := rfl
  obtain ⟨e1, e2⟩ := Hx.seen_hex fun c hc => hex_of (h c hc)
  have hs : (numSeenOf x).length ≤ 640 := by rw [e2, Array.length_toList]; exact hl
  have hr : (int_private% "readNumeral") 0 2 (numSeenOf x) = (int_private% "Numeral.value") ((binNum x.cps.toList : Nat) : Int) := by rw [e2]; exact read2 h hne
  have ha : ((numSeenOf x).length == (numTextOf x).length) = true := by rw [e1, e2]; exact beq_self_eq_true _
  have hk := Kept.mk (And.intro hs (And.intro hr ha))
  clear hs hr ha e1 e2 hl hne h
  repeat (any_goals (first
    | assumption
    | ((with_reducible show wpAny _ _ ((int_private% "intFromText") _ _ _) _ _ _); refine Hx.wp_textB hk.out.1 hk.out.2.1 hk.out.2.2 ?_)
    | wp_step))
  all_goals first | exact ⟨_, rfl, hQ⟩ | skip
theorem call2 {prog : Program} {w : World} {A : Around} {E : Value → Shared → Prop} {s : Shared} {Q : Value → Shared → Prop} {x : PySem.Str} {u t : Tok} (hl : x.length ≤ 640) (h : ∀ c ∈ x.cps.toList, Is01 c) (hne : x.cps.toList ≠ [])
    (hQ : Q (.int ((binNum x.cps.toList : Nat) : Int) s.toks) { s with toks := s.toks + 1 }) : wpAny (model prog w) A (call (.type "int") [.str x u, .int 2 t]) Q E s := by
  have m := (gives2 (u := u) (t := t) hl h hne).meets
  exact callType_new F.called_int F.newNe_int (Hx.typeCall_int_2 _ _) (Hx.newCall_int_2 _ _) (fun obj => F.initArgs_range_2 obj _ _) F.entry_int_new m (show (Made.int ((binNum x.cps.toList : Nat) : Int)).post _ s from ⟨rfl, hQ⟩)
end Bn
def rIntTwo : List V → Hp → VK → Prop := fun xs H Q => ∃ z : Str, xs = [.str z, .int 2] ∧ z.cps.toList ≠ [] ∧ z.length ≤ 640 ∧ (∀ c ∈ z.cps.toList, Bn.Is01 c) ∧ Q (.int ((Bn.binNum z.cps.toList : Nat) : Int)) H
theorem call_int_two {X : Cx} : CallR X (.type "int") rIntTwo := by
  intro pins s σ H xs us Q I r h
  obtain ⟨z, rfl, hne, hl, hx, q⟩ := h
  obtain ⟨u, w', rfl, ⟨t1, rfl⟩, ⟨t2, rfl⟩⟩ := vals2 r
  exact Bn.call2 (x := z) hl hx hne ⟨.int ((Bn.binNum z.cps.toList : Nat) : Int), H, I.tok _, ⟨_, rfl⟩, q⟩
end
end Fw
set_option Elab.async false
set_option linter.all false
set_option maxRecDepth 100000
set_option maxHeartbeats 4000000
namespace Fw
open PySem PySem.Spec PyProof.Rows L2
open C8 (Cal CalAt Met Mak pe_c pe_mk pe_mt pe_mt0 pe_gc InsC call_isC)

section
variable {P : Program} {w : World} {K : PySem.W.Frag} {mg : Str → Option Value} {base : Heap}

/-! reading: figures -/
theorem sz1 : 1 ≤ sizeLine := by decide
theorem sz2 : 2 ≤ sizeLine := by decide
theorem sz3 : 3 ≤ sizeLine := by decide
theorem sz4 : 4 ≤ sizeLine := by decide
theorem len_sl {n : Nat} (h : n ≤ 600000) : n ≤ sizeLine := Nat.le_trans h (by decide)
def figL : List Nat := ("0123456789" : Str).cps.toList
def isFigL : List Nat → Bool
  | [] => false
  | c :: r => ((c :: r).all fun s => decide (s ∈ figL)) && (decide (c :: r = [48]) || !decide (c = 48))
def isFig (z : Str) : Bool := isFigL z.cps.toList
theorem fig_mem {c : Nat} : c ∈ figL ↔ 48 ≤ c ∧ c ≤ 57 := by
  have e : figL = [48, 49, 50, 51, 52, 53, 54, 55, 56, 57] := rfl
  rw [e]
  simp only [List.mem_cons, List.not_mem_nil, or_false]
  omega
theorem str_nil {z : Str} : z = "" ↔ z.cps.toList = [] := ⟨fun h => by rw [h]; rfl, fun h => TL.ext_tl h⟩
theorem isFig_num {z : Str} (h : isFig z = true) (hl : z.length ≤ 600) : ∃ n : Nat, intText? z = some (n : Int) := by
  unfold isFig at h
  rw [← SX.S_tl z]
  cases e : z.cps.toList with
  | nil => rw [e] at h; cases h
  | cons c r =>
    rw [e] at h
    have h1 : (c :: r).all (fun s => decide (s ∈ figL)) = true := (Bool.and_eq_true_iff.mp h).1
    refine ⟨_, SX.int_S ?_ (List.cons_ne_nil c r) ?_⟩
    · rw [List.all_eq_true] at h1 ⊢
      intro s hs
      have := fig_mem.mp (of_decide_eq_true (h1 s hs))
      rw [decide_eq_true this.1, decide_eq_true this.2]
      rfl
    · rw [← e, ← TL.len_tl]
      omega
theorem tlc_text {z : Str} {f : Nat → Bool} {j : Nat} {tz te : TE} {σ : L2.St} {H : Hp} {Q : VK} (hj : j < σ.length) (hz : z.length ≤ 600000) (htz : ∀ Q : VK, Q (.str z) H → tz σ H Q)
    (hte : ∀ c (σ2 : L2.St) H3 (Q : VK), (∀ i, i ≠ j → σ2[i]? = (σ.set j none)[i]?) → σ2[j]? = some (some (.str ⟨#[c]⟩)) → Q (.bl (f c)) H3 → te σ2 H3 Q)
    (hd : ∀ D H', H D = none → Same H H' → H' D = some (.lst ((z.cps.toList.map f).map V.bl)) → Q (.ref D) H') : tLc (iStr tz) (gName j) tYes te [j] σ H Q := by
  refine htz _ ⟨z, rfl, fun D hD => ?_⟩
  have hzs : z.cps.size = z.cps.toList.length := by simp
  refine lc_it walk_str (fun i H' => Same H H' ∧ H' D = some (.lst (((z.cps.toList.take i).map f).map V.bl))) ⟨same_new hD, upd_same⟩ (fun _ _ _ _ => trivial) ?_ ?_
  · rintro i x H1 H2 hi ⟨s1, h1⟩ ⟨rfl, c, hc, rfl⟩
    have hcl : z.cps.toList[i]? = some c := by rw [Array.getElem?_toList]; exact hc
    refine ⟨?_, ?_⟩
    · show (((σ.set j none).set j (some (V.str ⟨#[c]⟩))).set j none) = σ.set j none
      simp
    · show te ((wipe σ [j]).set j (some (V.str ⟨#[c]⟩))) H2 _
      refine hte c _ _ _ (fun i hi => ?_) ?_ ?_
      · show ((σ.set j none).set j _)[i]? = _
        rw [List.getElem?_set_ne hi.symm]
      · show ((σ.set j none).set j _)[j]? = _
        rw [List.getElem?_set_self (by rw [List.length_set]; exact hj)]
      · refine ⟨_, h1, ?_, same_mut s1 hD, ?_⟩
        · rw [List.length_map, List.length_map, List.length_take]
          have : z.length = z.cps.size := rfl
          exact Nat.lt_of_le_of_lt (Nat.min_le_right _ _) (Nat.lt_of_le_of_lt (by rw [← hzs]; exact hz) (by decide))
        · rw [upd_same, List.take_add_one, hcl]
          simp
  · rintro H1 ⟨s1, h1⟩
    rw [hzs, List.take_length] at h1
    exact hd D H1 hD s1 h1
theorem all_id (l : List Nat) (f : Nat → Bool) : (l.map f).all id = l.all f := by
  rw [List.all_map]
  rfl
def WsOk (ws : List Str) : Prop := ws.length ≤ 2000 ∧ ∀ z ∈ ws, z.length ≤ 600
def spWordAt : Sp := fun vs H Q _ => ∃ (a : Addr) (ws : List Str) (i : Nat) (z : Str), vs = [.ref a, .int i] ∧ SqL K H a (ws.map V.str) ∧ ws[i]? = some z ∧ Q (.str z) H
def spIsFig : Sp := fun vs H Q _ => ∃ z : Str, vs = [.str z] ∧ z.length ≤ 600 ∧ ∀ H', Same H H' → Q (.bl (isFig z)) H'
def unsg (z : Str) : Str × Int := if Txt.slice z none (some 1) = "-" then (Txt.slice z (some 1) none, 0 - 1) else (z, 1)
/-- a new tuple -/
def RetT (H : Hp) (Q : VK) (xs : List V) : Prop := ∀ p H', H p = none → Same H H' → H' p = some (.tup xs) → Q (.ref p) H'
def spUnsg : Sp := fun vs H Q _ => ∃ z : Str, vs = [.str z] ∧ z.length ≤ 600 ∧ RetT H Q [.str (unsg z).1, .int (unsg z).2]
theorem at_words {ws : List Str} {i : Nat} {z : Str} (h : ws[i]? = some z) : atI (ws.map V.str) (i : Int) = some (.str z) := atI_nat (by rw [List.getElem?_map, h]; rfl)
theorem slice_len1 (z : Str) : (Txt.slice z (some 1) none).length ≤ z.length := by
  have e := SX.slice_from (a := z.cps.toList) (i := 1) (by decide)
  rw [SX.S_tl] at e
  rw [e, SX.S_len, List.length_drop, TL.len_tl]
  exact Nat.sub_le _ _
theorem unsg_len {z : Str} (h : z.length ≤ 600) : (unsg z).1.length ≤ 600 := by
  unfold unsg
  split
  · exact Nat.le_trans (slice_len1 z) h
  · exact h
theorem s_word_at : FnScope ["words", "at"] ["words", "at"] d_word_at.scope := ⟨rfl, rfl, rfl, by decide +kernel, rfl, by decide +kernel, by decide +kernel⟩
theorem c_word_at (T : Txt w K mg) : Cal P w K mg base 1 "word_at" (spWordAt (K := K)) [] := by
  refine T.cal 13 17 (d := d_word_at) (S := s_word_at) (hb := fun _ _ _ _ _ _ us hl => match us, hl with | [_, _], _ => rfl) (len := fun vs H Q E h => ?_) (hbody := fun cdv A outer s H vs Q E hr h => ?_)
  · obtain ⟨a, ws, i, z, rfl, hS, hz, k⟩ := h
    rfl
  · obtain ⟨a, ws, i, z, rfl, hS, hz, k⟩ := h
    refine ⟨_, (pss_cons (ps_if (pt_cmpR op_ge (pv 1) (pe_callB (id := "len") (call_len_seqK (K := K) rfl) (by rfl) (T.f 104) (by decide +kernel) (pa_cons (pv 0) pa_nil)) (nomark _)) (pss_one ps_never) pss_nil)
      (pss_one (ps_ret (pe_ix (ix_listK (K := K) rfl) (pv 0) (pv 1) (fun _ _ => rfl))))), ?_⟩
    have hi := (List.getElem?_eq_some_iff.mp hz).1
    refine ⟨_, rfl, _, rfl, _, _, rfl, Or.inl hS, _, _, rfl, rfl, _, rfl, ?_⟩
    rw [List.length_map]
    refine bool_of_false (by omega) ?_
    exact ⟨_, rfl, _, rfl, _, _, _, _, rfl, rfl, hS, at_words hz, k⟩
theorem s_is_figures : FnScope ["text", "sign"] ["text"] d_is_figures.scope := ⟨rfl, rfl, rfl, by decide +kernel, rfl, by decide +kernel, by decide +kernel⟩
theorem c_is_figures (T : Txt w K mg) : Cal P w K mg base 1 "is_figures" spIsFig [] := by
  refine T.cal 14 18 (d := d_is_figures) (S := s_is_figures) (hb := fun _ _ _ _ _ _ us hl => match us, hl with | [_], _ => rfl) (len := fun vs H Q E h => ?_) (hbody := fun cdv A outer s H vs Q E hr h => ?_)
  · obtain ⟨z, rfl, hz, k⟩ := h
    rfl
  · obtain ⟨z, rfl, hz, k⟩ := h
    refine ⟨_, (pss_cons (ps_if (PW.pt (pw_or (pt_cmpR op_eq (pv 0) pe_str (nomark _)) (pw_or1 (pt_not (pt_val (pe_callB (id := "all") (cr_all rfl) (by rfl) (T.f 97) (by decide +kernel) (pa_cons (pe_lc (own := [("sign", 1)]) (g := (gName 1)) rfl s_is_figures.nd (pi_str (pv 0)) (blkOk_by (N := ["text", "sign"]) (sc := d_is_figures.scope) (own := [("sign", 1)]) (by decide +kernel)) (fun _ _ _ _ _ => (pg_name (i := 1) s_is_figures.nd rfl (Or.inl rfl))) (fun _ _ _ _ _ => pts_nil) (fun _ _ _ _ _ => (pe_cmpR op_in_sign (pv 1) (pe_gc rfl (T.str 115)) (by rfl)))) pa_nil))))))) (pss_one (ps_ret pe_bl)) pss_nil)
      (pss_one (ps_ret (pe_or (pe_cmpR op_eq (pv 0) pe_str (nomark _)) (pe_one (pe_cmpR op_ne (pe_ix ix_str (pv 0) pe_int (fun _ _ => rfl)) pe_str (nomark _))))))), ?_⟩
    refine ⟨_, rfl, rfl, _, rfl, ?_⟩
    unfold isFig at k
    refine ite2 (fun h => ?_) (fun h => ?_)
    · have h := of_decide_eq_true h
      have h : z = "" := by injection h
      refine iteT ?_
      have k := k H (Same.refl H)
      rw [h] at k
      exact k
    have hne : ¬ z.cps.toList = [] := fun e => h (decide_eq_true (congrArg V.str (str_nil.mpr e)))
    unfold tNot tB tCB tCons
    refine tlc_text (j := 1) (z := z) (f := fun c => decide (c ∈ figL)) ?_ (Nat.le_trans hz (by decide)) ?_ ?_ (fun D H1 hD s1 h1 => ?_)
    · show 1 < 2
      decide
    · exact fun Q q => ⟨_, rfl, q⟩
    · exact fun c σ2 H3 Q _ e q => ⟨_, e, c, _, rfl, rfl, q⟩
    refine ⟨D, _, rfl, SqL.of h1, _, rfl, ?_⟩
    rw [all_id]
    have k := k H1 s1
    cases e : z.cps.toList with
    | nil => exact absurd e hne
    | cons c r =>
      rw [e] at k
      have e0 : decide (V.str z = V.str "0") = decide (c :: r = [48]) := by
        refine decide_eq_decide.mpr ⟨fun q => ?_, fun q => ?_⟩
        · have q : z = "0" := by injection q
          rw [q] at e
          rw [← e]
          rfl
        · have q : z = "0" := TL.ext_tl (e.trans q)
          rw [q]
      have e1 : decide (V.str ⟨#[c]⟩ = V.str "0") = decide (c = 48) := by
        refine decide_eq_decide.mpr ⟨fun q => ?_, fun q => by rw [q]; rfl⟩
        have q : (⟨#[c]⟩ : Str) = "0" := by injection q
        have q : [c] = [48] := congrArg (fun x : Str => x.cps.toList) q
        injection q
      cases ea : (c :: r).all fun s => decide (s ∈ figL) with
      | false =>
        refine iteT ?_
        have k' : Q (.bl (((c :: r).all fun s => decide (s ∈ figL)) && (decide (c :: r = [48]) || !decide (c = 48)))) H1 := k
        rw [ea] at k'
        exact k'
      | true =>
        refine iteF ?_
        have k' : Q (.bl (((c :: r).all fun s => decide (s ∈ figL)) && (decide (c :: r = [48]) || !decide (c = 48)))) H1 := k
        rw [ea, Bool.true_and] at k'
        refine ⟨_, rfl, rfl, _, rfl, ?_⟩
        rw [e0]
        refine ite2 (fun h2 => ?_) (fun h2 => ?_)
        · rw [h2, Bool.true_or] at k'
          exact k'
        · rw [Bool.eq_false_iff.mpr h2, Bool.false_or, ← e1] at k'
          exact ⟨_, rfl, z, 0, c, rfl, rfl, len_sl (by omega), by rw [e]; exact atI_nat (j := 0) rfl, rfl, k'⟩
theorem s_unsigned : FnScope ["word"] ["word"] d_unsigned.scope := ⟨rfl, rfl, rfl, by decide +kernel, rfl, by decide +kernel, by decide +kernel⟩
theorem c_unsigned (T : Txt w K mg) : Cal P w K mg base 1 "unsigned" spUnsg [] := by
  refine T.cal 15 19 (d := d_unsigned) (S := s_unsigned) (hb := fun _ _ _ _ _ _ us hl => match us, hl with | [_], _ => rfl) (len := fun vs H Q E h => ?_) (hbody := fun cdv A outer s H vs Q E hr h => ?_)
  · obtain ⟨z, rfl, hz, k⟩ := h
    rfl
  · obtain ⟨z, rfl, hz, k⟩ := h
    refine ⟨_, (pss_cons (ps_if (pt_cmpR op_eq (pe_slice C8.sl_txt (pv 0) po_none (po_some pe_int)) pe_str (nomark _)) (pss_one (ps_ret (pe_tup (pa_cons (pe_slice C8.sl_txt (pv 0) (po_some pe_int) po_none) (pa_cons (pe_op op_sub pe_int pe_int) pa_nil))))) pss_nil)
      (pss_one (ps_ret (pe_tup (pa_cons (pv 0) (pa_cons pe_int pa_nil)))))), ?_⟩
    have hl : z.length ≤ sizeLine := Nat.le_trans hz (by decide)
    unfold unsg at k
    refine ⟨_, rfl, _, rfl, z, rfl, hl, rfl, _, rfl, ?_⟩
    refine ite2 (fun h => ?_) (fun h => ?_)
    · have h := of_decide_eq_true h
      have h : Txt.slice z none (some 1) = "-" := by injection h
      rw [if_pos h] at k
      exact ⟨_, rfl, _, rfl, z, rfl, hl, _, _, rfl, rfl, sz2, fun p hp => k p _ hp (same_new hp) upd_same⟩
    · have h : ¬ Txt.slice z none (some 1) = "-" := fun q => h (decide_eq_true (congrArg V.str q))
      rw [if_neg h] at k
      exact ⟨_, rfl, sz2, fun p hp => k p _ hp (same_new hp) upd_same⟩
end
end Fw
set_option Elab.async false
set_option linter.all false
set_option maxRecDepth 100000
set_option maxHeartbeats 4000000
namespace Fw
open PySem PySem.Spec PyProof.Rows L2
open C8 (Cal CalAt Met Mak pe_c pe_mk pe_mt pe_mt0 pe_gc InsC call_isC)

section
variable {P : Program} {w : World} {K : PySem.W.Frag} {mg : Str → Option Value} {base : Heap}

theorem drop_get {α : Type} {ws : List α} {i : Nat} {z : α} {r : List α} (h : ws.drop i = z :: r) : ws[i]? = some z ∧ ws.drop (i + 1) = r := by
  have hi : i < ws.length := by
    rcases Nat.lt_or_ge i ws.length with h1 | h1
    · exact h1
    · rw [List.drop_of_length_le h1] at h
      cases h
  rw [List.drop_eq_getElem_cons hi] at h
  injection h with h1 h2
  exact ⟨by rw [List.getElem?_eq_getElem hi, h1], h2⟩
theorem WsOk.at {ws : List Str} (h : WsOk ws) {i : Nat} {z : Str} (hz : ws[i]? = some z) : z.length ≤ 600 := h.2 z (List.mem_of_getElem? hz)
theorem unsg_sgn (z : Str) : (unsg z).2 = 1 ∨ (unsg z).2 = -1 := by
  unfold unsg
  split
  · exact .inr rfl
  · exact .inl rfl
theorem sgn_mul {s n : Int} (h : s = 1 ∨ s = -1) : CMul s n := .inl (by rcases h with rfl | rfl <;> decide)
def spRead (K : PySem.W.Frag) (f : List Str → Option (Int × Nat)) : Sp := fun vs H Q _ => ∃ (a : Addr) (ws : List Str) (i : Nat) (m : Int) (c : Nat), vs = [.ref a, .int i] ∧ SqL K H a (ws.map V.str) ∧ WsOk ws ∧ f (ws.drop i) = some (m, c) ∧ RetT H Q [.int m, .int ((i + c : Nat) : Int)]
theorem RetT.mono {H H1 : Hp} {Q : VK} {xs : List V} (k : RetT H Q xs) (e : Same H H1) : RetT H1 Q xs := fun p H' hp s1 h1 => k p H' (e.free hp) (e.trans s1) h1
theorem RetT.go {H : Hp} {Q : VK} {xs : List V} (k : RetT H Q xs) {p : Addr} (hp : H p = none) : Q (.ref p) (upd H p (.tup xs)) := k p _ hp (same_new hp) upd_same
theorem iteNS' {c A B : Prop} [Decidable c] (hc : ¬ c) (h : A) : if (!decide c) = true then A else B := by rw [decide_eq_false hc]; exact h
/-! figures -/
def partsZ (z : Str) : Option (Int × Nat) := if isFig (unsg z).1 = true ∧ ¬ ((unsg z).2 < 0 ∧ (unsg z).1 = "0") then (intText? (unsg z).1).map fun n => ((unsg z).2 * n, 1) else none
def partsL : List Str → Option (Int × Nat)
  | [] => none
  | z :: _ => partsZ z
def bots : List Str := ["2", "4", "8", "16", "32", "64"]
def shareOf (z : Str) : Int :=
  if (Txt.partition z "/").2.1 = "" ∨ isFig (Txt.partition z "/").1 = false ∨ ¬ (Txt.partition z "/").2.2 ∈ bots then 0
  else if ((intText? (Txt.partition z "/").1).getD 0) % 2 = 0 ∨ (intText? (Txt.partition z "/").1).getD 0 > (intText? (Txt.partition z "/").2.2).getD 0 then 0
  else (intText? (Txt.partition z "/").1).getD 0 * (64 / (intText? (Txt.partition z "/").2.2).getD 0)
theorem bots_num : ∀ b ∈ bots, (match intText? b with | some d => decide (2 ≤ d) && decide (d ≤ 64) | none => false) = true := by decide +kernel
theorem bots_len : ∀ b ∈ bots, b.length ≤ 2 := by decide +kernel
theorem par_len (S : List Nat) : ∀ (l acc a b : List Nat), TL.par S acc l = some (a, b) → a.length + b.length ≤ acc.length + l.length := by
  intro l
  induction l with
  | nil => intro acc a b h; cases h
  | cons c r ih =>
    intro acc a b h
    by_cases hp : TL.pre S (c :: r) = true
    · rw [TL.par_hit hp] at h
      cases h
      rw [List.length_drop]
      omega
    · rw [TL.par_miss (Bool.eq_false_iff.mpr hp)] at h
      have := ih _ _ _ h
      rw [List.length_append, List.length_singleton] at this
      rw [List.length_cons]
      omega
theorem part_len (x y : Str) (hy : TL.tl y ≠ []) : (Txt.partition x y).1.length ≤ x.length ∧ (Txt.partition x y).2.2.length ≤ x.length := by
  rw [TL.partition_par x y hy]
  cases e : TL.par (TL.tl y) [] (TL.tl x) with
  | none => exact ⟨Nat.le_refl _, Nat.zero_le _⟩
  | some q =>
    obtain ⟨a, b⟩ := q
    have := par_len _ _ _ _ _ e
    rw [List.length_nil, ← TL.len_tl] at this
    refine ⟨?_, ?_⟩
    · show (⟨a.toArray⟩ : Str).length ≤ _
      rw [TL.len_tl, TL.tl_mk]
      omega
    · show (⟨b.toArray⟩ : Str).length ≤ _
      rw [TL.len_tl, TL.tl_mk]
      omega
theorem inV_strs (z : Str) : ∀ l : List Str, inV (.str z) (l.map V.str) = decide (z ∈ l) := by
  intro l
  induction l with
  | nil => rfl
  | cons y l ih =>
    have e : inV (.str z) ((y :: l).map V.str) = ((y == z) || inV (.str z) (l.map V.str)) := rfl
    rw [e, ih]
    by_cases h : y = z
    · rw [h, beq_self_eq_true, Bool.true_or, decide_eq_true (List.mem_cons_self ..)]
    · rw [beq_eq_false_iff_ne.mpr h, Bool.false_or]
      exact decide_eq_decide.mpr ⟨fun q => List.mem_cons_of_mem _ q, fun q => (List.mem_cons.mp q).resolve_left fun w => h w.symm⟩
theorem flat_strs (l : List Str) : (l.map V.str).all flatV = true := by
  rw [List.all_map, List.all_eq_true]
  intro _ _
  rfl
def spShare : Sp := fun vs H Q _ => ∃ z : Str, vs = [.str z] ∧ z.length ≤ 600 ∧ ∀ H', Same H H' → Q (.int (shareOf z)) H'
/-- what is left of an inch, told by the next word -/
def nextShare (body : Str) (r : List Str) : Int := if body ≠ "0" then (match r with | [] => 0 | y :: _ => shareOf y) else 0
def inchesZ (z : Str) (r : List Str) : Option (Int × Nat) := if shareOf (unsg z).1 > 0 then some ((unsg z).2 * shareOf (unsg z).1, 1)
  else if isFig (unsg z).1 = true ∧ ¬ ((unsg z).2 < 0 ∧ (unsg z).1 = "0") then (intText? (unsg z).1).map fun n => ((unsg z).2 * (64 * n + nextShare (unsg z).1 r), 1 + (if nextShare (unsg z).1 r > 0 then 1 else 0))
  else none
def inchesL : List Str → Option (Int × Nat)
  | [] => none
  | z :: r => inchesZ z r
def doubL : List Nat := ("01" : Str).cps.toList
theorem doub_mem {c : Nat} : c ∈ doubL ↔ Bn.Is01 c := by
  have e : doubL = [48, 49] := rfl
  rw [e]
  simp only [List.mem_cons, List.not_mem_nil, or_false]
def halvesV (t : Str × Str × Str) : Int := 64 * ((Bn.binNum t.1.cps.toList : Nat) : Int) + ((Bn.binNum t.2.2.cps.toList : Nat) : Int)
def halvesZ (z : Str) : Option (Int × Nat) :=
  if (Txt.partition (unsg z).1 ".").2.1 ≠ "" ∧ (Txt.partition (unsg z).1 ".").2.2.length = 6 ∧ isFig (Txt.partition (unsg z).1 ".").1 = true ∧ ((Txt.partition (unsg z).1 ".").1 ++ (Txt.partition (unsg z).1 ".").2.2).cps.toList.all (fun c => decide (c ∈ doubL)) = true
    ∧ ¬ ((unsg z).2 < 0 ∧ halvesV (Txt.partition (unsg z).1 ".") = 0) then some ((unsg z).2 * halvesV (Txt.partition (unsg z).1 "."), 1)
  else none
def halvesL : List Str → Option (Int × Nat)
  | [] => none
  | z :: _ => halvesZ z
theorem s_from_parts : FnScope ["words", "at", "figures", "sign"] ["words", "at"] d_from_parts.scope := ⟨rfl, rfl, rfl, by decide +kernel, rfl, by decide +kernel, by decide +kernel⟩
theorem c_from_parts (T : Txt w K mg) : Cal P w K mg base 2 "from_parts" (spRead K partsL) [] := by
  refine T.cal 16 20 (d := d_from_parts) (S := s_from_parts) (hb := fun _ _ _ _ _ _ us hl => match us, hl with | [_, _], _ => rfl) (len := fun vs H Q E h => ?_) (hbody := fun cdv A outer s H vs Q E hr h => ?_)
  · obtain ⟨a, ws, i, m, c, rfl, hS, ho, hf, k⟩ := h
    rfl
  · obtain ⟨a, ws, i, m, c, rfl, hS, ho, hf, k⟩ := h
    refine ⟨_, (pss_cons (ps_asg (pe_c (c_unsigned T) hr (by decide) rfl (pa_cons (pe_c (c_word_at T) hr (by decide) rfl (pa_cons (pv 0) (pa_cons (pv 1) pa_nil))) pa_nil)) (pg_tup rfl (pgs_cons (pg_name (i := 2) s_from_parts.nd rfl (Or.inl rfl)) (pgs_cons (pg_name (i := 3) s_from_parts.nd rfl (Or.inl rfl)) pgs_nil))))
      (C8.pss_cut (ps_if (PW.pt (pw_or (pt_not (pt_val (pe_c (c_is_figures T) hr (by decide) rfl (pa_cons (pv 2) pa_nil)))) (pw_or1 (PW.pt (pw_and (pt_cmpR op_lt (pv 3) pe_int (nomark _)) (pw_and1 (pt_cmpR op_eq (pv 2) pe_str (nomark _)))))))) (pss_one ps_never) pss_nil)
      (pss_one (ps_ret (pe_tup (pa_cons (pe_op op_mul (pv 3) (pe_callTy (T := "int") call_int_str (by rfl) (T.f 102) (by decide +kernel) (pa_cons (pv 2) pa_nil))) (pa_cons (pe_op op_add (pv 1) pe_int) pa_nil))))))), ?_⟩
    cases hd : ws.drop i with
    | nil => rw [hd] at hf; cases hf
    | cons z r =>
      obtain ⟨hz, hr'⟩ := drop_get hd
      rw [hd] at hf
      replace hf : partsZ z = some (m, c) := hf
      unfold partsZ at hf
      have hl := ho.at hz
      have hl2 := unsg_len hl
      by_cases hc : isFig (unsg z).1 = true ∧ ¬ ((unsg z).2 < 0 ∧ (unsg z).1 = "0")
      case neg => rw [if_neg hc] at hf; cases hf
      rw [if_pos hc] at hf
      obtain ⟨n, hn⟩ := isFig_num hc.1 hl2
      rw [hn] at hf
      cases hf
      refine ⟨_, rfl, _, rfl, a, ws, i, z, rfl, hS, hz, z, rfl, hl, fun p H1 hp s1 h1 => ?_⟩
      refine ⟨p, _, rfl, SqT.of h1, rfl, _, _, rfl, _, _, rfl, rfl, ?_⟩
      refine ⟨fun σ' H' => σ' = [some (.ref a), some (.int i), some (.str (unsg z).1), some (.int (unsg z).2)] ∧ Same H H', ?_, ?_⟩
      · refine ⟨_, rfl, (unsg z).1, rfl, hl2, fun H2 s2 => ?_⟩
        refine ⟨_, rfl, ?_⟩
        rw [hc.1]
        refine iteF ?_
        refine ⟨_, rfl, _, _, rfl, rfl, _, rfl, ?_⟩
        refine ite2 (fun h => ?_) (fun h => ?_)
        · refine ⟨_, rfl, rfl, _, rfl, ?_⟩
          refine bool_of_false (fun q => hc.2 ⟨of_decide_eq_true h, by injection q⟩) ?_
          exact ⟨rfl, s1.trans s2⟩
        · exact ⟨rfl, s1.trans s2⟩
      · rintro _ H2 ⟨rfl, s2⟩
        refine ⟨_, rfl, _, rfl, _, n, rfl, hn, by omega, _, _, rfl, rfl, sgn_mul (unsg_sgn z), _, rfl, _, _, rfl, rfl, sz2, fun q hq => ?_⟩
        exact k q _ (s2.free hq) (s2.trans (same_new hq)) upd_same
theorem s_share_of : FnScope ["word", "top", "stroke", "bottom"] ["word"] d_share_of.scope := ⟨rfl, rfl, rfl, by decide +kernel, rfl, by decide +kernel, by decide +kernel⟩
theorem c_share_of (T : Txt w K mg) : Cal P w K mg base 2 "share_of" spShare [] := by
  refine T.cal 17 21 (d := d_share_of) (S := s_share_of) (hb := fun _ _ _ _ _ _ us hl => match us, hl with | [_], _ => rfl) (len := fun vs H Q E h => ?_) (hbody := fun cdv A outer s H vs Q E hr h => ?_)
  · obtain ⟨z, rfl, hz, k⟩ := h
    rfl
  · obtain ⟨z, rfl, hz, k⟩ := h
    refine ⟨_, (pss_cons (ps_asg (pe_partition (pv 0) pe_str) (pg_tup rfl (pgs_cons (pg_name (i := 1) s_share_of.nd rfl (Or.inl rfl)) (pgs_cons (pg_name (i := 2) s_share_of.nd rfl (Or.inl rfl)) (pgs_cons (pg_name (i := 3) s_share_of.nd rfl (Or.inl rfl)) pgs_nil)))))
      (pss_cons (ps_if (PW.pt (pw_or (pt_cmpR op_eq (pv 2) pe_str (nomark _)) (pw_or (pt_not (pt_val (pe_c (c_is_figures T) hr (by decide) rfl (pa_cons (pv 1) pa_nil)))) (pw_or1 (pt_cmpR (op_notIn_seqK (K := K) rfl) (pv 3) (pe_tup (pa_cons pe_str (pa_cons pe_str (pa_cons pe_str (pa_cons pe_str (pa_cons pe_str (pa_cons pe_str pa_nil))))))) (by rfl)))))) (pss_one (ps_ret pe_int)) pss_nil)
      (pss_cons (ps_if (PW.pt (pw_or (pt_cmpR op_eq (pe_op op_mod (pe_callTy (T := "int") call_int_str (by rfl) (T.f 102) (by decide +kernel) (pa_cons (pv 1) pa_nil)) pe_int) pe_int (nomark _)) (pw_or1 (pt_cmpR op_gt (pe_callTy (T := "int") call_int_str (by rfl) (T.f 102) (by decide +kernel) (pa_cons (pv 1) pa_nil)) (pe_callTy (T := "int") call_int_str (by rfl) (T.f 102) (by decide +kernel) (pa_cons (pv 3) pa_nil)) (nomark _))))) (pss_one (ps_ret pe_int)) pss_nil)
      (pss_one (ps_ret (pe_op op_mul (pe_callTy (T := "int") call_int_str (by rfl) (T.f 102) (by decide +kernel) (pa_cons (pv 1) pa_nil)) (pe_op op_fdiv (pe_gc rfl (T.int 112)) (pe_callTy (T := "int") call_int_str (by rfl) (T.f 102) (by decide +kernel) (pa_cons (pv 3) pa_nil))))))))), ?_⟩
    obtain ⟨p1, p2⟩ := part_len z "/" (by decide)
    unfold shareOf at k
    refine ⟨_, rfl, ⟨_, rfl⟩, z, "/", rfl, rfl, rfl, Nat.le_trans hz (by decide), fun p hp => ?_⟩
    refine ⟨p, _, rfl, SqT.of upd_same, rfl, _, _, rfl, _, _, rfl, _, _, rfl, rfl, ?_⟩
    have s0 : Same H (upd H p (.tup [.str (Txt.partition z "/").1, .str (Txt.partition z "/").2.1, .str (Txt.partition z "/").2.2])) := same_new hp
    generalize upd H p (.tup [.str (Txt.partition z "/").1, .str (Txt.partition z "/").2.1, .str (Txt.partition z "/").2.2]) = H0 at s0
    generalize (Txt.partition z "/").1 = t at *
    generalize (Txt.partition z "/").2.1 = st at *
    generalize (Txt.partition z "/").2.2 = b at *
    refine ⟨_, rfl, rfl, _, rfl, ?_⟩
    refine ite2 (fun h => ?_) (fun h => ?_)
    · have h := of_decide_eq_true h
      have h : st = "" := by injection h
      refine iteT ?_
      have k := k H0 s0
      rw [if_pos (Or.inl h)] at k
      exact k
    have hst : ¬ st = "" := fun q => h (decide_eq_true (congrArg V.str q))
    refine ⟨_, rfl, t, rfl, by omega, fun H1 s1 => ?_⟩
    refine ⟨_, rfl, ?_⟩
    cases hfig : isFig t with
    | false =>
      refine iteT ?_
      refine iteT ?_
      have k := k H1 (s0.trans s1)
      rw [if_pos (Or.inr (Or.inl hfig))] at k
      exact k
    | true =>
      refine iteF ?_
      refine ⟨_, rfl, by exact Nat.le_trans (by decide : 6 ≤ 6) (by decide), fun q hq => ?_⟩
      refine ⟨q, _, rfl, Or.inr (SqT.of upd_same), rfl, rfl, _, rfl, ?_⟩
      have e : inV (.str b) [V.str "2", V.str "4", V.str "8", V.str "16", V.str "32", V.str "64"] = decide (b ∈ bots) := inV_strs b bots
      rw [e]
      have s2 : Same H (upd H1 q (.tup [V.str "2", V.str "4", V.str "8", V.str "16", V.str "32", V.str "64"])) := (s0.trans s1).trans (same_new hq)
      have k := k _ s2
      by_cases hb : b ∈ bots
      case neg =>
        rw [decide_eq_false hb]
        refine iteT ?_
        rw [if_pos (Or.inr (Or.inr hb))] at k
        exact k
      case pos =>
        rw [decide_eq_true hb]
        refine iteF ?_
        rw [if_neg (by rintro (q | q | q); exact hst q; (rw [hfig] at q; cases q); exact q hb)] at k
        obtain ⟨n, hn⟩ := isFig_num hfig (by omega)
        have hbn := bots_num b hb
        cases hd : intText? b with
        | none => rw [hd] at hbn; cases hbn
        | some d =>
          rw [hd] at hbn
          obtain ⟨d1, d2⟩ := Bool.and_eq_true_iff.mp hbn
          have d1 := of_decide_eq_true d1
          have d2 := of_decide_eq_true d2
          rw [hn, hd] at k
          simp only [Option.getD_some] at k
          have hbl := bots_len b hb
          refine ⟨_, rfl, t, n, rfl, hn, by omega, _, _, rfl, rfl, (by decide : (0 : Int) < 2), rfl, _, rfl, ?_⟩
          refine ite2 (fun h2 => ?_) (fun h2 => ?_)
          · have h2 := of_decide_eq_true h2
            have h2 : (n : Int) % 2 = 0 := by injection h2
            refine iteT ?_
            rw [if_pos (Or.inl h2)] at k
            exact k
          have h2 : ¬ (n : Int) % 2 = 0 := fun q => h2 (decide_eq_true (congrArg V.int q))
          refine ⟨_, rfl, t, n, rfl, hn, by omega, _, rfl, b, d, rfl, hd, by omega, _, _, rfl, rfl, _, rfl, ?_⟩
          refine ite2 (fun h3 => ?_) (fun h3 => ?_)
          · rw [if_pos (Or.inr (of_decide_eq_true h3))] at k
            exact k
          have h3 : ¬ (n : Int) > d := fun q => h3 (decide_eq_true q)
          rw [if_neg (by rintro (q | q); exact h2 q; exact h3 q)] at k
          exact ⟨_, rfl, t, n, rfl, hn, by omega, _, rfl, b, d, rfl, hd, by omega, _, _, rfl, rfl, ⟨by omega, by omega⟩, _, _, rfl, rfl, .inl ⟨by omega, by omega⟩, k⟩
theorem s_from_inches : FnScope ["words", "at", "body", "sign", "share", "rest"] ["words", "at"] d_from_inches.scope := ⟨rfl, rfl, rfl, by decide +kernel, rfl, by decide +kernel, by decide +kernel⟩
theorem c_from_inches (T : Txt w K mg) : Cal P w K mg base 3 "from_inches" (spRead K inchesL) [] := by
  refine T.cal 18 22 (d := d_from_inches) (S := s_from_inches) (hb := fun _ _ _ _ _ _ us hl => match us, hl with | [_, _], _ => rfl) (len := fun vs H Q E h => ?_) (hbody := fun cdv A outer s H vs Q E hr h => ?_)
  · obtain ⟨a, ws, i, m, c, rfl, hS, ho, hf, k⟩ := h
    rfl
  · obtain ⟨a, ws, i, m, c, rfl, hS, ho, hf, k⟩ := h
    refine ⟨_, (pss_cons (ps_asg (pe_c (c_unsigned T) hr (by decide) rfl (pa_cons (pe_c (c_word_at T) hr (by decide) rfl (pa_cons (pv 0) (pa_cons (pv 1) pa_nil))) pa_nil)) (pg_tup rfl (pgs_cons (pg_name (i := 2) s_from_inches.nd rfl (Or.inl rfl)) (pgs_cons (pg_name (i := 3) s_from_inches.nd rfl (Or.inl rfl)) pgs_nil))))
      (pss_cons (ps_set (i := 4) s_from_inches.nd rfl (Or.inl rfl) (pe_c (c_share_of T) hr (by decide) rfl (pa_cons (pv 2) pa_nil)))
      (pss_cons (ps_if (pt_cmpR op_gt (pv 4) pe_int (nomark _)) (pss_one (ps_ret (pe_tup (pa_cons (pe_op op_mul (pv 3) (pv 4)) (pa_cons (pe_op op_add (pv 1) pe_int) pa_nil))))) pss_nil)
      (C8.pss_cut (ps_if (PW.pt (pw_or (pt_not (pt_val (pe_c (c_is_figures T) hr (by decide) rfl (pa_cons (pv 2) pa_nil)))) (pw_or1 (PW.pt (pw_and (pt_cmpR op_lt (pv 3) pe_int (nomark _)) (pw_and1 (pt_cmpR op_eq (pv 2) pe_str (nomark _)))))))) (pss_one ps_never) pss_nil)
      (pss_cons (ps_set (i := 5) s_from_inches.nd rfl (Or.inl rfl) pe_int)
      (C8.pss_cut (ps_if (PW.pt (pw_and (pt_cmpR op_ne (pv 2) pe_str (nomark _)) (pw_and1 (pt_cmpR op_lt (pe_op op_add (pv 1) pe_int) (pe_callB (id := "len") (call_len_seqK (K := K) rfl) (by rfl) (T.f 104) (by decide +kernel) (pa_cons (pv 0) pa_nil)) (nomark _))))) (pss_one (ps_set (i := 5) s_from_inches.nd rfl (Or.inl rfl) (pe_c (c_share_of T) hr (by decide) rfl (pa_cons (pe_ix (ix_listK (K := K) rfl) (pv 0) (pe_op op_add (pv 1) pe_int) (fun _ _ => rfl)) pa_nil)))) pss_nil)
      (pss_one (ps_ret (pe_tup (pa_cons (pe_op op_mul (pv 3) (pe_op op_add (pe_op op_mul (pe_gc rfl (T.int 112)) (pe_callTy (T := "int") call_int_str (by rfl) (T.f 102) (by decide +kernel) (pa_cons (pv 2) pa_nil))) (pv 5))) (pa_cons (pe_op op_add (pe_op op_add (pv 1) pe_int) (pe_callTy (T := "int") call_int1 (by rfl) (T.f 102) (by decide +kernel) (pa_cons (pe_cmpR op_gt (pv 5) pe_int (nomark _)) pa_nil))) pa_nil))))))))))), ?_⟩
    cases hd : ws.drop i with
    | nil => rw [hd] at hf; cases hf
    | cons z r =>
      obtain ⟨hz, hr'⟩ := drop_get hd
      rw [hd] at hf
      replace hf : inchesZ z r = some (m, c) := hf
      unfold inchesZ at hf
      have hl := ho.at hz
      have hl2 := unsg_len hl
      have hu := unsg_sgn z
      refine ⟨_, rfl, _, rfl, a, ws, i, z, rfl, hS, hz, z, rfl, hl, fun p H1 hp s1 h1 => ?_⟩
      refine ⟨p, _, rfl, SqT.of h1, rfl, _, _, rfl, _, _, rfl, rfl, ?_⟩
      refine ⟨_, rfl, _, rfl, hl2, fun H2 s2 => ?_⟩
      replace s2 := s1.trans s2
      generalize (unsg z).1 = bd at *
      generalize (unsg z).2 = sg at *
      refine ⟨_, rfl, _, _, rfl, rfl, _, rfl, ?_⟩
      refine ite2 (fun h => ?_) (fun h => ?_)
      · have h := of_decide_eq_true h
        rw [if_pos h] at hf
        cases hf
        refine ⟨_, rfl, _, rfl, _, _, rfl, rfl, sgn_mul hu, _, rfl, _, _, rfl, rfl, sz2, fun q hq => ?_⟩
        exact k q _ (s2.free hq) (s2.trans (same_new hq)) upd_same
      have h : ¬ shareOf bd > 0 := fun q => h (decide_eq_true q)
      rw [if_neg h] at hf
      by_cases hc : isFig bd = true ∧ ¬ (sg < 0 ∧ bd = "0")
      case neg => rw [if_neg hc] at hf; cases hf
      rw [if_pos hc] at hf
      obtain ⟨n, hn⟩ := isFig_num hc.1 hl2
      rw [hn] at hf
      cases hf
      refine ⟨fun σ' H' => σ' = [some (.ref a), some (.int i), some (.str bd), some (.int sg), some (.int (shareOf bd)), none] ∧ Same H H', ?_, ?_⟩
      · refine ⟨_, rfl, bd, rfl, hl2, fun H3 s3 => ?_⟩
        refine ⟨_, rfl, ?_⟩
        rw [hc.1]
        refine iteF ?_
        refine ⟨_, rfl, _, _, rfl, rfl, _, rfl, ?_⟩
        refine ite2 (fun h => ?_) (fun h => ?_)
        · refine ⟨_, rfl, rfl, _, rfl, ?_⟩
          refine bool_of_false (fun q => hc.2 ⟨of_decide_eq_true h, by injection q⟩) ?_
          exact ⟨rfl, s2.trans s3⟩
        · exact ⟨rfl, s2.trans s3⟩
      rintro _ H3 ⟨rfl, s3⟩
      refine ⟨fun σ' H' => σ' = [some (.ref a), some (.int i), some (.str bd), some (.int sg), some (.int (shareOf bd)), some (.int (nextShare bd r))] ∧ Same H H', ?_, ?_⟩
      · refine ⟨_, rfl, rfl, _, rfl, ?_⟩
        unfold nextShare
        by_cases hb : bd = "0"
        · rw [hb, if_neg (fun q => q rfl)]
          exact ⟨rfl, s3⟩
        · rw [if_pos hb]
          refine iteNS' (fun q => hb (by injection q)) ?_
          refine ⟨_, rfl, _, _, rfl, rfl, _, rfl, _, _, rfl, Or.inl (Same.seq s3 hS), _, _, rfl, rfl, _, rfl, ?_⟩
          rw [List.length_map]
          cases r with
          | nil =>
            refine bool_of_false ?_ ?_
            · have := List.drop_eq_nil_iff.mp hr'
              omega
            · exact ⟨rfl, s3⟩
          | cons y r2 =>
            obtain ⟨hy, _⟩ := drop_get hr'
            have hi := (List.getElem?_eq_some_iff.mp hy).1
            refine bool_of_true (by omega) ?_
            refine ⟨_, rfl, _, rfl, _, _, rfl, rfl, _, _, _, _, rfl, rfl, Same.seq s3 hS, at_words (i := i + 1) hy, y, rfl, ho.at hy, fun H4 s4 => ?_⟩
            exact ⟨rfl, s3.trans s4⟩
      · rintro _ H4 ⟨rfl, s4⟩
        have hk : Q = Q := rfl
        generalize nextShare bd r = x at *
        refine ⟨_, rfl, _, rfl, _, n, rfl, hn, by omega, _, _, rfl, rfl, .inl ⟨by decide, by decide⟩, _, rfl, _, _, rfl, rfl, _, _, rfl, rfl, sgn_mul hu, ?_⟩
        refine ⟨_, rfl, _, _, rfl, rfl, _, rfl, _, _, rfl, rfl, Or.inr ⟨_, rfl, _, _, rfl, rfl, sz2, fun q hq => ?_⟩⟩
        refine k q _ (s4.free hq) (s4.trans (same_new hq)) ?_
        rw [upd_same]
        by_cases hx : x > 0
        · rw [if_pos hx]
          have e : decide (0 < x) = true := decide_eq_true hx
          simp only [e, if_true]
          congr 3
        · rw [if_neg hx]
          have e : decide (0 < x) = false := decide_eq_false hx
          simp only [e]
          congr 3
end
end Fw
set_option Elab.async false
set_option linter.all false
set_option maxRecDepth 100000
set_option maxHeartbeats 4000000
namespace Fw
open PySem PySem.Spec PyProof.Rows L2
open C8 (Cal CalAt Met Mak pe_c pe_mk pe_mt pe_mt0 pe_gc InsC call_isC)

section
variable {P : Program} {w : World} {K : PySem.W.Frag} {mg : Str → Option Value} {base : Heap}

/-! a reading's head opened -/
theorem r_seq {t u : TS} {D : Ends} {σ : L2.St} {H : Hp} (h : t { D with nx := u D } σ H) : tSeq t u D σ H := h
theorem r_asg {te : TE} {g : TG} {D : Ends} {σ : L2.St} {H : Hp} (h : te σ H fun x H1 => g x σ H1 D.nx) : tAsg te g D σ H := h
theorem r_gn {i : Nat} {v : V} {σ : L2.St} {H : Hp} {Q : L2.St → Hp → Prop} (h : Q (σ.set i (some v)) H) : gName i v σ H Q := h
theorem r_ret {te : TE} {D : Ends} {σ : L2.St} {H : Hp} (h : te σ H D.rt) : tRet te D σ H := h
theorem r_cb {r : List V → Hp → VK → Prop} {t : TA} {σ : L2.St} {H : Hp} {Q : VK} (h : t σ H fun vs H1 => r vs H1 Q) : tCB r t σ H Q := h
theorem r_cons {ta : TE} {tr : TA} {σ : L2.St} {H : Hp} {Q : List V → Hp → Prop} (h : ta σ H fun x H1 => tr σ H1 fun xs H2 => Q (x :: xs) H2) : tCons ta tr σ H Q := h
/-! == of data with a Lean type -/
open PySem.W in
def rEqT (α : Type) [DecidableEq α] [Datum α] (K : PySem.W.Frag) : R2 := fun x y H Q => ∃ d e : α, Dp K H x (Datum.toD d) ∧ Dp K H y (Datum.toD e) ∧ Q (.bl (decide (d = e))) H
open PySem.W in
def rNeT (α : Type) [DecidableEq α] [Datum α] (K : PySem.W.Frag) : R2 := fun x y H Q => ∃ d e : α, Dp K H x (Datum.toD d) ∧ Dp K H y (Datum.toD e) ∧ Q (.bl (!decide (d = e))) H
open PySem.W in
theorem op_eqT {α : Type} [DecidableEq α] [Datum α] {X : Cx} (hu : X.A.units + 64 < cLine) (hd : Datum.depth α ≤ 64) : OpR X (compareOp .Eq) (rEqT α X.K) := by
  intro pins s σ H x y v u Q I rx ry h
  obtain ⟨d, e, h1, h2, q⟩ := h
  exact eq_datum (x := d) (y := e) (Dp.reads I _ x v h1 rx) (Dp.reads I _ y u h2 ry) (Nat.lt_of_le_of_lt (Nat.add_le_add_left hd _) hu) ⟨.bl _, H, I, rfl, q⟩
open PySem.W in
theorem op_neT {α : Type} [DecidableEq α] [Datum α] {X : Cx} (hu : X.A.units + 64 < cLine) (hd : Datum.depth α ≤ 64) : OpR X (compareOp .NotEq) (rNeT α X.K) := by
  intro pins s σ H x y v u Q I rx ry h
  obtain ⟨d, e, h1, h2, q⟩ := h
  refine ne_datum (x := d) (y := e) (Dp.reads I _ x v h1 rx) (Dp.reads I _ y u h2 ry) (Nat.lt_of_le_of_lt (Nat.add_le_add_left hd _) hu) ⟨.bl _, H, I, rfl, ?_⟩
  have e2 : decide (d ≠ e) = !decide (d = e) := decide_not
  rw [e2]
  exact q
theorem dpAll_strs {H : Hp} : ∀ l : List Str, DpAll K H (l.map V.str) (l.map PyData.str)
  | [] => .nil
  | z :: l => .cons (.str z) (dpAll_strs l)
theorem dpAll_ints {H : Hp} : ∀ l : List Int, DpAll K H (l.map V.int) (l.map PyData.int)
  | [] => .nil
  | z :: l => .cons (.int z) (dpAll_ints l)
theorem dp_strs {H : Hp} {a : Addr} {l : List Str} (h : SqL K H a (l.map V.str)) : Dp K H (.ref a) (PySem.W.Datum.toD l) := .lst h (dpAll_strs l)
theorem dp_ints {H : Hp} {a : Addr} {l : List Int} (h : SqL K H a (l.map V.int)) : Dp K H (.ref a) (PySem.W.Datum.toD l) := .lst h (dpAll_ints l)
theorem dp_tstrs {H : Hp} {a : Addr} {l : List Str} (h : SqT K H a (l.map V.str)) : Dp K H (.ref a) (PySem.W.Datum.toD (PySem.W.Tup.mk l)) := .tup h (dpAll_strs l)
theorem dp_tints {H : Hp} {a : Addr} {l : List Int} (h : SqT K H a (l.map V.int)) : Dp K H (.ref a) (PySem.W.Datum.toD (PySem.W.Tup.mk l)) := .tup h (dpAll_ints l)
/-! comprehensions that keep some numbers -/
theorem tlc_rangeF {f : Nat → Bool} {j lo n : Nat} {ta : TA} {tt : TT} {σ : L2.St} {H : Hp} {Q : VK} (hj : j < σ.length) (hn : lo ≤ n) (hb : n ≤ 100000) (hta : ∀ Q : List V → Hp → Prop, Q [.int lo, .int n] H → ta σ H Q)
    (htt : ∀ (k : Nat) (σ2 : L2.St) H3 (Q : Bool → Hp → Prop), lo ≤ k → k < n → (∀ i, i ≠ j → σ2[i]? = (σ.set j none)[i]?) → σ2[j]? = some (some (.int k)) → Q (f k) H3 → tt σ2 H3 Q)
    (hd : ∀ D H', H D = none → Same H H' → H' D = some (.lst (((List.range' lo (n - lo)).filter f).map fun (k : Nat) => V.int (k : Int))) → Q (.ref D) H') : tLc (iRng2 ta) (gName j) tt (tVar j) [j] σ H Q := by
  refine hta _ ⟨lo, n, rfl, ⟨by omega, by omega, by omega, by omega⟩, fun D hD => ?_⟩
  have e0 : ((n : Int) - (lo : Int)).toNat = n - lo := by omega
  rw [e0]
  refine lc_range (fun i H' => Same H H' ∧ H' D = some (.lst (((List.range' lo i).filter f).map fun (k : Nat) => V.int (k : Int)))) ⟨same_new hD, upd_same⟩ ?_ (fun H' p => hd D H' hD p.1 p.2)
  rintro i H2 hi ⟨s2, h2⟩
  refine ⟨by show (((σ.set j none).set j _).set j none) = σ.set j none; simp, ?_⟩
  have hg : ((wipe σ [j]).set j (some (V.int ((lo : Int) + (i : Int)))))[j]? = some (some (V.int ((lo + i : Nat) : Int))) := by
    show ((σ.set j none).set j _)[j]? = _
    rw [List.getElem?_set_self (by rw [List.length_set]; exact hj)]
    rfl
  have hr : List.range' lo (i + 1) = List.range' lo i ++ [lo + i] := by rw [List.range'_concat, Nat.one_mul]
  refine htt (lo + i) _ _ _ (by omega) (by omega) (fun i hi => ?_) hg ?_
  · show ((σ.set j none).set j _)[i]? = _
    rw [List.getElem?_set_ne hi.symm]
  cases hf : f (lo + i) with
  | true =>
    refine iteT ?_
    refine ⟨_, hg, _, h2, ?_, same_mut s2 hD, ?_⟩
    · rw [List.length_map]
      have := List.length_filter_le f (List.range' lo i)
      rw [List.length_range'] at this
      exact Nat.lt_of_le_of_lt (by omega : _ ≤ 100000) (by decide)
    · rw [upd_same, hr, List.filter_append, List.map_append]
      simp [hf]
  | false =>
    refine iteF ?_
    refine ⟨s2, ?_⟩
    rw [h2, hr, List.filter_append]
    simp [hf]
theorem tlc_listF {f : Nat → Bool} {ks : List Nat} {j : Nat} {tl : TE} {tt : TT} {σ : L2.St} {H : Hp} {Q : VK} (hj : j < σ.length) (hb : ks.length ≤ 100000) (htl : ∀ Q : VK, (∀ a, SqL K H a (ks.map fun (k : Nat) => V.int (k : Int)) → Q (.ref a) H) → tl σ H Q)
    (htt : ∀ (k : Nat) (σ2 : L2.St) H3 (Q : Bool → Hp → Prop), k ∈ ks → (∀ i, i ≠ j → σ2[i]? = (σ.set j none)[i]?) → σ2[j]? = some (some (.int k)) → Q (f k) H3 → tt σ2 H3 Q)
    (hd : ∀ D H', H D = none → Same H H' → H' D = some (.lst ((ks.filter f).map fun (k : Nat) => V.int (k : Int))) → Q (.ref D) H') : tLc (iList K tl) (gName j) tt (tVar j) [j] σ H Q := by
  refine htl _ fun a hS => ⟨a, rfl, ⟨_, hS⟩, fun D hD => ?_⟩
  refine lc_list (K := K) (xs := ks.map fun (k : Nat) => V.int (k : Int)) (fun i H' => Same H H' ∧ H' D = some (.lst (((ks.take i).filter f).map fun (k : Nat) => V.int (k : Int)))) ⟨same_new hD, upd_same⟩ (fun i H' _ p => Same.seq p.1 hS) ?_ ?_
  · rintro i x H2 hx ⟨s2, h2⟩
    rw [List.getElem?_map] at hx
    cases hk : ks[i]? with
    | none => rw [hk] at hx; cases hx
    | some k =>
      rw [hk] at hx
      cases hx
      refine ⟨by show (((σ.set j none).set j _).set j none) = σ.set j none; simp, ?_⟩
      have hg : ((wipe σ [j]).set j (some (V.int (k : Int))))[j]? = some (some (V.int (k : Int))) := by
        show ((σ.set j none).set j _)[j]? = _
        rw [List.getElem?_set_self (by rw [List.length_set]; exact hj)]
      refine htt k _ _ _ (List.mem_of_getElem? hk) (fun i hi => ?_) hg ?_
      · show ((σ.set j none).set j _)[i]? = _
        rw [List.getElem?_set_ne hi.symm]
      cases hf : f k with
      | true =>
        refine iteT ?_
        refine ⟨_, hg, _, h2, ?_, same_mut s2 hD, ?_⟩
        · rw [List.length_map]
          have := List.length_filter_le f (ks.take i)
          rw [List.length_take] at this
          exact Nat.lt_of_le_of_lt (by omega : _ ≤ 100000) (by decide)
        · rw [upd_same, List.take_add_one, hk, List.filter_append, List.map_append]
          simp [hf]
      | false =>
        refine iteF ?_
        refine ⟨s2, ?_⟩
        rw [h2, List.take_add_one, hk, List.filter_append]
        simp [hf]
  · rintro H2 ⟨s2, h2⟩
    rw [List.length_map, List.take_length] at h2
    exact hd D H2 hD s2 h2
/-! shares of an inch -/
def shAt (k : Nat) : Str × Str := Fw.shares.getD k ("", "")
def ks1 (lesser : Nat) (a : Str) : List Nat := (List.range' lesser (6 - lesser)).filter fun k => decide ((shAt k).1 = a)
def ks2 (lesser : Nat) (a nm : Str) : List Nat := (ks1 lesser a).filter fun k => decide ((shAt k).2 = nm)
def hlf : Nat → Int
  | 0 => 32
  | n + 1 => hlf n / 2
def sharesL : Nat → Nat → List Str → Option (Int × Nat)
  | n + 1, lesser, a :: nm :: r => match ks2 lesser a nm with
    | [] => none
    | k :: _ => if k + 1 < 6 ∧ r.take 1 = (["and"] : List Str) then (sharesL n (k + 1) (r.drop 1)).map fun q => (hlf k + q.1, 3 + q.2) else some (hlf k, 2)
  | _, _, _ => none
def spShares (K : PySem.W.Frag) (n : Nat) : Sp := fun vs H Q _ => ∃ (a : Addr) (ws : List Str) (i l : Nat) (m : Int) (c : Nat), vs = [.ref a, .int i, .int l] ∧ SqL K H a (ws.map V.str) ∧ WsOk ws ∧ l ≤ 6 ∧ sharesL n l (ws.drop i) = some (m, c) ∧ RetT H Q [.int m, .int ((i + c : Nat) : Int)]
theorem ks1_mem {l k : Nat} {a : Str} (h : k ∈ ks1 l a) : l ≤ k ∧ k < 6 := by
  have := List.mem_range'.mp (List.mem_filter.mp h).1
  omega
theorem cut_mid (ws : List Str) (i j : Nat) : cutV (ws.map V.str) (some (i : Int)) (some ((i + j : Nat) : Int)) = ((ws.drop i).take j).map V.str := by
  unfold cutV
  rw [HT.sIx_nat, HT.sIx_nat, List.length_map, ← List.map_drop, ← List.map_take]
  congr 1
  rcases Nat.lt_or_ge i ws.length with h | h
  · rw [Nat.min_eq_left (Nat.le_of_lt h)]
    rcases Nat.lt_or_ge (i + j) ws.length with h2 | h2
    · rw [Nat.min_eq_left (Nat.le_of_lt h2)]
      congr 1
      omega
    · rw [Nat.min_eq_right h2, List.take_of_length_le (by rw [List.length_drop]; omega), List.take_of_length_le (by rw [List.length_drop]; omega)]
  · rw [Nat.min_eq_right h, List.drop_of_length_le (Nat.le_refl _), List.drop_of_length_le h]
    simp
theorem dp_nats {H : Hp} {a : Addr} {l : List Nat} (h : SqL K H a (l.map fun (k : Nat) => V.int (k : Int))) : Dp K H (.ref a) (PySem.W.Datum.toD (l.map fun (k : Nat) => (k : Int))) := dp_ints (by rw [List.map_map]; exact h)
theorem Txt.sh (T : Txt w K mg) : ∃ as : List Addr, as.length = 6 ∧ (∀ H, SqT K H (He.ga K "SHARES") (as.map V.ref)) ∧ ∀ H k, k < 6 → ∃ b, as[k]? = some b ∧ SqT K H b [.str (shAt k).1, .str (shAt k).2] := by
  obtain ⟨as, h1, h2⟩ := T.shares
  have e6 : as.length = 6 := Paired.len (h2 fun _ => none)
  refine ⟨as, e6, h1, fun H k hk => ?_⟩
  have hk2 : k < as.length := by omega
  have hk3 : k < Fw.shares.length := hk
  refine ⟨as[k], List.getElem?_eq_getElem hk2, ?_⟩
  have e : shAt k = Fw.shares[k] := by
    unfold shAt
    rw [List.getD_eq_getElem?_getD, List.getElem?_eq_getElem hk3]
    rfl
  rw [e]
  exact Paired.at (G := fun a (p : Str × Str) => SqT K H a [.str p.1, .str p.2]) (h2 H) (List.getElem?_eq_getElem hk2) (List.getElem?_eq_getElem hk3)
theorem dstr (a b : Str) : decide (V.str a = V.str b) = decide (a = b) := decide_eq_decide.mpr ⟨fun h => by injection h, fun h => by rw [h]⟩
theorem at_refs {as : List Addr} {k : Nat} {b : Addr} (h : as[k]? = some b) : atI (as.map V.ref) (k : Int) = some (.ref b) := atI_nat (by rw [List.getElem?_map, h]; rfl)
theorem at_nats {ks : List Nat} {k n : Nat} (h : ks[k]? = some n) : atI (ks.map fun (k : Nat) => V.int (k : Int)) (k : Int) = some (.int (n : Int)) := atI_nat (by rw [List.getElem?_map, h]; rfl)
theorem hlf_eq : (64 : Int) / 2 = hlf 0 := rfl
theorem shares_0 (l : Nat) (ws : List Str) : sharesL 0 l ws = none := by unfold sharesL; rfl
theorem s_shares_from : FnScope ["words", "at", "lesser", "article", "some", "name", "found", "parts", "turn", "rest", "behind", "k"] ["words", "at", "lesser"] d_shares_from.scope := ⟨rfl, rfl, rfl, by decide +kernel, rfl, by decide +kernel, by decide +kernel⟩
theorem c_shares_step (T : Txt w K mg) (n : Nat) (ih : Cal P w K mg base (n + 2) "shares_from" (spShares K n) []) : Cal P w K mg base (n + 3) "shares_from" (spShares K (n + 1)) [] := by
  refine T.cal 20 24 (d := d_shares_from) (S := s_shares_from) (hb := fun _ _ _ _ _ _ us hl => match us, hl with | [_, _, _], _ => rfl) (len := fun vs H Q E h => ?_) (hbody := fun cdv A outer s H vs Q E hr h => ?_)
  · obtain ⟨a, ws, i, l, m, c, rfl, hS, ho, hl6, hf, k⟩ := h
    rfl
  · obtain ⟨a, ws, i, l, m, c, rfl, hS, ho, hl6, hf, k⟩ := h
    obtain ⟨as, as6, hSh, hQ⟩ := T.sh
    refine ⟨_, (pss_cons (ps_set (i := 3) s_shares_from.nd rfl (Or.inr rfl) (pe_c (c_word_at T) hr (by omega) rfl (pa_cons (pv 0) (pa_cons (pv 1) pa_nil))))
      (pss_cons (ps_setLc (i := 4) (own := [("k", 11)]) (g := (gName 11)) rfl s_shares_from.nd rfl rfl (sw_true rfl rfl rfl (by decide +kernel)) (pi_range2 (by rfl) (T.f 108) (pa_cons (pv 2) (pa_cons (pe_callB (id := "len") (call_len_seqK (K := K) rfl) (by rfl) (T.f 104) (by decide +kernel) (pa_cons (pe_gc rfl (T.gr 2)) pa_nil)) pa_nil))) (blkOk_by (N := ["words", "at", "lesser", "article", "some", "name", "found", "parts", "turn", "rest", "behind", "k"]) (sc := d_shares_from.scope) (own := [("k", 11)]) (by decide +kernel)) (fun _ _ _ _ _ => (pg_name (i := 11) s_shares_from.nd rfl (Or.inl rfl))) (fun _ _ _ _ _ => pts_one (pt_cmpR op_eq (pe_ix (ix_tupK (K := K) rfl) (pe_ix (ix_tupK (K := K) rfl) (pe_gc rfl (T.gr 2)) (pv 11) (fun _ _ => rfl)) pe_int (fun _ _ => rfl)) (pv 3) (nomark _))) (fun _ _ _ _ _ => (pv 11)))
      (pss_cons (ps_if (pt_cmpR (op_eqT (α := List Int) hr.units (by decide)) (pv 4) (pe_lst pa_nil) (nomark _)) (pss_one ps_never) pss_nil)
      (pss_cons (ps_set (i := 5) s_shares_from.nd rfl (Or.inr rfl) (pe_c (c_word_at T) hr (by omega) rfl (pa_cons (pv 0) (pa_cons (pe_op op_add (pv 1) pe_int) pa_nil))))
      (pss_cons (ps_setLc (i := 6) (own := [("k", 11)]) (g := (gName 11)) rfl s_shares_from.nd rfl rfl (sw_true rfl rfl rfl (by decide +kernel)) (pi_list (pv 4)) (blkOk_by (N := ["words", "at", "lesser", "article", "some", "name", "found", "parts", "turn", "rest", "behind", "k"]) (sc := d_shares_from.scope) (own := [("k", 11)]) (by decide +kernel)) (fun _ _ _ _ _ => (pg_name (i := 11) s_shares_from.nd rfl (Or.inl rfl))) (fun _ _ _ _ _ => pts_one (pt_cmpR op_eq (pe_ix (ix_tupK (K := K) rfl) (pe_ix (ix_tupK (K := K) rfl) (pe_gc rfl (T.gr 2)) (pv 11) (fun _ _ => rfl)) pe_int (fun _ _ => rfl)) (pv 5) (nomark _))) (fun _ _ _ _ _ => (pv 11)))
      (pss_cons (ps_if (pt_cmpR (op_eqT (α := List Int) hr.units (by decide)) (pv 6) (pe_lst pa_nil) (nomark _)) (pss_one ps_never) pss_nil)
      (pss_cons (ps_set (i := 7) s_shares_from.nd rfl (Or.inl rfl) (pe_op op_fdiv (pe_gc rfl (T.int 112)) pe_int))
      (pss_cons (ps_for PassesOwn.never rfl (pi_range1 (by rfl) (T.f 108) (pa_cons (pe_ix (ix_listK (K := K) rfl) (pv 6) pe_int (fun _ _ => rfl)) pa_nil)) (pg_name (i := 8) s_shares_from.nd rfl (Or.inl rfl))
      (pss_one (ps_aug (i := 7) s_shares_from.nd rfl (Or.inl rfl) pe_int ip_fdiv)))
      (C8.pss_cut (ps_if (PW.pt (pw_and (pt_cmpR op_lt (pe_op op_add (pe_ix (ix_listK (K := K) rfl) (pv 6) pe_int (fun _ _ => rfl)) pe_int) (pe_callB (id := "len") (call_len_seqK (K := K) rfl) (by rfl) (T.f 104) (by decide +kernel) (pa_cons (pe_gc rfl (T.gr 2)) pa_nil)) (nomark _)) (pw_and1 (pt_cmpR (op_eqT (α := List Str) hr.units (by decide)) (pe_slice (sl_listK (K := K) rfl) (pv 0) (po_some (pe_op op_add (pv 1) pe_int)) (po_some (pe_op op_add (pv 1) pe_int))) (pe_lst (pa_cons pe_str pa_nil)) (nomark _))))) (pss_cons (ps_asg (pe_c ih hr (by omega) rfl (pa_cons (pv 0) (pa_cons (pe_op op_add (pv 1) pe_int) (pa_cons (pe_op op_add (pe_ix (ix_listK (K := K) rfl) (pv 6) pe_int (fun _ _ => rfl)) pe_int) pa_nil)))) (pg_tup rfl (pgs_cons (pg_name (i := 9) s_shares_from.nd rfl (Or.inl rfl)) (pgs_cons (pg_name (i := 10) s_shares_from.nd rfl (Or.inl rfl)) pgs_nil))))
        (pss_one (ps_ret (pe_tup (pa_cons (pe_op op_add (pv 7) (pv 9)) (pa_cons (pv 10) pa_nil)))))) pss_nil)
      (pss_one (ps_ret (pe_tup (pa_cons (pv 7) (pa_cons (pe_op op_add (pv 1) pe_int) pa_nil)))))))))))))), ?_⟩
    match hd : ws.drop i, hf with
    | z :: nm :: r, hf =>
      obtain ⟨hz, hd1⟩ := drop_get hd
      obtain ⟨hnm, hd2⟩ := drop_get hd1
      have hi1 := (List.getElem?_eq_some_iff.mp hnm).1
      cases hk : ks2 l z nm with
      | nil =>
        unfold sharesL at hf
        rw [hk] at hf
        cases hf
      | cons k0 kr =>
        replace hf : (if k0 + 1 < 6 ∧ r.take 1 = (["and"] : List Str) then (sharesL n (k0 + 1) (r.drop 1)).map fun q => (hlf k0 + q.1, 3 + q.2) else some (hlf k0, 2)) = some (m, c) := by
          rw [← hf]
          conv => rhs; unfold sharesL
          rw [hk]
        have hk0 : k0 ∈ ks2 l z nm := by rw [hk]; exact List.mem_cons_self ..
        have hk1 : k0 ∈ ks1 l z := (List.mem_filter.mp hk0).1
        obtain ⟨k2, k3⟩ := ks1_mem hk1
        have asl : (as.map V.ref).length = 6 := by rw [List.length_map, as6]
        refine ⟨_, rfl, _, rfl, a, ws, i, z, rfl, hS, hz, ?_⟩
        with_reducible refine r_gn ?_
        with_reducible refine r_seq ?_
        refine r_asg (tlc_rangeF (j := 11) (lo := l) (n := (as.map V.ref).length) (f := fun k => decide ((shAt k).1 = z)) ?_ (by omega) (by omega) ?_ ?_ fun D H1 hD s1 h1 => ?_)
        · show 11 < 12
          decide
        · exact fun Q q => ⟨_, rfl, _, _, rfl, Or.inr (hSh H), q⟩
        · intro k σ2 H3 Q q1 q2 q3 q4 q
          obtain ⟨b, hb, hbs⟩ := hQ H3 k (by omega)
          refine ⟨_, q4, _, _, _, _, rfl, rfl, hSh H3, at_refs hb, _, _, _, _, rfl, rfl, hbs, atI_nat (j := 0) rfl, _, (q3 3 (by decide)).trans rfl, rfl, _, rfl, ?_⟩
          rw [dstr]
          exact q
        rw [asl] at h1
        refine ⟨_, rfl, by exact Nat.zero_le _, fun q hq => ?_⟩
        have s2 := s1.trans (same_new (o := .lst []) hq)
        refine ⟨_, [], dp_nats (SqL.of ((same_new hq) _ _ h1)), dp_ints (SqL.of upd_same), _, rfl, ?_⟩
        refine bool_of_false (fun e => ?_) ?_
        · have e2 : ks1 l z = [] := by
            cases hh : ks1 l z with
            | nil => rfl
            | cons x y =>
              unfold ks1 at hh
              rw [hh] at e
              cases e
          rw [e2] at hk1
          cases hk1
        have h1 := (same_new (o := .lst []) hq) _ _ h1
        generalize upd H1 q (.lst []) = H2 at *
        refine ⟨_, rfl, _, rfl, _, _, rfl, rfl, a, ws, i + 1, nm, rfl, Same.seq s2 hS, hnm, ?_⟩
        with_reducible refine r_gn ?_
        with_reducible refine r_seq ?_
        refine r_asg (tlc_listF (K := K) (j := 11) (ks := ks1 l z) (f := fun k => decide ((shAt k).2 = nm)) ?_ ?_ ?_ ?_ fun D2 H3 hD2 s3 h3 => ?_)
        · show 11 < 12
          decide
        · unfold ks1
          have := List.length_filter_le (fun k => decide ((shAt k).1 = z)) (List.range' l (6 - l))
          rw [List.length_range'] at this
          omega
        · exact fun Q q => ⟨_, rfl, q D (SqL.of h1)⟩
        · intro k σ2 H3 Q q1 q3 q4 q
          obtain ⟨b, hb, hbs⟩ := hQ H3 k (ks1_mem q1).2
          refine ⟨_, q4, _, _, _, _, rfl, rfl, hSh H3, at_refs hb, _, _, _, _, rfl, rfl, hbs, atI_nat (j := 1) rfl, _, (q3 5 (by decide)).trans rfl, rfl, _, rfl, ?_⟩
          rw [dstr]
          exact q
        have s4 := s2.trans s3
        replace h3 : H3 D2 = some (.lst ((ks2 l z nm).map fun (k : Nat) => V.int (k : Int))) := h3
        rw [hk] at h3
        refine ⟨_, rfl, by exact Nat.zero_le _, fun q2 hq2 => ?_⟩
        refine ⟨_, [], dp_nats (SqL.of ((same_new hq2) _ _ h3)), dp_ints (SqL.of upd_same), _, rfl, ?_⟩
        refine bool_of_false (fun e => by cases e) ?_
        have h5 := (same_new (o := .lst []) hq2) _ _ h3
        have s5 := s4.trans (same_new (o := .lst []) hq2)
        generalize upd H3 q2 (.lst []) = H5 at *
        refine ⟨_, _, rfl, rfl, ⟨by decide, by decide⟩, ?_⟩
        refine ⟨_, rfl, _, _, _, _, rfl, rfl, SqL.of h5, at_nats (k := 0) rfl, (k0 : Int), rfl, by omega, by omega, for_range (lo := 0) (n := (k0 : Int).toNat) (fun t σ' H' => ∃ o, σ' = [some (.ref a), some (.int i), some (.int l), some (.str z), some (.ref D), some (.str nm), some (.ref D2), some (.int (hlf t)), o, none, none, none] ∧ H' = H5) ?_ ?_ ?_⟩
        · exact ⟨_, rfl, rfl⟩
        · rintro t σ' H' ht ⟨o, rfl, rfl⟩
          exact ⟨_, rfl, _, _, rfl, rfl, ⟨by decide, by decide⟩, _, rfl, rfl⟩
        rintro σ' H' ⟨o, rfl, rfl⟩
        rw [Int.toNat_natCast]
        have hlen : ((counts.map V.str).length : Int) = ((counts.map V.str).length : Int) := rfl
        by_cases hc : k0 + 1 < 6 ∧ r.take 1 = (["and"] : List Str)
        · rw [if_pos hc] at hf
          cases hr' : sharesL n (k0 + 1) (r.drop 1) with
          | none => rw [hr'] at hf; cases hf
          | some mc =>
            obtain ⟨m', c'⟩ := mc
            rw [hr'] at hf
            cases hf
            refine ⟨fun _ _ => False, ?_, fun _ _ q => q.elim⟩
            refine ⟨_, rfl, _, _, _, _, rfl, rfl, SqL.of h5, at_nats (k := 0) rfl, _, _, rfl, rfl, _, _, rfl, Or.inr (hSh _), _, _, rfl, rfl, _, rfl, ?_⟩
            rw [asl]
            refine bool_of_true (by omega) ?_
            refine ⟨_, rfl, _, rfl, _, _, rfl, rfl, _, rfl, _, rfl, _, _, rfl, rfl, _, rfl, a, _, rfl, Same.seq s5 hS, fun q3 hq3 => ?_⟩
            refine ⟨by exact Nat.le_of_ble_eq_true rfl, fun q4 hq4 => ?_⟩
            have e1 : cutV (ws.map V.str) (some ((i : Int) + 2)) (some ((i : Int) + 3)) = (r.take 1).map V.str := by
              have := cut_mid ws (i + 2) 1
              rw [← hd2]
              exact this
            refine ⟨r.take 1, ["and"], dp_strs (SqL.of (((same_new hq4) _ _ upd_same).trans (by rw [e1]))), dp_strs (SqL.of upd_same), _, rfl, ?_⟩
            refine bool_of_true hc.2 ?_
            have s6 := (s5.trans (same_new hq3)).trans (same_new (o := .lst [.str "and"]) hq4)
            refine ⟨_, rfl, _, rfl, _, _, rfl, rfl, _, rfl, _, _, _, _, rfl, rfl, SqL.of ((same_new hq4) _ _ ((same_new hq3) _ _ h5)), at_nats (k := 0) rfl, _, _, rfl, rfl, a, ws, i + 3, k0 + 1, m', c', rfl, Same.seq s6 hS, ho, by omega, ?_, fun p H7 hp s7 h7 => ?_⟩
            · have e3 : ws.drop (i + 3) = r.drop 1 := by rw [← hd2, List.drop_drop]
              rw [e3]
              exact hr'
            · refine ⟨p, _, rfl, SqT.of h7, rfl, _, _, rfl, _, _, rfl, rfl, ?_⟩
              refine ⟨_, rfl, _, rfl, _, _, rfl, rfl, _, rfl, sz2, fun p2 hp2 => ?_⟩
              have e4 : ((i + (3 + c') : Nat) : Int) = ((i + 3 + c' : Nat) : Int) := by omega
              rw [e4] at k
              exact k p2 _ ((s6.trans s7).free hp2) ((s6.trans s7).trans (same_new hp2)) upd_same
        · rw [if_neg hc] at hf
          cases hf
          refine ⟨fun σ' H' => σ' = [some (.ref a), some (.int i), some (.int l), some (.str z), some (.ref D), some (.str nm), some (.ref D2), some (.int (hlf k0)), o, none, none, none] ∧ Same H H', ?_, ?_⟩
          · refine ⟨_, rfl, _, _, _, _, rfl, rfl, SqL.of h5, at_nats (k := 0) rfl, _, _, rfl, rfl, _, _, rfl, Or.inr (hSh _), _, _, rfl, rfl, _, rfl, ?_⟩
            rw [asl]
            refine ite2 (fun h => ?_) (fun h => ?_)
            · have h := of_decide_eq_true h
              refine ⟨_, rfl, _, rfl, _, _, rfl, rfl, _, rfl, _, rfl, _, _, rfl, rfl, _, rfl, a, _, rfl, Same.seq s5 hS, fun q3 hq3 => ?_⟩
              refine ⟨by exact Nat.le_of_ble_eq_true rfl, fun q4 hq4 => ?_⟩
              have e1 : cutV (ws.map V.str) (some ((i : Int) + 2)) (some ((i : Int) + 3)) = (r.take 1).map V.str := by
                have := cut_mid ws (i + 2) 1
                rw [← hd2]
                exact this
              refine ⟨r.take 1, ["and"], dp_strs (SqL.of (((same_new hq4) _ _ upd_same).trans (by rw [e1]))), dp_strs (SqL.of upd_same), _, rfl, ?_⟩
              refine bool_of_false (fun q => hc ⟨by omega, q⟩) ?_
              exact ⟨rfl, (s5.trans (same_new hq3)).trans (same_new (o := .lst [.str "and"]) hq4)⟩
            · exact ⟨rfl, s5⟩
          · rintro _ H7 ⟨rfl, s7⟩
            refine ⟨_, rfl, _, rfl, _, _, rfl, rfl, sz2, fun p2 hp2 => ?_⟩
            exact k p2 _ (s7.free hp2) (s7.trans (same_new hp2)) upd_same
theorem c_shares_vac (T : Txt w K mg) : Cal P w K mg base 2 "shares_from" (spShares K 0) [] := by
  refine T.cal 20 24 (d := d_shares_from) (S := s_shares_from) (hb := fun _ _ _ _ _ _ us hl => match us, hl with | [_, _, _], _ => rfl) (len := fun vs H Q E h => ?_) (hbody := fun cdv A outer s H vs Q E hr h => ?_)
  all_goals
    obtain ⟨a, ws, i, l, m, c, _, _, _, _, hf, _⟩ := h
    rw [shares_0] at hf
    cases hf
theorem c_shares_all (T : Txt w K mg) : ∀ n : Nat, Cal P w K mg base (n + 2) "shares_from" (spShares K n) []
  | 0 => by
    have F := c_shares_vac (P := P) (base := base) T
    exact F
  | n + 1 => c_shares_step T n (c_shares_all T n)
theorem c_shares_from (T : Txt w K mg) : Cal P w K mg base 9 "shares_from" (spShares K 7) [] := c_shares_all T 7
end
end Fw
set_option Elab.async false
set_option linter.all false
set_option maxRecDepth 100000
set_option maxHeartbeats 4000000
namespace Fw
open PySem PySem.Spec PyProof.Rows L2
open C8 (Cal CalAt Met Mak pe_c pe_mk pe_mt pe_mt0 pe_gc InsC call_isC)

section
variable {P : Program} {w : World} {K : PySem.W.Frag} {mg : Str → Option Value} {base : Heap}

/-! whole inches in words -/
def inL : List Str → Option (Int × Nat)
  | [] => none
  | z :: r => if z ∈ counts.drop 1 then some ((counts.idxOf z : Nat), 1)
    else if ¬ z ∈ tens then some (0, 0)
    else match r with
      | [] => some (10 * (tens.idxOf z : Nat) + 20, 1)
      | y :: _ => if y ∈ (counts.drop 1).take 9 then some (10 * (tens.idxOf z : Nat) + 20 + (counts.idxOf y : Nat), 2) else some (10 * (tens.idxOf z : Nat) + 20, 1)
theorem idx_ok {z : Str} : ∀ {l : List Str}, z ∈ l → l[l.idxOf z]? = some z ∧ ∀ m, m < l.idxOf z → l[m]? ≠ some z := by
  intro l
  induction l with
  | nil => intro h; cases h
  | cons y l ih =>
    intro h
    by_cases e : y = z
    · subst e
      rw [List.idxOf_cons_self]
      exact ⟨rfl, fun m hm => absurd hm (Nat.not_lt_zero m)⟩
    · have hz : z ∈ l := (List.mem_cons.mp h).resolve_left fun w => e w.symm
      obtain ⟨h1, h2⟩ := ih hz
      have e2 : (y :: l).idxOf z = l.idxOf z + 1 := by rw [List.idxOf_cons, beq_eq_false_iff_ne.mpr e]; rfl
      rw [e2]
      refine ⟨h1, fun m hm => ?_⟩
      cases m with
      | zero => exact fun w => e (by injection w)
      | succ m => exact h2 m (by omega)
theorem tail_c : cutV (counts.map V.str) (some 1) none = (counts.drop 1).map V.str := rfl
theorem tail_c9 : cutV (counts.map V.str) (some 1) (some 10) = ((counts.drop 1).take 9).map V.str := rfl
theorem not_whole1 : ¬ (HT.sIx (counts.map V.str).length 0 (some 1) = 0 ∧ HT.sIx (counts.map V.str).length (counts.map V.str).length none = (counts.map V.str).length) := by decide +kernel
theorem not_whole9 : ¬ (HT.sIx (counts.map V.str).length 0 (some 1) = 0 ∧ HT.sIx (counts.map V.str).length (counts.map V.str).length (some 10) = (counts.map V.str).length) := by decide +kernel
theorem drop_mem {z : Str} {l : List Str} {n : Nat} (h : z ∈ l.drop n) : z ∈ l := List.mem_of_mem_drop h
def wordsL (ws : List Str) : Option (Int × Nat) := match ws with
  | [] => none
  | z :: _ => if z = "nothing" then some (0, 1) else
    match inL (ws.drop (if z = "minus" then 1 else 0)) with
    | none => none
    | some (wh, b) =>
      if wh = 0 then (sharesL 7 0 (ws.drop ((if z = "minus" then 1 else 0) + b))).map fun q => ((if z = "minus" then -1 else 1) * (64 * wh + q.1), (if z = "minus" then 1 else 0) + b + q.2)
      else if (ws.drop ((if z = "minus" then 1 else 0) + b)).take 1 = (["and"] : List Str) then (sharesL 7 0 (ws.drop ((if z = "minus" then 1 else 0) + b + 1))).map fun q => ((if z = "minus" then -1 else 1) * (64 * wh + q.1), (if z = "minus" then 1 else 0) + b + 1 + q.2)
      else some ((if z = "minus" then -1 else 1) * (64 * wh + 0), (if z = "minus" then 1 else 0) + b)
def readL : Way → List Str → Option (Int × Nat)
  | .parts => partsL | .inches => inchesL | .halves => halvesL | .words => wordsL
def spReadFrom (K : PySem.W.Frag) : Sp := fun vs H Q _ => ∃ (a : Addr) (ws : List Str) (i : Nat) (y : Way) (m : Int) (c : Nat), vs = [.ref a, .int i, .str y.s] ∧ SqL K H a (ws.map V.str) ∧ WsOk ws ∧ readL y (ws.drop i) = some (m, c) ∧ RetT H Q [.int m, .int ((i + c : Nat) : Int)]
theorem s_from_halves : FnScope ["words", "at", "body", "sign", "whole", "point", "rest", "parts", "one"] ["words", "at"] d_from_halves.scope := ⟨rfl, rfl, rfl, by decide +kernel, rfl, by decide +kernel, by decide +kernel⟩
theorem c_from_halves (T : Txt w K mg) : Cal P w K mg base 2 "from_halves" (spRead K halvesL) [] := by
  refine T.cal 19 23 (d := d_from_halves) (S := s_from_halves) (hb := fun _ _ _ _ _ _ us hl => match us, hl with | [_, _], _ => rfl) (len := fun vs H Q E h => ?_) (hbody := fun cdv A outer s H vs Q E hr h => ?_)
  · obtain ⟨a, ws, i, m, c, rfl, hS, ho, hf, k⟩ := h
    rfl
  · obtain ⟨a, ws, i, m, c, rfl, hS, ho, hf, k⟩ := h
    refine ⟨_, (pss_cons (ps_asg (pe_c (c_unsigned T) hr (by decide) rfl (pa_cons (pe_c (c_word_at T) hr (by decide) rfl (pa_cons (pv 0) (pa_cons (pv 1) pa_nil))) pa_nil)) (pg_tup rfl (pgs_cons (pg_name (i := 2) s_from_halves.nd rfl (Or.inl rfl)) (pgs_cons (pg_name (i := 3) s_from_halves.nd rfl (Or.inl rfl)) pgs_nil))))
      (pss_cons (ps_asg (pe_partition (pv 2) pe_str) (pg_tup rfl (pgs_cons (pg_name (i := 4) s_from_halves.nd rfl (Or.inl rfl)) (pgs_cons (pg_name (i := 5) s_from_halves.nd rfl (Or.inl rfl)) (pgs_cons (pg_name (i := 6) s_from_halves.nd rfl (Or.inl rfl)) pgs_nil)))))
      (C8.pss_cut (ps_if (PW.pt (pw_or (pt_cmpR op_eq (pv 5) pe_str (nomark _)) (pw_or (pt_cmpR op_ne (pe_callB (id := "len") call_len_str (by rfl) (T.f 104) (by decide +kernel) (pa_cons (pv 6) pa_nil)) pe_int (nomark _)) (pw_or (pt_not (pt_val (pe_c (c_is_figures T) hr (by decide) rfl (pa_cons (pv 4) pa_nil)))) (pw_or1 (pt_not (pt_val (pe_callB (id := "all") (cr_all rfl) (by rfl) (T.f 97) (by decide +kernel) (pa_cons (pe_lc (own := [("one", 8)]) (g := (gName 8)) rfl s_from_halves.nd (pi_str (pe_op op_add_str (pv 4) (pv 6))) (blkOk_by (N := ["words", "at", "body", "sign", "whole", "point", "rest", "parts", "one"]) (sc := d_from_halves.scope) (own := [("one", 8)]) (by decide +kernel)) (fun _ _ _ _ _ => (pg_name (i := 8) s_from_halves.nd rfl (Or.inl rfl))) (fun _ _ _ _ _ => pts_nil) (fun _ _ _ _ _ => (pe_cmpR op_in_sign (pv 8) (pe_gc rfl (T.str 116)) (by rfl)))) pa_nil))))))))) (pss_one ps_never) pss_nil)
      (pss_cons (ps_set (i := 7) s_from_halves.nd rfl (Or.inl rfl) (pe_op op_add (pe_op op_mul (pe_gc rfl (T.int 112)) (pe_callTy (T := "int") call_int_two (by rfl) (T.f 102) (by decide +kernel) (pa_cons (pv 4) (pa_cons pe_int pa_nil)))) (pe_callTy (T := "int") call_int_two (by rfl) (T.f 102) (by decide +kernel) (pa_cons (pv 6) (pa_cons pe_int pa_nil)))))
      (C8.pss_cut (ps_if (PW.pt (pw_and (pt_cmpR op_lt (pv 3) pe_int (nomark _)) (pw_and1 (pt_cmpR op_eq (pv 7) pe_int (nomark _))))) (pss_one ps_never) pss_nil)
      (pss_one (ps_ret (pe_tup (pa_cons (pe_op op_mul (pv 3) (pv 7)) (pa_cons (pe_op op_add (pv 1) pe_int) pa_nil)))))))))), ?_⟩
    cases hd : ws.drop i with
    | nil => rw [hd] at hf; cases hf
    | cons z r =>
      obtain ⟨hz, hr'⟩ := drop_get hd
      rw [hd] at hf
      replace hf : halvesZ z = some (m, c) := hf
      unfold halvesZ at hf
      have hl := ho.at hz
      have hl2 := unsg_len hl
      have hu := unsg_sgn z
      refine ⟨_, rfl, _, rfl, a, ws, i, z, rfl, hS, hz, z, rfl, hl, fun p H1 hp s1 h1 => ?_⟩
      refine ⟨p, _, rfl, SqT.of h1, rfl, _, _, rfl, _, _, rfl, rfl, ?_⟩
      generalize (unsg z).1 = bd at *
      generalize (unsg z).2 = sg at *
      obtain ⟨p1, p2⟩ := part_len bd "." (by decide)
      refine ⟨_, rfl, ⟨_, rfl⟩, bd, ".", rfl, rfl, rfl, Nat.le_trans hl2 (by decide), fun p hp => ?_⟩
      refine ⟨p, _, rfl, SqT.of upd_same, rfl, _, _, rfl, _, _, rfl, _, _, rfl, rfl, ?_⟩
      have s2 := s1.trans (same_new (o := .tup [.str (Txt.partition bd ".").1, .str (Txt.partition bd ".").2.1, .str (Txt.partition bd ".").2.2]) hp)
      generalize upd H1 p (.tup [.str (Txt.partition bd ".").1, .str (Txt.partition bd ".").2.1, .str (Txt.partition bd ".").2.2]) = H2 at s2
      generalize ht : Txt.partition bd "." = t at *
      obtain ⟨wh, pt, rs⟩ := t
      unfold halvesV at hf
      by_cases hc : pt ≠ "" ∧ rs.length = 6 ∧ isFig wh = true ∧ (wh ++ rs).cps.toList.all (fun c => decide (c ∈ doubL)) = true ∧ ¬ (sg < 0 ∧ 64 * ((Bn.binNum wh.cps.toList : Nat) : Int) + ((Bn.binNum rs.cps.toList : Nat) : Int) = 0)
      case neg => rw [if_neg hc] at hf; cases hf
      rw [if_pos hc] at hf
      cases hf
      obtain ⟨c1, c2, c3, c4, c5⟩ := hc
      have c6 : ∀ x ∈ (wh ++ rs).cps.toList, Bn.Is01 x := fun x hx => doub_mem.mp (of_decide_eq_true (List.all_eq_true.mp c4 x hx))
      have etl : (wh ++ rs).cps.toList = wh.cps.toList ++ rs.cps.toList := TL.tl_append wh rs
      rw [etl] at c6
      have n1 : wh.cps.toList ≠ [] := fun e => by
        unfold isFig at c3
        rw [e] at c3
        cases c3
      have n2 : rs.cps.toList ≠ [] := fun e => by
        have c2 : (TL.tl rs).length = 6 := by rw [← TL.len_tl]; exact c2
        have e : TL.tl rs = [] := e
        rw [e] at c2
        cases c2
      refine ⟨fun σ' H' => σ' = [some (.ref a), some (.int i), some (.str bd), some (.int sg), some (.str wh), some (.str pt), some (.str rs), none, none] ∧ Same H H', ?_, ?_⟩
      · refine ⟨_, rfl, rfl, _, rfl, ?_⟩
        refine bool_of_false (fun e => c1 (by injection e)) ?_
        refine ⟨_, rfl, _, rfl, len_sl (by show rs.length ≤ 600000; omega), rfl, _, rfl, ?_⟩
        refine iteNS (by rw [c2]; rfl) ?_
        refine ⟨_, rfl, wh, rfl, Nat.le_trans p1 hl2, fun H3 s3 => ?_⟩
        refine ⟨_, rfl, ?_⟩
        rw [c3]
        refine iteF ?_
        unfold tNot tB tCB tCons
        refine tlc_text (j := 8) (z := wh ++ rs) (f := fun c => decide (c ∈ doubL)) ?_ ?_ ?_ ?_ (fun D H4 hD s4 h4 => ?_)
        · show 8 < 9
          decide
        · rw [len_app]
          have : rs.length ≤ bd.length := p2
          have : wh.length ≤ bd.length := p1
          omega
        · refine fun Q q => ⟨_, rfl, _, rfl, _, _, rfl, rfl, ?_, q⟩
          have : rs.length ≤ bd.length := p2
          have : wh.length ≤ bd.length := p1
          exact Nat.le_trans (by omega : _ ≤ 2000) (by decide)
        · exact fun c σ2 H3 Q _ e q => ⟨_, e, c, _, rfl, rfl, q⟩
        refine ⟨D, _, rfl, SqL.of h4, _, rfl, ?_⟩
        rw [all_id, c4]
        refine iteF ?_
        exact ⟨rfl, s2.trans (s3.trans s4)⟩
      rintro _ H3 ⟨rfl, s3⟩
      refine ⟨_, rfl, wh, rfl, n1, ?_, fun x hx => c6 x (List.mem_append_left _ hx), _, _, rfl, rfl, .inl ⟨by decide, by decide⟩, _, rfl, rs, rfl, n2, by omega, fun x hx => c6 x (List.mem_append_right _ hx), _, _, rfl, rfl, ?_⟩
      · have : wh.length ≤ bd.length := p1
        omega
      refine ⟨fun σ' H' => σ' = [some (.ref a), some (.int i), some (.str bd), some (.int sg), some (.str wh), some (.str pt), some (.str rs), some (.int (64 * ((Bn.binNum wh.cps.toList : Nat) : Int) + ((Bn.binNum rs.cps.toList : Nat) : Int))), none] ∧ Same H H', ?_, ?_⟩
      · refine ⟨_, rfl, _, _, rfl, rfl, _, rfl, ?_⟩
        refine ite2 (fun h => ?_) (fun h => ?_)
        · refine ⟨_, rfl, rfl, _, rfl, ?_⟩
          refine bool_of_false (fun e => c5 ⟨of_decide_eq_true h, by injection e⟩) ?_
          exact ⟨rfl, s3⟩
        · exact ⟨rfl, s3⟩
      rintro _ H4 ⟨rfl, s4⟩
      refine ⟨_, rfl, _, rfl, _, _, rfl, rfl, sgn_mul hu, _, rfl, _, _, rfl, rfl, sz2, fun q hq => ?_⟩
      exact k q _ (s4.free hq) (s4.trans (same_new hq)) upd_same
theorem s_inches_from : FnScope ["words", "at", "word", "whole"] ["words", "at"] d_inches_from.scope := ⟨rfl, rfl, rfl, by decide +kernel, rfl, by decide +kernel, by decide +kernel⟩
theorem c_inches_from (T : Txt w K mg) : Cal P w K mg base 2 "inches_from" (spRead K inL) [] := by
  refine T.cal 21 25 (d := d_inches_from) (S := s_inches_from) (hb := fun _ _ _ _ _ _ us hl => match us, hl with | [_, _], _ => rfl) (len := fun vs H Q E h => ?_) (hbody := fun cdv A outer s H vs Q E hr h => ?_)
  · obtain ⟨a, ws, i, m, c, rfl, hS, ho, hf, k⟩ := h
    rfl
  · obtain ⟨a, ws, i, m, c, rfl, hS, ho, hf, k⟩ := h
    refine ⟨_, (pss_cons (ps_set (i := 2) s_inches_from.nd rfl (Or.inl rfl) (pe_c (c_word_at T) hr (by decide) rfl (pa_cons (pv 0) (pa_cons (pv 1) pa_nil))))
      (pss_cons (ps_if (pt_cmpR (op_in_seqK (K := K) rfl) (pv 2) (pe_slice (sl_tupAK (K := K) rfl) (pe_gc rfl (T.gr 0)) (po_some pe_int) po_none) (by rfl)) (pss_one (ps_ret (pe_tup (pa_cons (pe_bm PySem.F.plainAttrs_tuple PySem.F.slot_tuple_index PySem.F.type_tuple_index mt_tup_index (pe_gc rfl (T.gr 0)) (pa_cons (pv 2) pa_nil)) (pa_cons (pe_op op_add (pv 1) pe_int) pa_nil))))) pss_nil)
      (pss_cons (ps_if (pt_cmpR (op_notIn_seqK (K := K) rfl) (pv 2) (pe_gc rfl (T.gr 1)) (by rfl)) (pss_one (ps_ret (pe_tup (pa_cons pe_int (pa_cons (pv 1) pa_nil))))) pss_nil)
      (pss_cons (ps_set (i := 3) s_inches_from.nd rfl (Or.inl rfl) (pe_op op_add (pe_op op_mul pe_int (pe_bm PySem.F.plainAttrs_tuple PySem.F.slot_tuple_index PySem.F.type_tuple_index mt_tup_index (pe_gc rfl (T.gr 1)) (pa_cons (pv 2) pa_nil))) pe_int))
      (C8.pss_cut (ps_if (PW.pt (pw_and (pt_cmpR op_lt (pe_op op_add (pv 1) pe_int) (pe_callB (id := "len") (call_len_seqK (K := K) rfl) (by rfl) (T.f 104) (by decide +kernel) (pa_cons (pv 0) pa_nil)) (nomark _)) (pw_and1 (pt_cmpR (op_in_seqK (K := K) rfl) (pe_ix (ix_listK (K := K) rfl) (pv 0) (pe_op op_add (pv 1) pe_int) (fun _ _ => rfl)) (pe_slice (sl_tupAK (K := K) rfl) (pe_gc rfl (T.gr 0)) (po_some pe_int) (po_some pe_int)) (by rfl))))) (pss_one (ps_ret (pe_tup (pa_cons (pe_op op_add (pv 3) (pe_bm PySem.F.plainAttrs_tuple PySem.F.slot_tuple_index PySem.F.type_tuple_index mt_tup_index (pe_gc rfl (T.gr 0)) (pa_cons (pe_ix (ix_listK (K := K) rfl) (pv 0) (pe_op op_add (pv 1) pe_int) (fun _ _ => rfl)) pa_nil))) (pa_cons (pe_op op_add (pv 1) pe_int) pa_nil))))) pss_nil)
      (pss_one (ps_ret (pe_tup (pa_cons (pv 3) (pa_cons (pe_op op_add (pv 1) pe_int) pa_nil)))))))))), ?_⟩
    have nd : ∀ {H : Hp} (p : Addr) (H' : Hp), Same H H' → H p = none ∨ True := fun _ _ _ => Or.inr trivial
    cases hd : ws.drop i with
    | nil => rw [hd] at hf; cases hf
    | cons z r =>
      obtain ⟨hz, hr'⟩ := drop_get hd
      rw [hd] at hf
      have hl := ho.at hz
      refine ⟨_, rfl, _, rfl, a, ws, i, z, rfl, hS, hz, ?_⟩
      refine ⟨_, rfl, _, rfl, _, _, rfl, T.counts H, fun w => absurd w not_whole1, fun _ p hp => ?_⟩
      refine ⟨p, _, rfl, Or.inr (SqT.of upd_same), rfl, by rw [tail_c]; exact flat_strs _, _, rfl, ?_⟩
      have e1 : inV (.str z) (cutV (counts.map V.str) (some 1) none) = decide (z ∈ counts.drop 1) := by rw [tail_c]; exact inV_strs z _
      rw [e1]
      have s1 : Same H (upd H p (.tup (cutV (counts.map V.str) (some 1) none))) := same_new hp
      generalize upd H p (.tup (cutV (counts.map V.str) (some 1) none)) = H1 at s1
      unfold inL at hf
      by_cases hc : z ∈ counts.drop 1
      · rw [decide_eq_true hc]
        refine iteT ?_
        replace hf : (if z ∈ counts.drop 1 then some (((counts.idxOf z : Nat) : Int), 1) else _) = some (m, c) := hf
        rw [if_pos hc] at hf
        cases hf
        obtain ⟨i1, i2⟩ := idx_ok (drop_mem hc)
        refine ⟨Or.inr (Or.inl ⟨rfl, T.bareC⟩), _, rfl, _, counts, z, _, rfl, rfl, T.counts H1, i1, i2, _, rfl, _, _, rfl, rfl, sz2, fun q hq => ?_⟩
        exact k q _ (s1.free hq) (s1.trans (same_new hq)) upd_same
      rw [decide_eq_false hc]
      refine iteF ?_
      simp only [] at hf
      rw [if_neg hc] at hf
      refine ⟨_, rfl, _, _, rfl, Or.inr (T.tens H1), rfl, flat_strs _, _, rfl, ?_⟩
      rw [inV_strs]
      by_cases ht : z ∈ tens
      case neg =>
        rw [if_pos ht] at hf
        cases hf
        refine iteNS' ht ?_
        refine ⟨_, rfl, sz2, fun q hq => ?_⟩
        exact k q _ (s1.free hq) (s1.trans (same_new hq)) upd_same
      rw [if_neg (fun w => w ht)] at hf
      refine iteNS ht ?_
      obtain ⟨i1, i2⟩ := idx_ok ht
      refine ⟨Or.inr (Or.inl ⟨rfl, T.bareT⟩), _, rfl, _, tens, z, _, rfl, rfl, T.tens H1, i1, i2, _, _, rfl, rfl, .inl ⟨by decide, by decide⟩, _, _, rfl, rfl, ?_⟩
      refine ⟨fun σ' H' => σ' = [some (.ref a), some (.int i), some (.str z), some (.int (10 * (tens.idxOf z : Nat) + 20))] ∧ Same H H' ∧ m = 10 * (tens.idxOf z : Nat) + 20 ∧ c = 1, ?_, ?_⟩
      · refine ⟨_, rfl, _, _, rfl, rfl, _, rfl, _, _, rfl, Or.inl (Same.seq s1 hS), _, _, rfl, rfl, _, rfl, ?_⟩
        rw [List.length_map]
        cases r with
        | nil =>
          cases hf
          refine bool_of_false ?_ ?_
          · have := List.drop_eq_nil_iff.mp hr'
            omega
          · exact ⟨rfl, s1, rfl, rfl⟩
        | cons y r2 =>
          obtain ⟨hy, _⟩ := drop_get hr'
          have hi := (List.getElem?_eq_some_iff.mp hy).1
          refine bool_of_true (by omega) ?_
          refine ⟨_, rfl, _, rfl, _, _, rfl, rfl, _, _, _, _, rfl, rfl, Same.seq s1 hS, at_words (i := i + 1) hy, _, rfl, _, rfl, _, _, rfl, T.counts H1, fun w => absurd w not_whole9, fun _ p2 hp2 => ?_⟩
          refine ⟨p2, _, rfl, Or.inr (SqT.of upd_same), rfl, by rw [tail_c9]; exact flat_strs _, _, rfl, ?_⟩
          have e2 : inV (.str y) (cutV (counts.map V.str) (some 1) (some 10)) = decide (y ∈ (counts.drop 1).take 9) := by rw [tail_c9]; exact inV_strs y _
          rw [e2]
          have s2 := s1.trans (same_new (o := .tup (cutV (counts.map V.str) (some 1) (some 10))) hp2)
          generalize upd H1 p2 (.tup (cutV (counts.map V.str) (some 1) (some 10))) = H2 at s2
          simp only [] at hf
          by_cases hy9 : y ∈ (counts.drop 1).take 9
          · rw [if_pos hy9] at hf
            cases hf
            rw [decide_eq_true hy9]
            refine iteT ?_
            obtain ⟨j1, j2⟩ := idx_ok (drop_mem (List.mem_of_mem_take hy9))
            refine ⟨_, rfl, Or.inr (Or.inl ⟨rfl, T.bareC⟩), _, rfl, _, rfl, _, _, rfl, rfl, _, _, _, _, rfl, rfl, Same.seq s2 hS, at_words (i := i + 1) hy, _, counts, y, _, rfl, rfl, T.counts H2, j1, j2, _, _, rfl, rfl, _, rfl, _, _, rfl, rfl, sz2, fun q hq => ?_⟩
            exact k q _ (s2.free hq) (s2.trans (same_new hq)) upd_same
          · rw [if_neg hy9] at hf
            cases hf
            rw [decide_eq_false hy9]
            exact ⟨rfl, s2, rfl, rfl⟩
      · rintro _ H2 ⟨rfl, s2, rfl, rfl⟩
        refine ⟨_, rfl, _, rfl, _, _, rfl, rfl, sz2, fun q hq => ?_⟩
        exact k q _ (s2.free hq) (s2.trans (same_new hq)) upd_same
end
end Fw
set_option Elab.async false
set_option linter.all false
set_option maxRecDepth 100000
set_option maxHeartbeats 4000000
namespace Fw
open PySem PySem.Spec PyProof.Rows L2
open C8 (Cal CalAt Met Mak pe_c pe_mk pe_mt pe_mt0 pe_gc InsC call_isC)

section
variable {P : Program} {w : World} {K : PySem.W.Frag} {mg : Str → Option Value} {base : Heap}

theorem drop_drop' {α : Type} (ws : List α) (i j : Nat) : (ws.drop i).drop j = ws.drop (i + j) := by rw [List.drop_drop]
theorem eq_and {H : Hp} {p q : Addr} {l l2 : List Str} (h1 : H p = some (.lst (l.map V.str))) (h2 : H q = some (.lst (l2.map V.str))) : ∃ d e : List Str, Dp K H (.ref p) (PySem.W.Datum.toD d) ∧ Dp K H (.ref q) (PySem.W.Datum.toD e) ∧ decide (d = e) = decide (l = l2) := ⟨l, l2, dp_strs (SqL.of h1), dp_strs (SqL.of h2), rfl⟩
theorem s_from_words : FnScope ["words", "at", "word", "sign", "whole", "behind", "rest"] ["words", "at"] d_from_words.scope := ⟨rfl, rfl, rfl, by decide +kernel, rfl, by decide +kernel, by decide +kernel⟩
theorem c_from_words (T : Txt w K mg) : Cal P w K mg base 10 "from_words" (spRead K wordsL) [] := by
  refine T.cal 22 26 (d := d_from_words) (S := s_from_words) (hb := fun _ _ _ _ _ _ us hl => match us, hl with | [_, _], _ => rfl) (len := fun vs H Q E h => ?_) (hbody := fun cdv A outer s H vs Q E hr h => ?_)
  · obtain ⟨a, ws, i, m, c, rfl, hS, ho, hf, k⟩ := h
    rfl
  · obtain ⟨a, ws, i, m, c, rfl, hS, ho, hf, k⟩ := h
    refine ⟨_, (pss_cons (ps_par (i := 2) (j := 3) (by rfl) s_from_words.nd rfl rfl (by decide) rfl rfl (pa_cons (pe_c (c_word_at T) hr (by decide) rfl (pa_cons (pv 0) (pa_cons (pv 1) pa_nil))) (pa_cons pe_int pa_nil)) (by rfl))
      (pss_cons (ps_if (pt_cmpR op_eq (pv 2) (pe_ix (ix_tupK (K := K) rfl) (pe_gc rfl (T.gr 0)) pe_int (fun _ _ => rfl)) (nomark _)) (pss_one (ps_ret (pe_tup (pa_cons pe_int (pa_cons (pe_op op_add (pv 1) pe_int) pa_nil))))) pss_nil)
      (C8.pss_cut (ps_if (pt_cmpR op_eq (pv 2) pe_str (nomark _)) (pss_one (ps_par (i := 1) (j := 3) (by rfl) s_from_words.nd rfl rfl (by decide) rfl rfl (pa_cons (pe_op op_add (pv 1) pe_int) (pa_cons (pe_op op_sub pe_int pe_int) pa_nil)) (by rfl))) pss_nil)
      (pss_cons (ps_asg (pe_c (c_inches_from T) hr (by decide) rfl (pa_cons (pv 0) (pa_cons (pv 1) pa_nil))) (pg_tup rfl (pgs_cons (pg_name (i := 4) s_from_words.nd rfl (Or.inl rfl)) (pgs_cons (pg_name (i := 5) s_from_words.nd rfl (Or.inl rfl)) pgs_nil))))
      (pss_cons (ps_set (i := 6) s_from_words.nd rfl (Or.inl rfl) pe_int)
      (C8.pss_cut (ps_if (pt_cmpR op_eq (pv 4) pe_int (nomark _)) (pss_one (ps_asg (pe_c (c_shares_from T) hr (by decide) rfl (pa_cons (pv 0) (pa_cons (pv 5) (pa_cons pe_int pa_nil)))) (pg_tup rfl (pgs_cons (pg_name (i := 6) s_from_words.nd rfl (Or.inl rfl)) (pgs_cons (pg_name (i := 5) s_from_words.nd rfl (Or.inl rfl)) pgs_nil))))) (pss_one (ps_if (pt_cmpR (op_eqT (α := List Str) hr.units (by decide)) (pe_slice (sl_listK (K := K) rfl) (pv 0) (po_some (pv 5)) (po_some (pe_op op_add (pv 5) pe_int))) (pe_lst (pa_cons pe_str pa_nil)) (nomark _)) (pss_one (ps_asg (pe_c (c_shares_from T) hr (by decide) rfl (pa_cons (pv 0) (pa_cons (pe_op op_add (pv 5) pe_int) (pa_cons pe_int pa_nil)))) (pg_tup rfl (pgs_cons (pg_name (i := 6) s_from_words.nd rfl (Or.inl rfl)) (pgs_cons (pg_name (i := 5) s_from_words.nd rfl (Or.inl rfl)) pgs_nil))))) pss_nil)))
      (pss_one (ps_ret (pe_tup (pa_cons (pe_op op_mul (pv 3) (pe_op op_add (pe_op op_mul (pe_gc rfl (T.int 112)) (pv 4)) (pv 6))) (pa_cons (pv 5) pa_nil))))))))))), ?_⟩
    cases hd : ws.drop i with
    | nil => rw [hd] at hf; cases hf
    | cons z r =>
      obtain ⟨hz, hr'⟩ := drop_get hd
      rw [hd] at hf
      refine ⟨_, rfl, _, rfl, a, ws, i, z, rfl, hS, hz, _, _, rfl, ?_⟩
      refine ⟨_, rfl, _, _, _, _, rfl, rfl, T.counts H, at_map (i := 0) (by decide) (by decide), rfl, _, rfl, ?_⟩
      have e0 : decide (V.str z = V.str (counts.getD (0 : Int).toNat "")) = decide (z = "nothing") := dstr _ _
      rw [e0]
      by_cases hn : z = "nothing"
      · rw [decide_eq_true hn]
        refine iteT ?_
        have hf2 : (0, 1) = (m, c) := by
          have hf3 : (if z = "nothing" then some ((0 : Int), 1) else _) = some (m, c) := hf
          rw [if_pos hn] at hf3
          injection hf3
        cases hf2
        refine ⟨_, rfl, _, _, rfl, rfl, sz2, fun q hq => ?_⟩
        exact k q _ hq (same_new hq) upd_same
      rw [decide_eq_false hn]
      refine iteF ?_
      unfold wordsL at hf
      simp only [] at hf
      rw [if_neg hn] at hf
      generalize ho1 : (if z = "minus" then 1 else 0 : Nat) = o at hf
      generalize hs1 : (if z = "minus" then -1 else 1 : Int) = sg at hf
      have hsg : sg = 1 ∨ sg = -1 := by rw [← hs1]; split <;> simp
      refine ⟨fun σ' H' => σ' = [some (.ref a), some (.int ((i + o : Nat) : Int)), some (.str z), some (.int sg), none, none, none] ∧ H' = H, ?_, ?_⟩
      · refine ⟨_, rfl, rfl, _, rfl, ?_⟩
        rw [dstr]
        by_cases hm : z = "minus"
        · rw [if_pos hm] at ho1 hs1
          subst ho1 hs1
          rw [decide_eq_true hm]
          refine iteT ?_
          exact ⟨_, rfl, _, _, rfl, rfl, _, _, rfl, rfl, _, _, rfl, rfl, rfl⟩
        · rw [if_neg hm] at ho1 hs1
          subst ho1 hs1
          rw [decide_eq_false hm]
          exact ⟨rfl, rfl⟩
      rintro _ H0 ⟨rfl, rfl⟩
      cases hi : inL ((z :: r).drop o) with
      | none => rw [hi] at hf; cases hf
      | some wb =>
        obtain ⟨wh, b⟩ := wb
        rw [hi] at hf
        simp only [] at hf
        have hdo : ws.drop (i + o) = (z :: r).drop o := by rw [← hd, drop_drop']
        have hdb : ws.drop (i + o + b) = (z :: r).drop (o + b) := by rw [← hd, drop_drop', Nat.add_assoc]
        refine ⟨_, rfl, _, rfl, a, ws, i + o, wh, b, rfl, hS, ho, by rw [hdo]; exact hi, fun p H1 hp s1 h1 => ?_⟩
        refine ⟨p, _, rfl, SqT.of h1, rfl, _, _, rfl, _, _, rfl, rfl, ?_⟩
        refine ⟨fun σ' H' => ∃ (rs : Int) (c' : Nat), σ' = [some (.ref a), some (.int ((i + o : Nat) : Int)), some (.str z), some (.int sg), some (.int wh), some (.int ((i + c' : Nat) : Int)), some (.int rs)] ∧ Same H0 H' ∧ m = sg * (64 * wh + rs) ∧ c = c', ?_, ?_⟩
        · refine ⟨_, rfl, rfl, _, rfl, ?_⟩
          by_cases hw : wh = 0
          · rw [if_pos hw] at hf
            refine bool_of_true (congrArg V.int hw) ?_
            cases hsf : sharesL 7 0 ((z :: r).drop (o + b)) with
            | none => rw [hsf] at hf; cases hf
            | some q =>
              obtain ⟨rs, c2⟩ := q
              rw [hsf] at hf
              cases hf
              refine ⟨_, rfl, _, rfl, a, ws, i + o + b, 0, rs, c2, rfl, Same.seq s1 hS, ho, by omega, by rw [hdb]; exact hsf, fun p2 H2 hp2 s2 h2 => ?_⟩
              refine ⟨p2, _, rfl, SqT.of h2, rfl, _, _, rfl, _, _, rfl, rfl, ?_⟩
              refine ⟨rs, o + b + c2, ?_, s1.trans s2, rfl, rfl⟩
              have e : ((i + (o + b + c2) : Nat) : Int) = ((i + o + b + c2 : Nat) : Int) := by omega
              rw [e]
              rfl
          · rw [if_neg hw] at hf
            refine bool_of_false (fun e => hw (by injection e)) ?_
            refine ⟨_, rfl, _, rfl, _, rfl, _, rfl, _, _, rfl, rfl, _, rfl, a, _, rfl, Same.seq s1 hS, fun q3 hq3 => ?_⟩
            refine ⟨by exact Nat.le_of_ble_eq_true rfl, fun q4 hq4 => ?_⟩
            have e1 : cutV (ws.map V.str) (some ((i + o + b : Nat) : Int)) (some (((i + o + b : Nat) : Int) + 1)) = (((z :: r).drop (o + b)).take 1).map V.str := by
              rw [← hdb]
              exact cut_mid ws (i + o + b) 1
            have s6 := (s1.trans (same_new (o := .lst (cutV (ws.map V.str) (some ((i + o + b : Nat) : Int)) (some (((i + o + b : Nat) : Int) + 1)))) hq3)).trans (same_new (o := .lst [.str "and"]) hq4)
            refine ⟨((z :: r).drop (o + b)).take 1, ["and"], dp_strs (SqL.of (((same_new hq4) _ _ upd_same).trans (congrArg (fun l => some (HO.lst l)) e1))), dp_strs (SqL.of upd_same), _, rfl, ?_⟩
            by_cases ha : ((z :: r).drop (o + b)).take 1 = (["and"] : List Str)
            · rw [if_pos ha] at hf
              refine bool_of_true ha ?_
              cases hsf : sharesL 7 0 ((z :: r).drop (o + b + 1)) with
              | none => rw [hsf] at hf; cases hf
              | some q =>
                obtain ⟨rs, c2⟩ := q
                rw [hsf] at hf
                cases hf
                have hdc : ws.drop (i + o + b + 1) = (z :: r).drop (o + b + 1) := by rw [← hd, drop_drop']; congr 1; omega
                refine ⟨_, rfl, _, rfl, _, _, rfl, rfl, a, ws, i + o + b + 1, 0, rs, c2, rfl, Same.seq s6 hS, ho, by omega, by rw [hdc]; exact hsf, fun p2 H2 hp2 s2 h2 => ?_⟩
                refine ⟨p2, _, rfl, SqT.of h2, rfl, _, _, rfl, _, _, rfl, rfl, ?_⟩
                refine ⟨rs, o + b + 1 + c2, ?_, s6.trans s2, rfl, rfl⟩
                have e : ((i + (o + b + 1 + c2) : Nat) : Int) = ((i + o + b + 1 + c2 : Nat) : Int) := by omega
                rw [e]
                rfl
            · rw [if_neg ha] at hf
              cases hf
              refine bool_of_false ha ?_
              refine ⟨0, o + b, ?_, s6, rfl, rfl⟩
              have e : ((i + (o + b) : Nat) : Int) = ((i + o + b : Nat) : Int) := by omega
              rw [e]
              rfl
        · rintro _ H2 ⟨rs, c', rfl, s2, rfl, rfl⟩
          refine ⟨_, rfl, _, rfl, _, _, rfl, rfl, .inl ⟨by decide, by decide⟩, _, rfl, _, _, rfl, rfl, _, _, rfl, rfl, sgn_mul hsg, _, rfl, sz2, fun q hq => ?_⟩
          exact k q _ (s2.free hq) (s2.trans (same_new hq)) upd_same
theorem s_read_from : FnScope ["words", "at", "way", "reader"] ["words", "at", "way"] d_read_from.scope := ⟨rfl, rfl, rfl, by decide +kernel, rfl, by decide +kernel, by decide +kernel⟩
theorem c_read_from (T : Txt w K mg) : Cal P w K mg base 12 "read_from" (spReadFrom K) [] := by
  refine T.cal 23 28 (d := d_read_from) (S := s_read_from) (hb := fun _ _ _ _ _ _ us hl => match us, hl with | [_, _, _], _ => rfl) (len := fun vs H Q E h => ?_) (hbody := fun cdv A outer s H vs Q E hr h => ?_)
  · obtain ⟨a, ws, i, y, m, c, rfl, hS, ho, hf, k⟩ := h
    rfl
  · obtain ⟨a, ws, i, y, m, c, rfl, hS, ho, hf, k⟩ := h
    obtain ⟨es, n, D⟩ := T.says.t.tab (ts := ts) 1
    refine ⟨_, (pss_cons (ps_set (i := 3) s_read_from.nd rfl (Or.inl rfl) (pe_ix ix_kdict (pe_gc rfl (T.gr 27)) (pv 2) (fun _ _ => rfl)))
      (pss_one (ps_ret (pe_loc (k := 11) (i := 3) hr (by decide) rfl (Or.inl rfl) (pa_cons (pv 0) (pa_cons (pv 1) pa_nil)))))), ?_⟩
    obtain ⟨u, hu, ru⟩ := T.rd y
    refine ⟨_, rfl, _, _, _, rfl, rfl, ⟨es, n, u, D.at_, D.lit, hu, ru⟩, ?_⟩
    refine ⟨_, (spRead K (readL y)), rfl, ?_, _, rfl, _, rfl, a, ws, i, m, c, rfl, hS, ho, hf, k⟩
    cases y with
    | parts => exact calAt (c_from_parts T) (by decide) (T.g 20)
    | inches => exact calAt (c_from_inches T) (by decide) (T.g 22)
    | halves => exact calAt (c_from_halves T) (by decide) (T.g 23)
    | words => exact calAt (c_from_words T) (by decide) (T.g 26)
end
end Fw
set_option Elab.async false
set_option linter.all false
set_option maxRecDepth 100000
set_option maxHeartbeats 4000000
namespace Fw
open PySem PySem.Spec PyProof.Rows L2
open C8 (Cal CalAt Met Mak pe_c pe_mk pe_mt pe_mt0 pe_gc InsC call_isC)
section
variable {P : Program} {w : World} {K : PySem.W.Frag} {mg : Str → Option Value} {base : Heap}
/-- a def by its body -/
theorem Txt.fnF (T : Txt w K mg) (i : Nat) {d : He.DefD} {N ps : List Str} {k : Nat} {sp : Sp} {f : Addr} (hf : He.fAd K d.at_ = f) (hd : fn[i]? = some d)
    (S : FnScope N ps d.scope) (len : ∀ vs H Q E, sp vs H Q E → vs.length = ps.length)
    (hbody : ∀ (cdv : Value) (A : Around) (outer : List Env) (s : Shared) (H : Hp) (vs : List V) (Q : VK) (E : XK), Room k (A.deeper (envOfC d.qual d.scope s.heap.objs.size (He.fAd K d.at_) cdv)) → sp vs H Q E →
      ∃ t, PSs (cxOf C8.CX0 P w K mg base N d.qual d.scope (He.fAd K d.at_) cdv A outer s H E).nox d.body t ∧ t { nx := fun _ H' => Q .non H', rt := Q } (start N vs) H) :
    ∃ fd, FunD K d.name d.qual d.params d.body d.scope (d.dvs K) (d.kws K) f fd ∧ FnOk P w K mg base C8.CX0 (k + 1) f fd ps sp := by
  subst hf
  obtain ⟨fd, F⟩ := T.says.t.d.def_ i hd
  exact ⟨fd, F, F.ok S len fun cdv A outer s H vs Q E hr h => by
    obtain ⟨t, p, q⟩ := hbody cdv A outer s H vs Q E hr h
    exact ⟨t, p.nox, q⟩⟩
/-- an __init__ -/
theorem Txt.ini (T : Txt w K mg) (i j : Nat) {C : Str} {d : He.DefD} {N ps : List Str} {k : Nat} {sp : Sp} (hd : fn[i]? = some d := by rfl) (hj : fa[j]? = some (.mkr C) := by rfl) (hx : He.fAd K d.at_ = He.ma K (He.ga K C) "__init__" := by rfl)
    (S : FnScope N ps d.scope) (len : ∀ vs H Q E, sp vs H Q E → vs.length = ps.length)
    (hbody : ∀ (cdv : Value) (A : Around) (outer : List Env) (s : Shared) (H : Hp) (vs : List V) (Q : VK) (E : XK), Room k (A.deeper (envOfC d.qual d.scope s.heap.objs.size (He.fAd K d.at_) cdv)) → sp vs H Q E →
      ∃ t, PSs (cxOf C8.CX0 P w K mg base N d.qual d.scope (He.fAd K d.at_) cdv A outer s H E).nox d.body t ∧ t { nx := fun _ H' => Q .non H', rt := Q } (start N vs) H) :
    ∃ fd, FunD K d.name d.qual d.params d.body d.scope (d.dvs K) (d.kws K) (He.ma K (He.ga K C) "__init__") fd ∧ FnOk P w K mg base C8.CX0 (k + 1) (He.ma K (He.ga K C) "__init__") fd ps sp := T.fnF i hx hd S len hbody
/-- a method with defaults -/
theorem Txt.metF (T : Txt w K mg) (i j : Nat) {C m : Str} {d : He.DefD} {N ps : List Str} {k : Nat} {sp : Sp} (hd : fn[i]? = some d := by rfl) (hj : fa[j]? = some (.meth C m) := by rfl) (hx : He.fAd K d.at_ = He.ma K (He.ga K C) m := by rfl)
    (S : FnScope N ps d.scope) (len : ∀ vs H Q E, sp vs H Q E → vs.length = ps.length)
    (hbody : ∀ (cdv : Value) (A : Around) (outer : List Env) (s : Shared) (H : Hp) (vs : List V) (Q : VK) (E : XK), Room k (A.deeper (envOfC d.qual d.scope s.heap.objs.size (He.fAd K d.at_) cdv)) → sp vs H Q E →
      ∃ t, PSs (cxOf C8.CX0 P w K mg base N d.qual d.scope (He.fAd K d.at_) cdv A outer s H E).nox d.body t ∧ t { nx := fun _ H' => Q .non H', rt := Q } (start N vs) H) :
    ∃ fd, FunD K d.name d.qual d.params d.body d.scope (d.dvs K) (d.kws K) (He.ma K (He.ga K C) m) fd ∧ FnOk P w K mg base C8.CX0 (k + 1) (He.ma K (He.ga K C) m) fd ps sp := T.fnF i hx hd S len hbody
/-- a method without defaults -/
theorem Txt.met (T : Txt w K mg) (i jc j : Nat) {C m : Str} {d : He.DefD} {N ps : List Str} {k : Nat} {sp : Sp} (hd : fn[i]? = some d := by rfl) (hc : fa[jc]? = some (.cls C) := by rfl) (hj : fa[j]? = some (.meth C m) := by rfl) (hx : He.fAd K d.at_ = He.ma K (He.ga K C) m := by rfl) (hn : d.dfl = [] := by rfl) (hk : d.kwd = [] := by rfl)
    (S : FnScope N ps d.scope) (hb : ∀ (kV doc pm : Value) (an : Option Addr) (cdv ct : Value) (us : List Value), us.length = ps.length → bindArgs (PySem.W.fnOf d.name d.qual d.params d.body d.scope .none kV doc pm an cdv ct) ⟨us, []⟩ = pure (ps.zip us))
    (len : ∀ vs H Q E, sp vs H Q E → vs.length = ps.length)
    (hbody : ∀ (cdv : Value) (A : Around) (outer : List Env) (s : Shared) (H : Hp) (vs : List V) (Q : VK) (E : XK), Room k (A.deeper (envOfC d.qual d.scope s.heap.objs.size (He.fAd K d.at_) cdv)) → sp vs H Q E →
      ∃ t, PSs (cxOf C8.CX0 P w K mg base N d.qual d.scope (He.fAd K d.at_) cdv A outer s H E).nox d.body t ∧ t { nx := fun _ H' => Q .non H', rt := Q } (start N vs) H) : Met P w K mg base (k + 1) (He.ga K C) m sp [] := by
  obtain ⟨fd, F, G⟩ := T.fnF i hx hd S len hbody
  have e1 : d.dvs K = [] := by unfold He.DefD.dvs; rw [hn]; rfl
  have e2 : d.kws K = [] := by unfold He.DefD.kws; rw [hk]; rfl
  rw [e1, e2] at F
  exact ⟨_, fd, ps, [], T.cl jc hc, T.me j hj, G, F.bindsN hb, .nil⟩
theorem insB_ok {C : Addr} (c : Cls K C) (h : insB K C = true) : InsC K C := by
  obtain ⟨h1, h⟩ := He.ba h
  obtain ⟨h2, h⟩ := He.ba h
  obtain ⟨h3, h⟩ := He.ba h
  obtain ⟨h4, h⟩ := He.ba h
  obtain ⟨h5, h6⟩ := He.ba h
  exact ⟨c, He.eqO_ok h1, He.eqO_ok h2, of_decide_eq_true h3, of_decide_eq_true h4, of_decide_eq_true h5⟩
theorem insB_ne {C : Addr} (h : insB K C = true) : PySem.W.findIn K (.ref C) "__ne__" = some (some (.builtin "object.__ne__")) := He.eqO_ok (He.ba (He.ba (He.ba (He.ba (He.ba h).2).2).2).2).2
/-! spans as objects -/
def spF (s a b : Int) : List (Str × V) := [("size", .int s), ("above", .int a), ("below", .int b), ("low", .int (s - b)), ("high", .int (s + a))]
def SpanAt (K : PySem.W.Frag) (H : Hp) (p : Addr) (s a b : Int) : Prop := ∃ dx, H p = some (.ins (He.ga K "Span") dx (spF s a b))
theorem SpanAt.ext {H H' : Hp} {p : Addr} {s a b : Int} (h : SpanAt K H p s a b) (e : Same H H') : SpanAt K H' p s a b := by
  obtain ⟨dx, h⟩ := h
  exact ⟨dx, e _ _ h⟩
/-- a new span -/
def RetS (K : PySem.W.Frag) (H : Hp) (s a b : Int) (Q : VK) : Prop := ∀ p H', H p = none → Same H H' → SpanAt K H' p s a b → Q (.ref p) H'
/-! o.m(e, .., k = v, ..) -/
def tMethN (C : Addr) (m : Str) (n mm : Nat) (sp : Sp) (gV : List V → List V → List V) (E : XK) (ta : TE) (t tk : TA) : TE := fun σ H Q => ta σ H fun x H1 => ∃ a dx fs, x = .ref a ∧ H1 a = some (.ins C dx fs) ∧ fs.lookup m = none ∧
  t σ H1 fun vs H2 => tk σ H2 fun zs H3 => vs.length = n ∧ zs.length = mm ∧ sp (gV (.ref a :: vs) zs) H3 Q E
theorem run_fnN {X : Cx} {CX : CXT} {k n : Nat} {f : Addr} {fd : FuncData} {ps ks : List Str} {sp : Sp} {E : XK} {g : List Value → List Value → List Value} {gV : List V → List V → List V} {pins : List (Addr × Obj)} {σ : L2.St} {H : Hp} {s : Shared} {Q : VK} {us ws : List Value} {vs zs : List V}
    (F : FnOk X.prog X.w X.K X.mg X.base CX k f fd ps sp) (hr : Room k X.A) (hb : KBn X.K fd ps n ks g gV) (hx : Passes CX X E) (I : Inv X pins σ H s) (r : Vals vs us) (rz : Vals zs ws) (l1 : vs.length = n) (l2 : zs.length = ks.length)
    (h : sp (gV vs zs) H Q E) : wpAny (model X.prog X.w) X.A (call (.ref f) us (ks.zip ws)) (EP X pins σ Q) X.xe s := by
  have r2 := hb.rel r rz
  have e1 : us.length = n := r.length.symm.trans l1
  have e2 : ws.length = ks.length := rz.length.symm.trans l2
  refine wpAny_call (codeAny_mono (F.run X.A X.stack s H ⟨us, ks.zip ws⟩ (g us ws) (gV vs zs) Q E hr I.env0 (hb.to _ us ws I.kIn e1 e2) r2 h) fun r s' hq => ?_)
  cases r with
  | error e => exact hx pins σ H s e s' I hq
  | ok fl =>
    cases fl with
    | ret u => exact I.after hq
    | next => exact False.elim hq
    | brk => exact False.elim hq
    | cont => exact False.elim hq
theorem pe_methN {X : Cx} {CX : CXT} {k n : Nat} {f C : Addr} {fd : FuncData} {m : Str} {ps ks : List Str} {sp : Sp} {E : XK} {o e : Expr} {es : List Expr} {kws : List Keyword} {apos pos : Pos} {g : List Value → List Value → List Value} {gV : List V → List V → List V} {ta : TE} {t tk : TA} {pl : Sem Bool}
    (he : PE X o ta) (c : Cls X.K C) (hm : Meth X.K C m f) (F : FnOk X.prog X.w X.K X.mg X.base CX k f fd ps sp) (hr : Room k X.A) (hb : KBn X.K fd ps (n + 1) ks g gV) (hx : Passes CX X E) (ha : PA X (e :: es) t) (hkw : PK X kws tk)
    (hall : (backToKw pos (keywordEach kws X.env)).all (·.1.isSome) = true := by rfl) (hks : (backToKw pos (keywordEach kws X.env)).filterMap (·.1) = ks := by rfl)
    (hst : starEach (e :: es) X.env = (false, eval e X.env) :: starEach es X.env := by rfl)
    (hpl : ((backTo pos (starEach (e :: es) X.env)).any (·.1) || (backToKw pos (keywordEach kws X.env)).any (·.1.isNone)) = false := by rfl)
    (ht : eval (.Call (.Attribute o m apos) (e :: es) kws pos) X.env = (do
      let ov ← eval o X.env
      standAt apos.atName
      let (f, first) ← holding [ov] (getMethod ov m pl)
      callWith pos f first (backTo pos (starEach (e :: es) X.env)) (backToKw pos (keywordEach kws X.env))) := by rfl) :
    PE X (.Call (.Attribute o m apos) (e :: es) kws pos) (tMethN C m n ks.length sp gV E ta t tk) := by
  refine ⟨fun pins s σ H Q I h => ?_⟩
  refine PySem.W.methodCall_KW (pl := pl) (thn (he.run pins s σ H _ I h) fun u s1 ⟨x, H1, I1, rx, a, dx, fs, ex, ea, l, q⟩ => ?_) ht
  subst ex
  obtain rfl : u = Value.ref a := rx
  refine getmeth_ok I1 ea c hm l ?_
  refine PySem.W.callWith_KW (first := [.ref a]) (h₀ := X.base) I.ok.mod.kin hm.kp hall (thn (ha.run pos pins s1 σ H1 _ I1 q) fun us s2 ⟨vs, H2, I2, r, q⟩ => ?_) hpl hst
  refine thn (hkw.run pos pins s2 σ H2 _ I2 q) fun ws s3 ⟨zs, H3, I3, rz, l1, l2, q2⟩ => ⟨I3.kIn, ?_⟩
  rw [hks]
  exact run_fnN (n := n + 1) (us := .ref a :: us) (vs := .ref a :: vs) F hr hb hx I3 (.cons rfl r) rz (congrArg Nat.succ l1) l2 q2
/-! len(o) by the text's own __len__ -/
theorem call_lenI {X : Cx} {C f : Addr} {fd : FuncData} {k j : Nat} {ps : List Str} {sp : Sp} (F : FnOk X.prog X.w X.K X.mg X.base C8.CX0 k f fd ps sp) (hs : PySem.W.findIn X.K (.ref C) "__len__" = some (some (.ref f))) (hf : PySem.W.isFn X.K (.ref f) = true) (hb : Binds X.K fd ps []) (hr : Room j X.A) (hk : k + 1 ≤ j) :
    CallR X (.builtin "len") (fun xs H Q => ∃ a dx fs, xs = [.ref a] ∧ H a = some (.ins C dx fs) ∧ sp [.ref a] H (fun v H' => ∃ i : Int, v = .int i ∧ 0 ≤ i ∧ i < 2 ^ 63 ∧ Q (.int i) H') C8.E0) := by
  intro pins s σ H xs us Q I r h
  obtain ⟨a, dx, fs, rfl, ha, hsp⟩ := h
  obtain ⟨u, rfl, rx⟩ := vals1 r
  cases rx
  obtain ⟨mA, J, _⟩ := ins_get I.hok ha
  obtain ⟨od, J, _⟩ := J.look
  obtain ⟨m, hF⟩ := I.fr
  refine PySem.W.len_K hF I.ok.mod.kin J hs hf ?_
  have hl := F.len _ _ _ _ hsp
  have e0 : Env0 X.prog X.w X.K X.mg X.base X.A.in1 X.stack s H := by
    have e := I.env0
    exact ⟨e.frames, e.mod, e.bs, e.bsz, e.funs, e.frf, e.hok, e.bare⟩
  refine wpAny_call (codeAny_mono (F.run X.A.in1 X.stack s H ⟨[.ref a], []⟩ [.ref a] [.ref a] _ C8.E0 ((hr.mono hk).in1) e0 (by
    have := hb s [.ref a] I.kIn (by simpa using hl)
    simpa using this) (.cons rfl .nil) hsp) fun r s' hq => ?_)
  cases r with
  | error e => exact (C8.pass0 (E := C8.E0) pins σ H s e s' I hq)
  | ok fl =>
    cases fl with
    | ret w =>
      obtain ⟨z, H', I', rz, i, ez, h0, h1, q⟩ := I.after hq
      subst ez
      obtain ⟨t, rfl⟩ := rz
      exact ⟨⟨h0, h1⟩, ⟨.int i, H', I'.tok _, ⟨_, rfl⟩, q⟩⟩
    | next => exact False.elim hq
    | brk => exact False.elim hq
    | cont => exact False.elim hq
/-! len(range(..)) -/
def tLenRg (te : L2.St → Hp → (Int → Int → Hp → Prop) → Prop) : TE := fun σ H Q => te σ H fun a b H1 => (b - a).toNat < 4611686018427387904 ∧ Q (.int (((b - a).toNat : Nat) : Int)) H1
theorem pe_lenRg {X : Cx} {e : Expr} {te : L2.St → Hp → (Int → Int → Hp → Prop) → Prop} {p pos : Pos} (hg : Gl X "len") (hm : X.mg "len" = none) (he : PRg X e te) (na : starEach [e] X.env = (false, eval e X.env) :: starEach [] X.env := by rfl) : PE X (.Call (.Name "len" p) [e] [] pos) (tLenRg te) := by
  refine ⟨fun pins s σ H Q I h => ?_⟩
  refine wpAny_Call_Name_kw (ld_blt I hg hm boot_len (PyProof.Rows.callWith_builtin1 (args_cons (thn (he pins s σ H _ I h) fun x s1 ⟨r, a, b, t, u, v, H1, ex, hr, I1, ok, q⟩ => args_nil ?_) na) na))
  subst ex
  exact call_len_range hr (rangeSize_nat a b) (by omega) ⟨.int _, H1, I1.tok _, ⟨_, rfl⟩, q⟩
end
end Fw
set_option Elab.async false
set_option linter.all false
set_option maxRecDepth 100000
set_option maxHeartbeats 4000000
namespace Fw
open PySem PySem.Spec PyProof.Rows L2
open C8 (Cal CalAt Met Mak pe_c pe_mk pe_mt pe_mt0 pe_gc InsC call_isC)

section
variable {P : Program} {w : World} {K : PySem.W.Frag} {mg : Str → Option Value} {base : Heap}

theorem Txt.inS (T : Txt w K mg) : InsC K (He.ga K "Span") := insB_ok (T.cl 118) T.insS
theorem Txt.inD (T : Txt w K mg) : InsC K (He.ga K "Drawing") := insB_ok (T.cl 131) T.insD
/-- a class that may be made with keywords -/
structure MakN (P : Program) (w : World) (K : PySem.W.Frag) (mg : Str → Option Value) (base : Heap) (k : Nat) (x : Str) (C : Addr) (n : Nat) (ks : List Str) (sp : Sp) (gV : List V → List V → List V) : Prop where
  ex : ∃ (f : Addr) (fd : FuncData) (ps : List Str) (g : List Value → List Value → List Value), Mk K C f ∧ FnOk P w K mg base C8.CX0 k f fd ps sp ∧ mg x = some (.ref C) ∧ KBn K fd ps (n + 1) ks g gV
theorem pe_mkN {X : Cx} {k j n : Nat} {x : Str} {C : Addr} {ks : List Str} {sp : Sp} {gV : List V → List V → List V} {p pos : Pos} {e : Expr} {es : List Expr} {kws : List Keyword} {t tk : TA}
    (c : MakN X.prog X.w X.K X.mg X.base k x C n ks sp gV) (hr : Room j X.A) (hk : k + 1 ≤ j) (hg : Gl X x) (ha : PA X (e :: es) t) (hkw : PK X kws tk)
    (hall : (backToKw pos (keywordEach kws X.env)).all (·.1.isSome) = true := by rfl) (hks : (backToKw pos (keywordEach kws X.env)).filterMap (·.1) = ks := by rfl)
    (hdb : (x == ("__debug__" : Str)) = false := by decide) (he : starEach (e :: es) X.env = (false, eval e X.env) :: starEach es X.env := by rfl)
    (hpl : ((backTo pos (starEach (e :: es) X.env)).any (·.1) || (backToKw pos (keywordEach kws X.env)).any (·.1.isNone)) = false := by rfl) :
    PE X (.Call (.Name x p) (e :: es) kws pos) (tMakeN C n ks.length sp gV C8.E0 t tk) := by
  obtain ⟨f, fd, ps, g, M, F, hm, b⟩ := c.ex
  exact pe_makeN M F (hr.mono hk) hg hm b C8.pass0 ha hkw hall hks hdb he hpl
/-- a method that may be called with keywords -/
structure MetN (P : Program) (w : World) (K : PySem.W.Frag) (mg : Str → Option Value) (base : Heap) (k : Nat) (C : Addr) (m : Str) (n : Nat) (ks : List Str) (sp : Sp) (gV : List V → List V → List V) : Prop where
  ex : ∃ (f : Addr) (fd : FuncData) (ps : List Str) (g : List Value → List Value → List Value), Cls K C ∧ Meth K C m f ∧ FnOk P w K mg base C8.CX0 k f fd ps sp ∧ KBn K fd ps (n + 1) ks g gV
theorem pe_mtN {X : Cx} {k j n : Nat} {C : Addr} {m : Str} {ks : List Str} {sp : Sp} {gV : List V → List V → List V} {apos pos : Pos} {o e : Expr} {es : List Expr} {kws : List Keyword} {ta : TE} {t tk : TA} {pl : Sem Bool}
    (c : MetN X.prog X.w X.K X.mg X.base k C m n ks sp gV) (hr : Room j X.A) (hk : k ≤ j) (he : PE X o ta) (ha : PA X (e :: es) t) (hkw : PK X kws tk)
    (hall : (backToKw pos (keywordEach kws X.env)).all (·.1.isSome) = true := by rfl) (hks : (backToKw pos (keywordEach kws X.env)).filterMap (·.1) = ks := by rfl)
    (hst : starEach (e :: es) X.env = (false, eval e X.env) :: starEach es X.env := by rfl)
    (hpl : ((backTo pos (starEach (e :: es) X.env)).any (·.1) || (backToKw pos (keywordEach kws X.env)).any (·.1.isNone)) = false := by rfl)
    (ht : eval (.Call (.Attribute o m apos) (e :: es) kws pos) X.env = (do
      let ov ← eval o X.env
      standAt apos.atName
      let (f, first) ← holding [ov] (getMethod ov m pl)
      callWith pos f first (backTo pos (starEach (e :: es) X.env)) (backToKw pos (keywordEach kws X.env))) := by rfl) :
    PE X (.Call (.Attribute o m apos) (e :: es) kws pos) (tMethN C m n ks.length sp gV C8.E0 ta t tk) := by
  obtain ⟨f, fd, ps, g, c, hm, F, b⟩ := c.ex
  exact pe_methN (pl := pl) he c hm F (hr.mono hk) b C8.pass0 ha hkw hall hks hst hpl ht
def spAllow : Sp := fun vs H Q _ => ∃ a b : Int, vs = [.int a, .int b] ∧ 0 ≤ a + b ∧ Q .non H
theorem s_check_allowance : FnScope ["above", "below"] ["above", "below"] d_check_allowance.scope := ⟨rfl, rfl, rfl, by decide +kernel, rfl, by decide +kernel, by decide +kernel⟩
theorem c_check_allowance (T : Txt w K mg) : Cal P w K mg base 2 "check_allowance" spAllow [] := by
  refine T.cal 24 29 (d := d_check_allowance) (S := s_check_allowance) (hb := fun _ _ _ _ _ _ us hl => match us, hl with | [_, _], _ => rfl) (len := fun vs H Q E h => ?_) (hbody := fun cdv A outer s H vs Q E hr h => ?_)
  · obtain ⟨a, b, rfl, hab, k⟩ := h
    rfl
  · obtain ⟨a, b, rfl, hab, k⟩ := h
    refine ⟨_, (pss_one (ps_if (PW.pt (pw_or (pt_not (pt_val (pe_c (c_is_measure T) hr (by decide) rfl (pa_cons (pv 0) pa_nil)))) (pw_or (pt_not (pt_val (pe_c (c_is_measure T) hr (by decide) rfl (pa_cons (pv 1) pa_nil)))) (pw_or1 (pt_cmpR op_lt (pe_op op_add (pv 0) (pv 1)) pe_int (nomark _)))))) (pss_one ps_never) pss_nil)), ?_⟩
    refine ⟨_, rfl, a, rfl, true, rfl, ?_⟩
    refine ⟨_, rfl, b, rfl, true, rfl, ?_⟩
    refine ⟨_, rfl, _, rfl, _, _, rfl, rfl, _, _, rfl, rfl, _, rfl, ?_⟩
    rw [decide_eq_false (by omega)]
    exact k
def spSpanInit (K : PySem.W.Frag) : Sp := fun vs H Q _ => ∃ x dx s a b, vs = [.ref x, .int s, .int a, .int b] ∧ 0 ≤ a + b ∧ H x = some (.ins (He.ga K "Span") dx []) ∧ Q .non (upd H x (.ins (He.ga K "Span") dx (spF s a b)))
theorem s_Span_init : FnScope ["self", "size", "above", "below"] ["self", "size", "above", "below"] d_Span_init.scope := ⟨rfl, rfl, rfl, by decide +kernel, rfl, by decide +kernel, by decide +kernel⟩
theorem f_Span_init (T : Txt w K mg) : ∃ fd, FunD K d_Span_init.name d_Span_init.qual d_Span_init.params d_Span_init.body d_Span_init.scope (d_Span_init.dvs K) (d_Span_init.kws K) (He.ma K (He.ga K "Span") "__init__") fd ∧ FnOk P w K mg base C8.CX0 3 (He.ma K (He.ga K "Span") "__init__") fd ["self", "size", "above", "below"] (spSpanInit K) := by
  refine T.ini 25 119 (d := d_Span_init) (S := s_Span_init) (len := fun vs H Q E h => ?_) (hbody := fun cdv A outer s H vs Q E hr h => ?_)
  · obtain ⟨x, dx, s, a, b, rfl, hab, hx, k⟩ := h
    rfl
  · obtain ⟨x, dx, s, a, b, rfl, hab, hx, k⟩ := h
    have cl := T.cl 118
    refine ⟨_, (pss_cons (ps_expr (pe_c (c_check_measure T) hr (by decide) rfl (pa_cons (pv 1) pa_nil)))
      (pss_cons (ps_expr (pe_c (c_check_allowance T) hr (by decide) rfl (pa_cons (pv 2) (pa_cons (pv 3) pa_nil))))
      (pss_cons (ps_fld (pv 0) (pv 1) rfl)
      (pss_cons (ps_fld (pv 0) (pv 2) rfl)
      (pss_cons (ps_fld (pv 0) (pv 3) rfl)
      (pss_cons (ps_fld (pv 0) (pe_op op_sub (pv 1) (pv 3)) rfl)
      (pss_one (ps_fld (pv 0) (pe_op op_add (pv 1) (pv 2)) rfl)))))))), ?_⟩
    refine ⟨_, rfl, s, rfl, _, rfl, _, rfl, a, b, rfl, hab, ?_⟩
    refine ⟨_, rfl, _, rfl, x, _, dx, _, rfl, hx, cl, T.na 120, Nat.le_of_ble_eq_true rfl, ?_⟩
    refine ⟨_, rfl, _, rfl, x, _, dx, _, rfl, upd_same, cl, T.na 121, Nat.le_of_ble_eq_true rfl, ?_⟩
    refine ⟨_, rfl, _, rfl, x, _, dx, _, rfl, upd_same, cl, T.na 122, Nat.le_of_ble_eq_true rfl, ?_⟩
    refine ⟨_, rfl, _, rfl, _, _, rfl, rfl, _, rfl, x, _, dx, _, rfl, upd_same, cl, T.na 123, Nat.le_of_ble_eq_true rfl, ?_⟩
    refine ⟨_, rfl, _, rfl, _, _, rfl, rfl, _, rfl, x, _, dx, _, rfl, upd_same, cl, T.na 124, Nat.le_of_ble_eq_true rfl, ?_⟩
    rw [upd_upd, upd_upd, upd_upd, upd_upd]
    exact k
theorem b_Span {fd : FuncData} {f : Addr} (F : FunD K d_Span_init.name d_Span_init.qual d_Span_init.params d_Span_init.body d_Span_init.scope (d_Span_init.dvs K) (d_Span_init.kws K) f fd) :
    (∃ ds, Vals [] ds ∧ Binds K fd ["self", "size", "above", "below"] ds) ∧ (∃ ds, Vals [.int 0, .int 0] ds ∧ Binds K fd ["self", "size", "above", "below"] ds) ∧
    ∃ its : List Value, KBn K fd ["self", "size", "above", "below"] 2 ["above", "below"] (fun us ws => us ++ ws) (fun vs zs => vs ++ zs) := by
  refine ⟨?_, ?_, ?_⟩
  · exact F.binds1 4 2 (fun h => by cases h) rfl fun T kV doc pm an cdv ct us its h1 h2 => match us, its, h1, h2 with | [_, _, _, _], [_, _], _, _ => ⟨_, rfl, rfl⟩
  · exact F.binds1 2 0 (fun h => by cases h) rfl fun T kV doc pm an cdv ct us its h1 h2 => match us, its, h1, h2 with | [_, _], [_, _], _, _ => ⟨_, rfl, rfl⟩
  · exact F.kbindsD 2 ["above", "below"] (fun us _ ws => us ++ ws) (fun h => by cases h) (fun r1 _ r3 => r1.append r3) fun T kV doc pm an cdv ct us its ws h1 h2 h3 => match us, its, ws, h1, h2, h3 with | [_, _], [_, _], [_, _], _, _, _ => ⟨_, rfl, rfl⟩
theorem m_Span3 (T : Txt w K mg) : Mak P w K mg base 3 "Span" (He.ga K "Span") (spSpanInit K) [] := by
  obtain ⟨fd, F, G⟩ := f_Span_init (P := P) (base := base) T
  obtain ⟨⟨ds, d, b⟩, _, _⟩ := b_Span F
  exact ⟨_, fd, _, ds, T.mkr 119, G, T.g 30, b, d⟩
theorem m_Span1 (T : Txt w K mg) : Mak P w K mg base 3 "Span" (He.ga K "Span") (spSpanInit K) [.int 0, .int 0] := by
  obtain ⟨fd, F, G⟩ := f_Span_init (P := P) (base := base) T
  obtain ⟨_, ⟨ds, d, b⟩, _⟩ := b_Span F
  exact ⟨_, fd, _, ds, T.mkr 119, G, T.g 30, b, d⟩
theorem mk_Span (T : Txt w K mg) : MakN P w K mg base 3 "Span" (He.ga K "Span") 1 ["above", "below"] (spSpanInit K) (fun vs zs => vs ++ zs) := by
  obtain ⟨fd, F, G⟩ := f_Span_init (P := P) (base := base) T
  obtain ⟨_, _, its, b⟩ := b_Span F
  exact ⟨_, fd, _, _, T.mkr 119, G, T.g 30, b⟩
/-- the new span, as its maker promises it -/
theorem mkS {H : Hp} {s a b : Int} {Q : VK} {E : XK} (hab : 0 ≤ a + b) (k : RetS K H s a b Q) : ∀ x dx, H x = none → H dx = none → dx ≠ x → spSpanInit K [.ref x, .int s, .int a, .int b] (upd (upd H dx (.own x)) x (.ins (He.ga K "Span") dx [])) (fun v H2 => v = .non ∧ Q (.ref x) H2) E := by
  intro x dx hx hd hn
  refine ⟨x, dx, s, a, b, rfl, hab, upd_same, rfl, ?_⟩
  rw [upd_upd]
  exact k x _ hx (same_mut (same_new hd) hx) ⟨dx, upd_same⟩
def spS1 (K : PySem.W.Frag) (r : V) : Sp := fun vs H Q _ => ∃ p s a b, vs = [.ref p] ∧ SpanAt K H p s a b ∧ Q r H
theorem s_check_span : FnScope ["thing"] ["thing"] d_check_span.scope := ⟨rfl, rfl, rfl, by decide +kernel, rfl, by decide +kernel, by decide +kernel⟩
theorem c_check_span (T : Txt w K mg) : Cal P w K mg base 1 "check_span" (spS1 K .non) [] := by
  refine T.cal 32 31 (d := d_check_span) (S := s_check_span) (hb := fun _ _ _ _ _ _ us hl => match us, hl with | [_], _ => rfl) (len := fun vs H Q E h => ?_) (hbody := fun cdv A outer s H vs Q E hr h => ?_)
  · obtain ⟨p, s, a, b, rfl, ⟨dx, hp⟩, k⟩ := h
    rfl
  · obtain ⟨p, s, a, b, rfl, ⟨dx, hp⟩, k⟩ := h
    refine ⟨_, (pss_one (ps_if (pt_not (pt_val (pe_callB (id := "isinstance") (call_isC T.inS) (by rfl) (T.f 103) (by decide +kernel) (pa_cons (pv 0) (pa_cons (pe_gc rfl (T.gr 30)) pa_nil))))) (pss_one ps_never) pss_nil)), ?_⟩
    refine ⟨_, rfl, p, dx, _, rfl, hp, _, rfl, ?_⟩
    exact k
def spLets (K : PySem.W.Frag) : Sp := fun vs H Q _ => ∃ p s a b m, vs = [.ref p, .int m] ∧ SpanAt K H p s a b ∧ Q (.bl (decide (s - b ≤ m) && decide (m ≤ s + a))) H
theorem s_Span_lets : FnScope ["self", "measure"] ["self", "measure"] d_Span_lets.scope := ⟨rfl, rfl, rfl, by decide +kernel, rfl, by decide +kernel, by decide +kernel⟩
theorem c_Span_lets (T : Txt w K mg) : Met P w K mg base 3 (He.ga K "Span") "lets" (spLets K) [] := by
  refine T.met 28 118 127 (d := d_Span_lets) (S := s_Span_lets) (hb := fun _ _ _ _ _ _ us hl => match us, hl with | [_, _], _ => rfl) (len := fun vs H Q E h => ?_) (hbody := fun cdv A outer s H vs Q E hr h => ?_)
  · obtain ⟨p, s, a, b, m, rfl, ⟨dx, hp⟩, k⟩ := h
    rfl
  · obtain ⟨p, s, a, b, m, rfl, ⟨dx, hp⟩, k⟩ := h
    have cl := T.cl 118
    refine ⟨_, (pss_cons (ps_expr (pe_c (c_check_measure T) hr (by decide) rfl (pa_cons (pv 1) pa_nil)))
      (pss_one (ps_ret (pe_chain op_le op_le (pe_fld (pv 0) rfl) (pv 1) (pe_fld (pv 0) rfl))))), ?_⟩
    refine ⟨_, rfl, m, rfl, ?_⟩
    refine ⟨_, rfl, p, _, dx, _, _, rfl, hp, cl, T.na 123, rfl, ?_⟩
    refine ⟨_, rfl, _, _, rfl, rfl, _, rfl, ?_⟩
    refine ite2 (fun h => ?_) (fun h => ?_)
    · refine ⟨_, rfl, p, _, dx, _, _, rfl, hp, cl, T.na 124, rfl, _, _, rfl, rfl, ?_⟩
      rw [h] at k
      exact k
    · rw [Bool.eq_false_iff.mpr h] at k
      exact k
def spEqS (K : PySem.W.Frag) : Sp := fun vs H Q _ => ∃ p q s a b s2 a2 b2, vs = [.ref p, .ref q] ∧ SpanAt K H p s a b ∧ SpanAt K H q s2 a2 b2 ∧ s - b = s2 - b2 ∧ s + a = s2 + a2 ∧ ∀ H', Same H H' → Q (.bl true) H'
theorem s_Span_eq : FnScope ["self", "other"] ["self", "other"] d_Span_eq.scope := ⟨rfl, rfl, rfl, by decide +kernel, rfl, by decide +kernel, by decide +kernel⟩
theorem c_Span_eq (T : Txt w K mg) : Met P w K mg base 1 (He.ga K "Span") "__eq__" (spEqS K) [] := by
  refine T.met 26 118 125 (d := d_Span_eq) (S := s_Span_eq) (hb := fun _ _ _ _ _ _ us hl => match us, hl with | [_, _], _ => rfl) (len := fun vs H Q E h => ?_) (hbody := fun cdv A outer s H vs Q E hr h => ?_)
  · obtain ⟨p, q, s, a, b, s2, a2, b2, rfl, ⟨dx, hp⟩, ⟨dy, hq⟩, e1, e2, k⟩ := h
    rfl
  · obtain ⟨p, q, s, a, b, s2, a2, b2, rfl, ⟨dx, hp⟩, ⟨dy, hq⟩, e1, e2, k⟩ := h
    have cl := T.cl 118
    refine ⟨_, (pss_one (ps_ret (pe_and (pe_callB (id := "isinstance") (call_isC T.inS) (by rfl) (T.f 103) (by decide +kernel) (pa_cons (pv 1) (pa_cons (pe_gc rfl (T.gr 30)) pa_nil))) (pe_one (pe_cmpR (op_eqT (α := PySem.W.Tup Int) hr.units (by decide)) (pe_tup (pa_cons (pe_fld (pv 0) rfl) (pa_cons (pe_fld (pv 0) rfl) pa_nil))) (pe_tup (pa_cons (pe_fld (pv 1) rfl) (pa_cons (pe_fld (pv 1) rfl) pa_nil))) (nomark _)))))), ?_⟩
    refine ⟨_, rfl, q, dy, _, rfl, hq, _, rfl, ?_⟩
    refine iteT ?_
    refine ⟨_, rfl, p, _, dx, _, _, rfl, hp, cl, T.na 123, rfl, ?_⟩
    refine ⟨_, rfl, p, _, dx, _, _, rfl, hp, cl, T.na 124, rfl, ?_⟩
    refine ⟨sz2, fun t ht => ?_⟩
    refine ⟨_, rfl, q, _, dy, _, _, rfl, (same_new ht) _ _ hq, cl, T.na 123, rfl, ?_⟩
    refine ⟨_, rfl, q, _, dy, _, _, rfl, (same_new ht) _ _ hq, cl, T.na 124, rfl, ?_⟩
    refine ⟨sz2, fun t2 ht2 => ?_⟩
    refine ⟨⟨[s - b, s + a]⟩, ⟨[s2 - b2, s2 + a2]⟩, dp_tints (SqT.of ((same_new ht2) _ _ upd_same)), dp_tints (SqT.of upd_same), ?_⟩
    rw [decide_eq_true (show (⟨[s - b, s + a]⟩ : PySem.W.Tup Int) = ⟨[s2 - b2, s2 + a2]⟩ by rw [e1, e2])]
    exact k _ ((same_new ht).trans (same_new ht2))
theorem s_Span_len : FnScope ["self"] ["self"] d_Span_len.scope := ⟨rfl, rfl, rfl, by decide +kernel, rfl, by decide +kernel, by decide +kernel⟩
theorem c_Span_len (T : Txt w K mg) : Met P w K mg base 1 (He.ga K "Span") "__len__" (fun vs H Q _ => ∃ p s a b, vs = [.ref p] ∧ SpanAt K H p s a b ∧ (s + a + 1 - (s - b)).toNat < 4611686018427387904 ∧ Q (.int (((s + a + 1 - (s - b)).toNat : Nat) : Int)) H) [] := by
  refine T.met 27 118 126 (d := d_Span_len) (S := s_Span_len) (hb := fun _ _ _ _ _ _ us hl => match us, hl with | [_], _ => rfl) (len := fun vs H Q E h => ?_) (hbody := fun cdv A outer s H vs Q E hr h => ?_)
  · obtain ⟨p, s, a, b, rfl, ⟨dx, hp⟩, hl, k⟩ := h
    rfl
  · obtain ⟨p, s, a, b, rfl, ⟨dx, hp⟩, hl, k⟩ := h
    have cl := T.cl 118
    refine ⟨_, (pss_one (ps_ret (pe_lenRg rfl (T.f 104) (prg_2 rfl (T.f 108) (pe_fld (pv 0) rfl) (pe_op op_add (pe_fld (pv 0) rfl) pe_int))))), ?_⟩
    refine ⟨_, rfl, p, _, dx, _, _, rfl, hp, cl, T.na 123, rfl, ?_⟩
    refine ⟨_, rfl, p, _, dx, _, _, rfl, hp, cl, T.na 124, rfl, ?_⟩
    exact ⟨_, _, rfl, rfl, _, _, rfl, rfl, hl, k⟩
theorem s_Span_turned : FnScope ["self"] ["self"] d_Span_turned.scope := ⟨rfl, rfl, rfl, by decide +kernel, rfl, by decide +kernel, by decide +kernel⟩
theorem c_Span_turned (T : Txt w K mg) : Met P w K mg base 5 (He.ga K "Span") "turned" (fun vs H Q _ => ∃ p s a b, vs = [.ref p] ∧ SpanAt K H p s a b ∧ 0 ≤ a + b ∧ RetS K H (0 - s) b a Q) [] := by
  refine T.met 31 118 130 (d := d_Span_turned) (S := s_Span_turned) (hb := fun _ _ _ _ _ _ us hl => match us, hl with | [_], _ => rfl) (len := fun vs H Q E h => ?_) (hbody := fun cdv A outer s H vs Q E hr h => ?_)
  · obtain ⟨p, s, a, b, rfl, ⟨dx, hp⟩, hab, k⟩ := h
    rfl
  · obtain ⟨p, s, a, b, rfl, ⟨dx, hp⟩, hab, k⟩ := h
    have cl := T.cl 118
    refine ⟨_, (pss_one (ps_ret (pe_mkN (mk_Span T) hr (by decide) rfl (pa_cons (pe_op op_sub pe_int (pe_fld (pv 0) rfl)) pa_nil) (pk_cons (pe_fld (pv 0) rfl) (pk_cons (pe_fld (pv 0) rfl) pk_nil))))), ?_⟩
    refine ⟨_, rfl, p, _, dx, _, _, rfl, hp, cl, T.na 120, rfl, ?_⟩
    refine ⟨_, _, rfl, rfl, ?_⟩
    refine ⟨_, rfl, p, _, dx, _, _, rfl, hp, cl, T.na 122, rfl, ?_⟩
    refine ⟨_, rfl, p, _, dx, _, _, rfl, hp, cl, T.na 121, rfl, ?_⟩
    exact ⟨rfl, rfl, mkS (by omega) k⟩
def spTwo (K : PySem.W.Frag) (f : Int → Int → Int → Int → Int → Int → Int × Int × Int) : Sp := fun vs H Q _ => ∃ p q s a b s2 a2 b2, vs = [.ref p, .ref q] ∧ SpanAt K H p s a b ∧ SpanAt K H q s2 a2 b2 ∧ 0 ≤ a + b ∧ 0 ≤ a2 + b2 ∧ RetS K H (f s a b s2 a2 b2).1 (f s a b s2 a2 b2).2.1 (f s a b s2 a2 b2).2.2 Q
theorem s_Span_plus : FnScope ["self", "other"] ["self", "other"] d_Span_plus.scope := ⟨rfl, rfl, rfl, by decide +kernel, rfl, by decide +kernel, by decide +kernel⟩
theorem c_Span_plus (T : Txt w K mg) : Met P w K mg base 5 (He.ga K "Span") "plus" (spTwo K fun s a b s2 a2 b2 => (s + s2, a + a2, b + b2)) [] := by
  refine T.met 29 118 128 (d := d_Span_plus) (S := s_Span_plus) (hb := fun _ _ _ _ _ _ us hl => match us, hl with | [_, _], _ => rfl) (len := fun vs H Q E h => ?_) (hbody := fun cdv A outer s H vs Q E hr h => ?_)
  · obtain ⟨p, q, s, a, b, s2, a2, b2, rfl, hp0, hq0, h1, h2, k⟩ := h
    rfl
  · obtain ⟨p, q, s, a, b, s2, a2, b2, rfl, hp0, hq0, h1, h2, k⟩ := h
    have cl := T.cl 118
    obtain ⟨dx, hp⟩ := hp0
    obtain ⟨dy, hq⟩ := id hq0
    refine ⟨_, (pss_cons (ps_expr (pe_c (c_check_span T) hr (by decide) rfl (pa_cons (pv 1) pa_nil)))
      (pss_one (ps_ret (pe_mkN (mk_Span T) hr (by decide) rfl (pa_cons (pe_op op_add (pe_fld (pv 0) rfl) (pe_fld (pv 1) rfl)) pa_nil) (pk_cons (pe_op op_add (pe_fld (pv 0) rfl) (pe_fld (pv 1) rfl)) (pk_cons (pe_op op_add (pe_fld (pv 0) rfl) (pe_fld (pv 1) rfl)) pk_nil)))))), ?_⟩
    refine ⟨_, rfl, q, s2, a2, b2, rfl, hq0, ?_⟩
    refine ⟨_, rfl, p, _, dx, _, _, rfl, hp, cl, T.na 120, rfl, ?_⟩
    refine ⟨_, rfl, q, _, dy, _, _, rfl, hq, cl, T.na 120, rfl, ?_⟩
    refine ⟨_, _, rfl, rfl, ?_⟩
    refine ⟨_, rfl, p, _, dx, _, _, rfl, hp, cl, T.na 121, rfl, ?_⟩
    refine ⟨_, rfl, q, _, dy, _, _, rfl, hq, cl, T.na 121, rfl, ?_⟩
    refine ⟨_, _, rfl, rfl, ?_⟩
    refine ⟨_, rfl, p, _, dx, _, _, rfl, hp, cl, T.na 122, rfl, ?_⟩
    refine ⟨_, rfl, q, _, dy, _, _, rfl, hq, cl, T.na 122, rfl, ?_⟩
    refine ⟨_, _, rfl, rfl, ?_⟩
    exact ⟨rfl, rfl, mkS (by omega) k⟩
theorem s_Span_minus : FnScope ["self", "other"] ["self", "other"] d_Span_minus.scope := ⟨rfl, rfl, rfl, by decide +kernel, rfl, by decide +kernel, by decide +kernel⟩
theorem c_Span_minus (T : Txt w K mg) : Met P w K mg base 6 (He.ga K "Span") "minus" (spTwo K fun s a b s2 a2 b2 => (s - s2, a + b2, b + a2)) [] := by
  refine T.met 30 118 129 (d := d_Span_minus) (S := s_Span_minus) (hb := fun _ _ _ _ _ _ us hl => match us, hl with | [_, _], _ => rfl) (len := fun vs H Q E h => ?_) (hbody := fun cdv A outer s H vs Q E hr h => ?_)
  · obtain ⟨p, q, s, a, b, s2, a2, b2, rfl, hp0, hq0, h1, h2, k⟩ := h
    rfl
  · obtain ⟨p, q, s, a, b, s2, a2, b2, rfl, hp0, hq0, h1, h2, k⟩ := h
    obtain ⟨dx, hp⟩ := id hp0
    obtain ⟨dy, hq⟩ := id hq0
    refine ⟨_, (pss_cons (ps_expr (pe_c (c_check_span T) hr (by decide) rfl (pa_cons (pv 1) pa_nil)))
      (pss_one (ps_ret (pe_mt (c_Span_plus T) hr (by decide) (pv 0) (pa_cons (pe_mt0 (c_Span_turned T) hr (by decide) (pv 1)) pa_nil))))), ?_⟩
    refine ⟨_, rfl, q, s2, a2, b2, rfl, hq0, ?_⟩
    refine ⟨_, rfl, p, dx, _, rfl, hp, rfl, ?_⟩
    refine ⟨_, rfl, q, dy, _, rfl, hq, rfl, ?_⟩
    refine ⟨q, s2, a2, b2, rfl, hq0, h2, fun r H1 hr sm hs => ?_⟩
    refine ⟨p, r, s, a, b, 0 - s2, b2, a2, rfl, hp0.ext sm, hs, h1, by omega, fun t H2 ht sm2 hs2 => ?_⟩
    refine k t H2 ?_ (sm.trans sm2) ?_
    · exact sm.free ht
    · have e : s + (0 - s2) = s - s2 := by omega
      show SpanAt K H2 t (s - s2) (a + b2) (b + a2)
      rw [← e]
      exact hs2
theorem c_lenS {X : Cx} (T : Txt X.w X.K X.mg) {j : Nat} (hr : Room j X.A) (hk : 2 ≤ j) : CallR X (.builtin "len") (fun xs H Q => ∃ p s a b, xs = [.ref p] ∧ SpanAt X.K H p s a b ∧ (s + a + 1 - (s - b)).toNat < 4611686018427387904 ∧ Q (.int (((s + a + 1 - (s - b)).toNat : Nat) : Int)) H) := by
  obtain ⟨f, fd, ps, ds, c, me, F, b, d⟩ := (c_Span_len (P := X.prog) (base := X.base) T).ex
  intro pins s σ H xs us Q I r h
  obtain ⟨p, sz, a, b', rfl, ⟨dx, hp⟩, hl, q⟩ := h
  cases d
  exact call_lenI F me.at_ me.fn b hr hk pins s σ H _ us Q I r ⟨p, dx, _, rfl, hp, p, sz, a, b', rfl, ⟨dx, hp⟩, hl, _, rfl, by omega, by omega, q⟩
end
end Fw
set_option Elab.async false
set_option linter.all false
set_option maxRecDepth 100000
set_option maxHeartbeats 4000000
namespace Fw
open PySem PySem.Spec PyProof.Rows L2
section
variable {prog : Program} {w : World} {A : Around} {E : Value → Shared → Prop} {s : Shared} {r : Addr}

theorem tuple_newD {R : List Value → Heap → Nat → Prop} {Q₁ : Value → Shared → Prop} (hTI : s.TypeIs (.ref r) "dict")
    (hcol : ∀ (Q : List Value → Shared → Prop) (E' : Value → Shared → Prop), (∀ vs h' tk, R vs h' tk → Q vs { s with heap := h', toks := tk }) → wpAny (model prog w) A.in1 (collect (.ref r)) Q E' s)
    (hsz : ∀ vs h' tk, R vs h' tk → vs.length ≤ sizeLine)
    (h : ∀ vs h' tk, R vs h' tk → Q₁ (.ref h'.objs.size) { s with heap := h'.push { cls := .type "tuple", data := .seq vs.toArray }, toks := tk }) :
    codeAny (model prog w) A (.call (.builtin "tuple.__new__") ⟨[.type "tuple", .ref r], []⟩) (wants Q₁ E) s := by
  refine codeAny_of_tree ?_
  show wpAny _ A.in1 (do checkBuiltinCall "tuple.__new__" ⟨[.type "tuple", .ref r], []⟩; again (.builtin "tuple.__new__" ⟨[.type "tuple", .ref r], []⟩)) _ _ s
  refine wpAny_bind (wpAny_of_eq (F.newCall_tuple_1 _) (wpAny_pure ⟨plainId_quiet F.plain_tuple_new _, codeAny_builtin F.entry_tuple_new ?_⟩))
  rw [Around.under_plainId F.plain_tuple_new _]
  have hsub := sub_tuple_self
  have hinit := init_tuple_lookup
  have hmh := madeHere_tuple
  wp_walk using wpAny_typeOf hTI, hcol
  intro vs h' tk hr
  show wpAny _ _ (Builtin.Tuple.tupleExact vs.toArray >>= fun v => ret v) _ _ _
  unfold Builtin.Tuple.tupleExact
  refine wpAny_bind (wpAny_newObj_type ?_ (by show vs.toArray.size ≤ sizeLine; rw [List.size_toArray]; exact hsz _ _ _ hr))
  refine wpAny_pure ?_
  exact h vs h' tk hr
theorem call_tupleD {R : List Value → Heap → Nat → Prop} {Q : Value → Shared → Prop} (hTI : s.TypeIs (.ref r) "dict")
    (hcol : ∀ (Q : List Value → Shared → Prop) (E' : Value → Shared → Prop), (∀ vs h' tk, R vs h' tk → Q vs { s with heap := h', toks := tk }) → wpAny (model prog w) A.in1.in1 (collect (.ref r)) Q E' s)
    (hsz : ∀ vs h' tk, R vs h' tk → vs.length ≤ sizeLine)
    (hQ : ∀ vs h' tk, R vs h' tk → Q (.ref h'.objs.size) { s with heap := h'.push { cls := .type "tuple", data := .seq vs.toArray }, toks := tk }) :
    wpAny (model prog w) A (call (.type "tuple") [.ref r]) Q E s := by
  refine callType_codes (Q₁ := fun obj s₁ => s₁.TypeIs obj "tuple" ∧ Q obj s₁) F.called_tuple (F.typeCall_tuple_1 _) F.entry_object_init
    (tuple_newD (A := A.in1) hTI hcol hsz fun vs h' tk hr => ⟨⟨_, Heap.get?_push_size _ rfl, rfl⟩, hQ vs h' tk hr⟩) fun obj s₁ h₁ => ?_
  exact ⟨h₁.1, F.args_object_init_2 obj _, object_init_meets F.called_tuple.init.lookup F.called_tuple.made (by decide) prog w A.in1 _ s₁ ⟨h₁.1, rfl, h₁.2⟩⟩

theorem tuple_newV {R : List Value → Heap → Nat → Prop} {Q₁ : Value → Shared → Prop} (hTI : s.TypeIs (.ref r) "dict_items")
    (hcol : ∀ (Q : List Value → Shared → Prop) (E' : Value → Shared → Prop), (∀ vs h' tk, R vs h' tk → Q vs { s with heap := h', toks := tk }) → wpAny (model prog w) A.in1 (collect (.ref r)) Q E' s)
    (hsz : ∀ vs h' tk, R vs h' tk → vs.length ≤ sizeLine)
    (h : ∀ vs h' tk, R vs h' tk → Q₁ (.ref h'.objs.size) { s with heap := h'.push { cls := .type "tuple", data := .seq vs.toArray }, toks := tk }) :
    codeAny (model prog w) A (.call (.builtin "tuple.__new__") ⟨[.type "tuple", .ref r], []⟩) (wants Q₁ E) s := by
  refine codeAny_of_tree ?_
  show wpAny _ A.in1 (do checkBuiltinCall "tuple.__new__" ⟨[.type "tuple", .ref r], []⟩; again (.builtin "tuple.__new__" ⟨[.type "tuple", .ref r], []⟩)) _ _ s
  refine wpAny_bind (wpAny_of_eq (F.newCall_tuple_1 _) (wpAny_pure ⟨plainId_quiet F.plain_tuple_new _, codeAny_builtin F.entry_tuple_new ?_⟩))
  rw [Around.under_plainId F.plain_tuple_new _]
  have hsub := sub_tuple_self
  have hinit := init_tuple_lookup
  have hmh := madeHere_tuple
  wp_walk using wpAny_typeOf hTI, hcol
  intro vs h' tk hr
  show wpAny _ _ (Builtin.Tuple.tupleExact vs.toArray >>= fun v => ret v) _ _ _
  unfold Builtin.Tuple.tupleExact
  refine wpAny_bind (wpAny_newObj_type ?_ (by show vs.toArray.size ≤ sizeLine; rw [List.size_toArray]; exact hsz _ _ _ hr))
  refine wpAny_pure ?_
  exact h vs h' tk hr
theorem call_tupleV {R : List Value → Heap → Nat → Prop} {Q : Value → Shared → Prop} (hTI : s.TypeIs (.ref r) "dict_items")
    (hcol : ∀ (Q : List Value → Shared → Prop) (E' : Value → Shared → Prop), (∀ vs h' tk, R vs h' tk → Q vs { s with heap := h', toks := tk }) → wpAny (model prog w) A.in1.in1 (collect (.ref r)) Q E' s)
    (hsz : ∀ vs h' tk, R vs h' tk → vs.length ≤ sizeLine)
    (hQ : ∀ vs h' tk, R vs h' tk → Q (.ref h'.objs.size) { s with heap := h'.push { cls := .type "tuple", data := .seq vs.toArray }, toks := tk }) :
    wpAny (model prog w) A (call (.type "tuple") [.ref r]) Q E s := by
  refine callType_codes (Q₁ := fun obj s₁ => s₁.TypeIs obj "tuple" ∧ Q obj s₁) F.called_tuple (F.typeCall_tuple_1 _) F.entry_object_init
    (tuple_newV (A := A.in1) hTI hcol hsz fun vs h' tk hr => ⟨⟨_, Heap.get?_push_size _ rfl, rfl⟩, hQ vs h' tk hr⟩) fun obj s₁ h₁ => ?_
  exact ⟨h₁.1, F.args_object_init_2 obj _, object_init_meets F.called_tuple.init.lookup F.called_tuple.made (by decide) prog w A.in1 _ s₁ ⟨h₁.1, rfl, h₁.2⟩⟩
end
/-- tuple(d), d a dict -/
theorem call_tuple_dK {X : Cx} (hc : X.calm = true) : CallR X (.type "tuple") (fun xs H Q => ∃ p kvs, xs = [.ref p] ∧ H p = some (.dK kvs) ∧ ∀ q, H q = none → Q (.ref q) (upd H q (.tup (kvs.map fun kv => kV kv.1)))) := by
  intro pins s σ H xs us Q I r h
  obtain ⟨p, kvs, rfl, hk, q⟩ := h
  obtain ⟨u, rfl, rx⟩ := vals1 r
  obtain rfl : u = Value.ref p := rx
  obtain ⟨z, lo, vs, rk, hd⟩ := (show ObjOk X.prog X.w H s.heap p (.dK kvs) from I.hok p _ hk)
  obtain ⟨ep, hat⟩ := hd.dictAt
  have hl : kvs.length = vs.length := Paired.length rk
  refine call_tupleD (R := fun us h' tk => (∀ b o, s.heap.get? b = some o → h'.get? b = some o) ∧ us.length = vs.length ∧ Vals (kvs.map fun kv => kV kv.1) us) hd.typeIs (fun Q E' hq => ?_) (fun us h' tk hr => by rw [hr.2.1, ← hl]; exact z) (fun us h' tk hr => ?_)
  · refine PySem.W.kdu_collect (PySem.W.kdl_dict (knd := mixKind X.prog X.w) (kvs := vs) (ep := ep) lo) (I.ok.hd hc) hat (by rw [← hl]; exact z) fun h' tk acc hk' hacc => hq _ _ _ ⟨hk', ?_, ?_⟩
    · rw [Array.length_toList]; exact hacc.1
    · have el : acc.toList.length = acc.size := by simp
      refine vals_of_at (by rw [List.length_map, el, hacc.1, hl]) fun j x w h1 h2 => ?_
      obtain ⟨k, y, hky, hi⟩ := hacc.2 j w (by rw [← Array.getElem?_toList]; exact h2)
      have e1 : (kvs.map (·.1))[j]? = some k := by
        rw [KV.keys rk, List.getElem?_map, hky] <;> rfl
      have e2 : (kvs.map fun kv => kV kv.1)[j]? = some (kV k) := by
        have e3 : (kvs.map fun kv => kV kv.1) = (kvs.map (·.1)).map kV := by rw [List.map_map] <;> rfl
        rw [e3, List.getElem?_map, e1] <;> rfl
      rw [e2] at h1
      obtain rfl := Option.some.inj h1
      exact keyIs_rel hi
  · obtain ⟨hk', hn, hv⟩ := hr
    have I1 : Inv X pins σ H { s with heap := h', toks := tk } := I.kept hk'
    refine ⟨.ref h'.objs.size, upd H h'.objs.size (.tup (kvs.map fun kv => kV kv.1)), I1.laid (t' := tk) (fun b o e => Heap.get?_push_of_some _ e) (Nat.le_refl _) (show ObjOk X.prog X.w _ _ _ (.tup (kvs.map fun kv => kV kv.1)) from ⟨by rw [List.length_map]; exact z, us, hv, IsTup.new _ _⟩), rfl, q _ (I1.hok.fresh (Nat.le_refl _))⟩
/-- tuple(d.items()): some tuple of pairs -/
def tTupItems (td : TE) : TE := fun σ H Q => td σ H fun x H1 => ∃ d kvs, x = .ref d ∧ H1 d = some (.dK kvs) ∧ ∀ q (as : List Addr), H1 q = none → Q (.ref q) (upd H1 q (.tup (as.map V.ref)))
theorem refs_vals' : ∀ as : List Addr, Vals (as.map V.ref) (as.map Value.ref)
  | [] => .nil
  | _ :: r => .cons rfl (refs_vals' r)
theorem pe_tupItems {X : Cx} {e : Expr} {td : TE} {p pos apos cpos : Pos} (hc : X.calm = true) (hg : Gl X "tuple") (hm : X.mg "tuple" = none) (he : PE X e td)
    (hbase : attributeBase e "items" X.env (eval e X.env) = eval e X.env := by rfl) (hline : (apos.endLine == cpos.line) = true := by rfl)
    (na : starEach [.Call (.Attribute e "items" apos) [] [] cpos] X.env = (false, eval (.Call (.Attribute e "items" apos) [] [] cpos) X.env) :: starEach [] X.env := by rfl) :
    PE X (.Call (.Name "tuple" p) [.Call (.Attribute e "items" apos) [] [] cpos] [] pos) (tTupItems td) := by
  refine ⟨fun pins s σ H Q I h => ?_⟩
  refine Call_ (ld_blt I hg hm boot_tuple (PyProof.Rows.callWith_type1 (args_cons ?_ na) na))
  refine wpAny_Call_method (T := "dict") (id := "dict.items") hbase rfl hline F.plainAttrs_dict F.slot_dict_items F.type_dict_items (thn (he.run pins s σ H _ I h) fun u s1 ⟨x, H1, I1, rx, d, kvs, ex, hd, q⟩ => ?_)
  subst ex
  obtain rfl : u = Value.ref d := rx
  obtain ⟨z, lo, vs, rk, hdo⟩ := (show ObjOk X.prog X.w H1 s1.heap d (.dK kvs) from I1.hok d _ hd)
  obtain ⟨ep, hat⟩ := hdo.dictAt
  have hl : kvs.length = vs.length := Paired.length rk
  refine ⟨hdo.typeIs, hdo.mapOf.noDict, ?_⟩
  have I2 : Inv X pins σ H1 { s1 with heap := s1.heap.push { cls := .type "dict_items", data := .fields #[.ref d] } } := I1.kept (t' := s1.toks) fun b ob q => Heap.get?_push_of_some _ q
  have hv : (s1.heap.push { cls := .type "dict_items", data := .fields #[.ref d] }).IsItemsView s1.heap.objs.size d := ⟨_, Heap.get?_push_size _ rfl, rfl, rfl⟩
  show wpAny _ _ (callWith cpos (.builtin "dict.items") [.ref d] [] []) _ X.xe s1
  refine method_meetsIn F.slot_dict_items F.entry_dict_items rfl (PySem.evalArgs_none ⟨rfl, hdo.typeIs, F.args_dict_items_1 _, _, meets_dict_items (mixKind X.prog X.w) d lo, ⟨vs, hdo⟩, args_nil ?_⟩)
  refine call_tupleV (R := fun us h' tk => (∀ b o, (s1.heap.push { cls := .type "dict_items", data := .fields #[.ref d] }).get? b = some o → h'.get? b = some o) ∧ us.length = vs.length ∧ ∃ as : List Addr, us = as.map Value.ref) hv.typeIs (fun Q E' hq => ?_) (fun us h' tk hr => by rw [hr.2.1, ← hl]; exact z) (fun us h' tk hr => ?_)
  · exact PySem.W.kdx_collect (knd := mixKind X.prog X.w) (kvs := vs) (ep := ep) (A := X.A.in1.in1) (s := { s1 with heap := s1.heap.push { cls := .type "dict_items", data := .fields #[.ref d] } }) (I2.ok.hd hc) hv (hat.push _) (by rw [← hl]; exact z) fun h' tk as hk' hn hG => hq _ _ _ ⟨hk', by rw [List.length_map]; exact hn, as, rfl⟩
  · obtain ⟨hk', hn, as, rfl⟩ := hr
    have I3 : Inv X pins σ H1 { s1 with heap := h', toks := tk } := I2.kept (t' := tk) hk'
    refine ⟨.ref h'.objs.size, upd H1 h'.objs.size (.tup (as.map V.ref)), I3.laid (t' := tk) (fun b o e => Heap.get?_push_of_some _ e) (Nat.le_refl _) (show ObjOk X.prog X.w _ _ _ (.tup (as.map V.ref)) from ⟨?_, as.map Value.ref, refs_vals' as, IsTup.new _ _⟩), rfl, q _ as (I3.hok.fresh (Nat.le_refl _))⟩
    rw [List.length_map] at hn ⊢
    rw [hn, ← hl]
    exact z
end Fw
set_option Elab.async false
set_option linter.all false
set_option maxRecDepth 100000
set_option maxHeartbeats 4000000
namespace Fw
open PySem PySem.Spec PyProof.Rows L2
/-! == of dicts, value by value by the text's own == -/
/-- all but the dicts stays -/
def Still : HO → Prop
  | .dK _ => False
  | _ => True
def Imm (H H' : Hp) : Prop := ∀ c o, Still o → H c = some o → H' c = some o
theorem Imm.of {H H' : Hp} (e : Ext H H') : Imm H H' := fun c o _ h => e c o h
theorem Imm.trans {H H1 H2 : Hp} (a : Imm H H1) (b : Imm H1 H2) : Imm H H2 := fun c o s h => b c o s (a c o s h)
theorem Imm.upd {H : Hp} {d : Addr} {kvs : List (Key × V)} {o : HO} (h : H d = some (.dK kvs)) : Imm H (upd H d o) := fun c u s e => by
  by_cases hc : c = d
  · rw [hc, h] at e
    cases e
    exact False.elim s
  · rw [upd_ne hc]
    exact e
def Mon2 (D : Eqv) : Prop := ∀ x y H H', Imm H H' → D x y H → D x y H'
theorem Mon2.mon {D : Eqv} (h : Mon2 D) : Mon D := fun x y H H' e d => h x y H H' (Imm.of e) d
section
variable {X : Cx} {n : Nat} {D : Eqv}
theorem samePairsG (hD : Mon D) (h : EqG X n D) {A : Around} (sb : Sub X n A) {pins : List (Addr × Obj)} {σ : L2.St} {H : Hp} {s : Shared} {nm : String} {a b : Addr} {oa ob : Obj} {ka kb : List (Key × V)}
    (I : Inv X pins σ H s) (ha : H a = some (.frz oa (.dK ka))) (hb : H b = some (.frz ob (.dK kb))) (hn : ka.length = kb.length)
    (hk : ∀ (i : Nat) k v, ka[i]? = some (k, v) → ∃ v2, valV kb k = some v2 ∧ D v v2 H) {Q : Bool → Shared → Prop} (hQ : ∀ s', LoopI X pins σ H s' → Q true s') :
    wpAny (model X.prog X.w) A (Builtin.Dict.samePairs nm a b) Q X.xe s := by
  obtain ⟨na, _, _, es, ep, _, hdt, hsz, _, _⟩ := I.frzK ha
  obtain ⟨nb, _, _, es', ep', _, hdt', hsz', _, _⟩ := I.frzK hb
  have look : ∀ s', LoopI X pins σ H s' → ∃ H' vs vs', Inv X pins σ H' s' ∧ Ext H H' ∧ s'.heap.get? a = some oa ∧ KV ka vs ∧ KeysOf (mixKind X.prog X.w) es ∧ Pairs (mixKind X.prog X.w) es.toList vs ∧
      s'.heap.get? b = some ob ∧ KV kb vs' ∧ KeysOf (mixKind X.prog X.w) es' ∧ Pairs (mixKind X.prog X.w) es'.toList vs' := by
    rintro s' ⟨H', I', e⟩
    obtain ⟨_, g1, _, es1, ep1, vs, q1, _, kv1, o1, es2, p1, p2, p3, p4, p5, _⟩ := I'.frzK (e _ _ ha)
    obtain ⟨_, g2, _, es3, ep3, vs', q2, _, kv2, o2, es4, r1, r2, r3, r4, r5, _⟩ := I'.frzK (e _ _ hb)
    rw [g1] at p1
    cases p1
    rw [g2] at r1
    cases r1
    rw [hdt] at p3
    cases p3
    rw [hdt'] at r3
    cases r3
    exact ⟨H', vs, vs', I', e, g1, kv1, p4, p5, g2, kv2, r4, r5⟩
  obtain ⟨H1, vs0, vs0', I1, e1, hoa, kv1, hka, hpa, hob, kv2, hkb, hpb⟩ := look s ⟨H, I, Ext.rfl'⟩
  unfold Builtin.Dict.samePairs Builtin.Dict.showsAll
  rw [if_neg (show ¬ (a == sysModules) = true by rw [na]; exact Bool.false_ne_true), if_neg (show ¬ (b == sysModules) = true by rw [nb]; exact Bool.false_ne_true)]
  refine wpAny_bind (wpAny_pure (wpAny_bind (wpAny_pure ?_)))
  refine wpAny_bind (wpAny_dictEntries hoa hdt ?_)
  dsimp only
  refine wpAny_bind (wpAny_dictEntries hob hdt' ?_)
  have hse : es.size = es'.size := by omega
  rw [if_neg (by rw [hse]; simp)]
  refine wpAny_bind (wpAny_dictEpoch hoa hdt ?_)
  refine wpAny_bind ?_
  rw [Std.Legacy.Range.forIn_eq_forIn_range']
  simp only [Std.Legacy.Range.size, Nat.sub_zero, Nat.add_sub_cancel, Nat.div_one]
  refine wpAny_forIn_list _
    (fun rest q s' => LoopI X pins σ H s' ∧ q = (none, ()) ∧ ∃ i, rest = List.range' i (es.size - i) ∧ i ≤ es.size)
    _ ?_ ?_ _ _ ⟨⟨H, I, Ext.rfl'⟩, rfl, 0, by simp, Nat.zero_le _⟩
  · rintro x rest q s' ⟨lp, rfl, i, hr, hi⟩
    obtain ⟨H', vs, vs', I', ex, goa, kva, gka, gpa, gob, kvb, gkb, gpb⟩ := look s' lp
    have hlt : i < es.size := by
      rcases Nat.lt_or_ge i es.size with h | h
      · exact h
      · rw [Nat.sub_eq_zero_of_le h] at hr; simp at hr
    obtain ⟨rfl, hrest⟩ : x = i ∧ rest = List.range' (i + 1) (es.size - (i + 1)) := by
      have e : es.size - i = (es.size - (i + 1)) + 1 := by omega
      rw [e, List.range'_succ] at hr
      injection hr with h1 h2
      exact ⟨h1, h2⟩
    refine wpAny_bind (wpAny_dictEntries goa hdt ?_)
    rw [Array.getElem?_eq_getElem hlt]
    have hlt' : x < ka.length := by rw [← hsz]; exact hlt
    obtain ⟨k, v, hkv⟩ : ∃ k v, ka[x]? = some (k, v) := ⟨_, _, List.getElem?_eq_getElem hlt'⟩
    obtain ⟨u, hu, ru⟩ := kv_get kva hkv
    obtain ⟨hkey, hval⟩ := gpa.get? (i := x) (e := es[x]) (k := k) (v := u) (by rw [Array.getElem?_toList]; exact Array.getElem?_eq_getElem hlt) hu
    obtain ⟨k', hk', hh⟩ := gka es[x] (Array.getElem_mem hlt)
    have ekk : k' = k := (mixKind X.prog X.w).inj _ _ _ hk' hkey
    rw [ekk] at hh
    obtain ⟨v2, hv2, hd⟩ := hk x k v hkv
    have hfind : findBy (mixKind X.prog X.w).is es' k = PySem.valueAt vs' k := by
      rw [← gpb.find k]
      clear hkb hpb gkb gpb hdt' hob gob hse hsz' look
      obtain ⟨l⟩ := es'
      simp [findBy]
    have hrv := KV.val kvb k
    rw [hv2] at hrv
    show wpAny _ _ (holding [es[x].key, es[x].val] _ >>= _) _ _ _
    rw [hh]
    refine wpAny_bind (wpAny_holding (wpAny_bind (wpAny_dictFind_of hkey gob hdt' gkb ?_)))
    cases hj : es'.findIdx? fun e => (mixKind X.prog X.w).is k e.key with
    | none =>
      have hn : PySem.valueAt vs' k = none := by rw [← hfind, findBy_of_findIdx?, hj]
      rw [hn] at hrv
      exact False.elim hrv
    | some j =>
      obtain ⟨hjlt, _, _⟩ := Array.findIdx?_eq_some_iff_getElem.mp hj
      have hv' : PySem.valueAt vs' k = some es'[j].val := by
        rw [← hfind, findBy_of_findIdx?, hj]
        simp [Array.getElem?_eq_getElem hjlt]
      rw [hv'] at hrv
      have hrv : RelV v2 es'[j].val := hrv
      refine wpAny_bind (wpAny_dictEntries gob hdt' ?_)
      rw [Array.getElem?_eq_getElem hjlt]
      rw [← hval] at ru
      refine wpAny_holding (wpAny_mono (h A pins s' σ H' v v2 _ _ sb I' ru hrv (hD _ _ _ _ ex hd)) (fun r s2 q => ?_) fun _ _ x => x)
      obtain ⟨rfl, H2, I2, ex2⟩ := q
      show wpAny _ _ (if (!true) = true then _ else _) _ _ _
      rw [if_neg (by decide)]
      obtain ⟨_, _, _, _, _, goa2, _⟩ := look s2 ⟨H2, I2, ex.trans ex2⟩
      refine wpAny_bind (wpAny_dictEpoch goa2 hdt ?_)
      rw [if_neg (by simp)]
      exact wpAny_pure ⟨⟨H2, I2, ex.trans ex2⟩, rfl, x + 1, hrest, hlt⟩
  · rintro q s' ⟨lp, rfl, i, hr, hi⟩
    exact wpAny_pure (hQ s' lp)

def DDict (D : Eqv) : Eqv := fun x y H => ∃ a b ka kb, x = .ref a ∧ y = .ref b ∧ a ≠ b ∧ H a = some (.dK ka) ∧ H b = some (.dK kb) ∧ ka.length = kb.length ∧ ∀ (i : Nat) k v, ka[i]? = some (k, v) → ∃ v2, valV kb k = some v2 ∧ D v v2 H
theorem rcG_dict (hD : Mon2 D) (h : EqG X n D) : RcG X (n + 1) (DDict D) := by
  intro A pins s σ H x y u v sb I rx ry d
  obtain ⟨a, b, ka, kb, rfl, rfl, hab, ha, hb, hn, hk⟩ := d
  cases rx
  cases ry
  obtain ⟨oa, I1⟩ := I.lock ha trivial
  have hb1 : (upd H a (.frz oa (.dK ka))) b = some (.dK kb) := by rw [upd_ne hab.symm]; exact hb
  obtain ⟨ob, I2⟩ := I1.lock hb1 trivial
  have fa2 : (upd (upd H a (.frz oa (.dK ka))) b (.frz ob (.dK kb))) a = some (.frz oa (.dK ka)) := by rw [upd_ne hab, upd_same]
  have fb2 : (upd (upd H a (.frz oa (.dK ka))) b (.frz ob (.dK kb))) b = some (.frz ob (.dK kb)) := upd_same
  obtain ⟨_, _, _, _, _, vsa, _, _, kva, da⟩ := I2.frzK fa2
  obtain ⟨_, _, _, _, _, vsb, _, _, kvb, db⟩ := I2.frzK fb2
  have im : Imm H (upd (upd H a (.frz oa (.dK ka))) b (.frz ob (.dK kb))) := (Imm.upd ha).trans (Imm.upd hb1)
  refine wpAny_richCompare_same_room (op := .Eq) da.dictOf.typeIs db.dictOf.typeIs PySem.F.slot_dict_eq (wpAny_call_entry PySem.F.slot_dict_eq da.dictOf.typeIs PySem.F.entry_dict_eq ?_ (PySem.F.args_dict_eq_2 _ _)) sb.room.units0
  show wpAny _ _ (Builtin.Dict.dictSlotArgs "__eq__" ⟨[.ref a, .ref b], []⟩ >>= _) _ _ s
  refine wpAny_bind ?_
  unfold Builtin.Dict.dictSlotArgs
  refine wpAny_bind (wpAny_notOrdered_dict da.dictOf.typeIs ?_)
  show wpAny _ _ (pure (Value.ref a, Value.ref b)) _ _ s
  refine wpAny_pure ?_
  refine wpAny_bind (wpAny_isInstance (T := "dict") db.dictOf.typeIs PySem.F.sub_dict_dict ?_)
  simp only [Bool.not_true, Bool.false_eq_true, if_false]
  refine wpAny_bind (wpAny_pure (wpAny_bind (wpAny_pure ?_)))
  refine wpAny_bind (samePairsG hD.mon h sb.in1 I2 fa2 fb2 hn (fun i k v e => ?_) fun s' lp => ?_)
  · obtain ⟨v2, h1, h2⟩ := hk i k v e
    exact ⟨v2, h1, hD _ _ _ _ im h2⟩
  · refine wpAny_pure ⟨_, rfl, (fun x => nomatch x), rfl, ?_⟩
    obtain ⟨H', I', e⟩ := lp
    have I3 := I'.unlock (e _ _ fb2) (I1.nofrz hb1 trivial)
    have e2 : (upd H' b (.dK kb)) a = some (.frz oa (.dK ka)) := by rw [upd_ne hab]; exact e _ _ fa2
    have I4 := I3.unlock e2 (I.nofrz ha trivial)
    refine ⟨_, I4, fun c o hc => ?_⟩
    by_cases ca : c = a
    · rw [ca] at hc ⊢
      rw [ha] at hc
      rw [upd_same]
      exact hc
    · rw [upd_ne ca]
      by_cases cb : c = b
      · rw [cb] at hc ⊢
        rw [hb] at hc
        rw [upd_same]
        exact hc
      · rw [upd_ne cb]
        refine e _ _ ?_
        rw [upd_ne cb, upd_ne ca]
        exact hc
/-! != of instances with an own == -/
theorem ne_K {prog : Program} {w : World} {A : Around} {E : Value → Shared → Prop} {s : Shared} {K : PySem.W.Frag} {x y C L f : Addr} {h₀ : Heap} {m : Str → Option Value} {ox oy : Obj} {od od' : Option Obj} {Q : Value → Shared → Prop} (hu : A.units + 1 < cLine) (Fr0 : Fr h₀ L s.heap m) (X₀ : K.In h₀)
    (I : PySem.W.InstAt s.heap x ox C od) (J : PySem.W.InstAt s.heap y oy C od') (hne : PySem.W.findIn K (.ref C) "__ne__" = some (some (.builtin "object.__ne__"))) (hm : PySem.W.mroIn K C (.type "object") = some true)
    (hs : PySem.W.findIn K (.ref C) "__eq__" = some (some (.ref f))) (hf : PySem.W.isFn K (.ref f) = true)
    (h : wpAny (model prog w) A.in1 (call (.ref f) [.ref x, .ref y]) (fun v s' => ∃ b, v = .bool b ∧ Q (.bool (!b)) s') E s) : wpAny (model prog w) A (richCompare .NotEq (.ref x) (.ref y)) Q E s := by
  have X := X₀.keeps Fr0.keep
  have L1 : PySem.W.Looks (model prog w) s.heap (isInstance (.ref x) (.type "object")) true := I.type.andThen (PySem.W.looks_mroIn X hm)
  have ent : wpAny (model prog w) A.in1 (Builtin.«object.__ne__» ⟨[.ref x, .ref y], []⟩) (fun fin s' => ∃ b, fin = .done (.ret (.bool (!b))) ∧ Q (.bool (!b)) s') E s := by
    unfold Builtin.«object.__ne__»
    refine wpAny_bind (wpAny_pure ?_)
    refine wpAny_bind (wpAny_cRoomFor hu ?_)
    refine wpAny_bind (PySem.W.ifBound_K X I hs hf (wpAny_mono h (fun v s' hv => ?_) fun _ _ e => e))
    obtain ⟨b, rfl, q⟩ := hv
    refine wpAny_bind (wpAny_truthy_bool ?_)
    exact wpAny_pure ⟨b, rfl, q⟩
  have one : wpAny (model prog w) A (tryCompare (.ref x) "__ne__" (.ref y)) (fun r s' => ∃ v, r = some v ∧ Q v s') E s := by
    unfold tryCompare
    refine wpAny_bind ?_
    simp only [callSpecialIfBound?, bindSpecialIfBound?]
    refine wpAny_holding (wpAny_bind (wpAny_bind (wpAny_bind (I.type.here ((PySem.W.looks_findIn X hne).here ?_)))))
    simp only [PySem.F.cmp_object.ne.bind]
    refine wpAny_bind (wpAny_askSetting (wpAny_ite ?_))
    have fin : ∀ Post : Option Value → Shared → Prop, (∀ b s', Q (.bool b) s' → Post (some (.bool b)) s') → wpAny (model prog w) A (call (.builtin "object.__ne__") ([.ref x] ++ [.ref y]) >>= fun v => pure (some v)) Post E s := fun Post hp => by
      refine wpAny_bind (wpAny_call (codeAny_call_builtin PySem.F.cmp_object.ne.plain PySem.F.cmpEntry_ne (PySem.W.check_slot PySem.F.cmpKind_ne PySem.F.cmpSplit_ne L1 (PySem.F.cmpArgs_ne _ _) (wpAny_mono ent (fun fin s' q => ?_) fun _ _ e => e))))
      obtain ⟨b, rfl, q⟩ := q
      exact wpAny_pure (hp _ _ q)
    split
    · exact wpAny_bind (wpAny_pure (wpAny_pure (by exact fin _ fun b s' q => wpAny_pure ⟨_, rfl, q⟩)))
    · exact wpAny_tryCatch (wpAny_bind (wpAny_pure (wpAny_pure (by exact fin _ fun b s' q => wpAny_pure ⟨_, rfl, q⟩))))
  unfold richCompare
  simp only [oneThing_ref]
  refine wpAny_holding (wpAny_bind (wpAny_cRoomFor (Nat.lt_of_succ_lt hu) ?_))
  rw [cmpInfo_NotEq]
  dsimp only
  refine wpAny_bind (I.type.here (wpAny_bind (J.type.here ?_)))
  rw [show (Value.ref C != Value.ref C) = false from by simp]
  simp only [Bool.false_eq_true, if_false]
  refine wpAny_bind (wpAny_pure ?_)
  simp only [Bool.false_eq_true, if_false]
  refine wpAny_bind (wpAny_mono one (fun r s' q => ?_) fun _ _ e => e)
  obtain ⟨v, rfl, q⟩ := q
  exact wpAny_pure q
end
end Fw
set_option Elab.async false
set_option linter.all false
set_option maxRecDepth 100000
set_option maxHeartbeats 4000000
namespace Fw
open PySem PySem.SeqAt
open AutoSeq1 (wpAny_loadPart')
open MeetsSeq MeetsSeq2 MeetsSeq3 SeqRoads2
section
variable {prog : Program} {w : World} {A : Around} {R : Result → Shared → Prop}
/-- list != list, item by item equal by the text's own == -/
theorem neLoop (l b : Addr) (N : Nat) (I : Nat → Shared → Prop) (hl : GQ.ListI prog w A (fun e s' => R (.error e) s') l b N I)
    (fin : ∀ s, I N s → R (.ok (.ret (.bool false))) s) (k : Nat) :
    ∀ i : Nat, N - i = k → i ≤ N → ∀ s, I i s →
      wpAny (model prog w) A.in1 (Builtin.«list.__eq__.loop» ⟨[.ref l, .ref b, rawInt i, rawInt 3], []⟩) (GQ.FinOf prog w A R) (fun e s' => R (.error e) s') s := by
  induction k with
  | zero =>
    intro i hk hi s h
    obtain ⟨us, vs, n, n2, hl1, hb1, hs1, hs2, _⟩ := hl _ _ h
    have hiN : i = N := by omega
    have hR : R (.ok (.ret (.bool false))) s := fin s (hiN ▸ h)
    obtain ⟨hp, g, d, tk, os⟩ := s
    wp_walk using wpAny_loadPart' hl1, wpAny_loadPart' hb1
    have n1 : us[((i : Nat) : Int).toNat]? = none := by simp; omega
    have n2 : vs[((i : Nat) : Int).toNat]? = none := by simp; omega
    rw [n1, n2]
    wp_walk using wpAny_loadPart' hl1, wpAny_loadPart' hb1
    show R (.ok (.ret (.bool (us.size != vs.size)))) _
    rw [hs1, hs2]
    simpa using hR
  | succ k ih =>
    intro i hk hi s h
    obtain ⟨us, vs, n, n2, hl1, hb1, hs1, hs2, turn⟩ := hl _ _ h
    have lt1 : i < us.size := by omega
    have lt2 : i < vs.size := by omega
    have ht := turn lt1 lt2
    obtain ⟨hp, g, d, tk, os⟩ := s
    wp_walk using wpAny_loadPart' hl1, wpAny_loadPart' hb1
    have s1 : us[((i : Nat) : Int).toNat]? = some us[i] := by simp [lt1]
    have s2 : vs[((i : Nat) : Int).toNat]? = some vs[i] := by simp [lt2]
    have ci : ((i : Int) + 1) = ((i + 1 : Nat) : Int) := by omega
    rw [s1, s2]
    refine wpAny_bind (wpAny_mono ht (fun r t2 q2 => ?_) fun _ _ x => x)
    obtain ⟨rfl, q2⟩ := q2
    have rr := ih (i + 1) (by omega) (by omega) t2 q2
    obtain ⟨hp2, g2, d2, tk2, os2⟩ := t2
    wp_walk
    rw [ci]
    exact ⟨plainId_quiet plain_eq_loop _, codeAny_builtin entry_eq_loop (by
      rw [Around.under_plainId plain_eq_loop _]
      exact rr)⟩
theorem listNe (l b : Addr) (N : Nat) (I : Nat → Shared → Prop) (hl : GQ.ListI prog w A (fun e s' => R (.error e) s') l b N I)
    (fin : ∀ s, I N s → R (.ok (.ret (.bool false))) s) {s : Shared} (h : I 0 s) :
    wpAny (model prog w) A.in1 (Builtin.«list.__ne__» ⟨[.ref l, .ref b], []⟩) (GQ.FinOf prog w A R) (fun e s' => R (.error e) s') s := by
  obtain ⟨us, vs, n, n2, hl1, hb1, hs1, hs2, _⟩ := hl _ _ h
  have rr := neLoop (A := A) (R := R) l b N I hl fin _ 0 rfl (Nat.zero_le _) s h
  obtain ⟨hp, g, d, tk, os⟩ := s
  have f3 := AutoSeq1.sub_list_list
  have ne : ¬ (us.size != vs.size) = true := by simp [hs1, hs2]
  wp_walk using wpAny_loadPart' hl1, wpAny_loadPart' hb1
  exact ⟨plainId_quiet plain_eq_loop _, codeAny_builtin entry_eq_loop (by
    rw [Around.under_plainId plain_eq_loop _]
    exact rr)⟩
end
section
variable {prog : Program} {w : World} {A : Around} {E : Value → Shared → Prop} {s : Shared}
theorem rcNeList {l b : Addr} {N : Nat} {Q : Value → Shared → Prop} (hu : A.units < cLine) (I : Nat → Shared → Prop) (hl : GQ.ListI prog w A E l b N I)
    (fin : ∀ s, I N s → Q (.bool false) s) (h : I 0 s) : wpAny (model prog w) A (richCompare .NotEq (.ref l) (.ref b)) Q E s := by
  obtain ⟨us, vs, n, n2, hl1, hb1, _, _, _⟩ := hl _ _ h
  refine wpAny_richCompare_same_room (op := .NotEq) ⟨_, hl1, rfl⟩ ⟨_, hb1, rfl⟩ F.slot_list_ne (GQ.call_here F.slot_list_ne ⟨_, hl1, rfl⟩ F.entry_list_ne (F.args_list_ne_2 _ _) ?_) hu
  exact listNe (R := wants (fun v s' => v ≠ .notImplemented ∧ Q v s') E) l b N I hl (fun s' q => ⟨(fun x => nomatch x), fin s' q⟩) h
end
end Fw
namespace Fw
open PySem PySem.Spec PyProof.Rows L2
section
variable {X : Cx} {n : Nat} {D : Eqv}
/-- != gives False where D says equal -/
def rNeG (D : Eqv) : R2 := fun x y H Q => D x y H ∧ ∀ H', Ext H H' → Q (.bl false) H'
theorem op_neListG (hD : Mon D) (h : EqG X n D) (hr : Room (n + 1) X.A) : OpR X (compareOp .NotEq) (rNeG (DList D)) := by
  intro pins s σ H x y v u Q I rx ry hq
  obtain ⟨⟨a, b, xs, ys, rfl, rfl, ha, hb, p⟩, q⟩ := hq
  cases rx
  cases ry
  show wpAny (model X.prog X.w) X.A (richCompare .NotEq (.ref a) (.ref b)) (EP X pins σ Q) X.xe s
  refine rcNeList (N := xs.length) hr.units0 (fun _ s' => LoopI X pins σ H s') (fun i s' q => ?_) (fun s' lp => ?_) ⟨H, I, Ext.rfl'⟩
  · obtain ⟨H1, I1, e1⟩ := id q
    obtain ⟨z, its, k, r, e⟩ := I1.hok a _ (e1 _ _ ha)
    obtain ⟨z2, its2, k2, r2, e2⟩ := I1.hok b _ (e1 _ _ hb)
    refine ⟨its.toArray, its2.toArray, k, k2, e, e2, by rw [List.size_toArray, ← r.length], by rw [List.size_toArray, ← r2.length, ← p.1], fun h1 h2 => ?_⟩
    exact turnG hD h ⟨hr, rfl⟩ p r r2 i h1 h2 s' q
  · obtain ⟨H', I', e⟩ := lp
    exact ⟨.bl false, H', I', rfl, q H' e⟩
/-- .. of instances of a class with its own == -/
theorem op_neIns {CX : CXT} {C f : Addr} {fd : FuncData} {ps : List Str} {R : Addr → Addr → Hp → Prop} {E : XK} (F : FnOk X.prog X.w X.K X.mg X.base CX n f fd ps (spEq R))
    (hne : PySem.W.findIn X.K (.ref C) "__ne__" = some (some (.builtin "object.__ne__"))) (hm : PySem.W.mroIn X.K C (.type "object") = some true)
    (hs : PySem.W.findIn X.K (.ref C) "__eq__" = some (some (.ref f))) (hf : PySem.W.isFn X.K (.ref f) = true) (hb : Binds X.K fd ps []) (hx : Passes CX X E) (hr : Room (n + 1) X.A) : OpR X (compareOp .NotEq) (rNeG (DIns C R)) := by
  intro pins s σ H x y v u Q I rx ry hq
  obtain ⟨⟨a, b, dx, dy, fs, gs, rfl, rfl, ha, hb', hrr⟩, q⟩ := hq
  cases rx
  cases ry
  obtain ⟨mA, J, _⟩ := ins_get I.hok ha
  obtain ⟨mB, J2, _⟩ := ins_get I.hok hb'
  obtain ⟨od, J, _⟩ := J.look
  obtain ⟨od2, J2, _⟩ := J2.look
  obtain ⟨m, hF⟩ := I.fr
  show wpAny (model X.prog X.w) X.A (richCompare .NotEq (.ref a) (.ref b)) (EP X pins σ Q) X.xe s
  have hu := hr.units
  refine ne_K (by omega) hF I.ok.mod.kin J J2 hne hm hs hf ?_
  have hsp : spEq R [.ref a, .ref b] H (fun v H' => v = .bl true ∧ Ext H H') E := ⟨a, b, rfl, hrr, fun H' e => ⟨rfl, e⟩⟩
  have e0 : Env0 X.prog X.w X.K X.mg X.base X.A.in1 X.stack s H := by
    have e := I.env0
    exact ⟨e.frames, e.mod, e.bs, e.bsz, e.funs, e.frf, e.hok, e.bare⟩
  have hl := F.len _ _ _ _ hsp
  refine wpAny_call (codeAny_mono (F.run X.A.in1 X.stack s H ⟨[.ref a, .ref b], []⟩ [.ref a, .ref b] [.ref a, .ref b] _ E hr.in1 e0 (by
    have := hb s [.ref a, .ref b] I.kIn (by simpa using hl)
    simpa using this) (.cons rfl (.cons rfl .nil)) hsp) fun r s' hq => ?_)
  cases r with
  | error e => exact hx pins σ H s e s' I hq
  | ok fl =>
    cases fl with
    | ret w =>
      obtain ⟨z, H', I', rz, ez, ex⟩ := I.after hq
      subst ez
      cases rz
      exact ⟨true, rfl, .bl false, H', I', rfl, q H' ex⟩
    | next => exact False.elim hq
    | brk => exact False.elim hq
    | cont => exact False.elim hq
end
end Fw
set_option Elab.async false
set_option linter.all false
set_option maxRecDepth 100000
set_option maxHeartbeats 4000000
namespace Fw
open PySem PySem.Spec PyProof.Rows L2
/-! what never changes: tuples and instances -/
def Fixd : HO → Prop
  | .tup _ => True
  | .ins _ _ _ => True
  | _ => False
def Kp (H H' : Hp) : Prop := ∀ c o, Fixd o → H c = some o → H' c = some o
theorem Kp.refl (H : Hp) : Kp H H := fun _ _ _ h => h
theorem Kp.of {H H' : Hp} (e : Same H H') : Kp H H' := fun c o _ h => e c o h
theorem Kp.imm {H H' : Hp} (e : Imm H H') : Kp H H' := fun c o f h => e c o (by cases o <;> first | exact trivial | exact False.elim f) h
theorem Kp.trans {H H1 H2 : Hp} (a : Kp H H1) (b : Kp H1 H2) : Kp H H2 := fun c o s h => b c o s (a c o s h)
theorem Kp.upd {H : Hp} {d : Addr} {u o : HO} (h : H d = some u) (hu : ¬ Fixd u) : Kp H (upd H d o) := fun c v s e => by
  by_cases hc : c = d
  · rw [hc, h] at e
    cases e
    exact absurd s hu
  · rw [upd_ne hc]
    exact e
theorem Kp.updL {H : Hp} {d : Addr} {xs : List V} {o : HO} (h : H d = some (.lst xs)) : Kp H (L2.upd H d o) := Kp.upd h (fun z => z)
/-- all stays but at d -/
def Bt (d : Addr) (H H' : Hp) : Prop := ∀ c o, c ≠ d → H c = some o → H' c = some o
theorem Bt.of {d : Addr} {H H' : Hp} (e : Same H H') : Bt d H H' := fun c o _ h => e c o h
theorem Bt.trans {d : Addr} {H H1 H2 : Hp} (a : Bt d H H1) (b : Bt d H1 H2) : Bt d H H2 := fun c o n h => b c o n (a c o n h)
theorem Bt.upd {d : Addr} {H : Hp} {o : HO} : Bt d H (upd H d o) := fun c u n h => by rw [upd_ne n]; exact h
theorem Bt.kp {d : Addr} {H H' : Hp} {u : HO} (b : Bt d H H') (h : H d = some u) (hu : ¬ Fixd u) : Kp H H' := fun c o s e => by
  by_cases hc : c = d
  · rw [hc, h] at e
    cases e
    exact absurd s hu
  · exact b c o hc e
/-- what was there before stays, d is newer -/
theorem Bt.same {d : Addr} {H0 H H' : Hp} (b : Bt d H H') (s : Same H0 H) (hd : H0 d = none) : Same H0 H' := fun c o h => b c o (fun e => by rw [e, hd] at h; cases h) (s c o h)
theorem p_imp {α β : Type} {F G : α → β → Prop} {l1 : List α} {l2 : List β} (p : Paired F l1 l2) (h : ∀ a b, F a b → G a b) : Paired G l1 l2 := L2.Paired.mapP p h
theorem p_app {α β : Type} {F : α → β → Prop} : ∀ {l1 : List α} {l2 : List β} {m1 : List α} {m2 : List β}, Paired F l1 l2 → Paired F m1 m2 → Paired F (l1 ++ m1) (l2 ++ m2)
  | _, _, _, _, .nil, h => h
  | _, _, _, _, .cons a t, h => .cons a (p_app t h)
theorem p_one {α β : Type} {F : α → β → Prop} {a : α} {b : β} (h : F a b) : Paired F [a] [b] := .cons h .nil
section
variable {K : PySem.W.Frag}
theorem SpanAt.kp {H H' : Hp} {p : Addr} {s a b : Int} (h : SpanAt K H p s a b) (e : Kp H H') : SpanAt K H' p s a b := by
  obtain ⟨dx, h⟩ := h
  exact ⟨dx, e _ _ trivial h⟩
/-! comprehensions: what is kept, what each gives -/
section
variable {β : Type} {ps : List (V × β)} {f : β → Bool} {El : β → V → Hp → Prop} {own : List Nat} {σ : L2.St} {H1 : Hp} {D a : Addr} {Qd : Hp → Prop} {g : TG} {tt : TT} {te : TE}
abbrev Step (ps : List (V × β)) (f : β → Bool) (El : β → V → Hp → Prop) (own : List Nat) (σ : L2.St) (H1 : Hp) (g : TG) (tt : TT) (te : TE) : Prop :=
  ∀ (i : Nat) (x : V) (b : β) (H2 : Hp) (Kt : V → Hp → Prop) (Kf : Hp → Prop), ps[i]? = some (x, b) → Same H1 H2 → (f b = true → ∀ y H5, Same H2 H5 → El b y H5 → Kt y H5) → (f b = false → ∀ H4, Same H2 H4 → Kf H4) →
    g x (wipe σ own) H2 fun σ2 H3 => wipe σ2 own = wipe σ own ∧ tt σ2 H3 fun c H4 => if c = true then te σ2 H4 Kt else Kf H4
def LcP (ps : List (V × β)) (f : β → Bool) (El : β → V → Hp → Prop) (H1 : Hp) (D : Addr) (i : Nat) (H' : Hp) : Prop := Same H1 H' ∧ ∃ vs, H' D = some (.lst vs) ∧ Paired (fun b v => El b v H') (((ps.take i).map (·.2)).filter f) vs
theorem LcP.step (mono : ∀ b v H H', Kp H H' → El b v H → El b v H') (hD : H1 D = none) (hb : ps.length ≤ 100000) (hs : Step ps f El own σ H1 g tt te) {i : Nat} {x : V} {b : β} {H2 : Hp} (hp : ps[i]? = some (x, b)) (h : LcP ps f El H1 D i H2) :
    g x (wipe σ own) H2 fun σ2 H3 => wipe σ2 own = wipe σ own ∧ tt σ2 H3 fun c H4 => if c = true then te σ2 H4 (fun y H5 => ∃ acc, H5 D = some (.lst acc) ∧ acc.length < sizeLine ∧ LcP ps f El H1 D (i + 1) (upd H5 D (.lst (acc ++ [y])))) else LcP ps f El H1 D (i + 1) H4 := by
  obtain ⟨s2, vs, hv, pv⟩ := h
  have et : (ps.take (i + 1)).map (·.2) = (ps.take i).map (·.2) ++ [b] := by rw [List.take_add_one, hp, List.map_append]; rfl
  refine hs i x b H2 _ _ hp s2 (fun hf y H5 s5 el => ?_) (fun hf H4 s4 => ?_)
  · refine ⟨vs, s5 _ _ hv, ?_, same_mut (s2.trans s5) hD, vs ++ [y], upd_same, ?_⟩
    · rw [← Paired.len pv]
      have h1 := List.length_filter_le f ((ps.take i).map (·.2))
      rw [List.length_map, List.length_take] at h1
      exact Nat.lt_of_le_of_lt (by omega : _ ≤ 100000) (by decide)
    · have k5 : Kp H5 (upd H5 D (.lst (vs ++ [y]))) := Kp.updL (s5 _ _ hv)
      rw [et, List.filter_append, List.filter_cons_of_pos hf]
      exact p_app (p_imp pv fun b v e => mono _ _ _ _ ((Kp.of s5).trans k5) e) (p_one (mono _ _ _ _ k5 el))
  · refine ⟨s2.trans s4, vs, s4 _ _ hv, ?_⟩
    rw [et, List.filter_append, List.filter_cons_of_neg (by rw [hf]; decide)]
    show Paired _ (_ ++ []) vs
    rw [List.append_nil]
    exact p_imp pv fun b v e => mono _ _ _ _ (Kp.of s4) e
theorem lcE_list (mono : ∀ b v H H', Kp H H' → El b v H → El b v H') (hD : H1 D = none) (hS : SqL K H1 a (ps.map (·.1))) (hb : ps.length ≤ 100000) (hs : Step ps f El own σ H1 g tt te)
    (hd : ∀ H' vs, Same H1 H' → H' D = some (.lst vs) → Paired (fun b v => El b v H') ((ps.map (·.2)).filter f) vs → Qd H') :
    ∃ W : Nat → Nat → Hp → Prop, (∃ m, W 0 m (upd H1 D (.lst []))) ∧ ∀ i m H, W i m H →
      ((Itl K a).stop i H ∧ Qd H) ∨ ((Itl K a).go i H ∧ ∃ Nx : Hp → Prop, (∀ H', Nx H' → ∃ m', m' < m ∧ W (i + 1) m' H') ∧ ∀ x H', (Itl K a).yld i H x H' → g x (wipe σ own) H' fun σ2 H2 => wipe σ2 own = wipe σ own ∧ tt σ2 H2 fun b H3 =>
        if b = true then te σ2 H3 fun y H4 => ∃ acc, H4 D = some (.lst acc) ∧ acc.length < sizeLine ∧ Nx (upd H4 D (.lst (acc ++ [y]))) else Nx H3) := by
  refine lc_list (K := K) (xs := ps.map (·.1)) (LcP ps f El H1 D) ⟨same_new hD, [], upd_same, ?_⟩ (fun i H' _ p => Same.seq p.1 hS) ?_ ?_
  · rw [List.take_zero]; exact .nil
  · intro i x H2 hx p
    rw [List.getElem?_map] at hx
    cases hp : ps[i]? with
    | none => rw [hp] at hx; cases hx
    | some q =>
      rw [hp] at hx
      cases hx
      exact LcP.step mono hD hb hs hp p
  · rintro H' ⟨s, vs, hv, p⟩
    rw [List.length_map, List.take_length] at p
    exact hd H' vs s hv p
theorem lcE_tup (mono : ∀ b v H H', Kp H H' → El b v H → El b v H') (hD : H1 D = none) (hS : SqT K H1 a (ps.map (·.1))) (hb : ps.length ≤ 100000) (hs : Step ps f El own σ H1 g tt te)
    (hd : ∀ H' vs, Same H1 H' → H' D = some (.lst vs) → Paired (fun b v => El b v H') ((ps.map (·.2)).filter f) vs → Qd H') :
    ∃ W : Nat → Nat → Hp → Prop, (∃ m, W 0 m (upd H1 D (.lst []))) ∧ ∀ i m H, W i m H →
      ((Itt K a).stop i H ∧ Qd H) ∨ ((Itt K a).go i H ∧ ∃ Nx : Hp → Prop, (∀ H', Nx H' → ∃ m', m' < m ∧ W (i + 1) m' H') ∧ ∀ x H', (Itt K a).yld i H x H' → g x (wipe σ own) H' fun σ2 H2 => wipe σ2 own = wipe σ own ∧ tt σ2 H2 fun b H3 =>
        if b = true then te σ2 H3 fun y H4 => ∃ acc, H4 D = some (.lst acc) ∧ acc.length < sizeLine ∧ Nx (upd H4 D (.lst (acc ++ [y]))) else Nx H3) := by
  refine lc_tup (K := K) (xs := ps.map (·.1)) (LcP ps f El H1 D) ⟨same_new hD, [], upd_same, ?_⟩ (fun i H' _ p => hS.ext p.1) ?_ ?_
  · rw [List.take_zero]; exact .nil
  · intro i x H2 hx p
    rw [List.getElem?_map] at hx
    cases hp : ps[i]? with
    | none => rw [hp] at hx; cases hx
    | some q =>
      rw [hp] at hx
      cases hx
      exact LcP.step mono hD hb hs hp p
  · rintro H' ⟨s, vs, hv, p⟩
    rw [List.length_map, List.take_length] at p
    exact hd H' vs s hv p
theorem lcE_range {n : Nat} {lo : Int} (mono : ∀ b v H H', Kp H H' → El b v H → El b v H') (hD : H1 D = none) (hn : ps.length = n) (hx : ∀ (i : Nat) x b, ps[i]? = some (x, b) → x = V.int (lo + (i : Int))) (hb : ps.length ≤ 100000) (hs : Step ps f El own σ H1 g tt te)
    (hd : ∀ H' vs, Same H1 H' → H' D = some (.lst vs) → Paired (fun b v => El b v H') ((ps.map (·.2)).filter f) vs → Qd H') :
    ∃ W : Nat → Nat → Hp → Prop, (∃ m, W 0 m (upd H1 D (.lst []))) ∧ ∀ i m H, W i m H →
      ((Itr lo n).stop i H ∧ Qd H) ∨ ((Itr lo n).go i H ∧ ∃ Nx : Hp → Prop, (∀ H', Nx H' → ∃ m', m' < m ∧ W (i + 1) m' H') ∧ ∀ x H', (Itr lo n).yld i H x H' → g x (wipe σ own) H' fun σ2 H2 => wipe σ2 own = wipe σ own ∧ tt σ2 H2 fun b H3 =>
        if b = true then te σ2 H3 fun y H4 => ∃ acc, H4 D = some (.lst acc) ∧ acc.length < sizeLine ∧ Nx (upd H4 D (.lst (acc ++ [y]))) else Nx H3) := by
  refine lc_range (LcP ps f El H1 D) ⟨same_new hD, [], upd_same, ?_⟩ ?_ ?_
  · rw [List.take_zero]; exact .nil
  · intro i H2 hi p
    have hi2 : i < ps.length := by omega
    have e := List.getElem?_eq_getElem hi2
    have ex := hx i _ _ (show ps[i]? = some (ps[i].1, ps[i].2) from e)
    rw [← ex]
    exact LcP.step mono hD hb hs e p
  · rintro H' ⟨s, vs, hv, p⟩
    rw [← hn, List.take_length] at p
    exact hd H' vs s hv p
end
end
end Fw
set_option Elab.async false
set_option linter.all false
set_option maxRecDepth 100000
set_option maxHeartbeats 4000000
namespace Fw
open PySem PySem.Spec PyProof.Rows L2
open C8 (Cal CalAt Met Mak pe_c pe_mk pe_mt pe_mt0 pe_gc InsC call_isC)

section
variable {P : Program} {w : World} {K : PySem.W.Frag} {mg : Str → Option Value} {base : Heap}

/-! drawings, plainly: rows the latest first -/
abbrev Par := Int × Int × Int
abbrev Row := Str × Str × Par
def NameOk (n : Str) : Prop := 1 ≤ n.length ∧ n.length ≤ 6 ∧ ∀ c ∈ n.cps.toList, 97 ≤ c ∧ c ≤ 122
def rnm (rs : List Row) : List Str := rs.map (·.1)
inductive Good (z : Str) : List Row → Prop
  | nil : NameOk z → Good z []
  | cons {r : Row} {rs : List Row} : Good z rs → NameOk r.1 → r.1 ∉ z :: rnm rs → r.2.1 ∈ z :: rnm rs → 0 ≤ r.2.2.2.1 + r.2.2.2.2 → Good z (r :: rs)
def look : List Row → Str → Option (Str × Par)
  | [], _ => none
  | r :: rs, n => if r.1 = n then some r.2 else look rs n
def upR : List Row → Str → List Str
  | [], n => [n]
  | r :: rs, n => if r.1 = n then n :: upR rs r.2.1 else upR rs n
theorem Good.zero {z : Str} {rs : List Row} (g : Good z rs) : NameOk z := by
  induction g with
  | nil h => exact h
  | cons _ _ _ _ _ ih => exact ih
theorem look_some {z : Str} {rs : List Row} (g : Good z rs) {n : Str} (h : n ∈ rnm rs) : ∃ s p, look rs n = some (s, p) ∧ s ∈ z :: rnm rs ∧ upR rs n = n :: upR rs s ∧ 0 ≤ p.2.1 + p.2.2 ∧ NameOk n ∧ s ≠ n := by
  induction g with
  | nil _ => cases h
  | @cons r rs g h1 h2 h3 h4 ih =>
    by_cases e : r.1 = n
    · have ns : r.1 ≠ r.2.1 := fun z => h2 (by rw [z]; exact h3)
      refine ⟨r.2.1, r.2.2, by unfold look; rw [if_pos e], ?_, ?_, h4, e ▸ h1, fun z => ns (e.trans z.symm)⟩
      · rcases List.mem_cons.mp h3 with h | h
        · rw [h]; exact List.mem_cons_self ..
        · exact List.mem_cons_of_mem _ (List.mem_cons_of_mem _ h)
      · show (if r.1 = n then n :: upR rs r.2.1 else upR rs n) = n :: (if r.1 = r.2.1 then r.2.1 :: upR rs r.2.1 else upR rs r.2.1)
        rw [if_pos e, if_neg ns]
    · have hn : n ∈ rnm rs := by
        rcases List.mem_cons.mp h with h | h
        · exact absurd h.symm e
        · exact h
      obtain ⟨s, p, a1, a2, a3, a4, a5, a6⟩ := ih hn
      refine ⟨s, p, by unfold look; rw [if_neg e]; exact a1, ?_, ?_, a4, a5, a6⟩
      · rcases List.mem_cons.mp a2 with h | h
        · rw [h]; exact List.mem_cons_self ..
        · exact List.mem_cons_of_mem _ (List.mem_cons_of_mem _ h)
      · have ns : r.1 ≠ s := fun z => h2 (by rw [z]; exact a2)
        show (if r.1 = n then n :: upR rs r.2.1 else upR rs n) = n :: (if r.1 = s then s :: upR rs r.2.1 else upR rs s)
        rw [if_neg e, if_neg ns]
        exact a3
theorem look_none {rs : List Row} {n : Str} (h : n ∉ rnm rs) : look rs n = none := by
  induction rs with
  | nil => rfl
  | cons r rs ih =>
    unfold look
    rw [if_neg (fun e => h (by rw [← e]; exact List.mem_cons_self ..))]
    exact ih fun m => h (List.mem_cons_of_mem _ m)
theorem up_none {rs : List Row} {n : Str} (h : n ∉ rnm rs) : upR rs n = [n] := by
  induction rs with
  | nil => rfl
  | cons r rs ih =>
    unfold upR
    rw [if_neg (fun e => h (by rw [← e]; exact List.mem_cons_self ..))]
    exact ih fun m => h (List.mem_cons_of_mem _ m)
theorem Good.zn {z : Str} {rs : List Row} (g : Good z rs) : z ∉ rnm rs := by
  induction g with
  | nil _ => exact fun h => by cases h
  | @cons r rs g h1 h2 h3 h4 ih =>
    intro h
    rcases List.mem_cons.mp h with h | h
    · exact h2 (by rw [show r.1 = z from h.symm]; exact List.mem_cons_self ..)
    · exact ih h
theorem Good.ok {z : Str} {rs : List Row} (g : Good z rs) {n : Str} (h : n ∈ z :: rnm rs) : NameOk n := by
  rcases List.mem_cons.mp h with h | h
  · rw [h]; exact g.zero
  · obtain ⟨_, _, _, _, _, _, h, _⟩ := look_some g h
    exact h
theorem Good.nodup {z : Str} {rs : List Row} (g : Good z rs) : (z :: rnm rs).Nodup := by
  induction g with
  | nil _ => simp [rnm]
  | @cons r rs g h1 h2 h3 h4 ih =>
    rw [List.nodup_cons] at ih ⊢
    refine ⟨fun h => ?_, List.nodup_cons.mpr ⟨fun h => h2 (List.mem_cons_of_mem _ h), ih.2⟩⟩
    rcases List.mem_cons.mp h with h | h
    · exact h2 (by rw [show r.1 = z from h.symm]; exact List.mem_cons_self ..)
    · exact ih.1 h
theorem up_len (rs : List Row) (n : Str) : (upR rs n).length ≤ rs.length + 1 := by
  induction rs generalizing n with
  | nil => exact Nat.le_refl _
  | cons r rs ih =>
    unfold upR
    split
    · rw [List.length_cons, List.length_cons]; have := ih r.2.1; omega
    · rw [List.length_cons]; have := ih n; omega
theorem up_mem {z : Str} {rs : List Row} (g : Good z rs) {n m : Str} (h : n ∈ z :: rnm rs) (hm : m ∈ upR rs n) : m ∈ z :: rnm rs := by
  induction g generalizing n with
  | nil _ =>
    rw [List.mem_singleton.mp hm]
    exact h
  | @cons r rs g h1 h2 h3 h4 ih =>
    have up : ∀ {x}, x ∈ z :: rnm rs → x ∈ z :: rnm (r :: rs) := fun {x} h => by
      rcases List.mem_cons.mp h with h | h
      · rw [h]; exact List.mem_cons_self ..
      · exact List.mem_cons_of_mem _ (List.mem_cons_of_mem _ h)
    unfold upR at hm
    by_cases e : r.1 = n
    · rw [if_pos e] at hm
      rcases List.mem_cons.mp hm with hm | hm
      · rw [hm]; exact h
      · exact up (ih h3 hm)
    · rw [if_neg e] at hm
      refine up (ih ?_ hm)
      rcases List.mem_cons.mp h with h | h
      · rw [h]; exact List.mem_cons_self ..
      · rcases List.mem_cons.mp h with h | h
        · exact absurd h.symm e
        · exact List.mem_cons_of_mem _ h
/-! drawings as objects -/
def RowAt (K : PySem.W.Frag) (H : Hp) (v : V) (r : Row) : Prop := ∃ t sp, v = .ref t ∧ H t = some (.tup [.str r.2.1, .ref sp]) ∧ SpanAt K H sp r.2.2.1 r.2.2.2.1 r.2.2.2.2
theorem RowAt.kp {H H' : Hp} {v : V} {r : Row} (h : RowAt K H v r) (e : Kp H H') : RowAt K H' v r := by
  obtain ⟨t, sp, a, b, c⟩ := h
  exact ⟨t, sp, a, e _ _ trivial b, c.kp e⟩
def RowsAt (K : PySem.W.Frag) (H : Hp) (kvs : List (Key × V)) (rows : List Row) : Prop := Paired (fun (kv : Key × V) r => kv.1 = .inr r.1 ∧ RowAt K H kv.2 r) kvs rows
theorem RowsAt.kp {H H' : Hp} {kvs : List (Key × V)} {rows : List Row} (h : RowsAt K H kvs rows) (e : Kp H H') : RowsAt K H' kvs rows := p_imp h fun _ _ q => ⟨q.1, q.2.kp e⟩
def drF (z : Str) (d : Addr) : List (Str × V) := [("zero", .str z), ("rows", .ref d)]
structure DrawAt (K : PySem.W.Frag) (H : Hp) (a d : Addr) (z : Str) (rs : List Row) : Prop where
  ins : ∃ dx, H a = some (.ins (He.ga K "Drawing") dx (drF z d))
  rows : ∃ kvs, H d = some (.dK kvs) ∧ RowsAt K H kvs rs.reverse
  good : Good z rs
  few : rs.length ≤ 100
theorem DrawAt.kp {H H' : Hp} {a d : Addr} {z : Str} {rs : List Row} (h : DrawAt K H a d z rs) (e : Kp H H') (hd : H' d = H d) : DrawAt K H' a d z rs := by
  obtain ⟨⟨dx, h1⟩, ⟨kvs, h2, h3⟩, g, l⟩ := h
  exact ⟨⟨dx, e _ _ trivial h1⟩, ⟨kvs, hd.trans h2, h3.kp e⟩, g, l⟩
theorem DrawAt.ext {H H' : Hp} {a d : Addr} {z : Str} {rs : List Row} (h : DrawAt K H a d z rs) (e : Same H H') : DrawAt K H' a d z rs := by
  obtain ⟨kvs, h2, _⟩ := id h.rows
  exact h.kp (Kp.of e) ((e _ _ h2).trans h2.symm)
theorem rowsAt_val {H : Hp} : ∀ {kvs : List (Key × V)} {rows : List Row} {n : Str}, RowsAt K H kvs rows → (rnm rows).Nodup →
    (n ∉ rnm rows → valV kvs (.inr n) = none) ∧ ∀ r ∈ rows, r.1 = n → ∃ v, valV kvs (.inr n) = some v ∧ RowAt K H v r
  | [], [], _, _, _ => ⟨fun _ => rfl, fun _ h => by cases h⟩
  | kv :: kvs, r :: rows, n, .cons h t, hn => by
    have hn : r.1 ∉ rnm rows ∧ (rnm rows).Nodup := List.nodup_cons.mp hn
    obtain ⟨i1, i2⟩ := rowsAt_val (n := n) t hn.2
    by_cases e : r.1 = n
    · have ek : kv.1 = (.inr n : Key) := by rw [h.1, e]
      refine ⟨fun hm => absurd (by rw [← e]; exact List.mem_cons_self ..) hm, fun r' hr' e' => ?_⟩
      rw [valV_pos ek]
      rcases List.mem_cons.mp hr' with q | q
      · rw [q]; exact ⟨_, rfl, h.2⟩
      · exact absurd (List.mem_map.mpr ⟨r', q, e'.trans e.symm⟩) hn.1
    · have ek : ¬ kv.1 = (.inr n : Key) := fun z => e (by rw [h.1] at z; injection z)
      rw [valV_neg ek]
      refine ⟨fun hm => i1 fun q => hm (List.mem_cons_of_mem _ q), fun r' hr' e' => ?_⟩
      rcases List.mem_cons.mp hr' with q | q
      · rw [q] at e'; exact absurd e' e
      · exact i2 r' q e'
theorem look_mem : ∀ {rs : List Row} {n s : Str} {p : Par}, look rs n = some (s, p) → (n, s, p) ∈ rs
  | [], _, _, _, h => by cases h
  | r :: rs, n, s, p, h => by
    unfold look at h
    by_cases e : r.1 = n
    · rw [if_pos e] at h
      have : r = (n, s, p) := by
        obtain ⟨a, b⟩ := r
        have h : b = (s, p) := by injection h
        have e : a = n := e
        rw [h, e]
      rw [this]; exact List.mem_cons_self ..
    · rw [if_neg e] at h
      exact List.mem_cons_of_mem _ (look_mem h)
theorem rnm_rev (rs : List Row) : rnm rs.reverse = (rnm rs).reverse := List.map_reverse
theorem DrawAt.val {H : Hp} {a d : Addr} {z : Str} {rs : List Row} (h : DrawAt K H a d z rs) (n : Str) : ∃ kvs, H d = some (.dK kvs) ∧ (n ∉ rnm rs → valV kvs (.inr n) = none) ∧
    ∀ s p, look rs n = some (s, p) → ∃ v, valV kvs (.inr n) = some v ∧ RowAt K H v (n, s, p) := by
  obtain ⟨kvs, h2, h3⟩ := h.rows
  have hn : (rnm rs.reverse).Nodup := by
    rw [rnm_rev]
    refine (List.reverse_perm _).nodup_iff.mpr ?_
    exact (List.nodup_cons.mp h.good.nodup).2
  obtain ⟨i1, i2⟩ := rowsAt_val (n := n) h3 hn
  refine ⟨kvs, h2, fun hm => i1 (by rw [rnm_rev, List.mem_reverse]; exact hm), fun s p e => ?_⟩
  exact i2 (n, s, p) (List.mem_reverse.mpr (look_mem e)) rfl
theorem keys_rows {H : Hp} : ∀ {kvs : List (Key × V)} {rows : List Row}, RowsAt K H kvs rows → (kvs.map fun kv => kV kv.1) = (rnm rows).map V.str
  | [], [], _ => rfl
  | kv :: kvs, r :: rows, .cons h t => by
    rw [List.map_cons, keys_rows t, h.1]
    rfl
theorem let_mem {c : Nat} : c ∈ ("abcdefghijklmnopqrstuvwxyz" : Str).cps.toList ↔ 97 ≤ c ∧ c ≤ 122 := by
  have e : ("abcdefghijklmnopqrstuvwxyz" : Str).cps.toList = List.range' 97 26 := by decide +kernel
  rw [e, List.mem_range']
  constructor
  · rintro ⟨i, h1, rfl⟩
    omega
  · intro h
    exact ⟨c - 97, by omega, by omega⟩
theorem s_is_name : FnScope ["thing", "sign"] ["thing"] d_is_name.scope := ⟨rfl, rfl, rfl, by decide +kernel, rfl, by decide +kernel, by decide +kernel⟩
theorem c_is_name (T : Txt w K mg) : Cal P w K mg base 1 "is_name" (fun vs H Q _ => ∃ n : Str, vs = [.str n] ∧ NameOk n ∧ ∀ H', Same H H' → Q (.bl true) H') [] := by
  refine T.cal 33 32 (d := d_is_name) (S := s_is_name) (hb := fun _ _ _ _ _ _ us hl => match us, hl with | [_], _ => rfl) (len := fun vs H Q E h => ?_) (hbody := fun cdv A outer s H vs Q E hr h => ?_)
  · obtain ⟨n, rfl, ⟨n1, n6, nl⟩, k⟩ := h
    rfl
  · obtain ⟨n, rfl, ⟨n1, n6, nl⟩, k⟩ := h
    refine ⟨_, (pss_cons (ps_if (PW.pt (pw_or (pt_not (pt_val (pe_callB (id := "isinstance") call_isi (by rfl) (T.f 103) (by decide +kernel) (pa_cons (pv 0) (pa_cons (pe_bltn (v := .ty "str") (by rfl) (T.f 109) (by decide +kernel) rfl) pa_nil))))) (pw_or1 (pt_not (pt_chain op_le op_le pe_int (pe_callB (id := "len") call_len_str (by rfl) (T.f 104) (by decide +kernel) (pa_cons (pv 0) pa_nil)) (pe_gc rfl (T.int 114))))))) (pss_one (ps_ret pe_bl)) pss_nil)
      (pss_one (ps_ret (pe_callB (id := "all") (cr_all rfl) (by rfl) (T.f 97) (by decide +kernel) (pa_cons (pe_lc (own := [("sign", 1)]) (g := (gName 1)) rfl s_is_name.nd (pi_str (pv 0)) (blkOk_by (N := ["thing", "sign"]) (sc := d_is_name.scope) (own := [("sign", 1)]) (by decide +kernel)) (fun _ _ _ _ _ => (pg_name (i := 1) s_is_name.nd rfl (Or.inl rfl))) (fun _ _ _ _ _ => pts_nil) (fun _ _ _ _ _ => (pe_cmpR op_in_sign (pv 1) (pe_gc rfl (T.str 117)) (by rfl)))) pa_nil))))), ?_⟩
    refine ⟨_, rfl, .str n, .ty "str", .type "str", .type "str", true, rfl, .ty "str", .base (.str _), kit_ty (by decide +kernel), true, rfl, ?_⟩
    refine ⟨_, rfl, n, rfl, len_sl (by omega), _, _, rfl, rfl, _, rfl, ?_⟩
    refine bool_of_true (by omega) ?_
    refine ⟨_, _, rfl, rfl, _, rfl, ?_⟩
    rw [decide_eq_true (show (n.length : Int) ≤ 6 by omega)]
    refine iteF ?_
    unfold tNext tRet tCB tCons
    dsimp only
    refine tlc_text (j := 1) (z := n) (f := fun c => decide (c ∈ ("abcdefghijklmnopqrstuvwxyz" : Str).cps.toList)) ?_ (by omega) ?_ ?_ (fun D H1 hD s1 h1 => ?_)
    · show 1 < 2
      decide
    · exact fun Q q => ⟨_, rfl, q⟩
    · exact fun c σ2 H3 Q _ e q => ⟨_, e, c, _, rfl, rfl, q⟩
    refine ⟨D, _, rfl, SqL.of h1, ?_⟩
    have e : ((n.cps.toList.map fun c => decide (c ∈ ("abcdefghijklmnopqrstuvwxyz" : Str).cps.toList)).all id) = true := by
      rw [all_id, List.all_eq_true]
      intro c hc
      exact decide_eq_true (let_mem.mpr (nl c hc))
    rw [e]
    exact k _ s1
def spDrawInit (K : PySem.W.Frag) : Sp := fun vs H Q _ => ∃ x dx z, vs = [.ref x, .str z] ∧ NameOk z ∧ H x = some (.ins (He.ga K "Drawing") dx []) ∧
  ∀ d H', H d = none → Bt x H H' → H' x = some (.ins (He.ga K "Drawing") dx (drF z d)) → H' d = some (.dK []) → Q .non H'
theorem s_Drawing_init : FnScope ["self", "zero"] ["self", "zero"] d_Drawing_init.scope := ⟨rfl, rfl, rfl, by decide +kernel, rfl, by decide +kernel, by decide +kernel⟩
theorem f_Drawing_init (T : Txt w K mg) : ∃ fd, FunD K d_Drawing_init.name d_Drawing_init.qual d_Drawing_init.params d_Drawing_init.body d_Drawing_init.scope (d_Drawing_init.dvs K) (d_Drawing_init.kws K) (He.ma K (He.ga K "Drawing") "__init__") fd ∧ FnOk P w K mg base C8.CX0 2 (He.ma K (He.ga K "Drawing") "__init__") fd ["self", "zero"] (spDrawInit K) := by
  refine T.ini 34 132 (d := d_Drawing_init) (S := s_Drawing_init) (len := fun vs H Q E h => ?_) (hbody := fun cdv A outer s H vs Q E hr h => ?_)
  · obtain ⟨x, dx, z, rfl, hz, hx, k⟩ := h
    rfl
  · obtain ⟨x, dx, z, rfl, hz, hx, k⟩ := h
    have cl := T.cl 131
    refine ⟨_, (pss_cons (ps_if (pt_not (pt_val (pe_c (c_is_name T) hr (by decide) rfl (pa_cons (pv 1) pa_nil)))) (pss_one ps_never) pss_nil)
      (pss_cons (ps_fld (pv 0) (pv 1) rfl)
      (pss_one (ps_fld (pv 0) pe_dnewK rfl)))), ?_⟩
    refine ⟨_, rfl, z, rfl, hz, fun H1 s1 => ⟨_, rfl, ?_⟩⟩
    refine ⟨_, rfl, _, rfl, x, _, dx, _, rfl, s1 _ _ hx, cl, T.na 133, (by decide : ([] : List (Str × V)).length < 1000), ?_⟩
    intro d hd
    have hxd : x ≠ d := fun e => by rw [← e, upd_same] at hd; cases hd
    refine ⟨_, rfl, x, _, dx, [("zero", .str z)], rfl, ?_, cl, T.na 134, Nat.le_of_ble_eq_true rfl, ?_⟩
    · rw [upd_ne hxd]
      exact upd_same
    · refine k d _ ?_ ?_ upd_same ?_
      · rw [upd_ne hxd.symm] at hd
        exact s1.free hd
      · exact (Bt.of s1).trans (Bt.upd.trans ((Bt.of (same_new hd)).trans Bt.upd))
      · rw [upd_ne hxd.symm]
        exact upd_same
/-- a new drawing -/
def RetD (K : PySem.W.Frag) (H : Hp) (z : Str) (Q : VK) : Prop := ∀ a d H', H a = none → H d = none → Same H H' → DrawAt K H' a d z [] → Q (.ref a) H'
theorem m_Drawing1 (T : Txt w K mg) : Mak P w K mg base 2 "Drawing" (He.ga K "Drawing") (spDrawInit K) [] := by
  obtain ⟨fd, F, G⟩ := f_Drawing_init (P := P) (base := base) T
  obtain ⟨ds, d, b⟩ : ∃ ds, Vals [] ds ∧ Binds K fd ["self", "zero"] ds := F.binds1 2 1 (fun h => by cases h) rfl fun T kV doc pm an cdv ct us its h1 h2 => match us, its, h1, h2 with | [_, _], [_], _, _ => ⟨_, rfl, rfl⟩
  exact ⟨_, fd, _, ds, T.mkr 132, G, T.g 33, b, d⟩
theorem mkD {H : Hp} {z : Str} {Q : VK} {E : XK} (hz : NameOk z) (k : RetD K H z Q) : ∀ x dx, H x = none → H dx = none → dx ≠ x → spDrawInit K [.ref x, .str z] (upd (upd H dx (.own x)) x (.ins (He.ga K "Drawing") dx [])) (fun v H2 => v = .non ∧ Q (.ref x) H2) E := by
  intro x dx hx hd hn
  refine ⟨x, dx, z, rfl, hz, upd_same, fun d H' hd2 b h1 h2 => ⟨rfl, ?_⟩⟩
  have s0 : Same H (upd (upd H dx (.own x)) x (.ins (He.ga K "Drawing") dx [])) := same_mut (same_new hd) hx
  exact k x d H' hx (s0.free hd2) (b.same s0 hx) ⟨⟨dx, h1⟩, ⟨[], h2, .nil⟩, .nil hz, Nat.zero_le _⟩
def spD1 (K : PySem.W.Frag) (r : V) : Sp := fun vs H Q _ => ∃ a d z rs, vs = [.ref a] ∧ DrawAt K H a d z rs ∧ Q r H
theorem s_check_drawing : FnScope ["thing"] ["thing"] d_check_drawing.scope := ⟨rfl, rfl, rfl, by decide +kernel, rfl, by decide +kernel, by decide +kernel⟩
theorem c_check_drawing (T : Txt w K mg) : Cal P w K mg base 1 "check_drawing" (spD1 K .non) [] := by
  refine T.cal 47 35 (d := d_check_drawing) (S := s_check_drawing) (hb := fun _ _ _ _ _ _ us hl => match us, hl with | [_], _ => rfl) (len := fun vs H Q E h => ?_) (hbody := fun cdv A outer s H vs Q E hr h => ?_)
  · obtain ⟨a, d, z, rs, rfl, hD, k⟩ := h
    rfl
  · obtain ⟨a, d, z, rs, rfl, hD, k⟩ := h
    refine ⟨_, (pss_one (ps_if (pt_not (pt_val (pe_callB (id := "isinstance") (call_isC T.inD) (by rfl) (T.f 103) (by decide +kernel) (pa_cons (pv 0) (pa_cons (pe_gc rfl (T.gr 33)) pa_nil))))) (pss_one ps_never) pss_nil)), ?_⟩
    obtain ⟨dx, hi⟩ := hD.ins
    exact ⟨_, rfl, a, dx, _, rfl, hi, _, rfl, k⟩
def spThere (K : PySem.W.Frag) : Sp := fun vs H Q _ => ∃ a d z rs n, vs = [.ref a, .str n] ∧ DrawAt K H a d z rs ∧ n ∈ z :: rnm rs ∧ Q .non H
theorem s_Drawing_check_there : FnScope ["self", "name"] ["self", "name"] d_Drawing_check_there.scope := ⟨rfl, rfl, rfl, by decide +kernel, rfl, by decide +kernel, by decide +kernel⟩
theorem c_Drawing_check_there (T : Txt w K mg) : Met P w K mg base 1 (He.ga K "Drawing") "check_there" (spThere K) [] := by
  refine T.met 38 131 138 (d := d_Drawing_check_there) (S := s_Drawing_check_there) (hb := fun _ _ _ _ _ _ us hl => match us, hl with | [_, _], _ => rfl) (len := fun vs H Q E h => ?_) (hbody := fun cdv A outer s H vs Q E hr h => ?_)
  · obtain ⟨a, d, z, rs, n, rfl, hD, hn, k⟩ := h
    rfl
  · obtain ⟨a, d, z, rs, n, rfl, hD, hn, k⟩ := h
    have hu := hu_of hr
    have cl := T.cl 131
    refine ⟨_, (pss_one (ps_if (PW.pt (pw_or (pt_not (pt_val (pe_callB (id := "isinstance") call_isi (by rfl) (T.f 103) (by decide +kernel) (pa_cons (pv 1) (pa_cons (pe_bltn (v := .ty "str") (by rfl) (T.f 109) (by decide +kernel) rfl) pa_nil))))) (pw_or1 (PW.pt (pw_and (pt_cmpR op_ne (pv 1) (pe_fld (pv 0) rfl) (nomark _)) (pw_and1 (pt_cmp (pc_dnotin hu (pv 1) (pe_fld (pv 0) rfl))))))))) (pss_one ps_never) pss_nil)), ?_⟩
    obtain ⟨dx, hi⟩ := hD.ins
    refine ⟨_, rfl, .str n, .ty "str", .type "str", .type "str", true, rfl, .ty "str", .base (.str _), kit_ty (by decide +kernel), true, rfl, ?_⟩
    refine ⟨_, rfl, _, rfl, a, _, dx, _, _, rfl, hi, cl, T.na 133, rfl, rfl, _, rfl, ?_⟩
    by_cases e : n = z
    · rw [decide_eq_true (congrArg V.str e)]
      exact k
    rw [decide_eq_false (fun h => e (by injection h))]
    refine iteT ?_
    have hn : n ∈ rnm rs := (List.mem_cons.mp hn).resolve_left e
    obtain ⟨st, p, hl, _⟩ := look_some hD.good hn
    obtain ⟨kvs, hd, _, hv⟩ := hD.val n
    obtain ⟨v, hv, _⟩ := hv st p hl
    refine ⟨_, rfl, _, rfl, a, _, dx, _, _, rfl, hi, cl, T.na 134, rfl, d, _, rfl, DGet.k (k := .inr n) hd, _, rfl, ?_⟩
    rw [hv]
    exact k
theorem s_Drawing_names : FnScope ["self"] ["self"] d_Drawing_names.scope := ⟨rfl, rfl, rfl, by decide +kernel, rfl, by decide +kernel, by decide +kernel⟩
theorem c_Drawing_names (T : Txt w K mg) : Met P w K mg base 1 (He.ga K "Drawing") "names" (fun vs H Q _ => ∃ a d z rs, vs = [.ref a] ∧ DrawAt K H a d z rs ∧ RetT H Q ((z :: rnm rs.reverse).map V.str)) [] := by
  refine T.met 39 131 139 (d := d_Drawing_names) (S := s_Drawing_names) (hb := fun _ _ _ _ _ _ us hl => match us, hl with | [_], _ => rfl) (len := fun vs H Q E h => ?_) (hbody := fun cdv A outer s H vs Q E hr h => ?_)
  · obtain ⟨a, d, z, rs, rfl, hD, k⟩ := h
    rfl
  · obtain ⟨a, d, z, rs, rfl, hD, k⟩ := h
    have cl := T.cl 131
    refine ⟨_, (pss_one (ps_ret (pe_op op_catA (pe_tup (pa_cons (pe_fld (pv 0) rfl) pa_nil)) (pe_callTy (T := "tuple") (call_tuple_dK rfl) (by rfl) (T.f 111) (by decide +kernel) (pa_cons (pe_fld (pv 0) rfl) pa_nil))))), ?_⟩
    obtain ⟨dx, hi⟩ := hD.ins
    obtain ⟨kvs, hd, hr⟩ := hD.rows
    have hlr : kvs.length = rs.length := by rw [Paired.len hr, List.length_reverse]
    have hfew := hD.few
    refine ⟨_, rfl, a, _, dx, _, _, rfl, hi, cl, T.na 133, rfl, sz1, fun p hp => ?_⟩
    refine ⟨_, rfl, a, _, dx, _, _, rfl, (same_new hp) _ _ hi, cl, T.na 134, rfl, d, kvs, rfl, (same_new hp) _ _ hd, fun q hq => ?_⟩
    rw [keys_rows hr]
    refine ⟨p, q, _, _, rfl, rfl, SqT.of ((same_new hq) _ _ upd_same), SqT.of upd_same, ?_, (fun h => by cases h), fun _ he => ?_, fun _ he t ht => ?_⟩
    · rw [List.length_map, rnm_rev, List.length_reverse, show (rnm rs).length = rs.length from List.length_map _]
      exact Nat.le_trans (by show 1 + rs.length ≤ 200; omega) (by decide)
    · have e : (rnm rs.reverse).map V.str = [] := he
      refine k p _ hp ((same_new hp).trans (same_new hq)) ?_
      rw [List.map_cons, e]
      exact (same_new hq) _ _ upd_same
    · exact k t _ (((same_new hp).trans (same_new hq)).free ht) (((same_new hp).trans (same_new hq)).trans (same_new ht)) upd_same
theorem s_Drawing_told : FnScope ["self", "name"] ["self", "name"] d_Drawing_told.scope := ⟨rfl, rfl, rfl, by decide +kernel, rfl, by decide +kernel, by decide +kernel⟩
theorem c_Drawing_told (T : Txt w K mg) : Met P w K mg base 2 (He.ga K "Drawing") "told" (fun vs H Q _ => ∃ a d z rs n, vs = [.ref a, .str n] ∧ DrawAt K H a d z rs ∧ n ∈ z :: rnm rs ∧ (n ∉ rnm rs → Q .non H) ∧ ∀ s p v, look rs n = some (s, p) → RowAt K H v (n, s, p) → Q v H) [] := by
  refine T.met 40 131 140 (d := d_Drawing_told) (S := s_Drawing_told) (hb := fun _ _ _ _ _ _ us hl => match us, hl with | [_, _], _ => rfl) (len := fun vs H Q E h => ?_) (hbody := fun cdv A outer s H vs Q E hr h => ?_)
  · obtain ⟨a, d, z, rs, n, rfl, hD, hn, k1, k2⟩ := h
    rfl
  · obtain ⟨a, d, z, rs, n, rfl, hD, hn, k1, k2⟩ := h
    have hu := hu_of hr
    have cl := T.cl 131
    refine ⟨_, (pss_cons (ps_expr (pe_mt (c_Drawing_check_there T) hr (by decide) (pv 0) (pa_cons (pv 1) pa_nil)))
      (pss_one (ps_ret (pe_dget1 hu (pe_fld (pv 0) rfl) (pv 1) ⟨rfl, rfl, rfl, rfl⟩)))), ?_⟩
    obtain ⟨dx, hi⟩ := hD.ins
    refine ⟨_, rfl, a, dx, _, rfl, hi, rfl, _, rfl, a, d, z, rs, n, rfl, hD, hn, ?_⟩
    obtain ⟨kvs, hd, hv0, hv⟩ := hD.val n
    refine ⟨_, rfl, a, _, dx, _, _, rfl, hi, cl, T.na 134, rfl, d, rfl, .inl ⟨kvs, Rd.of hd⟩, _, rfl, _, DGet.k (k := .inr n) hd, ?_⟩
    by_cases hm : n ∈ rnm rs
    · obtain ⟨st, p, hl, _⟩ := look_some hD.good hm
      obtain ⟨v, hv, hr⟩ := hv st p hl
      rw [hv]
      exact k2 st p v hl hr
    · rw [hv0 hm]
      exact k1 hm
def spMark (K : PySem.W.Frag) : Sp := fun vs H Q _ => ∃ a d z rs n st s b c sp, vs = [.ref a, .str n, .ref sp, .str st] ∧ DrawAt K H a d z rs ∧ Good z ((n, st, s, b, c) :: rs) ∧ rs.length < 100 ∧ SpanAt K H sp s b c ∧ ∀ H' i, Bt d H H' → DrawAt K H' a d z ((n, st, s, b, c) :: rs) → Q (.int i) H'
theorem s_Drawing_mark : FnScope ["self", "name", "span", "after", "start"] ["self", "name", "span", "after"] d_Drawing_mark.scope := ⟨rfl, rfl, rfl, by decide +kernel, rfl, by decide +kernel, by decide +kernel⟩
theorem f_Drawing_mark (T : Txt w K mg) : ∃ fd, FunD K d_Drawing_mark.name d_Drawing_mark.qual d_Drawing_mark.params d_Drawing_mark.body d_Drawing_mark.scope (d_Drawing_mark.dvs K) (d_Drawing_mark.kws K) (He.ma K (He.ga K "Drawing") "mark") fd ∧ FnOk P w K mg base C8.CX0 2 (He.ma K (He.ga K "Drawing") "mark") fd ["self", "name", "span", "after"] (spMark K) := by
  refine T.metF 37 137 (d := d_Drawing_mark) (S := s_Drawing_mark) (len := fun vs H Q E h => ?_) (hbody := fun cdv A outer s H vs Q E hr h => ?_)
  · obtain ⟨a, d, z, rs, n, st, s, b, c, sp, rfl, hD, hg, hf, hS, k⟩ := h
    rfl
  · obtain ⟨a, d, z, rs, n, st, s, b, c, sp, rfl, hD, hg, hf, hS, k⟩ := h
    have hu := hu_of hr
    have cl := T.cl 131
    refine ⟨_, (pss_cons (ps_if (PW.pt (pw_or (pt_not (pt_val (pe_c (c_is_name T) hr (by decide) rfl (pa_cons (pv 1) pa_nil)))) (pw_or (pt_cmpR op_eq (pv 1) (pe_fld (pv 0) rfl) (nomark _)) (pw_or1 (pt_cmp (pc_din hu (pv 1) (pe_fld (pv 0) rfl))))))) (pss_one ps_never) pss_nil)
      (pss_cons (ps_expr (pe_c (c_check_span T) hr (by decide) rfl (pa_cons (pv 2) pa_nil)))
      (pss_cons (ps_set (i := 4) s_Drawing_mark.nd rfl (Or.inl rfl) (pe_ifExp (pt_cmpR op_isN (pv 3) pe_non (nomark _)) (pe_fld (pv 0) rfl) (pv 3)))
      (pss_cons (ps_expr (pe_mt (c_Drawing_check_there T) hr (by decide) (pv 0) (pa_cons (pv 4) pa_nil)))
      (pss_cons (ps_dput hu (pe_fld (pv 0) rfl) (pv 1) (pe_tup (pa_cons (pv 4) (pa_cons (pv 2) pa_nil))) rfl)
      (pss_one (ps_ret (pe_op op_add pe_int (pe_callB (id := "len") call_lenD (by rfl) (T.f 104) (by decide +kernel) (pa_cons (pe_fld (pv 0) rfl) pa_nil)))))))))), ?_⟩
    obtain ⟨dx, hi⟩ := hD.ins
    cases hg with
    | cons g0 g1 g2 g3 g4 =>
    refine ⟨_, rfl, n, rfl, g1, fun H1 s1 => ⟨_, rfl, ?_⟩⟩
    have hD := hD.ext s1
    have hS := hS.ext s1
    have hi := s1 _ _ hi
    obtain ⟨kvs, hd, hv0, _⟩ := hD.val n
    have nz : n ≠ z := fun e => g2 (by rw [e]; exact List.mem_cons_self ..)
    have nr : n ∉ rnm rs := fun e => g2 (List.mem_cons_of_mem _ e)
    refine ⟨_, rfl, _, rfl, a, _, dx, _, _, rfl, hi, cl, T.na 133, rfl, rfl, _, rfl, ?_⟩
    rw [decide_eq_false (fun h => nz (by injection h))]
    refine iteF ?_
    refine ⟨_, rfl, _, rfl, a, _, dx, _, _, rfl, hi, cl, T.na 134, rfl, d, _, rfl, DGet.k (k := .inr n) hd, _, rfl, ?_⟩
    rw [hv0 nr]
    refine ⟨_, rfl, sp, s, b, c, rfl, hS, ?_⟩
    refine ⟨_, rfl, rfl, _, rfl, ?_⟩
    rw [decide_eq_false (fun h => by cases h)]
    refine iteF ?_
    refine ⟨_, rfl, ?_⟩
    refine ⟨_, rfl, a, dx, _, rfl, hi, rfl, _, rfl, a, d, z, rs, st, rfl, hD, g3, ?_⟩
    refine ⟨_, rfl, _, rfl, sz2, fun t ht => ?_⟩
    have hlr : kvs.length = rs.length := by
      obtain ⟨kvs', hd', hr⟩ := hD.rows
      rw [hd] at hd'
      cases hd'
      rw [Paired.len hr, List.length_reverse]
    refine ⟨_, rfl, a, _, dx, _, _, rfl, (same_new ht) _ _ hi, cl, T.na 134, rfl, _, rfl, d, _, rfl, DPut.k (k := .inr n) ((same_new ht) _ _ hd) (Nat.lt_of_lt_of_le (by omega : _ < 200) (by decide)), ?_⟩
    rw [putK_new _ (hv0 nr)]
    have had : a ≠ d := fun e => by rw [e, hd] at hi; cases hi
    have htd : t ≠ d := fun e => by rw [e, hd] at ht; cases ht
    have kp : Kp H1 (upd (upd H1 t (.tup [.str st, .ref sp])) d (.dK (kvs ++ [(.inr n, .ref t)]))) := (Kp.of (same_new ht)).trans (Kp.upd ((same_new ht) _ _ hd) (fun q => q))
    have hi2 := kp _ (.ins _ _ _) trivial hi
    refine ⟨_, rfl, a, _, dx, _, _, rfl, hi2, cl, T.na 134, rfl, d, _, rfl, upd_same, _, _, rfl, rfl, ?_⟩
    refine k _ _ ((Bt.of s1).trans ((Bt.of (same_new ht)).trans Bt.upd)) ⟨⟨dx, hi2⟩, ⟨_, upd_same, ?_⟩, .cons g0 g1 g2 g3 g4, by rw [List.length_cons]; omega⟩
    obtain ⟨kvs', hd', hr⟩ := hD.rows
    rw [hd] at hd'
    cases hd'
    rw [List.reverse_cons]
    refine p_app (hr.kp kp) (p_one ⟨rfl, t, sp, rfl, ?_, hS.kp kp⟩)
    rw [upd_ne htd]
    exact upd_same
theorem c_Drawing_mark (T : Txt w K mg) : Met P w K mg base 2 (He.ga K "Drawing") "mark" (spMark K) [] := by
  obtain ⟨fd, F, G⟩ := f_Drawing_mark (P := P) (base := base) T
  obtain ⟨ds, d, b⟩ : ∃ ds, Vals [] ds ∧ Binds K fd ["self", "name", "span", "after"] ds := F.binds1 4 1 (fun h => by cases h) rfl fun T kV doc pm an cdv ct us its h1 h2 => match us, its, h1, h2 with | [_, _, _, _], [_], _, _ => ⟨_, rfl, rfl⟩
  exact ⟨_, fd, _, ds, T.cl 131, T.me 137, G, b, d⟩
theorem mt_Drawing_mark (T : Txt w K mg) : MetN P w K mg base 2 (He.ga K "Drawing") "mark" 2 ["after"] (spMark K) (fun vs zs => vs ++ zs) := by
  obtain ⟨fd, F, G⟩ := f_Drawing_mark (P := P) (base := base) T
  obtain ⟨its, b⟩ : ∃ its : List Value, KBn K fd ["self", "name", "span", "after"] 3 ["after"] (fun us ws => us ++ ws) (fun vs zs => vs ++ zs) :=
    F.kbindsD 3 ["after"] (fun us _ ws => us ++ ws) (fun h => by cases h) (fun r1 _ r3 => r1.append r3) fun T kV doc pm an cdv ct us its ws h1 h2 h3 => match us, its, ws, h1, h2, h3 with | [_, _, _], [_], [_], _, _, _ => ⟨_, rfl, rfl⟩
  exact ⟨_, fd, _, _, T.cl 131, T.me 137, G, b⟩
end
end Fw
set_option Elab.async false
set_option linter.all false
set_option maxRecDepth 100000
set_option maxHeartbeats 4000000
namespace Fw
open PySem PySem.Spec PyProof.Rows L2
open C8 (Cal CalAt Met Mak pe_c pe_mk pe_mt pe_mt0 pe_gc InsC call_isC)

section
variable {P : Program} {w : World} {K : PySem.W.Frag} {mg : Str → Option Value} {base : Heap}

/-! comprehensions over texts -/
def sP (ks : List Str) : List (V × Str) := ks.map fun k => (V.str k, k)
theorem sP1 (ks : List Str) : (sP ks).map (·.1) = ks.map V.str := by unfold sP; rw [List.map_map]; rfl
theorem sP2 (ks : List Str) : (sP ks).map (·.2) = ks := by
  unfold sP
  rw [List.map_map]
  exact List.map_id ks
theorem sP_get {ks : List Str} {i : Nat} {x : V} {b : Str} (h : (sP ks)[i]? = some (x, b)) : x = V.str b ∧ b ∈ ks := by
  unfold sP at h
  rw [List.getElem?_map] at h
  cases e : ks[i]? with
  | none => rw [e] at h; cases h
  | some k =>
    rw [e] at h
    cases h
    exact ⟨rfl, List.mem_of_getElem? e⟩
theorem tlc_strs {f : Str → Bool} {El : Str → V → Hp → Prop} (mono : ∀ b v H H', Kp H H' → El b v H → El b v H') {ks : List Str} {j : Nat} {tl te : TE} {tt : TT} {σ : L2.St} {H : Hp} {Q : VK} (hj : j < σ.length) (hb : ks.length ≤ 100000)
    (htl : ∀ Q : VK, (∀ a H1, Same H H1 → SqL K H1 a (ks.map V.str) → Q (.ref a) H1) → tl σ H Q)
    (hs : ∀ k (σ2 : L2.St) H2 (Kt : V → Hp → Prop) (Kf : Hp → Prop), k ∈ ks → Same H H2 → (∀ i, i ≠ j → σ2[i]? = (σ.set j none)[i]?) → σ2[j]? = some (some (.str k)) → (f k = true → ∀ y H5, Same H2 H5 → El k y H5 → Kt y H5) → (f k = false → ∀ H4, Same H2 H4 → Kf H4) →
      tt σ2 H2 fun c H4 => if c = true then te σ2 H4 Kt else Kf H4)
    (hd : ∀ D H' vs, H D = none → Same H H' → H' D = some (.lst vs) → Paired (fun b v => El b v H') (ks.filter f) vs → Q (.ref D) H') : tLc (iList K tl) (gName j) tt te [j] σ H Q := by
  refine htl _ fun a H1 s1 hS => ⟨a, rfl, ⟨_, hS⟩, fun D hD => ?_⟩
  refine lcE_list (ps := sP ks) (f := f) (El := El) mono hD (by rw [sP1]; exact hS) (by rw [show (sP ks).length = ks.length from List.length_map _]; exact hb) ?_ ?_
  · intro i x b H2 Kt Kf hp s2 kt kf
    obtain ⟨rfl, hm⟩ := sP_get hp
    refine ⟨by show (((σ.set j none).set j _).set j none) = σ.set j none; simp, ?_⟩
    refine hs b _ _ Kt Kf hm (s1.trans s2) (fun i hi => ?_) ?_ kt kf
    · show ((σ.set j none).set j _)[i]? = _
      rw [List.getElem?_set_ne hi.symm]
    · show ((σ.set j none).set j _)[j]? = _
      rw [List.getElem?_set_self (by rw [List.length_set]; exact hj)]
  · intro H' vs s hv p
    rw [sP2] at p
    exact hd D H' vs (s1.free hD) (s1.trans s) hv p
theorem dget_of {H : Hp} {d : Addr} {kvs : List (Key × V)} {k : Key} {v : V} (hd : H d = some (.dK kvs)) (hv : valV kvs k = some v) : DGet H d (kV k) (some v) := hv ▸ DGet.k hd
theorem p_map {α β γ : Type} {F : α → γ → Prop} (m : β → α) : ∀ {l1 : List β} {l2 : List γ}, Paired (fun b c => F (m b) c) l1 l2 → Paired F (l1.map m) l2
  | _, _, .nil => .nil
  | _, _, .cons h t => .cons h (p_map m t)
theorem p_rev {α β : Type} {F : α → β → Prop} : ∀ {l1 : List α} {l2 : List β}, Paired F l1 l2 → Paired F l1.reverse l2.reverse
  | _, _, .nil => .nil
  | _, _, .cons h t => by
    rw [List.reverse_cons, List.reverse_cons]
    exact p_app (p_rev t) (p_one h)
/-- a new list of texts -/
def RetL (H : Hp) (Q : VK) (xs : List V) : Prop := ∀ p H', H p = none → Same H H' → H' p = some (.lst xs) → Q (.ref p) H'
theorem s_Drawing_len : FnScope ["self"] ["self"] d_Drawing_len.scope := ⟨rfl, rfl, rfl, by decide +kernel, rfl, by decide +kernel, by decide +kernel⟩
theorem c_Drawing_len (T : Txt w K mg) : Met P w K mg base 2 (He.ga K "Drawing") "__len__" (fun vs H Q _ => ∃ a d z rs, vs = [.ref a] ∧ DrawAt K H a d z rs ∧ ∀ H', Same H H' → Q (.int ((rs.length + 1 : Nat) : Int)) H') [] := by
  refine T.met 36 131 136 (d := d_Drawing_len) (S := s_Drawing_len) (hb := fun _ _ _ _ _ _ us hl => match us, hl with | [_], _ => rfl) (len := fun vs H Q E h => ?_) (hbody := fun cdv A outer s H vs Q E hr h => ?_)
  · obtain ⟨a, d, z, rs, rfl, hD, k⟩ := h
    rfl
  · obtain ⟨a, d, z, rs, rfl, hD, k⟩ := h
    refine ⟨_, (pss_one (ps_ret (pe_callB (id := "len") (call_len_seqK (K := K) rfl) (by rfl) (T.f 104) (by decide +kernel) (pa_cons (pe_mt0 (c_Drawing_names T) hr (by decide) (pv 0)) pa_nil)))), ?_⟩
    obtain ⟨dx, hi⟩ := hD.ins
    refine ⟨_, rfl, a, dx, _, rfl, hi, rfl, a, d, z, rs, rfl, hD, fun p H1 hp s1 h1 => ?_⟩
    refine ⟨p, _, rfl, Or.inr (SqT.of h1), ?_⟩
    have e : ((z :: rnm rs.reverse).map V.str).length = rs.length + 1 := by rw [List.length_map, List.length_cons, rnm_rev, List.length_reverse]; exact congrArg Nat.succ (List.length_map _)
    rw [e]
    exact k H1 s1
theorem s_Drawing_way_up : FnScope ["self", "name", "found"] ["self", "name"] d_Drawing_way_up.scope := ⟨rfl, rfl, rfl, by decide +kernel, rfl, by decide +kernel, by decide +kernel⟩
theorem c_Drawing_way_up (T : Txt w K mg) : Met P w K mg base 1 (He.ga K "Drawing") "way_up" (fun vs H Q _ => ∃ a d z rs n, vs = [.ref a, .str n] ∧ DrawAt K H a d z rs ∧ n ∈ z :: rnm rs ∧ RetL H Q ((upR rs n).map V.str)) [] := by
  refine T.met 41 131 141 (d := d_Drawing_way_up) (S := s_Drawing_way_up) (hb := fun _ _ _ _ _ _ us hl => match us, hl with | [_, _], _ => rfl) (len := fun vs H Q E h => ?_) (hbody := fun cdv A outer s H vs Q E hr h => ?_)
  · obtain ⟨a, d, z, rs, n, rfl, hD, hn, k⟩ := h
    rfl
  · obtain ⟨a, d, z, rs, n, rfl, hD, hn, k⟩ := h
    have hu := hu_of hr
    have cl := T.cl 131
    refine ⟨_, (pss_cons (ps_set (i := 2) s_Drawing_way_up.nd rfl (Or.inl rfl) (pe_lst (pa_cons (pv 1) pa_nil)))
      (pss_cons (ps_while PassesOwn.never (pt_cmpR op_ne (pe_ix (ix_listK (K := K) rfl) (pv 2) (pe_un un_neg pe_int) (fun _ _ => rfl)) (pe_fld (pv 0) rfl) (nomark _))
      (pss_one (ps_expr (pe_bm PySem.F.plainAttrs_list PySem.F.slot_list_append PySem.F.type_list_append mt_append (pv 2) (pa_cons (pe_ix (ix_tupK (K := K) rfl) (pe_dget hu (pe_fld (pv 0) rfl) (pe_ix (ix_listK (K := K) rfl) (pv 2) (pe_un un_neg pe_int) (fun _ _ => rfl)) (fun _ _ => rfl)) pe_int (fun _ _ => rfl)) pa_nil)))))
      (pss_one (ps_ret (pv 2))))), ?_⟩
    obtain ⟨dx, hi⟩ := hD.ins
    have hfew := hD.few
    refine ⟨_, rfl, sz1, fun l hl => ?_⟩
    have hla : a ≠ l := fun e => by rw [e, hl] at hi; cases hi
    refine ⟨fun m σ' H' => ∃ pre last, σ' = [some (.ref a), some (.str n), some (.ref l)] ∧ H' = upd H l (.lst ((pre ++ [last]).map V.str)) ∧ last ∈ z :: rnm rs ∧ upR rs n = pre ++ upR rs last ∧ (upR rs last).length ≤ m, ⟨_, [], n, rfl, rfl, hn, rfl, Nat.le_refl _⟩, ?_⟩
    rintro m σ' H' ⟨pre, last, rfl, rfl, hm, hu, hlen⟩
    have em : (pre ++ [last]).map V.str = pre.map V.str ++ [.str last] := List.map_append
    have hD' : DrawAt K (upd H l (.lst ((pre ++ [last]).map V.str))) a d z rs := hD.ext (same_new hl)
    have hi' := (same_new (o := .lst ((pre ++ [last]).map V.str)) hl) _ _ hi
    refine ⟨_, rfl, _, rfl, l, _, _, _, rfl, rfl, SqL.of upd_same, by rw [em]; exact atI_last _ _, ?_⟩
    refine ⟨_, rfl, a, _, dx, _, _, rfl, hi', cl, T.na 133, rfl, rfl, _, rfl, ?_⟩
    by_cases e : last = z
    · rw [decide_eq_true (congrArg V.str e)]
      refine iteF ?_
      refine ⟨_, rfl, k l _ hl (same_new hl) ?_⟩
      rw [upd_same, hu, e, up_none hD.good.zn]
    · rw [decide_eq_false (fun h => e (by injection h))]
      refine iteT ?_
      have hr : last ∈ rnm rs := (List.mem_cons.mp hm).resolve_left e
      obtain ⟨st, p, h1, h2, h3, _⟩ := look_some hD.good hr
      obtain ⟨kvs, hd, _, hv⟩ := hD'.val last
      obtain ⟨v, hv, t, sp, rfl, ht, _⟩ := hv st p h1
      cases m with
      | zero => rw [h3] at hlen; cases hlen
      | succ m =>
        refine ⟨_, fun σ' H' h' => ⟨m, Nat.lt_succ_self m, h'⟩, ?_⟩
        refine ⟨_, rfl, Or.inl ⟨rfl, _, SqL.of upd_same⟩, _, rfl, a, _, dx, _, _, rfl, hi', cl, T.na 134, rfl, _, rfl, _, rfl, l, _, _, _, rfl, rfl, SqL.of upd_same, by rw [em]; exact atI_last _ _, ?_⟩
        refine ⟨d, _, rfl, dget_of (k := .inr last) hd hv, t, _, _, _, rfl, rfl, SqT.of ht, atI_nat (j := 0) rfl, ?_⟩
        refine ⟨l, _, _, rfl, rfl, upd_same, ?_, ?_⟩
        · rw [List.length_map, List.length_append]
          have h4 := up_len rs n
          rw [hu, List.length_append, h3, List.length_cons] at h4
          exact Nat.lt_of_le_of_lt (by show pre.length + 1 ≤ 200; omega) (by decide)
        · refine ⟨pre ++ [last], st, rfl, ?_, h2, ?_, ?_⟩
          · rw [upd_upd, List.map_append (l₁ := pre ++ [last])]
            rfl
          · rw [hu, h3, List.append_assoc]
            rfl
          · rw [h3, List.length_cons] at hlen
            omega
abbrev leftP (rs : List Row) (one other : Str) : List Str := (upR rs one).filter fun n => decide (n ∉ upR rs other)
def roadP (rs : List Row) (one other : Str) : List (Str × Bool) := (leftP rs one other).map (fun n => (n, true)) ++ ((leftP rs other one).map fun n => (n, false)).reverse
def StepAt (H : Hp) (p : Str × Bool) (v : V) : Prop := ∃ q, v = .ref q ∧ H q = some (.tup [.str p.1, .bl p.2])
theorem StepAt.kp {H H' : Hp} {v : V} {p : Str × Bool} (h : StepAt H p v) (e : Kp H H') : StepAt H' p v := by
  obtain ⟨q, a, b⟩ := h
  exact ⟨q, a, e _ _ trivial b⟩
/-- a new tuple of what Paired says -/
def RetP {α : Type} (H : Hp) (Q : VK) (F : Hp → α → V → Prop) (l : List α) : Prop := ∀ p vs H', H p = none → Same H H' → H' p = some (.tup vs) → Paired (F H') l vs → Q (.ref p) H'
theorem s_Drawing_road : FnScope ["self", "one", "other", "up", "down", "left", "gone", "name"] ["self", "one", "other"] d_Drawing_road.scope := ⟨rfl, rfl, rfl, by decide +kernel, rfl, by decide +kernel, by decide +kernel⟩
theorem c_Drawing_road (T : Txt w K mg) : Met P w K mg base 2 (He.ga K "Drawing") "road" (fun vs H Q _ => ∃ a d z rs one other, vs = [.ref a, .str one, .str other] ∧ DrawAt K H a d z rs ∧ one ∈ z :: rnm rs ∧ other ∈ z :: rnm rs ∧ RetP H Q StepAt (roadP rs one other)) [] := by
  refine T.met 42 131 142 (d := d_Drawing_road) (S := s_Drawing_road) (hb := fun _ _ _ _ _ _ us hl => match us, hl with | [_, _, _], _ => rfl) (len := fun vs H Q E h => ?_) (hbody := fun cdv A outer s H vs Q E hr h => ?_)
  · obtain ⟨a, d, z, rs, one, other, rfl, hD, h1, h2, k⟩ := h
    rfl
  · obtain ⟨a, d, z, rs, one, other, rfl, hD, h1, h2, k⟩ := h
    refine ⟨_, (pss_cons (ps_expr (pe_mt (c_Drawing_check_there T) hr (by decide) (pv 0) (pa_cons (pv 1) pa_nil)))
      (pss_cons (ps_expr (pe_mt (c_Drawing_check_there T) hr (by decide) (pv 0) (pa_cons (pv 2) pa_nil)))
      (pss_cons (ps_asg (pe_tup (pa_cons (pe_mt (c_Drawing_way_up T) hr (by decide) (pv 0) (pa_cons (pv 1) pa_nil)) (pa_cons (pe_mt (c_Drawing_way_up T) hr (by decide) (pv 0) (pa_cons (pv 2) pa_nil)) pa_nil))) (pg_tup rfl (pgs_cons (pg_name (i := 3) s_Drawing_road.nd rfl (Or.inr rfl)) (pgs_cons (pg_name (i := 4) s_Drawing_road.nd rfl (Or.inr rfl)) pgs_nil))))
      (pss_cons (ps_setLc (i := 5) (own := [("name", 7)]) (g := (gName 7)) rfl s_Drawing_road.nd rfl rfl (sw_true rfl rfl rfl (by decide +kernel)) (pi_list (pv 3)) (blkOk_by (N := ["self", "one", "other", "up", "down", "left", "gone", "name"]) (sc := d_Drawing_road.scope) (own := [("name", 7)]) (by decide +kernel)) (fun _ _ _ _ _ => (pg_name (i := 7) s_Drawing_road.nd rfl (Or.inl rfl))) (fun _ _ _ _ _ => pts_one (pt_cmpR (op_notIn_seqK (K := K) rfl) (pv 7) (pv 4) (by rfl))) (fun _ _ _ _ _ => (pe_tup (pa_cons (pv 7) (pa_cons pe_bl pa_nil)))))
      (pss_cons (ps_setLc (i := 6) (own := [("name", 7)]) (g := (gName 7)) rfl s_Drawing_road.nd rfl rfl (sw_true rfl rfl rfl (by decide +kernel)) (pi_list (pv 4)) (blkOk_by (N := ["self", "one", "other", "up", "down", "left", "gone", "name"]) (sc := d_Drawing_road.scope) (own := [("name", 7)]) (by decide +kernel)) (fun _ _ _ _ _ => (pg_name (i := 7) s_Drawing_road.nd rfl (Or.inl rfl))) (fun _ _ _ _ _ => pts_one (pt_cmpR (op_notIn_seqK (K := K) rfl) (pv 7) (pv 3) (by rfl))) (fun _ _ _ _ _ => (pe_tup (pa_cons (pv 7) (pa_cons pe_bl pa_nil)))))
      (pss_one (ps_ret (pe_callTy (T := "tuple") call_tuple_of (by rfl) (T.f 111) (by decide +kernel) (pa_cons (pe_op op_cat (pv 5) (pe_revL (pv 6))) pa_nil))))))))), ?_⟩
    obtain ⟨dx, hi⟩ := hD.ins
    have hfew := hD.few
    have u1 := up_len rs one
    have u2 := up_len rs other
    refine ⟨_, rfl, a, dx, _, rfl, hi, rfl, _, rfl, a, d, z, rs, one, rfl, hD, h1, ?_⟩
    refine ⟨_, rfl, a, dx, _, rfl, hi, rfl, _, rfl, a, d, z, rs, other, rfl, hD, h2, ?_⟩
    refine ⟨_, rfl, a, dx, _, rfl, hi, rfl, _, rfl, a, d, z, rs, one, rfl, hD, h1, fun l1 H1 hl1 s1 g1 => ?_⟩
    refine ⟨_, rfl, a, dx, _, rfl, s1 _ _ hi, rfl, _, rfl, a, d, z, rs, other, rfl, hD.ext s1, h2, fun l2 H2 hl2 s2 g2 => ?_⟩
    refine ⟨sz2, fun t ht => ?_⟩
    refine ⟨t, _, rfl, SqT.of upd_same, rfl, _, _, rfl, _, _, rfl, rfl, ?_⟩
    have s3 := same_new (o := .tup [.ref l1, .ref l2]) ht
    have g1 := s3 _ _ (s2 _ _ g1)
    have g2 := s3 _ _ g2
    have s0 := s1.trans (s2.trans s3)
    generalize upd H2 t (.tup [.ref l1, .ref l2]) = H3 at *
    with_reducible refine r_seq ?_
    refine r_asg (tlc_strs (K := K) (j := 7) (ks := upR rs one) (f := fun n => decide (n ∉ upR rs other)) (El := fun n v H => StepAt H (n, true) v) (fun _ _ _ _ e h => h.kp e) (by show 7 < 8; decide) (by omega) ?_ ?_ fun D H4 vs hD4 s4 h4 p4 => ?_)
    · exact fun Q q => ⟨_, rfl, q l1 _ (Same.refl _) (SqL.of g1)⟩
    · intro k σ2 H5 Kt Kf hk s5 e1 e2 kt kf
      refine ⟨_, e2, _, (e1 4 (by decide)).trans rfl, l2, _, rfl, Or.inl (SqL.of (s5 _ _ g2)), rfl, flat_strs _, _, rfl, ?_⟩
      rw [inV_strs]
      by_cases hm : k ∈ upR rs other
      · rw [decide_eq_true hm]
        exact kf (decide_eq_false fun z => z hm) _ (Same.refl _)
      · rw [decide_eq_false hm]
        exact ⟨_, e2, sz2, fun q hq => kt (decide_eq_true hm) _ _ (same_new hq) ⟨q, rfl, upd_same⟩⟩
    with_reducible refine r_gn ?_
    with_reducible refine r_seq ?_
    refine r_asg (tlc_strs (K := K) (j := 7) (ks := upR rs other) (f := fun n => decide (n ∉ upR rs one)) (El := fun n v H => StepAt H (n, false) v) (fun _ _ _ _ e h => h.kp e) (by show 7 < 8; decide) (by omega) ?_ ?_ fun D2 H5 vs2 hD5 s5 h5 p5 => ?_)
    · exact fun Q q => ⟨_, rfl, q l2 _ (Same.refl _) (SqL.of (s4 _ _ g2))⟩
    · intro k σ2 H6 Kt Kf hk s6 e1 e2 kt kf
      refine ⟨_, e2, _, (e1 3 (by decide)).trans rfl, l1, _, rfl, Or.inl (SqL.of (s6 _ _ (s4 _ _ g1))), rfl, flat_strs _, _, rfl, ?_⟩
      rw [inV_strs]
      by_cases hm : k ∈ upR rs one
      · rw [decide_eq_true hm]
        exact kf (decide_eq_false fun z => z hm) _ (Same.refl _)
      · rw [decide_eq_false hm]
        exact ⟨_, e2, sz2, fun q hq => kt (decide_eq_true hm) _ _ (same_new hq) ⟨q, rfl, upd_same⟩⟩
    have c1 := List.length_filter_le (fun n => decide (n ∉ upR rs other)) (upR rs one)
    have c2 := List.length_filter_le (fun n => decide (n ∉ upR rs one)) (upR rs other)
    have d1 := Paired.len p4
    have d2 := Paired.len p5
    refine ⟨_, rfl, _, rfl, D2, _, rfl, SqL.of h5, fun r hr => ?_⟩
    have sr := same_new (o := .lst vs2.reverse) hr
    refine ⟨D, r, _, _, rfl, rfl, sr _ _ (s5 _ _ h4), upd_same, ?_, fun q hq => ?_⟩
    · rw [List.length_reverse]
      exact Nat.le_trans (by omega : _ ≤ 1000) (by decide)
    · refine ⟨q, _, rfl, Or.inl ⟨SqL.of upd_same, fun t2 ht2 => ?_⟩⟩
      have sq := same_new (o := .lst (vs ++ vs2.reverse)) hq
      have st := same_new (o := .tup (vs ++ vs2.reverse)) ht2
      have sall : Same H4 (upd (upd (upd H5 r (.lst vs2.reverse)) q (.lst (vs ++ vs2.reverse))) t2 (.tup (vs ++ vs2.reverse))) := s5.trans (sr.trans (sq.trans st))
      have sal2 : Same H5 (upd (upd (upd H5 r (.lst vs2.reverse)) q (.lst (vs ++ vs2.reverse))) t2 (.tup (vs ++ vs2.reverse))) := sr.trans (sq.trans st)
      refine k t2 _ _ ?_ (s0.trans (s4.trans sall)) upd_same ?_
      · exact (s0.trans (s4.trans (s5.trans (sr.trans sq)))).free ht2
      · refine p_app (p_map _ (p_imp p4 fun _ _ h => h.kp (Kp.of sall))) (p_rev (p_map _ (p_imp p5 fun _ _ h => h.kp (Kp.of sal2))))
end
end Fw
set_option Elab.async false
set_option linter.all false
set_option maxRecDepth 100000
set_option maxHeartbeats 4000000
namespace Fw
open PySem PySem.Spec PyProof.Rows L2
open C8 (Cal CalAt Met Mak pe_c pe_mk pe_mt pe_mt0 pe_gc InsC call_isC)

section
variable {P : Program} {w : World} {K : PySem.W.Frag} {mg : Str → Option Value} {base : Heap}

/-! comprehensions over rows and numbers -/
theorem op_catAK {X : Cx} (h : X.K = K) : OpR X (binaryOp .Add) (rCatA K) := h ▸ op_catA
theorem p_zip {α : Type} {F : α → V → Prop} {ws : List α} {xs : List V} (p : Paired F ws xs) : ((xs.zip ws).map (·.1) = xs ∧ (xs.zip ws).map (·.2) = ws) ∧ ∀ x b, (x, b) ∈ xs.zip ws → F b x ∧ b ∈ ws := by
  have hl := Paired.len p
  refine ⟨⟨List.map_fst_zip (by omega), List.map_snd_zip (by omega)⟩, fun x b h => ?_⟩
  obtain ⟨i, h⟩ := List.mem_iff_getElem?.mp h
  obtain ⟨h1, h2⟩ := List.getElem?_zip_eq_some.mp h
  exact ⟨Paired.at p h2 h1, List.mem_of_getElem? h2⟩
/-- a comprehension over a list, one name -/
theorem tlc_ps {α : Type} {F : α → V → Prop} {ws : List α} {xs : List V} {f : α → Bool} {El : α → V → Hp → Prop} (mono : ∀ b v H H', Kp H H' → El b v H → El b v H') (pw : Paired F ws xs) {j : Nat} {tl te : TE} {tt : TT} {σ : L2.St} {H : Hp} {Q : VK} (hj : j < σ.length) (hb : ws.length ≤ 100000)
    (htl : ∀ Q : VK, (∀ a H1, Same H H1 → SqL K H1 a xs → Q (.ref a) H1) → tl σ H Q)
    (hs : ∀ x b (σ2 : L2.St) H2 (Kt : V → Hp → Prop) (Kf : Hp → Prop), F b x → b ∈ ws → Same H H2 → (∀ i, i ≠ j → σ2[i]? = (σ.set j none)[i]?) → σ2[j]? = some (some x) → (f b = true → ∀ y H5, Same H2 H5 → El b y H5 → Kt y H5) → (f b = false → ∀ H4, Same H2 H4 → Kf H4) →
      tt σ2 H2 fun c H4 => if c = true then te σ2 H4 Kt else Kf H4)
    (hd : ∀ D H' vs, H D = none → Same H H' → H' D = some (.lst vs) → Paired (fun b v => El b v H') (ws.filter f) vs → Q (.ref D) H') : tLc (iList K tl) (gName j) tt te [j] σ H Q := by
  obtain ⟨⟨z1, z2⟩, z3⟩ := p_zip pw
  have hzl : (xs.zip ws).length ≤ 100000 := by
    have e : ((xs.zip ws).map (·.2)).length = ws.length := by rw [z2]
    rw [List.length_map] at e
    omega
  refine htl _ fun a H1 s1 hS => ⟨a, rfl, ⟨_, hS⟩, fun D hD => ?_⟩
  refine lcE_list (ps := xs.zip ws) (f := f) (El := El) mono hD (by rw [z1]; exact hS) hzl ?_ ?_
  · intro i x b H2 Kt Kf hp s2 kt kf
    obtain ⟨hF, hm⟩ := z3 x b (List.mem_of_getElem? hp)
    refine ⟨by show (((σ.set j none).set j _).set j none) = σ.set j none; simp, ?_⟩
    refine hs x b _ _ Kt Kf hF hm (s1.trans s2) (fun i hi => ?_) ?_ kt kf
    · show ((σ.set j none).set j _)[i]? = _
      rw [List.getElem?_set_ne hi.symm]
    · show ((σ.set j none).set j _)[j]? = _
      rw [List.getElem?_set_self (by rw [List.length_set]; exact hj)]
  · intro H' vs s hv p
    rw [z2] at p
    exact hd D H' vs (s1.free hD) (s1.trans s) hv p
/-- a comprehension over range(n) -/
theorem tlc_rg {n : Nat} {f : Nat → Bool} {El : Nat → V → Hp → Prop} (mono : ∀ b v H H', Kp H H' → El b v H → El b v H') {j : Nat} {ta : TA} {te : TE} {tt : TT} {σ : L2.St} {H : Hp} {Q : VK} (hj : j < σ.length) (hb : n ≤ 100000)
    (hta : ∀ Q : List V → Hp → Prop, (∀ H1, Same H H1 → Q [.int (n : Int)] H1) → ta σ H Q)
    (hs : ∀ k (σ2 : L2.St) H2 (Kt : V → Hp → Prop) (Kf : Hp → Prop), k < n → Same H H2 → (∀ i, i ≠ j → σ2[i]? = (σ.set j none)[i]?) → σ2[j]? = some (some (.int (k : Int))) → (f k = true → ∀ y H5, Same H2 H5 → El k y H5 → Kt y H5) → (f k = false → ∀ H4, Same H2 H4 → Kf H4) →
      tt σ2 H2 fun c H4 => if c = true then te σ2 H4 Kt else Kf H4)
    (hd : ∀ D H' vs, H D = none → Same H H' → H' D = some (.lst vs) → Paired (fun b v => El b v H') ((List.range n).filter f) vs → Q (.ref D) H') : tLc (iRng1 ta) (gName j) tt te [j] σ H Q := by
  refine hta _ fun H1 s1 => ⟨(n : Int), rfl, by omega, by omega, fun D hD => ?_⟩
  rw [Int.toNat_natCast]
  have el : ((List.range n).map fun k : Nat => (V.int (k : Int), k)).length = n := by rw [List.length_map, List.length_range]
  refine lcE_range (ps := (List.range n).map fun k : Nat => (V.int (k : Int), k)) (f := f) (El := El) mono hD el ?_ (by omega) ?_ ?_
  · intro i x b h
    rw [List.getElem?_map] at h
    cases e : (List.range n)[i]? with
    | none => rw [e] at h; cases h
    | some k =>
      rw [e] at h
      cases h
      have := List.getElem?_eq_some_iff.mp e
      obtain ⟨h1, h2⟩ := this
      rw [List.getElem_range] at h2
      rw [h2, Int.zero_add]
  · intro i x b H2 Kt Kf hp s2 kt kf
    have hp2 := List.mem_of_getElem? hp
    obtain ⟨k, hk, e⟩ := List.mem_map.mp hp2
    cases e
    refine ⟨by show (((σ.set j none).set j _).set j none) = σ.set j none; simp, ?_⟩
    refine hs _ _ _ Kt Kf (List.mem_range.mp hk) (s1.trans s2) (fun i hi => ?_) ?_ kt kf
    · show ((σ.set j none).set j _)[i]? = _
      rw [List.getElem?_set_ne hi.symm]
    · show ((σ.set j none).set j _)[j]? = _
      rw [List.getElem?_set_self (by rw [List.length_set]; exact hj)]
  · intro H' vs s hv p
    have e2 : ((List.range n).map fun k : Nat => (V.int (k : Int), k)).map (·.2) = List.range n := by
      rw [List.map_map]
      exact List.map_id _
    rw [e2] at p
    exact hd D H' vs (s1.free hD) (s1.trans s) hv p
end
end Fw
set_option Elab.async false
set_option linter.all false
set_option maxRecDepth 100000
set_option maxHeartbeats 4000000
namespace Fw
open PySem PySem.Spec PyProof.Rows L2
open C8 (Cal CalAt Met Mak pe_c pe_mk pe_mt pe_mt0 pe_gc InsC call_isC)

section
variable {P : Program} {w : World} {K : PySem.W.Frag} {mg : Str → Option Value} {base : Heap}

theorem up_z {z : Str} {rs : List Row} (g : Good z rs) {n : Str} (h : n ∈ z :: rnm rs) : z ∈ upR rs n := by
  induction g generalizing n with
  | nil _ =>
    rw [List.mem_singleton.mp h]
    exact List.mem_singleton.mpr rfl
  | @cons r rs g h1 h2 h3 h4 ih =>
    unfold upR
    by_cases e : r.1 = n
    · rw [if_pos e]
      exact List.mem_cons_of_mem _ (ih h3)
    · rw [if_neg e]
      refine ih ?_
      rcases List.mem_cons.mp h with h | h
      · rw [h]; exact List.mem_cons_self ..
      · rcases List.mem_cons.mp h with h | h
        · exact absurd h.symm e
        · exact List.mem_cons_of_mem _ h
theorem left_mem {z : Str} {rs : List Row} (g : Good z rs) {one other m : Str} (h1 : one ∈ z :: rnm rs) (h2 : other ∈ z :: rnm rs) (h : m ∈ leftP rs one other) : m ∈ rnm rs := by
  obtain ⟨a, b⟩ := List.mem_filter.mp h
  have b := of_decide_eq_true b
  rcases List.mem_cons.mp (up_mem g h1 a) with e | e
  · exact absurd (by rw [e]; exact up_z g h2) b
  · exact e
theorem road_mem {z : Str} {rs : List Row} (g : Good z rs) {one other : Str} {p : Str × Bool} (h1 : one ∈ z :: rnm rs) (h2 : other ∈ z :: rnm rs) (h : p ∈ roadP rs one other) : p.1 ∈ rnm rs := by
  rcases List.mem_append.mp h with h | h
  · obtain ⟨n, hn, rfl⟩ := List.mem_map.mp h
    exact left_mem g h1 h2 hn
  · obtain ⟨n, hn, rfl⟩ := List.mem_map.mp (List.mem_reverse.mp h)
    exact left_mem g h2 h1 hn
theorem road_len {rs : List Row} (one other : Str) : (roadP rs one other).length ≤ 2 * rs.length + 2 := by
  unfold roadP
  rw [List.length_append, List.length_map, List.length_reverse, List.length_map]
  have c1 := List.length_filter_le (fun n => decide (n ∉ upR rs other)) (upR rs one)
  have c2 := List.length_filter_le (fun n => decide (n ∉ upR rs one)) (upR rs other)
  have u1 := up_len rs one
  have u2 := up_len rs other
  show ((upR rs one).filter _).length + ((upR rs other).filter _).length ≤ _
  omega
abbrev Par.ok (p : Par) : Prop := 0 ≤ p.2.1 + p.2.2
def betS (rs : List Row) (q : Par) (p : Str × Bool) : Par := match look rs p.1 with
  | none => q
  | some (_, (s, a, b)) => if p.2 then (q.1 - s, q.2.1 + b, q.2.2 + a) else (q.1 + s, q.2.1 + a, q.2.2 + b)
def betP (rs : List Row) (one other : Str) : Par := (roadP rs one other).foldl (betS rs) (0, 0, 0)
def spBet (K : PySem.W.Frag) : Sp := fun vs H Q _ => ∃ a d z rs one other, vs = [.ref a, .str one, .str other] ∧ DrawAt K H a d z rs ∧ one ∈ z :: rnm rs ∧ other ∈ z :: rnm rs ∧ RetS K H (betP rs one other).1 (betP rs one other).2.1 (betP rs one other).2.2 Q
theorem newS {H : Hp} {x dx : Addr} {s a b : Int} {G : Hp → Prop} (hx : H x = none) (hd : H dx = none) (k : ∀ H1, Same H H1 → SpanAt K H1 x s a b → G H1) :
    G (upd (upd (upd H dx (.own x)) x (.ins (He.ga K "Span") dx [])) x (.ins (He.ga K "Span") dx (spF s a b))) := by
  rw [upd_upd]
  exact k _ (same_mut (same_new hd) hx) ⟨dx, upd_same⟩
theorem p_get {α β : Type} {F : α → β → Prop} : ∀ {l1 : List α} {l2 : List β} {i : Nat} {b : β}, Paired F l1 l2 → l2[i]? = some b → ∃ a, l1[i]? = some a ∧ F a b
  | _, _, 0, b, .cons h _, e => by
    cases e
    exact ⟨_, rfl, h⟩
  | _, _, i + 1, b, .cons _ t, e => p_get (i := i) t e
  | _, _, 0, _, .nil, e => by cases e
  | _, _, i + 1, _, .nil, e => by cases e
theorem s_Drawing_between : FnScope ["self", "one", "other", "found", "name", "back", "span"] ["self", "one", "other"] d_Drawing_between.scope := ⟨rfl, rfl, rfl, by decide +kernel, rfl, by decide +kernel, by decide +kernel⟩
theorem c_Drawing_between (T : Txt w K mg) : Met P w K mg base 7 (He.ga K "Drawing") "between" (spBet K) [] := by
  refine T.met 43 131 143 (d := d_Drawing_between) (S := s_Drawing_between) (hb := fun _ _ _ _ _ _ us hl => match us, hl with | [_, _, _], _ => rfl) (len := fun vs H Q E h => ?_) (hbody := fun cdv A outer s H vs Q E hr h => ?_)
  · obtain ⟨a, d, z, rs, one, other, rfl, hD, h1, h2, k⟩ := h
    rfl
  · obtain ⟨a, d, z, rs, one, other, rfl, hD, h1, h2, k⟩ := h
    have hu := hu_of hr
    have cl := T.cl 131
    refine ⟨_, (pss_cons (ps_set (i := 3) s_Drawing_between.nd rfl (Or.inl rfl) (pe_mk (m_Span1 T) hr (by decide) rfl (pa_cons pe_int pa_nil)))
      (pss_cons (ps_for PassesOwn.never rfl (pi_tup (pe_mt (c_Drawing_road T) hr (by decide) (pv 0) (pa_cons (pv 1) (pa_cons (pv 2) pa_nil)))) (pg_tup rfl (pgs_cons (pg_name (i := 4) s_Drawing_between.nd rfl (Or.inl rfl)) (pgs_cons (pg_name (i := 5) s_Drawing_between.nd rfl (Or.inl rfl)) pgs_nil)))
      (pss_cons (ps_set (i := 6) s_Drawing_between.nd rfl (Or.inl rfl) (pe_ix (ix_tupK (K := K) rfl) (pe_dget hu (pe_fld (pv 0) rfl) (pv 4) (fun _ _ => rfl)) pe_int (fun _ _ => rfl)))
        (pss_one (ps_set (i := 3) s_Drawing_between.nd rfl (Or.inl rfl) (pe_ifExp (pt_val (pv 5)) (pe_mt (c_Span_minus T) hr (by decide) (pv 3) (pa_cons (pv 6) pa_nil)) (pe_mt (c_Span_plus T) hr (by decide) (pv 3) (pa_cons (pv 6) pa_nil)))))))
      (pss_one (ps_ret (pv 3))))), ?_⟩
    obtain ⟨dx, hi⟩ := hD.ins
    intro x0 dx0 hx0 hdx0 hne0
    refine ⟨x0, dx0, 0, 0, 0, rfl, by decide, upd_same, rfl, ?_⟩
    refine newS (G := fun H1 => gName 3 (.ref x0) _ H1 _) hx0 hdx0 fun H1 s1 hS => ?_
    refine ⟨_, rfl, a, dx, _, rfl, s1 _ _ hi, rfl, _, rfl, _, rfl, a, d, z, rs, one, other, rfl, hD.ext s1, h1, h2, fun t vs H2 ht s2 g2 p2 => ?_⟩
    refine ⟨t, rfl, ⟨_, SqT.of g2⟩, for_tup (K := K) (xs := vs) (fun i σ' H' => ∃ sp o4 o5 o6 q, σ' = [some (.ref a), some (.str one), some (.str other), some (.ref sp), o4, o5, o6] ∧ Same H2 H' ∧ q = ((roadP rs one other).take i).foldl (betS rs) (0, 0, 0) ∧ Par.ok q ∧ H sp = none ∧ SpanAt K H' sp q.1 q.2.1 q.2.2) ?_ ?_ ?_ ?_⟩
    · exact ⟨x0, none, none, none, (0, 0, 0), rfl, Same.refl _, rfl, by decide, hx0, hS.ext s2⟩
    · rintro i σ' H' _ ⟨_, _, _, _, _, _, s3, _⟩
      exact SqT.of (s3 _ _ g2)
    · rintro i x σ' H' hx ⟨sp, o4, o5, o6, q, rfl, s3, eq, ho, hn, hS⟩
      obtain ⟨⟨n, bk⟩, hp, u, rfl, hu⟩ := p_get p2 hx
      have sA := (s1.trans s2).trans s3
      refine ⟨u, _, rfl, SqT.of (s3 _ _ hu), rfl, _, _, rfl, _, _, rfl, rfl, ?_⟩
      obtain ⟨st, pr, hl, _, _, hok, _⟩ := look_some hD.good (road_mem hD.good h1 h2 (List.mem_of_getElem? hp))
      obtain ⟨kvs, hd, _, hv⟩ := (hD.ext sA).val n
      obtain ⟨v, hv, t2, sp2, rfl, ht2, hS2⟩ := hv st pr hl
      obtain ⟨dxs, hsp⟩ := id hS
      refine ⟨_, rfl, a, _, dx, _, _, rfl, sA _ _ hi, cl, T.na 134, rfl, _, rfl, d, _, rfl, dget_of (k := .inr n) hd hv, t2, _, _, _, rfl, rfl, SqT.of ht2, atI_nat (j := 1) rfl, ?_⟩
      have et : ((roadP rs one other).take (i + 1)).foldl (betS rs) (0, 0, 0) = betS rs q (n, bk) := by
        rw [List.take_add_one, hp, List.foldl_append, ← eq]
        rfl
      obtain ⟨s', a', b'⟩ := pr
      refine ⟨_, rfl, _, rfl, ?_⟩
      cases bk with
      | true =>
        refine iteT ?_
        refine ⟨_, rfl, sp, dxs, _, rfl, hsp, rfl, _, rfl, sp, sp2, _, _, _, _, _, _, rfl, hS, hS2, ho, hok, fun r H3 hr s4 hS4 => ?_⟩
        refine ⟨r, _, _, _, (q.1 - s', q.2.1 + b', q.2.2 + a'), rfl, s3.trans s4, ?_, ?_, sA.free hr, hS4⟩
        · rw [et]
          unfold betS
          rw [hl]
          rfl
        · show 0 ≤ q.2.1 + b' + (q.2.2 + a')
          have h5 : 0 ≤ a' + b' := hok
          have h6 : 0 ≤ q.2.1 + q.2.2 := ho
          omega
      | false =>
        refine iteF ?_
        refine ⟨_, rfl, sp, dxs, _, rfl, hsp, rfl, _, rfl, sp, sp2, _, _, _, _, _, _, rfl, hS, hS2, ho, hok, fun r H3 hr s4 hS4 => ?_⟩
        refine ⟨r, _, _, _, (q.1 + s', q.2.1 + a', q.2.2 + b'), rfl, s3.trans s4, ?_, ?_, sA.free hr, hS4⟩
        · rw [et]
          unfold betS
          rw [hl]
          rfl
        · show 0 ≤ q.2.1 + a' + (q.2.2 + b')
          have h5 : 0 ≤ a' + b' := hok
          have h6 : 0 ≤ q.2.1 + q.2.2 := ho
          omega
    · rintro σ' H' ⟨sp, o4, o5, o6, q, rfl, s3, eq, ho, hn, hS⟩
      rw [← Paired.len p2, List.take_length] at eq
      refine ⟨_, rfl, k sp _ hn ((s1.trans s2).trans s3) ?_⟩
      have eq : q = betP rs one other := eq
      rw [← eq]
      exact hS
end
end Fw
set_option Elab.async false
set_option linter.all false
set_option maxRecDepth 100000
set_option maxHeartbeats 4000000
namespace Fw
open PySem PySem.Spec PyProof.Rows L2
open C8 (Cal CalAt Met Mak pe_c pe_mk pe_mt pe_mt0 pe_gc InsC call_isC)

section
variable {P : Program} {w : World} {K : PySem.W.Frag} {mg : Str → Option Value} {base : Heap}

def IntD (kvs : List (Key × V)) : Prop := ∀ k v, valV kvs k = some v → ∃ i : Int, v = .int i
theorem IntD.nil : IntD [] := fun k v h => by cases h
theorem IntD.put {kvs : List (Key × V)} (h : IntD kvs) (k : Key) (i : Int) : IntD (putK kvs k (.int i)) := fun j v e => by
  rw [valV_put] at e
  split at e
  · cases e
    exact ⟨i, rfl⟩
  · exact h j v e
theorem put_len (kvs : List (Key × V)) (k : Key) (v : V) : (putK kvs k v).length ≤ kvs.length + 1 := by
  unfold putK
  split
  · rw [List.length_map]; exact Nat.le_succ _
  · rw [List.length_append]; exact Nat.le_refl _
theorem good_at {z : Str} {rs : List Row} (g : Good z rs) : ∀ {i : Nat} {r : Row}, rs.reverse[i]? = some r → r.2.1 ∈ z :: rnm (rs.reverse.take i) := by
  induction g with
  | nil _ => intro i r h; simp at h
  | @cons r0 rs g h1 h2 h3 h4 ih =>
    intro i r h
    rw [List.reverse_cons] at h ⊢
    by_cases hi : i < rs.reverse.length
    · rw [List.getElem?_append_left hi] at h
      rw [List.take_append_of_le_length (Nat.le_of_lt hi)]
      exact ih h
    · rw [List.getElem?_append_right (by omega)] at h
      have e : i - rs.reverse.length = 0 := by
        cases e : i - rs.reverse.length with
        | zero => rfl
        | succ n => rw [e] at h; simp at h
      rw [e] at h
      cases h
      have ei : i = rs.reverse.length := by omega
      rw [ei, List.take_left, rnm_rev]
      rcases List.mem_cons.mp h3 with h | h
      · rw [h]; exact List.mem_cons_self ..
      · exact List.mem_cons_of_mem _ (List.mem_reverse.mpr h)
theorem rows_get {H : Hp} : ∀ {kvs : List (Key × V)} {rows : List Row} {i : Nat} {kv : Key × V}, RowsAt K H kvs rows → kvs[i]? = some kv → ∃ r, rows[i]? = some r ∧ kv.1 = .inr r.1 ∧ RowAt K H kv.2 r
  | _, _, 0, _, .cons h _, e => by
    cases e
    exact ⟨_, rfl, h⟩
  | _, _, i + 1, _, .cons _ t, e => rows_get (i := i) t e
  | _, _, 0, _, .nil, e => by cases e
  | _, _, i + 1, _, .nil, e => by cases e
theorem s_Drawing_placing_of : FnScope ["self", "chosen", "places", "name", "start", "span"] ["self", "chosen"] d_Drawing_placing_of.scope := ⟨rfl, rfl, rfl, by decide +kernel, rfl, by decide +kernel, by decide +kernel⟩
theorem c_Drawing_placing_of (T : Txt w K mg) : Met P w K mg base 1 (He.ga K "Drawing") "placing_of" (fun vs H Q _ => ∃ a d z rs c cs, vs = [.ref a, .ref c] ∧ DrawAt K H a d z rs ∧ H c = some (.dK cs) ∧ IntD cs ∧ c ≠ d ∧ ∀ v H', Same H H' → Q v H') [] := by
  refine T.met 45 131 145 (d := d_Drawing_placing_of) (S := s_Drawing_placing_of) (hb := fun _ _ _ _ _ _ us hl => match us, hl with | [_, _], _ => rfl) (len := fun vs H Q E h => ?_) (hbody := fun cdv A outer s H vs Q E hr h => ?_)
  · obtain ⟨a, d, z, rs, c, cs, rfl, hD, hc, hI, hcd, k⟩ := h
    rfl
  · obtain ⟨a, d, z, rs, c, cs, rfl, hD, hc, hI, hcd, k⟩ := h
    have hu := hu_of hr
    have cl := T.cl 131
    have clS := T.cl 118
    refine ⟨_, (pss_cons (ps_set (i := 2) s_Drawing_placing_of.nd rfl (Or.inl rfl) (pe_disp (pps_cons (pe_fld (pv 0) rfl) pe_int pps_nil) (by rfl) (by rfl) (fun z => by cases z) (by decide)))
      (pss_cons (ps_lock (ps_for PassesOwn.never rfl (pi_items (pe_fld (pv 0) rfl)) (pg_tup rfl (pgs_cons (pg_name (i := 3) s_Drawing_placing_of.nd rfl (Or.inl rfl)) (pgs_cons (pg_tup rfl (pgs_cons (pg_name (i := 4) s_Drawing_placing_of.nd rfl (Or.inl rfl)) (pgs_cons (pg_name (i := 5) s_Drawing_placing_of.nd rfl (Or.inl rfl)) pgs_nil))) pgs_nil)))
      (pss_one (ps_dput hu (pv 2) (pv 3) (pe_op op_add (pe_dget hu (pv 2) (pv 4) (fun _ _ => rfl)) (pe_dget2 hu (pv 1) (pv 3) (pe_fld (pv 5) rfl) ⟨rfl, rfl, rfl, rfl⟩)) rfl))))
      (pss_one (ps_ret (pe_tupItems rfl (by rfl) (T.f 111) (pv 2)))))), ?_⟩
    obtain ⟨dx, hi⟩ := hD.ins
    obtain ⟨kvs, hd, hr⟩ := hD.rows
    have hlr : kvs.length = rs.length := by rw [Paired.len hr, List.length_reverse]
    have hfew := hD.few
    have had : a ≠ d := fun e => by rw [e, hd] at hi; cases hi
    intro p hp
    have hap : a ≠ p := fun e => by rw [← e, hi] at hp; cases hp
    have hdp : d ≠ p := fun e => by rw [← e, hd] at hp; cases hp
    have hcp : c ≠ p := fun e => by rw [← e, hc] at hp; cases hp
    refine ⟨_, rfl, a, _, dx, _, _, rfl, (same_new hp) _ _ hi, cl, T.na 133, rfl, upd_same, [(.inr z, .int 0)], rfl, by show 1 ≤ 15; decide, ?_⟩
    rw [upd_upd]
    refine ⟨d, .dK kvs, (same_new hp) _ _ hd, trivial, fun od => ?_⟩
    have hmk : mergeK [] [((.inr z : Key), V.int 0)] = [(.inr z, .int 0)] := rfl
    rw [hmk]
    have bL : ∀ x o, x ≠ d → H x = some o → (upd (upd H p (.dK [(.inr z, .int 0)])) d (.frz od (.dK kvs))) x = some o := fun x o hx e => by
      rw [upd_ne hx]
      exact (same_new hp) _ _ e
    have pL : (upd (upd H p (.dK [(.inr z, .int 0)])) d (.frz od (.dK kvs))) p = some (.dK [(.inr z, .int 0)]) := by rw [upd_ne hdp.symm, upd_same]
    have dL : (upd (upd H p (.dK [(.inr z, .int 0)])) d (.frz od (.dK kvs))) d = some (.frz od (.dK kvs)) := upd_same
    generalize upd (upd H p (.dK [(.inr z, .int 0)])) d (.frz od (.dK kvs)) = HL at bL pL dL ⊢
    refine ⟨_, rfl, a, _, dx, _, _, rfl, bL _ _ had hi, cl, T.na 134, rfl, d, od, kvs, rfl, dL, for_it walk_items (fun i σ' H' => ∃ o3 o4 o5 ps, σ' = [some (.ref a), some (.ref c), some (.ref p), o3, o4, o5] ∧ Bt p HL H' ∧ H' p = some (.dK ps) ∧ IntD ps ∧ ps.length ≤ i + 1 ∧ ∀ n ∈ z :: rnm (rs.reverse.take i), (valV ps (.inr n)).isSome = true) ?_ ?_ ?_ ?_⟩
    · refine ⟨none, none, none, _, rfl, fun _ _ _ h => h, pL, ?_, Nat.le_refl _, ?_⟩
      · exact IntD.put IntD.nil (.inr z) 0
      · intro n hn
        rw [List.take_zero] at hn
        rw [List.mem_singleton.mp hn]
        rw [valV_pos rfl]
        rfl
    · rintro i σ' H' _ ⟨_, _, _, _, _, b, _⟩
      exact b _ _ hdp dL
    · rintro i x σ' H' H'' hil ⟨o3, o4, o5, ps, rfl, b, hps, hIp, hlp, hall⟩ ⟨T', x1, x2, rfl, hT, rfl, e1, e2⟩
      obtain ⟨kv, hkv⟩ : ∃ kv, kvs[i]? = some kv := ⟨_, List.getElem?_eq_getElem hil⟩
      have e1 : (kvs[i]?).map (fun kv => kV kv.1) = some x1 := e1
      have e2 : (kvs[i]?).map Prod.snd = some x2 := e2
      rw [hkv] at e1 e2
      cases e1
      cases e2
      obtain ⟨r, hr1, hk1, t, sp, hk2, ht, hS⟩ := rows_get hr hkv
      obtain ⟨kk, kx⟩ := kv
      have hk1 : kk = .inr r.1 := hk1
      have hk2 : kx = .ref t := hk2
      subst hk1 hk2
      have htd : t ≠ d := fun e => by rw [e, hd] at ht; cases ht
      have htp : t ≠ p := fun e => by rw [e, hp] at ht; cases ht
      obtain ⟨dxs, hsp⟩ := hS
      have hsd : sp ≠ d := fun e => by rw [e, hd] at hsp; cases hsp
      have hspp : sp ≠ p := fun e => by rw [e, hp] at hsp; cases hsp
      have sT := same_new (o := .tup [kV (.inr r.1), .ref t]) hT
      have ht' := sT _ _ (b _ _ htp (bL _ _ htd ht))
      have hsp' := sT _ _ (b _ _ hspp (bL _ _ hsd hsp))
      have hc' := sT _ _ (b _ _ hcp (bL _ _ hcd hc))
      have hps' := sT _ _ hps
      have gs := good_at hD.good hr1
      obtain ⟨w0, hw0⟩ := Option.isSome_iff_exists.mp (hall _ gs)
      obtain ⟨i0, rfl⟩ := hIp _ _ hw0
      obtain ⟨j0, hj0⟩ : ∃ j0 : Int, (valV cs (.inr r.1)).getD (.int (r.2.2.1 - r.2.2.2.2)) = .int j0 := by
        cases e : valV cs (.inr r.1) with
        | none => exact ⟨_, rfl⟩
        | some v => obtain ⟨j, rfl⟩ := hI _ _ e; exact ⟨j, rfl⟩
      refine ⟨T', _, rfl, SqT.of upd_same, rfl, _, _, rfl, _, _, rfl, ?_⟩
      refine ⟨t, _, rfl, SqT.of ht', rfl, _, _, rfl, _, _, rfl, rfl, rfl, ?_⟩
      refine ⟨_, rfl, _, rfl, p, _, rfl, dget_of (k := .inr r.2.1) hps' hw0, _, rfl, c, rfl, .inl ⟨cs, Rd.of hc'⟩, _, rfl, ?_⟩
      refine ⟨_, rfl, sp, _, dxs, _, _, rfl, hsp', clS, T.na 123, rfl, _, DGet.k (k := .inr r.1) hc', _, j0, rfl, hj0, ?_⟩
      refine ⟨_, rfl, _, rfl, p, _, rfl, DPut.k (k := .inr r.1) hps' ?_, ?_⟩
      · exact Nat.lt_of_le_of_lt (by omega : _ ≤ 200) (by decide)
      · refine ⟨_, _, _, _, rfl, b.trans ((Bt.of sT).trans Bt.upd), upd_same, hIp.put _ _, Nat.le_trans (put_len _ _ _) (Nat.succ_le_succ hlp), ?_⟩
        intro n hn
        rw [valV_put]
        by_cases e : (Sum.inr n : Key) = .inr r.1
        · rw [if_pos e]
          rfl
        · rw [if_neg e]
          refine hall n ?_
          have et : rs.reverse.take (i + 1) = rs.reverse.take i ++ [r] := by rw [List.take_add_one, hr1]; rfl
          rw [et] at hn
          rcases List.mem_cons.mp hn with hn | hn
          · rw [hn]; exact List.mem_cons_self ..
          · have hn : n ∈ rnm (rs.reverse.take i) ++ [r.1] := by
              have e2 : rnm (rs.reverse.take i ++ [r]) = rnm (rs.reverse.take i) ++ [r.1] := List.map_append
              rw [← e2]
              exact hn
            rcases List.mem_append.mp hn with hn | hn
            · exact List.mem_cons_of_mem _ hn
            · exact absurd (congrArg Sum.inr (List.mem_singleton.mp hn)) e
    · rintro σ' H' ⟨o3, o4, o5, ps, rfl, b, hps, hIp, hlp, hall⟩
      refine ⟨b _ _ hdp dL, ?_⟩
      have sE : Same H (upd H' d (.dK kvs)) := fun x o hx => by
        by_cases e : x = d
        · rw [e] at hx ⊢
          rw [hd] at hx
          rw [upd_same]
          exact hx
        · rw [upd_ne e]
          refine b _ _ (fun e2 => ?_) (bL _ _ e hx)
          rw [e2, hp] at hx
          cases hx
      refine ⟨_, rfl, p, ps, rfl, ?_, fun q as hq => k _ _ (sE.trans (same_new hq))⟩
      rw [upd_ne hdp.symm]
      exact hps
end
end Fw
set_option Elab.async false
set_option linter.all false
set_option maxRecDepth 100000
set_option maxHeartbeats 4000000
namespace Fw
open PySem PySem.Spec PyProof.Rows L2
open C8 (Cal CalAt Met Mak pe_c pe_mk pe_mt pe_mt0 pe_gc InsC call_isC)

section
variable {P : Program} {w : World} {K : PySem.W.Frag} {mg : Str → Option Value} {base : Heap}

theorem s_Drawing_placed : FnScope ["self", "one", "other", "measure", "span", "chosen", "extra", "name", "back", "link", "goes"] ["self", "one", "other", "measure"] d_Drawing_placed.scope := ⟨rfl, rfl, rfl, by decide +kernel, rfl, by decide +kernel, by decide +kernel⟩
theorem c_Drawing_placed (T : Txt w K mg) : Met P w K mg base 8 (He.ga K "Drawing") "placed" (fun vs H Q _ => ∃ a d z rs one other m, vs = [.ref a, .str one, .str other, .int m] ∧ DrawAt K H a d z rs ∧ one ∈ z :: rnm rs ∧ other ∈ z :: rnm rs ∧ ∀ v H', Same H H' → Q v H') [] := by
  refine T.met 44 131 144 (d := d_Drawing_placed) (S := s_Drawing_placed) (hb := fun _ _ _ _ _ _ us hl => match us, hl with | [_, _, _, _], _ => rfl) (len := fun vs H Q E h => ?_) (hbody := fun cdv A outer s H vs Q E hr h => ?_)
  · obtain ⟨a, d, z, rs, one, other, m, rfl, hD, h1, h2, k⟩ := h
    rfl
  · obtain ⟨a, d, z, rs, one, other, m, rfl, hD, h1, h2, k⟩ := h
    have hu := hu_of hr
    have cl := T.cl 131
    have clS := T.cl 118
    refine ⟨_, (pss_cons (ps_set (i := 4) s_Drawing_placed.nd rfl (Or.inl rfl) (pe_mt (c_Drawing_between T) hr (by decide) (pv 0) (pa_cons (pv 1) (pa_cons (pv 2) pa_nil))))
      (pss_cons (ps_expr (pe_c (c_check_measure T) hr (by decide) rfl (pa_cons (pv 3) pa_nil)))
      (pss_cons (ps_if (pt_not (pt_val (pe_mt (c_Span_lets T) hr (by decide) (pv 4) (pa_cons (pv 3) pa_nil)))) (pss_one (ps_ret pe_non)) pss_nil)
      (pss_cons (ps_set (i := 5) s_Drawing_placed.nd rfl (Or.inl rfl) pe_dnewK)
      (pss_cons (ps_set (i := 6) s_Drawing_placed.nd rfl (Or.inl rfl) (pe_op op_sub (pv 3) (pe_fld (pv 4) rfl)))
      (pss_cons (ps_for PassesOwn.never rfl (pi_tup (pe_mt (c_Drawing_road T) hr (by decide) (pv 0) (pa_cons (pv 1) (pa_cons (pv 2) pa_nil)))) (pg_tup rfl (pgs_cons (pg_name (i := 7) s_Drawing_placed.nd rfl (Or.inl rfl)) (pgs_cons (pg_name (i := 8) s_Drawing_placed.nd rfl (Or.inl rfl)) pgs_nil)))
      (pss_cons (ps_set (i := 9) s_Drawing_placed.nd rfl (Or.inl rfl) (pe_ix (ix_tupK (K := K) rfl) (pe_dget hu (pe_fld (pv 0) rfl) (pv 7) (fun _ _ => rfl)) pe_int (fun _ _ => rfl)))
        (pss_cons (ps_set (i := 10) s_Drawing_placed.nd rfl (Or.inl rfl) (pe_callB (id := "min") (call_min2 rfl) (by rfl) (T.f 107) (by decide +kernel) (pa_cons (pv 6) (pa_cons (pe_op op_sub (pe_fld (pv 9) rfl) (pe_fld (pv 9) rfl)) pa_nil))))
        (pss_cons (ps_dput hu (pv 5) (pv 7) (pe_ifExp (pt_val (pv 8)) (pe_op op_sub (pe_fld (pv 9) rfl) (pv 10)) (pe_op op_add (pe_fld (pv 9) rfl) (pv 10))) rfl)
        (pss_one (ps_aug (i := 6) s_Drawing_placed.nd rfl (Or.inl rfl) (pv 10) ip_sub))))))
      (pss_one (ps_ret (pe_mt (c_Drawing_placing_of T) hr (by decide) (pv 0) (pa_cons (pv 5) pa_nil)))))))))), ?_⟩
    obtain ⟨dx, hi⟩ := hD.ins
    obtain ⟨kvs0, hd0, _⟩ := hD.rows
    have hfew := hD.few
    refine ⟨_, rfl, a, dx, _, rfl, hi, rfl, _, rfl, _, rfl, a, d, z, rs, one, other, rfl, hD, h1, h2, fun sp H1 hsp0 s1 hS => ?_⟩
    obtain ⟨dxs, hsp⟩ := id hS
    generalize (betP rs one other).1 = q1 at *
    generalize (betP rs one other).2.1 = q2 at *
    generalize (betP rs one other).2.2 = q3 at *
    refine ⟨_, rfl, m, rfl, ?_⟩
    refine ⟨_, rfl, sp, dxs, _, rfl, hsp, rfl, _, rfl, sp, _, _, _, m, rfl, hS, _, rfl, ?_⟩
    generalize (decide (q1 - q3 ≤ m) && decide (m ≤ q1 + q2)) = bb
    cases bb with
    | false => exact k _ _ s1
    | true =>
    refine iteF ?_
    intro c hc
    have sc := same_new (o := .dK []) hc
    refine ⟨_, rfl, _, rfl, sp, _, dxs, _, _, rfl, sc _ _ hsp, clS, T.na 123, rfl, _, _, rfl, rfl, ?_⟩
    have hi2 := sc _ _ (s1 _ _ hi)
    refine ⟨_, rfl, a, dx, _, rfl, hi2, rfl, _, rfl, _, rfl, a, d, z, rs, one, other, rfl, (hD.ext s1).ext sc, h1, h2, fun t vs H3 ht s3 g3 p3 => ?_⟩
    have hcn : H c = none := s1.free hc
    have s03 : Same H H3 := s1.trans (sc.trans s3)
    refine ⟨t, rfl, ⟨_, SqT.of g3⟩, for_tup (K := K) (xs := vs) (fun i σ' H' => ∃ ex o7 o8 o9 o10 cs, σ' = [some (.ref a), some (.str one), some (.str other), some (.int m), some (.ref sp), some (.ref c), some (.int ex), o7, o8, o9, o10] ∧ Bt c H3 H' ∧ H' c = some (.dK cs) ∧ IntD cs ∧ cs.length ≤ i) ?_ ?_ ?_ ?_⟩
    · exact ⟨_, none, none, none, none, [], rfl, fun _ _ _ h => h, s3 _ _ upd_same, IntD.nil, Nat.zero_le _⟩
    · rintro i σ' H' _ ⟨_, _, _, _, _, _, _, b, _⟩
      refine SqT.of (b _ _ (fun e => ?_) g3)
      rw [e, upd_same] at ht
      cases ht
    · rintro i x σ' H' hx ⟨ex, o7, o8, o9, o10, cs, rfl, b, hcs, hIc, hlc⟩
      obtain ⟨⟨n, bk⟩, hp, u, rfl, hu⟩ := p_get p3 hx
      have huc : u ≠ c := fun e => by rw [e, s3 _ _ upd_same] at hu; cases hu
      have sA : Same H H' := b.same s03 hcn
      refine ⟨u, _, rfl, SqT.of (b _ _ huc hu), rfl, _, _, rfl, _, _, rfl, rfl, ?_⟩
      obtain ⟨st, pr, hl, _, _, hok, _⟩ := look_some hD.good (road_mem hD.good h1 h2 (List.mem_of_getElem? hp))
      obtain ⟨kvs, hd, _, hv⟩ := (hD.ext sA).val n
      obtain ⟨v, hv, t2, sp2, rfl, ht2, dx2, hS2⟩ := hv st pr hl
      refine ⟨_, rfl, a, _, dx, _, _, rfl, sA _ _ hi, cl, T.na 134, rfl, _, rfl, d, _, rfl, dget_of (k := .inr n) hd hv, t2, _, _, _, rfl, rfl, SqT.of ht2, atI_nat (j := 1) rfl, ?_⟩
      refine ⟨_, rfl, _, rfl, sp2, _, dx2, _, _, rfl, hS2, clS, T.na 124, rfl, _, rfl, sp2, _, dx2, _, _, rfl, hS2, clS, T.na 123, rfl, _, _, rfl, rfl, _, _, rfl, ?_⟩
      refine ⟨_, rfl, _, rfl, ?_⟩
      have hlt : cs.length < sizeLine := by
        have := road_len (rs := rs) one other
        have := (List.getElem?_eq_some_iff.mp hp).1
        exact Nat.lt_of_le_of_lt (by omega : _ ≤ 1000) (by decide)
      cases bk with
      | true =>
        refine iteT ?_
        refine ⟨_, rfl, sp2, _, dx2, _, _, rfl, hS2, clS, T.na 124, rfl, _, rfl, _, _, rfl, rfl, _, rfl, _, rfl, c, _, rfl, DPut.k (k := .inr n) hcs hlt, ?_⟩
        refine ⟨_, rfl, _, rfl, _, _, rfl, rfl, ?_⟩
        exact ⟨_, _, _, _, _, _, rfl, b.trans Bt.upd, upd_same, hIc.put _ _, Nat.le_trans (put_len _ _ _) (Nat.succ_le_succ hlc)⟩
      | false =>
        refine iteF ?_
        refine ⟨_, rfl, sp2, _, dx2, _, _, rfl, hS2, clS, T.na 123, rfl, _, rfl, _, _, rfl, rfl, _, rfl, _, rfl, c, _, rfl, DPut.k (k := .inr n) hcs hlt, ?_⟩
        refine ⟨_, rfl, _, rfl, _, _, rfl, rfl, ?_⟩
        exact ⟨_, _, _, _, _, _, rfl, b.trans Bt.upd, upd_same, hIc.put _ _, Nat.le_trans (put_len _ _ _) (Nat.succ_le_succ hlc)⟩
    · rintro σ' H' ⟨ex, o7, o8, o9, o10, cs, rfl, b, hcs, hIc, hlc⟩
      have sA : Same H H' := b.same s03 hcn
      refine ⟨_, rfl, a, dx, _, rfl, sA _ _ hi, rfl, _, rfl, a, d, z, rs, c, cs, rfl, hD.ext sA, hcs, hIc, fun e => ?_, fun v H'' s => k v H'' (sA.trans s)⟩
      rw [e, hd0] at hcn
      cases hcn
/-! a drawing's rows as texts -/
def Pmd (p : Par) : Prop := Md p.1 ∧ Md p.2.1 ∧ Md p.2.2
def rowS (y : Way) (r : Row) : Str := ((((Str.empty ++ r.1) ++ " from ") ++ r.2.1) ++ ": ") ++ spanS y r.2.2.1 r.2.2.2.1 r.2.2.2.2
def zlS (z : Str) : Str := (Str.empty ++ "zero ") ++ z
def linesP (y : Way) (z : Str) (rs : List Row) : List Str := zlS z :: rs.reverse.map (rowS y)
theorem cut_tail (x : V) (xs : List V) : cutV (x :: xs) (some 1) none = xs := by
  unfold cutV
  have e : HT.sIx (x :: xs).length 0 (some 1) = 1 := by
    have := HT.sIx_nat (x :: xs).length 0 1
    rw [List.length_cons] at this ⊢
    exact this.trans (Nat.min_eq_left (by omega))
  rw [e, HT.sIx_none]
  show xs.take (xs.length + 1 - 1) = xs
  exact List.take_length
theorem not_tail (x : V) (xs : List V) : ¬ (HT.sIx (x :: xs).length 0 (some 1) = 0 ∧ HT.sIx (x :: xs).length (x :: xs).length none = (x :: xs).length) := by
  intro h
  have e : HT.sIx (x :: xs).length 0 (some 1) = 1 := by
    have := HT.sIx_nat (x :: xs).length 0 1
    rw [List.length_cons] at this ⊢
    exact this.trans (Nat.min_eq_left (by omega))
  rw [e] at h
  cases h.1
theorem look_uniq {z : Str} {rs : List Row} (g : Good z rs) {n st s' : Str} {p p' : Par} (h : (n, st, p) ∈ rs) (hl : look rs n = some (s', p')) : (s', p') = (st, p) := by
  induction g with
  | nil _ => cases h
  | @cons r rs g h1 h2 h3 h4 ih =>
    unfold look at hl
    rcases List.mem_cons.mp h with e | e
    · rw [← e, if_pos rfl] at hl
      cases hl
      rfl
    · have hn : n ∈ rnm rs := List.mem_map.mpr ⟨_, e, rfl⟩
      rw [if_neg (fun q => h2 (by rw [q]; exact List.mem_cons_of_mem _ hn))] at hl
      exact ih e hl
theorem s_lines_of : FnScope ["drawing", "way", "lines", "name", "start", "span"] ["drawing", "way"] d_lines_of.scope := ⟨rfl, rfl, rfl, by decide +kernel, rfl, by decide +kernel, by decide +kernel⟩
theorem c_lines_of (T : Txt w K mg) : Cal P w K mg base 7 "lines_of" (fun vs H Q _ => ∃ a d z rs y, vs = [.ref a, .str y.s] ∧ DrawAt K H a d z rs ∧ (∀ r ∈ rs, Pmd r.2.2) ∧ RetL H Q ((linesP y z rs).map V.str)) [] := by
  refine T.cal 46 34 (d := d_lines_of) (S := s_lines_of) (hb := fun _ _ _ _ _ _ us hl => match us, hl with | [_, _], _ => rfl) (len := fun vs H Q E h => ?_) (hbody := fun cdv A outer s H vs Q E hr h => ?_)
  · obtain ⟨a, d, z, rs, y, rfl, hD, hm, k⟩ := h
    rfl
  · obtain ⟨a, d, z, rs, y, rfl, hD, hm, k⟩ := h
    have cl := T.cl 131
    have clS := T.cl 118
    refine ⟨_, (pss_cons (ps_set (i := 2) s_lines_of.nd rfl (Or.inl rfl) (pe_lst (pa_cons (pe_joined (.cons pe_str (.cons (pe_fmt (pe_fld (pv 0) rfl)) .nil))) pa_nil)))
      (pss_cons (ps_for PassesOwn.never rfl (pi_tup (pe_slice (sl_tupAK (K := K) rfl) (pe_mt0 (c_Drawing_names T) hr (by decide) (pv 0)) (po_some pe_int) po_none)) (pg_name (i := 3) s_lines_of.nd rfl (Or.inl rfl))
      (pss_cons (ps_asg (pe_mt (c_Drawing_told T) hr (by decide) (pv 0) (pa_cons (pv 3) pa_nil)) (pg_tup rfl (pgs_cons (pg_name (i := 4) s_lines_of.nd rfl (Or.inl rfl)) (pgs_cons (pg_name (i := 5) s_lines_of.nd rfl (Or.inl rfl)) pgs_nil))))
        (pss_one (ps_expr (pe_bm PySem.F.plainAttrs_list PySem.F.slot_list_append PySem.F.type_list_append mt_append (pv 2) (pa_cons (pe_joined (.cons (pe_fmt (pv 3)) (.cons pe_str (.cons (pe_fmt (pv 4)) (.cons pe_str (.cons (pe_fmt (pe_c (c_shown_span T) hr (by decide) rfl (pa_cons (pe_fld (pv 5) rfl) (pa_cons (pe_fld (pv 5) rfl) (pa_cons (pe_fld (pv 5) rfl) (pa_cons (pv 1) pa_nil)))))) .nil)))))) pa_nil))))))
      (pss_one (ps_ret (pv 2))))), ?_⟩
    obtain ⟨dx, hi⟩ := hD.ins
    have hfew := hD.few
    have z6 := hD.good.zero.2.1
    have x1 : ("zero " : Str).length = 5 := rfl
    have x2 : (" from " : Str).length = 6 := rfl
    have x3 : (": " : Str).length = 2 := rfl
    have x0 : (Str.empty : Str).length = 0 := rfl
    refine ⟨_, rfl, len_sl (by rw [len_app]; omega), _, rfl, a, _, dx, _, _, rfl, hi, cl, T.na 133, rfl, Or.inl ⟨_, rfl, len_sl (by omega), _, rfl, len_sl (by rw [len_app, len_app]; omega), ?_⟩⟩
    refine ⟨sz1, fun l hl => ?_⟩
    have s1 := same_new (o := .lst [.str (zlS z)]) hl
    refine ⟨_, rfl, a, dx, _, rfl, s1 _ _ hi, rfl, a, d, z, rs, rfl, hD.ext s1, fun p H1 hp s2 h1 => ?_⟩
    refine ⟨_, rfl, p, _, rfl, SqT.of h1, (fun h => absurd h (not_tail _ _)), fun _ q hq => ?_⟩
    have s3 := same_new (o := .tup (cutV ((z :: rnm rs.reverse).map V.str) (some 1) none)) hq
    have ec : cutV ((z :: rnm rs.reverse).map V.str) (some 1) none = (rnm rs.reverse).map V.str := cut_tail _ _
    have hq2 : (upd H1 q (.tup (cutV ((z :: rnm rs.reverse).map V.str) (some 1) none))) q = some (.tup ((rnm rs.reverse).map V.str)) := by rw [upd_same, ec]
    have sA : Same H (upd H1 q (.tup (cutV ((z :: rnm rs.reverse).map V.str) (some 1) none))) := s1.trans (s2.trans s3)
    have hl1 : (upd H1 q (.tup (cutV ((z :: rnm rs.reverse).map V.str) (some 1) none))) l = some (.lst [.str (zlS z)]) := s3 _ _ (s2 _ _ upd_same)
    generalize upd H1 q (.tup (cutV ((z :: rnm rs.reverse).map V.str) (some 1) none)) = H2 at hq2 sA hl1 ⊢
    refine ⟨q, rfl, ⟨_, SqT.of hq2⟩, for_tup (K := K) (xs := (rnm rs.reverse).map V.str) (fun i σ' H' => ∃ o3 o4 o5, σ' = [some (.ref a), some (.str y.s), some (.ref l), o3, o4, o5] ∧ Same H H' ∧ SqT K H' q ((rnm rs.reverse).map V.str) ∧ H' l = some (.lst ((zlS z :: (rs.reverse.take i).map (rowS y)).map V.str))) ?_ ?_ ?_ ?_⟩
    · exact ⟨none, none, none, rfl, sA, SqT.of hq2, hl1⟩
    · exact fun i σ' H' _ ⟨_, _, _, _, _, h, _⟩ => h
    · rintro i x σ' σ'h hx ⟨o3, o4, o5, rfl, sB, hqt, hL⟩
      rw [List.getElem?_map] at hx
      cases hr : rs.reverse[i]? with
      | none =>
        have e : (rnm rs.reverse)[i]? = none := by unfold rnm; rw [List.getElem?_map, hr]; rfl
        rw [e] at hx
        cases hx
      | some r =>
        obtain ⟨n, st, sz, ab, be⟩ := r
        have e : (rnm rs.reverse)[i]? = some n := by unfold rnm; rw [List.getElem?_map, hr]; rfl
        rw [e] at hx
        cases hx
        have hrm : (n, st, sz, ab, be) ∈ rs := List.mem_reverse.mp (List.mem_of_getElem? hr)
        have hn : n ∈ rnm rs := List.mem_map.mpr ⟨_, hrm, rfl⟩
        obtain ⟨m1, m2, m3⟩ : Md sz ∧ Md ab ∧ Md be := hm _ hrm
        refine ⟨_, rfl, a, dx, _, rfl, sB _ _ hi, rfl, _, rfl, a, d, z, rs, n, rfl, hD.ext sB, List.mem_cons_of_mem _ hn, (fun h => absurd hn h), fun s' p' v hl' hv => ?_⟩
        have ep : (s', p') = (st, sz, ab, be) := look_uniq hD.good hrm hl'
        cases ep
        obtain ⟨t, sp, rfl, ht, hS⟩ := hv
        have ht : σ'h t = some (.tup [.str st, .ref sp]) := ht
        have hS : SpanAt K σ'h sp sz ab be := hS
        obtain ⟨dxs, hsp⟩ := id hS
        obtain ⟨_, _, hl2, h3, _, _, hok, _⟩ := look_some hD.good hn
        rw [hl'] at hl2
        cases hl2
        have n6 := hok.2.1
        have t6 := (hD.good.ok h3).2.1
        have sl : (spanS y sz ab be).length ≤ 400000 := spanS_len y m1 m2 m3
        refine ⟨t, _, rfl, SqT.of ht, rfl, _, _, rfl, _, _, rfl, rfl, ?_⟩
        refine ⟨_, rfl, Or.inl ⟨rfl, _, SqL.of hL⟩, _, rfl, Or.inl ⟨_, rfl, len_sl (by omega), _, rfl, len_sl (by rw [len_app]; omega), _, rfl, len_sl (by rw [len_app, len_app]; omega), _, rfl, Or.inl ⟨_, rfl, len_sl (by omega), _, rfl, len_sl (by rw [len_app, len_app, len_app]; omega), _, rfl, len_sl (by rw [len_app, len_app, len_app, len_app]; omega), ?_⟩⟩⟩
        refine ⟨_, rfl, sp, _, dxs, _, _, rfl, hsp, clS, T.na 120, rfl, _, rfl, sp, _, dxs, _, _, rfl, hsp, clS, T.na 121, rfl, _, rfl, sp, _, dxs, _, _, rfl, hsp, clS, T.na 122, rfl, _, rfl, ?_⟩
        refine ⟨_, _, _, y, rfl, m1, m2, m3, fun H3 s3 => Or.inl ⟨_, rfl, len_sl (by omega), _, rfl, len_sl (by rw [len_app, len_app, len_app, len_app, len_app]; omega), ?_⟩⟩
        refine ⟨l, _, _, rfl, rfl, s3 _ _ hL, ?_, ?_⟩
        · rw [List.length_map, List.length_cons, List.length_map, List.length_take, List.length_reverse]
          exact Nat.lt_of_le_of_lt (by omega : _ ≤ 200) (by decide)
        · refine ⟨_, _, _, rfl, same_mut (sB.trans s3) hl, ?_, ?_⟩
          · exact (hqt.ext s3).elim (fun h => .inl (h.elim (fun h => .inl (by rw [upd_ne (fun e => by rw [e, s3 _ _ hL] at h; cases h)]; exact h)) fun ⟨o, h⟩ => .inr ⟨o, by rw [upd_ne (fun e => by rw [e, s3 _ _ hL] at h; cases h)]; exact h⟩)) fun h => .inr h
          · rw [upd_same, List.take_add_one, hr, List.map_append, ← List.cons_append, List.map_append (f := V.str)]
            rfl
    · rintro σ' H' ⟨o3, o4, o5, rfl, sB, hqt, hL⟩
      have e : ((rnm rs.reverse).map V.str).length = rs.reverse.length := by rw [List.length_map]; exact List.length_map _
      rw [e, List.take_length] at hL
      exact ⟨_, rfl, k l _ hl sB hL⟩
end
end Fw
set_option Elab.async false
set_option linter.all false
set_option maxRecDepth 100000
set_option maxHeartbeats 4000000
namespace Fw
open PySem PySem.Spec PyProof.Rows L2
open C8 (Cal CalAt Met Mak pe_c pe_mk pe_mt pe_mt0 pe_gc InsC call_isC)

section
variable {P : Program} {w : World} {K : PySem.W.Frag} {mg : Str → Option Value} {base : Heap}

/-! == of spans and drawings -/
def RS (K : PySem.W.Frag) : Addr → Addr → Hp → Prop := fun p q H => ∃ s a b s2 a2 b2, SpanAt K H p s a b ∧ SpanAt K H q s2 a2 b2 ∧ s - b = s2 - b2 ∧ s + a = s2 + a2
def DIt (K : PySem.W.Frag) : Eqv := fun x y H => DFlat x y H ∨ DIns (He.ga K "Span") (RS K) x y H
def DVal (K : PySem.W.Frag) : Eqv := fun x y H => ∃ a b xs ys, x = .ref a ∧ y = .ref b ∧ H a = some (.tup xs) ∧ H b = some (.tup ys) ∧ Prs (DIt K) xs ys H
theorem m2It : Mon2 (DIt K) := fun x y H H' e d => by
  rcases d with d | ⟨a, b, dx, dy, fs, gs, rfl, rfl, ha, hb, s, a1, b1, s2, a2, b2, h1, h2, h3⟩
  · exact .inl d
  · exact .inr ⟨a, b, dx, dy, fs, gs, rfl, rfl, e _ (.ins _ _ _) trivial ha, e _ (.ins _ _ _) trivial hb, s, a1, b1, s2, a2, b2, h1.kp (Kp.imm e), h2.kp (Kp.imm e), h3⟩
theorem m2Val : Mon2 (DVal K) := fun x y H H' e d => by
  obtain ⟨a, b, xs, ys, rfl, rfl, h1, h2, p⟩ := d
  exact ⟨a, b, xs, ys, rfl, rfl, e _ (.tup _) trivial h1, e _ (.tup _) trivial h2, p.1, fun i x y hx hy => m2It _ _ _ _ e (p.2 i x y hx hy)⟩
theorem eqIt {X : Cx} (T : Txt X.w X.K X.mg) : EqG X 1 (DIt X.K) := by
  obtain ⟨f, fd, ps, ds, c, me, F, b, d⟩ := (c_Span_eq (P := X.prog) (base := X.base) T).ex
  cases d
  refine EqG.or (eqG_flat.mono (by omega)) (eqG_ins (R := RS X.K) (F.imp ?_) me.at_ me.fn b (C8.pass0 (E := C8.E0)))
  rintro vs H Q E ⟨p, q, rfl, ⟨s, a1, b1, s2, a2, b2, h1, h2, h3, h4⟩, k⟩
  exact ⟨p, q, s, a1, b1, s2, a2, b2, rfl, h1, h2, h3, h4, k⟩
theorem eqVal {X : Cx} (T : Txt X.w X.K X.mg) : EqG X 2 (DVal X.K) := (eqG_tup m2It.mon (eqIt T)).imp fun x y H d => by
  obtain ⟨a, b, xs, ys, rfl, rfl, h1, h2, p⟩ := d
  exact ⟨a, b, xs, ys, rfl, rfl, SqT.of h1, SqT.of h2, p⟩
theorem op_eqRows {X : Cx} (h : X.K = K) (T : Txt X.w X.K X.mg) (hr : Room 3 X.A) : OpR X (compareOp .Eq) (rEqG (DDict (DVal K))) := h ▸ op_eqG (rcG_dict m2Val (eqVal T)) hr
/-- what == of drawings looks at -/
def RD (K : PySem.W.Frag) : Addr → Addr → Hp → Prop := fun a b H => ∃ d d2 z rs rs2, DrawAt K H a d z rs ∧ DrawAt K H b d2 z rs2 ∧ d ≠ d2 ∧ rs.length = rs2.length ∧ ∀ n s p, look rs n = some (s, p) → ∃ p2, look rs2 n = some (s, p2) ∧ p.1 - p.2.2 = p2.1 - p2.2.2 ∧ p.1 + p.2.1 = p2.1 + p2.2.1
theorem RD.dict {H : Hp} {d d2 a b : Addr} {z : Str} {rs rs2 : List Row} (h1 : DrawAt K H a d z rs) (h2 : DrawAt K H b d2 z rs2) (hd : d ≠ d2) (hl : rs.length = rs2.length) (hk : ∀ n s p, look rs n = some (s, p) → ∃ p2, look rs2 n = some (s, p2) ∧ p.1 - p.2.2 = p2.1 - p2.2.2 ∧ p.1 + p.2.1 = p2.1 + p2.2.1) : DDict (DVal K) (.ref d) (.ref d2) H := by
  obtain ⟨kvs, e1, r1⟩ := h1.rows
  obtain ⟨kvs2, e2, r2⟩ := h2.rows
  refine ⟨d, d2, kvs, kvs2, rfl, rfl, hd, e1, e2, ?_, fun i k v hi => ?_⟩
  · rw [Paired.len r1, Paired.len r2, List.length_reverse, List.length_reverse, hl]
  · obtain ⟨r, hr, hk1, hk2⟩ := rows_get r1 hi
    obtain ⟨n, st, p⟩ := r
    have hk1 : k = .inr n := hk1
    subst hk1
    obtain ⟨t, sp, rfl, ht, hS⟩ := hk2
    have hrm : (n, st, p) ∈ rs := List.mem_reverse.mp (List.mem_of_getElem? hr)
    have hn : n ∈ rnm rs := List.mem_map.mpr ⟨_, hrm, rfl⟩
    obtain ⟨s', p', hl', _⟩ := look_some h1.good hn
    have ep := look_uniq h1.good hrm hl'
    cases ep
    obtain ⟨p2, l2, q1, q2⟩ := hk n st p hl'
    obtain ⟨kv2, e3, _, hv⟩ := h2.val n
    rw [e2] at e3
    cases e3
    obtain ⟨v, hv, t2, sp2, rfl, ht2, hS2⟩ := hv st p2 l2
    refine ⟨_, hv, t, t2, _, _, rfl, rfl, ht, ht2, ?_⟩
    refine Prs.cons (.inl ⟨rfl, rfl, ?_⟩) (Prs.cons (.inr ?_) Prs.nil)
    · show decide _ = true
      exact decide_eq_true rfl
    · obtain ⟨dx, hx⟩ := id hS
      obtain ⟨dy, hy⟩ := id hS2
      exact ⟨sp, sp2, dx, dy, _, _, rfl, rfl, hx, hy, _, _, _, _, _, _, hS, hS2, q1, q2⟩
theorem s_Drawing_eq : FnScope ["self", "other"] ["self", "other"] d_Drawing_eq.scope := ⟨rfl, rfl, rfl, by decide +kernel, rfl, by decide +kernel, by decide +kernel⟩
theorem c_Drawing_eq (T : Txt w K mg) : Met P w K mg base 4 (He.ga K "Drawing") "__eq__" (fun vs H Q _ => ∃ a b, vs = [.ref a, .ref b] ∧ RD K a b H ∧ ∀ H', Same H H' → Q (.bl true) H') [] := by
  refine T.met 35 131 135 (d := d_Drawing_eq) (S := s_Drawing_eq) (hb := fun _ _ _ _ _ _ us hl => match us, hl with | [_, _], _ => rfl) (len := fun vs H Q E h => ?_) (hbody := fun cdv A outer s H vs Q E hr h => ?_)
  · obtain ⟨a, b, rfl, ⟨d, d2, z, rs, rs2, h1, h2, hd, hl, hk⟩, k⟩ := h
    rfl
  · obtain ⟨a, b, rfl, ⟨d, d2, z, rs, rs2, h1, h2, hd, hl, hk⟩, k⟩ := h
    have cl := T.cl 131
    refine ⟨_, (pss_one (ps_ret (pe_and (pe_callB (id := "isinstance") (call_isC T.inD) (by rfl) (T.f 103) (by decide +kernel) (pa_cons (pv 1) (pa_cons (pe_gc rfl (T.gr 33)) pa_nil))) (pe_and (pe_cmpR op_eq (pe_fld (pv 0) rfl) (pe_fld (pv 1) rfl) (nomark _)) (pe_one (pe_cmpR (op_eqRows rfl T hr) (pe_fld (pv 0) rfl) (pe_fld (pv 1) rfl) (nomark _))))))), ?_⟩
    obtain ⟨dx, hi⟩ := h1.ins
    obtain ⟨dy, hj⟩ := h2.ins
    refine ⟨_, rfl, b, dy, _, rfl, hj, _, rfl, ?_⟩
    refine iteT ?_
    refine ⟨_, rfl, a, _, dx, _, _, rfl, hi, cl, T.na 133, rfl, _, rfl, b, _, dy, _, _, rfl, hj, cl, T.na 133, rfl, rfl, _, rfl, ?_⟩
    rw [decide_eq_true rfl]
    refine iteT ?_
    refine ⟨_, rfl, a, _, dx, _, _, rfl, hi, cl, T.na 134, rfl, _, rfl, b, _, dy, _, _, rfl, hj, cl, T.na 134, rfl, RD.dict h1 h2 hd hl hk, k⟩
theorem op_neDraw {X : Cx} (h : X.K = K) (T : Txt X.w X.K X.mg) (hr : Room 5 X.A) : OpR X (compareOp .NotEq) (rNeG (DIns (He.ga K "Drawing") (RD K))) := by
  subst h
  obtain ⟨f, fd, ps, ds, c, me, F, b, d⟩ := (c_Drawing_eq (P := X.prog) (base := X.base) T).ex
  cases d
  exact op_neIns (R := RD X.K) F (insB_ne T.insD) T.inD.hm me.at_ me.fn b (C8.pass0 (E := C8.E0)) hr
theorem op_neWants {X : Cx} (h : X.K = K) (T : Txt X.w X.K X.mg) (hr : Room 3 X.A) : OpR X (compareOp .NotEq) (rNeG (DList (DVal K))) := h ▸ op_neListG m2Val.mon (eqVal T) hr
end
end Fw
set_option Elab.async false
set_option linter.all false
set_option maxRecDepth 100000
set_option maxHeartbeats 4000000
namespace Fw
open PySem PySem.Spec PyProof.Rows L2
open C8 (Cal CalAt Met Mak pe_c pe_mk pe_mt pe_mt0 pe_gc InsC call_isC)

section
variable {P : Program} {w : World} {K : PySem.W.Frag} {mg : Str → Option Value} {base : Heap}

/-- the promise of a def with defaults, all of them given -/
theorem Txt.calD (T : Txt w K mg) (i j : Nat) {x : Str} {d : He.DefD} {N ps : List Str} {k : Nat} {sp : Sp} (hd : fn[i]? = some d := by rfl) (hj : fa[j]? = some (.glo x) := by rfl) (hx : d.at_ = (x, none) := by rfl) (hn : d.dfl ≠ [] := by exact (fun h => by cases h))
    (S : FnScope N ps d.scope) (hb : ∀ (T : Addr) (kV doc pm : Value) (an : Option Addr) (cdv ct : Value) (us its : List Value), us.length = ps.length → its.length = d.dfl.length → ∃ k, bindArgs (PySem.W.fnOf d.name d.qual d.params d.body d.scope (.ref T) kV doc pm an cdv ct) ⟨us, []⟩ = seqItems? (.ref T) >>= k ∧ k (some its.toArray) = pure (ps.zip us))
    (len : ∀ vs H Q E, sp vs H Q E → vs.length = ps.length)
    (hbody : ∀ (cdv : Value) (A : Around) (outer : List Env) (s : Shared) (H : Hp) (vs : List V) (Q : VK) (E : XK), Room k (A.deeper (envOfC d.qual d.scope s.heap.objs.size (He.fAd K d.at_) cdv)) → sp vs H Q E →
      ∃ t, PSs (cxOf C8.CX0 P w K mg base N d.qual d.scope (He.fAd K d.at_) cdv A outer s H E).nox d.body t ∧ t { nx := fun _ H' => Q .non H', rt := Q } (start N vs) H) : Cal P w K mg base (k + 1) x sp [] := by
  have ea : He.fAd K d.at_ = He.ga K x := by rw [hx]; rfl
  obtain ⟨fd, F, G⟩ := T.fnF i ea hd S len hbody
  have el : (d.dvs K).length = d.dfl.length := List.length_map _
  obtain ⟨ds, dd, b⟩ : ∃ ds, Vals [] ds ∧ Binds K fd ps ds := by
    obtain ⟨ds, dd, b⟩ := F.binds1 (ps := ps) ps.length (d.dvs K).length (fun h => hn (List.map_eq_nil_iff.mp h)) (by omega) fun T kV doc pm an cdv ct us its h1 h2 => by
      obtain ⟨k, e1, e2⟩ := hb T kV doc pm an cdv ct us its h1 (h2.trans el)
      refine ⟨k, e1, ?_⟩
      rw [e2, List.drop_of_length_le (by omega), List.append_nil]
    rw [List.drop_length] at dd
    exact ⟨ds, dd, b⟩
  exact ⟨_, fd, ps, ds, G, T.g j hj, F.kp, b, dd⟩
/-! spans read -/
abbrev hd1 (z : Str) : Str := Txt.slice z none (some 1)
abbrev tl1 (z : Str) : Str := Txt.slice z (some 1) none
def behL (y : Way) : List Str → Option (Int × Nat)
  | [] => none
  | z :: r => if hd1 (tl1 z) = "-" then none else readL y (tl1 z :: r)
def abvL (y : Way) : List Str → Option (Int × Nat)
  | [] => none
  | z :: r => if hd1 z = "+" then behL y (z :: r) else if hd1 z = "-" then readL y (z :: r) else none
def blwL (y : Way) : List Str → Option (Int × Nat)
  | [] => none
  | z :: r => if ¬ (hd1 z = "+" ∨ hd1 z = "-") then none else
    if z = "-0" ∨ z = "-0.000000" then (readL y (tl1 z :: r)).map (fun q => (0 - q.1, q.2)) else
    if hd1 z = "+" then (behL y (z :: r)).bind (fun q => if q.1 = 0 then none else some (0 - q.1, q.2)) else (readL y (z :: r)).map (fun q => (0 - q.1, q.2))
def nmdL (nm : Str) : List Str → Option (Int × Nat)
  | [] => none
  | z :: r => if z = nm then (readL .words r).map (fun q => (q.1, q.2 + 1)) else none
/-- a reader that begins at a word -/
def spRdG (K : PySem.W.Frag) (f : Way → List Str → Option (Int × Nat)) : Sp := fun vs H Q _ => ∃ (a : Addr) (ws : List Str) (i : Nat) (y : Way) (m : Int) (c : Nat), vs = [.ref a, .int i, .str y.s] ∧ SqL K H a (ws.map V.str) ∧ WsOk ws ∧ f y (ws.drop i) = some (m, c) ∧ RetT H Q [.int m, .int ((i + c : Nat) : Int)]
def spTellSpan (K : PySem.W.Frag) : Sp := fun vs H Q _ => ∃ p s a b y, vs = [.ref p, .str (Way.s y)] ∧ SpanAt K H p s a b ∧ Md s ∧ Md a ∧ Md b ∧ ∀ H', Same H H' → Q (.str (spanS y s a b)) H'
theorem cut_to {ws : List Str} {i : Nat} (h : i < ws.length) : cutV (ws.map V.str) none (some (i : Int)) = (ws.take i).map V.str := by
  unfold cutV
  rw [HT.sIx_none, HT.sIx_nat, List.length_map, Nat.min_eq_left (Nat.le_of_lt h), List.drop_zero, Nat.sub_zero, List.map_take]
theorem cut_from {ws : List Str} {i : Nat} (h : i < ws.length) : cutV (ws.map V.str) (some ((i : Int) + 1)) none = (ws.drop (i + 1)).map V.str := by
  unfold cutV
  have e : HT.sIx (ws.map V.str).length 0 (some ((i : Int) + 1)) = i + 1 := by
    have := HT.sIx_nat (ws.map V.str).length 0 (i + 1)
    rw [List.length_map, Nat.min_eq_left h] at this
    rw [List.length_map]
    exact this
  rw [e, HT.sIx_none, List.map_drop, List.length_map]
  exact List.take_of_length_le (by rw [List.length_drop, List.length_map]; exact Nat.le_refl _)
def putW (ws : List Str) (i : Nat) (b : Str) : List Str := (ws.take i ++ [b]) ++ ws.drop (i + 1)
theorem putW_drop {ws : List Str} {i : Nat} {b : Str} (h : i < ws.length) : (putW ws i b).drop i = b :: ws.drop (i + 1) := by
  unfold putW
  have e : (ws.take i).length = i := by rw [List.length_take]; exact Nat.min_eq_left (Nat.le_of_lt h)
  rw [List.append_assoc]
  have := List.drop_left (l₁ := ws.take i) (l₂ := [b] ++ ws.drop (i + 1))
  rw [e] at this
  exact this
theorem putW_ok {ws : List Str} {i : Nat} {b : Str} (h : i < ws.length) (ho : WsOk ws) (hb : b.length ≤ 600) : WsOk (putW ws i b) := by
  refine ⟨?_, fun z hz => ?_⟩
  · unfold putW
    rw [List.length_append, List.length_append, List.length_take, List.length_drop, List.length_singleton, Nat.min_eq_left (Nat.le_of_lt h)]
    have := ho.1
    omega
  · unfold putW at hz
    rcases List.mem_append.mp hz with hz | hz
    · rcases List.mem_append.mp hz with hz | hz
      · exact ho.2 z (List.mem_of_mem_take hz)
      · rw [List.mem_singleton.mp hz]; exact hb
    · exact ho.2 z (List.mem_of_mem_drop hz)
theorem putW_map {ws : List Str} {i : Nat} {b : Str} (h : i < ws.length) : (cutV (ws.map V.str) none (some (i : Int)) ++ [V.str b]) ++ cutV (ws.map V.str) (some ((i : Int) + 1)) none = (putW ws i b).map V.str := by
  rw [cut_to h, cut_from h]
  unfold putW
  rw [List.map_append, List.map_append]
  rfl
theorem putW_len {ws : List Str} {i : Nat} (h : i < ws.length) (ho : WsOk ws) (b : V) : (cutV (ws.map V.str) none (some (i : Int))).length + [b].length ≤ sizeLine ∧ (cutV (ws.map V.str) none (some (i : Int)) ++ [b]).length + (cutV (ws.map V.str) (some ((i : Int) + 1)) none).length ≤ sizeLine := by
  have h1 := cutV_length (ws.map V.str) none (some (i : Int))
  have h2 := cutV_length (ws.map V.str) (some ((i : Int) + 1)) none
  have h3 := ho.1
  rw [List.length_map] at h1 h2
  rw [List.length_append, List.length_singleton]
  exact ⟨len_sl (by omega), len_sl (by omega)⟩
theorem s_tell_span : FnScope ["span", "way"] ["span", "way"] d_tell_span.scope := ⟨rfl, rfl, rfl, by decide +kernel, rfl, by decide +kernel, by decide +kernel⟩
theorem c_tell_span (T : Txt w K mg) : Cal P w K mg base 7 "tell_span" (spTellSpan K) [] := by
  refine T.calD 48 36 (d := d_tell_span) (S := s_tell_span) (hb := fun _ _ _ _ _ _ _ us its hl hi => match us, its, hl, hi with | [_, _], [_], _, _ => ⟨_, rfl, rfl⟩) (len := fun vs H Q E h => ?_) (hbody := fun cdv A outer s H vs Q E hr h => ?_)
  · obtain ⟨p, s, a, b, y, rfl, hS, m1, m2, m3, k⟩ := h
    rfl
  · obtain ⟨p, s, a, b, y, rfl, hS, m1, m2, m3, k⟩ := h
    have clS := T.cl 118
    refine ⟨_, (pss_cons (ps_expr (pe_c (c_check_way T) hr (by decide) rfl (pa_cons (pv 1) pa_nil)))
      (pss_cons (ps_expr (pe_c (c_check_span T) hr (by decide) rfl (pa_cons (pv 0) pa_nil)))
      (pss_one (ps_ret (pe_c (c_shown_span T) hr (by decide) rfl (pa_cons (pe_fld (pv 0) rfl) (pa_cons (pe_fld (pv 0) rfl) (pa_cons (pe_fld (pv 0) rfl) (pa_cons (pv 1) pa_nil))))))))), ?_⟩
    obtain ⟨dx, hp⟩ := id hS
    refine ⟨_, rfl, y, rfl, ?_⟩
    refine ⟨_, rfl, p, s, a, b, rfl, hS, ?_⟩
    refine ⟨_, rfl, p, _, dx, _, _, rfl, hp, clS, T.na 120, rfl, _, rfl, p, _, dx, _, _, rfl, hp, clS, T.na 121, rfl, _, rfl, p, _, dx, _, _, rfl, hp, clS, T.na 122, rfl, _, rfl, ?_⟩
    exact ⟨_, _, _, y, rfl, m1, m2, m3, k⟩
theorem s_behind_plus : FnScope ["words", "at", "way", "bare"] ["words", "at", "way"] d_behind_plus.scope := ⟨rfl, rfl, rfl, by decide +kernel, rfl, by decide +kernel, by decide +kernel⟩
theorem c_behind_plus (T : Txt w K mg) : Cal P w K mg base 13 "behind_plus" (spRdG K behL) [] := by
  refine T.cal 49 37 (d := d_behind_plus) (S := s_behind_plus) (hb := fun _ _ _ _ _ _ us hl => match us, hl with | [_, _, _], _ => rfl) (len := fun vs H Q E h => ?_) (hbody := fun cdv A outer s H vs Q E hr h => ?_)
  · obtain ⟨a, ws, i, y, m, c, rfl, hS, ho, hf, k⟩ := h
    rfl
  · obtain ⟨a, ws, i, y, m, c, rfl, hS, ho, hf, k⟩ := h
    refine ⟨_, (pss_cons (ps_set (i := 3) s_behind_plus.nd rfl (Or.inl rfl) (pe_slice C8.sl_txt (pe_ix (ix_listK (K := K) rfl) (pv 0) (pv 1) (fun _ _ => rfl)) (po_some pe_int) po_none))
      (pss_cons (ps_if (pt_cmpR op_eq (pe_slice C8.sl_txt (pv 3) po_none (po_some pe_int)) pe_str (nomark _)) (pss_one ps_never) pss_nil)
      (pss_one (ps_ret (pe_c (c_read_from T) hr (by decide) rfl (pa_cons (pe_op op_cat (pe_op op_cat (pe_slice (sl_listK (K := K) rfl) (pv 0) po_none (po_some (pv 1))) (pe_lst (pa_cons (pv 3) pa_nil))) (pe_slice (sl_listK (K := K) rfl) (pv 0) (po_some (pe_op op_add (pv 1) pe_int)) po_none)) (pa_cons (pv 1) (pa_cons (pv 2) pa_nil)))))))), ?_⟩
    cases hd : ws.drop i with
    | nil => rw [hd] at hf; cases hf
    | cons z r =>
      obtain ⟨hz, hr'⟩ := drop_get hd
      rw [hd] at hf
      have hzl := ho.2 z (List.mem_of_getElem? hz)
      have hf : (if hd1 (tl1 z) = "-" then none else readL y (tl1 z :: r)) = some (m, c) := hf
      by_cases hm : hd1 (tl1 z) = "-"
      · rw [if_pos hm] at hf
        cases hf
      rw [if_neg hm] at hf
      have hb := Nat.le_trans (slice_len1 z) hzl
      refine ⟨_, rfl, _, rfl, _, _, _, _, rfl, rfl, hS, at_words hz, ?_⟩
      refine ⟨_, rfl, z, rfl, len_sl (by omega), ?_⟩
      refine ⟨_, rfl, _, rfl, tl1 z, rfl, len_sl (Nat.le_trans hb (by decide)), rfl, _, rfl, ?_⟩
      refine bool_of_false (fun h => hm (by injection h)) ?_
      have hi := (List.getElem?_eq_some_iff.mp hz).1
      obtain ⟨q1, q2⟩ := putW_len hi ho (.str (tl1 z))
      refine ⟨_, rfl, _, rfl, _, rfl, a, _, rfl, hS, fun p1 hp1 => ⟨_, rfl, sz1, fun p2 hp2 => ⟨p1, p2, _, _, rfl, rfl, (same_new hp2) _ _ upd_same, upd_same, q1, fun p3 hp3 => ?_⟩⟩⟩
      have s3 := ((same_new (o := .lst (cutV (ws.map V.str) none (some (i : Int)))) hp1).trans (same_new (o := .lst [.str (tl1 z)]) hp2)).trans (same_new (o := .lst (cutV (ws.map V.str) none (some (i : Int)) ++ [.str (tl1 z)])) hp3)
      refine ⟨_, rfl, _, rfl, _, _, rfl, rfl, _, rfl, a, _, rfl, Same.seq s3 hS, fun p4 hp4 => ⟨p3, p4, _, _, rfl, rfl, (same_new hp4) _ _ upd_same, upd_same, q2, fun p5 hp5 => ?_⟩⟩
      have s5 := (s3.trans (same_new (o := .lst (cutV (ws.map V.str) (some ((i : Int) + 1)) none)) hp4)).trans (same_new (o := .lst ((cutV (ws.map V.str) none (some (i : Int)) ++ [.str (tl1 z)]) ++ cutV (ws.map V.str) (some ((i : Int) + 1)) none)) hp5)
      refine ⟨_, rfl, _, rfl, p5, putW ws i (tl1 z), i, y, m, c, rfl, SqL.of (upd_same.trans (by rw [putW_map hi])), putW_ok hi ho hb, by rw [putW_drop hi, hr']; exact hf, k.mono s5⟩
theorem s_above_from : FnScope ["words", "at", "way", "word"] ["words", "at", "way"] d_above_from.scope := ⟨rfl, rfl, rfl, by decide +kernel, rfl, by decide +kernel, by decide +kernel⟩
theorem c_above_from (T : Txt w K mg) : Cal P w K mg base 14 "above_from" (spRdG K abvL) [] := by
  refine T.cal 50 38 (d := d_above_from) (S := s_above_from) (hb := fun _ _ _ _ _ _ us hl => match us, hl with | [_, _, _], _ => rfl) (len := fun vs H Q E h => ?_) (hbody := fun cdv A outer s H vs Q E hr h => ?_)
  · obtain ⟨a, ws, i, y, m, c, rfl, hS, ho, hf, k⟩ := h
    rfl
  · obtain ⟨a, ws, i, y, m, c, rfl, hS, ho, hf, k⟩ := h
    refine ⟨_, (pss_cons (ps_set (i := 3) s_above_from.nd rfl (Or.inl rfl) (pe_c (c_word_at T) hr (by decide) rfl (pa_cons (pv 0) (pa_cons (pv 1) pa_nil))))
      (pss_cons (ps_if (pt_cmpR op_eq (pe_slice C8.sl_txt (pv 3) po_none (po_some pe_int)) pe_str (nomark _)) (pss_one (ps_ret (pe_c (c_behind_plus T) hr (by decide) rfl (pa_cons (pv 0) (pa_cons (pv 1) (pa_cons (pv 2) pa_nil)))))) pss_nil)
      (pss_cons (ps_if (pt_cmpR op_ne (pe_slice C8.sl_txt (pv 3) po_none (po_some pe_int)) pe_str (nomark _)) (pss_one ps_never) pss_nil)
      (pss_one (ps_ret (pe_c (c_read_from T) hr (by decide) rfl (pa_cons (pv 0) (pa_cons (pv 1) (pa_cons (pv 2) pa_nil))))))))), ?_⟩
    cases hd : ws.drop i with
    | nil => rw [hd] at hf; cases hf
    | cons z r =>
      obtain ⟨hz, hr'⟩ := drop_get hd
      rw [hd] at hf
      have hzl := ho.2 z (List.mem_of_getElem? hz)
      have hf : (if hd1 z = "+" then behL y (z :: r) else if hd1 z = "-" then readL y (z :: r) else none) = some (m, c) := hf
      refine ⟨_, rfl, _, rfl, a, ws, i, z, rfl, hS, hz, ?_⟩
      refine ⟨_, rfl, _, rfl, z, rfl, len_sl (by omega), rfl, _, rfl, ?_⟩
      by_cases hp : hd1 z = "+"
      · rw [if_pos hp] at hf
        refine bool_of_true (congrArg V.str hp) ?_
        exact ⟨_, rfl, _, rfl, _, rfl, a, ws, i, y, m, c, rfl, hS, ho, by rw [hd]; exact hf, k⟩
      · rw [if_neg hp] at hf
        refine bool_of_false (fun e => hp (by injection e)) ?_
        by_cases hm : hd1 z = "-"
        · rw [if_pos hm] at hf
          refine ⟨_, rfl, _, rfl, z, rfl, len_sl (by omega), rfl, _, rfl, ?_⟩
          rw [decide_eq_true (congrArg V.str hm)]
          exact ⟨_, rfl, _, rfl, _, rfl, a, ws, i, y, m, c, rfl, hS, ho, by rw [hd]; exact hf, k⟩
        · rw [if_neg hm] at hf
          cases hf
theorem s_below_from : FnScope ["words", "at", "way", "word", "found", "behind"] ["words", "at", "way"] d_below_from.scope := ⟨rfl, rfl, rfl, by decide +kernel, rfl, by decide +kernel, by decide +kernel⟩
theorem c_below_from (T : Txt w K mg) : Cal P w K mg base 14 "below_from" (spRdG K blwL) [] := by
  refine T.cal 51 39 (d := d_below_from) (S := s_below_from) (hb := fun _ _ _ _ _ _ us hl => match us, hl with | [_, _, _], _ => rfl) (len := fun vs H Q E h => ?_) (hbody := fun cdv A outer s H vs Q E hr h => ?_)
  · obtain ⟨a, ws, i, y, m, c, rfl, hS, ho, hf, k⟩ := h
    rfl
  · obtain ⟨a, ws, i, y, m, c, rfl, hS, ho, hf, k⟩ := h
    refine ⟨_, (pss_cons (ps_set (i := 3) s_below_from.nd rfl (Or.inl rfl) (pe_c (c_word_at T) hr (by decide) rfl (pa_cons (pv 0) (pa_cons (pv 1) pa_nil))))
      (pss_cons (ps_if (pt_cmpR (op_notIn_seqK (K := K) rfl) (pe_slice C8.sl_txt (pv 3) po_none (po_some pe_int)) (pe_tup (pa_cons pe_str (pa_cons pe_str pa_nil))) (by rfl)) (pss_one ps_never) pss_nil)
      (C8.pss_cut (ps_if (pt_cmpR (op_in_seqK (K := K) rfl) (pv 3) (pe_tup (pa_cons pe_str (pa_cons pe_str pa_nil))) (by rfl)) (pss_one (ps_asg (pe_c (c_read_from T) hr (by decide) rfl (pa_cons (pe_op op_cat (pe_op op_cat (pe_slice (sl_listK (K := K) rfl) (pv 0) po_none (po_some (pv 1))) (pe_lst (pa_cons (pe_slice C8.sl_txt (pv 3) (po_some pe_int) po_none) pa_nil))) (pe_slice (sl_listK (K := K) rfl) (pv 0) (po_some (pe_op op_add (pv 1) pe_int)) po_none)) (pa_cons (pv 1) (pa_cons (pv 2) pa_nil)))) (pg_tup rfl (pgs_cons (pg_name (i := 4) s_below_from.nd rfl (Or.inl rfl)) (pgs_cons (pg_name (i := 5) s_below_from.nd rfl (Or.inl rfl)) pgs_nil))))) (pss_one (ps_if (pt_cmpR op_eq (pe_slice C8.sl_txt (pv 3) po_none (po_some pe_int)) pe_str (nomark _)) (pss_cons (ps_asg (pe_c (c_behind_plus T) hr (by decide) rfl (pa_cons (pv 0) (pa_cons (pv 1) (pa_cons (pv 2) pa_nil)))) (pg_tup rfl (pgs_cons (pg_name (i := 4) s_below_from.nd rfl (Or.inl rfl)) (pgs_cons (pg_name (i := 5) s_below_from.nd rfl (Or.inl rfl)) pgs_nil))))
          (pss_one (ps_if (pt_cmpR op_eq (pv 4) pe_int (nomark _)) (pss_one ps_never) pss_nil))) (pss_one (ps_asg (pe_c (c_read_from T) hr (by decide) rfl (pa_cons (pv 0) (pa_cons (pv 1) (pa_cons (pv 2) pa_nil)))) (pg_tup rfl (pgs_cons (pg_name (i := 4) s_below_from.nd rfl (Or.inl rfl)) (pgs_cons (pg_name (i := 5) s_below_from.nd rfl (Or.inl rfl)) pgs_nil))))))))
      (pss_one (ps_ret (pe_tup (pa_cons (pe_op op_sub pe_int (pv 4)) (pa_cons (pv 5) pa_nil)))))))), ?_⟩
    cases hd : ws.drop i with
    | nil => rw [hd] at hf; cases hf
    | cons z r =>
      obtain ⟨hz, hr'⟩ := drop_get hd
      rw [hd] at hf
      have hzl := ho.2 z (List.mem_of_getElem? hz)
      have hi := (List.getElem?_eq_some_iff.mp hz).1
      have hb : (tl1 z).length ≤ 600 := Nat.le_trans (slice_len1 z) hzl
      have hf : (if ¬ (hd1 z = "+" ∨ hd1 z = "-") then none else
        if z = "-0" ∨ z = "-0.000000" then (readL y (tl1 z :: r)).map (fun q => (0 - q.1, q.2)) else
        if hd1 z = "+" then (behL y (z :: r)).bind (fun q => if q.1 = 0 then none else some (0 - q.1, q.2)) else (readL y (z :: r)).map (fun q => (0 - q.1, q.2))) = some (m, c) := hf
      by_cases h0 : hd1 z = "+" ∨ hd1 z = "-"
      case neg => rw [if_pos h0] at hf; cases hf
      rw [if_neg (fun q => q h0)] at hf
      refine ⟨_, rfl, _, rfl, a, ws, i, z, rfl, hS, hz, ?_⟩
      refine ⟨_, rfl, _, rfl, z, rfl, len_sl (by omega), sz2, fun p hp => ⟨p, _, rfl, Or.inr (SqT.of upd_same), rfl, rfl, _, rfl, ?_⟩⟩
      have e0 : inV (.str (hd1 z)) [V.str "+", V.str "-"] = true := (inV_strs (hd1 z) ["+", "-"]).trans (decide_eq_true (by
        rcases h0 with h | h
        · rw [h]; exact List.mem_cons_self ..
        · rw [h]; exact List.mem_cons_of_mem _ (List.mem_cons_self ..)))
      rw [e0]
      refine iteF ?_
      have sp := same_new (o := .tup [.str "+", .str "-"]) hp
      refine ⟨fun σ' H' => ∃ fo : Int, σ' = [some (.ref a), some (.int i), some (.str y.s), some (.str z), some (.int fo), some (.int ((i + c : Nat) : Int))] ∧ Same H H' ∧ m = 0 - fo, ?_, ?_⟩
      · refine ⟨_, rfl, sz2, fun t ht => ⟨t, _, rfl, Or.inr (SqT.of upd_same), rfl, rfl, _, rfl, ?_⟩⟩
        have st := sp.trans (same_new (o := .tup [.str "-0", .str "-0.000000"]) ht)
        have e1 : inV (.str z) [V.str "-0", V.str "-0.000000"] = decide (z = "-0" ∨ z = "-0.000000") := (inV_strs z ["-0", "-0.000000"]).trans (decide_eq_decide.mpr (by
          rw [List.mem_cons, List.mem_singleton]))
        rw [e1]
        by_cases hz0 : z = "-0" ∨ z = "-0.000000"
        · rw [if_pos hz0] at hf
          rw [decide_eq_true hz0]
          refine iteT ?_
          cases hr2 : readL y (tl1 z :: r) with
          | none => rw [hr2] at hf; cases hf
          | some q =>
            obtain ⟨m', c'⟩ := q
            rw [hr2] at hf
            cases hf
            obtain ⟨q1, q2⟩ := putW_len hi ho (.str (tl1 z))
            refine ⟨_, rfl, _, rfl, _, rfl, a, _, rfl, Same.seq st hS, fun p1 hp1 => ⟨_, rfl, _, rfl, z, rfl, len_sl (by omega), sz1, fun p2 hp2 => ⟨p1, p2, _, _, rfl, rfl, (same_new hp2) _ _ upd_same, upd_same, q1, fun p3 hp3 => ?_⟩⟩⟩
            have s3 := st.trans (((same_new (o := .lst (cutV (ws.map V.str) none (some (i : Int)))) hp1).trans (same_new (o := .lst [.str (tl1 z)]) hp2)).trans (same_new (o := .lst (cutV (ws.map V.str) none (some (i : Int)) ++ [.str (tl1 z)])) hp3))
            refine ⟨_, rfl, _, rfl, _, _, rfl, rfl, _, rfl, a, _, rfl, Same.seq s3 hS, fun p4 hp4 => ⟨p3, p4, _, _, rfl, rfl, (same_new hp4) _ _ upd_same, upd_same, q2, fun p5 hp5 => ?_⟩⟩
            have s5 := (s3.trans (same_new (o := .lst (cutV (ws.map V.str) (some ((i : Int) + 1)) none)) hp4)).trans (same_new (o := .lst ((cutV (ws.map V.str) none (some (i : Int)) ++ [.str (tl1 z)]) ++ cutV (ws.map V.str) (some ((i : Int) + 1)) none)) hp5)
            refine ⟨_, rfl, _, rfl, p5, putW ws i (tl1 z), i, y, m', _, rfl, SqL.of (upd_same.trans (by rw [putW_map hi])), putW_ok hi ho hb, by rw [putW_drop hi, hr']; exact hr2, fun t2 H6 ht2 s6 h6 => ?_⟩
            exact ⟨t2, _, rfl, SqT.of h6, rfl, _, _, rfl, _, _, rfl, rfl, m', rfl, s5.trans s6, rfl⟩
        · rw [if_neg hz0] at hf
          rw [decide_eq_false hz0]
          refine iteF ?_
          refine ⟨_, rfl, _, rfl, z, rfl, len_sl (by omega), rfl, _, rfl, ?_⟩
          by_cases hp1 : hd1 z = "+"
          · rw [if_pos hp1] at hf
            refine bool_of_true (congrArg V.str hp1) ?_
            cases hr2 : behL y (z :: r) with
            | none => rw [hr2] at hf; cases hf
            | some q =>
              obtain ⟨m', c'⟩ := q
              rw [hr2] at hf
              have hf : (if m' = 0 then none else some (0 - m', c')) = some (m, c) := hf
              by_cases hm0 : m' = 0
              · rw [if_pos hm0] at hf; cases hf
              rw [if_neg hm0] at hf
              cases hf
              refine ⟨_, rfl, _, rfl, _, rfl, a, ws, i, y, m', _, rfl, Same.seq st hS, ho, by rw [hd]; exact hr2, fun t2 H6 ht2 s6 h6 => ?_⟩
              refine ⟨t2, _, rfl, SqT.of h6, rfl, _, _, rfl, _, _, rfl, rfl, ?_⟩
              refine ⟨_, rfl, rfl, _, rfl, ?_⟩
              refine bool_of_false (fun e => hm0 (by injection e)) ?_
              exact ⟨m', rfl, st.trans s6, rfl⟩
          · rw [if_neg hp1] at hf
            refine bool_of_false (fun e => hp1 (by injection e)) ?_
            cases hr2 : readL y (z :: r) with
            | none => rw [hr2] at hf; cases hf
            | some q =>
              obtain ⟨m', c'⟩ := q
              rw [hr2] at hf
              cases hf
              refine ⟨_, rfl, _, rfl, _, rfl, a, ws, i, y, m', _, rfl, Same.seq st hS, ho, by rw [hd]; exact hr2, fun t2 H6 ht2 s6 h6 => ?_⟩
              exact ⟨t2, _, rfl, SqT.of h6, rfl, _, _, rfl, _, _, rfl, rfl, m', rfl, st.trans s6, rfl⟩
      · rintro σ' H' ⟨fo, rfl, s, rfl⟩
        exact ⟨_, rfl, _, _, rfl, rfl, _, rfl, sz2, fun q hq => k q _ (s.free hq) (s.trans (same_new hq)) upd_same⟩
theorem s_named_from : FnScope ["words", "at", "name"] ["words", "at", "name"] d_named_from.scope := ⟨rfl, rfl, rfl, by decide +kernel, rfl, by decide +kernel, by decide +kernel⟩
theorem c_named_from (T : Txt w K mg) : Cal P w K mg base 13 "named_from" (fun vs H Q _ => ∃ (a : Addr) (ws : List Str) (i : Nat) (nm : Str) (m : Int) (c : Nat), vs = [.ref a, .int i, .str nm] ∧ SqL K H a (ws.map V.str) ∧ WsOk ws ∧ nmdL nm (ws.drop i) = some (m, c) ∧ RetT H Q [.int m, .int ((i + c : Nat) : Int)]) [] := by
  refine T.cal 52 40 (d := d_named_from) (S := s_named_from) (hb := fun _ _ _ _ _ _ us hl => match us, hl with | [_, _, _], _ => rfl) (len := fun vs H Q E h => ?_) (hbody := fun cdv A outer s H vs Q E hr h => ?_)
  · obtain ⟨a, ws, i, nm, m, c, rfl, hS, ho, hf, k⟩ := h
    rfl
  · obtain ⟨a, ws, i, nm, m, c, rfl, hS, ho, hf, k⟩ := h
    refine ⟨_, (pss_cons (ps_if (pt_cmpR op_ne (pe_c (c_word_at T) hr (by decide) rfl (pa_cons (pv 0) (pa_cons (pv 1) pa_nil))) (pv 2) (nomark _)) (pss_one ps_never) pss_nil)
      (pss_one (ps_ret (pe_c (c_read_from T) hr (by decide) rfl (pa_cons (pv 0) (pa_cons (pe_op op_add (pv 1) pe_int) (pa_cons pe_str pa_nil))))))), ?_⟩
    cases hd : ws.drop i with
    | nil => rw [hd] at hf; cases hf
    | cons z r =>
      obtain ⟨hz, hr'⟩ := drop_get hd
      rw [hd] at hf
      have hf : (if z = nm then (readL .words r).map (fun q => (q.1, q.2 + 1)) else none) = some (m, c) := hf
      by_cases hn : z = nm
      case neg => rw [if_neg hn] at hf; cases hf
      rw [if_pos hn] at hf
      cases hr2 : readL .words r with
      | none => rw [hr2] at hf; cases hf
      | some q =>
        obtain ⟨m', c'⟩ := q
        rw [hr2] at hf
        cases hf
        refine ⟨_, rfl, _, rfl, a, ws, i, z, rfl, hS, hz, _, rfl, rfl, _, rfl, ?_⟩
        rw [decide_eq_true (congrArg V.str hn)]
        refine iteF ?_
        refine ⟨_, rfl, _, rfl, _, _, rfl, rfl, a, ws, i + 1, .words, _, c', rfl, hS, ho, by rw [hr']; exact hr2, ?_⟩
        have e : ((i + 1 + c' : Nat) : Int) = ((i + (c' + 1) : Nat) : Int) := by omega
        rw [e]
        exact k
def parL (y : Way) (ws : List Str) : Option (Int × Int × Int × Nat) := (readL y ws).bind fun q1 =>
  if y = .words then (nmdL "above" (ws.drop q1.2)).bind fun q2 => (nmdL "below" (ws.drop (q1.2 + q2.2))).map fun q3 => (q1.1, q2.1, q3.1, q1.2 + q2.2 + q3.2)
  else (abvL y (ws.drop q1.2)).bind fun q2 => (blwL y (ws.drop (q1.2 + q2.2))).map fun q3 => (q1.1, q2.1, q3.1, q1.2 + q2.2 + q3.2)
theorem s_parts_from : FnScope ["words", "way", "size", "at", "above", "below"] ["words", "way"] d_parts_from.scope := ⟨rfl, rfl, rfl, by decide +kernel, rfl, by decide +kernel, by decide +kernel⟩
theorem c_parts_from (T : Txt w K mg) : Cal P w K mg base 15 "parts_from" (fun vs H Q _ => ∃ (a : Addr) (ws : List Str) (y : Way) (m1 m2 m3 : Int) (c : Nat), vs = [.ref a, .str y.s] ∧ SqL K H a (ws.map V.str) ∧ WsOk ws ∧ parL y ws = some (m1, m2, m3, c) ∧ RetT H Q [.int m1, .int m2, .int m3, .int (c : Int)]) [] := by
  refine T.cal 53 41 (d := d_parts_from) (S := s_parts_from) (hb := fun _ _ _ _ _ _ us hl => match us, hl with | [_, _], _ => rfl) (len := fun vs H Q E h => ?_) (hbody := fun cdv A outer s H vs Q E hr h => ?_)
  · obtain ⟨a, ws, y, m1, m2, m3, c, rfl, hS, ho, hf, k⟩ := h
    rfl
  · obtain ⟨a, ws, y, m1, m2, m3, c, rfl, hS, ho, hf, k⟩ := h
    refine ⟨_, (pss_cons (ps_asg (pe_c (c_read_from T) hr (by decide) rfl (pa_cons (pv 0) (pa_cons pe_int (pa_cons (pv 1) pa_nil)))) (pg_tup rfl (pgs_cons (pg_name (i := 2) s_parts_from.nd rfl (Or.inl rfl)) (pgs_cons (pg_name (i := 3) s_parts_from.nd rfl (Or.inl rfl)) pgs_nil))))
      (C8.pss_cut (ps_if (pt_cmpR op_eq (pv 1) pe_str (nomark _)) (pss_cons (ps_asg (pe_c (c_named_from T) hr (by decide) rfl (pa_cons (pv 0) (pa_cons (pv 3) (pa_cons pe_str pa_nil)))) (pg_tup rfl (pgs_cons (pg_name (i := 4) s_parts_from.nd rfl (Or.inl rfl)) (pgs_cons (pg_name (i := 3) s_parts_from.nd rfl (Or.inl rfl)) pgs_nil))))
        (pss_one (ps_asg (pe_c (c_named_from T) hr (by decide) rfl (pa_cons (pv 0) (pa_cons (pv 3) (pa_cons pe_str pa_nil)))) (pg_tup rfl (pgs_cons (pg_name (i := 5) s_parts_from.nd rfl (Or.inl rfl)) (pgs_cons (pg_name (i := 3) s_parts_from.nd rfl (Or.inl rfl)) pgs_nil)))))) (pss_cons (ps_asg (pe_c (c_above_from T) hr (by decide) rfl (pa_cons (pv 0) (pa_cons (pv 3) (pa_cons (pv 1) pa_nil)))) (pg_tup rfl (pgs_cons (pg_name (i := 4) s_parts_from.nd rfl (Or.inl rfl)) (pgs_cons (pg_name (i := 3) s_parts_from.nd rfl (Or.inl rfl)) pgs_nil))))
        (pss_one (ps_asg (pe_c (c_below_from T) hr (by decide) rfl (pa_cons (pv 0) (pa_cons (pv 3) (pa_cons (pv 1) pa_nil)))) (pg_tup rfl (pgs_cons (pg_name (i := 5) s_parts_from.nd rfl (Or.inl rfl)) (pgs_cons (pg_name (i := 3) s_parts_from.nd rfl (Or.inl rfl)) pgs_nil)))))))
      (pss_one (ps_ret (pe_tup (pa_cons (pv 2) (pa_cons (pv 4) (pa_cons (pv 5) (pa_cons (pv 3) pa_nil))))))))), ?_⟩
    unfold parL at hf
    cases h1 : readL y ws with
    | none => rw [h1] at hf; cases hf
    | some q1 =>
      obtain ⟨n1, c1⟩ := q1
      rw [h1] at hf
      refine ⟨_, rfl, _, rfl, a, ws, 0, y, n1, c1, rfl, hS, ho, h1, fun t H1 ht s1 g1 => ?_⟩
      rw [Nat.zero_add] at g1
      refine ⟨t, _, rfl, SqT.of g1, rfl, _, _, rfl, _, _, rfl, rfl, ?_⟩
      refine ⟨fun σ' H' => σ' = [some (.ref a), some (.str y.s), some (.int m1), some (.int (c : Int)), some (.int m2), some (.int m3)] ∧ Same H H', ?_, ?_⟩
      · refine ⟨_, rfl, rfl, _, rfl, ?_⟩
        rw [way_words]
        by_cases hy : y = .words
        · have hf : (if y = .words then (nmdL "above" (ws.drop c1)).bind fun q2 => (nmdL "below" (ws.drop (c1 + q2.2))).map fun q3 => (n1, q2.1, q3.1, c1 + q2.2 + q3.2)
            else (abvL y (ws.drop c1)).bind fun q2 => (blwL y (ws.drop (c1 + q2.2))).map fun q3 => (n1, q2.1, q3.1, c1 + q2.2 + q3.2)) = some (m1, m2, m3, c) := hf
          rw [if_pos hy] at hf
          rw [decide_eq_true hy]
          refine iteT ?_
          cases h2 : nmdL "above" (ws.drop c1) with
          | none => rw [h2] at hf; cases hf
          | some q2 =>
            obtain ⟨n2, c2⟩ := q2
            rw [h2] at hf
            have hf : (nmdL "below" (ws.drop (c1 + c2))).map (fun q3 => (n1, n2, q3.1, c1 + c2 + q3.2)) = some (m1, m2, m3, c) := hf
            cases h3 : nmdL "below" (ws.drop (c1 + c2)) with
            | none => rw [h3] at hf; cases hf
            | some q3 =>
              obtain ⟨n3, c3⟩ := q3
              rw [h3] at hf
              cases hf
              refine ⟨_, rfl, _, rfl, a, ws, c1, "above", _, c2, rfl, Same.seq s1 hS, ho, h2, fun t2 H2 ht2 s2 g2 => ?_⟩
              refine ⟨t2, _, rfl, SqT.of g2, rfl, _, _, rfl, _, _, rfl, rfl, ?_⟩
              refine ⟨_, rfl, _, rfl, a, ws, c1 + c2, "below", _, c3, rfl, Same.seq (s1.trans s2) hS, ho, h3, fun t3 H3 ht3 s3 g3 => ?_⟩
              exact ⟨t3, _, rfl, SqT.of g3, rfl, _, _, rfl, _, _, rfl, rfl, rfl, s1.trans (s2.trans s3)⟩
        · have hf : (if y = .words then (nmdL "above" (ws.drop c1)).bind fun q2 => (nmdL "below" (ws.drop (c1 + q2.2))).map fun q3 => (n1, q2.1, q3.1, c1 + q2.2 + q3.2)
            else (abvL y (ws.drop c1)).bind fun q2 => (blwL y (ws.drop (c1 + q2.2))).map fun q3 => (n1, q2.1, q3.1, c1 + q2.2 + q3.2)) = some (m1, m2, m3, c) := hf
          rw [if_neg hy] at hf
          rw [decide_eq_false hy]
          refine iteF ?_
          cases h2 : abvL y (ws.drop c1) with
          | none => rw [h2] at hf; cases hf
          | some q2 =>
            obtain ⟨n2, c2⟩ := q2
            rw [h2] at hf
            have hf : (blwL y (ws.drop (c1 + c2))).map (fun q3 => (n1, n2, q3.1, c1 + c2 + q3.2)) = some (m1, m2, m3, c) := hf
            cases h3 : blwL y (ws.drop (c1 + c2)) with
            | none => rw [h3] at hf; cases hf
            | some q3 =>
              obtain ⟨n3, c3⟩ := q3
              rw [h3] at hf
              cases hf
              refine ⟨_, rfl, _, rfl, _, rfl, a, ws, c1, y, _, c2, rfl, Same.seq s1 hS, ho, h2, fun t2 H2 ht2 s2 g2 => ?_⟩
              refine ⟨t2, _, rfl, SqT.of g2, rfl, _, _, rfl, _, _, rfl, rfl, ?_⟩
              refine ⟨_, rfl, _, rfl, _, rfl, a, ws, c1 + c2, y, _, c3, rfl, Same.seq (s1.trans s2) hS, ho, h3, fun t3 H3 ht3 s3 g3 => ?_⟩
              exact ⟨t3, _, rfl, SqT.of g3, rfl, _, _, rfl, _, _, rfl, rfl, rfl, s1.trans (s2.trans s3)⟩
      · rintro σ' H' ⟨rfl, s⟩
        exact ⟨_, rfl, _, rfl, _, rfl, _, rfl, sz4, fun q hq => k q _ (s.free hq) (s.trans (same_new hq)) upd_same⟩
end
end Fw
set_option Elab.async false
set_option linter.all false
set_option maxRecDepth 100000
set_option maxHeartbeats 4000000
namespace Fw
open PySem PySem.Spec PyProof.Rows L2
open C8 (Cal CalAt Met Mak pe_c pe_mk pe_mt pe_mt0 pe_gc InsC call_isC)

section
variable {P : Program} {w : World} {K : PySem.W.Frag} {mg : Str → Option Value} {base : Heap}

def SpLn (y : Way) (x : Str) (p : Par) : Prop := x.length ≤ 600000 ∧ WsOk (Txt.split x " ") ∧ parL y (Txt.split x " ") = some (p.1, p.2.1, p.2.2, (Txt.split x " ").length) ∧ 0 ≤ p.2.1 + p.2.2
theorem s_read_span : FnScope ["text", "way", "words", "size", "above", "below", "behind"] ["text", "way"] d_read_span.scope := ⟨rfl, rfl, rfl, by decide +kernel, rfl, by decide +kernel, by decide +kernel⟩
theorem c_read_span (T : Txt w K mg) : Cal P w K mg base 16 "read_span" (fun vs H Q _ => ∃ x y p, vs = [.str x, .str (Way.s y)] ∧ SpLn y x p ∧ RetS K H p.1 p.2.1 p.2.2 Q) [] := by
  refine T.calD 54 42 (d := d_read_span) (S := s_read_span) (hb := fun _ _ _ _ _ _ _ us its hl hi => match us, its, hl, hi with | [_, _], [_], _, _ => ⟨_, rfl, rfl⟩) (len := fun vs H Q E h => ?_) (hbody := fun cdv A outer s H vs Q E hr h => ?_)
  · obtain ⟨x, y, p, rfl, ⟨hx, ho, hp, hab⟩, k⟩ := h
    rfl
  · obtain ⟨x, y, p, rfl, ⟨hx, ho, hp, hab⟩, k⟩ := h
    refine ⟨_, (pss_cons (ps_expr (pe_c (c_check_way T) hr (by decide) rfl (pa_cons (pv 1) pa_nil)))
      (pss_cons (ps_if (pt_not (pt_val (pe_callB (id := "isinstance") call_isi (by rfl) (T.f 103) (by decide +kernel) (pa_cons (pv 0) (pa_cons (pe_bltn (v := .ty "str") (by rfl) (T.f 109) (by decide +kernel) rfl) pa_nil))))) (pss_one ps_never) pss_nil)
      (pss_cons (ps_set (i := 2) s_read_span.nd rfl (Or.inl rfl) (pe_split (pv 0) pe_str))
      (pss_cons (ps_asg (pe_c (c_parts_from T) hr (by decide) rfl (pa_cons (pv 2) (pa_cons (pv 1) pa_nil))) (pg_tup rfl (pgs_cons (pg_name (i := 3) s_read_span.nd rfl (Or.inl rfl)) (pgs_cons (pg_name (i := 4) s_read_span.nd rfl (Or.inl rfl)) (pgs_cons (pg_name (i := 5) s_read_span.nd rfl (Or.inl rfl)) (pgs_cons (pg_name (i := 6) s_read_span.nd rfl (Or.inl rfl)) pgs_nil))))))
      (pss_cons (ps_if (pt_cmpR op_lt (pv 6) (pe_callB (id := "len") (call_len_seqK (K := K) rfl) (by rfl) (T.f 104) (by decide +kernel) (pa_cons (pv 2) pa_nil)) (nomark _)) (pss_one ps_never) pss_nil)
      (pss_one (ps_ret (pe_mk (m_Span3 T) hr (by decide) rfl (pa_cons (pv 3) (pa_cons (pv 4) (pa_cons (pv 5) pa_nil))))))))))), ?_⟩
    refine ⟨_, rfl, y, rfl, ?_⟩
    refine ⟨_, rfl, .str x, .ty "str", .type "str", .type "str", true, rfl, .ty "str", .base (.str _), kit_ty (by decide +kernel), true, rfl, ?_⟩
    refine ⟨_, rfl, ⟨_, rfl⟩, _, _, rfl, rfl, rfl, Nat.le_trans (by omega : _ ≤ 700000) (by decide), fun l hl => ?_⟩
    have sl := same_new (o := .lst ((Txt.split x " ").map V.str)) hl
    refine ⟨_, rfl, _, rfl, l, _, y, _, _, _, _, rfl, SqL.of upd_same, ho, hp, fun t H1 ht s1 g1 => ?_⟩
    refine ⟨t, _, rfl, SqT.of g1, rfl, _, _, rfl, _, _, rfl, _, _, rfl, _, _, rfl, rfl, ?_⟩
    refine ⟨_, rfl, _, rfl, _, _, rfl, Or.inl (Same.seq s1 (SqL.of upd_same)), _, _, rfl, rfl, _, rfl, ?_⟩
    rw [List.length_map]
    refine bool_of_false (by omega) ?_
    refine ⟨_, rfl, _, rfl, _, rfl, ?_⟩
    intro x0 dx0 hx0 hdx0 hne0
    have sA : Same H H1 := sl.trans s1
    exact mkS hab (fun q H' hq s h => k q H' (sA.free hq) (sA.trans s) h) x0 dx0 hx0 hdx0 hne0
/-- words that are told as a text and read again -/
def SbLn (y : Way) (ws : List Str) (p : Par) : Prop := (ws.map (·.length)).sum + ws.length * 1 ≤ 16777216 ∧ SpLn y (Txt.join " " ws) p
theorem s_span_behind : FnScope ["words", "number", "way", "span"] ["words", "number", "way"] d_span_behind.scope := ⟨rfl, rfl, rfl, by decide +kernel, rfl, by decide +kernel, by decide +kernel⟩
theorem c_span_behind (T : Txt w K mg) : Cal P w K mg base 17 "span_behind" (fun vs H Q _ => ∃ (a : Addr) (ws : List Str) (k0 : Int) (y : Way) (p : Par), vs = [.ref a, .int k0, .str (Way.s y)] ∧ SqL K H a (ws.map V.str) ∧ SbLn y ws p ∧ RetS K H p.1 p.2.1 p.2.2 Q) [] := by
  refine T.cal 61 49 (d := d_span_behind) (S := s_span_behind) (hb := fun _ _ _ _ _ _ us hl => match us, hl with | [_, _, _], _ => rfl) (len := fun vs H Q E h => ?_) (hbody := fun cdv A outer s H vs Q E hr h => ?_)
  · obtain ⟨a, ws, k0, y, p, rfl, hS, ⟨hz, hp⟩, k⟩ := h
    rfl
  · obtain ⟨a, ws, k0, y, p, rfl, hS, ⟨hz, hp⟩, k⟩ := h
    refine ⟨_, (pss_cons (ps_try_thru0 (pss_one (ps_set (i := 3) s_span_behind.nd rfl (Or.inl rfl) (pe_c (c_read_span T) hr (by decide) rfl (pa_cons (pe_join pe_str (pv 0)) (pa_cons (pv 2) pa_nil))))))
      (pss_one (ps_ret (pv 3)))), ?_⟩
    exact ⟨⟨_, rfl⟩, _, rfl, " ", a, ws, rfl, rfl, Or.inl hS, hz, _, rfl, _, y, p, rfl, hp, fun sp H1 hsp s1 h => ⟨_, rfl, k sp H1 hsp s1 h⟩⟩
abbrev lst1 (z : Str) : Str := Txt.slice z (some (-1)) none
abbrev but1 (z : Str) : Str := Txt.slice z none (some (-1))
theorem s_is_mark_line : FnScope ["words"] ["words"] d_is_mark_line.scope := ⟨rfl, rfl, rfl, by decide +kernel, rfl, by decide +kernel, by decide +kernel⟩
theorem c_is_mark_line (T : Txt w K mg) : Cal P w K mg base 1 "is_mark_line" (fun vs H Q _ => ∃ (a : Addr) (ws : List Str) (w1 w2 : Str), vs = [.ref a] ∧ SqL K H a (ws.map V.str) ∧ 3 < ws.length ∧ ws[1]? = some w1 ∧ ws[2]? = some w2 ∧ w2.length ≤ 600 ∧ Q (.bl (decide (w1 = "from") && decide (lst1 w2 = ":"))) H) [] := by
  refine T.cal 62 50 (d := d_is_mark_line) (S := s_is_mark_line) (hb := fun _ _ _ _ _ _ us hl => match us, hl with | [_], _ => rfl) (len := fun vs H Q E h => ?_) (hbody := fun cdv A outer s H vs Q E hr h => ?_)
  · obtain ⟨a, ws, w1, w2, rfl, hS, hl, h1, h2, hw, k⟩ := h
    rfl
  · obtain ⟨a, ws, w1, w2, rfl, hS, hl, h1, h2, hw, k⟩ := h
    refine ⟨_, (pss_one (ps_ret (pe_and (pe_cmpR op_gt (pe_callB (id := "len") (call_len_seqK (K := K) rfl) (by rfl) (T.f 104) (by decide +kernel) (pa_cons (pv 0) pa_nil)) pe_int (nomark _)) (pe_and (pe_cmpR op_eq (pe_ix (ix_listK (K := K) rfl) (pv 0) pe_int (fun _ _ => rfl)) pe_str (nomark _)) (pe_one (pe_cmpR op_eq (pe_slice C8.sl_txt (pe_ix (ix_listK (K := K) rfl) (pv 0) pe_int (fun _ _ => rfl)) (po_some (pe_un un_neg pe_int)) po_none) pe_str (nomark _))))))), ?_⟩
    refine ⟨_, rfl, _, _, rfl, Or.inl hS, _, _, rfl, rfl, _, rfl, ?_⟩
    rw [List.length_map]
    refine bool_of_true (by omega) ?_
    refine ⟨_, rfl, _, _, _, _, rfl, rfl, hS, at_words (i := 1) h1, rfl, _, rfl, ?_⟩
    by_cases e : w1 = "from"
    · rw [decide_eq_true (congrArg V.str e)]
      refine iteT ?_
      refine ⟨_, rfl, _, _, _, _, rfl, rfl, hS, at_words (i := 2) h2, _, rfl, _, rfl, w2, rfl, len_sl (by omega), rfl, ?_⟩
      rw [dstr]
      rw [decide_eq_true e] at k
      exact k
    · rw [decide_eq_false (fun q => e (by injection q))]
      rw [decide_eq_false e] at k
      exact k
theorem s_is_want_line : FnScope ["words"] ["words"] d_is_want_line.scope := ⟨rfl, rfl, rfl, by decide +kernel, rfl, by decide +kernel, by decide +kernel⟩
theorem c_is_want_line (T : Txt w K mg) : Cal P w K mg base 1 "is_want_line" (fun vs H Q _ => ∃ (a : Addr) (ws : List Str) (w2 w3 : Str), vs = [.ref a] ∧ SqL K H a (ws.map V.str) ∧ 4 < ws.length ∧ ws[0]? = some ("want" : Str) ∧ ws[2]? = some w2 ∧ w2 = "to" ∧ ws[3]? = some w3 ∧ w3.length ≤ 600 ∧ lst1 w3 = ":" ∧ Q (.bl true) H) [] := by
  refine T.cal 63 51 (d := d_is_want_line) (S := s_is_want_line) (hb := fun _ _ _ _ _ _ us hl => match us, hl with | [_], _ => rfl) (len := fun vs H Q E h => ?_) (hbody := fun cdv A outer s H vs Q E hr h => ?_)
  · obtain ⟨a, ws, w2, w3, rfl, hS, hl, h0, h2, rfl, h3, hw, h4, k⟩ := h
    rfl
  · obtain ⟨a, ws, w2, w3, rfl, hS, hl, h0, h2, rfl, h3, hw, h4, k⟩ := h
    refine ⟨_, (pss_one (ps_ret (pe_and (pe_cmpR op_gt (pe_callB (id := "len") (call_len_seqK (K := K) rfl) (by rfl) (T.f 104) (by decide +kernel) (pa_cons (pv 0) pa_nil)) pe_int (nomark _)) (pe_and (pe_cmpR op_eq (pe_ix (ix_listK (K := K) rfl) (pv 0) pe_int (fun _ _ => rfl)) pe_str (nomark _)) (pe_and (pe_cmpR op_eq (pe_ix (ix_listK (K := K) rfl) (pv 0) pe_int (fun _ _ => rfl)) pe_str (nomark _)) (pe_one (pe_cmpR op_eq (pe_slice C8.sl_txt (pe_ix (ix_listK (K := K) rfl) (pv 0) pe_int (fun _ _ => rfl)) (po_some (pe_un un_neg pe_int)) po_none) pe_str (nomark _)))))))), ?_⟩
    refine ⟨_, rfl, _, _, rfl, Or.inl hS, _, _, rfl, rfl, _, rfl, ?_⟩
    rw [List.length_map]
    refine bool_of_true (by omega) ?_
    refine ⟨_, rfl, _, _, _, _, rfl, rfl, hS, at_words (i := 0) h0, rfl, _, rfl, ?_⟩
    rw [decide_eq_true rfl]
    refine iteT ?_
    refine ⟨_, rfl, _, _, _, _, rfl, rfl, hS, at_words (i := 2) h2, rfl, _, rfl, ?_⟩
    rw [decide_eq_true rfl]
    refine iteT ?_
    refine ⟨_, rfl, _, _, _, _, rfl, rfl, hS, at_words (i := 3) h3, _, rfl, _, rfl, w3, rfl, len_sl (by omega), rfl, ?_⟩
    rw [dstr]
    have e : decide (Txt.slice w3 (some (-1)) none = ":") = true := decide_eq_true h4
    rw [e]
    exact k
theorem s_zero_of : FnScope ["lines", "words"] ["lines"] d_zero_of.scope := ⟨rfl, rfl, rfl, by decide +kernel, rfl, by decide +kernel, by decide +kernel⟩
theorem c_zero_of (T : Txt w K mg) : Cal P w K mg base 4 "zero_of" (fun vs H Q _ => ∃ (a : Addr) (ls : List Str) (l0 z : Str), vs = [.ref a] ∧ SqL K H a (ls.map V.str) ∧ ls[0]? = some l0 ∧ l0.length ≤ 600000 ∧ Txt.split l0 " " = [("zero" : Str), z] ∧ NameOk z ∧ RetD K H z Q) [] := by
  refine T.cal 60 48 (d := d_zero_of) (S := s_zero_of) (hb := fun _ _ _ _ _ _ us hl => match us, hl with | [_], _ => rfl) (len := fun vs H Q E h => ?_) (hbody := fun cdv A outer s H vs Q E hr h => ?_)
  · obtain ⟨a, ls, l0, z, rfl, hS, h0, hl, hs, hz, k⟩ := h
    rfl
  · obtain ⟨a, ls, l0, z, rfl, hS, h0, hl, hs, hz, k⟩ := h
    refine ⟨_, (pss_cons (ps_set (i := 1) s_zero_of.nd rfl (Or.inl rfl) (pe_split (pe_ix (ix_listK (K := K) rfl) (pv 0) pe_int (fun _ _ => rfl)) pe_str))
      (pss_cons (ps_if (PW.pt (pw_or (pt_cmpR op_ne (pe_callB (id := "len") (call_len_seqK (K := K) rfl) (by rfl) (T.f 104) (by decide +kernel) (pa_cons (pv 1) pa_nil)) pe_int (nomark _)) (pw_or (pt_cmpR op_ne (pe_ix (ix_listK (K := K) rfl) (pv 1) pe_int (fun _ _ => rfl)) pe_str (nomark _)) (pw_or1 (pt_not (pt_val (pe_c (c_is_name T) hr (by decide) rfl (pa_cons (pe_ix (ix_listK (K := K) rfl) (pv 1) pe_int (fun _ _ => rfl)) pa_nil)))))))) (pss_one ps_never) pss_nil)
      (pss_one (ps_ret (pe_mk (m_Drawing1 T) hr (by decide) rfl (pa_cons (pe_ix (ix_listK (K := K) rfl) (pv 1) pe_int (fun _ _ => rfl)) pa_nil)))))), ?_⟩
    refine ⟨_, rfl, _, _, _, _, rfl, rfl, hS, at_words (i := 0) h0, ⟨_, rfl⟩, _, _, rfl, rfl, rfl, Nat.le_trans (by omega : _ ≤ 700000) (by decide), fun l hl => ?_⟩
    rw [hs]
    have sl := same_new (o := .lst ([("zero" : Str), z].map V.str)) hl
    have hw : SqL K (upd H l (.lst ([("zero" : Str), z].map V.str))) l ([("zero" : Str), z].map V.str) := SqL.of upd_same
    generalize upd H l (.lst ([("zero" : Str), z].map V.str)) = H1 at sl hw ⊢
    refine ⟨_, rfl, _, _, rfl, Or.inl hw, rfl, _, rfl, ?_⟩
    refine ⟨_, rfl, _, _, _, _, rfl, rfl, hw, at_words (i := 0) rfl, rfl, _, rfl, ?_⟩
    rw [decide_eq_true rfl]
    refine ⟨_, rfl, _, _, _, _, rfl, rfl, hw, at_words (i := 1) rfl, z, rfl, hz, fun H2 s2 => ⟨_, rfl, ?_⟩⟩
    refine ⟨_, rfl, _, _, _, _, rfl, rfl, Same.seq s2 hw, at_words (i := 1) rfl, ?_⟩
    intro x0 dx0 hx0 hdx0 hne0
    have sA : Same H H2 := sl.trans s2
    exact mkD hz (fun q d H' hq hd s h => k q d H' (sA.free hq) (sA.free hd) (sA.trans s) h) x0 dx0 hx0 hdx0 hne0
end
end Fw
set_option Elab.async false
set_option linter.all false
set_option maxRecDepth 100000
set_option maxHeartbeats 4000000
namespace Fw
open PySem PySem.Spec PyProof.Rows L2
open C8 (Cal CalAt Met Mak pe_c pe_mk pe_mt pe_mt0 pe_gc InsC call_isC)

section
variable {P : Program} {w : World} {K : PySem.W.Frag} {mg : Str → Option Value} {base : Heap}

theorem cut_fromN {ws : List Str} {n : Nat} (h : n ≤ ws.length) : cutV (ws.map V.str) (some (n : Int)) none = (ws.drop n).map V.str := by
  unfold cutV
  rw [HT.sIx_nat, HT.sIx_none, List.map_drop, List.length_map, Nat.min_eq_left h]
  exact List.take_of_length_le (by rw [List.length_drop, List.length_map]; exact Nat.le_refl _)
abbrev Want := Str × Str × Par
def WantAt (K : PySem.W.Frag) (H : Hp) (w : Want) (v : V) : Prop := ∃ t sp, v = .ref t ∧ H t = some (.tup [.str w.1, .str w.2.1, .ref sp]) ∧ SpanAt K H sp w.2.2.1 w.2.2.2.1 w.2.2.2.2
theorem WantAt.kp {H H' : Hp} {v : V} {w : Want} (h : WantAt K H w v) (e : Kp H H') : WantAt K H' w v := by
  obtain ⟨t, sp, a, b, c⟩ := h
  exact ⟨t, sp, a, e _ _ trivial b, c.kp e⟩
theorem mem_names {z n : Str} {rs : List Row} : n ∈ z :: rnm rs.reverse ↔ n ∈ z :: rnm rs := by
  rw [List.mem_cons, List.mem_cons, rnm_rev, List.mem_reverse]
theorem s_add_mark : FnScope ["drawing", "words", "number", "way", "name", "start"] ["drawing", "words", "number", "way"] d_add_mark.scope := ⟨rfl, rfl, rfl, by decide +kernel, rfl, by decide +kernel, by decide +kernel⟩
theorem c_add_mark (T : Txt w K mg) : Cal P w K mg base 18 "add_mark" (fun vs H Q _ => ∃ (a d l : Addr) (z : Str) (rs : List Row) (ws : List Str) (k0 : Int) (y : Way) (n st w2 : Str) (p : Par), vs = [.ref a, .ref l, .int k0, .str y.s] ∧ DrawAt K H a d z rs ∧ SqL K H l (ws.map V.str) ∧ 3 < ws.length ∧ ws[0]? = some n ∧ ws[2]? = some w2 ∧ w2.length ≤ 600 ∧ but1 w2 = st ∧ Good z ((n, st, p) :: rs) ∧ rs.length < 100 ∧ SbLn y (ws.drop 3) p ∧ l ≠ d ∧ ∀ H', Bt d H H' → DrawAt K H' a d z ((n, st, p) :: rs) → Q .non H') [] := by
  refine T.cal 64 52 (d := d_add_mark) (S := s_add_mark) (hb := fun _ _ _ _ _ _ us hl => match us, hl with | [_, _, _, _], _ => rfl) (len := fun vs H Q E h => ?_) (hbody := fun cdv A outer s H vs Q E hr h => ?_)
  · obtain ⟨a, d, l, z, rs, ws, k0, y, n, st, w2, p, rfl, hD, hS, hl, h0, h2, hw, rfl, hg, hf, hsb, hld, k⟩ := h
    rfl
  · obtain ⟨a, d, l, z, rs, ws, k0, y, n, st, w2, p, rfl, hD, hS, hl, h0, h2, hw, rfl, hg, hf, hsb, hld, k⟩ := h
    refine ⟨_, (pss_cons (ps_par (i := 4) (j := 5) (by rfl) s_add_mark.nd rfl rfl (by decide) rfl rfl (pa_cons (pe_ix (ix_listK (K := K) rfl) (pv 1) pe_int (fun _ _ => rfl)) (pa_cons (pe_slice C8.sl_txt (pe_ix (ix_listK (K := K) rfl) (pv 1) pe_int (fun _ _ => rfl)) po_none (po_some (pe_un un_neg pe_int))) pa_nil)) (by rfl))
      (pss_cons (ps_if (PW.pt (pw_or (pt_not (pt_val (pe_c (c_is_name T) hr (by decide) rfl (pa_cons (pv 4) pa_nil)))) (pw_or (pt_cmpR (op_in_seqK (K := K) rfl) (pv 4) (pe_mt0 (c_Drawing_names T) hr (by decide) (pv 0)) (by rfl)) (pw_or1 (pt_cmpR (op_notIn_seqK (K := K) rfl) (pv 5) (pe_mt0 (c_Drawing_names T) hr (by decide) (pv 0)) (by rfl)))))) (pss_one ps_never) pss_nil)
      (pss_one (ps_expr (pe_mtN (mt_Drawing_mark T) hr (by decide) (pv 0) (pa_cons (pv 4) (pa_cons (pe_c (c_span_behind T) hr (by decide) rfl (pa_cons (pe_slice (sl_listK (K := K) rfl) (pv 1) (po_some pe_int) po_none) (pa_cons (pv 2) (pa_cons (pv 3) pa_nil)))) pa_nil)) (pk_cons (pv 5) pk_nil)))))), ?_⟩
    obtain ⟨dx, hi⟩ := hD.ins
    cases id hg with
    | cons g0 g1 g2 g3 g4 =>
    refine ⟨_, rfl, _, _, _, _, rfl, rfl, hS, at_words (i := 0) h0, _, rfl, _, _, _, _, rfl, rfl, hS, at_words (i := 2) h2, _, rfl, _, rfl, w2, rfl, len_sl (by omega), _, _, rfl, ?_⟩
    refine ⟨_, rfl, n, rfl, g1, fun H1 s1 => ⟨_, rfl, ?_⟩⟩
    refine ⟨_, rfl, _, rfl, a, dx, _, rfl, s1 _ _ hi, rfl, a, d, z, rs, rfl, hD.ext s1, fun p1 H2 hp1 s2 e2 => ⟨p1, _, rfl, Or.inr (SqT.of e2), rfl, flat_strs _, _, rfl, ?_⟩⟩
    rw [inV_strs]
    rw [decide_eq_false (fun h => g2 (mem_names.mp h))]
    refine iteF ?_
    have s12 := s1.trans s2
    refine ⟨_, rfl, _, rfl, a, dx, _, rfl, s12 _ _ hi, rfl, a, d, z, rs, rfl, hD.ext s12, fun p2 H3 hp2 s3 e3 => ⟨p2, _, rfl, Or.inr (SqT.of e3), rfl, flat_strs _, _, rfl, ?_⟩⟩
    rw [inV_strs]
    rw [decide_eq_true (mem_names.mpr g3)]
    refine iteF ?_
    have s13 := s12.trans s3
    refine ⟨_, rfl, a, dx, _, rfl, s13 _ _ hi, rfl, _, rfl, _, rfl, _, rfl, l, _, rfl, Same.seq s13 hS, fun q hq => ?_⟩
    have s4 := same_new (o := .lst (cutV (ws.map V.str) (some 3) none)) hq
    have eq : cutV (ws.map V.str) (some 3) none = (ws.drop 3).map V.str := cut_fromN (n := 3) (by omega)
    refine ⟨_, rfl, _, rfl, q, ws.drop 3, k0, y, p, rfl, SqL.of (upd_same.trans (by rw [eq])), hsb, fun sp H4 hsp s5 hSp => ?_⟩
    have s14 := s13.trans (s4.trans s5)
    refine ⟨_, rfl, rfl, rfl, a, d, z, rs, n, but1 w2, _, _, _, sp, rfl, hD.ext s14, hg, hf, hSp, fun H' i b hD' => ?_⟩
    exact k H' ((Bt.of s14).trans b) hD'
theorem s_want_of : FnScope ["drawing", "words", "number", "way", "one", "other"] ["drawing", "words", "number", "way"] d_want_of.scope := ⟨rfl, rfl, rfl, by decide +kernel, rfl, by decide +kernel, by decide +kernel⟩
theorem c_want_of (T : Txt w K mg) : Cal P w K mg base 18 "want_of" (fun vs H Q _ => ∃ (a d l : Addr) (z : Str) (rs : List Row) (ws : List Str) (k0 : Int) (y : Way) (one other w3 : Str) (p : Par), vs = [.ref a, .ref l, .int k0, .str y.s] ∧ DrawAt K H a d z rs ∧ SqL K H l (ws.map V.str) ∧ 4 < ws.length ∧ ws[1]? = some one ∧ ws[3]? = some w3 ∧ w3.length ≤ 600 ∧ but1 w3 = other ∧ one ∈ z :: rnm rs ∧ other ∈ z :: rnm rs ∧ SbLn y (ws.drop 4) p ∧ ∀ v H', Same H H' → WantAt K H' (one, other, p) v → Q v H') [] := by
  refine T.cal 65 53 (d := d_want_of) (S := s_want_of) (hb := fun _ _ _ _ _ _ us hl => match us, hl with | [_, _, _, _], _ => rfl) (len := fun vs H Q E h => ?_) (hbody := fun cdv A outer s H vs Q E hr h => ?_)
  · obtain ⟨a, d, l, z, rs, ws, k0, y, one, other, w3, p, rfl, hD, hS, hl, h1, h3, hw, rfl, g1, g2, hsb, k⟩ := h
    rfl
  · obtain ⟨a, d, l, z, rs, ws, k0, y, one, other, w3, p, rfl, hD, hS, hl, h1, h3, hw, rfl, g1, g2, hsb, k⟩ := h
    refine ⟨_, (pss_cons (ps_par (i := 4) (j := 5) (by rfl) s_want_of.nd rfl rfl (by decide) rfl rfl (pa_cons (pe_ix (ix_listK (K := K) rfl) (pv 1) pe_int (fun _ _ => rfl)) (pa_cons (pe_slice C8.sl_txt (pe_ix (ix_listK (K := K) rfl) (pv 1) pe_int (fun _ _ => rfl)) po_none (po_some (pe_un un_neg pe_int))) pa_nil)) (by rfl))
      (pss_cons (ps_if (PW.pt (pw_or (pt_cmpR (op_notIn_seqK (K := K) rfl) (pv 4) (pe_mt0 (c_Drawing_names T) hr (by decide) (pv 0)) (by rfl)) (pw_or1 (pt_cmpR (op_notIn_seqK (K := K) rfl) (pv 5) (pe_mt0 (c_Drawing_names T) hr (by decide) (pv 0)) (by rfl))))) (pss_one ps_never) pss_nil)
      (pss_one (ps_ret (pe_tup (pa_cons (pv 4) (pa_cons (pv 5) (pa_cons (pe_c (c_span_behind T) hr (by decide) rfl (pa_cons (pe_slice (sl_listK (K := K) rfl) (pv 1) (po_some pe_int) po_none) (pa_cons (pv 2) (pa_cons (pv 3) pa_nil)))) pa_nil)))))))), ?_⟩
    obtain ⟨dx, hi⟩ := hD.ins
    refine ⟨_, rfl, _, _, _, _, rfl, rfl, hS, at_words (i := 1) h1, _, rfl, _, _, _, _, rfl, rfl, hS, at_words (i := 3) h3, _, rfl, _, rfl, w3, rfl, len_sl (by omega), _, _, rfl, ?_⟩
    refine ⟨_, rfl, _, rfl, a, dx, _, rfl, hi, rfl, a, d, z, rs, rfl, hD, fun p1 H2 hp1 s2 e2 => ⟨p1, _, rfl, Or.inr (SqT.of e2), rfl, flat_strs _, _, rfl, ?_⟩⟩
    rw [inV_strs]
    rw [decide_eq_true (mem_names.mpr g1)]
    refine iteF ?_
    refine ⟨_, rfl, _, rfl, a, dx, _, rfl, s2 _ _ hi, rfl, a, d, z, rs, rfl, hD.ext s2, fun p2 H3 hp2 s3 e3 => ⟨p2, _, rfl, Or.inr (SqT.of e3), rfl, flat_strs _, _, rfl, ?_⟩⟩
    rw [inV_strs]
    rw [decide_eq_true (mem_names.mpr g2)]
    refine iteF ?_
    have s13 := s2.trans s3
    refine ⟨_, rfl, _, rfl, _, rfl, _, rfl, l, _, rfl, Same.seq s13 hS, fun q hq => ?_⟩
    have s4 := same_new (o := .lst (cutV (ws.map V.str) (some 4) none)) hq
    have eq : cutV (ws.map V.str) (some 4) none = (ws.drop 4).map V.str := cut_fromN (n := 4) (by omega)
    refine ⟨_, rfl, _, rfl, q, ws.drop 4, k0, y, p, rfl, SqL.of (upd_same.trans (by rw [eq])), hsb, fun sp H4 hsp s5 hSp => ?_⟩
    have s14 := s13.trans (s4.trans s5)
    refine ⟨sz3, fun t ht => ?_⟩
    exact k _ _ (s14.trans (same_new ht)) ⟨t, sp, rfl, upd_same, hSp.kp (Kp.of (same_new ht))⟩
end
end Fw
set_option Elab.async false
set_option linter.all false
set_option maxRecDepth 100000
set_option maxHeartbeats 4000000
namespace Fw
open PySem PySem.Spec PyProof.Rows L2
open C8 (Cal CalAt Met Mak pe_c pe_mk pe_mt pe_mt0 pe_gc InsC call_isC)

section
variable {P : Program} {w : World} {K : PySem.W.Frag} {mg : Str → Option Value} {base : Heap}

def RowLn (y : Way) (ln : Str) (r : Row) : Prop := ln.length ≤ 600000 ∧ 3 < (Txt.split ln " ").length ∧ (Txt.split ln " ")[0]? = some r.1 ∧ (Txt.split ln " ")[1]? = some ("from" : Str) ∧ (∃ w2 : Str, (Txt.split ln " ")[2]? = some w2 ∧ w2.length ≤ 600 ∧ lst1 w2 = ":" ∧ but1 w2 = r.2.1) ∧ SbLn y ((Txt.split ln " ").drop 3) r.2.2
def WantLn (y : Way) (ln : Str) (w : Want) : Prop := ln.length ≤ 600000 ∧ 4 < (Txt.split ln " ").length ∧ (Txt.split ln " ")[0]? = some ("want" : Str) ∧ (Txt.split ln " ")[1]? = some w.1 ∧ (Txt.split ln " ")[2]? = some ("to" : Str) ∧ (∃ w3 : Str, (Txt.split ln " ")[3]? = some w3 ∧ w3.length ≤ 600 ∧ lst1 w3 = ":" ∧ but1 w3 = w.2.1) ∧ SbLn y ((Txt.split ln " ").drop 4) w.2.2
structure RdOk (y : Way) (ls : List Str) (z : Str) (rs : List Row) (wts : List Want) : Prop where
  ex : ∃ l0 rl wl, ls = l0 :: (rl ++ wl) ∧ l0.length ≤ 600000 ∧ Txt.split l0 " " = [("zero" : Str), z] ∧ Paired (RowLn y) rl rs.reverse ∧ Paired (WantLn y) wl wts
  good : Good z rs
  few : rs.length ≤ 50 ∧ wts.length ≤ 50
  mem : ∀ w ∈ wts, w.1 ∈ z :: rnm rs ∧ w.2.1 ∈ z :: rnm rs
theorem good_drop {z : Str} {rs : List Row} (g : Good z rs) (m : Nat) : Good z (rs.drop m) := by
  induction g generalizing m with
  | nil h => rw [List.drop_nil]; exact .nil h
  | @cons r rs g h1 h2 h3 h4 ih =>
    cases m with
    | zero => exact .cons g h1 h2 h3 h4
    | succ m => exact ih m
/-- what read_drawing gives -/
def RetRd (K : PySem.W.Frag) (H : Hp) (Q : VK) (z : Str) (rs : List Row) (wts : List Want) : Prop := ∀ t a d w vs H', H t = none → H a = none → H d = none → Same H H' → H' t = some (.tup [.ref a, .ref w]) → H' w = some (.tup vs) → Paired (WantAt K H') wts vs → DrawAt K H' a d z rs → Q (.ref t) H'
theorem lines_at {y : Way} {ls : List Str} {z : Str} {rs : List Row} {wts : List Want} (h : RdOk y ls z rs wts) {i : Nat} {x : Str} (hx : ls[i]? = some x) :
    (i = 0) ∨ (∃ k r, i = k + 1 ∧ k < rs.length ∧ rs.reverse[k]? = some r ∧ RowLn y x r) ∨ ∃ j w, i = 1 + rs.length + j ∧ wts[j]? = some w ∧ WantLn y x w := by
  obtain ⟨l0, rl, wl, rfl, _, _, p1, p2⟩ := h.ex
  have e1 := Paired.len p1
  rw [List.length_reverse] at e1
  cases i with
  | zero => exact .inl rfl
  | succ k =>
    refine .inr ?_
    rw [List.getElem?_cons_succ] at hx
    by_cases hk : k < rl.length
    · rw [List.getElem?_append_left hk] at hx
      have hk2 : k < rs.reverse.length := by rw [List.length_reverse]; omega
      exact .inl ⟨k, rs.reverse[k], rfl, by omega, List.getElem?_eq_getElem hk2, Paired.at p1 hx (List.getElem?_eq_getElem hk2)⟩
    · rw [List.getElem?_append_right (by omega)] at hx
      have hj := (List.getElem?_eq_some_iff.mp hx).1
      have e2 := Paired.len p2
      have hj2 : k - rl.length < wts.length := by omega
      exact .inr ⟨k - rl.length, wts[k - rl.length], by omega, List.getElem?_eq_getElem hj2, Paired.at p2 hx (List.getElem?_eq_getElem hj2)⟩
theorem s_read_drawing : FnScope ["text", "way", "lines", "drawing", "wants", "number", "line", "words"] ["text", "way"] d_read_drawing.scope := ⟨rfl, rfl, rfl, by decide +kernel, rfl, by decide +kernel, by decide +kernel⟩
theorem c_read_drawing (T : Txt w K mg) : Cal P w K mg base 19 "read_drawing" (fun vs H Q _ => ∃ (x : Str) (y : Way) (z : Str) (rs : List Row) (wts : List Want), vs = [.str x, .str y.s] ∧ x.length ≤ 16000000 ∧ RdOk y (Txt.split x "\n") z rs wts ∧ RetRd K H Q z rs wts) [] := by
  refine T.calD 66 54 (d := d_read_drawing) (S := s_read_drawing) (hb := fun _ _ _ _ _ _ _ us its hl hi => match us, its, hl, hi with | [_, _], [_], _, _ => ⟨_, rfl, rfl⟩) (len := fun vs H Q E h => ?_) (hbody := fun cdv A outer s H vs Q E hr h => ?_)
  · obtain ⟨x, y, z, rs, wts, rfl, hxl, hR, k⟩ := h
    rfl
  · obtain ⟨x, y, z, rs, wts, rfl, hxl, hR, k⟩ := h
    refine ⟨_, (pss_cons (ps_expr (pe_c (c_check_way T) hr (by decide) rfl (pa_cons (pv 1) pa_nil)))
      (pss_cons (ps_if (pt_not (pt_val (pe_callB (id := "isinstance") call_isi (by rfl) (T.f 103) (by decide +kernel) (pa_cons (pv 0) (pa_cons (pe_bltn (v := .ty "str") (by rfl) (T.f 109) (by decide +kernel) rfl) pa_nil))))) (pss_one ps_never) pss_nil)
      (pss_cons (ps_set (i := 2) s_read_drawing.nd rfl (Or.inl rfl) (pe_split (pv 0) pe_str))
      (pss_cons (ps_set (i := 3) s_read_drawing.nd rfl (Or.inl rfl) (pe_c (c_zero_of T) hr (by decide) rfl (pa_cons (pv 2) pa_nil)))
      (pss_cons (ps_set (i := 4) s_read_drawing.nd rfl (Or.inl rfl) (pe_lst pa_nil))
      (pss_cons (ps_for PassesOwn.never rfl (pi_enum (by rfl) (T.f 101) (pa_cons (pv 2) pa_nil)) (pg_tup rfl (pgs_cons (pg_name (i := 5) s_read_drawing.nd rfl (Or.inl rfl)) (pgs_cons (pg_name (i := 6) s_read_drawing.nd rfl (Or.inl rfl)) pgs_nil)))
      (pss_cons (ps_set (i := 7) s_read_drawing.nd rfl (Or.inl rfl) (pe_split (pv 6) pe_str))
        (pss_one (ps_if (PW.pt (pw_and (pt_cmpR op_gt (pv 5) pe_int (nomark _)) (pw_and (pt_val (pe_c (c_is_mark_line T) hr (by decide) rfl (pa_cons (pv 7) pa_nil))) (pw_and1 (pt_cmpR (op_eqT (α := List Str) hr.units (by decide)) (pv 4) (pe_lst pa_nil) (nomark _)))))) (pss_one (ps_expr (pe_c (c_add_mark T) hr (by decide) rfl (pa_cons (pv 3) (pa_cons (pv 7) (pa_cons (pv 5) (pa_cons (pv 1) pa_nil))))))) (pss_one (ps_if (PW.pt (pw_and (pt_cmpR op_gt (pv 5) pe_int (nomark _)) (pw_and1 (pt_val (pe_c (c_is_want_line T) hr (by decide) rfl (pa_cons (pv 7) pa_nil)))))) (pss_one (ps_expr (pe_bm PySem.F.plainAttrs_list PySem.F.slot_list_append PySem.F.type_list_append mt_append (pv 4) (pa_cons (pe_c (c_want_of T) hr (by decide) rfl (pa_cons (pv 3) (pa_cons (pv 7) (pa_cons (pv 5) (pa_cons (pv 1) pa_nil))))) pa_nil)))) (pss_one (ps_if (pt_cmpR op_gt (pv 5) pe_int (nomark _)) (pss_one ps_never) pss_nil))))))))
      (pss_one (ps_ret (pe_tup (pa_cons (pv 3) (pa_cons (pe_callTy (T := "tuple") call_tuple_of (by rfl) (T.f 111) (by decide +kernel) (pa_cons (pv 4) pa_nil)) pa_nil))))))))))), ?_⟩
    have hf1 := hR.few.1
    have hf2 := hR.few.2
    refine ⟨_, rfl, y, rfl, ?_⟩
    refine ⟨_, rfl, .str x, .ty "str", .type "str", .type "str", true, rfl, .ty "str", .base (.str _), kit_ty (by decide +kernel), true, rfl, ?_⟩
    refine ⟨_, rfl, ⟨_, rfl⟩, _, _, rfl, rfl, rfl, Nat.le_trans (by omega : _ ≤ 16000002) (by decide), fun l hl => ?_⟩
    have s1 := same_new (o := .lst ((Txt.split x "\n").map V.str)) hl
    have hL : SqL K (upd H l (.lst ((Txt.split x "\n").map V.str))) l ((Txt.split x "\n").map V.str) := SqL.of upd_same
    have hl1 : (upd H l (.lst ((Txt.split x "\n").map V.str))) l = some (.lst ((Txt.split x "\n").map V.str)) := upd_same
    generalize Txt.split x "\n" = ls at hR hL s1 hl1 ⊢
    generalize upd H l (.lst (ls.map V.str)) = H1 at s1 hL hl1 ⊢
    obtain ⟨l0, rl, wl, els, hl0, hz0, p1, p2⟩ := hR.ex
    have hlen : ls.length = 1 + rs.length + wts.length := by
      rw [els, List.length_cons, List.length_append, Paired.len p1, Paired.len p2, List.length_reverse]
      omega
    refine ⟨_, rfl, l, ls, l0, z, rfl, hL, by rw [els]; rfl, hl0, hz0, hR.good.zero, fun a d H2 ha hd s2 hD => ?_⟩
    refine ⟨by decide, fun wa hwa => ?_⟩
    have s3 := same_new (o := .lst []) hwa
    have hwl : (upd H2 wa (.lst [])) wa = some (.lst []) := upd_same
    have hD3 := hD.ext s3
    have sA := s2.trans s3
    have hda : H2 d ≠ none := fun e => by
      obtain ⟨kvs, hk, _⟩ := hD.rows
      rw [e] at hk
      cases hk
    have hdw : d ≠ wa := fun e => hda (e ▸ hwa)
    have haw : a ≠ wa := fun e => by
      obtain ⟨dx, hi⟩ := hD.ins
      rw [e, hwa] at hi
      cases hi
    have hw1 : H1 wa = none := s2.free hwa
    generalize upd H2 wa (.lst []) = H3 at s3 hwl hD3 sA ⊢
    refine ⟨_, rfl, l, _, rfl, Same.seq sA hL, for_it (walk_enum (K := K) (a := l) (xs := ls.map V.str)) (fun i σ' H' => ∃ o5 o6 o7 vs, σ' = [some (.str x), some (.str y.s), some (.ref l), some (.ref a), some (.ref wa), o5, o6, o7] ∧ Same H1 H' ∧ DrawAt K H' a d z (rs.drop (rs.length - (i - 1))) ∧ H' wa = some (.lst vs) ∧ Paired (WantAt K H') (wts.take (i - 1 - rs.length)) vs) ?_ ?_ ?_ ?_⟩
    · refine ⟨none, none, none, [], rfl, sA, ?_, hwl, ?_⟩
      · rw [Nat.zero_sub, Nat.sub_zero, List.drop_length]; exact hD3
      · rw [Nat.zero_sub, List.take_zero]; exact .nil
    · rintro i σ' H' _ ⟨_, _, _, _, _, s, _⟩
      exact Same.seq s hL
    · rintro i v σ' H' H'' hil ⟨o5, o6, o7, vs, rfl, s4, hDi, hwi, pwi⟩ ⟨t, x1, x2, rfl, ht, rfl, e1, e2⟩
      cases e1
      have e2 : (ls.map V.str)[i]? = some x2 := e2
      rw [List.getElem?_map] at e2
      cases hx : ls[i]? with
      | none => rw [hx] at e2; cases e2
      | some ln =>
        rw [hx] at e2
        cases e2
        have st := same_new (o := .tup [.int (i : Int), .str ln]) ht
        refine ⟨t, _, rfl, SqT.of upd_same, rfl, _, _, rfl, _, _, rfl, rfl, ?_⟩
        have hln : ln.length ≤ 600000 := by
          rcases lines_at hR hx with e | ⟨_, _, _, _, _, h⟩ | ⟨_, _, _, _, h⟩
          · rw [e, els] at hx
            cases hx
            exact hl0
          · exact h.1
          · exact h.1
        refine ⟨_, rfl, ⟨_, rfl⟩, _, _, rfl, rfl, rfl, Nat.le_trans (by omega : _ ≤ 700000) (by decide), fun q hq => ?_⟩
        have sq := same_new (o := .lst ((Txt.split ln " ").map V.str)) hq
        have hqs : SqL K (upd (upd H' t (.tup [.int (i : Int), .str ln])) q (.lst ((Txt.split ln " ").map V.str))) q ((Txt.split ln " ").map V.str) := SqL.of upd_same
        have sB := st.trans sq
        have hqd : q ≠ d := fun e => by
          obtain ⟨kvs, hk, _⟩ := (hDi.ext st).rows
          rw [← e, hq] at hk
          cases hk
        have hqw : q ≠ wa := fun e => by
          rw [e, st _ _ hwi] at hq
          cases hq
        generalize upd (upd H' t (.tup [.int (i : Int), .str ln])) q (.lst ((Txt.split ln " ").map V.str)) = H5 at sB hqs ⊢
        have hDi := hDi.ext sB
        have hwi := sB _ _ hwi
        have pwi : Paired (WantAt K H5) (wts.take (i - 1 - rs.length)) vs := p_imp pwi fun _ _ h => h.kp (Kp.of sB)
        have s5 := s4.trans sB
        refine ⟨_, rfl, _, _, rfl, rfl, _, rfl, ?_⟩
        rcases lines_at hR hx with e | ⟨k', r, e, hk, hr, hln, hw3, hw0, hw1', ⟨w2, hw2, hw2l, hw2c, hw2b⟩, hsb⟩ | ⟨j, w, e, hj, hln, hw4, hw0, hw1', hw2, ⟨w3, hw3, hw3l, hw3c, hw3b⟩, hsb⟩
        · subst e
          refine bool_of_false (by decide) ?_
          refine ⟨_, rfl, _, _, rfl, rfl, _, rfl, ?_⟩
          refine bool_of_false (by decide) ?_
          refine ⟨_, rfl, _, _, rfl, rfl, _, rfl, ?_⟩
          refine bool_of_false (by decide) ?_
          exact ⟨_, _, _, vs, rfl, s5, hDi, hwi, pwi⟩
        · subst e
          refine bool_of_true (by omega) ?_
          refine ⟨_, rfl, q, _, _, w2, rfl, hqs, hw3, hw1', hw2, hw2l, _, rfl, ?_⟩
          rw [decide_eq_true rfl, decide_eq_true hw2c]
          refine iteT ?_
          have ek : k' + 1 - 1 - rs.length = 0 := by omega
          rw [ek, List.take_zero] at pwi
          cases pwi
          refine ⟨_, rfl, by decide, fun q2 hq2 => ⟨[], [], dp_strs (SqL.of ((same_new hq2) _ _ hwi)), dp_strs (SqL.of upd_same), _, rfl, ?_⟩⟩
          refine iteT ?_
          have s6 := same_new (o := .lst []) hq2
          have ed : rs.drop (rs.length - (k' + 1)) = r :: rs.drop (rs.length - k') := by
            have h1 : rs.length - (k' + 1) < rs.length := by omega
            rw [List.drop_eq_getElem_cons h1]
            have h2 : rs.length - (k' + 1) + 1 = rs.length - k' := by omega
            rw [h2]
            congr 1
            rw [List.getElem?_reverse (by omega)] at hr
            have h3 : rs.length - 1 - k' = rs.length - (k' + 1) := by omega
            rw [h3, List.getElem?_eq_getElem h1] at hr
            injection hr
          obtain ⟨n, st', p⟩ := r
          have hg : Good z ((n, st', p) :: rs.drop (rs.length - k')) := by
            rw [← ed]
            exact good_drop hR.good _
          have hD6 := hDi.ext s6
          rw [Nat.add_sub_cancel] at hD6
          refine ⟨_, rfl, _, rfl, _, rfl, _, rfl, a, d, q, z, _, _, _, y, n, st', w2, p, rfl, hD6, Same.seq s6 hqs, hw3, hw0, hw2, hw2l, hw2b, hg, ?_, hsb, hqd, fun H7 b7 hD7 => ?_⟩
          · rw [List.length_drop]; omega
          · refine ⟨_, _, _, [], rfl, b7.same (s5.trans s6) hd, ?_, b7 _ _ hdw.symm (s6 _ _ hwi), ?_⟩
            · rw [Nat.add_sub_cancel, ed]; exact hD7
            · have e0 : k' + 1 + 1 - 1 - rs.length = 0 := by omega
              rw [e0, List.take_zero]
              exact .nil
        · subst e
          refine bool_of_true (by omega) ?_
          refine ⟨_, rfl, q, _, _, "to", rfl, hqs, by omega, hw1', hw2, by decide, _, rfl, ?_⟩
          have e3 : decide (lst1 "to" = (":" : Str)) = false := by decide +kernel
          rw [e3, Bool.and_false]
          refine iteF ?_
          refine ⟨_, rfl, _, _, rfl, rfl, _, rfl, ?_⟩
          refine bool_of_true (by omega) ?_
          refine ⟨_, rfl, q, _, "to", w3, rfl, hqs, hw4, hw0, hw2, rfl, hw3, hw3l, hw3c, _, rfl, ?_⟩
          refine iteT ?_
          have e0 : rs.length - (1 + rs.length + j - 1) = 0 := by omega
          have e1 : 1 + rs.length + j - 1 - rs.length = j := by omega
          rw [e0, List.drop_zero] at hDi
          rw [e1] at pwi
          obtain ⟨m1, m2⟩ := hR.mem w (List.mem_of_getElem? hj)
          obtain ⟨one, other, p⟩ := w
          refine ⟨_, rfl, Or.inl ⟨rfl, _, SqL.of hwi⟩, _, rfl, _, rfl, _, rfl, _, rfl, a, d, q, z, rs, _, _, y, one, other, w3, p, rfl, hDi, hqs, hw4, hw1', hw3, hw3l, hw3b, m1, m2, hsb, fun v H7 s7 hv => ?_⟩
          have hjl := (List.getElem?_eq_some_iff.mp hj).1
          have hvl := Paired.len pwi
          rw [List.length_take] at hvl
          refine ⟨wa, _, _, rfl, rfl, s7 _ _ hwi, Nat.lt_of_le_of_lt (by omega : _ ≤ 200) (by decide), ?_⟩
          have k7 : Kp H7 (upd H7 wa (.lst (vs ++ [v]))) := Kp.updL (s7 _ _ hwi)
          refine ⟨_, _, _, vs ++ [v], rfl, same_mut (s5.trans s7) hw1, ?_, upd_same, ?_⟩
          · have e2 : rs.length - (1 + rs.length + j + 1 - 1) = 0 := by omega
            rw [e2, List.drop_zero]
            exact (hDi.ext s7).kp k7 (by rw [upd_ne hdw])
          · have e2 : 1 + rs.length + j + 1 - 1 - rs.length = j + 1 := by omega
            rw [e2, List.take_add_one, hj]
            exact p_app (p_imp pwi fun _ _ h => h.kp ((Kp.of s7).trans k7)) (p_one (hv.kp k7))
    · rintro σ' H' ⟨o5, o6, o7, vs, rfl, s4, hDi, hwi, pwi⟩
      have e0 : rs.length - ((ls.map V.str).length - 1) = 0 := by rw [List.length_map]; omega
      have e1 : (ls.map V.str).length - 1 - rs.length = wts.length := by rw [List.length_map]; omega
      rw [e0, List.drop_zero] at hDi
      rw [e1, List.take_length] at pwi
      refine ⟨_, rfl, _, rfl, wa, _, rfl, Or.inl ⟨SqL.of hwi, fun w hw => ⟨sz2, fun t ht => ?_⟩⟩⟩
      have sw := same_new (o := .tup vs) hw
      have st := same_new (o := .tup [.ref a, .ref w]) ht
      have sE := (s1.trans s4).trans (sw.trans st)
      refine k t a d w vs _ (((s1.trans s4).trans sw).free ht) (s1.free ha) (s1.free hd) sE upd_same (st _ _ upd_same) (p_imp pwi fun _ _ h => h.kp (Kp.of (sw.trans st))) (hDi.ext (sw.trans st))
end
end Fw
set_option Elab.async false
set_option linter.all false
set_option maxRecDepth 100000
set_option maxHeartbeats 4000000
namespace Fw
open PySem
open Sem (wp)
open AutoSeq1 (wpAny_loadPart')
theorem meets_enumT (l : Addr) (us : Array Value) (n : Nat) (dct : Option Addr) (sl : Array (Option Value)) :
    Meets (Builtin.«enumerate.__new__» ⟨[.type "enumerate", .ref l], []⟩) (fun _ R s => s.heap.get? l = some { cls := .type "tuple", dict := dct, data := .seq us n, slots := sl } ∧
      R (.ok (.ret (.ref (s.heap.push { cls := .type "tuple_iterator", data := .fields #[.ref l, .int 0 0] }).objs.size)))
        { s with heap := (s.heap.push { cls := .type "tuple_iterator", data := .fields #[.ref l, .int 0 0] }).push { cls := .type "enumerate", data := .fields #[.none, .bool false, .ref s.heap.objs.size, rawInt 0, .none, .none] } }) :=
  .of_wp fun prog w A R s h => by
    obtain ⟨hp, g, d, tk, os⟩ := s; obtain ⟨ht, h⟩ := h
    have hsub := sub_enumerate
    have hT : Heap.IsTuple (Shared.heap ⟨hp, g, d, tk, os⟩) l us := ⟨_, ht, rfl, n, rfl⟩
    wp_walk using wpAny_loadPart' ht
    refine wpAny_stack_any fun st => wpAny_pure ?_
    split
    · rename_i c _ _ _ _ _
      cases (c == Value.type "enumerate")
      · wp_walk using wpAny_loadPart' ht, wpAny_pyIter_tuple hT
        exact ⟨_, rfl, h⟩
      · wp_walk using wpAny_loadPart' ht, wpAny_pyIter_tuple hT
        exact ⟨_, rfl, h⟩
    · wp_walk using wpAny_loadPart' ht, wpAny_pyIter_tuple hT
      exact ⟨_, rfl, h⟩
section
variable {prog : Program} {w : World} {A : Around} {E : Value → Shared → Prop} {s : Shared}
theorem call_enumT {l : Addr} {us : Array Value} {Q : Value → Shared → Prop} (hT : s.heap.IsTuple l us)
    (h : ∀ h', IsEnum h' (s.heap.objs.size + 1) s.heap.objs.size 0 .none → h'.IsTupleIter s.heap.objs.size l 0 →
      (∀ b o, s.heap.get? b = some o → h'.get? b = some o) → Q (.ref (s.heap.objs.size + 1)) { s with heap := h' }) :
    wpAny (model prog w) A (call (.type "enumerate") [.ref l]) Q E s := by
  obtain ⟨⟨c, dct, dt, sl⟩, hl, hc, n, hd⟩ := hT
  replace hc : c = .type "tuple" := hc
  replace hd : dt = .seq us n := hd
  subst hc hd
  refine callType_new F.called_enumerate (by decide) (F.typeCall_enumerate_1 _) (F.newCall_enumerate_1 _) (fun obj => F.args_object_init_2 obj _) F.entry_enumerate_new
    (meets_enumT l us n dct sl) ⟨hl, ?_⟩
  have hz : (s.heap.push { cls := .type "tuple_iterator", data := .fields #[.ref l, .int 0 0] }).objs.size = s.heap.objs.size + 1 := Heap.size_push ..
  show _ ∧ _
  rw [hz]
  have he : IsEnum ((s.heap.push { cls := .type "tuple_iterator", data := .fields #[.ref l, .int 0 0] }).push
      { cls := .type "enumerate", data := .fields #[.none, .bool false, .ref s.heap.objs.size, rawInt 0, .none, .none] }) (s.heap.objs.size + 1) s.heap.objs.size 0 .none := by
    have q := Heap.get?_push_size (s.heap.push { cls := .type "tuple_iterator", data := .fields #[.ref l, .int 0 0] })
      (o := { cls := .type "enumerate", data := .fields #[.none, .bool false, .ref s.heap.objs.size, rawInt 0, .none, .none] }) rfl
    rw [hz] at q; exact q
  exact ⟨⟨_, he, rfl⟩, h _ he ⟨_, Heap.get?_push_of_some _ (Heap.get?_push_size _ rfl), rfl, rfl⟩ fun b o x => Heap.get?_push_of_some _ (Heap.get?_push_of_some _ x)⟩
end
end Fw
set_option Elab.async false
set_option linter.all false
set_option maxRecDepth 100000
set_option maxHeartbeats 4000000
namespace Fw
open PySem PySem.Spec PyProof.Rows L2
/-- a tuple, its items numbered -/
def IteT (K : PySem.W.Frag) (a : Addr) : It :=
  ⟨fun i H => ∃ (xs : List V) (x : V), SqT K H a xs ∧ xs[i]? = some x, fun i H v H' => ∃ T x, v = .ref T ∧ H T = none ∧ H' = upd H T (.tup [.int (i : Nat), x]) ∧ ∀ xs, SqT K H a xs → xs[i]? = some x, fun i H => ∃ xs : List V, SqT K H a xs ∧ xs.length = i⟩
theorem turn_enumT {P : Program} {w : World} {K : PySem.W.Frag} {elts : List Expr} {kk : Nat} {tpos : Pos} (a e it : Addr) (hae : a ≠ e) (hai : a ≠ it) :
    Turn P w K (.Tuple elts kk tpos) (IteT K a) [e, it] e (fun i h => (∃ old, IsEnum h e it ((i : Nat) : Int) old) ∧ h.IsTupleIter it a i ∧ e ≠ it) where
  mem := by simp
  obj := fun i h st b hb => by
    obtain ⟨⟨old, he⟩, ⟨o, ho, hc, hd⟩, _⟩ := st
    have e' : b = e ∨ b = it := by simpa using hb
    rcases e' with z | z
    · rw [z]; exact ⟨_, he, fun v q => nomatch q⟩
    · rw [z]; exact ⟨o, ho, fun v q => by rw [hd] at q; cases q⟩
  keep := fun i h h' st k => let ⟨⟨old, he⟩, hi, hne⟩ := st; ⟨⟨old, k e (by simp) _ he⟩, hi.at fun o q => k it (by simp) o q, hne⟩
  item := by
    intro X hP hw hK hc i pins s σ H E I hf st hg
    subst hP hw hK
    obtain ⟨⟨old, he⟩, hit, hne⟩ := st
    obtain ⟨xs, x, hq, hx⟩ := hg
    obtain ⟨its, rv, p, hz⟩ := I.tuple hq
    obtain ⟨u, hu, ru⟩ := rv.get hx
    have hel : e < s.heap.objs.size := Heap.lt_size he
    have hil : it < s.heap.objs.size := by obtain ⟨_, q, _⟩ := hit; exact Heap.lt_size q
    have hlt : i < its.toArray.size := by
      rw [List.size_toArray]
      exact (List.getElem?_eq_some_iff.mp hu).1
    refine wpAny_pyNext_enum_itemD (Draws.tuple (A := X.A.in1) (show X.A.in1.handled = none from I.ok.hd hc) it a hai its.toArray) he ⟨hit, show s.heap.IsTuple a its.toArray from p⟩ hlt hne (by simp [hne, hae.symm]) fun x' h' tk hP ho hst hT hsz hk => ?_
    have ex : x' = u := by
      have hP : its.toArray[i]? = some x' := hP
      rw [List.getElem?_toArray, hu] at hP
      cases hP
      rfl
    subst ex
    refine ⟨_, rfl, wpAny_letOwnedTupleGo_enum (s := { s with heap := h', toks := tk + 1 }) ho fun h'' he' sb => ?_⟩
    have hT2 : h''.get? s.heap.objs.size = some { cls := .type "tuple", data := .seq #[.int i tk, x'] } := (sb.2 _ (Nat.ne_of_gt hel)).trans hT
    have new : ObjOk X.prog X.w (upd H s.heap.objs.size (.tup [.int (i : Nat), x])) h'' s.heap.objs.size (.tup [.int (i : Nat), x]) :=
      ⟨by show 2 ≤ sizeLine; decide, [.int i tk, x'], .cons ⟨_, rfl⟩ (.cons ru .nil), ⟨_, hT2, rfl, _, rfl⟩⟩
    have I1 : Inv X pins σ (upd H s.heap.objs.size (.tup [.int (i : Nat), x])) { s with heap := h'', toks := tk + 1 } :=
      I.turnedNew (ch := [e, it]) (fun b ob hb q => (sb.2 b (fun z => hb (by simp [z]))).trans (hk b ob (fun z => hb (by simp [z])) (fun z => hb (by simp [z])) q)) hf (Nat.le_refl _) new
    refine ⟨.ref s.heap.objs.size, _, I1, rfl, ⟨_, x, rfl, I.hok.fresh (Nat.le_refl _), rfl, fun ys hy => by rw [I.tuple_inj hy hq]; exact hx⟩, ⟨⟨x', ?_⟩, hst.1.at fun o q => (sb.2 it (Ne.symm hne)).trans q, hne⟩, fun b hb => ?_⟩
    · have e1 : ((i + 1 : Nat) : Int) = (i : Int) + 1 := by omega
      rw [e1]; exact he'
    · have hb' : b < s.heap.objs.size := by
        have e' : b = e ∨ b = it := by simpa using hb
        rcases e' with z | z
        · rw [z]; exact hel
        · rw [z]; exact hil
      rw [upd_ne (Nat.ne_of_lt hb')]
      exact (hf b hb).1
  done := by
    intro X hP hw hK hc i pins s σ H E I hf st hg
    subst hP hw hK
    obtain ⟨⟨old, he⟩, hit, hne⟩ := st
    obtain ⟨xs, hq, hx⟩ := hg
    obtain ⟨its, rv, p, hz⟩ := I.tuple hq
    obtain ⟨f0, f1, f2, f3, f4, f5⟩ := hf it (by simp)
    subst hx
    have hn : xs.length = its.toArray.size := by rw [List.size_toArray]; exact rv.length
    refine wpAny_pyNext_enum_endD (Draws.tuple (A := X.A.in1) (show X.A.in1.handled = none from I.ok.hd hc) it a hai its.toArray) he ⟨hn ▸ hit, show s.heap.IsTuple a its.toArray from p⟩ fun h' eb => ⟨rfl, I.turned (t' := s.toks) (fun b o hb q => eb b o hb q) f0 f1 f3 f4 f5⟩
  self := fun A i s Q E st h => let ⟨⟨_, he⟩, _⟩ := st; wpAny_pyIter_enum he h
theorem walk_enumT {K : PySem.W.Frag} {a : Addr} {xs : List V} : Walk (IteT K a) xs.length (fun H => SqT K H a xs) (YPair (fun i => some (.int (i : Nat))) (fun i => xs[i]?)) := by
  refine ⟨fun i _ hi q => ⟨xs, xs[i], q, by simp [hi]⟩, fun _ q => ⟨xs, q, rfl⟩, fun i H v H' _ q y => ?_⟩
  obtain ⟨T, x, h1, h2, h3, h4⟩ := y
  exact ⟨T, .int (i : Nat), x, h1, h2, h3, rfl, h4 xs q⟩
/-- enumerate of a list or of a tuple -/
def iEnumE (K : PySem.W.Frag) (ta : TA) : TI := fun σ H R => ta σ H fun vs H1 => ∃ a xs, vs = [.ref a] ∧ ((SqL K H1 a xs ∧ R (Ite K a) H1) ∨ (SqT K H1 a xs ∧ R (IteT K a) H1))
theorem pi_enumE {X : Cx} {e : Expr} {ta : TA} {p pos tpos : Pos} {elts : List Expr} {kk : Nat} (hg : Gl X "enumerate") (hm : X.mg "enumerate" = none) (ha : PA X [e] ta) (hs : starEach [e] X.env = [(false, eval e X.env)] := by rfl) :
    PI X (.Tuple elts kk tpos) (.Call (.Name "enumerate" p) [e] [] pos) (iEnumE X.K ta) := by
  refine ⟨fun pins s σ H R I h => ?_⟩
  refine Call_ (ld_blt I hg hm boot_enumerate (PyProof.Rows.callWith_type1 (thn (ha.run pos pins s σ H _ I h) fun us s1 ⟨vs, H1, I1, r1, q1⟩ => ?_) hs rfl))
  obtain ⟨a, xs, ex, q1⟩ := q1
  subst ex
  cases r1 with
  | cons r rr =>
    cases rr
    cases r
    have fp : ∀ b, b = s1.heap.objs.size + 1 ∨ b = s1.heap.objs.size → FpOk X pins H1 b := fun b z => by
      have hle : s1.heap.objs.size ≤ b := by
        rcases z with z | z
        · rw [z]; exact Nat.le_add_right _ _
        · rw [z]; exact Nat.le_refl _
      exact I1.fpOk hle (I1.hok.fresh hle)
    rcases q1 with ⟨hq, q⟩ | ⟨hq, q⟩
    · obtain ⟨its, rv, p', hz⟩ := I1.list hq
      refine call_enumerate_list p'.isList fun h' he hit hsz hk => wpAny_pyIter_enum he ?_
      exact ⟨s1.heap.objs.size + 1, [s1.heap.objs.size + 1, s1.heap.objs.size], _, _, H1, rfl, I1.kept (t' := s1.toks) hk, turn_enum a (s1.heap.objs.size + 1) s1.heap.objs.size, ⟨⟨.none, he⟩, hit, Nat.succ_ne_self _⟩, fun b hb => fp b (by simpa using hb), q⟩
    · obtain ⟨its, rv, p', hz⟩ := I1.tuple hq
      have ht : s1.heap.IsTuple a its.toArray := p'
      have hlt : a < s1.heap.objs.size := by obtain ⟨o, ho, _⟩ := ht; exact Heap.lt_size ho
      refine call_enumT ht fun h' he hit hk => wpAny_pyIter_enum he ?_
      exact ⟨s1.heap.objs.size + 1, [s1.heap.objs.size + 1, s1.heap.objs.size], _, _, H1, rfl, I1.kept (t' := s1.toks) hk, turn_enumT a (s1.heap.objs.size + 1) s1.heap.objs.size (Nat.ne_of_lt (Nat.lt_succ_of_lt hlt)) (Nat.ne_of_lt hlt), ⟨⟨.none, he⟩, hit, Nat.succ_ne_self _⟩, fun b hb => fp b (by simpa using hb), q⟩
/-- a list or a tuple, walked -/
def iSeq (K : PySem.W.Frag) (tl : TE) : TI := fun σ H R => tl σ H fun x H1 => ∃ a xs, x = .ref a ∧ ((SqL K H1 a xs ∧ R (Itl K a) H1) ∨ (SqT K H1 a xs ∧ R (Itt K a) H1))
theorem pi_seq {X : Cx} {tg l : Expr} {tl : TE} (hl : PE X l tl) : PI X tg l (iSeq X.K tl) := by
  refine ⟨fun pins s σ H R I h => ?_⟩
  refine thn (hl.run pins s σ H _ I h) fun v s1 ⟨x, H1, I1, r1, q1⟩ => ?_
  obtain ⟨a, xs, e, q1⟩ := q1
  subst e
  cases r1
  have fp : ∀ b, b = s1.heap.objs.size → FpOk X pins H1 b := fun b z => by
    subst z
    exact I1.fpOk (Nat.le_refl _) (I1.hok.fresh (Nat.le_refl _))
  rcases q1 with ⟨hq, q⟩ | ⟨hq, q⟩
  · obtain ⟨its, rv, p, hz⟩ := I1.list hq
    refine wpAny_pyIter_list p.isList ?_
    exact ⟨s1.heap.objs.size, [s1.heap.objs.size], _, _, H1, rfl, I1.kept (t' := s1.toks) fun b o e => Heap.get?_push_of_some _ e, turn_list a _, ⟨_, Heap.get?_push_size _ rfl, rfl, rfl⟩, fun b hb => fp b (by simpa using hb), q⟩
  · obtain ⟨its, rv, p, hz⟩ := I1.tuple hq
    refine wpAny_pyIter_tuple (show s1.heap.IsTuple a its.toArray from p) ?_
    exact ⟨s1.heap.objs.size, [s1.heap.objs.size], _, _, H1, rfl, I1.kept (t' := s1.toks) fun b o e => Heap.get?_push_of_some _ e, turn_tuple a _, ⟨_, Heap.get?_push_size _ rfl, rfl, rfl⟩, fun b hb => fp b (by simpa using hb), q⟩
end Fw
set_option Elab.async false
set_option linter.all false
set_option maxRecDepth 100000
set_option maxHeartbeats 4000000
namespace Fw
open PySem PySem.Spec PyProof.Rows L2
open C8 (Cal CalAt Met Mak pe_c pe_mk pe_mt pe_mt0 pe_gc InsC call_isC)

section
variable {P : Program} {w : World} {K : PySem.W.Frag} {mg : Str → Option Value} {base : Heap}

theorem call_isiK {X : Cx} (h : X.K = K) : CallR X (.builtin "isinstance") (rIsi K) := h ▸ call_isi
theorem cut2T {x y z : V} : cutV [x, y, z] none (some 2) = [x, y] := rfl
theorem s_is_want : FnScope ["names", "thing", "one"] ["names", "thing"] d_is_want.scope := ⟨rfl, rfl, rfl, by decide +kernel, rfl, by decide +kernel, by decide +kernel⟩
theorem c_is_want (T : Txt w K mg) : Cal P w K mg base 1 "is_want" (fun vs H Q _ => ∃ (p : Addr) (ns : List Str) (v : V) (wt : Want), vs = [.ref p, v] ∧ SqT K H p (ns.map V.str) ∧ WantAt K H wt v ∧ wt.1 ∈ ns ∧ wt.2.1 ∈ ns ∧ ∀ H', Same H H' → Q (.bl true) H') [] := by
  refine T.cal 55 43 (d := d_is_want) (S := s_is_want) (hb := fun _ _ _ _ _ _ us hl => match us, hl with | [_, _], _ => rfl) (len := fun vs H Q E h => ?_) (hbody := fun cdv A outer s H vs Q E hr h => ?_)
  · obtain ⟨p, ns, v, wt, rfl, hS, ⟨t, sp, rfl, ht, hSp⟩, m1, m2, k⟩ := h
    rfl
  · obtain ⟨p, ns, v, wt, rfl, hS, ⟨t, sp, rfl, ht, hSp⟩, m1, m2, k⟩ := h
    refine ⟨_, (pss_cons (ps_if (PW.pt (pw_or (pt_not (pt_val (pe_callB (id := "isinstance") call_isi (by rfl) (T.f 103) (by decide +kernel) (pa_cons (pv 1) (pa_cons (pe_bltn (v := .ty "tuple") (by rfl) (T.f 111) (by decide +kernel) rfl) pa_nil))))) (pw_or (pt_cmpR op_ne (pe_callB (id := "len") (call_len_seqK (K := K) rfl) (by rfl) (T.f 104) (by decide +kernel) (pa_cons (pv 1) pa_nil)) pe_int (nomark _)) (pw_or1 (pt_not (pt_val (pe_callB (id := "isinstance") (call_isC T.inS) (by rfl) (T.f 103) (by decide +kernel) (pa_cons (pe_ix (ix_tupK (K := K) rfl) (pv 1) pe_int (fun _ _ => rfl)) (pa_cons (pe_gc rfl (T.gr 30)) pa_nil))))))))) (pss_one (ps_ret pe_bl)) pss_nil)
      (pss_one (ps_ret (pe_callB (id := "all") (cr_all rfl) (by rfl) (T.f 97) (by decide +kernel) (pa_cons (pe_lc (own := [("one", 2)]) (g := (gName 2)) rfl s_is_want.nd (pi_tup (pe_slice (sl_tupAK (K := K) rfl) (pv 1) po_none (po_some pe_int))) (blkOk_by (N := ["names", "thing", "one"]) (sc := d_is_want.scope) (own := [("one", 2)]) (by decide +kernel)) (fun _ _ _ _ _ => (pg_name (i := 2) s_is_want.nd rfl (Or.inl rfl))) (fun _ _ _ _ _ => pts_nil) (fun _ _ _ _ _ => (pe_and (pe_callB (id := "isinstance") (call_isiK (K := K) rfl) (by rfl) (T.f 103) (by decide +kernel) (pa_cons (pv 2) (pa_cons (pe_bltn (v := .ty "str") (by rfl) (T.f 109) (by decide +kernel) rfl) pa_nil))) (pe_one (pe_cmpR (op_in_seqK (K := K) rfl) (pv 2) (pv 0) (by rfl)))))) pa_nil))))), ?_⟩
    obtain ⟨one, other, pr⟩ := wt
    obtain ⟨dxs, hsp⟩ := id hSp
    have ht : H t = some (.tup [.str one, .str other, .ref sp]) := ht
    refine ⟨_, rfl, .ref t, .ty "tuple", .type "tuple", .type "tuple", true, rfl, .ty "tuple", .base (.tup ht), kit_ty (by decide +kernel), true, rfl, ?_⟩
    refine ⟨_, rfl, _, _, rfl, Or.inr (SqT.of ht), rfl, _, rfl, ?_⟩
    refine ⟨_, rfl, t, _, _, _, rfl, rfl, SqT.of ht, atI_nat (j := 2) rfl, sp, dxs, _, rfl, hsp, _, rfl, ?_⟩
    refine iteF ?_
    unfold tNext tRet tCB tCons
    dsimp only
    refine ⟨_, rfl, _, rfl, t, [.str one, .str other, .ref sp], rfl, SqT.of ht, (fun h => absurd h.2 (by show ¬ (2 = 3); decide)), fun _ q hq => ?_⟩
    have sq := same_new (o := .tup (cutV [.str one, .str other, .ref sp] none (some 2))) hq
    have hq2 : SqT K (upd H q (.tup (cutV [.str one, .str other, .ref sp] none (some 2)))) q ((sP [one, other]).map (·.1)) := SqT.of upd_same
    generalize upd H q (.tup (cutV [.str one, .str other, .ref sp] none (some 2))) = H1 at sq hq2 ⊢
    refine ⟨q, rfl, ⟨_, hq2⟩, fun D hD => lcE_tup (ps := sP [one, other]) (f := fun _ => true) (El := fun _ v _ => v = .bl true) (fun _ _ _ _ _ h => h) hD hq2 (by show 2 ≤ 100000; decide) ?_ ?_⟩
    · intro i x b H2 Kt Kf hp s2 kt kf
      obtain ⟨rfl, hm⟩ := sP_get hp
      have hb : b ∈ ns := by
        rcases List.mem_cons.mp hm with e | e
        · rw [e]; exact m1
        · rw [List.mem_singleton.mp e]; exact m2
      refine ⟨rfl, ?_⟩
      refine iteT (B := Kf H2) ?_
      refine ⟨_, rfl, .str b, .ty "str", .type "str", .type "str", true, rfl, .ty "str", .base (.str _), kit_ty (by decide +kernel), true, rfl, ?_⟩
      refine iteT ?_
      refine ⟨_, rfl, _, rfl, p, _, rfl, Or.inr (hS.ext (sq.trans s2)), rfl, flat_strs _, ?_⟩
      rw [inV_strs, decide_eq_true hb]
      exact kt rfl _ _ (Same.refl _) rfl
    · intro H' vs s' hv pv
      have ev : vs = [.bl true, .bl true] := by
        cases pv with
        | cons h t =>
          cases t with
          | cons h2 t2 =>
            cases t2
            rw [h, h2]
      rw [ev] at hv
      refine ⟨D, [true, true], rfl, SqL.of hv, ?_⟩
      exact k _ (sq.trans s')
end
end Fw
set_option Elab.async false
set_option linter.all false
set_option maxRecDepth 100000
set_option maxHeartbeats 4000000
namespace Fw
open PySem PySem.Spec PyProof.Rows L2
open C8 (Cal CalAt Met Mak pe_c pe_mk pe_mt pe_mt0 pe_gc InsC call_isC)

section
variable {P : Program} {w : World} {K : PySem.W.Frag} {mg : Str → Option Value} {base : Heap}

/-- wants: a list or a tuple of them -/
def WtsAt (K : PySem.W.Frag) (H : Hp) (l : Addr) (wts : List Want) : Prop := ∃ xs, (H l = some (.lst xs) ∨ H l = some (.tup xs)) ∧ Paired (WantAt K H) wts xs
theorem WtsAt.ext {H H' : Hp} {l : Addr} {wts : List Want} (h : WtsAt K H l wts) (e : Same H H') : WtsAt K H' l wts := by
  obtain ⟨xs, h1, h2⟩ := h
  exact ⟨xs, h1.imp (e _ _) (e _ _), p_imp h2 fun _ _ q => q.kp (Kp.of e)⟩
def WtsIn (z : Str) (rs : List Row) (wts : List Want) : Prop := ∀ wt ∈ wts, wt.1 ∈ z :: rnm rs ∧ wt.2.1 ∈ z :: rnm rs
theorem s_check_wants : FnScope ["drawing", "wants", "names", "number", "want"] ["drawing", "wants"] d_check_wants.scope := ⟨rfl, rfl, rfl, by decide +kernel, rfl, by decide +kernel, by decide +kernel⟩
theorem c_check_wants (T : Txt w K mg) : Cal P w K mg base 2 "check_wants" (fun vs H Q _ => ∃ (a d l : Addr) (z : Str) (rs : List Row) (wts : List Want), vs = [.ref a, .ref l] ∧ DrawAt K H a d z rs ∧ WtsAt K H l wts ∧ WtsIn z rs wts ∧ ∀ H', Same H H' → Q .non H') [] := by
  refine T.cal 56 44 (d := d_check_wants) (S := s_check_wants) (hb := fun _ _ _ _ _ _ us hl => match us, hl with | [_, _], _ => rfl) (len := fun vs H Q E h => ?_) (hbody := fun cdv A outer s H vs Q E hr h => ?_)
  · obtain ⟨a, d, l, z, rs, wts, rfl, hD, ⟨xs, hl, hw⟩, hin, k⟩ := h
    rfl
  · obtain ⟨a, d, l, z, rs, wts, rfl, hD, ⟨xs, hl, hw⟩, hin, k⟩ := h
    refine ⟨_, (pss_cons (ps_expr (pe_c (c_check_drawing T) hr (by decide) rfl (pa_cons (pv 0) pa_nil)))
      (pss_cons (ps_if (pt_not (pt_val (pe_callB (id := "isinstance") call_isiT (by rfl) (T.f 103) (by decide +kernel) (pa_cons (pv 1) (pa_cons (pe_tup (pa_cons (pe_bltn (v := .ty "list") (by rfl) (T.f 105) (by decide +kernel) rfl) (pa_cons (pe_bltn (v := .ty "tuple") (by rfl) (T.f 111) (by decide +kernel) rfl) pa_nil))) pa_nil))))) (pss_one ps_never) pss_nil)
      (pss_cons (ps_set (i := 2) s_check_wants.nd rfl (Or.inl rfl) (pe_mt0 (c_Drawing_names T) hr (by decide) (pv 0)))
      (pss_one (ps_for PassesOwn.never rfl (pi_enumE (by rfl) (T.f 101) (pa_cons (pv 1) pa_nil)) (pg_tup rfl (pgs_cons (pg_name (i := 3) s_check_wants.nd rfl (Or.inl rfl)) (pgs_cons (pg_name (i := 4) s_check_wants.nd rfl (Or.inl rfl)) pgs_nil)))
      (pss_one (ps_if (pt_not (pt_val (pe_c (c_is_want T) hr (by decide) rfl (pa_cons (pv 2) (pa_cons (pv 4) pa_nil))))) (pss_one ps_never) pss_nil))))))), ?_⟩
    obtain ⟨dx, hi⟩ := hD.ins
    refine ⟨_, rfl, a, d, z, rs, rfl, hD, ?_⟩
    refine ⟨_, rfl, sz2, fun tp htp => ?_⟩
    have s1 := same_new (o := .tup [.ty "list", .ty "tuple"]) htp
    have hl1 := hl.imp (s1 _ _) (s1 _ _)
    obtain ⟨ty, hty, hk⟩ : ∃ ty, TyX K (upd H tp (.tup [.ty "list", .ty "tuple"])) (.ref l) ty ∧ PySem.W.kitAny K ty [.type "list", .type "tuple"] = some true := by
      rcases hl1 with h | h
      · exact ⟨_, .base (.lst h), kitAny_cons (kit_ty (b := "list") (r := true) (by decide +kernel)) (fun h => by cases h) (fun _ => rfl)⟩
      · exact ⟨_, .base (.tup h), kitAny_cons (kit_ty (b := "list") (r := false) (by decide +kernel)) (fun _ => kitAny_cons (kit_ty (b := "tuple") (r := true) (by decide +kernel)) (fun h => by cases h) (fun _ => rfl)) (fun h => by cases h)⟩
    refine ⟨.ref l, tp, _, ty, [.type "list", .type "tuple"], true, rfl, upd_same, .cons (.ty _) (.cons (.ty _) .nil), hty, hk, _, rfl, ?_⟩
    refine iteF ?_
    refine ⟨_, rfl, a, dx, _, rfl, s1 _ _ hi, rfl, a, d, z, rs, rfl, hD.ext s1, fun p H1 hp s2 e2 => ?_⟩
    have s12 := s1.trans s2
    have hl2 := hl.imp (s12 _ _) (s12 _ _)
    have step : ∀ (i : Nat) (x : V) (H' : Hp), Same H1 H' → xs[i]? = some x → ∃ wt, WantAt K H' wt x ∧ wt.1 ∈ z :: rnm rs.reverse ∧ wt.2.1 ∈ z :: rnm rs.reverse := fun i x H' s hx => by
      obtain ⟨wt, h1, h2⟩ := p_get hw hx
      obtain ⟨m1, m2⟩ := hin wt (List.mem_of_getElem? h1)
      exact ⟨wt, h2.kp (Kp.of (s12.trans s)), mem_names.mpr m1, mem_names.mpr m2⟩
    have fin : ∀ (σ' : L2.St) (H' : Hp), (∃ o3 o4 : Option V, σ' = [some (.ref a), some (.ref l), some (.ref p), o3, o4] ∧ Same H1 H') → Q .non H' := fun σ' H' ⟨_, _, _, s⟩ => k _ (s12.trans s)
    refine ⟨_, rfl, l, xs, rfl, ?_⟩
    rcases hl2 with hl2 | hl2
    · refine Or.inl ⟨SqL.of hl2, for_it (walk_enum (K := K) (a := l) (xs := xs)) (fun i σ' H' => ∃ o3 o4, σ' = [some (.ref a), some (.ref l), some (.ref p), o3, o4] ∧ Same H1 H') ⟨none, none, rfl, Same.refl _⟩ (fun i σ' H' _ ⟨_, _, _, s⟩ => SqL.of (s _ _ hl2)) ?_ fin⟩
      rintro i v σ' H' H'' hil ⟨o3, o4, rfl, s⟩ ⟨t, x1, x2, rfl, ht, rfl, e1, e2'⟩
      cases e1
      have st := same_new (o := .tup [.int (i : Int), x2]) ht
      obtain ⟨wt, hwt, m1, m2⟩ := step i x2 _ (s.trans st) e2'
      refine ⟨t, _, rfl, SqT.of upd_same, rfl, _, _, rfl, _, _, rfl, rfl, ?_⟩
      exact ⟨_, rfl, _, rfl, p, _, _, wt, rfl, SqT.of ((s.trans st) _ _ e2), hwt, m1, m2, fun H3 s3 => ⟨_, rfl, _, _, rfl, (s.trans st).trans s3⟩⟩
    · refine Or.inr ⟨SqT.of hl2, for_it (walk_enumT (K := K) (a := l) (xs := xs)) (fun i σ' H' => ∃ o3 o4, σ' = [some (.ref a), some (.ref l), some (.ref p), o3, o4] ∧ Same H1 H') ⟨none, none, rfl, Same.refl _⟩ (fun i σ' H' _ ⟨_, _, _, s⟩ => SqT.of (s _ _ hl2)) ?_ fin⟩
      rintro i v σ' H' H'' hil ⟨o3, o4, rfl, s⟩ ⟨t, x1, x2, rfl, ht, rfl, e1, e2'⟩
      cases e1
      have st := same_new (o := .tup [.int (i : Int), x2]) ht
      obtain ⟨wt, hwt, m1, m2⟩ := step i x2 _ (s.trans st) e2'
      refine ⟨t, _, rfl, SqT.of upd_same, rfl, _, _, rfl, _, _, rfl, rfl, ?_⟩
      exact ⟨_, rfl, _, rfl, p, _, _, wt, rfl, SqT.of ((s.trans st) _ _ e2), hwt, m1, m2, fun H3 s3 => ⟨_, rfl, _, _, rfl, (s.trans st).trans s3⟩⟩
end
end Fw
set_option Elab.async false
set_option linter.all false
set_option maxRecDepth 100000
set_option maxHeartbeats 4000000
namespace Fw
open PySem PySem.Spec PyProof.Rows L2
open C8 (Cal CalAt Met Mak pe_c pe_mk pe_mt pe_mt0 pe_gc InsC call_isC)

section
variable {P : Program} {w : World} {K : PySem.W.Frag} {mg : Str → Option Value} {base : Heap}

def heldW (lo hi alo ahi : Int) : Str :=
  let near := if lo < alo then alo else lo
  let far := if ahi < hi then ahi else hi
  if far < near then "never" else if lo < near then "may" else if far < hi then "may" else "sure"
def heldP (rs : List Row) (wt : Want) : Str := heldW ((betP rs wt.1 wt.2.1).1 - (betP rs wt.1 wt.2.1).2.2) ((betP rs wt.1 wt.2.1).1 + (betP rs wt.1 wt.2.1).2.1) (wt.2.2.1 - wt.2.2.2.2) (wt.2.2.1 + wt.2.2.2.1)
def HeldAt (H : Hp) (s : Str) (v : V) : Prop := ∃ t v1 v2, v = .ref t ∧ H t = some (.tup [.str s, v1, v2])
theorem HeldAt.kp {H H' : Hp} {s : Str} {v : V} (h : HeldAt H s v) (e : Kp H H') : HeldAt H' s v := by
  obtain ⟨t, v1, v2, a, b⟩ := h
  exact ⟨t, v1, v2, a, e _ _ trivial b⟩
theorem s_held : FnScope ["drawing", "want", "one", "other", "asked", "free", "near", "far", "goes"] ["drawing", "want"] d_held.scope := ⟨rfl, rfl, rfl, by decide +kernel, rfl, by decide +kernel, by decide +kernel⟩
theorem c_held (T : Txt w K mg) : Cal P w K mg base 9 "held" (fun vs H Q _ => ∃ (a d : Addr) (z : Str) (rs : List Row) (wt : Want) (v : V), vs = [.ref a, v] ∧ DrawAt K H a d z rs ∧ WantAt K H wt v ∧ wt.1 ∈ z :: rnm rs ∧ wt.2.1 ∈ z :: rnm rs ∧ ∀ v' H', Same H H' → HeldAt H' (heldP rs wt) v' → Q v' H') [] := by
  refine T.cal 57 45 (d := d_held) (S := s_held) (hb := fun _ _ _ _ _ _ us hl => match us, hl with | [_, _], _ => rfl) (len := fun vs H Q E h => ?_) (hbody := fun cdv A outer s H vs Q E hr h => ?_)
  · obtain ⟨a, d, z, rs, wt, v, rfl, hD, ⟨t, sp, rfl, ht, hSp⟩, m1, m2, k⟩ := h
    rfl
  · obtain ⟨a, d, z, rs, wt, v, rfl, hD, ⟨t, sp, rfl, ht, hSp⟩, m1, m2, k⟩ := h
    have clS := T.cl 118
    refine ⟨_, (pss_cons (ps_asg (pv 1) (pg_tup rfl (pgs_cons (pg_name (i := 2) s_held.nd rfl (Or.inl rfl)) (pgs_cons (pg_name (i := 3) s_held.nd rfl (Or.inl rfl)) (pgs_cons (pg_name (i := 4) s_held.nd rfl (Or.inl rfl)) pgs_nil)))))
      (pss_cons (ps_set (i := 5) s_held.nd rfl (Or.inl rfl) (pe_mt (c_Drawing_between T) hr (by decide) (pv 0) (pa_cons (pv 2) (pa_cons (pv 3) pa_nil))))
      (pss_cons (ps_par (i := 6) (j := 7) (by rfl) s_held.nd rfl rfl (by decide) rfl rfl (pa_cons (pe_callB (id := "max") (call_max2 rfl) (by rfl) (T.f 106) (by decide +kernel) (pa_cons (pe_fld (pv 5) rfl) (pa_cons (pe_fld (pv 4) rfl) pa_nil))) (pa_cons (pe_callB (id := "min") (call_min2 rfl) (by rfl) (T.f 107) (by decide +kernel) (pa_cons (pe_fld (pv 5) rfl) (pa_cons (pe_fld (pv 4) rfl) pa_nil))) pa_nil)) (by rfl))
      (pss_cons (ps_if (pt_cmpR op_gt (pv 6) (pv 7) (nomark _)) (pss_one (ps_ret (pe_tup (pa_cons pe_str (pa_cons pe_non (pa_cons (pe_mt (c_Drawing_placed T) hr (by decide) (pv 0) (pa_cons (pv 2) (pa_cons (pv 3) (pa_cons (pe_fld (pv 5) rfl) pa_nil)))) pa_nil)))))) pss_nil)
      (pss_cons (ps_set (i := 8) s_held.nd rfl (Or.inl rfl) (pe_mt (c_Drawing_placed T) hr (by decide) (pv 0) (pa_cons (pv 2) (pa_cons (pv 3) (pa_cons (pv 6) pa_nil)))))
      (pss_cons (ps_if (pt_cmpR op_lt (pe_fld (pv 5) rfl) (pv 6) (nomark _)) (pss_one (ps_ret (pe_tup (pa_cons pe_str (pa_cons (pv 8) (pa_cons (pe_mt (c_Drawing_placed T) hr (by decide) (pv 0) (pa_cons (pv 2) (pa_cons (pv 3) (pa_cons (pe_fld (pv 5) rfl) pa_nil)))) pa_nil)))))) pss_nil)
      (pss_cons (ps_if (pt_cmpR op_gt (pe_fld (pv 5) rfl) (pv 7) (nomark _)) (pss_one (ps_ret (pe_tup (pa_cons pe_str (pa_cons (pv 8) (pa_cons (pe_mt (c_Drawing_placed T) hr (by decide) (pv 0) (pa_cons (pv 2) (pa_cons (pv 3) (pa_cons (pe_fld (pv 5) rfl) pa_nil)))) pa_nil)))))) pss_nil)
      (pss_one (ps_ret (pe_tup (pa_cons pe_str (pa_cons (pv 8) (pa_cons pe_non pa_nil))))))))))))), ?_⟩
    obtain ⟨dx, hi⟩ := hD.ins
    obtain ⟨one, other, s', a', b'⟩ := wt
    have ht : H t = some (.tup [.str one, .str other, .ref sp]) := ht
    have hSp : SpanAt K H sp s' a' b' := hSp
    obtain ⟨dxs, hsp⟩ := id hSp
    have m1 : one ∈ z :: rnm rs := m1
    have m2 : other ∈ z :: rnm rs := m2
    have k : ∀ v' H', Same H H' → HeldAt H' (heldW ((betP rs one other).1 - (betP rs one other).2.2) ((betP rs one other).1 + (betP rs one other).2.1) (s' - b') (s' + a')) v' → Q v' H' := k
    refine ⟨_, rfl, t, _, rfl, SqT.of ht, rfl, _, _, rfl, _, _, rfl, _, _, rfl, rfl, ?_⟩
    refine ⟨_, rfl, a, dx, _, rfl, hi, rfl, _, rfl, _, rfl, a, d, z, rs, one, other, rfl, hD, m1, m2, fun fr H1 hfr s1 hF => ?_⟩
    generalize (betP rs one other).1 = q1 at *
    generalize (betP rs one other).2.1 = q2 at *
    generalize (betP rs one other).2.2 = q3 at *
    obtain ⟨dxf, hf⟩ := id hF
    have hsp := s1 _ _ hsp
    refine ⟨_, rfl, fr, _, dxf, _, _, rfl, hf, clS, T.na 123, rfl, _, rfl, sp, _, dxs, _, _, rfl, hsp, clS, T.na 123, rfl, _, _, rfl, ?_⟩
    refine ⟨_, rfl, fr, _, dxf, _, _, rfl, hf, clS, T.na 124, rfl, _, rfl, sp, _, dxs, _, _, rfl, hsp, clS, T.na 124, rfl, _, _, rfl, _, _, rfl, ?_⟩
    unfold heldW at k
    dsimp only at k
    generalize (if q1 - q3 < s' - b' then s' - b' else q1 - q3) = near at *
    generalize (if s' + a' < q1 + q2 then s' + a' else q1 + q2) = far at *
    refine ⟨_, rfl, _, rfl, _, _, rfl, rfl, _, rfl, ?_⟩
    have hi1 := s1 _ _ hi
    by_cases g1 : far < near
    · rw [if_pos g1] at k
      refine bool_of_true g1 ?_
      exact ⟨_, rfl, a, dx, _, rfl, hi1, rfl, _, rfl, _, rfl, _, rfl, fr, _, dxf, _, _, rfl, hf, clS, T.na 123, rfl, a, d, z, rs, one, other, _, rfl, hD.ext s1, m1, m2, fun v H2 s2 => ⟨sz3, fun t2 ht2 => k _ _ ((s1.trans s2).trans (same_new ht2)) ⟨t2, _, _, rfl, upd_same⟩⟩⟩
    rw [if_neg g1] at k
    refine bool_of_false g1 ?_
    refine ⟨_, rfl, a, dx, _, rfl, hi1, rfl, _, rfl, _, rfl, _, rfl, a, d, z, rs, one, other, _, rfl, hD.ext s1, m1, m2, fun goes H2 s2 => ?_⟩
    have s12 := s1.trans s2
    have hf2 := s2 _ _ hf
    refine ⟨_, rfl, fr, _, dxf, _, _, rfl, hf2, clS, T.na 123, rfl, _, rfl, _, _, rfl, rfl, _, rfl, ?_⟩
    by_cases g2 : q1 - q3 < near
    · rw [if_pos g2] at k
      refine bool_of_true g2 ?_
      exact ⟨_, rfl, _, rfl, a, dx, _, rfl, s12 _ _ hi, rfl, _, rfl, _, rfl, _, rfl, fr, _, dxf, _, _, rfl, hf2, clS, T.na 123, rfl, a, d, z, rs, one, other, _, rfl, hD.ext s12, m1, m2, fun v H3 s3 => ⟨sz3, fun t2 ht2 => k _ _ ((s12.trans s3).trans (same_new ht2)) ⟨t2, _, _, rfl, upd_same⟩⟩⟩
    rw [if_neg g2] at k
    refine bool_of_false g2 ?_
    refine ⟨_, rfl, fr, _, dxf, _, _, rfl, hf2, clS, T.na 124, rfl, _, rfl, _, _, rfl, rfl, _, rfl, ?_⟩
    by_cases g3 : far < q1 + q2
    · rw [if_pos g3] at k
      refine bool_of_true g3 ?_
      exact ⟨_, rfl, _, rfl, a, dx, _, rfl, s12 _ _ hi, rfl, _, rfl, _, rfl, _, rfl, fr, _, dxf, _, _, rfl, hf2, clS, T.na 124, rfl, a, d, z, rs, one, other, _, rfl, hD.ext s12, m1, m2, fun v H3 s3 => ⟨sz3, fun t2 ht2 => k _ _ ((s12.trans s3).trans (same_new ht2)) ⟨t2, _, _, rfl, upd_same⟩⟩⟩
    rw [if_neg g3] at k
    refine bool_of_false g3 ?_
    exact ⟨_, rfl, sz3, fun t2 ht2 => k _ _ (s12.trans (same_new ht2)) ⟨t2, _, _, rfl, upd_same⟩⟩
end
end Fw
set_option Elab.async false
set_option linter.all false
set_option maxRecDepth 100000
set_option maxHeartbeats 4000000
namespace Fw
open PySem PySem.Spec PyProof.Rows L2
open C8 (Cal CalAt Met Mak pe_c pe_mk pe_mt pe_mt0 pe_gc InsC call_isC)

section
variable {P : Program} {w : World} {K : PySem.W.Frag} {mg : Str → Option Value} {base : Heap}

theorem zip_ok {α : Type} {F : α → V → Prop} {ws : List α} {xs : List V} (p : Paired F ws xs) : ((xs.zip ws).map (·.1) = xs ∧ (xs.zip ws).map (·.2) = ws) ∧ ∀ (i : Nat) (x : V) (b : α), (xs.zip ws)[i]? = some (x, b) → F b x ∧ b ∈ ws := by
  have hl := Paired.len p
  refine ⟨⟨List.map_fst_zip (by omega), List.map_snd_zip (by omega)⟩, fun i x b h => ?_⟩
  obtain ⟨h1, h2⟩ := List.getElem?_zip_eq_some.mp h
  exact ⟨Paired.at p h2 h1, List.mem_of_getElem? h2⟩
theorem filter_all {α : Type} (l : List α) : l.filter (fun _ => true) = l := List.filter_eq_self.mpr fun _ _ => rfl
theorem s_judged : FnScope ["drawing", "wants", "want"] ["drawing", "wants"] d_judged.scope := ⟨rfl, rfl, rfl, by decide +kernel, rfl, by decide +kernel, by decide +kernel⟩
theorem c_judged (T : Txt w K mg) : Cal P w K mg base 10 "judged" (fun vs H Q _ => ∃ (a d l : Addr) (z : Str) (rs : List Row) (wts : List Want), vs = [.ref a, .ref l] ∧ DrawAt K H a d z rs ∧ WtsAt K H l wts ∧ WtsIn z rs wts ∧ wts.length ≤ 1000 ∧ RetP H Q (fun H' (wt : Want) v => HeldAt H' (heldP rs wt) v) wts) [] := by
  refine T.cal 58 46 (d := d_judged) (S := s_judged) (hb := fun _ _ _ _ _ _ us hl => match us, hl with | [_, _], _ => rfl) (len := fun vs H Q E h => ?_) (hbody := fun cdv A outer s H vs Q E hr h => ?_)
  · obtain ⟨a, d, l, z, rs, wts, rfl, hD, hW, hin, hlen, k⟩ := h
    rfl
  · obtain ⟨a, d, l, z, rs, wts, rfl, hD, hW, hin, hlen, k⟩ := h
    refine ⟨_, (pss_cons (ps_expr (pe_c (c_check_wants T) hr (by decide) rfl (pa_cons (pv 0) (pa_cons (pv 1) pa_nil))))
      (pss_one (ps_ret (pe_callTy (T := "tuple") call_tuple_of (by rfl) (T.f 111) (by decide +kernel) (pa_cons (pe_lc (own := [("want", 2)]) (g := (gName 2)) rfl s_judged.nd (pi_seq (pv 1)) (blkOk_by (N := ["drawing", "wants", "want"]) (sc := d_judged.scope) (own := [("want", 2)]) (by decide +kernel)) (fun _ _ _ _ _ => (pg_name (i := 2) s_judged.nd rfl (Or.inl rfl))) (fun _ _ _ _ _ => pts_nil) (fun _ _ _ _ _ => (pe_c (c_held T) hr (by decide) rfl (pa_cons (pv 0) (pa_cons (pv 2) pa_nil))))) pa_nil))))), ?_⟩
    refine ⟨_, rfl, _, rfl, a, d, l, z, rs, wts, rfl, hD, hW, hin, fun H1 s1 => ?_⟩
    obtain ⟨xs, hl, hp⟩ := hW.ext s1
    have hD := hD.ext s1
    obtain ⟨⟨z1, z2⟩, z3⟩ := zip_ok hp
    have hzl : (xs.zip wts).length ≤ 100000 := by
      have e : ((xs.zip wts).map (·.2)).length = wts.length := by rw [z2]
      rw [List.length_map] at e
      omega
    have fin : ∀ (D : Addr) (H' : Hp) (vs : List V), H1 D = none → Same H1 H' → H' D = some (.lst vs) → Paired (fun (b : Want) v => HeldAt H' (heldP rs b) v) (((xs.zip wts).map (·.2)).filter fun _ => true) vs → ∀ t, H' t = none → Q (.ref t) (upd H' t (.tup vs)) := by
      intro D H' vs hD' s hv pv t ht
      rw [z2, filter_all] at pv
      have st := same_new (o := .tup vs) ht
      exact k t vs _ ((s1.trans s).free ht) ((s1.trans s).trans st) upd_same (p_imp pv fun _ _ h => h.kp (Kp.of st))
    unfold tRet tCB tCons
    refine ⟨_, rfl, l, xs, rfl, ?_⟩
    rcases hl with hl | hl
    · refine Or.inl ⟨SqL.of hl, fun D hD' => lcE_list (ps := xs.zip wts) (f := fun _ => true) (El := fun (b : Want) v H' => HeldAt H' (heldP rs b) v) (fun _ _ _ _ e h => h.kp e) hD' (by rw [z1]; exact SqL.of hl) hzl ?_ (fun H' vs s hv pv => ⟨D, _, rfl, Or.inl ⟨SqL.of hv, fin D H' vs hD' s hv pv⟩⟩)⟩
      intro i x b H2 Kt Kf hp2 s2 kt kf
      obtain ⟨hw, hm⟩ := z3 i x b hp2
      obtain ⟨m1, m2⟩ := hin b hm
      refine ⟨rfl, ?_⟩
      refine iteT (B := Kf H2) ?_
      exact ⟨_, rfl, _, rfl, a, d, z, rs, b, x, rfl, hD.ext s2, hw.kp (Kp.of s2), m1, m2, fun v' H' s h => kt rfl v' H' s h⟩
    · refine Or.inr ⟨SqT.of hl, fun D hD' => lcE_tup (ps := xs.zip wts) (f := fun _ => true) (El := fun (b : Want) v H' => HeldAt H' (heldP rs b) v) (fun _ _ _ _ e h => h.kp e) hD' (by rw [z1]; exact SqT.of hl) hzl ?_ (fun H' vs s hv pv => ⟨D, _, rfl, Or.inl ⟨SqL.of hv, fin D H' vs hD' s hv pv⟩⟩)⟩
      intro i x b H2 Kt Kf hp2 s2 kt kf
      obtain ⟨hw, hm⟩ := z3 i x b hp2
      obtain ⟨m1, m2⟩ := hin b hm
      refine ⟨rfl, ?_⟩
      refine iteT (B := Kf H2) ?_
      exact ⟨_, rfl, _, rfl, a, d, z, rs, b, x, rfl, hD.ext s2, hw.kp (Kp.of s2), m1, m2, fun v' H' s h => kt rfl v' H' s h⟩
end
end Fw
set_option Elab.async false
set_option linter.all false
set_option maxRecDepth 100000
set_option maxHeartbeats 4000000
namespace Fw
open PySem PySem.Spec PyProof.Rows L2
open C8 (Cal CalAt Met Mak pe_c pe_mk pe_mt pe_mt0 pe_gc InsC call_isC)

section
variable {P : Program} {w : World} {K : PySem.W.Frag} {mg : Str → Option Value} {base : Heap}

def wantS (y : Way) (wt : Want) : Str := (((((Str.empty ++ "want ") ++ wt.1) ++ " to ") ++ wt.2.1) ++ ": ") ++ spanS y wt.2.2.1 wt.2.2.2.1 wt.2.2.2.2
def shownL (y : Way) (z : Str) (rs : List Row) (wts : List Want) : List Str := linesP y z rs ++ wts.map (wantS y)
theorem sum_le {α : Type} (f : α → Nat) (B : Nat) : ∀ (l : List α), (∀ x ∈ l, f x ≤ B) → (l.map f).sum ≤ l.length * B
  | [], _ => Nat.zero_le _
  | x :: l, h => by
    have h1 := h x (List.mem_cons_self ..)
    have h2 := sum_le f B l fun y hy => h y (List.mem_cons_of_mem _ hy)
    rw [List.map_cons, List.sum_cons, List.length_cons, Nat.succ_mul]
    omega
theorem rowS_len (y : Way) {z : Str} {rs : List Row} (g : Good z rs) {r : Row} (h : r ∈ rs) (hm : Pmd r.2.2) : (rowS y r).length ≤ 400030 := by
  obtain ⟨n, st, s, a, b⟩ := r
  obtain ⟨m1, m2, m3⟩ := hm
  have hn : n ∈ rnm rs := List.mem_map.mpr ⟨_, h, rfl⟩
  obtain ⟨s', p', hl, h3, _, _, hok, _⟩ := look_some g hn
  cases look_uniq g h hl
  have n6 := hok.2.1
  have t6 := (g.ok h3).2.1
  have sl : (spanS y s a b).length ≤ 400000 := spanS_len y m1 m2 m3
  have x2 : (" from " : Str).length = 6 := rfl
  have x3 : (": " : Str).length = 2 := rfl
  have x0 : (Str.empty : Str).length = 0 := rfl
  show (((((Str.empty ++ n) ++ " from ") ++ st) ++ ": ") ++ spanS y s a b).length ≤ 400030
  rw [len_app, len_app, len_app, len_app, len_app]
  omega
theorem wantS_len (y : Way) {wt : Want} (h1 : wt.1.length ≤ 6) (h2 : wt.2.1.length ≤ 6) (hm : Pmd wt.2.2) : (wantS y wt).length ≤ 400030 := by
  obtain ⟨n, st, s, a, b⟩ := wt
  obtain ⟨m1, m2, m3⟩ := hm
  have h1 : n.length ≤ 6 := h1
  have h2 : st.length ≤ 6 := h2
  have sl : (spanS y s a b).length ≤ 400000 := spanS_len y m1 m2 m3
  have x1 : ("want " : Str).length = 5 := rfl
  have x2 : (" to " : Str).length = 4 := rfl
  have x3 : (": " : Str).length = 2 := rfl
  have x0 : (Str.empty : Str).length = 0 := rfl
  show ((((((Str.empty ++ "want ") ++ n) ++ " to ") ++ st) ++ ": ") ++ spanS y s a b).length ≤ 400030
  rw [len_app, len_app, len_app, len_app, len_app, len_app]
  omega
theorem shown_len (y : Way) {z : Str} {rs : List Row} {wts : List Want} (g : Good z rs) (hr : ∀ r ∈ rs, Pmd r.2.2) (hw : ∀ wt ∈ wts, Pmd wt.2.2) (hin : WtsIn z rs wts) : ∀ x ∈ shownL y z rs wts, x.length ≤ 400030 := by
  intro x hx
  rcases List.mem_append.mp hx with hx | hx
  · rcases List.mem_cons.mp hx with e | e
    · rw [e]
      have := g.zero.2.1
      have x1 : ("zero " : Str).length = 5 := rfl
      have x0 : (Str.empty : Str).length = 0 := rfl
      show ((Str.empty ++ "zero ") ++ z).length ≤ _
      rw [len_app, len_app]
      omega
    · obtain ⟨r, hr1, rfl⟩ := List.mem_map.mp e
      exact rowS_len y g (List.mem_reverse.mp hr1) (hr r (List.mem_reverse.mp hr1))
  · obtain ⟨wt, hw1, rfl⟩ := List.mem_map.mp hx
    obtain ⟨m1, m2⟩ := hin wt hw1
    exact wantS_len y (g.ok m1).2.1 (g.ok m2).2.1 (hw wt hw1)
theorem shown_bound (y : Way) {z : Str} {rs : List Row} {wts : List Want} (g : Good z rs) (hr : ∀ r ∈ rs, Pmd r.2.2) (hw : ∀ wt ∈ wts, Pmd wt.2.2) (hin : WtsIn z rs wts) (l1 : rs.length ≤ 12) (l2 : wts.length ≤ 12) : ((shownL y z rs wts).map (·.length)).sum + (shownL y z rs wts).length * 1 ≤ 16777216 := by
  have h := sum_le (fun x : Str => x.length) 400030 _ (shown_len y g hr hw hin)
  have e : (shownL y z rs wts).length = 1 + rs.length + wts.length := by
    unfold shownL linesP
    rw [List.length_append, List.length_cons, List.length_map, List.length_map, List.length_reverse]
    omega
  rw [e] at h ⊢
  have : (1 + rs.length + wts.length) * 400030 ≤ 25 * 400030 := Nat.mul_le_mul_right _ (by omega)
  omega
theorem s_show_drawing : FnScope ["drawing", "wants", "way", "lines", "one", "other", "span"] ["drawing", "wants", "way"] d_show_drawing.scope := ⟨rfl, rfl, rfl, by decide +kernel, rfl, by decide +kernel, by decide +kernel⟩
theorem c_show_drawing (T : Txt w K mg) : Cal P w K mg base 8 "show_drawing" (fun vs H Q _ => ∃ (a d l : Addr) (z : Str) (rs : List Row) (wts : List Want) (xs : List V) (y : Way), vs = [.ref a, .ref l, .str y.s] ∧ DrawAt K H a d z rs ∧ H l = some (.lst xs) ∧ Paired (WantAt K H) wts xs ∧ WtsIn z rs wts ∧ (∀ r ∈ rs, Pmd r.2.2) ∧ (∀ wt ∈ wts, Pmd wt.2.2) ∧ rs.length ≤ 12 ∧ wts.length ≤ 12 ∧ ∀ H', Same H H' → Q (.str (Txt.join "\n" (shownL y z rs wts))) H') [] := by
  refine T.calD 59 47 (d := d_show_drawing) (S := s_show_drawing) (hb := fun _ _ _ _ _ _ _ us its hl hi => match us, its, hl, hi with | [_, _, _], [_, _], _, _ => ⟨_, rfl, rfl⟩) (len := fun vs H Q E h => ?_) (hbody := fun cdv A outer s H vs Q E hr h => ?_)
  · obtain ⟨a, d, l, z, rs, wts, xs, y, rfl, hD, hl, hw, hin, hr1, hw1, l1, l2, k⟩ := h
    rfl
  · obtain ⟨a, d, l, z, rs, wts, xs, y, rfl, hD, hl, hw, hin, hr1, hw1, l1, l2, k⟩ := h
    refine ⟨_, (pss_cons (ps_expr (pe_c (c_check_way T) hr (by decide) rfl (pa_cons (pv 2) pa_nil)))
      (pss_cons (ps_expr (pe_c (c_check_drawing T) hr (by decide) rfl (pa_cons (pv 0) pa_nil)))
      (pss_cons (ps_if (pt_cmpR op_isN (pv 1) pe_non (nomark _)) (pss_one (ps_set (i := 1) s_show_drawing.nd rfl (Or.inl rfl) (pe_tup pa_nil))) pss_nil)
      (pss_cons (ps_expr (pe_c (c_check_wants T) hr (by decide) rfl (pa_cons (pv 0) (pa_cons (pv 1) pa_nil))))
      (pss_cons (ps_set (i := 3) s_show_drawing.nd rfl (Or.inl rfl) (pe_c (c_lines_of T) hr (by decide) rfl (pa_cons (pv 0) (pa_cons (pv 2) pa_nil))))
      (pss_cons (ps_for PassesOwn.never rfl (pi_list (pv 1)) (pg_tup rfl (pgs_cons (pg_name (i := 4) s_show_drawing.nd rfl (Or.inl rfl)) (pgs_cons (pg_name (i := 5) s_show_drawing.nd rfl (Or.inl rfl)) (pgs_cons (pg_name (i := 6) s_show_drawing.nd rfl (Or.inl rfl)) pgs_nil))))
      (pss_one (ps_expr (pe_bm PySem.F.plainAttrs_list PySem.F.slot_list_append PySem.F.type_list_append mt_append (pv 3) (pa_cons (pe_joined (.cons pe_str (.cons (pe_fmt (pv 4)) (.cons pe_str (.cons (pe_fmt (pv 5)) (.cons pe_str (.cons (pe_fmt (pe_c (c_tell_span T) hr (by decide) rfl (pa_cons (pv 6) (pa_cons (pv 2) pa_nil)))) .nil))))))) pa_nil)))))
      (pss_one (ps_ret (pe_join pe_str (pv 3)))))))))), ?_⟩
    obtain ⟨dx, hi⟩ := hD.ins
    have good := hD.good
    have x1 : ("want " : Str).length = 5 := rfl
    have x2 : (" to " : Str).length = 4 := rfl
    have x3 : (": " : Str).length = 2 := rfl
    have x0 : (Str.empty : Str).length = 0 := rfl
    refine ⟨_, rfl, y, rfl, ?_⟩
    refine ⟨_, rfl, a, d, z, rs, rfl, hD, ?_⟩
    refine ⟨_, rfl, rfl, _, rfl, ?_⟩
    rw [decide_eq_false (fun h => by cases h)]
    refine iteF ?_
    refine ⟨_, rfl, _, rfl, a, d, l, z, rs, wts, rfl, hD, ⟨xs, .inl hl, hw⟩, hin, fun H1 s1 => ?_⟩
    refine ⟨_, rfl, _, rfl, a, d, z, rs, y, rfl, hD.ext s1, hr1, fun q H2 hq s2 h2 => ?_⟩
    have s12 := s1.trans s2
    have hl2 := s12 _ _ hl
    have hqn : H q = none := s1.free hq
    have hlq : l ≠ q := fun e => by rw [e, hqn] at hl; cases hl
    refine ⟨_, rfl, l, rfl, ⟨_, SqL.of hl2⟩, for_list (K := K) (xs := xs) (fun i σ' H' => ∃ o4 o5 o6, σ' = [some (.ref a), some (.ref l), some (.str y.s), some (.ref q), o4, o5, o6] ∧ Bt q H2 H' ∧ H' q = some (.lst ((linesP y z rs ++ (wts.take i).map (wantS y)).map V.str))) ?_ ?_ ?_ ?_⟩
    · refine ⟨none, none, none, rfl, fun _ _ _ h => h, ?_⟩
      rw [List.take_zero, List.map_nil, List.append_nil]
      exact h2
    · rintro i σ' H' _ ⟨_, _, _, _, b, _⟩
      exact SqL.of (b _ _ hlq hl2)
    · rintro i x σ' H' hx ⟨o4, o5, o6, rfl, b, hL⟩
      obtain ⟨wt, hwt, t, sp, rfl, ht, hSp⟩ := p_get hw hx
      have hwm := List.mem_of_getElem? hwt
      have hwl := (List.getElem?_eq_some_iff.mp hwt).1
      obtain ⟨m1, m2⟩ := hin wt hwm
      obtain ⟨q1, q2, q3⟩ := hw1 wt hwm
      have n1 := (good.ok m1).2.1
      have n2 := (good.ok m2).2.1
      have sl : (spanS y wt.2.2.1 wt.2.2.2.1 wt.2.2.2.2).length ≤ 400000 := spanS_len y q1 q2 q3
      have sA : Same H H' := b.same s12 hqn
      have c1 : (Str.empty ++ ("want " : Str)).length = 5 := by rw [len_app, x0, x1]
      have c2 : ((Str.empty ++ ("want " : Str)) ++ wt.1).length ≤ 11 := by rw [len_app]; omega
      have c3 : (((Str.empty ++ ("want " : Str)) ++ wt.1) ++ " to ").length ≤ 15 := by rw [len_app]; omega
      have c4 : ((((Str.empty ++ ("want " : Str)) ++ wt.1) ++ " to ") ++ wt.2.1).length ≤ 21 := by rw [len_app]; omega
      have c5 : (((((Str.empty ++ ("want " : Str)) ++ wt.1) ++ " to ") ++ wt.2.1) ++ ": ").length ≤ 23 := by rw [len_app]; omega
      refine ⟨t, _, rfl, SqT.of (sA _ _ ht), rfl, _, _, rfl, _, _, rfl, _, _, rfl, rfl, ?_⟩
      refine ⟨_, rfl, Or.inl ⟨rfl, _, SqL.of hL⟩, _, rfl, len_sl (by omega), _, rfl, Or.inl ⟨_, rfl, len_sl (by omega), _, rfl, len_sl (by omega), _, rfl, len_sl (by omega), _, rfl, Or.inl ⟨_, rfl, len_sl (by omega), _, rfl, len_sl (by omega), _, rfl, len_sl (by omega), ?_⟩⟩⟩
      refine ⟨_, rfl, _, rfl, sp, _, _, _, y, rfl, hSp.ext sA, q1, q2, q3, fun H3 s3 => Or.inl ⟨_, rfl, len_sl (by omega), _, rfl, len_sl (by rw [len_app]; omega), ?_⟩⟩
      have hL3 := s3 _ _ hL
      refine ⟨q, _, _, rfl, rfl, hL3, ?_, ?_⟩
      · unfold linesP
        rw [List.length_map, List.length_append, List.length_cons, List.length_map, List.length_map, List.length_take, List.length_reverse]
        exact Nat.lt_of_le_of_lt (by omega : _ ≤ 200) (by decide)
      · refine ⟨_, _, _, rfl, b.trans ((Bt.of s3).trans Bt.upd), ?_⟩
        rw [upd_same, List.take_add_one, hwt, Option.toList_some, List.map_append (f := wantS y), ← List.append_assoc]
        exact congrArg (fun t => some (HO.lst t)) (List.map_append (f := V.str) (l₁ := linesP y z rs ++ (wts.take i).map (wantS y)) (l₂ := [wantS y wt])).symm
    · rintro σ' H' ⟨o4, o5, o6, rfl, b, hL⟩
      rw [← Paired.len hw, List.take_length] at hL
      have sA : Same H H' := b.same s12 hqn
      refine ⟨⟨_, rfl⟩, _, rfl, _, q, shownL y z rs wts, rfl, rfl, Or.inl (SqL.of hL), shown_bound y good hr1 hw1 hin l1 l2, k _ sA⟩
end
end Fw
set_option Elab.async false
set_option linter.all false
set_option maxRecDepth 100000
set_option maxHeartbeats 4000000
namespace Fw
open PySem PySem.Spec PyProof.Rows L2
open C8 (Cal CalAt Met Mak pe_c pe_mk pe_mt pe_mt0 pe_gc InsC call_isC)

section
variable {P : Program} {w : World} {K : PySem.W.Frag} {mg : Str → Option Value} {base : Heap}

/-! hung on another zero, plainly -/
def turnP (p : Par) : Par := (0 - p.1, p.2.2, p.2.1)
def flipR : List Row → Str → List Row
  | [], _ => []
  | r :: rs, n => if r.1 = n then (r.2.1, n, turnP r.2.2) :: flipR rs r.2.1 else flipR rs n
def restR (rs : List Row) (zero : Str) : List Row := rs.filter fun r => decide (r.1 ∉ upR rs zero)
def hungP (rs : List Row) (zero : Str) : List Row := restR rs zero ++ (flipR rs zero).reverse
theorem flip_none {rs : List Row} {n : Str} (h : n ∉ rnm rs) : flipR rs n = [] := by
  induction rs with
  | nil => rfl
  | cons r rs ih =>
    unfold flipR
    rw [if_neg (fun e => h (by rw [← e]; exact List.mem_cons_self ..))]
    exact ih fun m => h (List.mem_cons_of_mem _ m)
theorem flip_some {z : Str} {rs : List Row} (g : Good z rs) {n s : Str} {p : Par} (h : look rs n = some (s, p)) : flipR rs n = (s, n, turnP p) :: flipR rs s := by
  induction g generalizing n s p with
  | nil _ => cases h
  | @cons r rs g h1 h2 h3 h4 ih =>
    have ns : r.1 ≠ r.2.1 := fun z => h2 (by rw [z]; exact h3)
    unfold look at h
    by_cases e : r.1 = n
    · rw [if_pos e] at h
      have h : r.2 = (s, p) := by injection h
      have e1 : r.2.1 = s := by rw [h]
      have e2 : r.2.2 = p := by rw [h]
      rw [← e1, ← e2]
      show (if r.1 = n then (r.2.1, n, turnP r.2.2) :: flipR rs r.2.1 else flipR rs n) = _ :: (if r.1 = r.2.1 then _ else flipR rs r.2.1)
      rw [if_pos e, if_neg ns]
    · rw [if_neg e] at h
      have nm : s ≠ r.1 := fun q => h2 (by
        obtain ⟨_, _, a1, a2, _⟩ := look_some g (List.mem_map.mpr ⟨_, look_mem h, rfl⟩)
        have a1 : look rs n = _ := a1
        rw [h] at a1
        cases a1
        rw [← q]
        exact a2)
      show (if r.1 = n then _ else flipR rs n) = _ :: (if r.1 = s then _ else flipR rs s)
      rw [if_neg e, if_neg nm.symm]
      exact ih h
theorem up_head (rs : List Row) (n : Str) : ∃ t, upR rs n = n :: t := by
  induction rs with
  | nil => exact ⟨[], rfl⟩
  | cons r rs ih =>
    unfold upR
    split
    · exact ⟨_, rfl⟩
    · exact ih
theorem up_nodup {z : Str} {rs : List Row} (g : Good z rs) {n : Str} (h : n ∈ z :: rnm rs) : (upR rs n).Nodup := by
  induction g generalizing n with
  | nil _ => simp [upR]
  | @cons r rs g h1 h2 h3 h4 ih =>
    unfold upR
    by_cases e : r.1 = n
    · rw [if_pos e]
      refine List.nodup_cons.mpr ⟨fun m => h2 ?_, ih h3⟩
      rw [e]
      exact up_mem g h3 m
    · rw [if_neg e]
      refine ih ?_
      rcases List.mem_cons.mp h with h | h
      · rw [h]; exact List.mem_cons_self ..
      · rcases List.mem_cons.mp h with h | h
        · exact absurd h.symm e
        · exact List.mem_cons_of_mem _ h
/-- the flipped rows are names of the road up -/
theorem flip_names {z : Str} {rs : List Row} (g : Good z rs) {n : Str} (h : n ∈ z :: rnm rs) : n :: rnm (flipR rs n) = upR rs n := by
  induction g generalizing n with
  | nil _ => rfl
  | @cons r rs g h1 h2 h3 h4 ih =>
    unfold upR flipR
    by_cases e : r.1 = n
    · rw [if_pos e, if_pos e]
      show n :: (r.2.1 :: rnm (flipR rs r.2.1)) = _
      rw [ih h3]
    · rw [if_neg e, if_neg e]
      refine ih ?_
      rcases List.mem_cons.mp h with h | h
      · rw [h]; exact List.mem_cons_self ..
      · rcases List.mem_cons.mp h with h | h
        · exact absurd h.symm e
        · exact List.mem_cons_of_mem _ h
theorem good_flip {z y : Str} {rs : List Row} (g : Good z rs) : ∀ {n : Str} {b : List Row}, n ∈ z :: rnm rs → Good y b → n ∈ y :: rnm b → (∀ m ∈ (upR rs n).tail, m ∉ y :: rnm b) → Good y ((flipR rs n).reverse ++ b) := by
  induction g with
  | nil _ => intro n b _ gb _ _; exact gb
  | @cons r rs g h1 h2 h3 h4 ih =>
    intro n b h gb hn ht
    by_cases e : r.1 = n
    · have eu : upR (r :: rs) n = n :: upR rs r.2.1 := by conv => lhs; unfold upR; rw [if_pos e]
      have ef : flipR (r :: rs) n = (r.2.1, n, turnP r.2.2) :: flipR rs r.2.1 := by conv => lhs; unfold flipR; rw [if_pos e]
      rw [eu, List.tail_cons] at ht
      rw [ef, List.reverse_cons, List.append_assoc]
      obtain ⟨t, et⟩ := up_head rs r.2.1
      refine ih h3 (.cons gb (g.ok h3) (ht _ (by rw [et]; exact List.mem_cons_self ..)) hn ?_) (List.mem_cons_of_mem _ (List.mem_cons_self ..)) fun m hm hm2 => ?_
      · show 0 ≤ r.2.2.2.2 + r.2.2.2.1
        omega
      · rcases List.mem_cons.mp hm2 with q | q
        · exact ht m (List.mem_of_mem_tail hm) (by rw [q]; exact List.mem_cons_self ..)
        · rcases List.mem_cons.mp q with q | q
          · have nd := up_nodup g h3
            rw [et] at nd hm
            rw [q] at hm
            exact (List.nodup_cons.mp nd).1 hm
          · exact ht m (List.mem_of_mem_tail hm) (List.mem_cons_of_mem _ q)
    · have eu : upR (r :: rs) n = upR rs n := by conv => lhs; unfold upR; rw [if_neg e]
      have ef : flipR (r :: rs) n = flipR rs n := by conv => lhs; unfold flipR; rw [if_neg e]
      rw [eu] at ht
      rw [ef]
      refine ih ?_ gb hn ht
      rcases List.mem_cons.mp h with h | h
      · rw [h]; exact List.mem_cons_self ..
      · rcases List.mem_cons.mp h with h | h
        · exact absurd h.symm e
        · exact List.mem_cons_of_mem _ h
theorem good_rest {z y : Str} {b : List Row} {rs : List Row} {u : List Str} (g : Good z rs) (gb : Good y b) (hz : z ∈ u) (hu : ∀ n, n ∈ u ↔ n ∈ y :: rnm b) : Good y ((rs.filter fun r => decide (r.1 ∉ u)) ++ b) := by
  induction g with
  | nil _ => exact gb
  | @cons r rs g h1 h2 h3 h4 ih =>
    by_cases m : r.1 ∈ u
    · rw [List.filter_cons_of_neg (by simp [m])]
      exact ih
    · rw [List.filter_cons_of_pos (by simp [m])]
      have lift : ∀ x, x ∈ y :: rnm ((rs.filter fun r => decide (r.1 ∉ u)) ++ b) ↔ (x ∈ rnm (rs.filter fun r => decide (r.1 ∉ u)) ∨ x ∈ u) := fun x => by
        rw [hu x]
        unfold rnm
        rw [List.map_append, List.mem_cons, List.mem_append, List.mem_cons]
        constructor
        · rintro (h | h | h)
          · exact .inr (.inl h)
          · exact .inl h
          · exact .inr (.inr h)
        · rintro (h | h | h)
          · exact .inr (.inl h)
          · exact .inl h
          · exact .inr (.inr h)
      have sub : ∀ x, x ∈ rnm (rs.filter fun r => decide (r.1 ∉ u)) → x ∈ rnm rs := fun x h => by
        obtain ⟨q, hq, rfl⟩ := List.mem_map.mp h
        exact List.mem_map.mpr ⟨q, (List.mem_filter.mp hq).1, rfl⟩
      refine .cons ih h1 (fun h => ?_) ((lift _).mpr ?_) h4
      · rcases (lift _).mp h with h | h
        · exact h2 (List.mem_cons_of_mem _ (sub _ h))
        · exact m h
      · by_cases hs : r.2.1 ∈ u
        · exact .inr hs
        · rcases List.mem_cons.mp h3 with h | h
          · rw [h] at hs; exact absurd hz hs
          · obtain ⟨q, hq, e⟩ := List.mem_map.mp h
            exact .inl (List.mem_map.mpr ⟨q, List.mem_filter.mpr ⟨hq, by rw [e]; simp [hs]⟩, e⟩)
theorem flip_good {z y : Str} {rs : List Row} (g : Good z rs) (h : y ∈ z :: rnm rs) : Good y (flipR rs y).reverse := by
  have q := good_flip g (b := []) (y := y) h (.nil (g.ok h)) (List.mem_cons_self ..) fun m hm hm2 => by
    obtain ⟨t, et⟩ := up_head rs y
    have nd := up_nodup g h
    rw [et] at nd hm
    rw [List.mem_singleton.mp hm2] at hm
    exact (List.nodup_cons.mp nd).1 hm
  rw [List.append_nil] at q
  exact q
theorem flip_set {z y : Str} {rs : List Row} (g : Good z rs) (h : y ∈ z :: rnm rs) (n : Str) : n ∈ upR rs y ↔ n ∈ y :: rnm (flipR rs y).reverse := by
  rw [← flip_names g h, List.mem_cons, List.mem_cons, rnm_rev, List.mem_reverse]
theorem good_hung {z y : Str} {rs : List Row} (g : Good z rs) (h : y ∈ z :: rnm rs) : Good y (hungP rs y) := good_rest g (flip_good g h) (up_z g h) (flip_set g h)
/-- what told gives -/
def ToldAt (K : PySem.W.Frag) (H : Hp) (rs : List Row) (n : Str) (v : V) : Prop := (n ∉ rnm rs ∧ v = .non) ∨ ∃ s p, look rs n = some (s, p) ∧ RowAt K H v (n, s, p)
def spToldB (K : PySem.W.Frag) : Sp := fun vs H Q _ => ∃ a d z rs n, vs = [.ref a, .str n] ∧ DrawAt K H a d z rs ∧ n ∈ z :: rnm rs ∧ ∀ v, ToldAt K H rs n v → Q v H
theorem c_Drawing_toldB (T : Txt w K mg) : Met P w K mg base 2 (He.ga K "Drawing") "told" (spToldB K) [] := by
  obtain ⟨f, fd, ps, ds, c, me, F, b, d⟩ := (c_Drawing_told (P := P) (base := base) T).ex
  refine ⟨f, fd, ps, ds, c, me, F.imp ?_, b, d⟩
  rintro vs H Q E ⟨a, d, z, rs, n, rfl, hD, hn, k⟩
  exact ⟨a, d, z, rs, n, rfl, hD, hn, fun h => k _ (.inl ⟨h, rfl⟩), fun s p v h1 h2 => k _ (.inr ⟨s, p, h1, h2⟩)⟩
theorem good_suf {z : Str} : ∀ {l b : List Row}, Good z (l ++ b) → Good z b
  | [], _, g => g
  | _ :: l, _, .cons g _ _ _ _ => good_suf (l := l) g
/-- a new drawing of these rows -/
def RetDR (K : PySem.W.Frag) (H : Hp) (z : Str) (rs : List Row) (Q : VK) : Prop := ∀ a d H', H a = none → H d = none → Same H H' → DrawAt K H' a d z rs → Q (.ref a) H'
theorem RetDR.mono {H H1 : Hp} {z : Str} {rs : List Row} {Q : VK} (k : RetDR K H z rs Q) (s : Same H H1) : RetDR K H1 z rs Q := fun a d H' h1 h2 s2 h => k a d H' (s.free h1) (s.free h2) (s.trans s2) h
def flp (r : Row) : Row := (r.2.1, r.1, turnP r.2.2)
theorem flip_eq {z : Str} {rs : List Row} (g : Good z rs) : ∀ {y : Str}, y ∈ z :: rnm rs → flipR rs y = (rs.filter fun r => decide (r.1 ∈ upR rs y)).map flp := by
  induction g with
  | nil _ => intro y _; rfl
  | @cons r rs g h1 h2 h3 h4 ih =>
    intro y h
    by_cases e : r.1 = y
    · have eu : upR (r :: rs) y = y :: upR rs r.2.1 := by conv => lhs; unfold upR; rw [if_pos e]
      have ef : flipR (r :: rs) y = (r.2.1, y, turnP r.2.2) :: flipR rs r.2.1 := by conv => lhs; unfold flipR; rw [if_pos e]
      rw [eu, ef, List.filter_cons_of_pos (by simp [e]), List.map_cons, ih h3]
      have ec : (rs.filter fun r' => decide (r'.1 ∈ y :: upR rs r.2.1)) = rs.filter fun r' => decide (r'.1 ∈ upR rs r.2.1) := by
        refine List.filter_congr fun q hq => ?_
        have nq : q.1 ≠ y := fun e2 => h2 (by rw [e, ← e2]; exact List.mem_cons_of_mem _ (List.mem_map.mpr ⟨q, hq, rfl⟩))
        simp [nq]
      rw [ec]
      refine congrArg (· :: _) ?_
      show (r.2.1, y, turnP r.2.2) = (r.2.1, r.1, turnP r.2.2)
      rw [e]
    · have hy : y ∈ z :: rnm rs := by
        rcases List.mem_cons.mp h with h | h
        · rw [h]; exact List.mem_cons_self ..
        · rcases List.mem_cons.mp h with h | h
          · exact absurd h.symm e
          · exact List.mem_cons_of_mem _ h
      have eu : upR (r :: rs) y = upR rs y := by conv => lhs; unfold upR; rw [if_neg e]
      have ef : flipR (r :: rs) y = flipR rs y := by conv => lhs; unfold flipR; rw [if_neg e]
      have nu : r.1 ∉ upR rs y := fun m => h2 (up_mem g hy m)
      rw [eu, ef, List.filter_cons_of_neg (by simp [nu]), ih hy]
theorem filter_two {α : Type} (p q : α → Bool) (h : ∀ x, p x = !q x) : ∀ l : List α, (l.filter p).length + (l.filter q).length = l.length
  | [] => rfl
  | x :: l => by
    have := filter_two p q h l
    have hx := h x
    cases e : q x with
    | true =>
      rw [e] at hx
      rw [List.filter_cons_of_pos e, List.filter_cons_of_neg (by rw [hx]; decide), List.length_cons, List.length_cons]
      omega
    | false =>
      rw [e] at hx
      rw [List.filter_cons_of_pos hx, List.filter_cons_of_neg (by rw [e]; decide), List.length_cons, List.length_cons]
      omega
theorem hung_len2 {z y : Str} {rs : List Row} (g : Good z rs) (h : y ∈ z :: rnm rs) : (restR rs y).length + (flipR rs y).length = rs.length := by
  rw [flip_eq g h, List.length_map]
  exact filter_two _ _ (fun x => by simp) rs
theorem hung_len {z y : Str} {rs : List Row} (g : Good z rs) (h : y ∈ z :: rnm rs) : (hungP rs y).length = rs.length := by
  unfold hungP
  rw [List.length_append, List.length_reverse]
  exact hung_len2 g h
theorem s_hung_on : FnScope ["drawing", "zero", "found", "there", "row", "name", "start", "span"] ["drawing", "zero"] d_hung_on.scope := ⟨rfl, rfl, rfl, by decide +kernel, rfl, by decide +kernel, by decide +kernel⟩
theorem c_hung_on (T : Txt w K mg) : Cal P w K mg base 6 "hung_on" (fun vs H Q _ => ∃ (a d : Addr) (z : Str) (rs : List Row) (y : Str), vs = [.ref a, .str y] ∧ DrawAt K H a d z rs ∧ y ∈ z :: rnm rs ∧ RetDR K H y (hungP rs y) Q) [] := by
  refine T.cal 67 55 (d := d_hung_on) (S := s_hung_on) (hb := fun _ _ _ _ _ _ us hl => match us, hl with | [_, _], _ => rfl) (len := fun vs H Q E h => ?_) (hbody := fun cdv A outer s H vs Q E hr h => ?_)
  · obtain ⟨a, d, z, rs, y, rfl, hD, hy, k⟩ := h
    rfl
  · obtain ⟨a, d, z, rs, y, rfl, hD, hy, k⟩ := h
    refine ⟨_, (pss_cons (ps_set (i := 2) s_hung_on.nd rfl (Or.inl rfl) (pe_mk (m_Drawing1 T) hr (by decide) rfl (pa_cons (pv 1) pa_nil)))
      (pss_cons (ps_par (i := 3) (j := 4) (by rfl) s_hung_on.nd rfl rfl (by decide) rfl rfl (pa_cons (pv 1) (pa_cons (pe_mt (c_Drawing_toldB T) hr (by decide) (pv 0) (pa_cons (pv 1) pa_nil)) pa_nil)) (by rfl))
      (pss_cons (ps_while PassesOwn.never (pt_cmpR op_notN (pv 4) pe_non (nomark _))
      (pss_cons (ps_expr (pe_mt (c_Drawing_mark T) hr (by decide) (pv 2) (pa_cons (pe_ix (ix_tupK (K := K) rfl) (pv 4) pe_int (fun _ _ => rfl)) (pa_cons (pe_mt0 (c_Span_turned T) hr (by decide) (pe_ix (ix_tupK (K := K) rfl) (pv 4) pe_int (fun _ _ => rfl))) (pa_cons (pv 3) pa_nil)))))
        (pss_one (ps_par (i := 3) (j := 4) (by rfl) s_hung_on.nd rfl rfl (by decide) rfl rfl (pa_cons (pe_ix (ix_tupK (K := K) rfl) (pv 4) pe_int (fun _ _ => rfl)) (pa_cons (pe_mt (c_Drawing_toldB T) hr (by decide) (pv 0) (pa_cons (pe_ix (ix_tupK (K := K) rfl) (pv 4) pe_int (fun _ _ => rfl)) pa_nil)) pa_nil)) (by rfl)))))
      (pss_cons (ps_for PassesOwn.never rfl (pi_tup (pe_mt0 (c_Drawing_names T) hr (by decide) (pv 0))) (pg_name (i := 5) s_hung_on.nd rfl (Or.inl rfl))
      (pss_one (ps_if (pt_cmpR (op_notIn_seqK (K := K) rfl) (pv 5) (pe_mt0 (c_Drawing_names T) hr (by decide) (pv 2)) (by rfl)) (pss_cons (ps_asg (pe_mt (c_Drawing_told T) hr (by decide) (pv 0) (pa_cons (pv 5) pa_nil)) (pg_tup rfl (pgs_cons (pg_name (i := 6) s_hung_on.nd rfl (Or.inl rfl)) (pgs_cons (pg_name (i := 7) s_hung_on.nd rfl (Or.inl rfl)) pgs_nil))))
          (pss_one (ps_expr (pe_mt (c_Drawing_mark T) hr (by decide) (pv 2) (pa_cons (pv 5) (pa_cons (pv 7) (pa_cons (pv 6) pa_nil))))))) pss_nil)))
      (pss_one (ps_ret (pv 2))))))), ?_⟩
    obtain ⟨dx, hi⟩ := hD.ins
    have hfew := hD.few
    have good := hD.good
    have gH := good_hung good hy
    have gF := flip_good good hy
    have hlen2 := hung_len2 good hy
    refine ⟨_, rfl, ?_⟩
    intro x0 dx0 hx0 hdx0 hne0
    refine mkD (Q := fun v H1 => gName 2 v _ H1 _) (good.ok hy) (fun f df H1 hf hdf s1 hF => ?_) x0 dx0 hx0 hdx0 hne0
    have hF : DrawAt K H1 f df y [] := hF
    refine ⟨_, rfl, _, rfl, a, dx, _, rfl, s1 _ _ hi, rfl, _, rfl, a, d, z, rs, y, rfl, hD.ext s1, hy, fun row hrow => ?_⟩
    have hrow : ToldAt K H1 rs y row := hrow
    refine ⟨_, _, rfl, ?_⟩
    refine ⟨fun m σ' H' => ∃ n row fr, σ' = [some (.ref a), some (.str y), some (.ref f), some (.str n), some row, none, none, none] ∧ Bt df H1 H' ∧ DrawAt K H' f df y fr ∧ n ∈ z :: rnm rs ∧ ToldAt K H' rs n row ∧ (flipR rs n).reverse ++ fr = (flipR rs y).reverse ∧ (flipR rs n).length ≤ m, ⟨_, y, row, [], rfl, fun _ _ _ h => h, hF, hy, hrow, List.append_nil _, Nat.le_refl _⟩, ?_⟩
    rintro m σ' H' ⟨n, row, fr, rfl, b, hF, hn, hrow, hcat, hm⟩
    have sA : Same H H' := b.same s1 hdf
    refine ⟨_, rfl, rfl, _, rfl, ?_⟩
    rcases hrow with ⟨hnr, rfl⟩ | ⟨s, p, hl, t, sp, rfl, ht, hSp⟩
    · rw [decide_eq_true rfl]
      refine iteF ?_
      rw [flip_none hnr, List.reverse_nil, List.nil_append] at hcat
      subst hcat
      refine ⟨_, rfl, a, dx, _, rfl, sA _ _ hi, rfl, a, d, z, rs, rfl, hD.ext sA, fun q H2 hq s2 h2 => ?_⟩
      have sB := sA.trans s2
      refine ⟨q, rfl, ⟨_, SqT.of h2⟩, for_tup (K := K) (xs := (z :: rnm rs.reverse).map V.str) (fun i σ' H' => ∃ o3 o4 o5 o6 o7, σ' = [some (.ref a), some (.str y), some (.ref f), o3, o4, o5, o6, o7] ∧ Bt df H2 H' ∧ DrawAt K H' f df y (((rs.drop (rs.length - (i - 1))).filter fun r => decide (r.1 ∉ upR rs y)) ++ (flipR rs y).reverse)) ?_ ?_ ?_ ?_⟩
      · refine ⟨_, _, _, _, _, rfl, fun _ _ _ h => h, ?_⟩
        rw [Nat.zero_sub, Nat.sub_zero, List.drop_length]
        exact hF.ext s2
      · rintro i σ' H' _ ⟨_, _, _, _, _, _, b2, _⟩
        refine SqT.of (b2 _ _ (fun e => ?_) h2)
        obtain ⟨kvs, hk, _⟩ := hF.rows
        rw [e, hk] at hq
        cases hq
      · rintro i x σ' H3 hx ⟨o3, o4, o5, o6, o7, rfl, b2, hF2⟩
        have sC : Same H H3 := b2.same sB hdf
        obtain ⟨dxf, hfi⟩ := hF2.ins
        rw [List.map_cons] at hx
        cases i with
        | zero =>
          cases hx
          refine ⟨_, rfl, _, rfl, f, dxf, _, rfl, hfi, rfl, f, df, y, _, rfl, hF2, fun p1 H4 hp1 s4 e4 => ⟨p1, _, rfl, Or.inr (SqT.of e4), rfl, flat_strs _, _, rfl, ?_⟩⟩
          rw [inV_strs]
          have hm : z ∈ y :: rnm (((rs.drop (rs.length - (0 - 1))).filter fun r => decide (r.1 ∉ upR rs y)) ++ (flipR rs y).reverse).reverse := by
            refine mem_names.mpr ?_
            rw [Nat.zero_sub, Nat.sub_zero, List.drop_length]
            exact (flip_set good hy z).mp (up_z good hy)
          rw [decide_eq_true hm]
          refine iteF ?_
          refine ⟨_, _, _, _, _, rfl, b2.trans (Bt.of s4), ?_⟩
          exact hF2.ext s4
        | succ i =>
          rw [List.getElem?_cons_succ, List.getElem?_map] at hx
          cases hr1 : rs.reverse[i]? with
          | none =>
            have e : (rnm rs.reverse)[i]? = none := by unfold rnm; rw [List.getElem?_map, hr1]; rfl
            rw [e] at hx
            cases hx
          | some r =>
            obtain ⟨n, st, p⟩ := r
            have e : (rnm rs.reverse)[i]? = some n := by unfold rnm; rw [List.getElem?_map, hr1]; rfl
            rw [e] at hx
            cases hx
            have hil : i < rs.length := by
              have := (List.getElem?_eq_some_iff.mp hr1).1
              rwa [List.length_reverse] at this
            have ed : rs.drop (rs.length - (i + 1)) = (n, st, p) :: rs.drop (rs.length - i) := by
              have h1 : rs.length - (i + 1) < rs.length := by omega
              rw [List.drop_eq_getElem_cons h1]
              have h2 : rs.length - (i + 1) + 1 = rs.length - i := by omega
              rw [h2]
              congr 1
              rw [List.getElem?_reverse (by omega)] at hr1
              have h3 : rs.length - 1 - i = rs.length - (i + 1) := by omega
              rw [h3, List.getElem?_eq_getElem h1] at hr1
              injection hr1
            rw [Nat.add_sub_cancel] at hF2
            have gS : Good y (((rs.drop (rs.length - (i + 1))).filter fun r => decide (r.1 ∉ upR rs y)) ++ (flipR rs y).reverse) := by
              refine good_suf (l := (rs.take (rs.length - (i + 1))).filter fun r => decide (r.1 ∉ upR rs y)) ?_
              rw [← List.append_assoc, ← List.filter_append, List.take_append_drop]
              exact gH
            have hcount : ((rs.drop (rs.length - i)).filter fun r => decide (r.1 ∉ upR rs y)).length ≤ i := by
              have := List.length_filter_le (fun r : Row => decide (r.1 ∉ upR rs y)) (rs.drop (rs.length - i))
              rw [List.length_drop] at this
              omega
            have hnm : n ∈ rnm rs := List.mem_map.mpr ⟨_, List.mem_reverse.mp (List.mem_of_getElem? hr1), rfl⟩
            have hrm : (n, st, p) ∈ rs := List.mem_reverse.mp (List.mem_of_getElem? hr1)
            refine ⟨_, rfl, _, rfl, f, dxf, _, rfl, hfi, rfl, f, df, y, _, rfl, hF2, fun p1 H4 hp1 s4 e4 => ⟨p1, _, rfl, Or.inr (SqT.of e4), rfl, flat_strs _, _, rfl, ?_⟩⟩
            rw [inV_strs]
            have hF4 := hF2.ext s4
            rw [ed] at gS
            by_cases hu : n ∈ upR rs y
            · have hm : n ∈ y :: rnm (((rs.drop (rs.length - i)).filter fun r => decide (r.1 ∉ upR rs y)) ++ (flipR rs y).reverse).reverse := by
                refine mem_names.mpr ?_
                have h5 := (flip_set good hy n).mp hu
                unfold rnm at h5 ⊢
                rw [List.map_append, List.mem_cons, List.mem_append]
                exact (List.mem_cons.mp h5).imp id .inr
              rw [decide_eq_true hm]
              refine iteF ?_
              refine ⟨_, _, _, _, _, rfl, b2.trans (Bt.of s4), ?_⟩
              rw [Nat.add_sub_cancel, ed, List.filter_cons_of_neg (by simp [hu])]
              exact hF4
            · rw [List.filter_cons_of_pos (by simp [hu])] at gS
              cases id gS with
              | cons g0 g1 g2 g3 g4 =>
              have g2 : n ∉ y :: rnm (((rs.drop (rs.length - i)).filter fun r => decide (r.1 ∉ upR rs y)) ++ (flipR rs y).reverse) := g2
              rw [decide_eq_false (fun h => g2 (mem_names.mp h))]
              refine iteT ?_
              refine ⟨_, rfl, a, dx, _, rfl, (sC.trans s4) _ _ hi, rfl, _, rfl, a, d, z, rs, n, rfl, hD.ext (sC.trans s4), List.mem_cons_of_mem _ hnm, (fun h => absurd hnm h), fun s' p' v hl' hv => ?_⟩
              cases look_uniq good hrm hl'
              obtain ⟨t2, sp2, rfl, ht2, hSp2⟩ := hv
              refine ⟨t2, _, rfl, SqT.of ht2, rfl, _, _, rfl, _, _, rfl, rfl, ?_⟩
              refine ⟨_, rfl, f, dxf, _, rfl, s4 _ _ hfi, rfl, _, rfl, _, rfl, _, rfl, f, df, y, _, n, st, _, _, _, sp2, rfl, hF4, gS, ?_, hSp2, fun H5 i5 b5 hF5 => ?_⟩
              · show (((rs.drop (rs.length - i)).filter fun r => decide (r.1 ∉ upR rs y)) ++ (flipR rs y).reverse).length < 100
                rw [List.length_append, List.length_reverse]
                have := List.length_filter_le (fun r : Row => decide (r.1 ∉ upR rs y)) (rs.drop (rs.length - i))
                have h6 : ((rs.drop (rs.length - (i + 1))).filter fun r => decide (r.1 ∉ upR rs y)).length ≤ (restR rs y).length := ((List.drop_sublist _ _).filter _).length_le
                rw [ed, List.filter_cons_of_pos (by simp [hu]), List.length_cons] at h6
                omega
              · refine ⟨_, _, _, _, _, rfl, b2.trans ((Bt.of s4).trans b5), ?_⟩
                rw [Nat.add_sub_cancel, ed, List.filter_cons_of_pos (by simp [hu])]
                exact hF5
      · rintro σ' H3 ⟨o3, o4, o5, o6, o7, rfl, b2, hF2⟩
        have e : rs.length - (((z :: rnm rs.reverse).map V.str).length - 1) = 0 := by
          have : (rnm rs.reverse).length = rs.length := by rw [rnm_rev, List.length_reverse]; exact List.length_map _
          rw [List.length_map, List.length_cons, this]
          omega
        rw [e, List.drop_zero] at hF2
        exact ⟨_, rfl, k f df _ hf hdf (b2.same sB hdf) hF2⟩
    · rw [decide_eq_false (fun h => by cases h)]
      refine iteT ?_
      have ef := flip_some good hl
      cases m with
      | zero => rw [ef] at hm; cases hm
      | succ m =>
        obtain ⟨dxf, hfi⟩ := hF.ins
        obtain ⟨_, _, hl2, hs, _, hok, _, _⟩ := look_some good (List.mem_map.mpr ⟨_, look_mem hl, rfl⟩ : n ∈ rnm rs)
        have hl2 : look rs n = _ := hl2
        rw [hl] at hl2
        cases hl2
        have hcat2 : (flipR rs s).reverse ++ ((s, n, turnP p) :: fr) = (flipR rs y).reverse := by
          rw [← hcat, ef, List.reverse_cons, List.append_assoc]
          rfl
        have gS : Good y ((s, n, turnP p) :: fr) := good_suf (l := (flipR rs s).reverse) (by rw [hcat2]; exact gF)
        refine ⟨_, fun σ' H' h' => ⟨m, Nat.lt_succ_self m, h'⟩, ?_⟩
        have ht : H' t = some (.tup [.str s, .ref sp]) := ht
        have hSp : SpanAt K H' sp p.1 p.2.1 p.2.2 := hSp
        obtain ⟨dxs, hsp⟩ := id hSp
        refine ⟨_, rfl, f, dxf, _, rfl, hfi, rfl, _, rfl, t, _, _, _, rfl, rfl, SqT.of ht, atI_nat (j := 0) rfl, ?_⟩
        refine ⟨_, rfl, t, _, _, _, rfl, rfl, SqT.of ht, atI_nat (j := 1) rfl, sp, dxs, _, rfl, hsp, rfl, sp, _, _, _, rfl, hSp, hok, fun sp2 H2 hsp2 s2 hS2 => ?_⟩
        refine ⟨_, rfl, f, df, y, fr, s, n, _, _, _, sp2, rfl, hF.ext s2, gS, ?_, hS2, fun H3 i3 b3 hF3 => ?_⟩
        · have h7 := congrArg List.length hcat2
          rw [List.length_append, List.length_reverse, List.length_reverse, List.length_cons] at h7
          omega
        · have sC : Same H H3 := (b.trans ((Bt.of s2).trans b3)).same s1 hdf
          have ht3 := sC.trans (Same.refl _)
          have htd : t ≠ df := fun e => by
            obtain ⟨kvs, hk, _⟩ := hF.rows
            rw [← e, ht] at hk
            cases hk
          have ht3 : H3 t = some (.tup [.str s, .ref sp]) := b3 _ _ htd (s2 _ _ ht)
          refine ⟨_, rfl, t, _, _, _, rfl, rfl, SqT.of ht3, atI_nat (j := 0) rfl, ?_⟩
          refine ⟨_, rfl, a, dx, _, rfl, sC _ _ hi, rfl, _, rfl, t, _, _, _, rfl, rfl, SqT.of ht3, atI_nat (j := 0) rfl, ?_⟩
          refine ⟨a, d, z, rs, s, rfl, hD.ext sC, hs, fun row hrow => ?_⟩
          refine ⟨_, _, rfl, ?_⟩
          refine ⟨s, row, _, rfl, b.trans ((Bt.of s2).trans b3), hF3, hs, hrow, hcat2, ?_⟩
          rw [ef, List.length_cons] at hm
          omega
theorem s_hung : FnScope ["drawing", "zero"] ["drawing", "zero"] d_hung.scope := ⟨rfl, rfl, rfl, by decide +kernel, rfl, by decide +kernel, by decide +kernel⟩
theorem c_hung (T : Txt w K mg) : Cal P w K mg base 7 "hung" (fun vs H Q _ => ∃ (a d : Addr) (z : Str) (rs : List Row) (y : Str), vs = [.ref a, .str y] ∧ DrawAt K H a d z rs ∧ y ∈ z :: rnm rs ∧ RetDR K H y (hungP rs y) Q) [] := by
  refine T.cal 68 56 (d := d_hung) (S := s_hung) (hb := fun _ _ _ _ _ _ us hl => match us, hl with | [_, _], _ => rfl) (len := fun vs H Q E h => ?_) (hbody := fun cdv A outer s H vs Q E hr h => ?_)
  · obtain ⟨a, d, z, rs, y, rfl, hD, hy, k⟩ := h
    rfl
  · obtain ⟨a, d, z, rs, y, rfl, hD, hy, k⟩ := h
    refine ⟨_, (pss_cons (ps_expr (pe_c (c_check_drawing T) hr (by decide) rfl (pa_cons (pv 0) pa_nil)))
      (pss_cons (ps_expr (pe_mt (c_Drawing_toldB T) hr (by decide) (pv 0) (pa_cons (pv 1) pa_nil)))
      (pss_one (ps_ret (pe_c (c_hung_on T) hr (by decide) rfl (pa_cons (pv 0) (pa_cons (pv 1) pa_nil))))))), ?_⟩
    obtain ⟨dx, hi⟩ := hD.ins
    refine ⟨_, rfl, a, d, z, rs, rfl, hD, ?_⟩
    refine ⟨_, rfl, a, dx, _, rfl, hi, rfl, _, rfl, a, d, z, rs, y, rfl, hD, hy, fun v hv => ?_⟩
    exact ⟨_, rfl, _, rfl, a, d, z, rs, y, rfl, hD, hy, k⟩
end
end Fw
set_option Elab.async false
set_option linter.all false
set_option maxRecDepth 100000
set_option maxHeartbeats 4000000
namespace Fw
open PySem PySem.Spec PyProof.Rows L2
open C8 (Cal CalAt Met Mak pe_c pe_mk pe_mt pe_mt0 pe_gc InsC call_isC)

section
variable {P : Program} {w : World} {K : PySem.W.Frag} {mg : Str → Option Value} {base : Heap}

def lastF (ps : List Str) : Str → Str × Bool → Str := fun f st => if st.1 ∈ ps then st.1 else f
def lastZ (rs : List Row) (ps : List Str) (p0 n : Str) : Str := (roadP rs p0 n).foldl (lastF ps) p0
theorem lastF_mem {ps : List Str} : ∀ (l : List (Str × Bool)) {f : Str}, f ∈ ps → l.foldl (lastF ps) f ∈ ps
  | [], _, h => h
  | st :: l, f, h => by
    refine lastF_mem l ?_
    unfold lastF
    split
    · assumption
    · exact h
theorem lastZ_mem {rs : List Row} {ps : List Str} {p0 n : Str} (h : p0 ∈ ps) : lastZ rs ps p0 n ∈ ps := lastF_mem _ h
def stA (h : List Row) (p0 n : Str) : Row := (n, p0, betP h p0 n)
def stB (h : List Row) (ps : List Str) (p0 n : Str) : Row := (n, lastZ h ps p0 n, betP h (lastZ h ps p0 n) n)
def straightP (z : Str) (rs : List Row) (p0 : Str) (pt : List Str) : List Row :=
  (((z :: rnm rs.reverse).filter fun n => decide (n ∉ p0 :: pt)).map (stB (hungP rs p0) (p0 :: pt) p0)).reverse ++ (pt.map (stA (hungP rs p0) p0)).reverse
theorem hung_mem {z y : Str} {rs : List Row} (g : Good z rs) (h : y ∈ z :: rnm rs) (n : Str) : n ∈ y :: rnm (hungP rs y) ↔ n ∈ z :: rnm rs := by
  have e : ∀ x, x ∈ y :: rnm (hungP rs y) ↔ (x ∈ rnm (restR rs y) ∨ x ∈ upR rs y) := fun x => by
    rw [flip_set g h x]
    unfold hungP rnm
    rw [List.map_append, List.mem_cons, List.mem_append, List.mem_cons]
    constructor
    · rintro (h | h | h)
      · exact .inr (.inl h)
      · exact .inl h
      · exact .inr (.inr h)
    · rintro (h | h | h)
      · exact .inr (.inl h)
      · exact .inl h
      · exact .inr (.inr h)
  rw [e n]
  constructor
  · rintro (h2 | h2)
    · obtain ⟨q, hq, rfl⟩ := List.mem_map.mp h2
      exact List.mem_cons_of_mem _ (List.mem_map.mpr ⟨q, (List.mem_filter.mp hq).1, rfl⟩)
    · exact up_mem g h h2
  · intro h2
    by_cases m : n ∈ upR rs y
    · exact .inr m
    · rcases List.mem_cons.mp h2 with q | q
      · rw [q] at m; exact absurd (up_z g h) m
      · obtain ⟨r, hr, e⟩ := List.mem_map.mp q
        exact .inl (List.mem_map.mpr ⟨r, List.mem_filter.mpr ⟨hr, by rw [e]; simp [m]⟩, e⟩)
theorem s_zeros_of : FnScope ["drawing", "zeros", "names", "found", "number", "name"] ["drawing", "zeros"] d_zeros_of.scope := ⟨rfl, rfl, rfl, by decide +kernel, rfl, by decide +kernel, by decide +kernel⟩
theorem c_zeros_of (T : Txt w K mg) : Cal P w K mg base 2 "zeros_of" (fun vs H Q _ => ∃ (a d l : Addr) (z : Str) (rs : List Row) (ps : List Str), vs = [.ref a, .ref l] ∧ DrawAt K H a d z rs ∧ H l = some (.lst (ps.map V.str)) ∧ 0 < ps.length ∧ ps.length ≤ 100 ∧ ps.Nodup ∧ (∀ m ∈ ps, m ∈ z :: rnm rs) ∧ ∀ p H', Same H H' → SqT K H' p (ps.map V.str) → Q (.ref p) H') [] := by
  refine T.cal 69 57 (d := d_zeros_of) (S := s_zeros_of) (hb := fun _ _ _ _ _ _ us hl => match us, hl with | [_, _], _ => rfl) (len := fun vs H Q E h => ?_) (hbody := fun cdv A outer s H vs Q E hr h => ?_)
  · obtain ⟨a, d, l, z, rs, ps, rfl, hD, hl, h0, h1, hnd, hm, k⟩ := h
    rfl
  · obtain ⟨a, d, l, z, rs, ps, rfl, hD, hl, h0, h1, hnd, hm, k⟩ := h
    refine ⟨_, (pss_cons (ps_if (pt_cmpR op_isN (pv 1) pe_non (nomark _)) (pss_one (ps_ret (pe_slice (sl_tupAK (K := K) rfl) (pe_mt0 (c_Drawing_names T) hr (by decide) (pv 0)) po_none (po_some pe_int)))) pss_nil)
      (pss_cons (ps_if (PW.pt (pw_or (pt_not (pt_val (pe_callB (id := "isinstance") call_isiT (by rfl) (T.f 103) (by decide +kernel) (pa_cons (pv 1) (pa_cons (pe_tup (pa_cons (pe_bltn (v := .ty "list") (by rfl) (T.f 105) (by decide +kernel) rfl) (pa_cons (pe_bltn (v := .ty "tuple") (by rfl) (T.f 111) (by decide +kernel) rfl) pa_nil))) pa_nil))))) (pw_or1 (pt_cmpR op_eq (pe_callB (id := "len") (call_len_seqK (K := K) rfl) (by rfl) (T.f 104) (by decide +kernel) (pa_cons (pv 1) pa_nil)) pe_int (nomark _))))) (pss_one ps_never) pss_nil)
      (pss_cons (ps_par (i := 2) (j := 3) (by rfl) s_zeros_of.nd rfl rfl (by decide) rfl rfl (pa_cons (pe_mt0 (c_Drawing_names T) hr (by decide) (pv 0)) (pa_cons (pe_tup pa_nil) pa_nil)) (by rfl))
      (pss_cons (ps_for PassesOwn.never rfl (pi_enum (by rfl) (T.f 101) (pa_cons (pv 1) pa_nil)) (pg_tup rfl (pgs_cons (pg_name (i := 4) s_zeros_of.nd rfl (Or.inl rfl)) (pgs_cons (pg_name (i := 5) s_zeros_of.nd rfl (Or.inl rfl)) pgs_nil)))
      (pss_cons (ps_if (PW.pt (pw_or (pt_not (pt_val (pe_callB (id := "isinstance") call_isi (by rfl) (T.f 103) (by decide +kernel) (pa_cons (pv 5) (pa_cons (pe_bltn (v := .ty "str") (by rfl) (T.f 109) (by decide +kernel) rfl) pa_nil))))) (pw_or (pt_cmpR (op_notIn_seqK (K := K) rfl) (pv 5) (pv 2) (by rfl)) (pw_or1 (pt_cmpR (op_in_seqK (K := K) rfl) (pv 5) (pv 3) (by rfl)))))) (pss_one ps_never) pss_nil)
        (pss_one (ps_set (i := 3) s_zeros_of.nd rfl (Or.inl rfl) (pe_op op_catA (pv 3) (pe_tup (pa_cons (pv 5) pa_nil)))))))
      (pss_one (ps_ret (pv 3))))))), ?_⟩
    obtain ⟨dx, hi⟩ := hD.ins
    refine ⟨_, rfl, rfl, _, rfl, ?_⟩
    rw [decide_eq_false (fun h => by cases h)]
    refine iteF ?_
    refine ⟨_, rfl, sz2, fun tp htp => ?_⟩
    have s1 := same_new (o := .tup [.ty "list", .ty "tuple"]) htp
    have hl1 := s1 _ _ hl
    refine ⟨.ref l, tp, _, _, [.type "list", .type "tuple"], true, rfl, upd_same, .cons (.ty _) (.cons (.ty _) .nil), .base (.lst hl1), kitAny_cons (kit_ty (b := "list") (r := true) (by decide +kernel)) (fun h => by cases h) (fun _ => rfl), _, rfl, ?_⟩
    refine iteF ?_
    refine ⟨_, rfl, _, _, rfl, Or.inl (SqL.of hl1), rfl, _, rfl, ?_⟩
    rw [List.length_map]
    refine bool_of_false (fun e => ?_) ?_
    · injection e with e
      omega
    refine ⟨_, rfl, a, dx, _, rfl, s1 _ _ hi, rfl, a, d, z, rs, rfl, hD.ext s1, fun p H1 hp s2 h2 => ⟨Nat.zero_le _, fun q hq => ?_⟩⟩
    refine ⟨_, _, rfl, ?_⟩
    have s3 := same_new (o := .tup []) hq
    have sA := s1.trans (s2.trans s3)
    have hp2 := s3 _ _ h2
    have hq2 : SqT K (upd H1 q (.tup [])) q (([] : List Str).map V.str) := SqT.of upd_same
    generalize upd H1 q (.tup []) = H2 at sA hp2 hq2 ⊢
    refine ⟨_, rfl, l, _, rfl, SqL.of (sA _ _ hl), for_it (walk_enum (K := K) (a := l) (xs := ps.map V.str)) (fun i σ' H' => ∃ o4 o5 f, σ' = [some (.ref a), some (.ref l), some (.ref p), some (.ref f), o4, o5] ∧ Same H2 H' ∧ SqT K H' f ((ps.take i).map V.str)) ?_ ?_ ?_ ?_⟩
    · exact ⟨none, none, q, rfl, Same.refl _, hq2⟩
    · rintro i σ' H' _ ⟨_, _, _, _, s, _⟩
      exact SqL.of (s _ _ (sA _ _ hl))
    · rintro i v σ' H' H'' hil ⟨o4, o5, f, rfl, s, hf⟩ ⟨t, x1, x2, rfl, ht, rfl, e1, e2⟩
      cases e1
      have e2 : (ps.map V.str)[i]? = some x2 := e2
      rw [List.getElem?_map] at e2
      cases hx : ps[i]? with
      | none => rw [hx] at e2; cases e2
      | some n =>
        rw [hx] at e2
        cases e2
        have st := same_new (o := .tup [.int (i : Int), .str n]) ht
        have sB := sA.trans (s.trans st)
        have et : ps.take (i + 1) = ps.take i ++ [n] := by rw [List.take_add_one, hx]; rfl
        have hno : n ∉ ps.take i := fun h => by
          have := (List.take_sublist (i + 1) ps).nodup hnd
          rw [et] at this
          exact (List.nodup_append.mp this).2.2 n h n (List.mem_singleton.mpr rfl) rfl
        refine ⟨t, _, rfl, SqT.of upd_same, rfl, _, _, rfl, _, _, rfl, rfl, ?_⟩
        refine ⟨_, rfl, .str n, .ty "str", .type "str", .type "str", true, rfl, .ty "str", .base (.str _), kit_ty (by decide +kernel), true, rfl, ?_⟩
        refine ⟨_, rfl, _, rfl, p, _, rfl, Or.inr (SqT.of ((s.trans st) _ _ hp2)), rfl, flat_strs _, _, rfl, ?_⟩
        rw [inV_strs, decide_eq_true (mem_names.mpr (hm n (List.mem_of_getElem? hx)))]
        refine iteF ?_
        refine ⟨_, rfl, _, rfl, f, _, rfl, Or.inr (hf.ext st), rfl, flat_strs _, _, rfl, ?_⟩
        rw [inV_strs, decide_eq_false hno]
        refine iteF ?_
        refine ⟨_, rfl, _, rfl, sz1, fun q2 hq2 => ?_⟩
        have s4 := same_new (o := .tup [.str n]) hq2
        have hlt : (ps.take i).length ≤ i := by rw [List.length_take]; omega
        have hil2 := (List.getElem?_eq_some_iff.mp hx).1
        refine ⟨f, q2, _, _, rfl, rfl, (hf.ext st).ext s4, SqT.of upd_same, ?_, fun he => ?_, (fun _ h => by cases h), fun he _ q3 hq3 => ?_⟩
        · rw [List.length_map]
          exact len_sl (by show (ps.take i).length + 1 ≤ _; omega)
        · refine ⟨_, _, _, rfl, s.trans (st.trans s4), ?_⟩
          have e0 : ps.take i = [] := List.map_eq_nil_iff.mp he
          rw [et, e0]
          exact SqT.of upd_same
        · refine ⟨_, _, _, rfl, s.trans (st.trans (s4.trans (same_new hq3))), ?_⟩
          rw [et, List.map_append]
          exact SqT.of upd_same
    · rintro σ' H' ⟨o4, o5, f, rfl, s, hf⟩
      rw [List.length_map, List.take_length] at hf
      exact ⟨_, rfl, k f _ (sA.trans s) hf⟩
theorem s_last_zero : FnScope ["drawing", "zeros", "name", "found", "step", "back"] ["drawing", "zeros", "name"] d_last_zero.scope := ⟨rfl, rfl, rfl, by decide +kernel, rfl, by decide +kernel, by decide +kernel⟩
theorem c_last_zero (T : Txt w K mg) : Cal P w K mg base 3 "last_zero" (fun vs H Q _ => ∃ (a d t : Addr) (z : Str) (rs : List Row) (ps : List Str) (p0 n : Str), vs = [.ref a, .ref t, .str n] ∧ DrawAt K H a d z rs ∧ SqT K H t (ps.map V.str) ∧ ps[0]? = some p0 ∧ p0 ∈ z :: rnm rs ∧ n ∈ z :: rnm rs ∧ ∀ H', Same H H' → Q (.str (lastZ rs ps p0 n)) H') [] := by
  refine T.cal 70 58 (d := d_last_zero) (S := s_last_zero) (hb := fun _ _ _ _ _ _ us hl => match us, hl with | [_, _, _], _ => rfl) (len := fun vs H Q E h => ?_) (hbody := fun cdv A outer s H vs Q E hr h => ?_)
  · obtain ⟨a, d, t, z, rs, ps, p0, n, rfl, hD, hS, h0, m0, hn, k⟩ := h
    rfl
  · obtain ⟨a, d, t, z, rs, ps, p0, n, rfl, hD, hS, h0, m0, hn, k⟩ := h
    refine ⟨_, (pss_cons (ps_set (i := 3) s_last_zero.nd rfl (Or.inl rfl) (pe_ix (ix_tupK (K := K) rfl) (pv 1) pe_int (fun _ _ => rfl)))
      (pss_cons (ps_for PassesOwn.never rfl (pi_tup (pe_mt (c_Drawing_road T) hr (by decide) (pv 0) (pa_cons (pe_ix (ix_tupK (K := K) rfl) (pv 1) pe_int (fun _ _ => rfl)) (pa_cons (pv 2) pa_nil)))) (pg_tup rfl (pgs_cons (pg_name (i := 4) s_last_zero.nd rfl (Or.inl rfl)) (pgs_cons (pg_name (i := 5) s_last_zero.nd rfl (Or.inl rfl)) pgs_nil)))
      (pss_one (ps_if (pt_cmpR (op_in_seqK (K := K) rfl) (pv 4) (pv 1) (by rfl)) (pss_one (ps_set (i := 3) s_last_zero.nd rfl (Or.inl rfl) (pv 4))) pss_nil)))
      (pss_one (ps_ret (pv 3))))), ?_⟩
    obtain ⟨dx, hi⟩ := hD.ins
    refine ⟨_, rfl, t, _, _, _, rfl, rfl, hS, at_words (i := 0) h0, ?_⟩
    refine ⟨_, rfl, a, dx, _, rfl, hi, rfl, _, rfl, t, _, _, _, rfl, rfl, hS, at_words (i := 0) h0, _, rfl, a, d, z, rs, p0, n, rfl, hD, m0, hn, fun q vs H1 hq s1 h1 p1 => ?_⟩
    refine ⟨q, rfl, ⟨_, SqT.of h1⟩, for_tup (K := K) (xs := vs) (fun i σ' H' => ∃ o4 o5, σ' = [some (.ref a), some (.ref t), some (.str n), some (.str (((roadP rs p0 n).take i).foldl (lastF ps) p0)), o4, o5] ∧ Same H1 H') ?_ ?_ ?_ ?_⟩
    · exact ⟨none, none, rfl, Same.refl _⟩
    · rintro i σ' H' _ ⟨_, _, _, s⟩
      exact SqT.of (s _ _ h1)
    · rintro i x σ' H' hx ⟨o4, o5, rfl, s⟩
      obtain ⟨⟨m, bk⟩, hp, u, rfl, hu⟩ := p_get p1 hx
      refine ⟨u, _, rfl, SqT.of (s _ _ hu), rfl, _, _, rfl, _, _, rfl, rfl, ?_⟩
      refine ⟨_, rfl, _, rfl, t, _, rfl, Or.inr (hS.ext (s1.trans s)), rfl, flat_strs _, _, rfl, ?_⟩
      rw [inV_strs]
      have et : ((roadP rs p0 n).take (i + 1)).foldl (lastF ps) p0 = lastF ps (((roadP rs p0 n).take i).foldl (lastF ps) p0) (m, bk) := by
        rw [List.take_add_one, hp, List.foldl_append]
        rfl
      by_cases hm : m ∈ ps
      · rw [decide_eq_true hm]
        refine iteT ?_
        refine ⟨_, rfl, some (.str m), some (.bl bk), ?_, s⟩
        rw [et]
        unfold lastF
        rw [if_pos hm]
        rfl
      · rw [decide_eq_false hm]
        refine iteF ?_
        refine ⟨some (.str m), some (.bl bk), ?_, s⟩
        rw [et]
        conv => rhs; unfold lastF
        rw [if_neg hm]
        rfl
    · rintro σ' H' ⟨o4, o5, rfl, s⟩
      rw [← Paired.len p1, List.take_length]
      exact ⟨_, rfl, k _ (s1.trans s)⟩
theorem newD {K : PySem.W.Frag} {H H' : Hp} {x dx d : Addr} {z : Str} (hz : NameOk z) (hx : H x = none) (hd : H dx = none) (hd2 : (upd (upd H dx (.own x)) x (.ins (He.ga K "Drawing") dx [])) d = none) (b : Bt x (upd (upd H dx (.own x)) x (.ins (He.ga K "Drawing") dx [])) H')
    (h1 : H' x = some (.ins (He.ga K "Drawing") dx (drF z d))) (h2 : H' d = some (.dK [])) : H d = none ∧ Same H H' ∧ DrawAt K H' x d z [] := by
  have s0 : Same H (upd (upd H dx (.own x)) x (.ins (He.ga K "Drawing") dx [])) := same_mut (same_new hd) hx
  exact ⟨s0.free hd2, b.same s0 hx, ⟨⟨dx, h1⟩, ⟨[], h2, .nil⟩, .nil hz, Nat.zero_le _⟩⟩
theorem s_straight_from : FnScope ["drawing", "zeros", "base", "found", "name", "start"] ["drawing", "zeros"] d_straight_from.scope := ⟨rfl, rfl, rfl, by decide +kernel, rfl, by decide +kernel, by decide +kernel⟩
theorem c_straight_from (T : Txt w K mg) : Cal P w K mg base 8 "straight_from" (fun vs H Q _ => ∃ (a d t : Addr) (z : Str) (rs : List Row) (p0 : Str) (pt : List Str), vs = [.ref a, .ref t] ∧ DrawAt K H a d z rs ∧ SqT K H t ((p0 :: pt).map V.str) ∧ (∀ m ∈ p0 :: pt, m ∈ z :: rnm rs) ∧ Good p0 (straightP z rs p0 pt) ∧ (straightP z rs p0 pt).length ≤ 100 ∧ RetDR K H p0 (straightP z rs p0 pt) Q) [] := by
  refine T.cal 71 59 (d := d_straight_from) (S := s_straight_from) (hb := fun _ _ _ _ _ _ us hl => match us, hl with | [_, _], _ => rfl) (len := fun vs H Q E h => ?_) (hbody := fun cdv A outer s H vs Q E hr h => ?_)
  · obtain ⟨a, d, t, z, rs, p0, pt, rfl, hD, hS, hm, gS, hlen, k⟩ := h
    rfl
  · obtain ⟨a, d, t, z, rs, p0, pt, rfl, hD, hS, hm, gS, hlen, k⟩ := h
    refine ⟨_, (pss_cons (ps_par (i := 2) (j := 3) (by rfl) s_straight_from.nd rfl rfl (by decide) rfl rfl (pa_cons (pe_c (c_hung_on T) hr (by decide) rfl (pa_cons (pv 0) (pa_cons (pe_ix (ix_tupK (K := K) rfl) (pv 1) pe_int (fun _ _ => rfl)) pa_nil))) (pa_cons (pe_mk (m_Drawing1 T) hr (by decide) rfl (pa_cons (pe_ix (ix_tupK (K := K) rfl) (pv 1) pe_int (fun _ _ => rfl)) pa_nil)) pa_nil)) (by rfl))
      (pss_cons (ps_for PassesOwn.never rfl (pi_tup (pe_slice (sl_tupAK (K := K) rfl) (pv 1) (po_some pe_int) po_none)) (pg_name (i := 4) s_straight_from.nd rfl (Or.inl rfl))
      (pss_one (ps_expr (pe_mt (c_Drawing_mark T) hr (by decide) (pv 3) (pa_cons (pv 4) (pa_cons (pe_mt (c_Drawing_between T) hr (by decide) (pv 2) (pa_cons (pe_ix (ix_tupK (K := K) rfl) (pv 1) pe_int (fun _ _ => rfl)) (pa_cons (pv 4) pa_nil))) (pa_cons (pe_ix (ix_tupK (K := K) rfl) (pv 1) pe_int (fun _ _ => rfl)) pa_nil)))))))
      (pss_cons (ps_for PassesOwn.never rfl (pi_tup (pe_mt0 (c_Drawing_names T) hr (by decide) (pv 0))) (pg_name (i := 4) s_straight_from.nd rfl (Or.inl rfl))
      (pss_one (ps_if (pt_cmpR (op_notIn_seqK (K := K) rfl) (pv 4) (pv 1) (by rfl)) (pss_cons (ps_set (i := 5) s_straight_from.nd rfl (Or.inl rfl) (pe_c (c_last_zero T) hr (by decide) rfl (pa_cons (pv 2) (pa_cons (pv 1) (pa_cons (pv 4) pa_nil)))))
          (pss_one (ps_expr (pe_mt (c_Drawing_mark T) hr (by decide) (pv 3) (pa_cons (pv 4) (pa_cons (pe_mt (c_Drawing_between T) hr (by decide) (pv 2) (pa_cons (pv 5) (pa_cons (pv 4) pa_nil))) (pa_cons (pv 5) pa_nil))))))) pss_nil)))
      (pss_one (ps_ret (pv 3)))))), ?_⟩
    obtain ⟨dx, hi⟩ := hD.ins
    have good := hD.good
    have m0 := hm p0 (List.mem_cons_self ..)
    have hmem := hung_mem good m0
    unfold straightP at gS hlen k
    refine ⟨_, rfl, _, rfl, t, _, _, _, rfl, rfl, hS, at_words (ws := p0 :: pt) (i := 0) rfl, a, d, z, rs, p0, rfl, hD, m0, fun b db H1 hb hdb s1 hB => ?_⟩
    have hB0 : DrawAt K H1 b db p0 (hungP rs p0) := hB
    generalize hungP rs p0 = h at *
    refine ⟨_, rfl, t, _, _, _, rfl, rfl, hS.ext s1, at_words (ws := p0 :: pt) (i := 0) rfl, ?_⟩
    intro x0 dx0 hx0 hdx0 hne0
    refine ⟨x0, dx0, p0, rfl, good.ok m0, upd_same, fun df H2 hd2 bb h1 h2 => ⟨rfl, _, _, rfl, ?_⟩⟩
    obtain ⟨hdf1, s2, hF⟩ := newD (K := K) (good.ok m0) hx0 hdx0 hd2 bb h1 h2
    have hdf : H df = none := s1.free hdf1
    have hf : H x0 = none := s1.free hx0
    have s02 := s1.trans s2
    have hB := hB0.ext s2
    have hdb2 : db ≠ df := fun e => by
      obtain ⟨kvs, hk, _⟩ := hB.rows
      obtain ⟨kvs1, hk1, _⟩ := hB0.rows
      rw [e, hdf1] at hk1
      cases hk1
    clear bb h1 h2 hd2
    refine ⟨_, rfl, _, rfl, t, _, rfl, hS.ext s02, (fun h => absurd h (not_tail _ _)), fun _ q hq => ?_⟩
    have s3 := same_new (o := .tup (cutV ((p0 :: pt).map V.str) (some 1) none)) hq
    have ec : cutV ((p0 :: pt).map V.str) (some 1) none = pt.map V.str := cut_tail _ _
    have hq2 : (upd H2 q (.tup (cutV ((p0 :: pt).map V.str) (some 1) none))) q = some (.tup (pt.map V.str)) := by rw [upd_same, ec]
    have sA := s02.trans s3
    have hF := hF.ext s3
    have hB := hB.ext s3
    generalize upd H2 q (.tup (cutV ((p0 :: pt).map V.str) (some 1) none)) = H3 at hq2 sA hF hB ⊢
    have hqf : q ≠ df := fun e => by
      obtain ⟨kvs, hk, _⟩ := hF.rows
      rw [← e, hq2] at hk
      cases hk
    obtain ⟨kvsF, hFd, _⟩ := id hF.rows
    have gY : Good p0 ((pt.map (stA h p0)).reverse) := good_suf gS
    have hYl : ((pt.map (stA h p0)).reverse).length ≤ 100 := by rw [List.length_append] at hlen; omega
    refine ⟨q, rfl, ⟨_, SqT.of hq2⟩, for_tup (K := K) (xs := pt.map V.str) (fun i σ' H' => ∃ o4, σ' = [some (.ref a), some (.ref t), some (.ref b), some (.ref x0), o4, none] ∧ Bt df H3 H' ∧ DrawAt K H' x0 df p0 ((pt.take i).map (stA h p0)).reverse) ?_ ?_ ?_ ?_⟩
    · exact ⟨none, rfl, fun _ _ _ h => h, hF⟩
    · rintro i σ' H' _ ⟨_, _, b2, _⟩
      exact SqT.of (b2 _ _ hqf hq2)
    · rintro i x σ' H' hx ⟨o4, rfl, b2, hF2⟩
      rw [List.getElem?_map] at hx
      cases hn : pt[i]? with
      | none => rw [hn] at hx; cases hx
      | some n =>
        rw [hn] at hx
        cases hx
        have et : pt.take (i + 1) = pt.take i ++ [n] := by rw [List.take_add_one, hn]; rfl
        have er : ((pt.take (i + 1)).map (stA h p0)).reverse = stA h p0 n :: ((pt.take i).map (stA h p0)).reverse := by
          rw [et, List.map_append, List.reverse_append]
          rfl
        have sB : Same H H' := b2.same sA hdf
        have hBx : DrawAt K H' b db p0 h := hB.kp (b2.kp hFd (fun h => h.elim)) (by
          obtain ⟨kvs, hk, _⟩ := hB.rows
          rw [hk]
          exact b2 _ _ hdb2 hk)
        obtain ⟨dxf, hfi⟩ := hF2.ins
        obtain ⟨dxb, hbi⟩ := hBx.ins
        have hnm := (hmem n).mpr (hm n (List.mem_cons_of_mem _ (List.mem_of_getElem? hn)))
        refine ⟨_, rfl, x0, dxf, _, rfl, hfi, rfl, _, rfl, _, rfl, b, dxb, _, rfl, hbi, rfl, _, rfl, t, _, _, _, rfl, rfl, hS.ext sB, at_words (ws := p0 :: pt) (i := 0) rfl, _, rfl, b, db, p0, h, p0, n, rfl, hBx, List.mem_cons_self .., hnm, fun sp H4 hsp s4 hSp => ?_⟩
        refine ⟨_, rfl, t, _, _, _, rfl, rfl, hS.ext (sB.trans s4), at_words (ws := p0 :: pt) (i := 0) rfl, ?_⟩
        have gN : Good p0 (stA h p0 n :: ((pt.take i).map (stA h p0)).reverse) := by
          rw [← er]
          refine good_suf (l := ((pt.drop (i + 1)).map (stA h p0)).reverse) ?_
          rw [← List.reverse_append, ← List.map_append, List.take_append_drop]
          exact gY
        refine ⟨x0, df, p0, _, n, p0, _, _, _, sp, rfl, hF2.ext s4, gN, ?_, hSp, fun H5 i5 b5 hF5 => ?_⟩
        · have hl : (((pt.take (i + 1)).map (stA h p0)).reverse).length ≤ (pt.map (stA h p0)).reverse.length := by
            rw [List.length_reverse, List.length_reverse, List.length_map, List.length_map, List.length_take]
            omega
          rw [er, List.length_cons] at hl
          omega
        · refine ⟨_, rfl, b2.trans ((Bt.of s4).trans b5), ?_⟩
          rw [er]
          exact hF5
    · rintro σ' H' ⟨o4, rfl, b2, hF2⟩
      rw [List.length_map, List.take_length] at hF2
      have sB : Same H H' := b2.same sA hdf
      refine ⟨_, rfl, a, dx, _, rfl, sB _ _ hi, rfl, a, d, z, rs, rfl, hD.ext sB, fun q2 H4 hq2 s4 h4 => ?_⟩
      have b24 := b2.trans (Bt.of s4)
      have hq2f : q2 ≠ df := fun e => by
        obtain ⟨kvs, hk, _⟩ := hF2.rows
        rw [e, hk] at hq2
        cases hq2
      refine ⟨q2, rfl, ⟨_, SqT.of h4⟩, for_tup (K := K) (xs := (z :: rnm rs.reverse).map V.str) (fun i σ' H' => ∃ o4 o5, σ' = [some (.ref a), some (.ref t), some (.ref b), some (.ref x0), o4, o5] ∧ Bt df H4 H' ∧ DrawAt K H' x0 df p0 (((((z :: rnm rs.reverse).take i).filter fun n => decide (n ∉ p0 :: pt)).map (stB h (p0 :: pt) p0)).reverse ++ (pt.map (stA h p0)).reverse)) ?_ ?_ ?_ ?_⟩
      · exact ⟨_, _, rfl, fun _ _ _ h => h, hF2.ext s4⟩
      · rintro i σ' H' _ ⟨_, _, _, b3, _⟩
        exact SqT.of (b3 _ _ hq2f h4)
      · rintro i x σ' H5 hx ⟨o4, o5, rfl, b3, hF3⟩
        rw [List.getElem?_map] at hx
        cases hn : (z :: rnm rs.reverse)[i]? with
        | none => rw [hn] at hx; cases hx
        | some n =>
          rw [hn] at hx
          cases hx
          have et : (z :: rnm rs.reverse).take (i + 1) = (z :: rnm rs.reverse).take i ++ [n] := by rw [List.take_add_one, hn]; rfl
          have b25 := b24.trans b3
          have sC : Same H H5 := b25.same sA hdf
          have hBx : DrawAt K H5 b db p0 h := hB.kp (b25.kp hFd (fun h => h.elim)) (by
            obtain ⟨kvs, hk, _⟩ := hB.rows
            rw [hk]
            exact b25 _ _ hdb2 hk)
          obtain ⟨dxf, hfi⟩ := hF3.ins
          obtain ⟨dxb, hbi⟩ := hBx.ins
          have hnm := (hmem n).mpr (mem_names.mp (List.mem_of_getElem? hn))
          refine ⟨_, rfl, _, rfl, t, _, rfl, Or.inr (hS.ext sC), rfl, flat_strs _, _, rfl, ?_⟩
          rw [inV_strs]
          by_cases hu : n ∈ p0 :: pt
          · rw [decide_eq_true hu]
            refine iteF ?_
            refine ⟨_, _, rfl, b3, ?_⟩
            rw [et, List.filter_append, List.filter_cons_of_neg (p := fun n => decide (n ∉ p0 :: pt)) (fun q => absurd hu (of_decide_eq_true q)), List.filter_nil, List.append_nil]
            exact hF3
          · rw [decide_eq_false hu]
            refine iteT ?_
            have er : ((((z :: rnm rs.reverse).take (i + 1)).filter fun n => decide (n ∉ p0 :: pt)).map (stB h (p0 :: pt) p0)).reverse = stB h (p0 :: pt) p0 n :: ((((z :: rnm rs.reverse).take i).filter fun n => decide (n ∉ p0 :: pt)).map (stB h (p0 :: pt) p0)).reverse := by
              rw [et, List.filter_append, List.filter_cons_of_pos (p := fun n => decide (n ∉ p0 :: pt)) (decide_eq_true hu), List.filter_nil, List.map_append, List.reverse_append]
              rfl
            have gN : Good p0 (stB h (p0 :: pt) p0 n :: (((((z :: rnm rs.reverse).take i).filter fun n => decide (n ∉ p0 :: pt)).map (stB h (p0 :: pt) p0)).reverse ++ (pt.map (stA h p0)).reverse)) := by
              rw [← List.cons_append, ← er]
              refine good_suf (l := ((((z :: rnm rs.reverse).drop (i + 1)).filter fun n => decide (n ∉ p0 :: pt)).map (stB h (p0 :: pt) p0)).reverse) ?_
              rw [← List.append_assoc, ← List.reverse_append, ← List.map_append, ← List.filter_append, List.take_append_drop]
              exact gS
            have hlm := lastZ_mem (rs := h) (n := n) (List.mem_cons_self .. : p0 ∈ p0 :: pt)
            have hlm2 := (hmem _).mpr (hm _ hlm)
            refine ⟨_, rfl, _, rfl, _, rfl, b, db, t, p0, h, p0 :: pt, p0, n, rfl, hBx, hS.ext sC, rfl, List.mem_cons_self .., hnm, fun H6 s6 => ?_⟩
            refine ⟨_, rfl, x0, dxf, _, rfl, s6 _ _ hfi, rfl, _, rfl, _, rfl, b, dxb, _, rfl, s6 _ _ hbi, rfl, _, rfl, _, rfl, b, db, p0, h, lastZ h (p0 :: pt) p0 n, n, rfl, hBx.ext s6, hlm2, hnm, fun sp H7 hsp s7 hSp => ?_⟩
            refine ⟨_, rfl, x0, df, p0, _, n, lastZ h (p0 :: pt) p0 n, _, _, _, sp, rfl, (hF3.ext s6).ext s7, gN, ?_, hSp, fun H8 i8 b8 hF8 => ?_⟩
            · have hl : ((((z :: rnm rs.reverse).take (i + 1)).filter fun n => decide (n ∉ p0 :: pt)).map (stB h (p0 :: pt) p0)).reverse.length ≤ (((z :: rnm rs.reverse).filter fun n => decide (n ∉ p0 :: pt)).map (stB h (p0 :: pt) p0)).reverse.length := by
                rw [List.length_reverse, List.length_reverse, List.length_map, List.length_map]
                exact ((List.take_sublist _ _).filter _).length_le
              rw [er, List.length_cons] at hl
              rw [List.length_append] at hlen
              refine Nat.lt_of_lt_of_le ?_ hlen
              refine Nat.lt_of_le_of_lt (Nat.le_of_eq List.length_append) ?_
              omega
            · refine ⟨_, _, rfl, b3.trans ((Bt.of s6).trans ((Bt.of s7).trans b8)), ?_⟩
              rw [er]
              exact hF8
      · rintro σ' H5 ⟨o4, o5, rfl, b3, hF3⟩
        rw [List.length_map, List.take_length] at hF3
        exact ⟨_, rfl, k x0 df _ hf hdf ((b24.trans b3).same sA hdf) hF3⟩
end
end Fw
set_option Elab.async false
set_option linter.all false
set_option maxRecDepth 100000
set_option maxHeartbeats 4000000
namespace Fw
open PySem PySem.Spec PyProof.Rows L2
open C8 (Cal CalAt Met Mak pe_c pe_mk pe_mt pe_mt0 pe_gc InsC call_isC)

section
variable {P : Program} {w : World} {K : PySem.W.Frag} {mg : Str → Option Value} {base : Heap}

/-! wider, straight, unsure -/
def lenP (p : Par) : Int := ((p.1 + p.2.1 + 1 - (p.1 - p.2.2)).toNat : Nat)
def moreP (rs rs2 : List Row) (n m : Str) : Int := lenP (betP rs2 n m) - lenP (betP rs n m)
def widerL (f : Str → Str → Int) : List Str → List (Str × Str × Int)
  | [] => []
  | n :: ns => (ns.filter fun m => decide (0 < f n m)).map (fun m => (n, m, f n m)) ++ widerL f ns
def widerP (z : Str) (rs rs2 : List Row) : List (Str × Str × Int) := widerL (moreP rs rs2) (z :: rnm rs.reverse)
def WidAt (H : Hp) (p : Str × Str × Int) (v : V) : Prop := ∃ q, v = .ref q ∧ H q = some (.tup [.str p.1, .str p.2.1, .int p.2.2])
theorem WidAt.kp {H H' : Hp} {v : V} {p : Str × Str × Int} (h : WidAt H p v) (e : Kp H H') : WidAt H' p v := by
  obtain ⟨q, a, b⟩ := h
  exact ⟨q, a, e _ _ trivial b⟩
def SmallB (z : Str) (rs : List Row) : Prop := ∀ n m, n ∈ z :: rnm rs → m ∈ z :: rnm rs → (betP rs n m).2.1 + (betP rs n m).2.2 < 1000000000
theorem not_from {ws : List Str} {i : Nat} (h : i < ws.length) {X : Prop} : ¬ (HT.sIx (ws.map V.str).length 0 (some ((i : Int) + 1)) = 0 ∧ X) := by
  have e : HT.sIx (ws.map V.str).length 0 (some ((i : Int) + 1)) = i + 1 := by
    have := HT.sIx_nat (ws.map V.str).length 0 (i + 1)
    rw [List.length_map, Nat.min_eq_left h] at this
    rw [List.length_map]
    exact this
  rw [e]
  rintro ⟨q, _⟩
  cases q
theorem len_small {p : Par} (h : p.2.1 + p.2.2 < 1000000000) : (p.1 + p.2.1 + 1 - (p.1 - p.2.2)).toNat < 4611686018427387904 := by omega
theorem s_wider_between : FnScope ["drawing", "other", "names", "found", "at", "one", "name", "more"] ["drawing", "other"] d_wider_between.scope := ⟨rfl, rfl, rfl, by decide +kernel, rfl, by decide +kernel, by decide +kernel⟩
theorem c_wider_between (T : Txt w K mg) : Cal P w K mg base 8 "wider_between" (fun vs H Q _ => ∃ (a d b d2 : Addr) (z z2 : Str) (rs rs2 : List Row), vs = [.ref a, .ref b] ∧ DrawAt K H a d z rs ∧ DrawAt K H b d2 z2 rs2 ∧ (∀ n ∈ z :: rnm rs, n ∈ z2 :: rnm rs2) ∧ SmallB z rs ∧ SmallB z2 rs2 ∧ RetP H Q WidAt (widerP z rs rs2)) [] := by
  refine T.cal 72 60 (d := d_wider_between) (S := s_wider_between) (hb := fun _ _ _ _ _ _ us hl => match us, hl with | [_, _], _ => rfl) (len := fun vs H Q E h => ?_) (hbody := fun cdv A outer s H vs Q E hr h => ?_)
  · obtain ⟨a, d, b, d2, z, z2, rs, rs2, rfl, hD, hB, hsub, q1, q2, k⟩ := h
    rfl
  · obtain ⟨a, d, b, d2, z, z2, rs, rs2, rfl, hD, hB, hsub, q1, q2, k⟩ := h
    refine ⟨_, (pss_cons (ps_par (i := 2) (j := 3) (by rfl) s_wider_between.nd rfl rfl (by decide) rfl rfl (pa_cons (pe_mt0 (c_Drawing_names T) hr (by decide) (pv 0)) (pa_cons (pe_lst pa_nil) pa_nil)) (by rfl))
      (pss_cons (ps_for PassesOwn.never rfl (pi_enumE (by rfl) (T.f 101) (pa_cons (pv 2) pa_nil)) (pg_tup rfl (pgs_cons (pg_name (i := 4) s_wider_between.nd rfl (Or.inl rfl)) (pgs_cons (pg_name (i := 5) s_wider_between.nd rfl (Or.inl rfl)) pgs_nil)))
      (pss_one (ps_for PassesOwn.never rfl (pi_tup (pe_slice (sl_tupAK (K := K) rfl) (pv 2) (po_some (pe_op op_add (pv 4) pe_int)) po_none)) (pg_name (i := 6) s_wider_between.nd rfl (Or.inl rfl))
        (pss_cons (ps_set (i := 7) s_wider_between.nd rfl (Or.inl rfl) (pe_op op_sub (pe_callB (id := "len") (c_lenS T hr (by decide)) (by rfl) (T.f 104) (by decide +kernel) (pa_cons (pe_mt (c_Drawing_between T) hr (by decide) (pv 1) (pa_cons (pv 5) (pa_cons (pv 6) pa_nil))) pa_nil)) (pe_callB (id := "len") (c_lenS T hr (by decide)) (by rfl) (T.f 104) (by decide +kernel) (pa_cons (pe_mt (c_Drawing_between T) hr (by decide) (pv 0) (pa_cons (pv 5) (pa_cons (pv 6) pa_nil))) pa_nil))))
          (pss_one (ps_if (pt_cmpR op_gt (pv 7) pe_int (nomark _)) (pss_one (ps_expr (pe_bm PySem.F.plainAttrs_list PySem.F.slot_list_append PySem.F.type_list_append mt_append (pv 3) (pa_cons (pe_tup (pa_cons (pv 5) (pa_cons (pv 6) (pa_cons (pv 7) pa_nil)))) pa_nil)))) pss_nil))))))
      (pss_one (ps_ret (pe_callTy (T := "tuple") call_tuple_of (by rfl) (T.f 111) (by decide +kernel) (pa_cons (pv 3) pa_nil)))))), ?_⟩
    obtain ⟨dx, hi⟩ := hD.ins
    obtain ⟨dxb, hbi⟩ := hB.ins
    have hfew := hD.few
    refine ⟨_, rfl, a, dx, _, rfl, hi, rfl, a, d, z, rs, rfl, hD, fun p H1 hp s1 h1 => ⟨Nat.zero_le _, fun l hl => ?_⟩⟩
    refine ⟨_, _, rfl, ?_⟩
    have s2 := same_new (o := .lst []) hl
    have sA := s1.trans s2
    have hp2 := s2 _ _ h1
    have hl0 : H l = none := s1.free hl
    have hl2 : (upd H1 l (.lst [])) l = some (.lst []) := upd_same
    have hpl : p ≠ l := fun e => by rw [e, hl] at h1; cases h1
    generalize upd H1 l (.lst []) = H2 at sA hp2 hl2 ⊢
    have hnl : (z :: rnm rs.reverse).length = rs.length + 1 := by
      rw [List.length_cons, rnm_rev, List.length_reverse]
      exact congrArg Nat.succ (List.length_map _)
    have hmn : ∀ n ∈ z :: rnm rs.reverse, n ∈ z :: rnm rs := fun n h => mem_names.mp h
    unfold RetP widerP at k
    generalize z :: rnm rs.reverse = ns at *
    refine ⟨_, rfl, p, _, rfl, Or.inr ⟨SqT.of hp2, for_it (walk_enumT (K := K) (a := p) (xs := ns.map V.str)) (fun i σ' H' => ∃ o4 o5 o6 o7 vs acc, σ' = [some (.ref a), some (.ref b), some (.ref p), some (.ref l), o4, o5, o6, o7] ∧ Bt l H2 H' ∧ H' l = some (.lst vs) ∧ Paired (WidAt H') acc vs ∧ acc ++ widerL (moreP rs rs2) (ns.drop i) = widerL (moreP rs rs2) ns ∧ acc.length ≤ i * 200) ?_ ?_ ?_ ?_⟩⟩
    · exact ⟨none, none, none, none, [], [], rfl, fun _ _ _ h => h, hl2, .nil, rfl, Nat.zero_le _⟩
    · rintro i σ' H' _ ⟨_, _, _, _, _, _, _, b0, _⟩
      exact SqT.of (b0 _ _ hpl hp2)
    · rintro i v σ' H' H'' hil ⟨o4, o5, o6, o7, vs, acc, rfl, b0, hL, pL, hcat, hal⟩ ⟨t, x1, x2, rfl, ht, rfl, e1, e2⟩
      cases e1
      have e2 : (ns.map V.str)[i]? = some x2 := e2
      rw [List.getElem?_map] at e2
      cases hx : ns[i]? with
      | none => rw [hx] at e2; cases e2
      | some one =>
        rw [hx] at e2
        cases e2
        have hin := (List.getElem?_eq_some_iff.mp hx).1
        have m1 := hmn one (List.mem_of_getElem? hx)
        have ed : ns.drop i = one :: ns.drop (i + 1) := by
          rw [List.drop_eq_getElem_cons hin]
          congr 1
          rw [List.getElem?_eq_getElem hin] at hx
          injection hx
        have st := same_new (o := .tup [.int (i : Int), .str one]) ht
        refine ⟨t, _, rfl, SqT.of upd_same, rfl, _, _, rfl, _, _, rfl, rfl, ?_⟩
        have bt := b0.trans (Bt.of st)
        have hLt := st _ _ hL
        have pLt : Paired (WidAt (upd H' t (.tup [.int (i : Int), .str one]))) acc vs := p_imp pL fun _ _ h => h.kp (Kp.of st)
        generalize upd H' t (.tup [.int (i : Int), .str one]) = H3 at bt hLt pLt ⊢
        refine ⟨_, rfl, _, rfl, _, _, rfl, rfl, _, rfl, p, _, rfl, SqT.of (bt _ _ hpl hp2), (fun h => absurd h (not_from hin)), fun _ q hq => ?_⟩
        rw [cut_from hin]
        have s4 := same_new (o := .tup ((ns.drop (i + 1)).map V.str)) hq
        have b4 := bt.trans (Bt.of s4)
        have hq4 : (upd H3 q (.tup ((ns.drop (i + 1)).map V.str))) q = some (.tup ((ns.drop (i + 1)).map V.str)) := upd_same
        have hql : q ≠ l := fun e => by rw [e, hLt] at hq; cases hq
        have hL4 := s4 _ _ hLt
        have pL4 : Paired (WidAt (upd H3 q (.tup ((ns.drop (i + 1)).map V.str)))) acc vs := p_imp pLt fun _ _ h => h.kp (Kp.of s4)
        generalize upd H3 q (.tup ((ns.drop (i + 1)).map V.str)) = H4 at b4 hq4 hL4 pL4 ⊢
        refine ⟨q, rfl, ⟨_, SqT.of hq4⟩, for_tup (K := K) (xs := (ns.drop (i + 1)).map V.str) (fun j σ' H' => ∃ o6 o7 vs, σ' = [some (.ref a), some (.ref b), some (.ref p), some (.ref l), some (.int (i : Int)), some (.str one), o6, o7] ∧ Bt l H4 H' ∧ H' l = some (.lst vs) ∧ Paired (WidAt H') (acc ++ (((ns.drop (i + 1)).take j).filter fun m => decide (0 < moreP rs rs2 one m)).map fun m => (one, m, moreP rs rs2 one m)) vs) ?_ ?_ ?_ ?_⟩
        · refine ⟨o6, o7, vs, rfl, fun _ _ _ h => h, hL4, ?_⟩
          rw [List.take_zero, List.filter_nil, List.map_nil, List.append_nil]
          exact pL4
        · rintro j σ' H' _ ⟨_, _, _, _, b5, _⟩
          exact SqT.of (b5 _ _ hql hq4)
        · rintro j x σ' H5 hx5 ⟨o6, o7, vs5, rfl, b5, hL5, pL5⟩
          rw [List.getElem?_map] at hx5
          cases hm : (ns.drop (i + 1))[j]? with
          | none => rw [hm] at hx5; cases hx5
          | some m =>
            rw [hm] at hx5
            cases hx5
            have m2 := hmn m (List.mem_of_mem_drop (List.mem_of_getElem? hm))
            have hjl := (List.getElem?_eq_some_iff.mp hm).1
            rw [List.length_drop] at hjl
            have et : (ns.drop (i + 1)).take (j + 1) = (ns.drop (i + 1)).take j ++ [m] := by rw [List.take_add_one, hm]; rfl
            have sC : Same H H5 := (b4.trans b5).same sA hl0
            refine ⟨_, rfl, b, dxb, _, rfl, sC _ _ hbi, rfl, _, rfl, _, rfl, b, d2, z2, rs2, one, m, rfl, hB.ext sC, hsub _ m1, hsub _ m2, fun sp H6 hsp s6 hSp => ?_⟩
            refine ⟨sp, _, _, _, rfl, hSp, len_small (q2 _ _ (hsub _ m1) (hsub _ m2)), ?_⟩
            refine ⟨_, rfl, a, dx, _, rfl, (sC.trans s6) _ _ hi, rfl, _, rfl, _, rfl, a, d, z, rs, one, m, rfl, hD.ext (sC.trans s6), m1, m2, fun sp2 H7 hsp2 s7 hSp2 => ?_⟩
            refine ⟨sp2, _, _, _, rfl, hSp2, len_small (q1 _ _ m1 m2), _, _, rfl, rfl, ?_⟩
            refine ⟨_, rfl, _, _, rfl, rfl, _, rfl, ?_⟩
            have s67 := s6.trans s7
            have hL7 := s67 _ _ hL5
            have pL7 := p_imp pL5 fun _ _ h => WidAt.kp h (Kp.of s67)
            by_cases hpos : 0 < moreP rs rs2 one m
            · refine bool_of_true hpos ?_
              refine ⟨_, rfl, Or.inl ⟨rfl, _, SqL.of hL7⟩, _, rfl, _, rfl, _, rfl, sz3, fun t2 ht2 => ?_⟩
              have s8 := same_new (o := .tup [.str one, .str m, .int (moreP rs rs2 one m)]) ht2
              have hL8 := s8 _ _ hL7
              have hvl := Paired.len pL5
              have hfl := List.length_filter_le (fun m => decide (0 < moreP rs rs2 one m)) ((ns.drop (i + 1)).take j)
              rw [List.length_append, List.length_map] at hvl
              rw [List.length_take] at hfl
              refine ⟨l, _, _, rfl, rfl, hL8, Nat.lt_of_le_of_lt (by omega : _ ≤ 100000) (by decide), ?_⟩
              have k8 : Kp H7 (upd (upd H7 t2 (.tup [.str one, .str m, .int (moreP rs rs2 one m)])) l (.lst (vs5 ++ [.ref t2]))) := (Kp.of s8).trans (Kp.updL hL8)
              have htl : t2 ≠ l := fun e => by rw [e, hL7] at ht2; cases ht2
              refine ⟨_, _, _, rfl, b5.trans ((Bt.of s67).trans ((Bt.of s8).trans Bt.upd)), upd_same, ?_⟩
              rw [et, List.filter_append, List.filter_cons_of_pos (p := fun m => decide (0 < moreP rs rs2 one m)) (decide_eq_true hpos), List.filter_nil, List.map_append, ← List.append_assoc]
              refine p_app (p_imp pL7 fun _ _ h => h.kp k8) (p_one ⟨t2, rfl, ?_⟩)
              rw [upd_ne htl]
              exact upd_same
            · refine bool_of_false hpos ?_
              refine ⟨_, _, _, rfl, b5.trans (Bt.of s67), hL7, ?_⟩
              rw [et, List.filter_append, List.filter_cons_of_neg (p := fun m => decide (0 < moreP rs rs2 one m)) (fun q => hpos (of_decide_eq_true q)), List.filter_nil, List.append_nil]
              exact pL7
        · rintro σ' H5 ⟨o6, o7, vs5, rfl, b5, hL5, pL5⟩
          rw [List.length_map, List.take_length] at pL5
          refine ⟨_, _, _, _, _, _, rfl, b4.trans b5, hL5, pL5, ?_, ?_⟩
          · rw [← hcat, ed, List.append_assoc]
            rfl
          · rw [List.length_append, List.length_map]
            have hfl := List.length_filter_le (fun m => decide (0 < moreP rs rs2 one m)) (ns.drop (i + 1))
            rw [List.length_drop] at hfl
            omega
    · rintro σ' H' ⟨o4, o5, o6, o7, vs, acc, rfl, b0, hL, pL, hcat, hal⟩
      rw [List.length_map, List.drop_length] at hcat
      have hcat : acc ++ [] = widerL (moreP rs rs2) ns := hcat
      rw [List.append_nil] at hcat
      have sC : Same H H' := b0.same sA hl0
      refine ⟨_, rfl, l, _, rfl, Or.inl ⟨SqL.of hL, fun t ht => ?_⟩⟩
      have st := same_new (o := .tup vs) ht
      refine k t vs _ (sC.free ht) (sC.trans st) upd_same ?_
      rw [← hcat]
      exact p_imp pL fun _ _ h => h.kp (Kp.of st)
def WidsAt (H : Hp) (v : Addr) (ws : List (Str × Str × Int)) : Prop := ∃ vs, H v = some (.tup vs) ∧ Paired (WidAt H) ws vs
theorem WidsAt.ext {H H' : Hp} {v : Addr} {ws : List (Str × Str × Int)} (h : WidsAt H v ws) (e : Same H H') : WidsAt H' v ws := by
  obtain ⟨vs, a, b⟩ := h
  exact ⟨vs, e _ _ a, p_imp b fun _ _ h => h.kp (Kp.of e)⟩
structure StrOk (z : Str) (rs : List Row) (p0 : Str) (pt : List Str) : Prop where
  sub : ∀ m ∈ p0 :: pt, m ∈ z :: rnm rs
  nodup : (p0 :: pt).Nodup
  few : (p0 :: pt).length ≤ 100
  good : Good p0 (straightP z rs p0 pt)
  len : (straightP z rs p0 pt).length ≤ 100
  mem : ∀ n ∈ z :: rnm rs, n ∈ p0 :: rnm (straightP z rs p0 pt)
  b1 : SmallB z rs
  b2 : SmallB p0 (straightP z rs p0 pt)
theorem s_straight : FnScope ["drawing", "zeros", "found"] ["drawing", "zeros"] d_straight.scope := ⟨rfl, rfl, rfl, by decide +kernel, rfl, by decide +kernel, by decide +kernel⟩
theorem c_straight (T : Txt w K mg) : Cal P w K mg base 9 "straight" (fun vs H Q _ => ∃ (a d l : Addr) (z : Str) (rs : List Row) (p0 : Str) (pt : List Str), vs = [.ref a, .ref l] ∧ DrawAt K H a d z rs ∧ H l = some (.lst ((p0 :: pt).map V.str)) ∧ StrOk z rs p0 pt ∧ ∀ t b db v H', H t = none → H b = none → H db = none → Same H H' → H' t = some (.tup [.ref b, .ref v]) → DrawAt K H' b db p0 (straightP z rs p0 pt) → WidsAt H' v (widerP z rs (straightP z rs p0 pt)) → Q (.ref t) H') [] := by
  refine T.calD 73 61 (d := d_straight) (S := s_straight) (hb := fun _ _ _ _ _ _ _ us its hl hi => match us, its, hl, hi with | [_, _], [_], _, _ => ⟨_, rfl, rfl⟩) (len := fun vs H Q E h => ?_) (hbody := fun cdv A outer s H vs Q E hr h => ?_)
  · obtain ⟨a, d, l, z, rs, p0, pt, rfl, hD, hl, hO, k⟩ := h
    rfl
  · obtain ⟨a, d, l, z, rs, p0, pt, rfl, hD, hl, hO, k⟩ := h
    refine ⟨_, (pss_cons (ps_expr (pe_c (c_check_drawing T) hr (by decide) rfl (pa_cons (pv 0) pa_nil)))
      (pss_cons (ps_set (i := 2) s_straight.nd rfl (Or.inl rfl) (pe_c (c_straight_from T) hr (by decide) rfl (pa_cons (pv 0) (pa_cons (pe_c (c_zeros_of T) hr (by decide) rfl (pa_cons (pv 0) (pa_cons (pv 1) pa_nil))) pa_nil))))
      (pss_one (ps_ret (pe_tup (pa_cons (pv 2) (pa_cons (pe_c (c_wider_between T) hr (by decide) rfl (pa_cons (pv 0) (pa_cons (pv 2) pa_nil))) pa_nil))))))), ?_⟩
    refine ⟨_, rfl, a, d, z, rs, rfl, hD, ?_⟩
    refine ⟨_, rfl, _, rfl, _, rfl, a, d, l, z, rs, p0 :: pt, rfl, hD, hl, Nat.zero_lt_succ _, hO.few, hO.nodup, hO.sub, fun p H1 s1 hp => ?_⟩
    refine ⟨a, d, p, z, rs, p0, pt, rfl, hD.ext s1, hp, hO.sub, hO.good, hO.len, fun b db H2 hb hdb s2 hB => ?_⟩
    have s12 := s1.trans s2
    refine ⟨_, rfl, _, rfl, _, rfl, a, d, b, db, z, p0, rs, _, rfl, hD.ext s12, hB, hO.mem, hO.b1, hO.b2, fun v vs H3 hv s3 h3 p3 => ⟨sz2, fun t ht => ?_⟩⟩
    have st := same_new (o := .tup [.ref b, .ref v]) ht
    exact k t b db v _ ((s12.trans s3).free ht) (s1.free hb) (s1.free hdb) ((s12.trans s3).trans st) upd_same (hB.ext (s3.trans st)) ⟨vs, st _ _ h3, p_imp p3 fun _ _ h => h.kp (Kp.of st)⟩
def unsB (rs rs2 : List Row) (wts : List Want) (k : Nat) : Bool := match wts[k]? with
  | some wt => decide (heldP rs wt = "sure") && !decide (heldP rs2 wt = "sure")
  | none => false
def unsureP (rs rs2 : List Row) (wts : List Want) : List Nat := (List.range wts.length).filter (unsB rs rs2 wts)
def UnsAt (H : Hp) (k : Nat) (v : V) : Prop := ∃ q x, v = .ref q ∧ H q = some (.tup [.int (k : Int), x])
theorem UnsAt.kp {H H' : Hp} {v : V} {k : Nat} (h : UnsAt H k v) (e : Kp H H') : UnsAt H' k v := by
  obtain ⟨q, x, a, b⟩ := h
  exact ⟨q, x, a, e _ _ trivial b⟩
theorem s_unsure : FnScope ["drawing", "wants", "zeros", "found", "now", "then", "numbers", "k"] ["drawing", "wants", "zeros"] d_unsure.scope := ⟨rfl, rfl, rfl, by decide +kernel, rfl, by decide +kernel, by decide +kernel⟩
theorem c_unsure (T : Txt w K mg) : Cal P w K mg base 11 "unsure" (fun vs H Q _ => ∃ (a d wl l : Addr) (z : Str) (rs : List Row) (wts : List Want) (p0 : Str) (pt : List Str), vs = [.ref a, .ref wl, .ref l] ∧ DrawAt K H a d z rs ∧ WtsAt K H wl wts ∧ WtsIn z rs wts ∧ wts.length ≤ 1000 ∧ H l = some (.lst ((p0 :: pt).map V.str)) ∧ StrOk z rs p0 pt ∧ RetP H Q UnsAt (unsureP rs (straightP z rs p0 pt) wts)) [] := by
  refine T.calD 74 62 (d := d_unsure) (S := s_unsure) (hb := fun _ _ _ _ _ _ _ us its hl hi => match us, its, hl, hi with | [_, _, _], [_], _, _ => ⟨_, rfl, rfl⟩) (len := fun vs H Q E h => ?_) (hbody := fun cdv A outer s H vs Q E hr h => ?_)
  · obtain ⟨a, d, wl, l, z, rs, wts, p0, pt, rfl, hD, hW, hin, hwl, hl, hO, k⟩ := h
    rfl
  · obtain ⟨a, d, wl, l, z, rs, wts, p0, pt, rfl, hD, hW, hin, hwl, hl, hO, k⟩ := h
    refine ⟨_, (pss_cons (ps_expr (pe_c (c_check_wants T) hr (by decide) rfl (pa_cons (pv 0) (pa_cons (pv 1) pa_nil))))
      (pss_cons (ps_set (i := 3) s_unsure.nd rfl (Or.inl rfl) (pe_c (c_straight_from T) hr (by decide) rfl (pa_cons (pv 0) (pa_cons (pe_c (c_zeros_of T) hr (by decide) rfl (pa_cons (pv 0) (pa_cons (pv 2) pa_nil))) pa_nil))))
      (pss_cons (ps_asg (pe_tup (pa_cons (pe_c (c_judged T) hr (by decide) rfl (pa_cons (pv 0) (pa_cons (pv 1) pa_nil))) (pa_cons (pe_c (c_judged T) hr (by decide) rfl (pa_cons (pv 3) (pa_cons (pv 1) pa_nil))) pa_nil))) (pg_tup rfl (pgs_cons (pg_name (i := 4) s_unsure.nd rfl (Or.inr rfl)) (pgs_cons (pg_name (i := 5) s_unsure.nd rfl (Or.inr rfl)) pgs_nil))))
      (pss_cons (ps_setLc (i := 6) (own := [("k", 7)]) (g := (gName 7)) rfl s_unsure.nd rfl rfl (sw_true rfl rfl rfl (by decide +kernel)) (pi_range1 (by rfl) (T.f 108) (pa_cons (pe_callB (id := "len") (call_len_seqK (K := K) rfl) (by rfl) (T.f 104) (by decide +kernel) (pa_cons (pv 4) pa_nil)) pa_nil)) (blkOk_by (N := ["drawing", "wants", "zeros", "found", "now", "then", "numbers", "k"]) (sc := d_unsure.scope) (own := [("k", 7)]) (by decide +kernel)) (fun _ _ _ _ _ => (pg_name (i := 7) s_unsure.nd rfl (Or.inl rfl))) (fun _ _ _ _ _ => pts_one (PW.pt (pw_and (pt_cmpR op_eq (pe_ix (ix_tupK (K := K) rfl) (pe_ix (ix_tupK (K := K) rfl) (pv 4) (pv 7) (fun _ _ => rfl)) pe_int (fun _ _ => rfl)) pe_str (nomark _)) (pw_and1 (pt_cmpR op_ne (pe_ix (ix_tupK (K := K) rfl) (pe_ix (ix_tupK (K := K) rfl) (pv 5) (pv 7) (fun _ _ => rfl)) pe_int (fun _ _ => rfl)) pe_str (nomark _)))))) (fun _ _ _ _ _ => (pv 7)))
      (pss_one (ps_ret (pe_callTy (T := "tuple") call_tuple_of (by rfl) (T.f 111) (by decide +kernel) (pa_cons (pe_lc (own := [("k", 7)]) (g := (gName 7)) rfl s_unsure.nd (pi_list (pv 6)) (blkOk_by (N := ["drawing", "wants", "zeros", "found", "now", "then", "numbers", "k"]) (sc := d_unsure.scope) (own := [("k", 7)]) (by decide +kernel)) (fun _ _ _ _ _ => (pg_name (i := 7) s_unsure.nd rfl (Or.inl rfl))) (fun _ _ _ _ _ => pts_nil) (fun _ _ _ _ _ => (pe_tup (pa_cons (pv 7) (pa_cons (pe_ix (ix_tupK (K := K) rfl) (pe_ix (ix_tupK (K := K) rfl) (pv 5) (pv 7) (fun _ _ => rfl)) pe_int (fun _ _ => rfl)) pa_nil))))) pa_nil)))))))), ?_⟩
    refine ⟨_, rfl, _, rfl, a, d, wl, z, rs, wts, rfl, hD, hW, hin, fun H0 s0 => ?_⟩
    refine ⟨_, rfl, _, rfl, _, rfl, a, d, l, z, rs, p0 :: pt, rfl, hD.ext s0, s0 _ _ hl, Nat.zero_lt_succ _, hO.few, hO.nodup, hO.sub, fun p H1 s1 hp => ?_⟩
    refine ⟨a, d, p, z, rs, p0, pt, rfl, hD.ext (s0.trans s1), hp, hO.sub, hO.good, hO.len, fun b db H2 hb hdb s2 hB => ?_⟩
    have s02 := s0.trans (s1.trans s2)
    have hin2 : WtsIn p0 (straightP z rs p0 pt) wts := fun wt h => ⟨hO.mem _ (hin wt h).1, hO.mem _ (hin wt h).2⟩
    have hB : DrawAt K H2 b db p0 (straightP z rs p0 pt) := hB
    generalize straightP z rs p0 pt = rs2 at *
    refine ⟨_, rfl, _, rfl, a, d, wl, z, rs, wts, rfl, hD.ext s02, hW.ext s02, hin, hwl, fun n1 vs1 H3 hn1 s3 h3 p3 => ?_⟩
    refine ⟨_, rfl, _, rfl, b, db, wl, p0, rs2, wts, rfl, hB.ext s3, hW.ext (s02.trans s3), hin2, hwl, fun n2 vs2 H4 hn2 s4 h4 p4 => ⟨sz2, fun tp htp => ?_⟩⟩
    have s5 := same_new (o := .tup [.ref n1, .ref n2]) htp
    refine ⟨tp, _, rfl, SqT.of upd_same, rfl, _, _, rfl, _, _, rfl, rfl, ?_⟩
    have h3 := s5 _ _ (s4 _ _ h3)
    have h4 := s5 _ _ h4
    have p3 := p_imp p3 fun _ _ h => HeldAt.kp h (Kp.of (s4.trans s5))
    have p4 := p_imp p4 fun _ _ h => HeldAt.kp h (Kp.of s5)
    have sA := s02.trans (s3.trans (s4.trans s5))
    generalize upd H4 tp (.tup [.ref n1, .ref n2]) = H5 at h3 h4 p3 p4 sA ⊢
    have el1 : vs1.length = wts.length := (Paired.len p3).symm
    have at1 : ∀ k, k < wts.length → ∀ H', Same H5 H' → ∃ wt v1 v2, wts[k]? = some wt ∧ vs1[k]? = some v1 ∧ vs2[k]? = some v2 ∧ HeldAt H' (heldP rs wt) v1 ∧ HeldAt H' (heldP rs2 wt) v2 := fun k hk H' s => by
      have e0 := List.getElem?_eq_getElem hk
      have k1 : k < vs1.length := by rw [el1]; exact hk
      have k2 : k < vs2.length := by rw [← Paired.len p4]; exact hk
      have e1 := List.getElem?_eq_getElem k1
      have e2 := List.getElem?_eq_getElem k2
      exact ⟨_, _, _, e0, e1, e2, (Paired.at p3 e0 e1).kp (Kp.of s), (Paired.at p4 e0 e2).kp (Kp.of s)⟩
    with_reducible refine r_seq ?_
    refine r_asg (tlc_rg (n := wts.length) (f := unsB rs rs2 wts) (El := fun k v _ => v = .int (k : Int)) (fun _ _ _ _ _ h => h) (j := 7) (by show 7 < 8; decide) (by omega) ?_ ?_ fun D H6 vs6 hD6 s6 h6 p6 => ?_)
    · intro Q q
      refine ⟨_, rfl, _, _, rfl, Or.inr (SqT.of h3), ?_⟩
      rw [el1]
      exact q _ (Same.refl _)
    · intro k σ2 H6 Kt Kf hk s6 e1 e2 kt kf
      obtain ⟨wt, v1, v2, g0, g1, g2, ⟨t1, x1, y1, rfl, ht1⟩, ⟨t2, x2, y2, rfl, ht2⟩⟩ := at1 k hk _ s6
      refine ⟨_, (e1 4 (by decide)).trans rfl, _, e2, n1, _, _, _, rfl, rfl, SqT.of (s6 _ _ h3), atI_nat g1, t1, _, _, _, rfl, rfl, SqT.of ht1, atI_nat (j := 0) rfl, rfl, _, rfl, ?_⟩
      have ef : unsB rs rs2 wts k = (decide (heldP rs wt = "sure") && !decide (heldP rs2 wt = "sure")) := by unfold unsB; rw [g0]
      by_cases c1 : heldP rs wt = "sure"
      · rw [c1, decide_eq_true rfl]
        rw [decide_eq_true c1, Bool.true_and] at ef
        refine iteT ?_
        refine ⟨_, (e1 5 (by decide)).trans rfl, _, e2, n2, _, _, _, rfl, rfl, SqT.of (s6 _ _ h4), atI_nat g2, t2, _, _, _, rfl, rfl, SqT.of ht2, atI_nat (j := 0) rfl, rfl, _, rfl, ?_⟩
        by_cases c2 : heldP rs2 wt = "sure"
        · rw [decide_eq_true c2] at ef
          rw [c2, decide_eq_true rfl]
          refine iteF ?_
          exact kf ef _ (Same.refl _)
        · rw [decide_eq_false c2] at ef
          rw [decide_eq_false (fun h => c2 (by injection h))]
          refine iteT ?_
          exact ⟨_, e2, kt ef _ _ (Same.refl _) rfl⟩
      · rw [decide_eq_false c1, Bool.false_and] at ef
        rw [decide_eq_false (fun h => c1 (by injection h))]
        refine iteF ?_
        exact kf ef _ (Same.refl _)
    with_reducible refine r_gn ?_
    unfold tRet tCB tCons
    dsimp only
    have hl6 : (List.range wts.length).length = wts.length := List.length_range
    have hfl := List.length_filter_le (unsB rs rs2 wts) (List.range wts.length)
    have h3 := s6 _ _ h3
    have h4 := s6 _ _ h4
    refine tlc_ps (F := fun (b : Nat) v => v = .int (b : Int)) (f := fun _ => true) (El := fun k v H => UnsAt H k v) (fun _ _ _ _ e h => h.kp e) p6 (j := 7) ?_ (by omega) ?_ ?_ fun D7 H7 vs7 hD7 s7 h7 p7 => ?_
    · show 7 < 8
      decide
    · exact fun Q q => ⟨_, rfl, q D _ (Same.refl _) (SqL.of h6)⟩
    · intro x k σ2 H8 Kt Kf hF hk s8 e1 e2 kt kf
      subst hF
      have hkl := List.mem_range.mp (List.mem_filter.mp hk).1
      obtain ⟨wt, v1, v2, g0, g1, g2, ⟨t1, x1, y1, rfl, ht1⟩, ⟨t2, x2, y2, rfl, ht2⟩⟩ := at1 k hkl _ (s6.trans s8)
      refine iteT (B := Kf H8) ?_
      refine ⟨_, e2, _, (e1 5 (by decide)).trans rfl, _, e2, n2, _, _, _, rfl, rfl, SqT.of (s8 _ _ h4), atI_nat g2, t2, _, _, _, rfl, rfl, SqT.of ht2, atI_nat (j := 2) rfl, sz2, fun q hq => ?_⟩
      exact kt rfl _ _ (same_new hq) ⟨q, _, rfl, upd_same⟩
    · refine ⟨D7, _, rfl, Or.inl ⟨SqL.of h7, fun t ht => ?_⟩⟩
      have st := same_new (o := .tup vs7) ht
      rw [filter_all] at p7
      have sE := sA.trans (s6.trans s7)
      exact k t vs7 _ (sE.free ht) (sE.trans st) upd_same (p_imp p7 fun _ _ h => h.kp (Kp.of st))
end
end Fw
set_option Elab.async false
set_option linter.all false
set_option maxRecDepth 100000
set_option maxHeartbeats 4000000
namespace Fw
open PySem PySem.Spec PyProof.Rows L2
open C8 (Cal CalAt Met Mak pe_c pe_mk pe_mt pe_mt0 pe_gc InsC call_isC)

section
variable {P : Program} {w : World} {K : PySem.W.Frag} {mg : Str → Option Value} {base : Heap}

/-! the law: purse and words -/
def PurseAt (H : Hp) (p : Addr) : Prop := ∃ o g c : Int, H p = some (.lst [.int o, .int g, .int c])
theorem PurseAt.ne {H : Hp} {p q : Addr} {o : HO} (h : PurseAt H p) (hq : H q = some o) (hn : ∀ a b c : Int, o ≠ .lst [.int a, .int b, .int c]) : q ≠ p := fun e => by
  obtain ⟨a, b, c, h⟩ := h
  rw [e, h] at hq
  cases hq
  exact hn _ _ _ rfl
theorem PurseAt.ext {H H' : Hp} {p : Addr} (h : PurseAt H p) (s : Same H H') : PurseAt H' p := by
  obtain ⟨a, b, c, h⟩ := h
  exact ⟨a, b, c, s _ _ h⟩
theorem PurseAt.nn {H : Hp} {p q : Addr} (h : PurseAt H p) (hq : H q = none) : q ≠ p := fun e => by
  obtain ⟨a, b, c, h⟩ := h
  rw [e, h] at hq
  cases hq
theorem at_ints {xs : List Int} {t : Int} (h0 : 0 ≤ t) (h1 : t < xs.length) : ∃ z, z ∈ xs ∧ atI (xs.map V.int) t = some (.int z) := by
  obtain ⟨j, rfl⟩ := Int.eq_ofNat_of_zero_le h0
  have hj : j < xs.length := by omega
  exact ⟨xs[j], List.getElem_mem hj, atI_nat (by rw [List.getElem?_map, List.getElem?_eq_getElem hj]; rfl)⟩
theorem at_strs {xs : List Str} {t : Int} (h0 : 0 ≤ t) (h1 : t < xs.length) : ∃ z, z ∈ xs ∧ atI (xs.map V.str) t = some (.str z) := by
  obtain ⟨j, rfl⟩ := Int.eq_ofNat_of_zero_le h0
  have hj : j < xs.length := by omega
  exact ⟨xs[j], List.getElem_mem hj, atI_nat (by rw [List.getElem?_map, List.getElem?_eq_getElem hj]; rfl)⟩
/-- a number of a purse -/
def RetK (H : Hp) (p : Addr) (Q : VK) (lo hi : Int) : Prop := ∀ t H', lo ≤ t → t < hi → Bt p H H' → PurseAt H' p → Q (.int t) H'
theorem s_law_cell : FnScope ["_law_script", "_law_k"] ["_law_script", "_law_k"] d_law_cell.scope := ⟨rfl, rfl, rfl, by decide +kernel, rfl, by decide +kernel, by decide +kernel⟩
theorem c_law_cell (T : Txt w K mg) : Cal P w K mg base 1 "_law_cell" (fun vs H Q _ => ∃ (l : Addr) (xs : List Int) (k : Nat), vs = [.ref l, .int (k : Int)] ∧ SqL K H l (xs.map V.int) ∧ (k < xs.length ∨ xs = []) ∧ ∀ n H', Same H H' → Q (.int n) H') [] := by
  refine T.cal 75 63 (d := d_law_cell) (S := s_law_cell) (hb := fun _ _ _ _ _ _ us hl => match us, hl with | [_, _], _ => rfl) (len := fun vs H Q E h => ?_) (hbody := fun cdv A outer s H vs Q E hr h => ?_)
  · obtain ⟨l, xs, k0, rfl, hS, hk, k⟩ := h
    rfl
  · obtain ⟨l, xs, k0, rfl, hS, hk, k⟩ := h
    refine ⟨_, (pss_cons (ps_if (pt_cmpR op_lt (pv 1) (pe_callB (id := "len") (call_len_seqK (K := K) rfl) (by rfl) (T.f 104) (by decide +kernel) (pa_cons (pv 0) pa_nil)) (nomark _)) (pss_one (ps_ret (pe_ix (ix_listK (K := K) rfl) (pv 0) (pv 1) (fun _ _ => rfl)))) pss_nil)
      (pss_one (ps_ret (pe_op op_add (pe_op op_add (pe_op op_mul (pe_callB (id := "sum") (cr_sum rfl) (by rfl) (T.f 110) (by decide +kernel) (pa_cons (pe_slice (sl_listK (K := K) rfl) (pv 0) po_none (po_some pe_int)) pa_nil)) pe_int) (pe_op op_mul pe_int (pe_op op_add (pv 1) pe_int))) pe_int)))), ?_⟩
    refine ⟨_, rfl, _, rfl, _, _, rfl, Or.inl hS, _, _, rfl, rfl, _, rfl, ?_⟩
    rw [List.length_map]
    by_cases h : k0 < xs.length
    · refine bool_of_true (by omega) ?_
      refine ⟨_, rfl, _, rfl, l, _, _, _, rfl, rfl, hS, atI_nat (j := k0) (by rw [List.getElem?_map, List.getElem?_eq_getElem h]; rfl), ?_⟩
      exact k _ _ (Same.refl _)
    · refine bool_of_false (by omega) ?_
      have hx : xs = [] := hk.resolve_left h
      subst hx
      refine ⟨_, rfl, _, rfl, l, _, rfl, hS, fun q hq => ?_⟩
      refine ⟨q, [], rfl, SqL.of upd_same, _, _, rfl, rfl, Or.inr ⟨by decide, by decide⟩, _, rfl, _, _, rfl, rfl, _, _, rfl, rfl, Or.inl ⟨by decide, by decide⟩, _, _, rfl, rfl, _, _, rfl, rfl, ?_⟩
      exact k _ _ (same_new hq)
theorem s_law_purse : FnScope ["_law_cell_here", "_law_digits"] ["_law_cell_here"] d_law_purse.scope := ⟨rfl, rfl, rfl, by decide +kernel, rfl, by decide +kernel, by decide +kernel⟩
theorem c_law_purse (T : Txt w K mg) : Cal P w K mg base 1 "_law_purse" (fun vs H Q _ => ∃ n : Int, vs = [.int n] ∧ ∀ p H', H p = none → Same H H' → PurseAt H' p → Q (.ref p) H') [] := by
  refine T.cal 76 64 (d := d_law_purse) (S := s_law_purse) (hb := fun _ _ _ _ _ _ us hl => match us, hl with | [_], _ => rfl) (len := fun vs H Q E h => ?_) (hbody := fun cdv A outer s H vs Q E hr h => ?_)
  · obtain ⟨n, rfl, k⟩ := h
    rfl
  · obtain ⟨n, rfl, k⟩ := h
    refine ⟨_, (pss_cons (ps_set (i := 1) s_law_purse.nd rfl (Or.inl rfl) pe_int)
      (pss_cons (ps_if (PW.pt (pw_or (pt_cmpR op_lt (pv 0) pe_int (nomark _)) (pw_or1 (pt_cmpR op_ge (pv 0) (pe_op op_pow pe_int pe_int) (nomark _))))) (pss_one (ps_set (i := 1) s_law_purse.nd rfl (Or.inl rfl) (pe_callB (id := "abs") call_absI (by rfl) (T.f 96) (by decide +kernel) (pa_cons (pv 0) pa_nil)))) pss_nil)
      (pss_one (ps_ret (pe_lst (pa_cons (pe_op op_mod (pv 0) pe_int) (pa_cons (pv 1) (pa_cons pe_int pa_nil)))))))), ?_⟩
    refine ⟨_, rfl, _, _, rfl, rfl, _, rfl, ?_⟩
    have fin : ∀ g : Int, ∀ t, H t = none → Q (.ref t) (upd H t (.lst [.int (n % 2147483399), .int g, .int 0])) := fun g t ht => k _ _ ht (same_new ht) ⟨_, _, _, upd_same⟩
    refine ite2 (fun h => ?_) (fun h => ?_)
    · refine ⟨_, rfl, _, rfl, _, rfl, _, _, rfl, rfl, (show (0 : Int) < 2147483399 by decide), _, rfl, Nat.le_of_ble_eq_true rfl, fun t ht => fin _ t ht⟩
    · refine ⟨_, rfl, _, _, rfl, rfl, ⟨by decide, by decide, by decide⟩, _, _, rfl, rfl, _, rfl, ?_⟩
      refine ite2 (fun h2 => ?_) (fun h2 => ?_)
      · refine ⟨_, rfl, _, rfl, _, rfl, _, _, rfl, rfl, (show (0 : Int) < 2147483399 by decide), _, rfl, Nat.le_of_ble_eq_true rfl, fun t ht => fin _ t ht⟩
      · refine ⟨_, rfl, _, _, rfl, rfl, (show (0 : Int) < 2147483399 by decide), _, rfl, Nat.le_of_ble_eq_true rfl, fun t ht => fin _ t ht⟩
theorem s_law_take : FnScope ["_law_purse_here", "_law_many", "_law_old", "_law_taken"] ["_law_purse_here", "_law_many"] d_law_take.scope := ⟨rfl, rfl, rfl, by decide +kernel, rfl, by decide +kernel, by decide +kernel⟩
theorem c_law_take (T : Txt w K mg) : Cal P w K mg base 1 "_law_take" (fun vs H Q _ => ∃ (p : Addr) (many : Int), vs = [.ref p, .int many] ∧ 0 < many ∧ many < 1073741824 ∧ PurseAt H p ∧ RetK H p Q 0 many) [] := by
  refine T.cal 77 65 (d := d_law_take) (S := s_law_take) (hb := fun _ _ _ _ _ _ us hl => match us, hl with | [_, _], _ => rfl) (len := fun vs H Q E h => ?_) (hbody := fun cdv A outer s H vs Q E hr h => ?_)
  · obtain ⟨p, many, rfl, m0, m1, ⟨o, g, c, hp⟩, k⟩ := h
    rfl
  · obtain ⟨p, many, rfl, m0, m1, ⟨o, g, c, hp⟩, k⟩ := h
    refine ⟨_, (pss_cons (ps_asg (pe_op op_add (pe_ix (ix_listK (K := K) rfl) (pv 0) pe_int (fun _ _ => rfl)) pe_int) (pg_sub (pv 0) pe_int set_list))
      (pss_cons (ps_set (i := 2) s_law_take.nd rfl (Or.inl rfl) (pe_ix (ix_listK (K := K) rfl) (pv 0) pe_int (fun _ _ => rfl)))
      (pss_cons (ps_asg (pe_op op_mod (pe_op op_add (pe_op op_add (pe_op op_mul (pv 2) (pe_op op_add (pe_op op_mod (pv 2) pe_int) pe_int)) (pe_op op_mul pe_int (pe_ix (ix_listK (K := K) rfl) (pv 0) pe_int (fun _ _ => rfl)))) pe_int) pe_int) (pg_sub (pv 0) pe_int set_list))
      (pss_cons (ps_if (pt_cmpR op_gt (pe_ix (ix_listK (K := K) rfl) (pv 0) pe_int (fun _ _ => rfl)) pe_int (nomark _)) (pss_cons (ps_set (i := 3) s_law_take.nd rfl (Or.inl rfl) (pe_op op_mod (pe_ix (ix_listK (K := K) rfl) (pv 0) pe_int (fun _ _ => rfl)) (pv 1)))
        (pss_cons (ps_asg (pe_op op_fdiv (pe_ix (ix_listK (K := K) rfl) (pv 0) pe_int (fun _ _ => rfl)) (pv 1)) (pg_sub (pv 0) pe_int set_list))
        (pss_one (ps_ret (pv 3))))) pss_nil)
      (pss_one (ps_ret (pe_op op_mod (pe_op op_fdiv (pe_ix (ix_listK (K := K) rfl) (pv 0) pe_int (fun _ _ => rfl)) pe_int) (pv 1)))))))), ?_⟩
    refine ⟨_, rfl, p, _, _, _, rfl, rfl, SqL.of hp, atI_nat (j := 2) rfl, _, _, rfl, rfl, _, rfl, p, _, _, 2, rfl, rfl, hp, rfl, ?_⟩
    have b1 : Bt p H (upd H p (.lst [.int o, .int g, .int (c + 1)])) := Bt.upd
    have hp : (upd H p (.lst [.int o, .int g, .int (c + 1)])) p = some (.lst [.int o, .int g, .int (c + 1)]) := upd_same
    generalize hH1 : upd H p (.lst [.int o, .int g, .int (c + 1)]) = H1 at b1 hp
    have eH1 : upd H p (.lst (([.int o, .int g, .int c] : List V).set 2 (.int (c + 1)))) = H1 := hH1
    rw [eH1]
    refine ⟨_, rfl, p, _, _, _, rfl, rfl, SqL.of hp, atI_nat (j := 0) rfl, ?_⟩
    have q1 := Int.emod_nonneg o (by decide : (43591 : Int) ≠ 0)
    have q2 := Int.emod_lt_of_pos o (by decide : (0 : Int) < 43591)
    refine ⟨_, rfl, _, rfl, _, _, rfl, rfl, (show (0 : Int) < 43591 by decide), _, _, rfl, rfl, _, _, rfl, rfl, Or.inr ⟨by omega, by omega⟩, _, rfl, p, _, _, _, rfl, rfl, SqL.of hp, atI_nat (j := 2) rfl, _, _, rfl, rfl, Or.inl ⟨by decide, by decide⟩, _, _, rfl, rfl, _, _, rfl, rfl, _, _, rfl, rfl, (show (0 : Int) < 2147483399 by decide), _, rfl, p, _, _, 0, rfl, rfl, hp, rfl, ?_⟩
    have b2 : Bt p H (upd H1 p (HO.lst (([V.int o, V.int g, V.int (c + 1)] : List V).set 0 ((fun i j => V.int (i % j)) (o * (o % 43591 + 17011) + 88811 * (c + 1) + 7) 2147483399)))) := b1.trans Bt.upd
    have hp2 : ∃ o2, (upd H1 p (HO.lst (([V.int o, V.int g, V.int (c + 1)] : List V).set 0 ((fun i j => V.int (i % j)) (o * (o % 43591 + 17011) + 88811 * (c + 1) + 7) 2147483399)))) p = some (.lst [.int o2, .int g, .int (c + 1)]) := ⟨_, upd_same⟩
    generalize upd H1 p (HO.lst (([V.int o, V.int g, V.int (c + 1)] : List V).set 0 ((fun i j => V.int (i % j)) (o * (o % 43591 + 17011) + 88811 * (c + 1) + 7) 2147483399))) = H2 at b2 hp2 ⊢
    obtain ⟨o2, hp2⟩ := hp2
    refine ⟨_, rfl, p, _, _, _, rfl, rfl, SqL.of hp2, atI_nat (j := 1) rfl, _, _, rfl, rfl, _, rfl, ?_⟩
    refine ite2 (fun h => ?_) (fun h => ?_)
    · refine ⟨_, rfl, p, _, _, _, rfl, rfl, SqL.of hp2, atI_nat (j := 1) rfl, _, rfl, _, _, rfl, rfl, m0, ?_⟩
      refine ⟨_, rfl, p, _, _, _, rfl, rfl, SqL.of hp2, atI_nat (j := 1) rfl, _, rfl, _, _, rfl, rfl, ⟨m0, m1⟩, _, rfl, p, _, _, 1, rfl, rfl, hp2, rfl, ?_⟩
      exact ⟨_, rfl, k _ _ (Int.emod_nonneg _ (by omega)) (Int.emod_lt_of_pos _ m0) (b2.trans Bt.upd) ⟨_, _, _, upd_same⟩⟩
    · refine ⟨_, rfl, p, _, _, _, rfl, rfl, SqL.of hp2, atI_nat (j := 0) rfl, _, _, rfl, rfl, ⟨by decide, by decide⟩, _, rfl, _, _, rfl, rfl, m0, ?_⟩
      exact k _ _ (Int.emod_nonneg _ (by omega)) (Int.emod_lt_of_pos _ m0) b2 ⟨_, _, _, hp2⟩
theorem s_law_measure : FnScope ["_law_purse_here", "_law_size"] ["_law_purse_here"] d_law_measure.scope := ⟨rfl, rfl, rfl, by decide +kernel, rfl, by decide +kernel, by decide +kernel⟩
theorem c_law_measure (T : Txt w K mg) : Cal P w K mg base 2 "_law_measure" (fun vs H Q _ => ∃ (p : Addr), vs = [.ref p] ∧ PurseAt H p ∧ ∀ t H', Bt p H H' → PurseAt H' p → Q (.int t) H') [] := by
  refine T.cal 79 67 (d := d_law_measure) (S := s_law_measure) (hb := fun _ _ _ _ _ _ us hl => match us, hl with | [_], _ => rfl) (len := fun vs H Q E h => ?_) (hbody := fun cdv A outer s H vs Q E hr h => ?_)
  · obtain ⟨p, rfl, hp, k⟩ := h
    rfl
  · obtain ⟨p, rfl, hp, k⟩ := h
    refine ⟨_, (pss_cons (ps_set (i := 1) s_law_measure.nd rfl (Or.inl rfl) (pe_ix (ix_listK (K := K) rfl) (pe_lst (pa_cons pe_int (pa_cons pe_int (pa_cons pe_int (pa_cons pe_int pa_nil))))) (pe_c (c_law_take T) hr (by decide) rfl (pa_cons (pv 0) (pa_cons pe_int pa_nil))) (fun _ _ => rfl)))
      (pss_one (ps_ret (pe_op op_sub (pe_c (c_law_take T) hr (by decide) rfl (pa_cons (pv 0) (pa_cons (pe_op op_add (pe_op op_mul pe_int (pv 1)) pe_int) pa_nil))) (pv 1))))), ?_⟩
    refine ⟨Nat.le_of_ble_eq_true rfl, fun l hl => ?_⟩
    have hlp := hp.nn hl
    have s1 := same_new (o := .lst [.int 9, .int 130, .int 6399, .int 990000]) hl
    refine ⟨_, rfl, p, 4, rfl, by decide, by decide, hp.ext s1, fun t H1 t0 t1 b1 hp1 => ?_⟩
    obtain ⟨z, hz, hat⟩ := at_ints (xs := [9, 130, 6399, 990000]) t0 t1
    have hz2 : 0 ≤ z ∧ z < 1000000 := by
      rcases List.mem_cons.mp hz with e | e
      · omega
      rcases List.mem_cons.mp e with e | e
      · omega
      rcases List.mem_cons.mp e with e | e
      · omega
      rcases List.mem_cons.mp e with e | e
      · omega
      cases e
    refine ⟨l, _, _, _, rfl, rfl, SqL.of (b1 _ _ hlp upd_same), hat, ?_⟩
    refine ⟨_, rfl, _, rfl, _, _, rfl, rfl, Or.inl ⟨by decide, by decide⟩, _, _, rfl, rfl, p, 2 * z + 1, rfl, by omega, by omega, hp1, fun t2 H2 _ _ b2 hp2 => ?_⟩
    exact ⟨_, rfl, _, _, rfl, rfl, k _ _ ((Bt.of s1).trans (b1.trans b2)) hp2⟩
theorem s_law_allowed : FnScope ["_law_purse_here", "_law_wide", "_law_spread", "_law_pick", "_law_above"] ["_law_purse_here", "_law_wide"] d_law_allowed.scope := ⟨rfl, rfl, rfl, by decide +kernel, rfl, by decide +kernel, by decide +kernel⟩
theorem c_law_allowed (T : Txt w K mg) : Cal P w K mg base 2 "_law_allowed" (fun vs H Q _ => ∃ (p : Addr) (wide : Int), vs = [.ref p, .int wide] ∧ 3 ≤ wide ∧ wide ≤ 30 ∧ PurseAt H p ∧ ∀ q a b H', Bt p H H' → PurseAt H' p → H' q = some (.tup [.int a, .int b]) → -39 ≤ a → a ≤ 69 → 0 ≤ a + b → a + b ≤ 30 → Q (.ref q) H') [] := by
  refine T.cal 80 68 (d := d_law_allowed) (S := s_law_allowed) (hb := fun _ _ _ _ _ _ us hl => match us, hl with | [_, _], _ => rfl) (len := fun vs H Q E h => ?_) (hbody := fun cdv A outer s H vs Q E hr h => ?_)
  · obtain ⟨p, wide, rfl, w0, w1, hp, k⟩ := h
    rfl
  · obtain ⟨p, wide, rfl, w0, w1, hp, k⟩ := h
    refine ⟨_, (pss_cons (ps_set (i := 2) s_law_allowed.nd rfl (Or.inl rfl) (pe_c (c_law_take T) hr (by decide) rfl (pa_cons (pv 0) (pa_cons (pe_ix (ix_listK (K := K) rfl) (pe_lst (pa_cons pe_int (pa_cons pe_int (pa_cons (pe_op op_add (pv 1) pe_int) pa_nil)))) (pe_c (c_law_take T) hr (by decide) rfl (pa_cons (pv 0) (pa_cons pe_int pa_nil))) (fun _ _ => rfl)) pa_nil))))
      (pss_cons (ps_set (i := 3) s_law_allowed.nd rfl (Or.inl rfl) (pe_c (c_law_take T) hr (by decide) rfl (pa_cons (pv 0) (pa_cons pe_int pa_nil))))
      (pss_cons (ps_set (i := 4) s_law_allowed.nd rfl (Or.inl rfl) (pe_ix (ix_listK (K := K) rfl) (pe_lst (pa_cons (pv 2) (pa_cons pe_int (pa_cons (pe_c (c_law_take T) hr (by decide) rfl (pa_cons (pv 0) (pa_cons (pe_op op_add (pv 2) pe_int) pa_nil))) (pa_cons (pe_op op_sub pe_int (pe_c (c_law_take T) hr (by decide) rfl (pa_cons (pv 0) (pa_cons pe_int pa_nil)))) (pa_cons (pe_op op_add (pv 2) (pe_c (c_law_take T) hr (by decide) rfl (pa_cons (pv 0) (pa_cons pe_int pa_nil)))) pa_nil)))))) (pv 3) (fun _ _ => rfl)))
      (pss_one (ps_ret (pe_tup (pa_cons (pv 4) (pa_cons (pe_op op_sub (pv 2) (pv 4)) pa_nil)))))))), ?_⟩
    refine ⟨_, rfl, _, rfl, _, _, rfl, rfl, Nat.le_of_ble_eq_true rfl, fun l hl => ?_⟩
    have hlp := hp.nn hl
    have s1 := same_new (o := .lst [.int 1, .int 4, .int (wide + 1)]) hl
    refine ⟨_, rfl, p, 3, rfl, by decide, by decide, hp.ext s1, fun t H1 t0 t1 b1 hp1 => ?_⟩
    obtain ⟨z, hz, hat⟩ := at_ints (xs := [1, 4, wide + 1]) t0 t1
    have hz2 : 1 ≤ z ∧ z ≤ 31 := by
      rcases List.mem_cons.mp hz with e | e
      · omega
      rcases List.mem_cons.mp e with e | e
      · omega
      rcases List.mem_cons.mp e with e | e
      · omega
      cases e
    refine ⟨l, _, _, _, rfl, rfl, SqL.of (b1 _ _ hlp upd_same), hat, p, z, rfl, by omega, by omega, hp1, fun sp H2 sp0 sp1 b2 hp2 => ?_⟩
    refine ⟨_, rfl, p, 5, rfl, by decide, by decide, hp2, fun pk H3 pk0 pk1 b3 hp3 => ?_⟩
    refine ⟨_, rfl, _, rfl, _, rfl, _, _, rfl, rfl, p, sp + 1, rfl, by omega, by omega, hp3, fun t3 H4 a0 a1 b4 hp4 => ?_⟩
    refine ⟨_, rfl, p, 40, rfl, by decide, by decide, hp4, fun t4 H5 c0 c1 b5 hp5 => ?_⟩
    refine ⟨_, _, rfl, rfl, _, rfl, _, rfl, p, 40, rfl, by decide, by decide, hp5, fun t5 H6 d0 d1 b6 hp6 => ?_⟩
    refine ⟨_, _, rfl, rfl, Nat.le_of_ble_eq_true rfl, fun l2 hl2 => ?_⟩
    have s6 := same_new (o := .lst [.int sp, .int 0, .int t3, .int (0 - t4), .int (sp + t5)]) hl2
    obtain ⟨z2, hz3, hat2⟩ := at_ints (xs := [sp, 0, t3, 0 - t4, sp + t5]) pk0 pk1
    have hz4 : -39 ≤ z2 ∧ z2 ≤ 69 := by
      rcases List.mem_cons.mp hz3 with e | e
      · omega
      rcases List.mem_cons.mp e with e | e
      · omega
      rcases List.mem_cons.mp e with e | e
      · omega
      rcases List.mem_cons.mp e with e | e
      · omega
      rcases List.mem_cons.mp e with e | e
      · omega
      cases e
    refine ⟨_, rfl, l2, _, _, _, rfl, rfl, SqL.of upd_same, hat2, ?_⟩
    refine ⟨_, rfl, _, rfl, _, rfl, _, _, rfl, rfl, sz2, fun q hq => ?_⟩
    have bA : Bt p H (upd H6 l2 (.lst [.int sp, .int 0, .int t3, .int (0 - t4), .int (sp + t5)])) := (Bt.of s1).trans (b1.trans (b2.trans (b3.trans (b4.trans (b5.trans (b6.trans (Bt.of s6)))))))
    refine k q z2 (sp - z2) _ (bA.trans (Bt.of (same_new hq))) ((hp6.ext s6).ext (same_new hq)) upd_same (by omega) (by omega) (by omega) (by omega)
end
end Fw
set_option Elab.async false
set_option linter.all false
set_option maxRecDepth 100000
set_option maxHeartbeats 4000000
namespace Fw
open PySem PySem.Spec PyProof.Rows L2
open C8 (Cal CalAt Met Mak pe_c pe_mk pe_mt pe_mt0 pe_gc InsC call_isC)

section
variable {P : Program} {w : World} {K : PySem.W.Frag} {mg : Str → Option Value} {base : Heap}

theorem S_tl (z : Str) : SX.S (TL.tl z) = z := rfl
def menuW : List Str := ["zero", "from", "to", "want", "above", "below", "and", "or", "but", "one", "other", "half", "keep", "show"]
def letS : Str := "abcdefghijklmnopqrstuvwxyz"
theorem menu_ok : ∀ z ∈ menuW, NameOk z := by
  unfold NameOk
  decide +kernel
theorem let_at {t : Int} (h0 : 0 ≤ t) (h1 : t < 26) : atI letS.cps.toList t = some (97 + t.toNat) := by
  obtain ⟨j, rfl⟩ := Int.eq_ofNat_of_zero_le h0
  have hj : j < 26 := by omega
  have e : letS.cps.toList = List.range' 97 26 := by decide +kernel
  rw [e]
  refine atI_nat ?_
  rw [List.getElem?_range' hj, Int.toNat_natCast, Nat.one_mul]
def spareS (wd : Str) (k : Nat) : Str := ((⟨#[97 + k / 26]⟩ : Str) ++ (⟨#[97 + k % 26]⟩ : Str)) ++ Txt.slice wd none (some 4)
theorem spare_tl (wd : Str) (k : Nat) : TL.tl (spareS wd k) = [97 + k / 26, 97 + k % 26] ++ (TL.tl wd).take 4 := by
  unfold spareS
  rw [TL.tl_append, TL.tl_append, ← S_tl wd, SX.slice_to (by decide)]
  rfl
theorem spare_ok {wd : Str} (h : NameOk wd) {k : Nat} (hk : k < 676) : NameOk (spareS wd k) := by
  have e := spare_tl wd k
  refine ⟨?_, ?_, fun c hc => ?_⟩
  · rw [TL.len_tl, e, List.length_append]
    exact Nat.le_trans (by decide : 1 ≤ 2) (Nat.le_add_right _ _)
  · rw [TL.len_tl, e, List.length_append, List.length_take]
    show 2 + min 4 _ ≤ 6
    omega
  · have hc : c ∈ TL.tl (spareS wd k) := hc
    rw [e] at hc
    rcases List.mem_append.mp hc with hc | hc
    · rcases List.mem_cons.mp hc with q | q
      · omega
      · rcases List.mem_cons.mp q with q | q
        · omega
        · cases q
    · exact h.2.2 c (List.mem_of_mem_take hc)
theorem spare_inj {wd : Str} {k m : Nat} (h : spareS wd k = spareS wd m) : k = m := by
  have e := congrArg TL.tl h
  rw [spare_tl, spare_tl] at e
  injection e with e1 e
  injection e with e2 e
  omega
theorem pigeon : ∀ (l us : List Str), l.Nodup → (∀ x ∈ l, x ∈ us) → l.length ≤ us.length
  | [], _, _, _ => Nat.zero_le _
  | x :: l, us, hn, hs => by
    obtain ⟨h1, h2⟩ := List.nodup_cons.mp hn
    have hx := hs x (List.mem_cons_self ..)
    have h3 := pigeon l (us.erase x) h2 fun y hy => (List.mem_erase_of_ne (fun e => h1 (by rw [← e]; exact hy))).mpr (hs y (List.mem_cons_of_mem _ hy))
    rw [List.length_erase_of_mem hx] at h3
    have h4 := List.length_pos_of_mem hx
    rw [List.length_cons]
    omega
theorem spare_some (wd : Str) (us : List Str) : ∃ k r, (List.range (us.length + 1)).filter (fun k => decide (spareS wd k ∉ us)) = k :: r := by
  cases e : (List.range (us.length + 1)).filter (fun k => decide (spareS wd k ∉ us)) with
  | cons k r => exact ⟨k, r, rfl⟩
  | nil =>
    exfalso
    have hn : ((List.range (us.length + 1)).map (spareS wd)).Nodup := by
      refine List.pairwise_map.mpr ?_
      exact List.Pairwise.imp (fun h e => h (spare_inj e)) List.nodup_range
    have := pigeon _ us hn fun x hx => by
      obtain ⟨k, hk, rfl⟩ := List.mem_map.mp hx
      have h := List.filter_eq_nil_iff.mp e k hk
      exact Classical.byContradiction fun q => h (decide_eq_true q)
    rw [List.length_map, List.length_range] at this
    omega
theorem strs_ne (us : List Str) (a b c : Int) : HO.lst (us.map V.str) ≠ .lst [.int a, .int b, .int c] := fun h => by
  injection h with h
  match us, h with
  | [], h => cases h
  | x :: r, h => cases h
theorem s_law_word : FnScope ["_law_purse_here", "_law_used", "_law_letters", "_law_menu", "_law_word_here", "_law_k", "_law_spare", "_law_one"] ["_law_purse_here", "_law_used"] d_law_word.scope := ⟨rfl, rfl, rfl, by decide +kernel, rfl, by decide +kernel, by decide +kernel⟩
theorem c_law_word (T : Txt w K mg) : Cal P w K mg base 2 "_law_word" (fun vs H Q _ => ∃ (p l : Addr) (us : List Str), vs = [.ref p, .ref l] ∧ PurseAt H p ∧ H l = some (.lst (us.map V.str)) ∧ us.length ≤ 50 ∧ ∀ wd H', NameOk wd → wd ∉ us → Bt p H H' → PurseAt H' p → Q (.str wd) H') [] := by
  refine T.cal 78 66 (d := d_law_word) (S := s_law_word) (hb := fun _ _ _ _ _ _ us hl => match us, hl with | [_, _], _ => rfl) (len := fun vs H Q E h => ?_) (hbody := fun cdv A outer s H vs Q E hr h => ?_)
  · obtain ⟨p, l, us, rfl, hp, hl, hus, k⟩ := h
    rfl
  · obtain ⟨p, l, us, rfl, hp, hl, hus, k⟩ := h
    refine ⟨_, (pss_cons (ps_set (i := 2) s_law_word.nd rfl (Or.inr rfl) pe_str)
      (pss_cons (ps_set (i := 3) s_law_word.nd rfl (Or.inl rfl) (pe_lst (pa_cons pe_str (pa_cons pe_str (pa_cons pe_str (pa_cons pe_str (pa_cons pe_str (pa_cons pe_str (pa_cons pe_str (pa_cons pe_str (pa_cons pe_str (pa_cons pe_str (pa_cons pe_str (pa_cons pe_str (pa_cons pe_str (pa_cons pe_str pa_nil))))))))))))))))
      (pss_cons (ps_set (i := 4) s_law_word.nd rfl (Or.inr rfl) (pe_ix (ix_listK (K := K) rfl) (pv 3) (pe_c (c_law_take T) hr (by decide) rfl (pa_cons (pv 0) (pa_cons pe_int pa_nil))) (fun _ _ => rfl)))
      (C8.pss_cut (ps_if (pt_cmpR op_gt (pe_c (c_law_take T) hr (by decide) rfl (pa_cons (pv 0) (pa_cons pe_int pa_nil))) pe_int (nomark _)) (pss_cons (ps_set (i := 4) s_law_word.nd rfl (Or.inr rfl) pe_str)
        (pss_one (ps_for PassesOwn.never rfl (pi_range1 (by rfl) (T.f 108) (pa_cons (pe_op op_add pe_int (pe_c (c_law_take T) hr (by decide) rfl (pa_cons (pv 0) (pa_cons pe_int pa_nil)))) pa_nil)) (pg_name (i := 5) s_law_word.nd rfl (Or.inl rfl))
        (pss_one (ps_set (i := 4) s_law_word.nd rfl (Or.inr rfl) (pe_op op_add_str (pv 4) (pe_ix ix_str (pv 2) (pe_c (c_law_take T) hr (by decide) rfl (pa_cons (pv 0) (pa_cons pe_int pa_nil))) (fun _ _ => rfl)))))))) pss_nil)
      (pss_cons (ps_if (pt_cmpR (op_notIn_seqK (K := K) rfl) (pv 4) (pv 1) (by rfl)) (pss_one (ps_ret (pv 4))) pss_nil)
      (pss_cons (ps_setLc (i := 6) (own := [("_law_k", 5)]) (g := (gName 5)) rfl s_law_word.nd rfl rfl (sw_true rfl rfl rfl (by decide +kernel)) (pi_range1 (by rfl) (T.f 108) (pa_cons (pe_op op_add (pe_callB (id := "len") (call_len_seqK (K := K) rfl) (by rfl) (T.f 104) (by decide +kernel) (pa_cons (pv 1) pa_nil)) pe_int) pa_nil)) (blkOk_by (N := ["_law_purse_here", "_law_used", "_law_letters", "_law_menu", "_law_word_here", "_law_k", "_law_spare", "_law_one"]) (sc := d_law_word.scope) (own := [("_law_k", 5)]) (by decide +kernel)) (fun _ _ _ _ _ => (pg_name (i := 5) s_law_word.nd rfl (Or.inl rfl))) (fun _ _ _ _ _ => pts_nil) (fun _ _ _ _ _ => (pe_op op_add_str (pe_op op_add_str (pe_ix ix_str (pv 2) (pe_op op_fdiv (pv 5) pe_int) (fun _ _ => rfl)) (pe_ix ix_str (pv 2) (pe_op op_mod (pv 5) pe_int) (fun _ _ => rfl))) (pe_slice C8.sl_txt (pv 4) po_none (po_some pe_int)))))
      (pss_one (ps_ret (pe_ix (ix_listK (K := K) rfl) (pe_lc (own := [("_law_one", 7)]) (g := (gName 7)) rfl s_law_word.nd (pi_list (pv 6)) (blkOk_by (N := ["_law_purse_here", "_law_used", "_law_letters", "_law_menu", "_law_word_here", "_law_k", "_law_spare", "_law_one"]) (sc := d_law_word.scope) (own := [("_law_one", 7)]) (by decide +kernel)) (fun _ _ _ _ _ => (pg_name (i := 7) s_law_word.nd rfl (Or.inl rfl))) (fun _ _ _ _ _ => pts_one (pt_cmpR (op_notIn_seqK (K := K) rfl) (pv 7) (pv 1) (by rfl))) (fun _ _ _ _ _ => (pv 7))) pe_int (fun _ _ => rfl)))))))))), ?_⟩
    have hlp : l ≠ p := hp.ne hl (strs_ne us)
    refine ⟨Nat.le_of_ble_eq_true rfl, fun m hm => ?_⟩
    have s1 := same_new (o := .lst (menuW.map V.str)) hm
    have hmp := hp.nn hm
    refine ⟨_, rfl, _, rfl, p, 14, rfl, by decide, by decide, hp.ext s1, fun t H1 t0 t1 b1 hp1 => ?_⟩
    obtain ⟨w0, hw0, hat⟩ := at_strs (xs := menuW) t0 t1
    refine ⟨m, _, _, _, rfl, rfl, SqL.of (b1 _ _ hmp upd_same), hat, ?_⟩
    have b01 : Bt p H H1 := (Bt.of s1).trans b1
    refine ⟨fun σ' H' => ∃ wd o5, σ' = [some (.ref p), some (.ref l), some (.str letS), some (.ref m), some (.str wd), o5, none, none] ∧ NameOk wd ∧ Bt p H H' ∧ PurseAt H' p, ?_, ?_⟩
    · refine ⟨_, rfl, p, 5, rfl, by decide, by decide, hp1, fun t2 H2 t20 t21 b2 hp2 => ⟨_, _, rfl, rfl, _, rfl, ?_⟩⟩
      refine ite2 (fun h => ?_) (fun h => ?_)
      · refine ⟨_, rfl, p, 6, rfl, by decide, by decide, hp2, fun t3 H3 t30 t31 b3 hp3 => ⟨_, _, rfl, rfl, (1 + t3), rfl, by omega, by omega, for_range (lo := 0) (n := (1 + t3).toNat) (fun i σ' H' => ∃ wd o5, σ' = [some (.ref p), some (.ref l), some (.str letS), some (.ref m), some (.str wd), o5, none, none] ∧ wd.length = i ∧ (∀ c ∈ wd.cps.toList, 97 ≤ c ∧ c ≤ 122) ∧ Bt p H H' ∧ PurseAt H' p) ?_ ?_ ?_⟩⟩
        · exact ⟨"", none, rfl, rfl, (fun c h => by cases h), b01.trans (b2.trans b3), hp3⟩
        · rintro i σ' H' hi ⟨wd, o5, rfl, hlen, hc, b4, hp4⟩
          refine ⟨_, rfl, _, rfl, _, rfl, p, 26, rfl, by decide, by decide, hp4, fun t5 H5 t50 t51 b5 hp5 => ?_⟩
          refine ⟨_, _, _, rfl, rfl, by decide, let_at t50 t51, ?_⟩
          refine ⟨_, _, rfl, rfl, ?_, ?_⟩
          · exact len_sl (by show wd.length + 1 ≤ _; omega)
          · refine ⟨_, _, rfl, ?_, ?_, b4.trans b5, hp5⟩
            · rw [len_app]
              show wd.length + 1 = i + 1
              omega
            · intro c h
              have h : c ∈ TL.tl (wd ++ (⟨#[97 + t5.toNat]⟩ : Str)) := h
              rw [TL.tl_append] at h
              rcases List.mem_append.mp h with h | h
              · exact hc c h
              · rcases List.mem_cons.mp h with q | q
                · omega
                · cases q
        · rintro σ' H' ⟨wd, o5, rfl, hlen, hc, b4, hp4⟩
          exact ⟨wd, o5, rfl, ⟨by omega, by omega, hc⟩, b4, hp4⟩
      · exact ⟨w0, none, rfl, menu_ok _ hw0, b01.trans b2, hp2⟩
    · rintro σ' H' ⟨wd, o5, rfl, hwd, b4, hp4⟩
      have hl4 := b4 _ _ hlp hl
      refine ⟨_, rfl, _, rfl, l, _, rfl, Or.inl (SqL.of hl4), rfl, flat_strs _, _, rfl, ?_⟩
      rw [inV_strs]
      by_cases hu : wd ∈ us
      · rw [decide_eq_true hu]
        refine iteF ?_
        unfold tNext
        dsimp only
        with_reducible refine r_seq ?_
        refine r_asg (tlc_rg (n := us.length + 1) (f := fun _ => true) (El := fun k v _ => v = .str (spareS wd k)) (fun _ _ _ _ _ h => h) (j := 5) (by show 5 < 8; decide) (by omega) ?_ ?_ fun D H6 vs6 hD6 s6 h6 p6 => ?_)
        · intro Q q
          refine ⟨_, rfl, _, _, rfl, Or.inl (SqL.of hl4), _, _, rfl, rfl, ?_⟩
          rw [List.length_map]
          exact q _ (Same.refl _)
        · intro k σ2 H6 Kt Kf hk s6 e1 e2 kt kf
          refine iteT (B := Kf H6) ?_
          have hl26 : (⟨#[97 + k / 26]⟩ : Str).length = 1 := rfl
          have hl27 : (⟨#[97 + k % 26]⟩ : Str).length = 1 := rfl
          have ek1 : atI letS.cps.toList ((k : Int) / 26) = some (97 + k / 26) := by
            have := let_at (t := (k : Int) / 26) (by omega) (by omega)
            rw [this]
            congr 2
          have ek2 : atI letS.cps.toList ((k : Int) % 26) = some (97 + k % 26) := by
            have := let_at (t := (k : Int) % 26) (by omega) (by omega)
            rw [this]
            congr 2
          have hsl : (Txt.slice wd none (some 4)).length ≤ 6 := by
            have e : Txt.slice wd none (some 4) = SX.S ((TL.tl wd).take 4) := by
              conv => lhs; rw [← S_tl wd]
              rw [SX.slice_to (by decide)]
              rfl
            rw [e, TL.len_tl]
            show ((TL.tl wd).take 4).length ≤ 6
            rw [List.length_take]
            omega
          refine ⟨_, (e1 2 (by decide)).trans rfl, _, e2, _, _, rfl, rfl, ⟨by decide, by decide⟩, _, _, _, rfl, rfl, by decide, ek1, _, (e1 2 (by decide)).trans rfl, _, e2, _, _, rfl, rfl, (show (0 : Int) < 26 by decide), _, _, _, rfl, rfl, by decide, ek2, _, _, rfl, rfl, by rw [hl26, hl27]; decide, _, (e1 4 (by decide)).trans rfl, _, rfl, wd, rfl, len_sl (by have := hwd.2.1; omega), _, _, rfl, rfl, ?_, ?_⟩
          · rw [len_app, hl26, hl27]
            exact len_sl (by omega)
          · exact kt rfl _ _ (Same.refl _) rfl
        with_reducible refine r_gn ?_
        unfold tRet tOp
        dsimp only
        refine tlc_ps (F := fun (b : Nat) v => v = .str (spareS wd b)) (f := fun b => decide (spareS wd b ∉ us)) (El := fun k v _ => v = .str (spareS wd k)) (fun _ _ _ _ _ h => h) p6 (j := 7) ?_ ?_ ?_ ?_ fun D7 H7 vs7 hD7 s7 h7 p7 => ?_
        · show 7 < 8
          decide
        · rw [filter_all, List.length_range]
          omega
        · exact fun Q q => ⟨_, rfl, q D _ (Same.refl _) (SqL.of h6)⟩
        · intro x k σ2 H8 Kt Kf hF hk s8 e1 e2 kt kf
          subst hF
          refine ⟨_, e2, _, (e1 1 (by decide)).trans rfl, l, _, rfl, Or.inl (SqL.of (s8 _ _ (s6 _ _ hl4))), rfl, flat_strs _, _, rfl, ?_⟩
          rw [inV_strs]
          by_cases hs : spareS wd k ∈ us
          · rw [decide_eq_true hs]
            exact kf (decide_eq_false fun z => z hs) _ (Same.refl _)
          · rw [decide_eq_false hs]
            exact ⟨_, e2, kt (decide_eq_true hs) _ _ (Same.refl _) rfl⟩
        · rw [filter_all] at p7
          obtain ⟨k0, r0, e0⟩ := spare_some wd us
          rw [e0] at p7
          have hk0 : k0 ∈ (List.range (us.length + 1)).filter (fun k => decide (spareS wd k ∉ us)) := by rw [e0]; exact List.mem_cons_self ..
          obtain ⟨h1, h2⟩ := List.mem_filter.mp hk0
          have h1 := List.mem_range.mp h1
          cases p7 with
          | cons q r =>
            subst q
            refine ⟨D7, _, _, _, rfl, rfl, SqL.of h7, atI_nat (j := 0) rfl, ?_⟩
            exact k _ _ (spare_ok hwd (by omega)) (of_decide_eq_true h2) (b4.trans (Bt.of (s6.trans s7))) (hp4.ext (s6.trans s7))
      · rw [decide_eq_false hu]
        refine iteT ?_
        exact ⟨_, rfl, k wd H' hwd hu b4 hp4⟩
end
end Fw
set_option Elab.async false
set_option linter.all false
set_option maxRecDepth 100000
set_option maxHeartbeats 4000000
namespace Fw
open PySem PySem.Spec PyProof.Rows L2
open C8 (Cal CalAt Met Mak pe_c pe_mk pe_mt pe_mt0 pe_gc InsC call_isC)

section
variable {P : Program} {w : World} {K : PySem.W.Frag} {mg : Str → Option Value} {base : Heap}

theorem bt_mut {p l : Addr} {H H' : Hp} {o : HO} (b : Bt p H H') (hl : H l = none) : Bt p H (upd H' l o) := fun c u n h => by
  rw [upd_ne (fun e => by rw [e, hl] at h; cases h)]
  exact b c u n h
/-- the law's rows -/
def LRowAt (H : Hp) (r : Row) (v : V) : Prop := ∃ t t2, v = .ref t ∧ H t = some (.tup [.str r.1, .str r.2.1, .ref t2]) ∧ H t2 = some (.tup [.int r.2.2.1, .int r.2.2.2.1, .int r.2.2.2.2])
theorem LRowAt.kp {H H' : Hp} {r : Row} {v : V} (h : LRowAt H r v) (e : Kp H H') : LRowAt H' r v := by
  obtain ⟨t, t2, a, b, c⟩ := h
  exact ⟨t, t2, a, e _ _ trivial b, e _ _ trivial c⟩
def RowsL (H : Hp) (l : Addr) (rows : List Row) : Prop := ∃ vs, H l = some (.lst vs) ∧ Paired (LRowAt H) rows vs
theorem RowsL.ext {H H' : Hp} {l : Addr} {rows : List Row} (h : RowsL H l rows) (e : Same H H') : RowsL H' l rows := by
  obtain ⟨vs, a, b⟩ := h
  exact ⟨vs, e _ _ a, p_imp b fun _ _ h => h.kp (Kp.of e)⟩
def SkAt (H : Hp) (l : Addr) (z : Str) (rs : List Row) : Prop := ∃ l2, H l = some (.lst [.str z, .ref l2]) ∧ RowsL H l2 rs.reverse
theorem SkAt.ext {H H' : Hp} {l : Addr} {z : Str} {rs : List Row} (h : SkAt H l z rs) (e : Same H H') : SkAt H' l z rs := by
  obtain ⟨l2, a, b⟩ := h
  exact ⟨l2, e _ _ a, b.ext e⟩
theorem rows_ne {H : Hp} {rows : List Row} {vs : List V} (h : Paired (LRowAt H) rows vs) (a b c : Int) : HO.lst vs ≠ .lst [.int a, .int b, .int c] := fun e => by
  injection e with e
  cases h with
  | nil => cases e
  | cons h t =>
    obtain ⟨t, t2, rfl, _⟩ := h
    cases e
/-- rows told before stay while a purse is used -/
theorem PurseAt.kp {H H' : Hp} {p : Addr} (h : PurseAt H p) (b : Bt p H H') : Kp H H' := by
  obtain ⟨x, y, z, h⟩ := h
  exact b.kp h (fun h => h)
theorem RowsL.bt {H H' : Hp} {l p : Addr} {rows : List Row} (h : RowsL H l rows) (hp : PurseAt H p) (b : Bt p H H') : RowsL H' l rows := by
  obtain ⟨vs, h1, h2⟩ := h
  exact ⟨vs, b _ _ (hp.ne h1 (rows_ne h2)) h1, p_imp h2 fun _ _ q => q.kp (hp.kp b)⟩
theorem SkAt.bt {H H' : Hp} {l p : Addr} {z : Str} {rs : List Row} (h : SkAt H l z rs) (hp : PurseAt H p) (b : Bt p H H') : SkAt H' l z rs := by
  obtain ⟨l2, h1, h2⟩ := h
  exact ⟨l2, b _ _ (hp.ne h1 fun a b c e => by injection e with e; cases e) h1, h2.bt hp b⟩
def AbOk (p : Par) : Prop := -39 ≤ p.2.1 ∧ p.2.1 ≤ 69 ∧ 0 ≤ p.2.1 + p.2.2 ∧ p.2.1 + p.2.2 ≤ 30
theorem p_strs {rows : List Row} {vs : List V} (h : Paired (fun (r : Row) v => v = V.str r.1) rows vs) : vs = (rnm rows).map V.str := by
  induction h with
  | nil => rfl
  | cons h t ih => rw [h, ih]; rfl
theorem s_law_named : FnScope ["_law_sketch_here", "_law_row"] ["_law_sketch_here"] d_law_named.scope := ⟨rfl, rfl, rfl, by decide +kernel, rfl, by decide +kernel, by decide +kernel⟩
theorem c_law_named (T : Txt w K mg) : Cal P w K mg base 1 "_law_named" (fun vs H Q _ => ∃ (l : Addr) (z : Str) (rs : List Row), vs = [.ref l] ∧ SkAt H l z rs ∧ rs.length ≤ 100 ∧ RetL H Q ((z :: rnm rs.reverse).map V.str)) [] := by
  refine T.cal 94 82 (d := d_law_named) (S := s_law_named) (hb := fun _ _ _ _ _ _ us hl => match us, hl with | [_], _ => rfl) (len := fun vs H Q E h => ?_) (hbody := fun cdv A outer s H vs Q E hr h => ?_)
  · obtain ⟨l, z, rs, rfl, ⟨l2, hl, vs, hl2, hpv⟩, hlen, k⟩ := h
    rfl
  · obtain ⟨l, z, rs, rfl, ⟨l2, hl, vs, hl2, hpv⟩, hlen, k⟩ := h
    refine ⟨_, (pss_one (ps_ret (pe_op op_cat (pe_lst (pa_cons (pe_ix (ix_listK (K := K) rfl) (pv 0) pe_int (fun _ _ => rfl)) pa_nil)) (pe_lc (own := [("_law_row", 1)]) (g := (gName 1)) rfl s_law_named.nd (pi_list (pe_ix (ix_listK (K := K) rfl) (pv 0) pe_int (fun _ _ => rfl))) (blkOk_by (N := ["_law_sketch_here", "_law_row"]) (sc := d_law_named.scope) (own := [("_law_row", 1)]) (by decide +kernel)) (fun _ _ _ _ _ => (pg_name (i := 1) s_law_named.nd rfl (Or.inl rfl))) (fun _ _ _ _ _ => pts_nil) (fun _ _ _ _ _ => (pe_ix (ix_tupK (K := K) rfl) (pv 1) pe_int (fun _ _ => rfl))))))), ?_⟩
    refine ⟨_, rfl, l, _, _, _, rfl, rfl, SqL.of hl, atI_nat (j := 0) rfl, sz1, fun n1 hn1 => ?_⟩
    have s1 := same_new (o := .lst [.str z]) hn1
    refine tlc_ps (F := LRowAt H) (f := fun _ => true) (El := fun r v _ => v = .str r.1) (fun _ _ _ _ _ h => h) hpv (j := 1) ?_ ?_ ?_ ?_ fun D H1 vs1 hD s2 h2 p2 => ?_
    · show 1 < 2
      decide
    · rw [List.length_reverse]
      omega
    · exact fun Q q => ⟨_, rfl, l, _, _, _, rfl, rfl, SqL.of (s1 _ _ hl), atI_nat (j := 1) rfl, q l2 _ (Same.refl _) (SqL.of (s1 _ _ hl2))⟩
    · intro x r σ2 H8 Kt Kf hF hk s8 e1 e2 kt kf
      obtain ⟨t, t2, rfl, ht, _⟩ := hF
      refine iteT (B := Kf H8) ?_
      exact ⟨_, e2, t, _, _, _, rfl, rfl, SqT.of (s8 _ _ (s1 _ _ ht)), atI_nat (j := 0) rfl, kt rfl _ _ (Same.refl _) rfl⟩
    · have ev : vs1 = (rnm rs.reverse).map V.str := by
        rw [filter_all] at p2
        exact p_strs p2
      have s12 := s1.trans s2
      refine ⟨n1, D, _, _, rfl, rfl, s2 _ _ upd_same, h2, ?_, fun t ht => ?_⟩
      · rw [ev, List.length_map, rnm_rev, List.length_reverse]
        have : (rnm rs).length = rs.length := List.length_map _
        exact len_sl (by show 1 + _ ≤ _; omega)
      · refine k t _ (s12.free ht) (s12.trans (same_new ht)) ?_
        rw [upd_same, ev]
        rfl
end
end Fw
set_option Elab.async false
set_option linter.all false
set_option maxRecDepth 100000
set_option maxHeartbeats 4000000
namespace Fw
open PySem PySem.Spec PyProof.Rows L2
open C8 (Cal CalAt Met Mak pe_c pe_mk pe_mt pe_mt0 pe_gc InsC call_isC)

section
variable {P : Program} {w : World} {K : PySem.W.Frag} {mg : Str → Option Value} {base : Heap}

def szR (g : Int → Int) (r : Row) : Row := (r.1, r.2.1, (g r.2.2.1, r.2.2.2))
theorem rnm_sz (g : Int → Int) (rs : List Row) : rnm (rs.map (szR g)) = rnm rs := by
  unfold rnm
  rw [List.map_map]
  rfl
theorem good_sz {g : Int → Int} {z : Str} {rs : List Row} (h : Good z rs) : Good z (rs.map (szR g)) := by
  induction h with
  | nil h => exact .nil h
  | cons g0 h1 h2 h3 h4 ih =>
    refine .cons ih h1 ?_ ?_ h4
    · rw [rnm_sz]; exact h2
    · rw [rnm_sz]; exact h3
structure SkOk (z : Str) (rs : List Row) : Prop where
  good : Good z rs
  few : rs.length ≤ 11
  ab : ∀ r ∈ rs, AbOk r.2.2
theorem SkOk.sz {g : Int → Int} {z : Str} {rs : List Row} (h : SkOk z rs) : SkOk z (rs.map (szR g)) := by
  refine ⟨good_sz h.good, by rw [List.length_map]; exact h.few, fun r hr => ?_⟩
  obtain ⟨q, hq, rfl⟩ := List.mem_map.mp hr
  exact h.ab q hq
/-- a new sketch -/
def RetSk (H : Hp) (p : Addr) (Q : VK) (C : List Row → Prop) : Prop := ∀ l z rs H', H l = none → Bt p H H' → PurseAt H' p → SkAt H' l z rs → SkOk z rs → C rs → Q (.ref l) H'
theorem Bt.free {p l : Addr} {H H' : Hp} (b : Bt p H H') (hp : PurseAt H' p) (hl : H' l = none) : H l = none := by
  cases e : H l with
  | none => rfl
  | some o =>
    rw [b _ _ (hp.nn hl) e] at hl
    cases hl
theorem RetSk.mono {H H1 : Hp} {p : Addr} {Q : VK} {C : List Row → Prop} (k : RetSk H p Q C) (b : Bt p H H1) (hp1 : PurseAt H1 p) : RetSk H1 p Q C := fun l z rs H' hl b1 hp h2 h3 h4 => k l z rs H' (b.free hp1 hl) (b.trans b1) hp h2 h3 h4
theorem s_law_parts : FnScope ["_law_purse_here", "_law_wide"] ["_law_purse_here", "_law_wide"] d_law_parts.scope := ⟨rfl, rfl, rfl, by decide +kernel, rfl, by decide +kernel, by decide +kernel⟩
theorem c_law_parts (T : Txt w K mg) : Cal P w K mg base 3 "_law_parts" (fun vs H Q _ => ∃ (p : Addr) (wide : Int), vs = [.ref p, .int wide] ∧ 3 ≤ wide ∧ wide ≤ 30 ∧ PurseAt H p ∧ ∀ q (pr : Par) H', Bt p H H' → PurseAt H' p → H' q = some (.tup [.int pr.1, .int pr.2.1, .int pr.2.2]) → AbOk pr → Q (.ref q) H') [] := by
  refine T.cal 81 69 (d := d_law_parts) (S := s_law_parts) (hb := fun _ _ _ _ _ _ us hl => match us, hl with | [_, _], _ => rfl) (len := fun vs H Q E h => ?_) (hbody := fun cdv A outer s H vs Q E hr h => ?_)
  · obtain ⟨p, wide, rfl, w0, w1, hp, k⟩ := h
    rfl
  · obtain ⟨p, wide, rfl, w0, w1, hp, k⟩ := h
    refine ⟨_, (pss_one (ps_ret (pe_op (op_catAK (K := K) rfl) (pe_tup (pa_cons (pe_c (c_law_measure T) hr (by decide) rfl (pa_cons (pv 0) pa_nil)) pa_nil)) (pe_c (c_law_allowed T) hr (by decide) rfl (pa_cons (pv 0) (pa_cons (pv 1) pa_nil)))))), ?_⟩
    refine ⟨_, rfl, p, rfl, hp, fun t H1 b1 hp1 => ⟨sz1, fun q1 hq1 => ?_⟩⟩
    have s1 := same_new (o := .tup [.int t]) hq1
    refine ⟨_, rfl, _, rfl, p, wide, rfl, w0, w1, hp1.ext s1, fun q2 a b H2 b2 hp2 h2 a0 a1 a2 a3 => ?_⟩
    refine ⟨q1, q2, _, _, rfl, rfl, SqT.of (b2 _ _ (hp1.nn hq1) upd_same), SqT.of h2, sz3, (fun h => by cases h), (fun _ h => by cases h), fun _ _ q3 hq3 => ?_⟩
    have s3 := same_new (o := .tup ([.int t] ++ [.int a, .int b])) hq3
    exact k q3 (t, a, b) _ ((b1.trans (Bt.of s1)).trans (b2.trans (Bt.of s3))) (hp2.ext s3) upd_same ⟨a0, a1, a2, a3⟩
theorem s_law_sketch : FnScope ["_law_purse_here", "_law_many", "_law_wide", "_law_zero", "_law_rows", "_law_k", "_law_names", "_law_start", "_law_row"] ["_law_purse_here", "_law_many", "_law_wide"] d_law_sketch.scope := ⟨rfl, rfl, rfl, by decide +kernel, rfl, by decide +kernel, by decide +kernel⟩
theorem c_law_sketch (T : Txt w K mg) : Cal P w K mg base 4 "_law_sketch" (fun vs H Q _ => ∃ (p : Addr) (many : Nat) (wide : Int), vs = [.ref p, .int (many : Int), .int wide] ∧ many ≤ 11 ∧ 3 ≤ wide ∧ wide ≤ 30 ∧ PurseAt H p ∧ RetSk H p Q (fun _ => True)) [] := by
  refine T.cal 87 75 (d := d_law_sketch) (S := s_law_sketch) (hb := fun _ _ _ _ _ _ us hl => match us, hl with | [_, _, _], _ => rfl) (len := fun vs H Q E h => ?_) (hbody := fun cdv A outer s H vs Q E hr h => ?_)
  · obtain ⟨p, many, wide, rfl, hm, w0, w1, hp, k⟩ := h
    rfl
  · obtain ⟨p, many, wide, rfl, hm, w0, w1, hp, k⟩ := h
    refine ⟨_, (pss_cons (ps_par (i := 3) (j := 4) (by rfl) s_law_sketch.nd rfl rfl (by decide) rfl rfl (pa_cons (pe_c (c_law_word T) hr (by decide) rfl (pa_cons (pv 0) (pa_cons (pe_lst pa_nil) pa_nil))) (pa_cons (pe_lst pa_nil) pa_nil)) (by rfl))
      (pss_cons (ps_for PassesOwn.never rfl (pi_range1 (by rfl) (T.f 108) (pa_cons (pv 1) pa_nil)) (pg_name (i := 5) s_law_sketch.nd rfl (Or.inl rfl))
      (pss_cons (ps_set (i := 6) s_law_sketch.nd rfl (Or.inl rfl) (pe_op op_cat (pe_lst (pa_cons (pv 3) pa_nil)) (pe_lc (own := [("_law_row", 8)]) (g := (gName 8)) rfl s_law_sketch.nd (pi_list (pv 4)) (blkOk_by (N := ["_law_purse_here", "_law_many", "_law_wide", "_law_zero", "_law_rows", "_law_k", "_law_names", "_law_start", "_law_row"]) (sc := d_law_sketch.scope) (own := [("_law_row", 8)]) (by decide +kernel)) (fun _ _ _ _ _ => (pg_name (i := 8) s_law_sketch.nd rfl (Or.inl rfl))) (fun _ _ _ _ _ => pts_nil) (fun _ _ _ _ _ => (pe_ix (ix_tupK (K := K) rfl) (pv 8) pe_int (fun _ _ => rfl))))))
        (pss_cons (ps_set (i := 7) s_law_sketch.nd rfl (Or.inl rfl) (pe_ix (ix_listK (K := K) rfl) (pv 6) (pe_ix (ix_listK (K := K) rfl) (pe_lst (pa_cons (pe_c (c_law_take T) hr (by decide) rfl (pa_cons (pv 0) (pa_cons (pe_callB (id := "len") (call_len_seqK (K := K) rfl) (by rfl) (T.f 104) (by decide +kernel) (pa_cons (pv 6) pa_nil)) pa_nil))) (pa_cons (pe_op op_sub (pe_callB (id := "len") (call_len_seqK (K := K) rfl) (by rfl) (T.f 104) (by decide +kernel) (pa_cons (pv 6) pa_nil)) pe_int) pa_nil))) (pe_c (c_law_take T) hr (by decide) rfl (pa_cons (pv 0) (pa_cons pe_int pa_nil))) (fun _ _ => rfl)) (fun _ _ => rfl)))
        (pss_one (ps_expr (pe_bm PySem.F.plainAttrs_list PySem.F.slot_list_append PySem.F.type_list_append mt_append (pv 4) (pa_cons (pe_tup (pa_cons (pe_c (c_law_word T) hr (by decide) rfl (pa_cons (pv 0) (pa_cons (pv 6) pa_nil))) (pa_cons (pv 7) (pa_cons (pe_c (c_law_parts T) hr (by decide) rfl (pa_cons (pv 0) (pa_cons (pv 2) pa_nil))) pa_nil)))) pa_nil)))))))
      (pss_one (ps_ret (pe_lst (pa_cons (pv 3) (pa_cons (pv 4) pa_nil))))))), ?_⟩
    refine ⟨_, rfl, Nat.zero_le _, fun e he => ?_⟩
    have s0 := same_new (o := .lst []) he
    refine ⟨p, e, [], rfl, hp.ext s0, upd_same, Nat.zero_le _, fun z H1 hz _ b1 hp1 => ⟨Nat.zero_le _, fun l2 hl2 => ⟨_, _, rfl, ?_⟩⟩⟩
    have s2 := same_new (o := .lst []) hl2
    have hln : H l2 = none := s0.free (b1.free hp1 hl2)
    have bA : Bt p H (upd H1 l2 (.lst [])) := ((Bt.of s0).trans b1).trans (Bt.of s2)
    have hpA := hp1.ext s2
    have hlA : (upd H1 l2 (.lst [])) l2 = some (.lst []) := upd_same
    generalize upd H1 l2 (.lst []) = H2 at bA hpA hlA ⊢
    refine ⟨_, rfl, (many : Int), rfl, by omega, by omega, for_range (lo := 0) (n := (many : Int).toNat) (fun i σ' H' => ∃ o5 o6 o7 rs vs, σ' = [some (.ref p), some (.int (many : Int)), some (.int wide), some (.str z), some (.ref l2), o5, o6, o7, none] ∧ Bt p H H' ∧ PurseAt H' p ∧ H' l2 = some (.lst vs) ∧ Paired (LRowAt H') rs.reverse vs ∧ Good z rs ∧ rs.length = i ∧ ∀ r ∈ rs, AbOk r.2.2) ?_ ?_ ?_⟩
    · exact ⟨none, none, none, [], [], rfl, bA, hpA, hlA, .nil, .nil hz, rfl, fun r h => by cases h⟩
    · rintro i σ' H' hi ⟨o5, o6, o7, rs, vs, rfl, b, hp', hl, hpv, hg, hlen, hab⟩
      have hi2 : i < many := by omega
      refine ⟨_, rfl, sz1, fun n1 hn1 => ?_⟩
      have s3 := same_new (o := .lst [.str z]) hn1
      refine tlc_ps (F := LRowAt H') (f := fun _ => true) (El := fun r v _ => v = .str r.1) (fun _ _ _ _ _ h => h) hpv (j := 8) ?_ ?_ ?_ ?_ fun D H3 vs3 hD s4 h4 p4 => ?_
      · show 8 < 9
        decide
      · rw [List.length_reverse]
        omega
      · exact fun Q q => ⟨_, rfl, q l2 _ (Same.refl _) (SqL.of (s3 _ _ hl))⟩
      · intro x r σ2 H8 Kt Kf hF hk s8 e1 e2 kt kf
        obtain ⟨t, t2, rfl, ht, _⟩ := hF
        refine iteT (B := Kf H8) ?_
        exact ⟨_, e2, t, _, _, _, rfl, rfl, SqT.of (s8 _ _ (s3 _ _ ht)), atI_nat (j := 0) rfl, kt rfl _ _ (Same.refl _) rfl⟩
      · have ev : vs3 = (rnm rs.reverse).map V.str := by
          rw [filter_all] at p4
          exact p_strs p4
        have hnl : (rnm rs).length = rs.length := List.length_map _
        refine ⟨n1, D, _, _, rfl, rfl, s4 _ _ upd_same, h4, ?_, fun n hn => ?_⟩
        · rw [ev, List.length_map, rnm_rev, List.length_reverse]
          exact len_sl (by show 1 + _ ≤ _; omega)
        have s34 := s3.trans s4
        have s5 := same_new (o := .lst ([.str z] ++ vs3)) hn
        have hn5 : (upd H3 n (.lst ([.str z] ++ vs3))) n = some (.lst ((z :: rnm rs.reverse).map V.str)) := by
          rw [upd_same, ev]
          rfl
        have b5 := b.trans (Bt.of (s34.trans s5))
        have hp5 := (hp'.ext s34).ext s5
        have hl5 := s5 _ _ (s34 _ _ hl)
        have hpv5 : Paired (LRowAt (upd H3 n (.lst ([.str z] ++ vs3)))) rs.reverse vs := p_imp hpv fun _ _ h => h.kp (Kp.of (s34.trans s5))
        generalize upd H3 n (.lst ([.str z] ++ vs3)) = H5 at hn5 b5 hp5 hl5 hpv5 ⊢
        have hNl : (z :: rnm rs.reverse).length = rs.length + 1 := by rw [List.length_cons, rnm_rev, List.length_reverse, hnl]
        generalize hNS : z :: rnm rs.reverse = ns at hn5 hNl
        have hln5 : ((ns.map V.str).length : Int) = (rs.length : Int) + 1 := by rw [List.length_map, hNl]; rfl
        have hnp : n ≠ p := hp5.ne hn5 (strs_ne ns)
        refine ⟨_, rfl, _, rfl, _, rfl, _, _, rfl, Or.inl (SqL.of hn5), p, _, rfl, by omega, by omega, hp5, fun t H6 t0 t1 b6 hp6 => ?_⟩
        have hn6 := b6 _ _ hnp hn5
        refine ⟨_, rfl, _, _, rfl, Or.inl (SqL.of hn6), _, _, rfl, rfl, sz2, fun c hc => ?_⟩
        have s7 := same_new (o := .lst [.int t, .int ((ns.map V.str).length - 1)]) hc
        refine ⟨_, rfl, p, 2, rfl, by decide, by decide, hp6.ext s7, fun t2 H7 t20 t21 b7 hp7 => ?_⟩
        obtain ⟨ix, hix, hat⟩ := at_ints (xs := [t, (ns.map V.str).length - 1]) t20 t21
        have hix2 : 0 ≤ ix ∧ ix < ns.length := by
          rw [hNl]
          rcases List.mem_cons.mp hix with q | q
          · omega
          · have := List.mem_singleton.mp q
            omega
        obtain ⟨st, hst, hat2⟩ := at_strs (xs := ns) hix2.1 hix2.2
        have hcp := hp6.nn hc
        refine ⟨c, _, _, _, rfl, rfl, SqL.of (b7 _ _ hcp upd_same), hat, n, _, _, _, rfl, rfl, SqL.of (b7 _ _ hnp (s7 _ _ hn6)), hat2, ?_⟩
        have b8 := b5.trans (b6.trans ((Bt.of s7).trans b7))
        have hn8 := b7 _ _ hnp (s7 _ _ hn6)
        have b57 := b6.trans ((Bt.of s7).trans b7)
        have hlp : l2 ≠ p := fun e => by
          obtain ⟨x, y, w, h⟩ := hp
          rw [← e, hln] at h
          cases h
        have hl8 := b57 _ _ hlp hl5
        have hpv8 : Paired (LRowAt H7) rs.reverse vs := p_imp hpv5 fun _ _ h => h.kp (hp5.kp b57)
        refine ⟨_, rfl, Or.inl ⟨rfl, _, SqL.of hl8⟩, _, rfl, _, rfl, p, n, ns, rfl, hp7, hn8, by omega, fun wd H9 hwd hwn b9 hp9 => ?_⟩
        refine ⟨_, rfl, _, rfl, _, rfl, p, wide, rfl, w0, w1, hp9, fun q pr H10 b10 hp10 hq10 hpr => ⟨sz3, fun t4 ht4 => ?_⟩⟩
        have s11 := same_new (o := .tup [.str wd, .str st, .ref q]) ht4
        have b911 := b9.trans (b10.trans (Bt.of s11))
        have hl11 := b911 _ _ hlp hl8
        have hvl := Paired.len hpv8
        rw [List.length_reverse] at hvl
        refine ⟨l2, _, _, rfl, rfl, hl11, Nat.lt_of_le_of_lt (by omega : _ ≤ 200) (by decide), ?_⟩
        have htl : t4 ≠ l2 := fun e => by rw [← e] at hl8; have := (b9.trans b10) _ _ (by rw [e]; exact hlp) hl8; rw [this] at ht4; cases ht4
        have hql : q ≠ l2 := fun e => by rw [e, (b9.trans b10) _ _ hlp hl8] at hq10; cases hq10
        have k12 : Kp (upd H10 t4 (.tup [.str wd, .str st, .ref q])) (upd (upd H10 t4 (.tup [.str wd, .str st, .ref q])) l2 (.lst (vs ++ [.ref t4]))) := Kp.updL hl11
        have hwn2 : wd ∉ z :: rnm rs := fun h => hwn (by rw [← hNS]; exact mem_names.mpr h)
        have hst2 : st ∈ z :: rnm rs := mem_names.mp (by rw [hNS]; exact hst)
        refine ⟨_, _, _, (wd, st, pr) :: rs, vs ++ [.ref t4], rfl, bt_mut (b8.trans b911) hln, ?_, upd_same, ?_, .cons hg hwd hwn2 hst2 hpr.2.2.1, by rw [List.length_cons, hlen], ?_⟩
        · obtain ⟨x, y, w, h⟩ := hp10.ext s11
          exact ⟨x, y, w, by rw [upd_ne hlp.symm]; exact h⟩
        · rw [List.reverse_cons]
          refine p_app (p_imp hpv8 fun _ _ h => (h.kp (hp7.kp b911)).kp k12) (p_one ⟨t4, q, rfl, ?_, ?_⟩)
          · rw [upd_ne htl]; exact upd_same
          · rw [upd_ne hql]; exact s11 _ _ hq10
        · intro r hr
          rcases List.mem_cons.mp hr with e | e
          · rw [e]; exact hpr
          · exact hab r e
    · rintro σ' H' ⟨o5, o6, o7, rs, vs, rfl, b, hp', hl, hpv, hg, hlen, hab⟩
      refine ⟨_, rfl, _, rfl, sz2, fun l hl3 => ?_⟩
      have s9 := same_new (o := .lst [.str z, .ref l2]) hl3
      exact k l z rs _ (b.free hp' hl3) (b.trans (Bt.of s9)) (hp'.ext s9) ⟨l2, upd_same, vs, s9 _ _ hl, p_imp hpv fun _ _ h => h.kp (Kp.of s9)⟩ ⟨hg, by omega, hab⟩ trivial
end
end Fw
set_option Elab.async false
set_option linter.all false
set_option maxRecDepth 100000
set_option maxHeartbeats 4000000
namespace Fw
open PySem PySem.Spec PyProof.Rows L2
open C8 (Cal CalAt Met Mak pe_c pe_mk pe_mt pe_mt0 pe_gc InsC call_isC)

section
variable {P : Program} {w : World} {K : PySem.W.Frag} {mg : Str → Option Value} {base : Heap}

theorem p_szR {H : Hp} {g : Int → Int} {rows : List Row} {vs : List V} (h : Paired (fun r v => LRowAt H (szR g r) v) rows vs) : Paired (LRowAt H) (rows.map (szR g)) vs := p_map (F := LRowAt H) (szR g) h
theorem s_law_plain_sketch : FnScope ["_law_purse_here", "_law_many", "_law_wide", "_law_zero", "_law_rows", "_law_name", "_law_start", "_law_parts_here"] ["_law_purse_here", "_law_many", "_law_wide"] d_law_plain_sketch.scope := ⟨rfl, rfl, rfl, by decide +kernel, rfl, by decide +kernel, by decide +kernel⟩
theorem c_law_plain_sketch (T : Txt w K mg) : Cal P w K mg base 5 "_law_plain_sketch" (fun vs H Q _ => ∃ (p : Addr) (many : Nat) (wide : Int), vs = [.ref p, .int (many : Int), .int wide] ∧ many ≤ 11 ∧ 3 ≤ wide ∧ wide ≤ 30 ∧ PurseAt H p ∧ RetSk H p Q (fun _ => True)) [] := by
  refine T.cal 92 80 (d := d_law_plain_sketch) (S := s_law_plain_sketch) (hb := fun _ _ _ _ _ _ us hl => match us, hl with | [_, _, _], _ => rfl) (len := fun vs H Q E h => ?_) (hbody := fun cdv A outer s H vs Q E hr h => ?_)
  · obtain ⟨p, many, wide, rfl, hm, w0, w1, hp, k⟩ := h
    rfl
  · obtain ⟨p, many, wide, rfl, hm, w0, w1, hp, k⟩ := h
    refine ⟨_, (pss_cons (ps_asg (pe_c (c_law_sketch T) hr (by decide) rfl (pa_cons (pv 0) (pa_cons (pv 1) (pa_cons (pv 2) pa_nil)))) (pg_lst rfl (pgs_cons (pg_name (i := 3) s_law_plain_sketch.nd rfl (Or.inl rfl)) (pgs_cons (pg_name (i := 4) s_law_plain_sketch.nd rfl (Or.inl rfl)) pgs_nil))))
      (pss_one (ps_ret (pe_lst (pa_cons (pv 3) (pa_cons (pe_lc (own := [("_law_name", 5), ("_law_start", 6), ("_law_parts_here", 7)]) (g := (gTup K 3 (gCons (gName 5) (gCons (gName 6) (gCons (gName 7) gNil))))) rfl s_law_plain_sketch.nd (pi_list (pv 4)) (blkOk_by (N := ["_law_purse_here", "_law_many", "_law_wide", "_law_zero", "_law_rows", "_law_name", "_law_start", "_law_parts_here"]) (sc := d_law_plain_sketch.scope) (own := [("_law_name", 5), ("_law_start", 6), ("_law_parts_here", 7)]) (by decide +kernel)) (fun _ _ _ _ _ => (pg_tup rfl (pgs_cons (pg_name (i := 5) s_law_plain_sketch.nd rfl (Or.inl rfl)) (pgs_cons (pg_name (i := 6) s_law_plain_sketch.nd rfl (Or.inl rfl)) (pgs_cons (pg_name (i := 7) s_law_plain_sketch.nd rfl (Or.inl rfl)) pgs_nil))))) (fun _ _ _ _ _ => pts_nil) (fun _ _ _ _ _ => (pe_tup (pa_cons (pv 5) (pa_cons (pv 6) (pa_cons (pe_op (op_catAK (K := K) rfl) (pe_tup (pa_cons (pe_op op_fdiv (pe_ix (ix_tupK (K := K) rfl) (pv 7) pe_int (fun _ _ => rfl)) pe_int) pa_nil)) (pe_slice (sl_tupAK (K := K) rfl) (pv 7) (po_some pe_int) po_none)) pa_nil)))))) pa_nil)))))), ?_⟩
    refine ⟨_, rfl, _, rfl, _, rfl, p, many, wide, rfl, hm, w0, w1, hp, fun l z rs H1 hl b1 hp1 hS hO _ => ?_⟩
    obtain ⟨l2, h1, vs, h2, hpv⟩ := hS
    refine ⟨l, _, rfl, SqL.of h1, rfl, _, _, rfl, _, _, rfl, rfl, ?_⟩
    refine ⟨_, rfl, _, rfl, l2, rfl, ⟨_, SqL.of h2⟩, fun D hD => ?_⟩
    obtain ⟨⟨z1, z2⟩, z3⟩ := p_zip hpv
    have hzl : (vs.zip rs.reverse).length ≤ 100000 := by
      have e : ((vs.zip rs.reverse).map (·.2)).length = rs.reverse.length := by rw [z2]
      rw [List.length_map, List.length_reverse] at e
      have := hO.few
      omega
    refine lcE_list (ps := vs.zip rs.reverse) (f := fun _ => true) (El := fun r v H' => LRowAt H' (szR (fun s => s / 16) r) v) (fun _ _ _ _ e h => h.kp e) hD (by rw [z1]; exact SqL.of h2) hzl ?_ ?_
    · intro i x r H2 Kt Kf hpr s2 kt kf
      obtain ⟨⟨t, t2, rfl, ht, ht2⟩, hm⟩ := z3 x r (List.mem_of_getElem? hpr)
      have ht := s2 _ _ ht
      have ht2 := s2 _ _ ht2
      refine ⟨t, _, rfl, SqT.of ht, rfl, _, _, rfl, _, _, rfl, _, _, rfl, rfl, rfl, ?_⟩
      refine iteT (B := Kf H2) ?_
      refine ⟨_, rfl, _, rfl, _, rfl, t2, _, _, _, rfl, rfl, SqT.of ht2, atI_nat (j := 0) rfl, _, _, rfl, rfl, ⟨by decide, by decide⟩, sz1, fun q1 hq1 => ?_⟩
      have s3 := same_new (o := .tup [.int (r.2.2.1 / 16)]) hq1
      refine ⟨_, rfl, _, rfl, t2, _, rfl, SqT.of (s3 _ _ ht2), (fun h => absurd h (not_tail _ _)), fun _ q2 hq2 => ?_⟩
      rw [cut_tail]
      have s4 := same_new (o := .tup [.int r.2.2.2.1, .int r.2.2.2.2]) hq2
      refine ⟨q1, q2, _, _, rfl, rfl, SqT.of (s4 _ _ upd_same), SqT.of upd_same, sz3, (fun h => by cases h), (fun _ h => by cases h), fun _ _ q3 hq3 => ⟨sz3, fun q4 hq4 => ?_⟩⟩
      have s5 := same_new (o := .tup ([.int (r.2.2.1 / 16)] ++ [.int r.2.2.2.1, .int r.2.2.2.2])) hq3
      have s6 := same_new (o := .tup [.str r.1, .str r.2.1, .ref q3]) hq4
      exact kt rfl _ _ (s3.trans (s4.trans (s5.trans s6))) ⟨q4, q3, rfl, upd_same, s6 _ _ upd_same⟩
    · intro H' vs2 s2 hv p2
      rw [z2, filter_all] at p2
      refine ⟨sz2, fun l3 hl3 => ?_⟩
      have s3 := same_new (o := .lst [.str z, .ref D]) hl3
      refine k l3 z (rs.map (szR fun s => s / 16)) _ (b1.free hp1 (s2.free hl3)) (b1.trans (Bt.of (s2.trans s3))) (hp1.ext (s2.trans s3)) ⟨D, upd_same, vs2, s3 _ _ hv, ?_⟩ hO.sz trivial
      rw [← List.map_reverse]
      exact p_imp (p_szR p2) fun _ _ h => h.kp (Kp.of s3)
theorem s_law_some_sketch : FnScope ["_law_purse_here", "_law_most"] ["_law_purse_here"] d_law_some_sketch.scope := ⟨rfl, rfl, rfl, by decide +kernel, rfl, by decide +kernel, by decide +kernel⟩
theorem c_law_some_sketch (T : Txt w K mg) : Cal P w K mg base 6 "_law_some_sketch" (fun vs H Q _ => ∃ (p : Addr), vs = [.ref p] ∧ PurseAt H p ∧ RetSk H p Q (fun _ => True)) [] := by
  refine T.cal 93 81 (d := d_law_some_sketch) (S := s_law_some_sketch) (hb := fun _ _ _ _ _ _ us hl => match us, hl with | [_], _ => rfl) (len := fun vs H Q E h => ?_) (hbody := fun cdv A outer s H vs Q E hr h => ?_)
  · obtain ⟨p, rfl, hp, k⟩ := h
    rfl
  · obtain ⟨p, rfl, hp, k⟩ := h
    refine ⟨_, (pss_cons (ps_set (i := 1) s_law_some_sketch.nd rfl (Or.inl rfl) (pe_ix (ix_listK (K := K) rfl) (pe_lst (pa_cons pe_int (pa_cons pe_int (pa_cons pe_int (pa_cons pe_int pa_nil))))) (pe_c (c_law_take T) hr (by decide) rfl (pa_cons (pv 0) (pa_cons pe_int pa_nil))) (fun _ _ => rfl)))
      (pss_one (ps_ret (pe_c (c_law_plain_sketch T) hr (by decide) rfl (pa_cons (pv 0) (pa_cons (pe_c (c_law_take T) hr (by decide) rfl (pa_cons (pv 0) (pa_cons (pe_op op_add (pv 1) pe_int) pa_nil))) (pa_cons (pe_ix (ix_listK (K := K) rfl) (pe_lst (pa_cons pe_int (pa_cons pe_int pa_nil))) (pe_c (c_law_take T) hr (by decide) rfl (pa_cons (pv 0) (pa_cons pe_int pa_nil))) (fun _ _ => rfl)) pa_nil))))))), ?_⟩
    refine ⟨Nat.le_of_ble_eq_true rfl, fun l hl => ?_⟩
    have hlp := hp.nn hl
    have s1 := same_new (o := .lst [.int 4, .int 4, .int 4, .int 11]) hl
    refine ⟨_, rfl, p, 4, rfl, by decide, by decide, hp.ext s1, fun t H1 t0 t1 b1 hp1 => ?_⟩
    obtain ⟨m, hm, hat⟩ := at_ints (xs := [4, 4, 4, 11]) t0 t1
    have hm2 : 0 ≤ m ∧ m ≤ 11 := by
      rcases List.mem_cons.mp hm with e | e
      · omega
      rcases List.mem_cons.mp e with e | e
      · omega
      rcases List.mem_cons.mp e with e | e
      · omega
      have := List.mem_singleton.mp e
      omega
    refine ⟨l, _, _, _, rfl, rfl, SqL.of (b1 _ _ hlp upd_same), hat, ?_⟩
    refine ⟨_, rfl, _, rfl, _, rfl, _, _, rfl, rfl, p, m + 1, rfl, by omega, by omega, hp1, fun t2 H2 t20 t21 b2 hp2 => ⟨sz2, fun l2 hl2 => ?_⟩⟩
    have s3 := same_new (o := .lst [.int 3, .int 30]) hl2
    refine ⟨_, rfl, p, 2, rfl, by decide, by decide, hp2.ext s3, fun t3 H3 t30 t31 b3 hp3 => ?_⟩
    obtain ⟨w0, hw, hat2⟩ := at_ints (xs := [3, 30]) t30 t31
    have hw2 : 3 ≤ w0 ∧ w0 ≤ 30 := by
      rcases List.mem_cons.mp hw with e | e
      · omega
      have := List.mem_singleton.mp e
      omega
    refine ⟨l2, _, _, _, rfl, rfl, SqL.of (b3 _ _ (hp2.nn hl2) upd_same), hat2, ?_⟩
    obtain ⟨mn, rfl⟩ := Int.eq_ofNat_of_zero_le t20
    exact ⟨p, mn, w0, rfl, by omega, hw2.1, hw2.2, hp3, RetSk.mono (C := fun _ => True) k ((Bt.of s1).trans (b1.trans (b2.trans ((Bt.of s3).trans b3)))) hp3⟩
def Near (rs : List Row) : Prop := ∀ r ∈ rs, -500 ≤ r.2.2.1 ∧ r.2.2.1 ≤ 499
theorem s_law_near_sketch : FnScope ["_law_purse_here", "_law_zero", "_law_rows", "_law_small", "_law_name", "_law_start", "_law_parts_here"] ["_law_purse_here"] d_law_near_sketch.scope := ⟨rfl, rfl, rfl, by decide +kernel, rfl, by decide +kernel, by decide +kernel⟩
theorem c_law_near_sketch (T : Txt w K mg) : Cal P w K mg base 7 "_law_near_sketch" (fun vs H Q _ => ∃ (p : Addr), vs = [.ref p] ∧ PurseAt H p ∧ RetSk H p Q Near) [] := by
  refine T.cal 104 92 (d := d_law_near_sketch) (S := s_law_near_sketch) (hb := fun _ _ _ _ _ _ us hl => match us, hl with | [_], _ => rfl) (len := fun vs H Q E h => ?_) (hbody := fun cdv A outer s H vs Q E hr h => ?_)
  · obtain ⟨p, rfl, hp, k⟩ := h
    rfl
  · obtain ⟨p, rfl, hp, k⟩ := h
    refine ⟨_, (pss_cons (ps_asg (pe_c (c_law_some_sketch T) hr (by decide) rfl (pa_cons (pv 0) pa_nil)) (pg_lst rfl (pgs_cons (pg_name (i := 1) s_law_near_sketch.nd rfl (Or.inl rfl)) (pgs_cons (pg_name (i := 2) s_law_near_sketch.nd rfl (Or.inl rfl)) pgs_nil))))
      (pss_cons (ps_setLc (i := 3) (own := [("_law_name", 4), ("_law_start", 5), ("_law_parts_here", 6)]) (g := (gTup K 3 (gCons (gName 4) (gCons (gName 5) (gCons (gName 6) gNil))))) rfl s_law_near_sketch.nd rfl rfl (sw_true rfl rfl rfl (by decide +kernel)) (pi_list (pv 2)) (blkOk_by (N := ["_law_purse_here", "_law_zero", "_law_rows", "_law_small", "_law_name", "_law_start", "_law_parts_here"]) (sc := d_law_near_sketch.scope) (own := [("_law_name", 4), ("_law_start", 5), ("_law_parts_here", 6)]) (by decide +kernel)) (fun _ _ _ _ _ => (pg_tup rfl (pgs_cons (pg_name (i := 4) s_law_near_sketch.nd rfl (Or.inl rfl)) (pgs_cons (pg_name (i := 5) s_law_near_sketch.nd rfl (Or.inl rfl)) (pgs_cons (pg_name (i := 6) s_law_near_sketch.nd rfl (Or.inl rfl)) pgs_nil))))) (fun _ _ _ _ _ => pts_nil) (fun _ _ _ _ _ => (pe_tup (pa_cons (pv 4) (pa_cons (pv 5) (pa_cons (pe_op (op_catAK (K := K) rfl) (pe_tup (pa_cons (pe_op op_sub (pe_op op_mod (pe_ix (ix_tupK (K := K) rfl) (pv 6) pe_int (fun _ _ => rfl)) pe_int) pe_int) pa_nil)) (pe_slice (sl_tupAK (K := K) rfl) (pv 6) (po_some pe_int) po_none)) pa_nil))))))
      (pss_one (ps_ret (pe_lst (pa_cons (pv 1) (pa_cons (pv 3) pa_nil))))))), ?_⟩
    refine ⟨_, rfl, p, rfl, hp, fun l z rs H1 hl b1 hp1 hS hO _ => ?_⟩
    obtain ⟨l2, h1, vs, h2, hpv⟩ := hS
    refine ⟨l, _, rfl, SqL.of h1, rfl, _, _, rfl, _, _, rfl, rfl, ?_⟩
    obtain ⟨⟨z1, z2⟩, z3⟩ := p_zip hpv
    have hzl : (vs.zip rs.reverse).length ≤ 100000 := by
      have e : ((vs.zip rs.reverse).map (·.2)).length = rs.reverse.length := by rw [z2]
      rw [List.length_map, List.length_reverse] at e
      have := hO.few
      omega
    with_reducible refine r_seq ?_
    refine r_asg ?_
    refine ⟨_, rfl, l2, rfl, ⟨_, SqL.of h2⟩, fun D hD => ?_⟩
    refine lcE_list (ps := vs.zip rs.reverse) (f := fun _ => true) (El := fun r v H' => LRowAt H' (szR (fun s => s % 1000 - 500) r) v) (fun _ _ _ _ e h => h.kp e) hD (by rw [z1]; exact SqL.of h2) hzl ?_ ?_
    · intro i x r H2 Kt Kf hpr s2 kt kf
      obtain ⟨⟨t, t2, rfl, ht, ht2⟩, hm⟩ := z3 x r (List.mem_of_getElem? hpr)
      have ht := s2 _ _ ht
      have ht2 := s2 _ _ ht2
      refine ⟨t, _, rfl, SqT.of ht, rfl, _, _, rfl, _, _, rfl, _, _, rfl, rfl, rfl, ?_⟩
      refine iteT (B := Kf H2) ?_
      refine ⟨_, rfl, _, rfl, _, rfl, t2, _, _, _, rfl, rfl, SqT.of ht2, atI_nat (j := 0) rfl, _, _, rfl, rfl, (show (0 : Int) < 1000 by decide), _, _, rfl, rfl, sz1, fun q1 hq1 => ?_⟩
      have s3 := same_new (o := .tup [.int (r.2.2.1 % 1000 - 500)]) hq1
      refine ⟨_, rfl, _, rfl, t2, _, rfl, SqT.of (s3 _ _ ht2), (fun h => absurd h (not_tail _ _)), fun _ q2 hq2 => ?_⟩
      rw [cut_tail]
      have s4 := same_new (o := .tup [.int r.2.2.2.1, .int r.2.2.2.2]) hq2
      refine ⟨q1, q2, _, _, rfl, rfl, SqT.of (s4 _ _ upd_same), SqT.of upd_same, sz3, (fun h => by cases h), (fun _ h => by cases h), fun _ _ q3 hq3 => ⟨sz3, fun q4 hq4 => ?_⟩⟩
      have s5 := same_new (o := .tup ([.int (r.2.2.1 % 1000 - 500)] ++ [.int r.2.2.2.1, .int r.2.2.2.2])) hq3
      have s6 := same_new (o := .tup [.str r.1, .str r.2.1, .ref q3]) hq4
      exact kt rfl _ _ (s3.trans (s4.trans (s5.trans s6))) ⟨q4, q3, rfl, upd_same, s6 _ _ upd_same⟩
    · intro H' vs2 s2 hv p2
      rw [z2, filter_all] at p2
      with_reducible refine r_gn ?_
      refine ⟨_, rfl, _, rfl, sz2, fun l3 hl3 => ?_⟩
      have s3 := same_new (o := .lst [.str z, .ref D]) hl3
      refine k l3 z (rs.map (szR fun s => s % 1000 - 500)) _ (b1.free hp1 (s2.free hl3)) (b1.trans (Bt.of (s2.trans s3))) (hp1.ext (s2.trans s3)) ⟨D, upd_same, vs2, s3 _ _ hv, ?_⟩ hO.sz ?_
      · rw [← List.map_reverse]
        exact p_imp (p_szR p2) fun _ _ h => h.kp (Kp.of s3)
      · intro r hr
        obtain ⟨q, hq, rfl⟩ := List.mem_map.mp hr
        show -500 ≤ q.2.2.1 % 1000 - 500 ∧ q.2.2.1 % 1000 - 500 ≤ 499
        have := Int.emod_nonneg q.2.2.1 (by decide : (1000 : Int) ≠ 0)
        have := Int.emod_lt_of_pos q.2.2.1 (by decide : (0 : Int) < 1000)
        omega
end
end Fw
set_option Elab.async false
set_option linter.all false
set_option maxRecDepth 100000
set_option maxHeartbeats 4000000
namespace Fw
open PySem PySem.Spec PyProof.Rows L2
open C8 (Cal CalAt Met Mak pe_c pe_mk pe_mt pe_mt0 pe_gc InsC call_isC)

section
variable {P : Program} {w : World} {K : PySem.W.Frag} {mg : Str → Option Value} {base : Heap}

theorem merge_new : ∀ (kvs acc : List (Key × V)), ((acc ++ kvs).map (·.1)).Nodup → mergeK acc kvs = acc ++ kvs
  | [], acc, _ => (List.append_nil _).symm
  | p :: r, acc, h => by
    have e : valV acc p.1 = none := by
      cases hv : valV acc p.1 with
      | none => rfl
      | some v =>
        exfalso
        obtain ⟨q, hq, hk⟩ : ∃ q ∈ acc, q.1 = p.1 := by
          unfold valV at hv
          cases hf : acc.find? (fun kv => decide (kv.1 = p.1)) with
          | none => rw [hf] at hv; cases hv
          | some q => exact ⟨q, List.mem_of_find?_eq_some hf, of_decide_eq_true (List.find?_some (p := fun kv : Key × V => decide (kv.1 = p.1)) hf)⟩
        rw [List.map_append] at h
        exact (List.nodup_append.mp h).2.2 _ (List.mem_map.mpr ⟨q, hq, rfl⟩) _ (List.mem_map.mpr ⟨p, List.mem_cons_self .., rfl⟩) hk
    show mergeK (putK acc p.1 p.2) r = _
    rw [putK_new _ e, merge_new r (acc ++ [p]) (by rw [List.append_assoc]; exact h), List.append_assoc]
    rfl
theorem dict_val {F : Row → V → Prop} : ∀ {rows : List Row} {kvs : List (Key × V)} {n : Str}, Paired (fun r (kv : Key × V) => kv.1 = .inr r.1 ∧ F r kv.2) rows kvs → (rnm rows).Nodup →
    (n ∉ rnm rows → valV kvs (.inr n) = none) ∧ ∀ r ∈ rows, r.1 = n → ∃ v, valV kvs (.inr n) = some v ∧ F r v
  | [], [], _, _, _ => ⟨fun _ => rfl, fun _ h => by cases h⟩
  | r :: rows, kv :: kvs, n, .cons h t, hn => by
    have hn : r.1 ∉ rnm rows ∧ (rnm rows).Nodup := List.nodup_cons.mp hn
    obtain ⟨i1, i2⟩ := dict_val (n := n) t hn.2
    by_cases e : r.1 = n
    · have ek : kv.1 = (.inr n : Key) := by rw [h.1, e]
      refine ⟨fun hm => absurd (by rw [← e]; exact List.mem_cons_self ..) hm, fun r' hr' e' => ?_⟩
      rw [valV_pos ek]
      rcases List.mem_cons.mp hr' with q | q
      · rw [q]; exact ⟨_, rfl, h.2⟩
      · exact absurd (List.mem_map.mpr ⟨r', q, e'.trans e.symm⟩) hn.1
    · have ek : ¬ kv.1 = (.inr n : Key) := fun z => e (by rw [h.1] at z; injection z)
      rw [valV_neg ek]
      refine ⟨fun hm => i1 fun q => hm (List.mem_cons_of_mem _ q), fun r' hr' e' => ?_⟩
      rcases List.mem_cons.mp hr' with q | q
      · rw [q] at e'; exact absurd e' e
      · exact i2 r' q e'
def PairEl (F : Row → V → Prop) (H : Hp) (r : Row) (v : V) : Prop := ∃ q x, v = .ref q ∧ H q = some (.tup [.str r.1, x]) ∧ F r x
theorem pairs_of {F : Row → V → Prop} {H : Hp} {rows : List Row} {vs : List V} (h : Paired (PairEl F H) rows vs) : ∃ (ps : List Addr) (kvs : List (Key × V)), vs = ps.map V.ref ∧ Paired (fun p (kv : Key × V) => SqT K H p [kV kv.1, kv.2]) ps kvs ∧ Paired (fun r (kv : Key × V) => kv.1 = .inr r.1 ∧ F r kv.2) rows kvs := by
  induction h with
  | nil => exact ⟨[], [], rfl, .nil, .nil⟩
  | @cons r v rows vs h t ih =>
    obtain ⟨ps, kvs, rfl, a, b⟩ := ih
    obtain ⟨q, x, rfl, hq, hF⟩ := h
    exact ⟨q :: ps, (.inr r.1, x) :: kvs, rfl, .cons (SqT.of hq) a, .cons ⟨rfl, hF⟩ b⟩
theorem keys_of {F : Row → V → Prop} {rows : List Row} {kvs : List (Key × V)} (h : Paired (fun r (kv : Key × V) => kv.1 = .inr r.1 ∧ F r kv.2) rows kvs) : kvs.map (·.1) = (rnm rows).map Sum.inr := by
  induction h with
  | nil => rfl
  | cons h t ih => rw [List.map_cons, ih, h.1]; rfl
theorem rev_nodup {z : Str} {rs : List Row} (g : Good z rs) : (rnm rs.reverse).Nodup := by
  rw [rnm_rev]
  exact (List.reverse_perm _).nodup_iff.mpr (List.nodup_cons.mp g.nodup).2
/-- a dict of the rows' names -/
def DictOf (F : Row → V → Prop) (H : Hp) (d : Addr) (rs : List Row) : Prop := ∃ kvs, H d = some (.dK kvs) ∧ (∀ n, n ∉ rnm rs → valV kvs (.inr n) = none) ∧ ∀ n s p, look rs n = some (s, p) → ∃ v, valV kvs (.inr n) = some v ∧ F (n, s, p) v
theorem DictOf.ext {F : Row → V → Prop} {H H' : Hp} {d : Addr} {rs : List Row} (h : DictOf F H d rs) (e : Same H H') : DictOf F H' d rs := by
  obtain ⟨kvs, a, b⟩ := h
  exact ⟨kvs, e _ _ a, b⟩
theorem mk_dict {F : Row → V → Prop} {H : Hp} {z : Str} {rs : List Row} {vs : List V} (g : Good z rs) (h : Paired (PairEl F H) rs.reverse vs) : ∃ (ps : List Addr) (kvs : List (Key × V)), vs = ps.map V.ref ∧ Paired (fun p (kv : Key × V) => SqT K H p [kV kv.1, kv.2]) ps kvs ∧ mergeK [] kvs = kvs ∧ ∀ (H' : Hp) d, H' d = some (.dK kvs) → DictOf F H' d rs := by
  obtain ⟨ps, kvs, e1, e2, e3⟩ := pairs_of (K := K) h
  have hn := rev_nodup g
  refine ⟨ps, kvs, e1, e2, ?_, fun H' d hd => ⟨kvs, hd, fun n hm => ?_, fun n s p hl => ?_⟩⟩
  · refine merge_new kvs [] ?_
    show (kvs.map (·.1)).Nodup
    rw [keys_of e3]
    refine List.pairwise_map.mpr ?_
    exact List.Pairwise.imp (fun h e => h (by injection e)) hn
  · exact (dict_val e3 hn).1 (by rw [rnm_rev, List.mem_reverse]; exact hm)
  · exact (dict_val e3 hn).2 (n, s, p) (List.mem_reverse.mpr (look_mem hl)) rfl
theorem s_law_way_up : FnScope ["_law_rows", "_law_name", "_law_up", "_law_found", "_law_row"] ["_law_rows", "_law_name"] d_law_way_up.scope := ⟨rfl, rfl, rfl, by decide +kernel, rfl, by decide +kernel, by decide +kernel⟩
theorem c_law_way_up (T : Txt w K mg) : Cal P w K mg base 1 "_law_way_up" (fun vs H Q _ => ∃ (l : Addr) (z n : Str) (rs : List Row), vs = [.ref l, .str n] ∧ RowsL H l rs.reverse ∧ Good z rs ∧ rs.length ≤ 100 ∧ n ∈ z :: rnm rs ∧ RetL H Q ((upR rs n).map V.str)) [] := by
  refine T.cal 88 76 (d := d_law_way_up) (S := s_law_way_up) (hb := fun _ _ _ _ _ _ us hl => match us, hl with | [_, _], _ => rfl) (len := fun vs H Q E h => ?_) (hbody := fun cdv A outer s H vs Q E hr h => ?_)
  · obtain ⟨l, z, n, rs, rfl, ⟨vs, hl, hpv⟩, good, hfew, hn, k⟩ := h
    rfl
  · obtain ⟨l, z, n, rs, rfl, ⟨vs, hl, hpv⟩, good, hfew, hn, k⟩ := h
    have hu := hu_of hr
    refine ⟨_, (pss_cons (ps_set (i := 2) s_law_way_up.nd rfl (Or.inl rfl) (pe_callTy (T := "dict") (call_dictP rfl) (by rfl) (T.f 99) (by decide +kernel) (pa_cons (pe_lc (own := [("_law_row", 4)]) (g := (gName 4)) rfl s_law_way_up.nd (pi_list (pv 0)) (blkOk_by (N := ["_law_rows", "_law_name", "_law_up", "_law_found", "_law_row"]) (sc := d_law_way_up.scope) (own := [("_law_row", 4)]) (by decide +kernel)) (fun _ _ _ _ _ => (pg_name (i := 4) s_law_way_up.nd rfl (Or.inl rfl))) (fun _ _ _ _ _ => pts_nil) (fun _ _ _ _ _ => (pe_tup (pa_cons (pe_ix (ix_tupK (K := K) rfl) (pv 4) pe_int (fun _ _ => rfl)) (pa_cons (pe_ix (ix_tupK (K := K) rfl) (pv 4) pe_int (fun _ _ => rfl)) pa_nil))))) pa_nil)))
      (pss_cons (ps_set (i := 3) s_law_way_up.nd rfl (Or.inl rfl) (pe_lst (pa_cons (pv 1) pa_nil)))
      (pss_cons (ps_while PassesOwn.never (pt_cmp (pc_din hu (pe_ix (ix_listK (K := K) rfl) (pv 3) (pe_un un_neg pe_int) (fun _ _ => rfl)) (pv 2)))
      (pss_one (ps_expr (pe_bm PySem.F.plainAttrs_list PySem.F.slot_list_append PySem.F.type_list_append mt_append (pv 3) (pa_cons (pe_dget hu (pv 2) (pe_ix (ix_listK (K := K) rfl) (pv 3) (pe_un un_neg pe_int) (fun _ _ => rfl)) (fun _ _ => rfl)) pa_nil)))))
      (pss_one (ps_ret (pv 3)))))), ?_⟩
    with_reducible refine r_seq ?_
    refine r_asg ?_
    refine r_cb ?_
    refine r_cons ?_
    refine tlc_ps (F := LRowAt H) (f := fun _ => true) (El := fun r v H' => PairEl (fun r x => x = .str r.2.1) H' r v) (fun _ _ _ _ e h => by
      obtain ⟨q, x, h1, h2, h3⟩ := h
      exact ⟨q, x, h1, e _ _ trivial h2, h3⟩) hpv (j := 4) ?_ ?_ ?_ ?_ fun D H1 vs1 hD s1 h1 p1 => ?_
    · show 4 < 5
      decide
    · rw [List.length_reverse]
      omega
    · exact fun Q q => ⟨_, rfl, q l _ (Same.refl _) (SqL.of hl)⟩
    · intro x r σ2 H8 Kt Kf hF hk s8 e1 e2 kt kf
      obtain ⟨t, t2, rfl, ht, _⟩ := hF
      have ht := s8 _ _ ht
      refine iteT (B := Kf H8) ?_
      exact ⟨_, e2, t, _, _, _, rfl, rfl, SqT.of ht, atI_nat (j := 0) rfl, _, e2, t, _, _, _, rfl, rfl, SqT.of ht, atI_nat (j := 1) rfl, sz2, fun q hq => kt rfl _ _ (same_new hq) ⟨q, _, rfl, upd_same, rfl⟩⟩
    · rw [filter_all] at p1
      obtain ⟨ps, kvs, rfl, e2, e3, e4⟩ := mk_dict (K := K) good p1
      refine ⟨D, ps, kvs, rfl, SqL.of h1, e2, fun d hd => ?_⟩
      rw [e3]
      have s2 := same_new (o := .dK kvs) hd
      have hDi := e4 (upd H1 d (.dK kvs)) d upd_same
      have sA := s1.trans s2
      generalize upd H1 d (.dK kvs) = H2 at hDi sA ⊢
      refine ⟨_, rfl, sz1, fun f hf => ?_⟩
      refine ⟨fun m σ' H' => ∃ pre last, σ' = [some (.ref l), some (.str n), some (.ref d), some (.ref f), none] ∧ H' = upd H2 f (.lst ((pre ++ [last]).map V.str)) ∧ last ∈ z :: rnm rs ∧ upR rs n = pre ++ upR rs last ∧ (upR rs last).length ≤ m, ⟨_, [], n, rfl, rfl, hn, rfl, Nat.le_refl _⟩, ?_⟩
      rintro m σ' H' ⟨pre, last, rfl, rfl, hm, hu, hlen⟩
      have em : (pre ++ [last]).map V.str = pre.map V.str ++ [.str last] := List.map_append
      obtain ⟨kvs2, hd2, hv0, hv⟩ := hDi.ext (same_new (o := .lst ((pre ++ [last]).map V.str)) hf)
      refine ⟨_, rfl, _, rfl, f, _, _, _, rfl, rfl, SqL.of upd_same, by rw [em]; exact atI_last _ _, ?_⟩
      refine ⟨_, rfl, d, _, rfl, DGet.k (k := .inr last) hd2, _, rfl, ?_⟩
      by_cases hr : last ∈ rnm rs
      · obtain ⟨st, p, hl1, hl2, hl3, _⟩ := look_some good hr
        obtain ⟨v, hv, hvx⟩ := hv last st p hl1
        have hvx : v = .str st := hvx
        subst hvx
        rw [hv]
        refine iteT ?_
        cases m with
        | zero => rw [hl3] at hlen; cases hlen
        | succ m =>
          refine ⟨_, fun σ' H' h' => ⟨m, Nat.lt_succ_self m, h'⟩, ?_⟩
          refine ⟨_, rfl, Or.inl ⟨rfl, _, SqL.of upd_same⟩, _, rfl, _, rfl, _, rfl, f, _, _, _, rfl, rfl, SqL.of upd_same, by rw [em]; exact atI_last _ _, d, _, rfl, dget_of (k := .inr last) hd2 hv, ?_⟩
          refine ⟨f, _, _, rfl, rfl, upd_same, ?_, ?_⟩
          · rw [List.length_map, List.length_append]
            have h4 := up_len rs n
            rw [hu, List.length_append, hl3, List.length_cons] at h4
            exact Nat.lt_of_le_of_lt (by show pre.length + 1 ≤ 200; omega) (by decide)
          · refine ⟨pre ++ [last], st, rfl, ?_, hl2, ?_, ?_⟩
            · rw [upd_upd, List.map_append (l₁ := pre ++ [last])]
              rfl
            · rw [hu, hl3, List.append_assoc]
              rfl
            · rw [hl3, List.length_cons] at hlen
              omega
      · rw [hv0 last hr]
        refine iteF ?_
        have s3 := same_new (o := .lst ((pre ++ [last]).map V.str)) hf
        refine ⟨_, rfl, k f _ (sA.free hf) (sA.trans s3) ?_⟩
        rw [upd_same, hu, up_none hr]
theorem s_law_turned : FnScope ["_law_parts_here"] ["_law_parts_here"] d_law_turned.scope := ⟨rfl, rfl, rfl, by decide +kernel, rfl, by decide +kernel, by decide +kernel⟩
theorem c_law_turned (T : Txt w K mg) : Cal P w K mg base 1 "_law_turned" (fun vs H Q _ => ∃ (t : Addr) (pr : Par), vs = [.ref t] ∧ H t = some (.tup [.int pr.1, .int pr.2.1, .int pr.2.2]) ∧ RetT H Q [.int (turnP pr).1, .int (turnP pr).2.1, .int (turnP pr).2.2]) [] := by
  refine T.cal 95 83 (d := d_law_turned) (S := s_law_turned) (hb := fun _ _ _ _ _ _ us hl => match us, hl with | [_], _ => rfl) (len := fun vs H Q E h => ?_) (hbody := fun cdv A outer s H vs Q E hr h => ?_)
  · obtain ⟨t, pr, rfl, ht, k⟩ := h
    rfl
  · obtain ⟨t, pr, rfl, ht, k⟩ := h
    refine ⟨_, (pss_one (ps_ret (pe_tup (pa_cons (pe_op op_sub pe_int (pe_ix (ix_tupK (K := K) rfl) (pv 0) pe_int (fun _ _ => rfl))) (pa_cons (pe_ix (ix_tupK (K := K) rfl) (pv 0) pe_int (fun _ _ => rfl)) (pa_cons (pe_ix (ix_tupK (K := K) rfl) (pv 0) pe_int (fun _ _ => rfl)) pa_nil)))))), ?_⟩
    refine ⟨_, rfl, t, _, _, _, rfl, rfl, SqT.of ht, atI_nat (j := 0) rfl, _, _, rfl, rfl, _, rfl, t, _, _, _, rfl, rfl, SqT.of ht, atI_nat (j := 2) rfl, _, rfl, t, _, _, _, rfl, rfl, SqT.of ht, atI_nat (j := 1) rfl, sz3, fun q hq => ?_⟩
    exact k q _ hq (same_new hq) upd_same
theorem s_law_ends : FnScope ["_law_parts_here"] ["_law_parts_here"] d_law_ends.scope := ⟨rfl, rfl, rfl, by decide +kernel, rfl, by decide +kernel, by decide +kernel⟩
theorem c_law_ends (T : Txt w K mg) : Cal P w K mg base 1 "_law_ends" (fun vs H Q _ => ∃ (t : Addr) (pr : Par), vs = [.ref t] ∧ H t = some (.tup [.int pr.1, .int pr.2.1, .int pr.2.2]) ∧ RetT H Q [.int (pr.1 - pr.2.2), .int (pr.1 + pr.2.1)]) [] := by
  refine T.cal 82 70 (d := d_law_ends) (S := s_law_ends) (hb := fun _ _ _ _ _ _ us hl => match us, hl with | [_], _ => rfl) (len := fun vs H Q E h => ?_) (hbody := fun cdv A outer s H vs Q E hr h => ?_)
  · obtain ⟨t, pr, rfl, ht, k⟩ := h
    rfl
  · obtain ⟨t, pr, rfl, ht, k⟩ := h
    refine ⟨_, (pss_one (ps_ret (pe_tup (pa_cons (pe_op op_sub (pe_ix (ix_tupK (K := K) rfl) (pv 0) pe_int (fun _ _ => rfl)) (pe_ix (ix_tupK (K := K) rfl) (pv 0) pe_int (fun _ _ => rfl))) (pa_cons (pe_op op_add (pe_ix (ix_tupK (K := K) rfl) (pv 0) pe_int (fun _ _ => rfl)) (pe_ix (ix_tupK (K := K) rfl) (pv 0) pe_int (fun _ _ => rfl))) pa_nil))))), ?_⟩
    refine ⟨_, rfl, t, _, _, _, rfl, rfl, SqT.of ht, atI_nat (j := 0) rfl, _, rfl, t, _, _, _, rfl, rfl, SqT.of ht, atI_nat (j := 2) rfl, _, _, rfl, rfl, _, rfl, t, _, _, _, rfl, rfl, SqT.of ht, atI_nat (j := 0) rfl, _, rfl, t, _, _, _, rfl, rfl, SqT.of ht, atI_nat (j := 1) rfl, _, _, rfl, rfl, sz2, fun q hq => ?_⟩
    exact k q _ hq (same_new hq) upd_same
theorem p_str1 {ks : List Str} {vs : List V} (h : Paired (fun (r : Str) v => v = V.str r) ks vs) : vs = ks.map V.str := by
  induction h with
  | nil => rfl
  | cons h t ih => rw [h, ih]; rfl
theorem s_law_road : FnScope ["_law_rows", "_law_one", "_law_other", "_law_ahead", "_law_behind", "_law_there", "_law_back", "_law_name"] ["_law_rows", "_law_one", "_law_other"] d_law_road.scope := ⟨rfl, rfl, rfl, by decide +kernel, rfl, by decide +kernel, by decide +kernel⟩
theorem c_law_road (T : Txt w K mg) : Cal P w K mg base 2 "_law_road" (fun vs H Q _ => ∃ (l : Addr) (z one other : Str) (rs : List Row), vs = [.ref l, .str one, .str other] ∧ RowsL H l rs.reverse ∧ Good z rs ∧ rs.length ≤ 100 ∧ one ∈ z :: rnm rs ∧ other ∈ z :: rnm rs ∧ ∀ p vs H', H p = none → Same H H' → H' p = some (.lst vs) → Paired (StepAt H') (roadP rs one other) vs → Q (.ref p) H') [] := by
  refine T.cal 89 77 (d := d_law_road) (S := s_law_road) (hb := fun _ _ _ _ _ _ us hl => match us, hl with | [_, _, _], _ => rfl) (len := fun vs H Q E h => ?_) (hbody := fun cdv A outer s H vs Q E hr h => ?_)
  · obtain ⟨l, z, one, other, rs, rfl, hR, good, hfew, m1, m2, k⟩ := h
    rfl
  · obtain ⟨l, z, one, other, rs, rfl, hR, good, hfew, m1, m2, k⟩ := h
    refine ⟨_, (pss_cons (ps_asg (pe_tup (pa_cons (pe_c (c_law_way_up T) hr (by decide) rfl (pa_cons (pv 0) (pa_cons (pv 1) pa_nil))) (pa_cons (pe_c (c_law_way_up T) hr (by decide) rfl (pa_cons (pv 0) (pa_cons (pv 2) pa_nil))) pa_nil))) (pg_tup rfl (pgs_cons (pg_name (i := 3) s_law_road.nd rfl (Or.inr rfl)) (pgs_cons (pg_name (i := 4) s_law_road.nd rfl (Or.inr rfl)) pgs_nil))))
      (pss_cons (ps_setLc (i := 5) (own := [("_law_name", 7)]) (g := (gName 7)) rfl s_law_road.nd rfl rfl (sw_true rfl rfl rfl (by decide +kernel)) (pi_list (pv 4)) (blkOk_by (N := ["_law_rows", "_law_one", "_law_other", "_law_ahead", "_law_behind", "_law_there", "_law_back", "_law_name"]) (sc := d_law_road.scope) (own := [("_law_name", 7)]) (by decide +kernel)) (fun _ _ _ _ _ => (pg_name (i := 7) s_law_road.nd rfl (Or.inl rfl))) (fun _ _ _ _ _ => pts_one (pt_cmpR (op_notIn_seqK (K := K) rfl) (pv 7) (pv 3) (by rfl))) (fun _ _ _ _ _ => (pv 7)))
      (pss_cons (ps_setLc (i := 6) (own := [("_law_name", 7)]) (g := (gName 7)) rfl s_law_road.nd rfl rfl (sw_true rfl rfl rfl (by decide +kernel)) (pi_list (pv 3)) (blkOk_by (N := ["_law_rows", "_law_one", "_law_other", "_law_ahead", "_law_behind", "_law_there", "_law_back", "_law_name"]) (sc := d_law_road.scope) (own := [("_law_name", 7)]) (by decide +kernel)) (fun _ _ _ _ _ => (pg_name (i := 7) s_law_road.nd rfl (Or.inl rfl))) (fun _ _ _ _ _ => pts_one (pt_cmpR (op_notIn_seqK (K := K) rfl) (pv 7) (pv 4) (by rfl))) (fun _ _ _ _ _ => (pv 7)))
      (pss_one (ps_ret (pe_op op_cat (pe_lc (own := [("_law_name", 7)]) (g := (gName 7)) rfl s_law_road.nd (pi_list (pv 6)) (blkOk_by (N := ["_law_rows", "_law_one", "_law_other", "_law_ahead", "_law_behind", "_law_there", "_law_back", "_law_name"]) (sc := d_law_road.scope) (own := [("_law_name", 7)]) (by decide +kernel)) (fun _ _ _ _ _ => (pg_name (i := 7) s_law_road.nd rfl (Or.inl rfl))) (fun _ _ _ _ _ => pts_nil) (fun _ _ _ _ _ => (pe_tup (pa_cons (pv 7) (pa_cons pe_bl pa_nil))))) (pe_lc (own := [("_law_name", 7)]) (g := (gName 7)) rfl s_law_road.nd (pi_list (pe_revL (pv 5))) (blkOk_by (N := ["_law_rows", "_law_one", "_law_other", "_law_ahead", "_law_behind", "_law_there", "_law_back", "_law_name"]) (sc := d_law_road.scope) (own := [("_law_name", 7)]) (by decide +kernel)) (fun _ _ _ _ _ => (pg_name (i := 7) s_law_road.nd rfl (Or.inl rfl))) (fun _ _ _ _ _ => pts_nil) (fun _ _ _ _ _ => (pe_tup (pa_cons (pv 7) (pa_cons pe_bl pa_nil))))))))))), ?_⟩
    have u1 := up_len rs one
    have u2 := up_len rs other
    refine ⟨_, rfl, _, rfl, l, z, one, rs, rfl, hR, good, hfew, m1, fun l1 H1 hl1 s1 g1 => ?_⟩
    refine ⟨_, rfl, _, rfl, l, z, other, rs, rfl, hR.ext s1, good, hfew, m2, fun l2 H2 hl2 s2 g2 => ⟨sz2, fun t ht => ?_⟩⟩
    refine ⟨t, _, rfl, SqT.of upd_same, rfl, _, _, rfl, _, _, rfl, rfl, ?_⟩
    have s3 := same_new (o := .tup [.ref l1, .ref l2]) ht
    have g1 := s3 _ _ (s2 _ _ g1)
    have g2 := s3 _ _ g2
    have s0 := s1.trans (s2.trans s3)
    generalize upd H2 t (.tup [.ref l1, .ref l2]) = H3 at *
    with_reducible refine r_seq ?_
    refine r_asg (tlc_strs (K := K) (j := 7) (ks := upR rs other) (f := fun n => decide (n ∉ upR rs one)) (El := fun n v H => v = .str n) (fun _ _ _ _ e h => h) (by show 7 < 8; decide) (by omega) ?_ ?_ fun D H4 vs hD4 s4 h4 p4 => ?_)
    · exact fun Q q => ⟨_, rfl, q l2 _ (Same.refl _) (SqL.of g2)⟩
    · intro k σ2 H5 Kt Kf hk s5 e1 e2 kt kf
      refine ⟨_, e2, _, (e1 3 (by decide)).trans rfl, l1, _, rfl, Or.inl (SqL.of (s5 _ _ g1)), rfl, flat_strs _, _, rfl, ?_⟩
      rw [inV_strs]
      by_cases hm : k ∈ upR rs one
      · rw [decide_eq_true hm]
        exact kf (decide_eq_false fun z => z hm) _ (Same.refl _)
      · rw [decide_eq_false hm]
        exact ⟨_, e2, kt (decide_eq_true hm) _ _ (Same.refl _) rfl⟩
    with_reducible refine r_gn ?_
    with_reducible refine r_seq ?_
    refine r_asg (tlc_strs (K := K) (j := 7) (ks := upR rs one) (f := fun n => decide (n ∉ upR rs other)) (El := fun n v H => v = .str n) (fun _ _ _ _ e h => h) (by show 7 < 8; decide) (by omega) ?_ ?_ fun D2 H5 vs2 hD5 s5 h5 p5 => ?_)
    · exact fun Q q => ⟨_, rfl, q l1 _ (Same.refl _) (SqL.of (s4 _ _ g1))⟩
    · intro k σ2 H6 Kt Kf hk s6 e1 e2 kt kf
      refine ⟨_, e2, _, (e1 4 (by decide)).trans rfl, l2, _, rfl, Or.inl (SqL.of (s6 _ _ (s4 _ _ g2))), rfl, flat_strs _, _, rfl, ?_⟩
      rw [inV_strs]
      by_cases hm : k ∈ upR rs other
      · rw [decide_eq_true hm]
        exact kf (decide_eq_false fun z => z hm) _ (Same.refl _)
      · rw [decide_eq_false hm]
        exact ⟨_, e2, kt (decide_eq_true hm) _ _ (Same.refl _) rfl⟩
    have ev : vs = (leftP rs other one).map V.str := p_str1 p4
    have ev2 : vs2 = (leftP rs one other).map V.str := p_str1 p5
    subst ev ev2
    have c1 := List.length_filter_le (fun n => decide (n ∉ upR rs other)) (upR rs one)
    have c2 := List.length_filter_le (fun n => decide (n ∉ upR rs one)) (upR rs other)
    have h4 := s5 _ _ h4
    with_reducible refine r_gn ?_
    unfold tRet tOp
    dsimp only
    refine tlc_strs (K := K) (j := 7) (ks := leftP rs one other) (f := fun _ => true) (El := fun n v H => StepAt H (n, true) v) (fun _ _ _ _ e h => h.kp e) ?_ ?_ ?_ ?_ fun D6 H6 vs6 hD6 s6 h6 p6 => ?_
    · show 7 < 8
      decide
    · show ((upR rs one).filter _).length ≤ _
      omega
    · exact fun Q q => ⟨_, rfl, q D2 _ (Same.refl _) (SqL.of h5)⟩
    · intro k σ2 H7 Kt Kf hk s7 e1 e2 kt kf
      refine iteT (B := Kf H7) ?_
      exact ⟨_, e2, sz2, fun q hq => kt rfl _ _ (same_new hq) ⟨q, rfl, upd_same⟩⟩
    rw [filter_all] at p6
    refine tlc_strs (K := K) (j := 7) (ks := (leftP rs other one).reverse) (f := fun _ => true) (El := fun n v H => StepAt H (n, false) v) (fun _ _ _ _ e h => h.kp e) ?_ ?_ ?_ ?_ fun D7 H7 vs7 hD7 s7 h7 p7 => ?_
    · show 7 < 8
      decide
    · rw [List.length_reverse]
      show ((upR rs other).filter _).length ≤ _
      omega
    · intro Q q
      refine ⟨_, rfl, D, _, rfl, SqL.of (s6 _ _ h4), fun r hr => q r _ (same_new hr) (SqL.of ?_)⟩
      rw [upd_same, List.map_reverse]
    · intro k σ2 H8 Kt Kf hk s8 e1 e2 kt kf
      refine iteT (B := Kf H8) ?_
      exact ⟨_, e2, sz2, fun q hq => kt rfl _ _ (same_new hq) ⟨q, rfl, upd_same⟩⟩
    rw [filter_all] at p7
    have d6 := Paired.len p6
    have d7 := Paired.len p7
    rw [List.length_reverse] at d7
    have d6 : ((upR rs one).filter fun n => decide (n ∉ upR rs other)).length = vs6.length := d6
    have d7 : ((upR rs other).filter fun n => decide (n ∉ upR rs one)).length = vs7.length := d7
    refine ⟨D6, D7, _, _, rfl, rfl, s7 _ _ h6, h7, len_sl (by omega), fun t2 ht2 => ?_⟩
    have st := same_new (o := .lst (vs6 ++ vs7)) ht2
    have sE := s0.trans (s4.trans (s5.trans (s6.trans s7)))
    refine k t2 _ _ (sE.free ht2) (sE.trans st) upd_same ?_
    refine p_app (p_map _ (p_imp p6 fun _ _ h => h.kp (Kp.of (s7.trans st)))) ?_
    rw [← List.map_reverse]
    exact p_map (F := StepAt (upd H7 t2 (.lst (vs6 ++ vs7)))) (fun n => (n, false)) (p_imp p7 fun _ _ h => h.kp (Kp.of st))
end
end Fw
set_option Elab.async false
set_option linter.all false
set_option maxRecDepth 100000
set_option maxHeartbeats 4000000
namespace Fw
open PySem PySem.Spec PyProof.Rows L2
open C8 (Cal CalAt Met Mak pe_c pe_mk pe_mt pe_mt0 pe_gc InsC call_isC)

section
variable {P : Program} {w : World} {K : PySem.W.Frag} {mg : Str → Option Value} {base : Heap}

theorem tSeq_asg_cb {te : TG} {r : List V → Hp → VK → Prop} {ta : TE} {tr : TA} {u : TS} {D : Ends} {σ : L2.St} {H : Hp} (h : ta σ H fun x H1 => tr σ H1 fun xs H2 => r (x :: xs) H2 fun v H3 => te v σ H3 (u D)) : tSeq (tAsg (tCB r (tCons ta tr)) te) u D σ H := h
def PartF (H : Hp) (r : Row) (x : V) : Prop := ∃ t2, x = .ref t2 ∧ H t2 = some (.tup [.int r.2.2.1, .int r.2.2.2.1, .int r.2.2.2.2])
theorem PairEl.kp {F : Row → V → Prop} {H H' : Hp} {r : Row} {v : V} (h : PairEl F H r v) (e : Kp H H') : PairEl F H' r v := by
  obtain ⟨q, x, h1, h2, h3⟩ := h
  exact ⟨q, x, h1, e _ _ trivial h2, h3⟩
theorem p_of_at {α β : Type} {F : α → β → Prop} : ∀ {l1 : List α} {l2 : List β}, l1.length = l2.length → (∀ (i : Nat) a b, l1[i]? = some a → l2[i]? = some b → F a b) → Paired F l1 l2
  | [], [], _, _ => .nil
  | a :: l1, b :: l2, hl, h => .cons (h 0 a b rfl rfl) (p_of_at (by simpa using hl) fun i a b h1 h2 => h (i + 1) a b h1 h2)
  | [], _ :: _, hl, _ => by cases hl
  | _ :: _, [], hl, _ => by cases hl
def spSpanInitB (K : PySem.W.Frag) : Sp := fun vs H Q _ => ∃ x dx s a b, vs = [.ref x, .int s, .int a, .int b] ∧ 0 ≤ a + b ∧ H x = some (.ins (He.ga K "Span") dx []) ∧ ∀ H', H' = upd H x (.ins (He.ga K "Span") dx (spF s a b)) → Q .non H'
theorem m_Span3B (T : Txt w K mg) : Mak P w K mg base 3 "Span" (He.ga K "Span") (spSpanInitB K) [] := by
  obtain ⟨f, fd, ps, ds, a1, G, a2, b, d⟩ := (m_Span3 (P := P) (base := base) T).ex
  refine ⟨f, fd, ps, ds, a1, G.imp ?_, a2, b, d⟩
  rintro vs H Q E ⟨x, dx, s, a, b, rfl, h1, h2, k⟩
  exact ⟨x, dx, s, a, b, rfl, h1, h2, k _ rfl⟩
/-- the new span's heap -/
theorem newSp {K : PySem.W.Frag} {H HN : Hp} {x dx : Addr} {s a b : Int} (hx : H x = none) (hd : H dx = none) (hN : HN = upd (upd (upd H dx (.own x)) x (.ins (He.ga K "Span") dx [])) x (.ins (He.ga K "Span") dx (spF s a b))) : Same H HN ∧ SpanAt K HN x s a b := by
  rw [upd_upd] at hN
  subst hN
  exact ⟨same_mut (same_new hd) hx, dx, upd_same⟩
theorem s_law_made : FnScope ["_law_sketch_here", "_law_drawing", "_law_name", "_law_start", "_law_parts_here"] ["_law_sketch_here"] d_law_made.scope := ⟨rfl, rfl, rfl, by decide +kernel, rfl, by decide +kernel, by decide +kernel⟩
theorem c_law_made (T : Txt w K mg) : Cal P w K mg base 5 "_law_made" (fun vs H Q _ => ∃ (l : Addr) (z : Str) (rs : List Row), vs = [.ref l] ∧ SkAt H l z rs ∧ Good z rs ∧ rs.length ≤ 100 ∧ RetDR K H z rs Q) [] := by
  refine T.cal 91 79 (d := d_law_made) (S := s_law_made) (hb := fun _ _ _ _ _ _ us hl => match us, hl with | [_], _ => rfl) (len := fun vs H Q E h => ?_) (hbody := fun cdv A outer s H vs Q E hr h => ?_)
  · obtain ⟨l, z, rs, rfl, ⟨l2, hl, vs, hl2, hpv⟩, good, hfew, k⟩ := h
    rfl
  · obtain ⟨l, z, rs, rfl, ⟨l2, hl, vs, hl2, hpv⟩, good, hfew, k⟩ := h
    refine ⟨_, (pss_cons (ps_set (i := 1) s_law_made.nd rfl (Or.inl rfl) (pe_mk (m_Drawing1 T) hr (by decide) rfl (pa_cons (pe_ix (ix_listK (K := K) rfl) (pv 0) pe_int (fun _ _ => rfl)) pa_nil)))
      (pss_cons (ps_for PassesOwn.never rfl (pi_list (pe_ix (ix_listK (K := K) rfl) (pv 0) pe_int (fun _ _ => rfl))) (pg_tup rfl (pgs_cons (pg_name (i := 2) s_law_made.nd rfl (Or.inl rfl)) (pgs_cons (pg_name (i := 3) s_law_made.nd rfl (Or.inl rfl)) (pgs_cons (pg_name (i := 4) s_law_made.nd rfl (Or.inl rfl)) pgs_nil))))
      (pss_one (ps_expr (pe_mt (c_Drawing_mark T) hr (by decide) (pv 1) (pa_cons (pv 2) (pa_cons (pe_mk (m_Span3B T) hr (by decide) rfl (pa_cons (pe_ix (ix_tupK (K := K) rfl) (pv 4) pe_int (fun _ _ => rfl)) (pa_cons (pe_ix (ix_tupK (K := K) rfl) (pv 4) pe_int (fun _ _ => rfl)) (pa_cons (pe_ix (ix_tupK (K := K) rfl) (pv 4) pe_int (fun _ _ => rfl)) pa_nil)))) (pa_cons (pv 3) pa_nil)))))))
      (pss_one (ps_ret (pv 1))))), ?_⟩
    refine ⟨_, rfl, l, _, _, _, rfl, rfl, SqL.of hl, atI_nat (j := 0) rfl, ?_⟩
    intro x0 dx0 hx0 hdx0 hne0
    refine mkD (Q := fun v H1 => gName 1 v _ H1 _) good.zero (fun f df H1 hf hdf s1 hF => ?_) x0 dx0 hx0 hdx0 hne0
    have hF : DrawAt K H1 f df z [] := hF
    have hl2d : l2 ≠ df := fun e => by rw [e, hdf] at hl2; cases hl2
    refine ⟨_, rfl, l, _, _, _, rfl, rfl, SqL.of (s1 _ _ hl), atI_nat (j := 1) rfl, l2, rfl, ⟨_, SqL.of (s1 _ _ hl2)⟩, for_list (K := K) (xs := vs) (fun i σ' H' => ∃ o2 o3 o4, σ' = [some (.ref l), some (.ref f), o2, o3, o4] ∧ Bt df H1 H' ∧ DrawAt K H' f df z (rs.drop (rs.length - i))) ?_ ?_ ?_ ?_⟩
    · refine ⟨none, none, none, rfl, fun _ _ _ h => h, ?_⟩
      rw [Nat.sub_zero, List.drop_length]
      exact hF
    · rintro i σ' H' _ ⟨_, _, _, _, b, _⟩
      exact SqL.of (b _ _ hl2d (s1 _ _ hl2))
    · rintro i x σ' H' hx ⟨o2, o3, o4, rfl, b, hFi⟩
      obtain ⟨r, hr1, t, t2, rfl, ht, ht2⟩ := p_get hpv hx
      obtain ⟨n, st, pr⟩ := r
      have hil : i < rs.length := by
        have := (List.getElem?_eq_some_iff.mp hr1).1
        rwa [List.length_reverse] at this
      have ed : rs.drop (rs.length - (i + 1)) = (n, st, pr) :: rs.drop (rs.length - i) := by
        have h1 : rs.length - (i + 1) < rs.length := by omega
        rw [List.drop_eq_getElem_cons h1]
        have h2 : rs.length - (i + 1) + 1 = rs.length - i := by omega
        rw [h2]
        congr 1
        rw [List.getElem?_reverse (by omega)] at hr1
        have h3 : rs.length - 1 - i = rs.length - (i + 1) := by omega
        rw [h3, List.getElem?_eq_getElem h1] at hr1
        injection hr1
      have sA : Same H H' := b.same s1 hdf
      obtain ⟨dxf, hfi⟩ := hFi.ins
      have gS : Good z ((n, st, pr) :: rs.drop (rs.length - i)) := by
        rw [← ed]
        exact good_drop good _
      have hab : 0 ≤ pr.2.1 + pr.2.2 := by
        cases gS with
        | cons _ _ _ _ h => exact h
      have ht2 : H' t2 = some (.tup [.int pr.1, .int pr.2.1, .int pr.2.2]) := sA _ _ ht2
      refine ⟨t, _, rfl, SqT.of (sA _ _ ht), rfl, _, _, rfl, _, _, rfl, _, _, rfl, rfl, ?_⟩
      refine ⟨_, rfl, f, dxf, _, rfl, hfi, rfl, _, rfl, _, rfl, t2, _, _, _, rfl, rfl, SqT.of ht2, atI_nat (j := 0) rfl, _, rfl, t2, _, _, _, rfl, rfl, SqT.of ht2, atI_nat (j := 1) rfl, _, rfl, t2, _, _, _, rfl, rfl, SqT.of ht2, atI_nat (j := 2) rfl, ?_⟩
      intro x1 dx1 hx1 hdx1 hne1
      refine ⟨x1, dx1, _, _, _, rfl, hab, upd_same, fun H5 hN => ⟨rfl, ?_⟩⟩
      obtain ⟨sN, hSp⟩ := newSp (K := K) hx1 hdx1 hN
      refine ⟨_, rfl, f, df, z, _, n, st, _, _, _, x1, rfl, hFi.ext sN, gS, ?_, hSp, fun H6 i6 b6 hF6 => ?_⟩
      · rw [List.length_drop]; omega
      · refine ⟨_, _, _, rfl, b.trans ((Bt.of sN).trans b6), ?_⟩
        rw [ed]
        exact hF6
    · rintro σ' H' ⟨o2, o3, o4, rfl, b, hFi⟩
      have e : rs.length - vs.length = 0 := by
        rw [← Paired.len hpv, List.length_reverse]
        omega
      rw [e, List.drop_zero] at hFi
      exact ⟨_, rfl, k f df _ hf hdf (b.same s1 hdf) hFi⟩
theorem s_law_apart : FnScope ["_law_rows", "_law_one", "_law_other", "_law_low", "_law_high", "_law_parts_here", "_law_name", "_law_back", "_law_least", "_law_most", "_law_row"] ["_law_rows", "_law_one", "_law_other"] d_law_apart.scope := ⟨rfl, rfl, rfl, by decide +kernel, rfl, by decide +kernel, by decide +kernel⟩
theorem c_law_apart (T : Txt w K mg) : Cal P w K mg base 3 "_law_apart" (fun vs H Q _ => ∃ (l : Addr) (z one other : Str) (rs : List Row), vs = [.ref l, .str one, .str other] ∧ RowsL H l rs.reverse ∧ Good z rs ∧ rs.length ≤ 100 ∧ one ∈ z :: rnm rs ∧ other ∈ z :: rnm rs ∧ RetT H Q [.int ((betP rs one other).1 - (betP rs one other).2.2), .int ((betP rs one other).1 + (betP rs one other).2.1)]) [] := by
  refine T.cal 90 78 (d := d_law_apart) (S := s_law_apart) (hb := fun _ _ _ _ _ _ us hl => match us, hl with | [_, _, _], _ => rfl) (len := fun vs H Q E h => ?_) (hbody := fun cdv A outer s H vs Q E hr h => ?_)
  · obtain ⟨l, z, one, other, rs, rfl, hR, good, hfew, m1, m2, k⟩ := h
    rfl
  · obtain ⟨l, z, one, other, rs, rfl, hR, good, hfew, m1, m2, k⟩ := h
    have hu := hu_of hr
    refine ⟨_, (pss_cons (ps_asg (pe_tup (pa_cons pe_int (pa_cons pe_int pa_nil))) (pg_tup rfl (pgs_cons (pg_name (i := 3) s_law_apart.nd rfl (Or.inl rfl)) (pgs_cons (pg_name (i := 4) s_law_apart.nd rfl (Or.inl rfl)) pgs_nil))))
      (pss_cons (ps_set (i := 5) s_law_apart.nd rfl (Or.inl rfl) (pe_callTy (T := "dict") (call_dictP rfl) (by rfl) (T.f 99) (by decide +kernel) (pa_cons (pe_lc (own := [("_law_row", 10)]) (g := (gName 10)) rfl s_law_apart.nd (pi_list (pv 0)) (blkOk_by (N := ["_law_rows", "_law_one", "_law_other", "_law_low", "_law_high", "_law_parts_here", "_law_name", "_law_back", "_law_least", "_law_most", "_law_row"]) (sc := d_law_apart.scope) (own := [("_law_row", 10)]) (by decide +kernel)) (fun _ _ _ _ _ => (pg_name (i := 10) s_law_apart.nd rfl (Or.inl rfl))) (fun _ _ _ _ _ => pts_nil) (fun _ _ _ _ _ => (pe_tup (pa_cons (pe_ix (ix_tupK (K := K) rfl) (pv 10) pe_int (fun _ _ => rfl)) (pa_cons (pe_ix (ix_tupK (K := K) rfl) (pv 10) pe_int (fun _ _ => rfl)) pa_nil))))) pa_nil)))
      (pss_cons (ps_for PassesOwn.never rfl (pi_list (pe_c (c_law_road T) hr (by decide) rfl (pa_cons (pv 0) (pa_cons (pv 1) (pa_cons (pv 2) pa_nil))))) (pg_tup rfl (pgs_cons (pg_name (i := 6) s_law_apart.nd rfl (Or.inl rfl)) (pgs_cons (pg_name (i := 7) s_law_apart.nd rfl (Or.inl rfl)) pgs_nil)))
      (pss_cons (ps_asg (pe_c (c_law_ends T) hr (by decide) rfl (pa_cons (pe_dget hu (pv 5) (pv 6) (fun _ _ => rfl)) pa_nil)) (pg_tup rfl (pgs_cons (pg_name (i := 8) s_law_apart.nd rfl (Or.inl rfl)) (pgs_cons (pg_name (i := 9) s_law_apart.nd rfl (Or.inl rfl)) pgs_nil))))
        (pss_cons (ps_if (pt_val (pv 7)) (pss_one (ps_par (i := 8) (j := 9) (by rfl) s_law_apart.nd rfl rfl (by decide) rfl rfl (pa_cons (pe_op op_sub pe_int (pv 9)) (pa_cons (pe_op op_sub pe_int (pv 8)) pa_nil)) (by rfl))) pss_nil)
        (pss_one (ps_par (i := 3) (j := 4) (by rfl) s_law_apart.nd rfl rfl (by decide) rfl rfl (pa_cons (pe_op op_add (pv 3) (pv 8)) (pa_cons (pe_op op_add (pv 4) (pv 9)) pa_nil)) (by rfl))))))
      (pss_one (ps_ret (pe_tup (pa_cons (pv 3) (pa_cons (pv 4) pa_nil)))))))), ?_⟩
    obtain ⟨vs, hl, hpv⟩ := id hR
    refine ⟨sz2, fun t0 ht0 => ⟨t0, _, rfl, SqT.of upd_same, rfl, _, _, rfl, _, _, rfl, rfl, ?_⟩⟩
    have s0 := same_new (o := .tup [.int 0, .int 0]) ht0
    have hl := s0 _ _ hl
    have hpv := p_imp hpv fun _ _ h => LRowAt.kp h (Kp.of s0)
    have hR := hR.ext s0
    replace k := k.mono s0
    generalize upd H t0 (.tup [.int 0, .int 0]) = H at *
    dsimp only
    refine tSeq_asg_cb ?_
    refine tlc_ps (F := LRowAt H) (f := fun _ => true) (El := fun r v H' => PairEl (PartF H) H' r v) (fun _ _ _ _ e h => h.kp e) hpv (j := 10) ?_ ?_ ?_ ?_ fun D H1 vs1 hD s1 h1 p1 => ?_
    · show 10 < 11
      decide
    · rw [List.length_reverse]
      omega
    · exact fun Q q => ⟨_, rfl, q l _ (Same.refl _) (SqL.of hl)⟩
    · intro x r σ2 H8 Kt Kf hF hk s8 e1 e2 kt kf
      obtain ⟨t, t2, rfl, ht, ht2⟩ := hF
      have ht := s8 _ _ ht
      refine iteT (B := Kf H8) ?_
      exact ⟨_, e2, t, _, _, _, rfl, rfl, SqT.of ht, atI_nat (j := 0) rfl, _, e2, t, _, _, _, rfl, rfl, SqT.of ht, atI_nat (j := 2) rfl, sz2, fun q hq => kt rfl _ _ (same_new hq) ⟨q, _, rfl, upd_same, t2, rfl, ht2⟩⟩
    rw [filter_all] at p1
    obtain ⟨ps, kvs, rfl, e2, e3, e4⟩ := mk_dict (K := K) good p1
    refine ⟨D, ps, kvs, rfl, SqL.of h1, e2, fun d hd => ?_⟩
    rw [e3]
    have s2 := same_new (o := .dK kvs) hd
    have hDi := e4 (upd H1 d (.dK kvs)) d upd_same
    have sA := s1.trans s2
    generalize upd H1 d (.dK kvs) = H2 at hDi sA ⊢
    refine ⟨_, rfl, _, rfl, _, rfl, l, z, one, other, rs, rfl, hR.ext sA, good, hfew, m1, m2, fun q vs3 H3 hq s3 h3 p3 => ?_⟩
    have sB := sA.trans s3
    refine ⟨q, rfl, ⟨_, SqL.of h3⟩, for_list (K := K) (xs := vs3) (fun i σ' H' => ∃ lo hi o6 o7 o8 o9 b, σ' = [some (.ref l), some (.str one), some (.str other), some (.int lo), some (.int hi), some (.ref d), o6, o7, o8, o9, none] ∧ Same H3 H' ∧ b = ((roadP rs one other).take i).foldl (betS rs) (0, 0, 0) ∧ lo = b.1 - b.2.2 ∧ hi = b.1 + b.2.1) ?_ ?_ ?_ ?_⟩
    · exact ⟨0, 0, none, none, none, none, (0, 0, 0), rfl, Same.refl _, rfl, rfl, rfl⟩
    · rintro i σ' H' _ ⟨_, _, _, _, _, _, _, _, s, _⟩
      exact SqL.of (s _ _ h3)
    · rintro i x σ' H' hx ⟨lo, hi, o6, o7, o8, o9, b, rfl, s, eb, elo, ehi⟩
      obtain ⟨⟨n, bk⟩, hp, u, rfl, hu⟩ := p_get p3 hx
      obtain ⟨kvs2, hd2, _, hv⟩ := hDi.ext (s3.trans s)
      obtain ⟨st, pr, hlk, _⟩ := look_some good (road_mem good m1 m2 (List.mem_of_getElem? hp))
      obtain ⟨v, hv, t2, rfl, ht2⟩ := hv n st pr hlk
      have ht2 : H t2 = some (.tup [.int pr.1, .int pr.2.1, .int pr.2.2]) := ht2
      refine ⟨u, _, rfl, SqT.of (s _ _ hu), rfl, _, _, rfl, _, _, rfl, rfl, ?_⟩
      refine ⟨_, rfl, _, rfl, d, _, rfl, dget_of (k := .inr n) hd2 hv, t2, pr, rfl, (sB.trans s) _ _ ht2, fun q2 H4 hq2 s4 h4 => ⟨q2, _, rfl, SqT.of h4, rfl, _, _, rfl, _, _, rfl, rfl, ?_⟩⟩
      have et : ((roadP rs one other).take (i + 1)).foldl (betS rs) (0, 0, 0) = betS rs b (n, bk) := by
        rw [List.take_add_one, hp, List.foldl_append, ← eb]
        rfl
      obtain ⟨s', a', b'⟩ := pr
      refine ⟨_, rfl, _, rfl, ?_⟩
      cases bk with
      | true =>
        refine iteT ?_
        refine ⟨_, rfl, _, _, rfl, rfl, _, rfl, _, _, rfl, rfl, _, _, rfl, ?_⟩
        refine ⟨_, rfl, _, rfl, _, _, rfl, rfl, _, rfl, _, rfl, _, _, rfl, rfl, _, _, rfl, ?_⟩
        refine ⟨_, _, _, _, _, _, (b.1 - s', b.2.1 + b', b.2.2 + a'), rfl, s.trans s4, ?_, ?_, ?_⟩
        · rw [et]
          unfold betS
          rw [hlk]
          rfl
        · show lo + (0 - (s' + a')) = b.1 - s' - (b.2.2 + a')
          omega
        · show hi + (0 - (s' - b')) = b.1 - s' + (b.2.1 + b')
          omega
      | false =>
        refine iteF ?_
        refine ⟨_, rfl, _, rfl, _, _, rfl, rfl, _, rfl, _, rfl, _, _, rfl, rfl, _, _, rfl, ?_⟩
        refine ⟨_, _, _, _, _, _, (b.1 + s', b.2.1 + a', b.2.2 + b'), rfl, s.trans s4, ?_, ?_, ?_⟩
        · rw [et]
          unfold betS
          rw [hlk]
          rfl
        · show lo + (s' - b') = b.1 + s' - (b.2.2 + b')
          omega
        · show hi + (s' + a') = b.1 + s' + (b.2.1 + a')
          omega
    · rintro σ' H' ⟨lo, hi, o6, o7, o8, o9, b, rfl, s, eb, elo, ehi⟩
      rw [← Paired.len p3, List.take_length] at eb
      have eb : b = betP rs one other := eb
      rw [← eb, ← elo, ← ehi] at k
      exact ⟨_, rfl, _, rfl, sz2, fun t ht => k t _ ((sB.trans s).free ht) ((sB.trans s).trans (same_new ht)) upd_same⟩
theorem flip_at {z : Str} {rs : List Row} (g : Good z rs) : ∀ {y : Str} {k : Nat} {r : Row}, y ∈ z :: rnm rs → (flipR rs y)[k]? = some r → (upR rs y)[k + 1]? = some r.1 ∧ (upR rs y)[k]? = some r.2.1 ∧ ∃ p, look rs r.2.1 = some (r.1, p) ∧ r.2.2 = turnP p := by
  induction g with
  | nil _ => intro y k r _ h; cases h
  | @cons r0 rs g h1 h2 h3 h4 ih =>
    intro y k r hy h
    have lk : ∀ n s p, look rs n = some (s, p) → look (r0 :: rs) n = some (s, p) := fun n s p e => by
      unfold look
      rw [if_neg (fun q => h2 (by rw [q]; exact List.mem_cons_of_mem _ (List.mem_map.mpr ⟨_, look_mem e, rfl⟩)))]
      exact e
    by_cases e : r0.1 = y
    · have eu : upR (r0 :: rs) y = y :: upR rs r0.2.1 := by conv => lhs; unfold upR; rw [if_pos e]
      have ef : flipR (r0 :: rs) y = (r0.2.1, y, turnP r0.2.2) :: flipR rs r0.2.1 := by conv => lhs; unfold flipR; rw [if_pos e]
      rw [ef] at h
      rw [eu]
      cases k with
      | zero =>
        cases h
        obtain ⟨t, et⟩ := up_head rs r0.2.1
        refine ⟨by rw [et]; rfl, rfl, r0.2.2, ?_, rfl⟩
        show (if r0.1 = y then some r0.2 else look rs y) = _
        rw [if_pos e]
      | succ k =>
        obtain ⟨i1, i2, p, i3, i4⟩ := ih h3 h
        exact ⟨i1, i2, p, lk _ _ _ i3, i4⟩
    · have hy2 : y ∈ z :: rnm rs := by
        rcases List.mem_cons.mp hy with h | h
        · rw [h]; exact List.mem_cons_self ..
        · rcases List.mem_cons.mp h with h | h
          · exact absurd h.symm e
          · exact List.mem_cons_of_mem _ h
      have eu : upR (r0 :: rs) y = upR rs y := by conv => lhs; unfold upR; rw [if_neg e]
      have ef : flipR (r0 :: rs) y = flipR rs y := by conv => lhs; unfold flipR; rw [if_neg e]
      rw [ef] at h
      rw [eu]
      obtain ⟨i1, i2, p, i3, i4⟩ := ih hy2 h
      exact ⟨i1, i2, p, lk _ _ _ i3, i4⟩
theorem p_idx {F : Row → V → Prop} {l : List Row} {vs : List V} (h : Paired (fun (k : Nat) v => ∃ r, l[k]? = some r ∧ F r v) (List.range l.length) vs) : Paired F l vs := by
  have hl := Paired.len h
  rw [List.length_range] at hl
  refine p_of_at hl fun i r v hr hv => ?_
  have hi := (List.getElem?_eq_some_iff.mp hr).1
  obtain ⟨r', e, hF⟩ := Paired.at h (show (List.range l.length)[i]? = some i by rw [List.getElem?_range hi]) hv
  rw [hr] at e
  cases e
  exact hF
theorem s_law_hung : FnScope ["_law_sketch_here", "_law_zero", "_law_parts_here", "_law_up", "_law_rows", "_law_row", "_law_k"] ["_law_sketch_here", "_law_zero"] d_law_hung.scope := ⟨rfl, rfl, rfl, by decide +kernel, rfl, by decide +kernel, by decide +kernel⟩
theorem c_law_hung (T : Txt w K mg) : Cal P w K mg base 2 "_law_hung" (fun vs H Q _ => ∃ (l : Addr) (z y : Str) (rs : List Row), vs = [.ref l, .str y] ∧ SkAt H l z rs ∧ Good z rs ∧ rs.length ≤ 100 ∧ y ∈ z :: rnm rs ∧ ∀ l' H', H l' = none → Same H H' → SkAt H' l' y (hungP rs y) → Q (.ref l') H') [] := by
  refine T.cal 96 84 (d := d_law_hung) (S := s_law_hung) (hb := fun _ _ _ _ _ _ us hl => match us, hl with | [_, _], _ => rfl) (len := fun vs H Q E h => ?_) (hbody := fun cdv A outer s H vs Q E hr h => ?_)
  · obtain ⟨l, z, y, rs, rfl, ⟨l2, hl, vs, hl2, hpv⟩, good, hfew, hy, k⟩ := h
    rfl
  · obtain ⟨l, z, y, rs, rfl, ⟨l2, hl, vs, hl2, hpv⟩, good, hfew, hy, k⟩ := h
    have hu := hu_of hr
    refine ⟨_, (pss_cons (ps_set (i := 2) s_law_hung.nd rfl (Or.inr rfl) (pe_callTy (T := "dict") (call_dictP rfl) (by rfl) (T.f 99) (by decide +kernel) (pa_cons (pe_lc (own := [("_law_row", 5)]) (g := (gName 5)) rfl s_law_hung.nd (pi_list (pe_ix (ix_listK (K := K) rfl) (pv 0) pe_int (fun _ _ => rfl))) (blkOk_by (N := ["_law_sketch_here", "_law_zero", "_law_parts_here", "_law_up", "_law_rows", "_law_row", "_law_k"]) (sc := d_law_hung.scope) (own := [("_law_row", 5)]) (by decide +kernel)) (fun _ _ _ _ _ => (pg_name (i := 5) s_law_hung.nd rfl (Or.inl rfl))) (fun _ _ _ _ _ => pts_nil) (fun _ _ _ _ _ => (pe_tup (pa_cons (pe_ix (ix_tupK (K := K) rfl) (pv 5) pe_int (fun _ _ => rfl)) (pa_cons (pe_ix (ix_tupK (K := K) rfl) (pv 5) pe_int (fun _ _ => rfl)) pa_nil))))) pa_nil)))
      (pss_cons (ps_set (i := 3) s_law_hung.nd rfl (Or.inr rfl) (pe_c (c_law_way_up T) hr (by decide) rfl (pa_cons (pe_ix (ix_listK (K := K) rfl) (pv 0) pe_int (fun _ _ => rfl)) (pa_cons (pv 1) pa_nil))))
      (pss_cons (ps_setLc (i := 4) (own := [("_law_k", 6)]) (g := (gName 6)) rfl s_law_hung.nd rfl rfl (sw_true rfl rfl rfl (by decide +kernel)) (pi_range1 (by rfl) (T.f 108) (pa_cons (pe_op op_sub (pe_callB (id := "len") (call_len_seqK (K := K) rfl) (by rfl) (T.f 104) (by decide +kernel) (pa_cons (pv 3) pa_nil)) pe_int) pa_nil)) (blkOk_by (N := ["_law_sketch_here", "_law_zero", "_law_parts_here", "_law_up", "_law_rows", "_law_row", "_law_k"]) (sc := d_law_hung.scope) (own := [("_law_k", 6)]) (by decide +kernel)) (fun _ _ _ _ _ => (pg_name (i := 6) s_law_hung.nd rfl (Or.inl rfl))) (fun _ _ _ _ _ => pts_nil) (fun _ _ _ _ _ => (pe_tup (pa_cons (pe_ix (ix_listK (K := K) rfl) (pv 3) (pe_op op_add (pv 6) pe_int) (fun _ _ => rfl)) (pa_cons (pe_ix (ix_listK (K := K) rfl) (pv 3) (pv 6) (fun _ _ => rfl)) (pa_cons (pe_c (c_law_turned T) hr (by decide) rfl (pa_cons (pe_dget hu (pv 2) (pe_ix (ix_listK (K := K) rfl) (pv 3) (pv 6) (fun _ _ => rfl)) (fun _ _ => rfl)) pa_nil)) pa_nil))))))
      (pss_one (ps_ret (pe_lst (pa_cons (pv 1) (pa_cons (pe_op op_cat (pv 4) (pe_lc (own := [("_law_row", 5)]) (g := (gName 5)) rfl s_law_hung.nd (pi_list (pe_ix (ix_listK (K := K) rfl) (pv 0) pe_int (fun _ _ => rfl))) (blkOk_by (N := ["_law_sketch_here", "_law_zero", "_law_parts_here", "_law_up", "_law_rows", "_law_row", "_law_k"]) (sc := d_law_hung.scope) (own := [("_law_row", 5)]) (by decide +kernel)) (fun _ _ _ _ _ => (pg_name (i := 5) s_law_hung.nd rfl (Or.inl rfl))) (fun _ _ _ _ _ => pts_one (pt_cmpR (op_notIn_seqK (K := K) rfl) (pe_ix (ix_tupK (K := K) rfl) (pv 5) pe_int (fun _ _ => rfl)) (pv 3) (by rfl))) (fun _ _ _ _ _ => (pv 5)))) pa_nil)))))))), ?_⟩
    refine tSeq_asg_cb ?_
    refine tlc_ps (F := LRowAt H) (f := fun _ => true) (El := fun r v H' => PairEl (PartF H) H' r v) (fun _ _ _ _ e h => h.kp e) hpv (j := 5) ?_ ?_ ?_ ?_ fun D H1 vs1 hD s1 h1 p1 => ?_
    · show 5 < 7
      decide
    · rw [List.length_reverse]
      omega
    · exact fun Q q => ⟨_, rfl, l, _, _, _, rfl, rfl, SqL.of hl, atI_nat (j := 1) rfl, q l2 _ (Same.refl _) (SqL.of hl2)⟩
    · intro x r σ2 H8 Kt Kf hF hk s8 e1 e2 kt kf
      obtain ⟨t, t2, rfl, ht, ht2⟩ := hF
      have ht := s8 _ _ ht
      refine iteT (B := Kf H8) ?_
      exact ⟨_, e2, t, _, _, _, rfl, rfl, SqT.of ht, atI_nat (j := 0) rfl, _, e2, t, _, _, _, rfl, rfl, SqT.of ht, atI_nat (j := 2) rfl, sz2, fun q hq => kt rfl _ _ (same_new hq) ⟨q, _, rfl, upd_same, t2, rfl, ht2⟩⟩
    rw [filter_all] at p1
    obtain ⟨ps, kvs, rfl, e2, e3, e4⟩ := mk_dict (K := K) good p1
    refine ⟨D, ps, kvs, rfl, SqL.of h1, e2, fun d hd => ?_⟩
    rw [e3]
    have s2 := same_new (o := .dK kvs) hd
    have hDi := e4 (upd H1 d (.dK kvs)) d upd_same
    have sA := s1.trans s2
    generalize upd H1 d (.dK kvs) = H2 at hDi sA ⊢
    refine ⟨_, rfl, l, _, _, _, rfl, rfl, SqL.of (sA _ _ hl), atI_nat (j := 1) rfl, _, rfl, l2, z, y, rs, rfl, RowsL.ext ⟨vs, hl2, hpv⟩ sA, good, hfew, hy, fun u H3 hu s3 h3 => ?_⟩
    have sB := sA.trans s3
    have hDi := hDi.ext s3
    have hul := up_len rs y
    have efl : (upR rs y).length = (flipR rs y).length + 1 := by
      rw [← flip_names good hy, List.length_cons]
      exact congrArg Nat.succ (List.length_map _)
    with_reducible refine r_gn ?_
    with_reducible refine r_seq ?_
    refine r_asg (tlc_rg (n := (flipR rs y).length) (f := fun _ => true) (El := fun k v H' => ∃ r, (flipR rs y)[k]? = some r ∧ LRowAt H' r v) (fun _ _ _ _ e h => by
      obtain ⟨r, h1, h2⟩ := h
      exact ⟨r, h1, h2.kp e⟩) (j := 6) (by show 6 < 7; decide) (by omega) ?_ ?_ fun D6 H6 vs6 hD6 s6 h6 p6 => ?_)
    · intro Q q
      refine ⟨_, rfl, _, _, rfl, Or.inl (SqL.of h3), _, _, rfl, rfl, ?_⟩
      have e : (((upR rs y).map V.str).length : Int) - 1 = ((flipR rs y).length : Int) := by
        rw [List.length_map, efl]
        omega
      show Q [.int ((((upR rs y).map V.str).length : Int) - 1)] H3
      rw [e]
      exact q _ (Same.refl _)
    · intro k σ2 H7 Kt Kf hk s7 e1 e2 kt kf
      have hr := List.getElem?_eq_getElem hk
      obtain ⟨i1, i2, p, i3, i4⟩ := flip_at good hy hr
      obtain ⟨kvs2, hd2, _, hv⟩ := hDi.ext s7
      obtain ⟨v, hv, t2, rfl, ht2⟩ := hv _ _ _ i3
      have hU := SqL.of (K := K) (s7 _ _ h3)
      have a1 : atI ((upR rs y).map V.str) ((k : Int) + 1) = some (.str (flipR rs y)[k].1) := at_words (i := k + 1) i1
      have a2 : atI ((upR rs y).map V.str) (k : Int) = some (.str (flipR rs y)[k].2.1) := at_words (i := k) i2
      refine iteT (B := Kf H7) ?_
      refine ⟨_, (e1 3 (by decide)).trans rfl, _, e2, _, _, rfl, rfl, u, _, _, _, rfl, rfl, hU, a1, _, (e1 3 (by decide)).trans rfl, _, e2, u, _, _, _, rfl, rfl, hU, a2, _, (e1 2 (by decide)).trans rfl, _, (e1 3 (by decide)).trans rfl, _, e2, u, _, _, _, rfl, rfl, hU, a2, d, _, rfl, dget_of (k := .inr (flipR rs y)[k].2.1) hd2 hv, t2, p, rfl, (sB.trans s7) _ _ ht2, fun q H8 hq s8 h8 => ⟨sz3, fun q2 hq2 => ?_⟩⟩
      have s9 := same_new (o := .tup [.str (flipR rs y)[k].1, .str (flipR rs y)[k].2.1, .ref q]) hq2
      refine kt rfl _ _ (s8.trans s9) ⟨_, hr, q2, q, rfl, upd_same, ?_⟩
      rw [i4]
      exact s9 _ _ h8
    rw [filter_all] at p6
    have p6 := p_idx p6
    with_reducible refine r_gn ?_
    have sC := sB.trans s6
    refine ⟨_, rfl, _, rfl, ?_⟩
    refine tlc_ps (F := LRowAt H) (f := fun r => decide (r.1 ∉ upR rs y)) (El := fun r v H' => LRowAt H' r v) (fun _ _ _ _ e h => h.kp e) hpv (j := 5) ?_ ?_ ?_ ?_ fun D7 H7 vs7 hD7 s7 h7 p7 => ?_
    · show 5 < 7
      decide
    · rw [List.length_reverse]
      omega
    · exact fun Q q => ⟨_, rfl, l, _, _, _, rfl, rfl, SqL.of (sC _ _ hl), atI_nat (j := 1) rfl, q l2 _ (Same.refl _) (SqL.of (sC _ _ hl2))⟩
    · intro x r σ2 H8 Kt Kf hF hk s8 e1 e2 kt kf
      have hF2 := hF.kp (Kp.of (sC.trans s8))
      obtain ⟨t, t2, rfl, ht, ht2⟩ := hF
      refine ⟨_, e2, t, _, _, _, rfl, rfl, SqT.of ((sC.trans s8) _ _ ht), atI_nat (j := 0) rfl, _, (e1 3 (by decide)).trans rfl, u, _, rfl, Or.inl (SqL.of ((s6.trans s8) _ _ h3)), rfl, flat_strs _, _, rfl, ?_⟩
      rw [inV_strs]
      by_cases hm : r.1 ∈ upR rs y
      · rw [decide_eq_true hm]
        exact kf (decide_eq_false fun z => z hm) _ (Same.refl _)
      · rw [decide_eq_false hm]
        exact ⟨_, e2, kt (decide_eq_true hm) _ _ (Same.refl _) hF2⟩
    have d6 := Paired.len p6
    have d7 := Paired.len p7
    have f7 := List.length_filter_le (fun r : Row => decide (r.1 ∉ upR rs y)) rs.reverse
    rw [List.length_reverse] at f7
    refine ⟨D6, D7, _, _, rfl, rfl, s7 _ _ h6, h7, len_sl (by omega), fun n hn => ⟨sz2, fun l' hl' => ?_⟩⟩
    have s8 := same_new (o := .lst (vs6 ++ vs7)) hn
    have s9 := same_new (o := .lst [.str y, .ref n]) hl'
    have sD := sC.trans (s7.trans s8)
    refine k l' _ (sD.free hl') (sD.trans s9) ⟨n, upd_same, vs6 ++ vs7, s9 _ _ upd_same, ?_⟩
    have er : (hungP rs y).reverse = flipR rs y ++ rs.reverse.filter fun r => decide (r.1 ∉ upR rs y) := by
      unfold hungP restR
      rw [List.reverse_append, List.reverse_reverse, List.filter_reverse]
    rw [er]
    exact p_app (p_imp p6 fun _ _ h => h.kp (Kp.of (s7.trans (s8.trans s9)))) (p_imp p7 fun _ _ h => h.kp (Kp.of (s8.trans s9)))
end
end Fw
set_option Elab.async false
set_option linter.all false
set_option maxRecDepth 100000
set_option maxHeartbeats 4000000
namespace Fw
open PySem PySem.Spec PyProof.Rows L2
open C8 (Cal CalAt Met Mak pe_c pe_mk pe_mt pe_mt0 pe_gc InsC call_isC)

section
variable {P : Program} {w : World} {K : PySem.W.Frag} {mg : Str → Option Value} {base : Heap}

def partN (rs : List Row) (n : Str) : Par := match look rs n with
  | some (_, p) => p
  | none => (0, 0, 0)
def pc (p : Par) : Nat → Int
  | 0 => p.1
  | 1 => p.2.1
  | _ => p.2.2
def downL (rs : List Row) (st n : Str) : List Str := (upR rs n).take ((upR rs n).idxOf st)
def sumP (l : List Par) (k : Nat) : Int := (l.map fun p => pc p k).sum
def downP (rs : List Row) (st n : Str) : Par := (sumP ((downL rs st n).map (partN rs)) 0, sumP ((downL rs st n).map (partN rs)) 1, sumP ((downL rs st n).map (partN rs)) 2)
theorem up_last {z : Str} {rs : List Row} (g : Good z rs) : ∀ {n : Str}, n ∈ z :: rnm rs → ∃ pre, upR rs n = pre ++ [z] ∧ ∀ m ∈ pre, m ∈ rnm rs := by
  induction g with
  | nil _ =>
    intro n h
    rw [List.mem_singleton.mp h]
    exact ⟨[], rfl, fun m h => by cases h⟩
  | @cons r rs g h1 h2 h3 h4 ih =>
    intro n h
    by_cases e : r.1 = n
    · have eu : upR (r :: rs) n = n :: upR rs r.2.1 := by conv => lhs; unfold upR; rw [if_pos e]
      obtain ⟨pre, h5, h6⟩ := ih h3
      refine ⟨n :: pre, by rw [eu, h5]; rfl, fun m hm => ?_⟩
      rcases List.mem_cons.mp hm with q | q
      · rw [q, ← e]; exact List.mem_cons_self ..
      · exact List.mem_cons_of_mem _ (h6 m q)
    · have eu : upR (r :: rs) n = upR rs n := by conv => lhs; unfold upR; rw [if_neg e]
      have hn : n ∈ z :: rnm rs := by
        rcases List.mem_cons.mp h with h | h
        · rw [h]; exact List.mem_cons_self ..
        · rcases List.mem_cons.mp h with h | h
          · exact absurd h.symm e
          · exact List.mem_cons_of_mem _ h
      obtain ⟨pre, h5, h6⟩ := ih hn
      exact ⟨pre, by rw [eu, h5], fun m hm => List.mem_cons_of_mem _ (h6 m hm)⟩
theorem down_mem {z : Str} {rs : List Row} (g : Good z rs) {st n m : Str} (hn : n ∈ z :: rnm rs) (hs : st ∈ upR rs n) (h : m ∈ downL rs st n) : m ∈ rnm rs := by
  obtain ⟨pre, e, hp⟩ := up_last g hn
  unfold downL at h
  rw [e] at h hs
  have hi : (pre ++ [z]).idxOf st ≤ pre.length := by
    have := List.idxOf_lt_length_iff.mpr hs
    rw [List.length_append, List.length_singleton] at this
    omega
  rw [List.take_append_of_le_length hi] at h
  exact hp m (List.mem_of_mem_take h)
theorem look_part {z : Str} {rs : List Row} (g : Good z rs) {n : Str} (h : n ∈ rnm rs) : ∃ s, look rs n = some (s, partN rs n) := by
  obtain ⟨s, p, hl, _⟩ := look_some g h
  refine ⟨s, ?_⟩
  unfold partN
  rw [hl]
theorem at_pc (p : Par) : ∀ k : Nat, k < 3 → atI [V.int p.1, V.int p.2.1, V.int p.2.2] (k : Int) = some (.int (pc p k))
  | 0, _ => atI_nat (j := 0) rfl
  | 1, _ => atI_nat (j := 1) rfl
  | 2, _ => atI_nat (j := 2) rfl
theorem p_ints {α : Type} {f : α → Int} {ks : List α} {vs : List V} (h : Paired (fun r v => v = V.int (f r)) ks vs) : vs = (ks.map f).map V.int := by
  induction h with
  | nil => rfl
  | cons h t ih => rw [h, ih]; rfl
theorem pi_listK {X : Cx} {tg l : Expr} {tl : TE} (h : X.K = K) (hl : PE X l tl) : PI X tg l (iList K tl) := h ▸ pi_list hl
theorem cr_sumK {X : Cx} (h : X.K = K) (hc : X.calm = true) : CallR X (.builtin "sum") (rSum K) := h ▸ cr_sum hc
theorem s_law_down : FnScope ["_law_rows", "_law_start", "_law_name", "_law_parts_here", "_law_up", "_law_some", "_law_row", "_law_one", "_law_k"] ["_law_rows", "_law_start", "_law_name"] d_law_down.scope := ⟨rfl, rfl, rfl, by decide +kernel, rfl, by decide +kernel, by decide +kernel⟩
theorem c_law_down (T : Txt w K mg) : Cal P w K mg base 2 "_law_down" (fun vs H Q _ => ∃ (l : Addr) (z st n : Str) (rs : List Row), vs = [.ref l, .str st, .str n] ∧ RowsL H l rs.reverse ∧ Good z rs ∧ rs.length ≤ 100 ∧ n ∈ z :: rnm rs ∧ st ∈ upR rs n ∧ RetT H Q [.int (downP rs st n).1, .int (downP rs st n).2.1, .int (downP rs st n).2.2]) [] := by
  refine T.cal 97 85 (d := d_law_down) (S := s_law_down) (hb := fun _ _ _ _ _ _ us hl => match us, hl with | [_, _, _], _ => rfl) (len := fun vs H Q E h => ?_) (hbody := fun cdv A outer s H vs Q E hr h => ?_)
  · obtain ⟨l, z, st, n, rs, rfl, hR, good, hfew, hn, hst, k⟩ := h
    rfl
  · obtain ⟨l, z, st, n, rs, rfl, hR, good, hfew, hn, hst, k⟩ := h
    have hu := hu_of hr
    refine ⟨_, (pss_cons (ps_set (i := 3) s_law_down.nd rfl (Or.inr rfl) (pe_callTy (T := "dict") (call_dictP rfl) (by rfl) (T.f 99) (by decide +kernel) (pa_cons (pe_lc (own := [("_law_row", 6)]) (g := (gName 6)) rfl s_law_down.nd (pi_list (pv 0)) (blkOk_by (N := ["_law_rows", "_law_start", "_law_name", "_law_parts_here", "_law_up", "_law_some", "_law_row", "_law_one", "_law_k"]) (sc := d_law_down.scope) (own := [("_law_row", 6)]) (by decide +kernel)) (fun _ _ _ _ _ => (pg_name (i := 6) s_law_down.nd rfl (Or.inl rfl))) (fun _ _ _ _ _ => pts_nil) (fun _ _ _ _ _ => (pe_tup (pa_cons (pe_ix (ix_tupK (K := K) rfl) (pv 6) pe_int (fun _ _ => rfl)) (pa_cons (pe_ix (ix_tupK (K := K) rfl) (pv 6) pe_int (fun _ _ => rfl)) pa_nil))))) pa_nil)))
      (pss_cons (ps_set (i := 4) s_law_down.nd rfl (Or.inl rfl) (pe_c (c_law_way_up T) hr (by decide) rfl (pa_cons (pv 0) (pa_cons (pv 2) pa_nil))))
      (pss_cons (ps_set (i := 5) s_law_down.nd rfl (Or.inr rfl) (pe_lc (own := [("_law_one", 7)]) (g := (gName 7)) rfl s_law_down.nd (pi_list (pe_slice (sl_listK (K := K) rfl) (pv 4) po_none (po_some (pe_bm PySem.F.plainAttrs_list PySem.F.slot_list_index PySem.F.type_list_index mt_index (pv 4) (pa_cons (pv 1) pa_nil))))) (blkOk_by (N := ["_law_rows", "_law_start", "_law_name", "_law_parts_here", "_law_up", "_law_some", "_law_row", "_law_one", "_law_k"]) (sc := d_law_down.scope) (own := [("_law_one", 7)]) (by decide +kernel)) (fun _ _ _ _ _ => (pg_name (i := 7) s_law_down.nd rfl (Or.inl rfl))) (fun _ _ _ _ _ => pts_nil) (fun _ _ _ _ _ => (pe_dget hu (pv 3) (pv 7) (fun _ _ => rfl)))))
      (pss_one (ps_ret (pe_callTy (T := "tuple") call_tuple_of (by rfl) (T.f 111) (by decide +kernel) (pa_cons (pe_lc (own := [("_law_k", 8)]) (g := (gName 8)) rfl s_law_down.nd (pi_range1 (by rfl) (T.f 108) (pa_cons pe_int pa_nil)) (blkOk_by (N := ["_law_rows", "_law_start", "_law_name", "_law_parts_here", "_law_up", "_law_some", "_law_row", "_law_one", "_law_k"]) (sc := d_law_down.scope) (own := [("_law_k", 8)]) (by decide +kernel)) (fun _ _ _ _ _ => (pg_name (i := 8) s_law_down.nd rfl (Or.inr rfl))) (fun _ _ _ _ _ => pts_nil) (fun _ _ _ _ _ => (pe_callB (id := "sum") (cr_sumK (K := K) rfl rfl) (by rfl) (T.f 110) (by decide +kernel) (pa_cons (pe_lc (own := [("_law_one", 7)]) (g := (gName 7)) rfl s_law_down.nd (pi_listK (K := K) rfl (pv 5)) (blkOk_by (N := ["_law_rows", "_law_start", "_law_name", "_law_parts_here", "_law_up", "_law_some", "_law_row", "_law_one", "_law_k"]) (sc := (⟨.function, [(".0", .local), ("_law_k", .cell), ("sum", .globalImplicit), ("_law_some", .cell)], false, false, []⟩ : PySem.Scope)) (own := [("_law_one", 7)]) (by decide +kernel)) (fun _ _ _ _ _ => (pg_name (i := 7) s_law_down.nd rfl (Or.inl rfl))) (fun _ _ _ _ _ => pts_nil) (fun _ _ _ _ _ => (pe_ix (ix_tupK (K := K) rfl) (pv 7) (pv 8) (fun _ _ => rfl)))) pa_nil)))) pa_nil))))))), ?_⟩
    obtain ⟨vs, hl, hpv⟩ := id hR
    refine tSeq_asg_cb ?_
    refine tlc_ps (F := LRowAt H) (f := fun _ => true) (El := fun r v H' => PairEl (PartF H) H' r v) (fun _ _ _ _ e h => h.kp e) hpv (j := 6) ?_ ?_ ?_ ?_ fun D H1 vs1 hD s1 h1 p1 => ?_
    · show 6 < 9
      decide
    · rw [List.length_reverse]
      omega
    · exact fun Q q => ⟨_, rfl, q l _ (Same.refl _) (SqL.of hl)⟩
    · intro x r σ2 H8 Kt Kf hF hk s8 e1 e2 kt kf
      obtain ⟨t, t2, rfl, ht, ht2⟩ := hF
      have ht := s8 _ _ ht
      refine iteT (B := Kf H8) ?_
      exact ⟨_, e2, t, _, _, _, rfl, rfl, SqT.of ht, atI_nat (j := 0) rfl, _, e2, t, _, _, _, rfl, rfl, SqT.of ht, atI_nat (j := 2) rfl, sz2, fun q hq => kt rfl _ _ (same_new hq) ⟨q, _, rfl, upd_same, t2, rfl, ht2⟩⟩
    rw [filter_all] at p1
    obtain ⟨ps, kvs, rfl, e2, e3, e4⟩ := mk_dict (K := K) good p1
    refine ⟨D, ps, kvs, rfl, SqL.of h1, e2, fun d hd => ?_⟩
    rw [e3]
    have s2 := same_new (o := .dK kvs) hd
    have hDi := e4 (upd H1 d (.dK kvs)) d upd_same
    have sA := s1.trans s2
    generalize upd H1 d (.dK kvs) = H2 at hDi sA ⊢
    refine ⟨_, rfl, _, rfl, l, z, n, rs, rfl, hR.ext sA, good, hfew, hn, fun u H3 hu s3 h3 => ?_⟩
    have hul := up_len rs n
    have hDi := hDi.ext s3
    have sB := sA.trans s3
    with_reducible refine r_gn ?_
    with_reducible refine r_seq ?_
    refine r_asg (tlc_strs (K := K) (j := 7) (ks := downL rs st n) (f := fun _ => true) (El := fun n v H' => ∃ t2, v = .ref t2 ∧ H' t2 = some (.tup [.int (partN rs n).1, .int (partN rs n).2.1, .int (partN rs n).2.2])) (fun _ _ _ _ e h => by
      obtain ⟨t2, h1, h2⟩ := h
      exact ⟨t2, h1, e _ _ trivial h2⟩) (by show 7 < 9; decide) ?_ ?_ ?_ fun D6 H6 vs6 hD6 s6 h6 p6 => ?_)
    · unfold downL
      rw [List.length_take]
      omega
    · intro Q q
      obtain ⟨i1, i2⟩ := idx_ok hst
      have hU := SqL.of (K := K) h3
      refine ⟨_, rfl, _, rfl, Or.inl ⟨rfl, _, hU⟩, _, rfl, u, _, .str st, (upR rs n).idxOf st, .str st, rfl, rfl, hU, rfl, flat_strs _, by rw [List.getElem?_map, i1]; rfl, (show (st == st) = true from beq_self_eq_true st), fun m z' hm hz' => ?_, ?_⟩
      · rw [List.getElem?_map] at hz'
        cases e : (upR rs n)[m]? with
        | none => rw [e] at hz'; cases hz'
        | some y =>
          rw [e] at hz'
          cases hz'
          exact (show (y == st) = false from beq_eq_false_iff_ne.mpr fun q => i2 m hm (by rw [e, q]))
      · refine ⟨_, rfl, u, _, rfl, hU, fun q3 hq3 => q q3 _ (same_new hq3) (SqL.of ?_)⟩
        rw [upd_same]
        have hi := List.idxOf_lt_length_iff.mpr hst
        exact congrArg (fun t => some (HO.lst t)) (cut_to hi)
    · intro m σ2 H7 Kt Kf hm s7 e1 e2 kt kf
      obtain ⟨s', hlk⟩ := look_part good (down_mem good hn hst hm)
      obtain ⟨kvs2, hd2, _, hv⟩ := hDi.ext s7
      obtain ⟨v, hv, t2, rfl, ht2⟩ := hv _ _ _ hlk
      refine iteT (B := Kf H7) ?_
      exact ⟨_, (e1 3 (by decide)).trans rfl, _, e2, d, _, rfl, dget_of (k := .inr m) hd2 hv, kt rfl _ _ (Same.refl _) ⟨t2, rfl, (sB.trans s7) _ _ ht2⟩⟩
    rw [filter_all] at p6
    with_reducible refine r_gn ?_
    unfold tRet tCB tCons
    dsimp only
    have hdl : (downL rs st n).length ≤ 101 := by
      unfold downL
      rw [List.length_take]
      omega
    refine tlc_rg (n := 3) (f := fun _ => true) (El := fun k v _ => v = .int (sumP ((downL rs st n).map (partN rs)) k)) (fun _ _ _ _ _ h => h) (j := 8) ?_ ?_ ?_ ?_ fun D7 H7 vs7 hD7 s7 h7 p7 => ?_
    · show 8 < 9
      decide
    · decide
    · exact fun Q q => q _ (Same.refl _)
    · intro k σ2 H8 Kt Kf hk s8 e1 e2 kt kf
      suffices key : tLc (iList K (tVar 5)) (gName 7) tYes (tOp (rIxT K) (tVar 7) (tVar 8)) [7] σ2 H8 fun x H1 => tNil σ2 H1 fun xs H2 => rSum K (x :: xs) H2 Kt by
        exact iteT (B := Kf H8) key
      refine tlc_ps (F := fun m v => ∃ t2, v = .ref t2 ∧ H6 t2 = some (.tup [.int (partN rs m).1, .int (partN rs m).2.1, .int (partN rs m).2.2])) (f := fun _ => true) (El := fun m v _ => v = .int (pc (partN rs m) k)) (fun _ _ _ _ _ h => h) p6 (j := 7) ?_ ?_ ?_ ?_ fun D9 H9 vs9 hD9 s9 h9 p9 => ?_
      · exact (List.getElem?_eq_some_iff.mp ((e1 7 (by decide)).trans (rfl : _ = some none))).1
      · omega
      · exact fun Q q => ⟨_, (e1 5 (by decide)).trans rfl, q D6 _ (Same.refl _) (SqL.of (s8 _ _ h6))⟩
      · intro x m σ3 H10 Kt2 Kf2 hF hm s10 f1 f2 kt2 kf2
        obtain ⟨t2, rfl, ht2⟩ := hF
        refine iteT (B := Kf2 H10) ?_
        refine ⟨_, f2, _, (f1 8 (by decide)).trans ?_, t2, _, _, _, rfl, rfl, SqT.of ((s8.trans s10) _ _ ht2), at_pc _ k hk, kt2 rfl _ _ (Same.refl _) rfl⟩
        rw [List.getElem?_set_ne (by decide)]
        exact e2
      · rw [filter_all] at p9
        have ev := p_ints p9
        subst ev
        refine ⟨D9, _, rfl, SqL.of h9, kt rfl _ _ s9 ?_⟩
        unfold sumP
        rw [List.map_map]
        rfl
    rw [filter_all] at p7
    have ev := p_ints p7
    subst ev
    refine ⟨D7, _, rfl, Or.inl ⟨SqL.of h7, fun t ht => ?_⟩⟩
    have sC := sB.trans (s6.trans s7)
    exact k t _ (sC.free ht) (sC.trans (same_new ht)) upd_same
end
end Fw
set_option Elab.async false
set_option linter.all false
set_option maxRecDepth 100000
set_option maxHeartbeats 4000000
namespace Fw
open PySem PySem.Spec PyProof.Rows L2
open C8 (Cal CalAt Met Mak pe_c pe_mk pe_mt pe_mt0 pe_gc InsC call_isC)

section
variable {P : Program} {w : World} {K : PySem.W.Frag} {mg : Str → Option Value} {base : Heap}

/-! roads from an ancestor -/
theorem up_split {z : Str} {rs : List Row} (g : Good z rs) : ∀ {n st : Str}, n ∈ z :: rnm rs → st ∈ upR rs n → ∃ pre, upR rs n = pre ++ upR rs st ∧ st ∉ pre := by
  induction g with
  | nil _ =>
    intro n st hn h
    have h : st ∈ [n] := h
    rw [List.mem_singleton.mp h]
    exact ⟨[], rfl, fun h => by cases h⟩
  | @cons r rs g h1 h2 h3 h4 ih =>
    intro n st hn h
    by_cases e : r.1 = n
    · have eu : upR (r :: rs) n = n :: upR rs r.2.1 := by conv => lhs; unfold upR; rw [if_pos e]
      rw [eu] at h ⊢
      by_cases es : st = n
      · refine ⟨[], ?_, fun h => by cases h⟩
        rw [es, eu]
        rfl
      · rcases List.mem_cons.mp h with q | q
        · exact absurd q es
        · obtain ⟨pre, h5, h6⟩ := ih h3 q
          have eu2 : upR (r :: rs) st = upR rs st := by
            conv => lhs; unfold upR
            rw [if_neg (fun q => es (by rw [← q, e]))]
          refine ⟨n :: pre, by rw [eu2, h5]; rfl, fun hm => ?_⟩
          rcases List.mem_cons.mp hm with q | q
          · exact es q
          · exact h6 q
    · have eu : upR (r :: rs) n = upR rs n := by conv => lhs; unfold upR; rw [if_neg e]
      have hn2 : n ∈ z :: rnm rs := by
        rcases List.mem_cons.mp hn with h | h
        · rw [h]; exact List.mem_cons_self ..
        · rcases List.mem_cons.mp h with h | h
          · exact absurd h.symm e
          · exact List.mem_cons_of_mem _ h
      rw [eu] at h ⊢
      obtain ⟨pre, h5, h6⟩ := ih hn2 h
      have hs : r.1 ≠ st := fun q => h2 (by rw [q]; exact up_mem g hn2 h)
      have eu2 : upR (r :: rs) st = upR rs st := by
        conv => lhs; unfold upR
        rw [if_neg hs]
      exact ⟨pre, by rw [eu2]; exact h5, h6⟩
theorem road_down {z : Str} {rs : List Row} (g : Good z rs) {n st : Str} (hn : n ∈ z :: rnm rs) (hs : st ∈ upR rs n) : roadP rs st n = ((downL rs st n).map fun m => (m, false)).reverse := by
  obtain ⟨pre, e, hp⟩ := up_split g hn hs
  have hd : downL rs st n = pre := by
    unfold downL
    rw [e]
    obtain ⟨t, et⟩ := up_head rs st
    rw [et, List.idxOf_append]
    rw [if_neg hp, List.idxOf_cons_self, Nat.zero_add, List.take_left]
  have nd := up_nodup g hn
  rw [e] at nd
  obtain ⟨n1, n2, n3⟩ := List.nodup_append.mp nd
  have l1 : leftP rs st n = [] := by
    refine List.filter_eq_nil_iff.mpr fun x hx h => ?_
    exact of_decide_eq_true h (by rw [e]; exact List.mem_append_right _ hx)
  have l2 : leftP rs n st = pre := by
    show (upR rs n).filter (fun m => decide (m ∉ upR rs st)) = pre
    rw [e, List.filter_append]
    have f1 : pre.filter (fun m => decide (m ∉ upR rs st)) = pre := List.filter_eq_self.mpr fun x hx => decide_eq_true fun h => n3 x hx x h rfl
    have f2 : (upR rs st).filter (fun m => decide (m ∉ upR rs st)) = [] := List.filter_eq_nil_iff.mpr fun x hx h => of_decide_eq_true h hx
    rw [f1, f2, List.append_nil]
  unfold roadP
  rw [l1, l2, hd]
  rfl
def plusP (q p : Par) : Par := (q.1 + p.1, q.2.1 + p.2.1, q.2.2 + p.2.2)
theorem betS_plus {z : Str} {rs : List Row} (g : Good z rs) {m : Str} (h : m ∈ rnm rs) (q : Par) : betS rs q (m, false) = plusP q (partN rs m) := by
  obtain ⟨s, hl⟩ := look_part g h
  unfold betS
  rw [hl]
  rfl
theorem fold_sum (f : Str → Par) : ∀ (l : List Str) (q : Par), l.foldr (fun m q => plusP q (f m)) q = plusP q (sumP (l.map f) 0, sumP (l.map f) 1, sumP (l.map f) 2)
  | [], q => by
    show q = plusP q (0, 0, 0)
    unfold plusP
    simp
  | m :: l, q => by
    rw [List.foldr_cons, fold_sum f l q]
    unfold plusP sumP
    rw [List.map_cons, List.map_cons, List.map_cons, List.map_cons, List.sum_cons, List.sum_cons, List.sum_cons]
    generalize ((l.map f).map fun p => pc p 0).sum = a
    generalize ((l.map f).map fun p => pc p 1).sum = b
    generalize ((l.map f).map fun p => pc p 2).sum = c
    refine Prod.ext ?_ (Prod.ext ?_ ?_)
    · show q.1 + a + (f m).1 = q.1 + ((f m).1 + a)
      omega
    · show q.2.1 + b + (f m).2.1 = q.2.1 + ((f m).2.1 + b)
      omega
    · show q.2.2 + c + (f m).2.2 = q.2.2 + ((f m).2.2 + c)
      omega
theorem bet_down {z : Str} {rs : List Row} (g : Good z rs) {n st : Str} (hn : n ∈ z :: rnm rs) (hs : st ∈ upR rs n) : betP rs st n = downP rs st n := by
  unfold betP
  rw [road_down g hn hs, List.foldl_reverse, List.foldr_map]
  have hm : ∀ m ∈ downL rs st n, m ∈ rnm rs := fun m h => down_mem g hn hs h
  have e : (downL rs st n).foldr (fun x y => betS rs y (x, false)) (0, 0, 0) = (downL rs st n).foldr (fun m q => plusP q (partN rs m)) (0, 0, 0) := by
    generalize downL rs st n = l at hm
    induction l with
    | nil => rfl
    | cons x l ih =>
      rw [List.foldr_cons, List.foldr_cons, ih fun m h => hm m (List.mem_cons_of_mem _ h)]
      exact betS_plus g (hm x (List.mem_cons_self ..)) _
  rw [e, fold_sum]
  unfold plusP downP
  simp
theorem lastF_last (ps : List Str) : ∀ (l : List (Str × Bool)) (f : Str), l.foldl (lastF ps) f = ((l.map (·.1)).reverse.filter fun m => decide (m ∈ ps)).headD f
  | [], f => rfl
  | st :: l, f => by
    rw [List.foldl_cons, lastF_last ps l, List.map_cons, List.reverse_cons, List.filter_append]
    cases h : (l.map (·.1)).reverse.filter (fun m => decide (m ∈ ps)) with
    | cons a b => rfl
    | nil =>
      rw [List.nil_append]
      unfold lastF
      by_cases hm : st.1 ∈ ps
      · rw [if_pos hm, List.filter_cons_of_pos (by simp [hm])]
        rfl
      · rw [if_neg hm, List.filter_cons_of_neg (by simp [hm])]
        rfl
theorem last_first {z : Str} {rs : List Row} (g : Good z rs) {ps : List Str} {n : Str} (hz : z ∈ ps) (hn : n ∈ z :: rnm rs) : ∃ t, (upR rs n).filter (fun m => decide (m ∈ ps)) = lastZ rs ps z n :: t := by
  have huz : upR rs z = [z] := up_none g.zn
  have hzu := up_z g hn
  obtain ⟨pre, e, hp⟩ := up_split g hn hzu
  have hr := road_down g hn hzu
  have hd : downL rs z n = pre := by
    unfold downL
    rw [e]
    obtain ⟨t, et⟩ := up_head rs z
    rw [et, List.idxOf_append]
    rw [if_neg hp, List.idxOf_cons_self, Nat.zero_add, List.take_left]
  unfold lastZ
  rw [hr, hd, lastF_last, List.map_reverse, List.map_map, List.reverse_reverse]
  have em : pre.map ((fun x : Str × Bool => x.1) ∘ fun m => (m, false)) = pre := List.map_id _
  rw [em, e, huz, List.filter_append]
  cases h : pre.filter (fun m => decide (m ∈ ps)) with
  | cons a b => exact ⟨b ++ [z].filter _, rfl⟩
  | nil =>
    rw [List.nil_append, List.filter_cons_of_pos (by simp [hz])]
    exact ⟨_, rfl⟩
end
end Fw
set_option Elab.async false
set_option linter.all false
set_option maxRecDepth 100000
set_option maxHeartbeats 4000000
namespace Fw
open PySem PySem.Spec PyProof.Rows L2
open C8 (Cal CalAt Met Mak pe_c pe_mk pe_mt pe_mt0 pe_gc InsC call_isC)

section
variable {P : Program} {w : World} {K : PySem.W.Frag} {mg : Str → Option Value} {base : Heap}

def rowOf (h : List Row) (p0 : Str) (pt : List Str) (n : Str) : Row := if n ∈ p0 :: pt then stA h p0 n else stB h (p0 :: pt) p0 n
theorem straight_rows (z : Str) (rs : List Row) (p0 : Str) (pt : List Str) : (straightP z rs p0 pt).reverse = (pt ++ (z :: rnm rs.reverse).filter fun n => decide (n ∉ p0 :: pt)).map (rowOf (hungP rs p0) p0 pt) := by
  unfold straightP
  rw [List.reverse_append, List.reverse_reverse, List.reverse_reverse, List.map_append]
  congr 1
  · refine List.map_congr_left fun n hn => ?_
    unfold rowOf
    rw [if_pos (List.mem_cons_of_mem _ hn)]
  · refine List.map_congr_left fun n hn => ?_
    unfold rowOf
    rw [if_neg (of_decide_eq_true (List.mem_filter.mp hn).2)]
theorem s_law_straight : FnScope ["_law_sketch_here", "_law_picked", "_law_base", "_law_rows", "_law_others", "_law_name", "_law_start", "_law_one"] ["_law_sketch_here", "_law_picked"] d_law_straight.scope := ⟨rfl, rfl, rfl, by decide +kernel, rfl, by decide +kernel, by decide +kernel⟩
theorem c_law_straight (T : Txt w K mg) : Cal P w K mg base 3 "_law_straight" (fun vs H Q _ => ∃ (l lp : Addr) (z : Str) (rs : List Row) (p0 : Str) (pt : List Str), vs = [.ref l, .ref lp] ∧ SkAt H l z rs ∧ Good z rs ∧ rs.length ≤ 100 ∧ H lp = some (.lst ((p0 :: pt).map V.str)) ∧ pt.length ≤ 100 ∧ (∀ m ∈ p0 :: pt, m ∈ z :: rnm rs) ∧ ∀ l' H', H l' = none → Same H H' → SkAt H' l' p0 (straightP z rs p0 pt) → Q (.ref l') H') [] := by
  refine T.cal 98 86 (d := d_law_straight) (S := s_law_straight) (hb := fun _ _ _ _ _ _ us hl => match us, hl with | [_, _], _ => rfl) (len := fun vs H Q E h => ?_) (hbody := fun cdv A outer s H vs Q E hr h => ?_)
  · obtain ⟨l, lp, z, rs, p0, pt, rfl, hS, good, hfew, hlp, hptl, hm, k⟩ := h
    rfl
  · obtain ⟨l, lp, z, rs, p0, pt, rfl, hS, good, hfew, hlp, hptl, hm, k⟩ := h
    refine ⟨_, (pss_cons (ps_par (i := 2) (j := 3) (by rfl) s_law_straight.nd rfl rfl (by decide) rfl rfl (pa_cons (pe_ix (ix_listK (K := K) rfl) (pe_c (c_law_hung T) hr (by decide) rfl (pa_cons (pv 0) (pa_cons (pe_ix (ix_listK (K := K) rfl) (pv 1) pe_int (fun _ _ => rfl)) pa_nil))) pe_int (fun _ _ => rfl)) (pa_cons (pe_lst pa_nil) pa_nil)) (by rfl))
      (pss_cons (ps_setLc (i := 4) (own := [("_law_name", 5)]) (g := (gName 5)) rfl s_law_straight.nd rfl rfl (sw_true rfl rfl rfl (by decide +kernel)) (pi_list (pe_c (c_law_named T) hr (by decide) rfl (pa_cons (pv 0) pa_nil))) (blkOk_by (N := ["_law_sketch_here", "_law_picked", "_law_base", "_law_rows", "_law_others", "_law_name", "_law_start", "_law_one"]) (sc := d_law_straight.scope) (own := [("_law_name", 5)]) (by decide +kernel)) (fun _ _ _ _ _ => (pg_name (i := 5) s_law_straight.nd rfl (Or.inl rfl))) (fun _ _ _ _ _ => pts_one (pt_cmpR (op_notIn_seqK (K := K) rfl) (pv 5) (pv 1) (by rfl))) (fun _ _ _ _ _ => (pv 5)))
      (pss_cons (ps_for PassesOwn.never rfl (pi_list (pe_op op_cat (pe_callTy (T := "list") call_list_of (by rfl) (T.f 105) (by decide +kernel) (pa_cons (pe_slice (sl_listK (K := K) rfl) (pv 1) (po_some pe_int) po_none) pa_nil)) (pv 4))) (pg_name (i := 5) s_law_straight.nd rfl (Or.inl rfl))
      (pss_cons (ps_set (i := 6) s_law_straight.nd rfl (Or.inl rfl) (pe_ix (ix_listK (K := K) rfl) (pv 1) pe_int (fun _ _ => rfl)))
        (C8.pss_cut (ps_if (pt_cmpR (op_notIn_seqK (K := K) rfl) (pv 5) (pv 1) (by rfl)) (pss_one (ps_set (i := 6) s_law_straight.nd rfl (Or.inl rfl) (pe_ix (ix_listK (K := K) rfl) (pe_lc (own := [("_law_one", 7)]) (g := (gName 7)) rfl s_law_straight.nd (pi_list (pe_c (c_law_way_up T) hr (by decide) rfl (pa_cons (pv 2) (pa_cons (pv 5) pa_nil)))) (blkOk_by (N := ["_law_sketch_here", "_law_picked", "_law_base", "_law_rows", "_law_others", "_law_name", "_law_start", "_law_one"]) (sc := d_law_straight.scope) (own := [("_law_one", 7)]) (by decide +kernel)) (fun _ _ _ _ _ => (pg_name (i := 7) s_law_straight.nd rfl (Or.inl rfl))) (fun _ _ _ _ _ => pts_one (pt_cmpR (op_in_seqK (K := K) rfl) (pv 7) (pv 1) (by rfl))) (fun _ _ _ _ _ => (pv 7))) pe_int (fun _ _ => rfl)))) pss_nil)
        (pss_one (ps_expr (pe_bm PySem.F.plainAttrs_list PySem.F.slot_list_append PySem.F.type_list_append mt_append (pv 3) (pa_cons (pe_tup (pa_cons (pv 5) (pa_cons (pv 6) (pa_cons (pe_c (c_law_down T) hr (by decide) rfl (pa_cons (pv 2) (pa_cons (pv 6) (pa_cons (pv 5) pa_nil)))) pa_nil)))) pa_nil)))))))
      (pss_one (ps_ret (pe_lst (pa_cons (pe_ix (ix_listK (K := K) rfl) (pv 1) pe_int (fun _ _ => rfl)) (pa_cons (pv 3) pa_nil)))))))), ?_⟩
    have m0 := hm p0 (List.mem_cons_self ..)
    have gH := good_hung good m0
    have hmem := hung_mem good m0
    have hHl := hung_len good m0
    have eR := straight_rows z rs p0 pt
    refine ⟨_, rfl, _, rfl, lp, _, _, _, rfl, rfl, SqL.of hlp, at_words (ws := p0 :: pt) (i := 0) rfl, l, z, p0, rs, rfl, hS, good, hfew, m0, fun h1 H1 hh1 s1 hSh => ?_⟩
    generalize straightP z rs p0 pt = R at *
    generalize hungP rs p0 = h at *
    obtain ⟨b, hb1, hRb⟩ := hSh
    have hRb0 := hRb
    refine ⟨h1, _, _, _, rfl, rfl, SqL.of hb1, atI_nat (j := 1) rfl, Nat.zero_le _, fun r0 hr0 => ⟨_, _, rfl, ?_⟩⟩
    have s2 := same_new (o := .lst []) hr0
    have s12 := s1.trans s2
    have hRb := hRb.ext s2
    have hrH : H r0 = none := s1.free hr0
    have hr2 : (upd H1 r0 (.lst [])) r0 = some (.lst []) := upd_same
    generalize upd H1 r0 (.lst []) = H2 at s12 hRb hr2 ⊢
    clear s2
    dsimp only
    with_reducible refine r_seq ?_
    refine r_asg (tlc_strs (K := K) (j := 5) (ks := z :: rnm rs.reverse) (f := fun n => decide (n ∉ p0 :: pt)) (El := fun n v _ => v = .str n) (fun _ _ _ _ _ h => h) (by show 5 < 8; decide) ?_ ?_ ?_ fun D H3 vs3 hD3 s3 h3 p3 => ?_)
    · rw [List.length_cons, rnm_rev, List.length_reverse]
      have : (rnm rs).length = rs.length := List.length_map _
      omega
    · exact fun Q q => ⟨_, rfl, l, z, rs, rfl, hS.ext s12, hfew, fun q3 H3 hq3 s3 h3 => q q3 H3 s3 (SqL.of h3)⟩
    · intro n σ2 H5 Kt Kf hn s5 e1 e2 kt kf
      refine ⟨_, e2, _, (e1 1 (by decide)).trans rfl, lp, _, rfl, Or.inl (SqL.of ((s12.trans s5) _ _ hlp)), rfl, flat_strs _, _, rfl, ?_⟩
      rw [inV_strs]
      by_cases hu : n ∈ p0 :: pt
      · rw [decide_eq_true hu]
        exact kf (decide_eq_false fun z => z hu) _ (Same.refl _)
      · rw [decide_eq_false hu]
        exact ⟨_, e2, kt (decide_eq_true hu) _ _ (Same.refl _) rfl⟩
    have ev := p_str1 p3
    subst ev
    have hnl : (rnm rs).length = rs.length := List.length_map _
    have hol := List.length_filter_le (fun n => decide (n ∉ p0 :: pt)) (z :: rnm rs.reverse)
    rw [List.length_cons, rnm_rev, List.length_reverse, hnl] at hol
    rw [rnm_rev] at *
    have hon : ∀ n ∈ pt ++ (z :: (rnm rs).reverse).filter (fun n => decide (n ∉ p0 :: pt)), n ∈ p0 :: rnm h := fun n hn => by
      rcases List.mem_append.mp hn with q | q
      · exact (hmem n).mpr (hm n (List.mem_cons_of_mem _ q))
      · refine (hmem n).mpr ?_
        have := (List.mem_filter.mp q).1
        rcases List.mem_cons.mp this with w | w
        · rw [w]; exact List.mem_cons_self ..
        · exact List.mem_cons_of_mem _ (List.mem_reverse.mp w)
    generalize (z :: (rnm rs).reverse).filter (fun n => decide (n ∉ p0 :: pt)) = oth at *
    have s13 := s12.trans s3
    with_reducible refine r_gn ?_
    refine ⟨_, rfl, _, rfl, lp, _, rfl, SqL.of (s13 _ _ hlp), fun q1 hq1 => ?_⟩
    have ec : cutV ((p0 :: pt).map V.str) (some 1) none = pt.map V.str := cut_tail _ _
    rw [ec]
    have s4 := same_new (o := .lst (pt.map V.str)) hq1
    refine ⟨q1, _, rfl, Or.inl (SqL.of upd_same), fun q2 hq2 => ?_⟩
    have s5 := same_new (o := .lst (pt.map V.str)) hq2
    refine ⟨_, rfl, q2, D, _, _, rfl, rfl, upd_same, s5 _ _ (s4 _ _ h3), ?_, fun c hc => ?_⟩
    · rw [List.length_map, List.length_map]
      exact len_sl (by omega)
    have s6 := same_new (o := .lst (pt.map V.str ++ oth.map V.str)) hc
    have s36 := s4.trans (s5.trans s6)
    have hc6 : (upd (upd (upd H3 q1 (.lst (pt.map V.str))) q2 (.lst (pt.map V.str))) c (.lst (pt.map V.str ++ oth.map V.str))) c = some (.lst ((pt ++ oth).map V.str)) := by rw [upd_same, List.map_append]
    have hr3 := s3 _ _ hr2
    have hcr : c ≠ r0 := fun e => by rw [e, s5 _ _ (s4 _ _ hr3)] at hc; cases hc
    have hRb3 := (hRb.ext s3).ext s36
    have hr6 := s36 _ _ hr3
    have s16 := s13.trans s36
    generalize upd (upd (upd H3 q1 (.lst (pt.map V.str))) q2 (.lst (pt.map V.str))) c (.lst (pt.map V.str ++ oth.map V.str)) = H6 at hc6 hRb3 hr6 s16 ⊢
    have hlpr : lp ≠ r0 := fun e => by rw [e, hrH] at hlp; cases hlp
    obtain ⟨vsb, hbb, pvb⟩ := hRb3
    have hbr : b ≠ r0 := fun e => by
      obtain ⟨vsb1, hbb1, _⟩ := hRb0
      rw [e, hr0] at hbb1
      cases hbb1
    refine ⟨c, rfl, ⟨_, SqL.of hc6⟩, for_list (K := K) (xs := (pt ++ oth).map V.str) (fun i σ' H' => ∃ o5 o6 vs, σ' = [some (.ref l), some (.ref lp), some (.ref b), some (.ref r0), some (.ref D), o5, o6, none] ∧ Bt r0 H6 H' ∧ H' r0 = some (.lst vs) ∧ Paired (LRowAt H') (((pt ++ oth).take i).map (rowOf h p0 pt)) vs) ?_ ?_ ?_ ?_⟩
    · exact ⟨none, none, [], rfl, fun _ _ _ h => h, hr6, .nil⟩
    · rintro i σ' H' _ ⟨_, _, _, _, b2, _⟩
      exact SqL.of (b2 _ _ hcr hc6)
    · rintro i x σ' H' hx ⟨o5, o6, vs, rfl, b2, hrv, pvs⟩
      rw [List.getElem?_map] at hx
      cases hn : (pt ++ oth)[i]? with
      | none => rw [hn] at hx; cases hx
      | some n =>
        rw [hn] at hx
        cases hx
        have hnm := hon n (List.mem_of_getElem? hn)
        have et : (pt ++ oth).take (i + 1) = (pt ++ oth).take i ++ [n] := by rw [List.take_add_one, hn]; rfl
        have hil := (List.getElem?_eq_some_iff.mp hn).1
        rw [List.length_append] at hil
        have sA : Same H H' := b2.same s16 hrH
        have kB : Kp H6 H' := b2.kp hr6 (fun h => h.elim)
        have hRx : RowsL H' b h.reverse := ⟨vsb, b2 _ _ hbr hbb, p_imp pvb fun _ _ q => q.kp kB⟩
        have hlp2 := sA _ _ hlp
        refine ⟨_, rfl, lp, _, _, _, rfl, rfl, SqL.of hlp2, at_words (ws := p0 :: pt) (i := 0) rfl, ?_⟩
        refine ⟨fun σ2 H7 => ∃ st, σ2 = [some (.ref l), some (.ref lp), some (.ref b), some (.ref r0), some (.ref D), some (.str n), some (.str st), none] ∧ Same H' H7 ∧ (rowOf h p0 pt n) = (n, st, betP h st n) ∧ st ∈ upR h n, ?_, ?_⟩
        · refine ⟨_, rfl, _, rfl, lp, _, rfl, Or.inl (SqL.of hlp2), rfl, flat_strs _, _, rfl, ?_⟩
          rw [inV_strs]
          by_cases hu : n ∈ p0 :: pt
          · rw [decide_eq_true hu]
            refine iteF ?_
            refine ⟨p0, rfl, Same.refl _, ?_, up_z gH hnm⟩
            unfold rowOf
            rw [if_pos hu]
            rfl
          · rw [decide_eq_false hu]
            refine iteT ?_
            refine r_asg ?_
            unfold tOp
            refine tlc_strs (K := K) (j := 7) (ks := upR h n) (f := fun m => decide (m ∈ p0 :: pt)) (El := fun n v _ => v = .str n) (fun _ _ _ _ _ h => h) ?_ ?_ ?_ ?_ fun D2 H7 vs7 hD7 s7 h7 p7 => ?_
            · show 7 < 8
              decide
            · have := up_len h n
              omega
            · exact fun Q q => ⟨_, rfl, _, rfl, b, p0, n, h, rfl, hRx, gH, by omega, hnm, fun q3 H3 hq3 s3 h3 => q q3 H3 s3 (SqL.of h3)⟩
            · intro m σ2 H8 Kt Kf hmm s8 e1 e2 kt kf
              refine ⟨_, e2, _, (e1 1 (by decide)).trans rfl, lp, _, rfl, Or.inl (SqL.of (s8 _ _ hlp2)), rfl, flat_strs _, _, rfl, ?_⟩
              rw [inV_strs]
              by_cases hu : m ∈ p0 :: pt
              · rw [decide_eq_true hu]
                exact ⟨_, e2, kt (decide_eq_true hu) _ _ (Same.refl _) rfl⟩
              · rw [decide_eq_false hu]
                exact kf (decide_eq_false hu) _ (Same.refl _)
            · obtain ⟨t7, e7⟩ := last_first gH (List.mem_cons_self .. : p0 ∈ p0 :: pt) hnm
              have ev := p_str1 p7
              rw [e7] at ev
              subst ev
              refine ⟨D2, _, _, _, rfl, rfl, SqL.of h7, at_words (ws := lastZ h (p0 :: pt) p0 n :: t7) (i := 0) rfl, ?_⟩
              refine ⟨lastZ h (p0 :: pt) p0 n, rfl, s7, ?_, ?_⟩
              · unfold rowOf
                rw [if_neg hu]
                rfl
              · have : lastZ h (p0 :: pt) p0 n ∈ (upR h n).filter (fun m => decide (m ∈ p0 :: pt)) := by rw [e7]; exact List.mem_cons_self ..
                exact (List.mem_filter.mp this).1
        · rintro σ2 H7 ⟨st, rfl, s7, er, hst⟩
          have hrv7 := s7 _ _ hrv
          refine ⟨_, rfl, Or.inl ⟨rfl, _, SqL.of hrv7⟩, _, rfl, _, rfl, _, rfl, _, rfl, _, rfl, b, p0, st, n, h, rfl, hRx.ext s7, gH, by omega, hnm, hst, fun q H8 hq s8 h8 => ⟨sz3, fun t ht => ?_⟩⟩
          have s9 := same_new (o := .tup [.str n, .str st, .ref q]) ht
          have s79 := s7.trans (s8.trans s9)
          have hrv9 := s79 _ _ hrv
          have hvl := Paired.len pvs
          rw [List.length_map, List.length_take] at hvl
          refine ⟨r0, _, _, rfl, rfl, hrv9, Nat.lt_of_le_of_lt (by omega : _ ≤ 1000) (by decide), ?_⟩
          have htr : t ≠ r0 := fun e => by rw [e, s8 _ _ hrv7] at ht; cases ht
          have hqr : q ≠ r0 := fun e => by rw [e, hrv7] at hq; cases hq
          have k9 : Kp (upd H8 t (.tup [.str n, .str st, .ref q])) (upd (upd H8 t (.tup [.str n, .str st, .ref q])) r0 (.lst (vs ++ [.ref t]))) := Kp.updL hrv9
          refine ⟨_, _, vs ++ [.ref t], rfl, b2.trans ((Bt.of s79).trans Bt.upd), upd_same, ?_⟩
          rw [et, List.map_append]
          refine p_app (p_imp pvs fun _ _ h => (h.kp (Kp.of s79)).kp k9) (p_one ?_)
          rw [er, bet_down gH hnm hst]
          refine ⟨t, q, rfl, ?_, ?_⟩
          · rw [upd_ne htr]; exact upd_same
          · rw [upd_ne hqr]; exact s9 _ _ h8
    · rintro σ' H' ⟨o5, o6, vs, rfl, b2, hrv, pvs⟩
      rw [List.length_map, List.take_length] at pvs
      have sA : Same H H' := b2.same s16 hrH
      refine ⟨_, rfl, lp, _, _, _, rfl, rfl, SqL.of (sA _ _ hlp), at_words (ws := p0 :: pt) (i := 0) rfl, _, rfl, sz2, fun l' hl' => ?_⟩
      have s9 := same_new (o := .lst [.str p0, .ref r0]) hl'
      refine k l' _ (sA.free hl') (sA.trans s9) ⟨r0, upd_same, vs, s9 _ _ hrv, ?_⟩
      rw [eR]
      exact p_imp pvs fun _ _ h => h.kp (Kp.of s9)
end
end Fw
set_option Elab.async false
set_option linter.all false
set_option maxRecDepth 100000
set_option maxHeartbeats 4000000
namespace Fw
open PySem PySem.Spec PyProof.Rows L2
open C8 (Cal CalAt Met Mak pe_c pe_mk pe_mt pe_mt0 pe_gc InsC call_isC)

section
variable {P : Program} {w : World} {K : PySem.W.Frag} {mg : Str → Option Value} {base : Heap}

theorem erase_map {α β : Type} (f : α → β) : ∀ (l : List α) (t : Nat), (l.map f).eraseIdx t = (l.eraseIdx t).map f
  | [], t => by simp
  | x :: l, 0 => rfl
  | x :: l, t + 1 => by
    show f x :: (l.map f).eraseIdx t = f x :: (l.eraseIdx t).map f
    rw [erase_map f l t]
theorem erase_perm {α : Type} : ∀ (l : List α) (t : Nat) (x : α), l[t]? = some x → (x :: l.eraseIdx t).Perm l
  | [], t, x, h => by cases h
  | y :: l, 0, x, h => by
    cases h
    exact .refl _
  | y :: l, t + 1, x, h => by
    have ih := erase_perm l t x h
    exact (List.Perm.swap y x (l.eraseIdx t)).trans (.cons y ih)
theorem mem_rev {z n : Str} {rs : List Row} : n ∈ z :: rnm rs.reverse ↔ n ∈ z :: rnm rs := mem_names
theorem names_nodup {z : Str} {rs : List Row} (g : Good z rs) : (z :: rnm rs.reverse).Nodup := by
  rw [rnm_rev]
  refine List.nodup_cons.mpr ⟨fun h => g.zn (List.mem_reverse.mp h), ?_⟩
  exact (List.reverse_perm _).nodup_iff.mpr (List.nodup_cons.mp g.nodup).2
theorem names_len (z : Str) (rs : List Row) : (z :: rnm rs.reverse).length = rs.length + 1 := by
  rw [List.length_cons, rnm_rev, List.length_reverse]
  exact congrArg Nat.succ (List.length_map _)
theorem at_intD {xs : List Int} {j : Nat} (h : j < xs.length) : atI (xs.map V.int) (j : Int) = some (.int (xs.getD j 0)) := by
  refine atI_nat ?_
  rw [List.getElem?_map, List.getElem?_eq_getElem h, List.getD_eq_getElem?_getD, List.getElem?_eq_getElem h]
  rfl
theorem s_law_zeros : FnScope ["_law_purse_here", "_law_sketch_here", "_law_left", "_law_found", "_law_most_of", "_law_k"] ["_law_purse_here", "_law_sketch_here"] d_law_zeros.scope := ⟨rfl, rfl, rfl, by decide +kernel, rfl, by decide +kernel, by decide +kernel⟩
theorem c_law_zeros (T : Txt w K mg) : Cal P w K mg base 2 "_law_zeros" (fun vs H Q _ => ∃ (p l : Addr) (z : Str) (rs : List Row), vs = [.ref p, .ref l] ∧ PurseAt H p ∧ SkAt H l z rs ∧ Good z rs ∧ rs.length ≤ 11 ∧ ∀ f p0 pt H', H f = none → Bt p H H' → PurseAt H' p → H' f = some (.lst ((p0 :: pt).map V.str)) → (p0 :: pt).Nodup → (∀ m ∈ p0 :: pt, m ∈ z :: rnm rs) → pt.length ≤ 12 → Q (.ref f) H') [] := by
  refine T.cal 99 87 (d := d_law_zeros) (S := s_law_zeros) (hb := fun _ _ _ _ _ _ us hl => match us, hl with | [_, _], _ => rfl) (len := fun vs H Q E h => ?_) (hbody := fun cdv A outer s H vs Q E hr h => ?_)
  · obtain ⟨p, l, z, rs, rfl, hp, hS, good, hfew, k⟩ := h
    rfl
  · obtain ⟨p, l, z, rs, rfl, hp, hS, good, hfew, k⟩ := h
    refine ⟨_, (pss_cons (ps_par (i := 2) (j := 3) (by rfl) s_law_zeros.nd rfl rfl (by decide) rfl rfl (pa_cons (pe_c (c_law_named T) hr (by decide) rfl (pa_cons (pv 1) pa_nil)) (pa_cons (pe_lst pa_nil) pa_nil)) (by rfl))
      (pss_cons (ps_set (i := 4) s_law_zeros.nd rfl (Or.inl rfl) (pe_ix (ix_listK (K := K) rfl) (pe_lst (pa_cons (pe_callB (id := "len") (call_len_seqK (K := K) rfl) (by rfl) (T.f 104) (by decide +kernel) (pa_cons (pv 2) pa_nil)) (pa_cons (pe_callB (id := "min") (call_min2 rfl) (by rfl) (T.f 107) (by decide +kernel) (pa_cons pe_int (pa_cons (pe_callB (id := "len") (call_len_seqK (K := K) rfl) (by rfl) (T.f 104) (by decide +kernel) (pa_cons (pv 2) pa_nil)) pa_nil))) pa_nil))) (pe_callTy (T := "int") call_int1 (by rfl) (T.f 102) (by decide +kernel) (pa_cons (pe_cmpR op_gt (pe_c (c_law_take T) hr (by decide) rfl (pa_cons (pv 0) (pa_cons pe_int pa_nil))) pe_int (nomark _)) pa_nil)) (fun _ _ => rfl)))
      (pss_cons (ps_for PassesOwn.never rfl (pi_range1 (by rfl) (T.f 108) (pa_cons (pe_op op_add pe_int (pe_c (c_law_take T) hr (by decide) rfl (pa_cons (pv 0) (pa_cons (pv 4) pa_nil)))) pa_nil)) (pg_name (i := 5) s_law_zeros.nd rfl (Or.inl rfl))
      (pss_one (ps_expr (pe_bm PySem.F.plainAttrs_list PySem.F.slot_list_append PySem.F.type_list_append mt_append (pv 3) (pa_cons (pe_bm PySem.F.plainAttrs_list PySem.F.slot_list_pop PySem.F.type_list_pop mt_popAt (pv 2) (pa_cons (pe_c (c_law_take T) hr (by decide) rfl (pa_cons (pv 0) (pa_cons (pe_callB (id := "len") (call_len_seqK (K := K) rfl) (by rfl) (T.f 104) (by decide +kernel) (pa_cons (pv 2) pa_nil)) pa_nil))) pa_nil)) pa_nil)))))
      (pss_one (ps_ret (pv 3)))))), ?_⟩
    refine ⟨_, rfl, l, z, rs, rfl, hS, by omega, fun lf0 H1 hlf s1 h1 => ⟨Nat.zero_le _, fun f hf => ⟨_, _, rfl, ?_⟩⟩⟩
    have s2 := same_new (o := .lst []) hf
    have s12 := s1.trans s2
    have hfH : H f = none := s1.free hf
    have hlfH : H lf0 = none := hlf
    have hl2 := s2 _ _ h1
    have hf2 : (upd H1 f (.lst [])) f = some (.lst ([] : List V)) := upd_same
    have hlff : lf0 ≠ f := fun e => by rw [e, hf] at h1; cases h1
    generalize upd H1 f (.lst []) = H2 at s12 hl2 hf2 ⊢
    have hN := names_len z rs
    have hperm : (([] : List Str) ++ (z :: rnm rs.reverse)).Perm (z :: rnm rs.reverse) := .refl _
    have hnd := names_nodup good
    have hin : ∀ m, m ∈ z :: rnm rs.reverse → m ∈ z :: rnm rs := fun m h => mem_names.mp h
    generalize z :: rnm rs.reverse = ns at *
    have hp2 := hp.ext s12
    have hlfp : lf0 ≠ p := hp2.ne hl2 (strs_ne ns)
    have hfp : f ≠ p := hp.nn hfH
    have hc : ((ns.map V.str).length : Int) = (rs.length : Int) + 1 := by
      rw [List.length_map, hN]
      rfl
    refine ⟨_, rfl, _, _, rfl, Or.inl (SqL.of hl2), _, rfl, _, _, rfl, Or.inl (SqL.of hl2), _, _, rfl, sz2, fun c hcn => ?_⟩
    have s3 := same_new (o := .lst [.int ((ns.map V.str).length : Int), .int (if ((ns.map V.str).length : Int) < 4 then ((ns.map V.str).length : Int) else 4)]) hcn
    have hcp := hp2.nn hcn
    refine ⟨_, rfl, p, 8, rfl, by decide, by decide, hp2.ext s3, fun t H4 t0 t1 b4 hp4 => ?_⟩
    refine ⟨_, _, rfl, rfl, ?_⟩
    have key : ∃ most : Int, atI [V.int ((ns.map V.str).length : Int), V.int (if ((ns.map V.str).length : Int) < 4 then ((ns.map V.str).length : Int) else 4)] (if decide (0 < t) = true then 1 else 0 : Int) = some (.int most) ∧ 1 ≤ most ∧ most ≤ (rs.length : Int) + 1 := by
      by_cases h : 0 < t
      · rw [decide_eq_true h]
        refine ⟨_, atI_nat (j := 1) rfl, ?_, ?_⟩
        · rw [hc]
          split <;> omega
        · rw [hc]
          split <;> omega
      · rw [decide_eq_false h]
        exact ⟨_, atI_nat (j := 0) rfl, by omega, by omega⟩
    obtain ⟨most, hat, hm1, hm2⟩ := key
    refine Or.inr ⟨_, rfl, c, _, _, _, rfl, rfl, SqL.of (b4 _ _ hcp upd_same), hat, ?_⟩
    have b24 : Bt p H2 H4 := (Bt.of s3).trans b4
    have hl4 := b24 _ _ hlfp hl2
    have hf4 := b24 _ _ hfp hf2
    have b04 : Bt p H H4 := (Bt.of s12).trans b24
    refine ⟨_, rfl, _, rfl, p, most, rfl, by omega, by omega, hp4, fun t2 H5 t20 t21 b5 hp5 => ⟨_, _, rfl, rfl, (1 + t2), rfl, by omega, by omega, for_range (lo := 0) (n := (1 + t2).toNat) (fun i σ' H' => ∃ (fd lf : List Str) (o5 : Option V), σ' = [some (.ref p), some (.ref l), some (.ref lf0), some (.ref f), some (.int most), o5] ∧ Bt p H H' ∧ PurseAt H' p ∧ H' lf0 = some (.lst (lf.map V.str)) ∧ H' f = some (.lst (fd.map V.str)) ∧ (fd ++ lf).Perm ns ∧ fd.length = i) ?_ ?_ ?_⟩⟩
    · exact ⟨[], ns, none, rfl, b04.trans b5, hp5, b5 _ _ hlfp hl4, b5 _ _ hfp hf4, hperm, rfl⟩
    · rintro i σ' H' hi ⟨fd, lf, o5, rfl, b, hp', hL, hF, hpm, hfl⟩
      have hpl := hpm.length_eq
      rw [List.length_append, hN] at hpl
      have hlfl : 0 < lf.length := by omega
      have hml : ((lf.map V.str).length : Int) = (lf.length : Int) := by rw [List.length_map]
      refine ⟨_, rfl, Or.inl ⟨rfl, _, SqL.of hF⟩, _, rfl, Or.inl ⟨rfl, _, SqL.of hL⟩, _, rfl, _, rfl, _, _, rfl, Or.inl (SqL.of hL), p, _, rfl, by omega, by omega, hp', fun t3 H7 t30 t31 b7 hp7 => ?_⟩
      rw [hml] at t31
      obtain ⟨zz, hzz, hat3⟩ := at_strs (xs := lf) t30 t31
      obtain ⟨j, hj1, hj2, hj3, hj4, hj5⟩ := atI_get hat3
      have hj6 : lf[j]? = some zz := by
        rw [List.getElem?_map] at hj2
        cases e : lf[j]? with
        | none => rw [e] at hj2; cases hj2
        | some w =>
          rw [e] at hj2
          cases hj2
          rfl
      have hL7 := b7 _ _ hlfp hL
      have hF7 := b7 _ _ hfp hF
      refine ⟨lf0, _, t3, j, _, rfl, rfl, hL7, by omega, by omega, hj1, hj2, ?_⟩
      rw [erase_map]
      refine ⟨f, fd.map V.str, _, rfl, rfl, ?_, ?_, ?_⟩
      · rw [upd_ne hlff.symm]; exact hF7
      · rw [List.length_map]
        exact Nat.lt_of_le_of_lt (by omega : _ ≤ 200) (by decide)
      · refine ⟨fd ++ [zz], lf.eraseIdx j, _, rfl, bt_mut (bt_mut (b.trans b7) hlfH) hfH, ?_, ?_, ?_, ?_, ?_⟩
        · obtain ⟨x, y, w, h⟩ := hp7
          exact ⟨x, y, w, by rw [upd_ne hfp.symm, upd_ne hlfp.symm]; exact h⟩
        · rw [upd_ne hlff]; exact upd_same
        · rw [upd_same, List.map_append]
          rfl
        · rw [List.append_assoc]
          exact (List.Perm.append_left fd (erase_perm lf j zz hj6)).trans hpm
        · rw [List.length_append, hfl]
          rfl
    · rintro σ' H' ⟨fd, lf, o5, rfl, b, hp', hL, hF, hpm, hfl⟩
      have hnd2 := (hpm.nodup_iff).mpr hnd
      have hpl := hpm.length_eq
      rw [List.length_append, hN] at hpl
      cases fd with
      | nil =>
        exfalso
        have hfl : 0 = (1 + t2).toNat := hfl
        omega
      | cons p0 pt =>
        rw [List.length_cons] at hpl
        exact ⟨_, rfl, k f p0 pt H' hfH b hp' hF (List.nodup_append.mp hnd2).1 (fun m hm => hin m (hpm.mem_iff.mp (List.mem_append_left _ hm))) (by omega)⟩
end
end Fw
set_option Elab.async false
set_option linter.all false
set_option maxRecDepth 100000
set_option maxHeartbeats 4000000
namespace Fw
open PySem PySem.Spec PyProof.Rows L2
open C8 (Cal CalAt Met Mak pe_c pe_mk pe_mt pe_mt0 pe_gc InsC call_isC)

section
variable {P : Program} {w : World} {K : PySem.W.Frag} {mg : Str → Option Value} {base : Heap}

structure WOk (z : Str) (rs : List Row) (wt : Want) : Prop where
  m1 : wt.1 ∈ z :: rnm rs
  m2 : wt.2.1 ∈ z :: rnm rs
  md : Pmd wt.2.2
  ab : 0 ≤ wt.2.2.2.1 + wt.2.2.2.2
/-- what is known of every road -/
def ApB (z : Str) (rs : List Row) : Prop := ∀ n m, n ∈ z :: rnm rs → m ∈ z :: rnm rs → -6259 ≤ (betP rs n m).1 - (betP rs n m).2.2 ∧ (betP rs n m).1 + (betP rs n m).2.1 ≤ 6259 ∧ 0 ≤ (betP rs n m).2.1 + (betP rs n m).2.2 ∧ (betP rs n m).2.1 + (betP rs n m).2.2 ≤ 330
theorem wants_num {lo hi mo sz : Int} {j : Nat} (hj : j < 5) (h1 : -6259 ≤ lo) (h2 : hi ≤ 6259) (h3 : lo ≤ hi) (h4 : hi ≤ lo + 330) (m0 : 0 ≤ mo) (m1 : mo < 3) (s0 : 0 ≤ sz) (s1 : sz < 4) :
    Pmd ([lo, lo - mo, lo + mo, lo, hi + 1].getD j 0 + sz, [hi, hi, hi, lo, hi].getD j 0 + [0, mo, mo, 0, 9].getD j 0 - ([lo, lo - mo, lo + mo, lo, hi + 1].getD j 0 + sz), [lo, lo - mo, lo + mo, lo, hi + 1].getD j 0 + sz - [lo, lo - mo, lo + mo, lo, hi + 1].getD j 0) ∧
    0 ≤ [hi, hi, hi, lo, hi].getD j 0 + [0, mo, mo, 0, 9].getD j 0 - ([lo, lo - mo, lo + mo, lo, hi + 1].getD j 0 + sz) + ([lo, lo - mo, lo + mo, lo, hi + 1].getD j 0 + sz - [lo, lo - mo, lo + mo, lo, hi + 1].getD j 0) := by
  match j, hj with
  | 0, _ =>
    show ((-6400 < lo + sz ∧ lo + sz < 6400) ∧ (-6400 < hi + 0 - (lo + sz) ∧ hi + 0 - (lo + sz) < 6400) ∧ (-6400 < lo + sz - lo ∧ lo + sz - lo < 6400)) ∧ 0 ≤ hi + 0 - (lo + sz) + (lo + sz - lo)
    omega
  | 1, _ =>
    show ((-6400 < lo - mo + sz ∧ lo - mo + sz < 6400) ∧ (-6400 < hi + mo - (lo - mo + sz) ∧ hi + mo - (lo - mo + sz) < 6400) ∧ (-6400 < lo - mo + sz - (lo - mo) ∧ lo - mo + sz - (lo - mo) < 6400)) ∧ 0 ≤ hi + mo - (lo - mo + sz) + (lo - mo + sz - (lo - mo))
    omega
  | 2, _ =>
    show ((-6400 < lo + mo + sz ∧ lo + mo + sz < 6400) ∧ (-6400 < hi + mo - (lo + mo + sz) ∧ hi + mo - (lo + mo + sz) < 6400) ∧ (-6400 < lo + mo + sz - (lo + mo) ∧ lo + mo + sz - (lo + mo) < 6400)) ∧ 0 ≤ hi + mo - (lo + mo + sz) + (lo + mo + sz - (lo + mo))
    omega
  | 3, _ =>
    show ((-6400 < lo + sz ∧ lo + sz < 6400) ∧ (-6400 < lo + 0 - (lo + sz) ∧ lo + 0 - (lo + sz) < 6400) ∧ (-6400 < lo + sz - lo ∧ lo + sz - lo < 6400)) ∧ 0 ≤ lo + 0 - (lo + sz) + (lo + sz - lo)
    omega
  | 4, _ =>
    show ((-6400 < hi + 1 + sz ∧ hi + 1 + sz < 6400) ∧ (-6400 < hi + 9 - (hi + 1 + sz) ∧ hi + 9 - (hi + 1 + sz) < 6400) ∧ (-6400 < hi + 1 + sz - (hi + 1) ∧ hi + 1 + sz - (hi + 1) < 6400)) ∧ 0 ≤ hi + 9 - (hi + 1 + sz) + (hi + 1 + sz - (hi + 1))
    omega
theorem s_law_wants : FnScope ["_law_purse_here", "_law_sketch_here", "_law_many", "_law_names", "_law_found", "_law_k", "_law_one", "_law_other", "_law_low", "_law_high", "_law_pick", "_law_more", "_law_least", "_law_most", "_law_size"] ["_law_purse_here", "_law_sketch_here", "_law_many"] d_law_wants.scope := ⟨rfl, rfl, rfl, by decide +kernel, rfl, by decide +kernel, by decide +kernel⟩
theorem c_law_wants (T : Txt w K mg) : Cal P w K mg base 4 "_law_wants" (fun vs H Q _ => ∃ (p l : Addr) (z : Str) (rs : List Row) (many : Int), vs = [.ref p, .ref l, .int many] ∧ PurseAt H p ∧ SkAt H l z rs ∧ Good z rs ∧ rs.length ≤ 100 ∧ ApB z rs ∧ 0 ≤ many ∧ many ≤ 6 ∧ ∀ f wts H', H f = none → Bt p H H' → PurseAt H' p → RowsL H' f wts → (∀ wt ∈ wts, WOk z rs wt) → wts.length ≤ 6 → Q (.ref f) H') [] := by
  refine T.cal 101 89 (d := d_law_wants) (S := s_law_wants) (hb := fun _ _ _ _ _ _ us hl => match us, hl with | [_, _, _], _ => rfl) (len := fun vs H Q E h => ?_) (hbody := fun cdv A outer s H vs Q E hr h => ?_)
  · obtain ⟨p, l, z, rs, many, rfl, hp, hS, good, hfew, hB, m0, m6, k⟩ := h
    rfl
  · obtain ⟨p, l, z, rs, many, rfl, hp, hS, good, hfew, hB, m0, m6, k⟩ := h
    refine ⟨_, (pss_cons (ps_par (i := 3) (j := 4) (by rfl) s_law_wants.nd rfl rfl (by decide) rfl rfl (pa_cons (pe_c (c_law_named T) hr (by decide) rfl (pa_cons (pv 1) pa_nil)) (pa_cons (pe_lst pa_nil) pa_nil)) (by rfl))
      (pss_cons (ps_for PassesOwn.never rfl (pi_range1 (by rfl) (T.f 108) (pa_cons (pv 2) pa_nil)) (pg_name (i := 5) s_law_wants.nd rfl (Or.inl rfl))
      (pss_cons (ps_par (i := 6) (j := 7) (by rfl) s_law_wants.nd rfl rfl (by decide) rfl rfl (pa_cons (pe_ix (ix_listK (K := K) rfl) (pv 3) (pe_c (c_law_take T) hr (by decide) rfl (pa_cons (pv 0) (pa_cons (pe_callB (id := "len") (call_len_seqK (K := K) rfl) (by rfl) (T.f 104) (by decide +kernel) (pa_cons (pv 3) pa_nil)) pa_nil))) (fun _ _ => rfl)) (pa_cons (pe_ix (ix_listK (K := K) rfl) (pv 3) (pe_c (c_law_take T) hr (by decide) rfl (pa_cons (pv 0) (pa_cons (pe_callB (id := "len") (call_len_seqK (K := K) rfl) (by rfl) (T.f 104) (by decide +kernel) (pa_cons (pv 3) pa_nil)) pa_nil))) (fun _ _ => rfl)) pa_nil)) (by rfl))
        (pss_cons (ps_asg (pe_c (c_law_apart T) hr (by decide) rfl (pa_cons (pe_ix (ix_listK (K := K) rfl) (pv 1) pe_int (fun _ _ => rfl)) (pa_cons (pv 6) (pa_cons (pv 7) pa_nil)))) (pg_tup rfl (pgs_cons (pg_name (i := 8) s_law_wants.nd rfl (Or.inl rfl)) (pgs_cons (pg_name (i := 9) s_law_wants.nd rfl (Or.inl rfl)) pgs_nil))))
        (pss_cons (ps_par (i := 10) (j := 11) (by rfl) s_law_wants.nd rfl rfl (by decide) rfl rfl (pa_cons (pe_c (c_law_take T) hr (by decide) rfl (pa_cons (pv 0) (pa_cons pe_int pa_nil))) (pa_cons (pe_c (c_law_take T) hr (by decide) rfl (pa_cons (pv 0) (pa_cons pe_int pa_nil))) pa_nil)) (by rfl))
        (pss_cons (ps_par (i := 12) (j := 13) (by rfl) s_law_wants.nd rfl rfl (by decide) rfl rfl (pa_cons (pe_ix (ix_listK (K := K) rfl) (pe_lst (pa_cons (pv 8) (pa_cons (pe_op op_sub (pv 8) (pv 11)) (pa_cons (pe_op op_add (pv 8) (pv 11)) (pa_cons (pv 8) (pa_cons (pe_op op_add (pv 9) pe_int) pa_nil)))))) (pv 10) (fun _ _ => rfl)) (pa_cons (pe_ix (ix_listK (K := K) rfl) (pe_lst (pa_cons (pv 9) (pa_cons (pv 9) (pa_cons (pv 9) (pa_cons (pv 8) (pa_cons (pv 9) pa_nil)))))) (pv 10) (fun _ _ => rfl)) pa_nil)) (by rfl))
        (pss_cons (ps_set (i := 13) s_law_wants.nd rfl (Or.inl rfl) (pe_op op_add (pv 13) (pe_ix (ix_listK (K := K) rfl) (pe_lst (pa_cons pe_int (pa_cons (pv 11) (pa_cons (pv 11) (pa_cons pe_int (pa_cons pe_int pa_nil)))))) (pv 10) (fun _ _ => rfl))))
        (pss_cons (ps_set (i := 14) s_law_wants.nd rfl (Or.inl rfl) (pe_op op_add (pv 12) (pe_c (c_law_take T) hr (by decide) rfl (pa_cons (pv 0) (pa_cons pe_int pa_nil)))))
        (pss_one (ps_expr (pe_bm PySem.F.plainAttrs_list PySem.F.slot_list_append PySem.F.type_list_append mt_append (pv 4) (pa_cons (pe_tup (pa_cons (pv 6) (pa_cons (pv 7) (pa_cons (pe_tup (pa_cons (pv 14) (pa_cons (pe_op op_sub (pv 13) (pv 14)) (pa_cons (pe_op op_sub (pv 14) (pv 12)) pa_nil)))) pa_nil)))) pa_nil)))))))))))
      (pss_one (ps_ret (pv 4))))), ?_⟩
    refine ⟨_, rfl, l, z, rs, rfl, hS, hfew, fun n0 H1 hn0 s1 h1 => ⟨Nat.zero_le _, fun f hf => ⟨_, _, rfl, ?_⟩⟩⟩
    have s2 := same_new (o := .lst []) hf
    have s12 := s1.trans s2
    have hfH : H f = none := s1.free hf
    have hn2 := s2 _ _ h1
    have hf2 : (upd H1 f (.lst [])) f = some (.lst ([] : List V)) := upd_same
    generalize upd H1 f (.lst []) = H2 at s12 hn2 hf2 ⊢
    have hN := names_len z rs
    have hin : ∀ m, m ∈ z :: rnm rs.reverse → m ∈ z :: rnm rs := fun m h => mem_names.mp h
    generalize z :: rnm rs.reverse = ns at *
    have hp2 := hp.ext s12
    obtain ⟨l2, hl2, hR2⟩ := hS.ext s12
    have hlf : l ≠ f := fun e => by
      obtain ⟨l3, h, _⟩ := hS
      rw [e, hfH] at h
      cases h
    have hl2f : l2 ≠ f := fun e => by
      obtain ⟨l3, h, vs3, h3, _⟩ := hS
      have h4 := s12 _ _ h
      rw [hl2] at h4
      cases h4
      rw [e, hfH] at h3
      cases h3
    have hnf : n0 ≠ f := fun e => by rw [e, hf] at h1; cases h1
    have hfp : f ≠ p := hp.nn hfH
    have hml : ((ns.map V.str).length : Int) = (ns.length : Int) := by rw [List.length_map]
    refine ⟨_, rfl, many, rfl, by omega, by omega, for_range (lo := 0) (n := many.toNat) (fun i σ' H' => ∃ (vs : List V) (wts : List Want) (o5 o6 o7 o8 o9 o10 o11 o12 o13 o14 : Option V), σ' = [some (.ref p), some (.ref l), some (.int many), some (.ref n0), some (.ref f), o5, o6, o7, o8, o9, o10, o11, o12, o13, o14] ∧ Bt p H H' ∧ RowsL H' l2 rs.reverse ∧ H' l = some (.lst [.str z, .ref l2]) ∧ H' n0 = some (.lst (ns.map V.str)) ∧ PurseAt H' p ∧ H' f = some (.lst vs) ∧ Paired (LRowAt H') wts vs ∧ (∀ wt ∈ wts, WOk z rs wt) ∧ wts.length = i) ?_ ?_ ?_⟩
    · exact ⟨[], [], none, none, none, none, none, none, none, none, none, none, rfl, Bt.of s12, hR2, hl2, hn2, hp2, hf2, .nil, (fun w h => by cases h), rfl⟩
    · rintro i σ' H' hi ⟨vs, wts, o5, o6, o7, o8, o9, o10, o11, o12, o13, o14, rfl, b, hR, hl, hn, hp', hF, pF, hW, hlen⟩
      refine ⟨_, rfl, _, rfl, _, rfl, _, _, rfl, Or.inl (SqL.of hn), p, _, rfl, by omega, by omega, hp', fun t1 H3 t10 t11 b3 hp3 => ?_⟩
      rw [hml] at t11
      obtain ⟨one, hone, hat1⟩ := at_strs (xs := ns) t10 t11
      have hnp : n0 ≠ p := hp'.ne hn (strs_ne ns)
      have hn3 := b3 _ _ hnp hn
      refine ⟨n0, _, _, _, rfl, rfl, SqL.of hn3, hat1, ?_⟩
      refine ⟨_, rfl, _, rfl, _, rfl, _, _, rfl, Or.inl (SqL.of hn3), p, _, rfl, by omega, by omega, hp3, fun t2 H4 t20 t21 b4 hp4 => ?_⟩
      rw [hml] at t21
      obtain ⟨other, hother, hat2⟩ := at_strs (xs := ns) t20 t21
      have hn4 := b4 _ _ hnp hn3
      refine ⟨n0, _, _, _, rfl, rfl, SqL.of hn4, hat2, _, _, rfl, ?_⟩
      have b34 := b3.trans b4
      have hR4 := hR.bt hp' b34
      have hlp : l ≠ p := hp'.ne hl (fun a b c e => by injection e with e; cases e)
      have hl4 := b34 _ _ hlp hl
      have m1 := hin _ hone
      have m2 := hin _ hother
      refine ⟨_, rfl, l, _, _, _, rfl, rfl, SqL.of hl4, atI_nat (j := 1) rfl, _, rfl, _, rfl, l2, z, one, other, rs, rfl, hR4, good, hfew, m1, m2, fun q H5 hq s5 h5 => ⟨q, _, rfl, SqT.of h5, rfl, _, _, rfl, _, _, rfl, rfl, ?_⟩⟩
      obtain ⟨q1, q2, q3, q4⟩ := hB one other m1 m2
      generalize hlo : (betP rs one other).1 - (betP rs one other).2.2 = lo at *
      generalize hhi : (betP rs one other).1 + (betP rs one other).2.1 = hgh at *
      have hp5 := hp4.ext s5
      refine ⟨_, rfl, p, 5, rfl, by decide, by decide, hp5, fun t3 H6 t30 t31 b6 hp6 => ?_⟩
      refine ⟨_, rfl, p, 3, rfl, by decide, by decide, hp6, fun mo H7 mo0 mo1 b7 hp7 => ⟨_, _, rfl, ?_⟩⟩
      obtain ⟨j, rfl⟩ := Int.eq_ofNat_of_zero_le t30
      have hj : j < 5 := by omega
      have g := fun sz (s0 : 0 ≤ sz) (s1 : sz < 4) => wants_num (lo := lo) (hi := hgh) (mo := mo) (sz := sz) hj q1 q2 (by omega) (by omega) mo0 mo1 s0 s1
      refine ⟨_, rfl, _, rfl, _, rfl, _, _, rfl, rfl, _, rfl, _, rfl, _, _, rfl, rfl, _, rfl, _, rfl, _, _, rfl, rfl, Nat.le_of_ble_eq_true rfl, fun L1 hL1 => ?_⟩
      have s8 := same_new (o := .lst [.int lo, .int (lo - mo), .int (lo + mo), .int lo, .int (hgh + 1)]) hL1
      refine ⟨_, rfl, L1, _, _, _, rfl, rfl, SqL.of upd_same, at_intD (xs := [lo, lo - mo, lo + mo, lo, hgh + 1]) hj, ?_⟩
      refine ⟨_, rfl, _, rfl, _, rfl, _, rfl, _, rfl, Nat.le_of_ble_eq_true rfl, fun L2 hL2 => ?_⟩
      have s9 := same_new (o := .lst [.int hgh, .int hgh, .int hgh, .int lo, .int hgh]) hL2
      refine ⟨_, rfl, L2, _, _, _, rfl, rfl, SqL.of upd_same, at_intD (xs := [hgh, hgh, hgh, lo, hgh]) hj, _, _, rfl, ?_⟩
      refine ⟨_, rfl, _, rfl, _, rfl, Nat.le_of_ble_eq_true rfl, fun L3 hL3 => ?_⟩
      have s10 := same_new (o := .lst [.int 0, .int mo, .int mo, .int 0, .int 9]) hL3
      refine ⟨_, rfl, L3, _, _, _, rfl, rfl, SqL.of upd_same, at_intD (xs := [0, mo, mo, 0, 9]) hj, _, _, rfl, rfl, ?_⟩
      have s810 := s8.trans (s9.trans s10)
      refine ⟨_, rfl, _, rfl, p, 4, rfl, by decide, by decide, hp7.ext s810, fun sz H11 sz0 sz1 b11 hp11 => ⟨_, _, rfl, rfl, ?_⟩⟩
      obtain ⟨g1, g2⟩ := g sz sz0 sz1
      have b711 : Bt p H7 H11 := (Bt.of s810).trans b11
      have b411 : Bt p H4 H11 := (Bt.of s5).trans (b6.trans (b7.trans b711))
      have bA := b34.trans b411
      have hF11 := bA _ _ hfp hF
      generalize [lo, lo - mo, lo + mo, lo, hgh + 1].getD j 0 = least at *
      generalize [hgh, hgh, hgh, lo, hgh].getD j 0 = most at *
      generalize [0, mo, mo, 0, 9].getD j 0 = extra at *
      refine ⟨_, rfl, Or.inl ⟨rfl, _, SqL.of hF11⟩, _, rfl, _, rfl, _, rfl, _, rfl, _, rfl, _, _, rfl, rfl, _, rfl, _, rfl, _, _, rfl, rfl, sz3, fun t ht => ⟨sz3, fun t4 ht4 => ?_⟩⟩
      have s12 := same_new (o := .tup [.int (least + sz), .int (most + extra - (least + sz)), .int (least + sz - least)]) ht
      have s13 := same_new (o := .tup [.str one, .str other, .ref t]) ht4
      have s1213 := s12.trans s13
      have hF13 := s1213 _ _ hF11
      have hvl := Paired.len pF
      refine ⟨f, vs, _, rfl, rfl, hF13, Nat.lt_of_le_of_lt (by omega : _ ≤ 200) (by decide), ?_⟩
      have htf : t ≠ f := fun e => by rw [e, hF11] at ht; cases ht
      have ht4f : t4 ≠ f := fun e => by rw [e, s12 _ _ hF11] at ht4; cases ht4
      have k13 : Kp (upd (upd H11 t (.tup [.int (least + sz), .int (most + extra - (least + sz)), .int (least + sz - least)])) t4 (.tup [.str one, .str other, .ref t])) (upd (upd (upd H11 t (.tup [.int (least + sz), .int (most + extra - (least + sz)), .int (least + sz - least)])) t4 (.tup [.str one, .str other, .ref t])) f (.lst (vs ++ [.ref t4]))) := Kp.updL hF13
      refine ⟨vs ++ [.ref t4], wts ++ [(one, other, least + sz, most + extra - (least + sz), least + sz - least)], _, _, _, _, _, _, _, _, _, _, rfl, bt_mut ((b.trans bA).trans (Bt.of s1213)) hfH, ?_, ?_, ?_, ?_, upd_same, ?_, ?_, ?_⟩
      · obtain ⟨vsr, hr1, hr2⟩ := (hR.bt hp' bA).ext s1213
        refine ⟨vsr, ?_, p_imp hr2 fun _ _ h => h.kp k13⟩
        rw [upd_ne hl2f]; exact hr1
      · rw [upd_ne hlf]; exact s1213 _ _ (bA _ _ hlp hl)
      · rw [upd_ne hnf]; exact s1213 _ _ (bA _ _ hnp hn)
      · obtain ⟨x, y, w, h⟩ := hp11.ext s1213
        exact ⟨x, y, w, by rw [upd_ne hfp.symm]; exact h⟩
      · refine p_app (p_imp pF fun _ _ h => (h.kp (hp'.kp bA)).kp ((Kp.of s1213).trans k13)) (p_one ⟨t4, t, rfl, ?_, ?_⟩)
        · rw [upd_ne ht4f]; exact upd_same
        · rw [upd_ne htf]; exact s13 _ _ upd_same
      · intro wt hwt
        rcases List.mem_append.mp hwt with q | q
        · exact hW wt q
        · rw [List.mem_singleton.mp q]
          exact ⟨m1, m2, g1, g2⟩
      · rw [List.length_append, hlen]
        rfl
    · rintro σ' H' ⟨vs, wts, o5, o6, o7, o8, o9, o10, o11, o12, o13, o14, rfl, b, hR, hl, hn, hp', hF, pF, hW, hlen⟩
      exact ⟨_, rfl, k f wts H' hfH b hp' ⟨vs, hF, pF⟩ hW (by omega)⟩
end
end Fw
set_option Elab.async false
set_option linter.all false
set_option maxRecDepth 100000
set_option maxHeartbeats 4000000
namespace Fw
open PySem PySem.Spec PyProof.Rows L2
open C8 (Cal CalAt Met Mak pe_c pe_mk pe_mt pe_mt0 pe_gc InsC call_isC)

section
variable {P : Program} {w : World} {K : PySem.W.Frag} {mg : Str → Option Value} {base : Heap}

theorem c_lenD {X : Cx} (T : Txt X.w X.K X.mg) {j : Nat} (hr : Room j X.A) (hk : 3 ≤ j) : CallR X (.builtin "len") (fun xs H Q => ∃ a d z rs, xs = [.ref a] ∧ DrawAt X.K H a d z rs ∧ ∀ H', Same H H' → Q (.int ((rs.length + 1 : Nat) : Int)) H') := by
  obtain ⟨f, fd, ps, ds, c, me, F, b, d⟩ := (c_Drawing_len (P := X.prog) (base := X.base) T).ex
  intro pins s σ H xs us Q I r h
  obtain ⟨a, d0, z, rs, rfl, hD, q⟩ := h
  cases d
  obtain ⟨dx, hi⟩ := hD.ins
  have hf := hD.few
  exact call_lenI F me.at_ me.fn b hr hk pins s σ H _ us Q I r ⟨a, dx, _, rfl, hi, a, d0, z, rs, rfl, hD, fun H' s1 => ⟨_, rfl, by omega, by omega, q H' s1⟩⟩
theorem s_law_wants_made : FnScope ["_law_wants_here", "_law_one", "_law_other", "_law_parts_here"] ["_law_wants_here"] d_law_wants_made.scope := ⟨rfl, rfl, rfl, by decide +kernel, rfl, by decide +kernel, by decide +kernel⟩
theorem c_law_wants_made (T : Txt w K mg) : Cal P w K mg base 5 "_law_wants_made" (fun vs H Q _ => ∃ (l : Addr) (wts : List Want), vs = [.ref l] ∧ RowsL H l wts ∧ wts.length ≤ 100 ∧ (∀ wt ∈ wts, 0 ≤ wt.2.2.2.1 + wt.2.2.2.2) ∧ ∀ f xs H', H f = none → Same H H' → H' f = some (.lst xs) → Paired (WantAt K H') wts xs → Q (.ref f) H') [] := by
  refine T.cal 102 90 (d := d_law_wants_made) (S := s_law_wants_made) (hb := fun _ _ _ _ _ _ us hl => match us, hl with | [_], _ => rfl) (len := fun vs H Q E h => ?_) (hbody := fun cdv A outer s H vs Q E hr h => ?_)
  · obtain ⟨l, wts, rfl, ⟨vs, hl, hpv⟩, hlen, hab, k⟩ := h
    rfl
  · obtain ⟨l, wts, rfl, ⟨vs, hl, hpv⟩, hlen, hab, k⟩ := h
    refine ⟨_, (pss_one (ps_ret (pe_lc (own := [("_law_one", 1), ("_law_other", 2), ("_law_parts_here", 3)]) (g := (gTup K 3 (gCons (gName 1) (gCons (gName 2) (gCons (gName 3) gNil))))) rfl s_law_wants_made.nd (pi_list (pv 0)) (blkOk_by (N := ["_law_wants_here", "_law_one", "_law_other", "_law_parts_here"]) (sc := d_law_wants_made.scope) (own := [("_law_one", 1), ("_law_other", 2), ("_law_parts_here", 3)]) (by decide +kernel)) (fun _ _ _ _ _ => (pg_tup rfl (pgs_cons (pg_name (i := 1) s_law_wants_made.nd rfl (Or.inl rfl)) (pgs_cons (pg_name (i := 2) s_law_wants_made.nd rfl (Or.inl rfl)) (pgs_cons (pg_name (i := 3) s_law_wants_made.nd rfl (Or.inl rfl)) pgs_nil))))) (fun _ _ _ _ _ => pts_nil) (fun _ _ _ _ _ => (pe_tup (pa_cons (pv 1) (pa_cons (pv 2) (pa_cons (pe_mk (m_Span3B T) hr (by decide) rfl (pa_cons (pe_ix (ix_tupK (K := K) rfl) (pv 3) pe_int (fun _ _ => rfl)) (pa_cons (pe_ix (ix_tupK (K := K) rfl) (pv 3) pe_int (fun _ _ => rfl)) (pa_cons (pe_ix (ix_tupK (K := K) rfl) (pv 3) pe_int (fun _ _ => rfl)) pa_nil)))) pa_nil)))))))), ?_⟩
    refine ⟨_, rfl, l, rfl, ⟨_, SqL.of hl⟩, fun D hD => ?_⟩
    obtain ⟨⟨z1, z2⟩, z3⟩ := p_zip hpv
    have hzl : (vs.zip wts).length ≤ 100000 := by
      have e : ((vs.zip wts).map (·.2)).length = wts.length := by rw [z2]
      rw [List.length_map] at e
      omega
    refine lcE_list (ps := vs.zip wts) (f := fun _ => true) (El := fun wt v H' => WantAt K H' wt v) (fun _ _ _ _ e h => h.kp e) hD (by rw [z1]; exact SqL.of hl) hzl ?_ ?_
    · intro i x wt H2 Kt Kf hpr s2 kt kf
      obtain ⟨⟨t, t2, rfl, ht, ht2⟩, hm⟩ := z3 x wt (List.mem_of_getElem? hpr)
      have ht := s2 _ _ ht
      have ht2 : H2 t2 = some (.tup [.int wt.2.2.1, .int wt.2.2.2.1, .int wt.2.2.2.2]) := s2 _ _ ht2
      refine ⟨t, _, rfl, SqT.of ht, rfl, _, _, rfl, _, _, rfl, _, _, rfl, rfl, rfl, ?_⟩
      refine iteT (B := Kf H2) ?_
      refine ⟨_, rfl, _, rfl, _, rfl, t2, _, _, _, rfl, rfl, SqT.of ht2, atI_nat (j := 0) rfl, _, rfl, t2, _, _, _, rfl, rfl, SqT.of ht2, atI_nat (j := 1) rfl, _, rfl, t2, _, _, _, rfl, rfl, SqT.of ht2, atI_nat (j := 2) rfl, ?_⟩
      intro x1 dx1 hx1 hdx1 hne1
      refine ⟨x1, dx1, _, _, _, rfl, hab wt hm, upd_same, fun H5 hN => ⟨rfl, ?_⟩⟩
      obtain ⟨sN, hSp⟩ := newSp (K := K) hx1 hdx1 hN
      refine ⟨sz3, fun q hq => ?_⟩
      have s6 := same_new (o := .tup [.str wt.1, .str wt.2.1, .ref x1]) hq
      exact kt rfl _ _ (sN.trans s6) ⟨q, x1, rfl, upd_same, hSp.kp (Kp.of s6)⟩
    · intro H' vs2 s2 hv p2
      rw [z2, filter_all] at p2
      exact k D vs2 H' hD s2 hv p2
theorem s_law_is_drawing : FnScope ["_law_told", "_law_sketch_here", "_law_name", "_law_start", "_law_parts_here", "_law_one"] ["_law_told", "_law_sketch_here"] d_law_is_drawing.scope := ⟨rfl, rfl, rfl, by decide +kernel, rfl, by decide +kernel, by decide +kernel⟩
theorem c_law_is_drawing (T : Txt w K mg) : Cal P w K mg base 4 "_law_is_drawing" (fun vs H Q _ => ∃ (a d l : Addr) (z : Str) (rs : List Row), vs = [.ref a, .ref l] ∧ DrawAt K H a d z rs ∧ SkAt H l z rs ∧ ∀ H', Same H H' → Q (.bl true) H') [] := by
  refine T.cal 100 88 (d := d_law_is_drawing) (S := s_law_is_drawing) (hb := fun _ _ _ _ _ _ us hl => match us, hl with | [_, _], _ => rfl) (len := fun vs H Q E h => ?_) (hbody := fun cdv A outer s H vs Q E hr h => ?_)
  · obtain ⟨a, d, l, z, rs, rfl, hD, hS, k⟩ := h
    rfl
  · obtain ⟨a, d, l, z, rs, rfl, hD, hS, k⟩ := h
    have clS := T.cl 118
    refine ⟨_, (pss_cons (ps_if (PW.pt (pw_or (pt_not (pt_val (pe_callB (id := "isinstance") (call_isC T.inD) (by rfl) (T.f 103) (by decide +kernel) (pa_cons (pv 0) (pa_cons (pe_gc rfl (T.gr 33)) pa_nil))))) (pw_or1 (pt_cmpR (op_neT (α := PySem.W.Tup Str) hr.units (by decide)) (pe_mt0 (c_Drawing_names T) hr (by decide) (pv 0)) (pe_callTy (T := "tuple") call_tuple_of (by rfl) (T.f 111) (by decide +kernel) (pa_cons (pe_c (c_law_named T) hr (by decide) rfl (pa_cons (pv 1) pa_nil)) pa_nil)) (nomark _))))) (pss_one (ps_ret pe_bl)) pss_nil)
      (pss_cons (ps_if (PW.pt (pw_or (pt_cmpR op_notN (pe_mt (c_Drawing_told T) hr (by decide) (pv 0) (pa_cons (pe_ix (ix_listK (K := K) rfl) (pv 1) pe_int (fun _ _ => rfl)) pa_nil)) pe_non (nomark _)) (pw_or1 (pt_cmpR op_ne (pe_callB (id := "len") (c_lenD T hr (by decide)) (by rfl) (T.f 104) (by decide +kernel) (pa_cons (pv 0) pa_nil)) (pe_op op_add (pe_callB (id := "len") (call_len_seqK (K := K) rfl) (by rfl) (T.f 104) (by decide +kernel) (pa_cons (pe_ix (ix_listK (K := K) rfl) (pv 1) pe_int (fun _ _ => rfl)) pa_nil)) pe_int) (nomark _))))) (pss_one (ps_ret pe_bl)) pss_nil)
      (pss_cons (ps_for PassesOwn.never rfl (pi_list (pe_ix (ix_listK (K := K) rfl) (pv 1) pe_int (fun _ _ => rfl))) (pg_tup rfl (pgs_cons (pg_name (i := 2) s_law_is_drawing.nd rfl (Or.inl rfl)) (pgs_cons (pg_name (i := 3) s_law_is_drawing.nd rfl (Or.inl rfl)) (pgs_cons (pg_name (i := 4) s_law_is_drawing.nd rfl (Or.inl rfl)) pgs_nil))))
      (pss_cons (ps_set (i := 5) s_law_is_drawing.nd rfl (Or.inl rfl) (pe_mt (c_Drawing_told T) hr (by decide) (pv 0) (pa_cons (pv 2) pa_nil)))
        (pss_cons (ps_if (PW.pt (pw_or (pt_not (pt_val (pe_callB (id := "isinstance") call_isi (by rfl) (T.f 103) (by decide +kernel) (pa_cons (pv 5) (pa_cons (pe_bltn (v := .ty "tuple") (by rfl) (T.f 111) (by decide +kernel) rfl) pa_nil))))) (pw_or (pt_cmpR op_ne (pe_callB (id := "len") (call_len_seqK (K := K) rfl) (by rfl) (T.f 104) (by decide +kernel) (pa_cons (pv 5) pa_nil)) pe_int (nomark _)) (pw_or (pt_cmpR op_ne (pe_ix (ix_tupK (K := K) rfl) (pv 5) pe_int (fun _ _ => rfl)) (pv 3) (nomark _)) (pw_or1 (pt_not (pt_val (pe_callB (id := "isinstance") (call_isC T.inS) (by rfl) (T.f 103) (by decide +kernel) (pa_cons (pe_ix (ix_tupK (K := K) rfl) (pv 5) pe_int (fun _ _ => rfl)) (pa_cons (pe_gc rfl (T.gr 30)) pa_nil)))))))))) (pss_one (ps_ret pe_bl)) pss_nil)
        (pss_one (ps_if (pt_cmpR (op_neT (α := PySem.W.Tup Int) hr.units (by decide)) (pe_tup (pa_cons (pe_fld (pe_ix (ix_tupK (K := K) rfl) (pv 5) pe_int (fun _ _ => rfl)) rfl) (pa_cons (pe_fld (pe_ix (ix_tupK (K := K) rfl) (pv 5) pe_int (fun _ _ => rfl)) rfl) (pa_cons (pe_fld (pe_ix (ix_tupK (K := K) rfl) (pv 5) pe_int (fun _ _ => rfl)) rfl) pa_nil)))) (pv 4) (nomark _)) (pss_one (ps_ret pe_bl)) pss_nil)))))
      (pss_one (ps_ret pe_bl))))), ?_⟩
    obtain ⟨dx, hi⟩ := hD.ins
    have good := hD.good
    have hfew := hD.few
    obtain ⟨l2, hl, vs, hl2, hpv⟩ := id hS
    refine ⟨_, rfl, a, dx, _, rfl, hi, _, rfl, ?_⟩
    refine ⟨_, rfl, a, dx, _, rfl, hi, rfl, a, d, z, rs, rfl, hD, fun p1 H1 hp1 s1 h1 => ?_⟩
    refine ⟨_, rfl, l, z, rs, rfl, hS.ext s1, hfew, fun l1 H2 hl1 s2 h2 => ⟨l1, _, rfl, Or.inl ⟨SqL.of h2, fun t ht => ?_⟩⟩⟩
    have s3 := same_new (o := .tup ((z :: rnm rs.reverse).map V.str)) ht
    refine ⟨⟨z :: rnm rs.reverse⟩, ⟨z :: rnm rs.reverse⟩, dp_tstrs (SqT.of (s3 _ _ (s2 _ _ h1))), dp_tstrs (SqT.of upd_same), ?_⟩
    rw [decide_eq_true rfl]
    refine ⟨_, rfl, ?_⟩
    refine iteF ?_
    have s13 := s1.trans (s2.trans s3)
    generalize upd H2 t (.tup ((z :: rnm rs.reverse).map V.str)) = H3 at s13 ⊢
    clear s3 h1 h2 s1 s2
    refine ⟨_, rfl, a, dx, _, rfl, s13 _ _ hi, rfl, _, rfl, l, _, _, _, rfl, rfl, SqL.of (s13 _ _ hl), atI_nat (j := 0) rfl, a, d, z, rs, z, rfl, hD.ext s13, List.mem_cons_self .., fun _ => ?_, fun s' p' v hl' _ => absurd (List.mem_map.mpr ⟨_, look_mem hl', rfl⟩) good.zn⟩
    refine ⟨rfl, _, rfl, ?_⟩
    rw [decide_eq_true rfl]
    refine iteF ?_
    refine ⟨_, rfl, a, d, z, rs, rfl, hD.ext s13, fun H4 s4 => ?_⟩
    have s14 := s13.trans s4
    have hvl := Paired.len hpv
    rw [List.length_reverse] at hvl
    refine ⟨_, rfl, l, _, _, _, rfl, rfl, SqL.of (s14 _ _ hl), atI_nat (j := 1) rfl, _, _, rfl, Or.inl (SqL.of (s14 _ _ hl2)), _, _, rfl, rfl, rfl, _, rfl, ?_⟩
    rw [decide_eq_true (by rw [← hvl]; rfl)]
    refine iteF ?_
    refine ⟨_, rfl, l, _, _, _, rfl, rfl, SqL.of (s14 _ _ hl), atI_nat (j := 1) rfl, l2, rfl, ⟨_, SqL.of (s14 _ _ hl2)⟩, for_list (K := K) (xs := vs) (fun i σ' H' => ∃ o2 o3 o4 o5, σ' = [some (.ref a), some (.ref l), o2, o3, o4, o5] ∧ Same H4 H') ?_ ?_ ?_ ?_⟩
    · exact ⟨none, none, none, none, rfl, Same.refl _⟩
    · rintro i σ' H' _ ⟨_, _, _, _, _, s⟩
      exact SqL.of ((s14.trans s) _ _ hl2)
    · rintro i x σ' H' hx ⟨o2, o3, o4, o5, rfl, s⟩
      obtain ⟨r, hr1, t, t2, rfl, ht, ht2⟩ := p_get hpv hx
      obtain ⟨n, st, pr⟩ := r
      have sA := s14.trans s
      have ht2 : H' t2 = some (.tup [.int pr.1, .int pr.2.1, .int pr.2.2]) := sA _ _ ht2
      have hrm : (n, st, pr) ∈ rs := List.mem_reverse.mp (List.mem_of_getElem? hr1)
      have hn : n ∈ rnm rs := List.mem_map.mpr ⟨_, hrm, rfl⟩
      refine ⟨t, _, rfl, SqT.of (sA _ _ ht), rfl, _, _, rfl, _, _, rfl, _, _, rfl, rfl, ?_⟩
      refine ⟨_, rfl, a, dx, _, rfl, sA _ _ hi, rfl, _, rfl, a, d, z, rs, n, rfl, hD.ext sA, List.mem_cons_of_mem _ hn, (fun h => absurd hn h), fun s' p' v hl' hv => ?_⟩
      cases look_uniq good hrm hl'
      obtain ⟨t3, sp, rfl, ht3, hSp⟩ := hv
      have ht3 : H' t3 = some (.tup [.str st, .ref sp]) := ht3
      have hSp : SpanAt K H' sp pr.1 pr.2.1 pr.2.2 := hSp
      obtain ⟨dxs, hsp⟩ := hSp
      refine ⟨_, rfl, .ref t3, .ty "tuple", .type "tuple", .type "tuple", true, rfl, .ty "tuple", .base (.tup ht3), kit_ty (by decide +kernel), true, rfl, ?_⟩
      refine ⟨_, rfl, _, _, rfl, Or.inr (SqT.of ht3), rfl, _, rfl, ?_⟩
      refine ⟨_, rfl, t3, _, _, _, rfl, rfl, SqT.of ht3, atI_nat (j := 0) rfl, _, rfl, rfl, _, rfl, ?_⟩
      rw [decide_eq_true rfl]
      refine iteF ?_
      refine ⟨_, rfl, t3, _, _, _, rfl, rfl, SqT.of ht3, atI_nat (j := 1) rfl, sp, dxs, _, rfl, hsp, _, rfl, ?_⟩
      refine iteF ?_
      refine ⟨_, rfl, t3, _, _, _, rfl, rfl, SqT.of ht3, atI_nat (j := 1) rfl, sp, _, dxs, _, _, rfl, hsp, clS, T.na 120, rfl, _, rfl, t3, _, _, _, rfl, rfl, SqT.of ht3, atI_nat (j := 1) rfl, sp, _, dxs, _, _, rfl, hsp, clS, T.na 121, rfl, _, rfl, t3, _, _, _, rfl, rfl, SqT.of ht3, atI_nat (j := 1) rfl, sp, _, dxs, _, _, rfl, hsp, clS, T.na 122, rfl, sz3, fun t4 ht4 => ?_⟩
      have s5 := same_new (o := .tup [.int pr.1, .int pr.2.1, .int pr.2.2]) ht4
      refine ⟨_, rfl, ⟨[pr.1, pr.2.1, pr.2.2]⟩, ⟨[pr.1, pr.2.1, pr.2.2]⟩, dp_tints (SqT.of upd_same), dp_tints (SqT.of (s5 _ _ ht2)), ?_⟩
      rw [decide_eq_true rfl]
      refine ⟨_, rfl, ?_⟩
      refine iteF ?_
      exact ⟨_, _, _, _, rfl, s.trans s5⟩
    · rintro σ' H' ⟨o2, o3, o4, o5, rfl, s⟩
      exact k _ (s14.trans s)
end
end Fw
set_option Elab.async false
set_option linter.all false
set_option maxRecDepth 100000
set_option maxHeartbeats 4000000
namespace Fw
open PySem PySem.Spec PyProof.Rows L2
open C8 (Cal CalAt Met Mak pe_c pe_mk pe_mt pe_mt0 pe_gc InsC call_isC)

section
variable {P : Program} {w : World} {K : PySem.W.Frag} {mg : Str → Option Value} {base : Heap}

/-- text * 0 or 1 -/
theorem op_mul_str {X : Cx} : OpR X (binaryOp .Mult) (fun x y H Q => ∃ (z : Str) (b : Bool), x = .str z ∧ y = .int (if b = true then 1 else 0) ∧ Q (.str (if b = true then z else Str.empty)) H) := by
  intro pins s σ H x y v u Q I rx ry h
  obtain ⟨z, b, rfl, rfl, q⟩ := h
  obtain ⟨t, rfl⟩ := rx
  obtain ⟨t', rfl⟩ := ry
  cases b with
  | false => exact P.mul_str_none (by decide) (by decide) ⟨.str Str.empty, H, I.tok _, ⟨_, rfl⟩, q⟩
  | true =>
    refine P.mul_str (by decide) (fun _ h => by cases h) (fun _ h => by cases h) ?_
    exact ⟨.str z, H, I, ⟨_, rfl⟩, q⟩
theorem str_empty_l (x : Str) : Str.empty ++ x = x := TL.ext_tl (by rw [TL.tl_append]; rfl)
theorem str_empty_r (x : Str) : x ++ Str.empty = x := TL.ext_tl (by rw [TL.tl_append]; exact List.append_nil _)
theorem s_law_doubles : FnScope ["_law_number", "_law_told"] ["_law_number"] d_law_doubles.scope := ⟨rfl, rfl, rfl, by decide +kernel, rfl, by decide +kernel, by decide +kernel⟩
theorem c_law_doubles (T : Txt w K mg) : Cal P w K mg base 1 "_law_doubles" (spTell (fun x => 0 ≤ x ∧ x < 1048576) dblS) [] := by
  refine T.cal 84 72 (d := d_law_doubles) (S := s_law_doubles) (hb := fun _ _ _ _ _ _ us hl => match us, hl with | [_], _ => rfl) (len := fun vs H Q E h => ?_) (hbody := fun cdv A outer s H vs Q E hr h => ?_)
  · obtain ⟨m, rfl, hm, k⟩ := h
    rfl
  · obtain ⟨m, rfl, hm, k⟩ := h
    refine ⟨_, (pss_cons (ps_set (i := 1) s_law_doubles.nd rfl (Or.inl rfl) (pe_callTy (T := "str") call_str_int (by rfl) (T.f 109) (by decide +kernel) (pa_cons (pe_op op_mod (pv 0) pe_int) pa_nil)))
      (pss_cons (ps_while PassesOwn.never (pt_cmpR op_gt (pv 0) pe_int (nomark _))
      (pss_cons (ps_set (i := 0) s_law_doubles.nd rfl (Or.inl rfl) (pe_op op_fdiv (pv 0) pe_int))
        (pss_one (ps_set (i := 1) s_law_doubles.nd rfl (Or.inl rfl) (pe_op op_add_str (pe_callTy (T := "str") call_str_int (by rfl) (T.f 109) (by decide +kernel) (pa_cons (pe_op op_mod (pv 0) pe_int) pa_nil)) (pv 1))))))
      (pss_one (ps_ret (pv 1))))), ?_⟩
    refine ⟨_, rfl, _, _, rfl, rfl, (by decide : (0 : Int) < 2), _, rfl, sm_log ⟨by omega, by omega⟩, ?_⟩
    refine ⟨fun n σ H' => ∃ x t, σ = [some (.int x), some (.str t)] ∧ H' = H ∧ dblF n x t = dblS m ∧ 0 ≤ x ∧ x < 2 ^ n ∧ t.length + 7 * n ≤ 150, ⟨20, m, _, rfl, rfl, rfl, hm.1, by omega, by have := len_num (i := m % 2) (by omega) (by omega); exact Nat.le_trans (Nat.add_le_add_right this _) (by decide)⟩, ?_⟩
    rintro n σ H' ⟨x, t, rfl, rfl, he, h0, h1, hl⟩
    refine ⟨_, rfl, _, _, rfl, rfl, _, rfl, ?_⟩
    refine ite2 (fun h => ?_) (fun h => ?_)
    · have hx := of_decide_eq_true h
      cases n with
      | zero => omega
      | succ n =>
        refine ⟨_, fun σ' H' h' => ⟨n, Nat.lt_succ_self n, h'⟩, ?_⟩
        have l1 : (Str.ofString (toString (x / 2 % 2))).length ≤ 7 := len_num (by omega) (by omega)
        rw [Int.pow_succ] at h1
        refine ⟨_, rfl, _, _, rfl, rfl, ⟨by decide, by decide⟩, ?_⟩
        refine ⟨_, rfl, _, _, rfl, rfl, (by decide : (0 : Int) < 2), _, rfl, sm_log ⟨by omega, by omega⟩, _, rfl, _, _, rfl, rfl, Nat.le_trans (by omega : _ ≤ 200) (by decide), ?_⟩
        refine ⟨x / 2, _, rfl, rfl, ?_, by omega, by omega, by rw [len_app]; omega⟩
        rw [← he]
        conv => rhs; unfold dblF
        rw [if_pos hx]
    · refine ⟨_, rfl, ?_⟩
      have e : dblF n x t = t := by
        cases n with
        | zero => rfl
        | succ n => unfold dblF; rw [if_neg (fun z => h (decide_eq_true z))]
      rw [← e, he]
      exact k _ (Same.refl _)
def lOnes : List Str := ["", "one", "two", "three", "four", "five", "six", "seven", "eight", "nine", "ten", "eleven", "twelve"]
def lTeens : List Str := ["thirteen", "fourteen", "fifteen", "sixteen", "seventeen", "eighteen", "nineteen"]
def lTens : List Str := ["", "", "twenty", "thirty", "forty", "fifty", "sixty", "seventy", "eighty", "ninety"]
def cntL (x : Int) : List Str := if x > 0 then [cntS x] else []
theorem ones_ok : ∀ n : Nat, n < 20 → 0 < n → (lOnes ++ lTeens).getD n "" = cntS (n : Int) := by decide +kernel
theorem ones_len : ∀ n : Nat, n < 20 → ((lOnes ++ lTeens).getD n "").length ≤ 9 := by decide +kernel
theorem ltens_len : ∀ n : Nat, n < 10 → (lTens.getD n "").length ≤ 9 := by decide +kernel
theorem tens_ok : ∀ n : Nat, n < 100 → 20 ≤ n → (lTens.getD (n / 10) "" ++ (if decide (n % 10 > 0) = true then (" " : Str) else Str.empty)) ++ (lOnes ++ lTeens).getD (n % 10) "" = cntS (n : Int) := by decide +kernel
theorem s_law_counted : FnScope ["_law_whole", "_law_ones", "_law_tens"] ["_law_whole"] d_law_counted.scope := ⟨rfl, rfl, rfl, by decide +kernel, rfl, by decide +kernel, by decide +kernel⟩
theorem c_law_counted (T : Txt w K mg) : Cal P w K mg base 1 "_law_counted" (fun vs H Q _ => ∃ x : Int, vs = [.int x] ∧ 0 ≤ x ∧ x < 100 ∧ ∀ l H', H l = none → Same H H' → H' l = some (.lst ((cntL x).map V.str)) → Q (.ref l) H') [] := by
  refine T.cal 85 73 (d := d_law_counted) (S := s_law_counted) (hb := fun _ _ _ _ _ _ us hl => match us, hl with | [_], _ => rfl) (len := fun vs H Q E h => ?_) (hbody := fun cdv A outer s H vs Q E hr h => ?_)
  · obtain ⟨x, rfl, h0, h100, k⟩ := h
    rfl
  · obtain ⟨x, rfl, h0, h100, k⟩ := h
    refine ⟨_, (pss_cons (ps_set (i := 1) s_law_counted.nd rfl (Or.inl rfl) (pe_lst (pa_cons pe_str (pa_cons pe_str (pa_cons pe_str (pa_cons pe_str (pa_cons pe_str (pa_cons pe_str (pa_cons pe_str (pa_cons pe_str (pa_cons pe_str (pa_cons pe_str (pa_cons pe_str (pa_cons pe_str (pa_cons pe_str pa_nil)))))))))))))))
      (pss_cons (ps_set (i := 1) s_law_counted.nd rfl (Or.inl rfl) (pe_op op_cat (pv 1) (pe_lst (pa_cons pe_str (pa_cons pe_str (pa_cons pe_str (pa_cons pe_str (pa_cons pe_str (pa_cons pe_str (pa_cons pe_str pa_nil))))))))))
      (pss_cons (ps_set (i := 2) s_law_counted.nd rfl (Or.inl rfl) (pe_lst (pa_cons pe_str (pa_cons pe_str (pa_cons pe_str (pa_cons pe_str (pa_cons pe_str (pa_cons pe_str (pa_cons pe_str (pa_cons pe_str (pa_cons pe_str (pa_cons pe_str pa_nil))))))))))))
      (pss_cons (ps_if (pt_cmpR op_eq (pv 0) pe_int (nomark _)) (pss_one (ps_ret (pe_lst pa_nil))) pss_nil)
      (pss_cons (ps_if (pt_cmpR op_lt (pv 0) pe_int (nomark _)) (pss_one (ps_ret (pe_lst (pa_cons (pe_ix (ix_listK (K := K) rfl) (pv 1) (pv 0) (fun _ _ => rfl)) pa_nil)))) pss_nil)
      (pss_one (ps_ret (pe_lst (pa_cons (pe_op op_add_str (pe_op op_add_str (pe_ix (ix_listK (K := K) rfl) (pv 2) (pe_op op_fdiv (pv 0) pe_int) (fun _ _ => rfl)) (pe_op op_mul_str pe_str (pe_callTy (T := "int") call_int1 (by rfl) (T.f 102) (by decide +kernel) (pa_cons (pe_cmpR op_gt (pe_op op_mod (pv 0) pe_int) pe_int (nomark _)) pa_nil)))) (pe_ix (ix_listK (K := K) rfl) (pv 1) (pe_op op_mod (pv 0) pe_int) (fun _ _ => rfl))) pa_nil))))))))), ?_⟩
    obtain ⟨n, rfl⟩ := Int.eq_ofNat_of_zero_le h0
    have hn : n < 100 := by omega
    refine ⟨Nat.le_of_ble_eq_true rfl, fun a ha => ?_⟩
    have s1 := same_new (o := .lst (lOnes.map V.str)) ha
    refine ⟨_, rfl, Nat.le_of_ble_eq_true rfl, fun b hb => ?_⟩
    have s2 := same_new (o := .lst (lTeens.map V.str)) hb
    refine ⟨a, b, _, _, rfl, rfl, s2 _ _ upd_same, upd_same, Nat.le_of_ble_eq_true rfl, fun c hc => ?_⟩
    have s3 := same_new (o := .lst (lOnes.map V.str ++ lTeens.map V.str)) hc
    refine ⟨Nat.le_of_ble_eq_true rfl, fun d hd => ?_⟩
    have s4 := same_new (o := .lst (lTens.map V.str)) hd
    have sA := s1.trans (s2.trans (s3.trans s4))
    have hcv : SqL K (upd (upd (upd (upd H a (.lst (lOnes.map V.str))) b (.lst (lTeens.map V.str))) c (.lst (lOnes.map V.str ++ lTeens.map V.str))) d (.lst (lTens.map V.str))) c ((lOnes ++ lTeens).map V.str) := SqL.of (s4 _ _ upd_same)
    have hdv : SqL K (upd (upd (upd (upd H a (.lst (lOnes.map V.str))) b (.lst (lTeens.map V.str))) c (.lst (lOnes.map V.str ++ lTeens.map V.str))) d (.lst (lTens.map V.str))) d (lTens.map V.str) := SqL.of upd_same
    have eH : upd (upd (upd (upd H a (.lst (lOnes.map V.str))) b (.lst (lTeens.map V.str))) c (.lst (lOnes.map V.str ++ lTeens.map V.str))) d (.lst (lTens.map V.str)) = upd (upd (upd (upd H a (.lst (lOnes.map V.str))) b (.lst (lTeens.map V.str))) c (.lst (lOnes.map V.str ++ lTeens.map V.str))) d (.lst (lTens.map V.str)) := rfl
    refine ⟨_, rfl, rfl, _, rfl, ?_⟩
    by_cases hz : n = 0
    · subst hz
      refine bool_of_true rfl ?_
      exact ⟨Nat.zero_le _, fun q hq => k q _ (sA.free hq) (sA.trans (same_new hq)) upd_same⟩
    refine bool_of_false (fun h => hz (by injection h with h; omega)) ?_
    refine ⟨_, rfl, _, _, rfl, rfl, _, rfl, ?_⟩
    have ek : cntL (n : Int) = [cntS (n : Int)] := by unfold cntL; rw [if_pos (by omega)]
    rw [ek] at k
    by_cases h20 : n < 20
    · refine bool_of_true (by omega) ?_
      refine ⟨_, rfl, _, rfl, c, _, _, _, rfl, rfl, hcv, at_map (by omega) (by show (n : Int) < 20; omega), sz1, fun q hq => ?_⟩
      rw [Int.toNat_natCast, ones_ok n h20 (by omega)]
      exact k q _ (sA.free hq) (sA.trans (same_new hq)) upd_same
    · refine bool_of_false (by omega) ?_
      have e1 : ((n : Int) / 10).toNat = n / 10 := by omega
      have e2 : ((n : Int) % 10).toNat = n % 10 := by omega
      have e3 : decide (0 < (n : Int) % 10) = decide (n % 10 > 0) := decide_eq_decide.mpr (by omega)
      have l1 := ltens_len (n / 10) (by omega)
      have l2 := ones_len (n % 10) (by omega)
      have l3 : (if decide (n % 10 > 0) = true then (" " : Str) else Str.empty).length ≤ 1 := by split <;> decide
      refine ⟨_, rfl, _, rfl, _, _, rfl, rfl, ⟨by decide, by decide⟩, d, _, _, _, rfl, rfl, hdv, at_map (by omega) (by show (n : Int) / 10 < 10; omega), ?_⟩
      refine ⟨_, rfl, _, _, rfl, rfl, (show (0 : Int) < 10 by decide), _, _, rfl, rfl, Or.inr ⟨_, rfl, _, _, rfl, rfl, ?_⟩⟩
      rw [e1, e3]
      refine ⟨_, _, rfl, rfl, len_sl (by omega), _, rfl, _, rfl, _, _, rfl, rfl, (show (0 : Int) < 10 by decide), c, _, _, _, rfl, rfl, hcv, at_map (by omega) (by show (n : Int) % 10 < 20; omega), ?_⟩
      rw [e2]
      refine ⟨_, _, rfl, rfl, ?_, sz1, fun q hq => ?_⟩
      · rw [len_app]
        exact len_sl (by omega)
      · rw [tens_ok n hn (by omega)]
        exact k q _ (sA.free hq) (sA.trans (same_new hq)) upd_same
end
end Fw
set_option Elab.async false
set_option linter.all false
set_option maxRecDepth 100000
set_option maxHeartbeats 4000000
namespace Fw
open PySem PySem.Spec PyProof.Rows L2
open C8 (Cal CalAt Met Mak pe_c pe_mk pe_mt pe_mt0 pe_gc InsC call_isC)

section
variable {P : Program} {w : World} {K : PySem.W.Frag} {mg : Str → Option Value} {base : Heap}

def lawPairs : List (Int × Str) := [(32, "a half"), (16, "a quarter"), (8, "an eighth"), (4, "a sixteenth")]
def shT (rest : Int) (i : Nat) : List Str := ((lawPairs.take i).filter fun p => decide (rest / p.1 % 2 = 1)).map (·.2)
theorem sh_ok : ∀ n : Nat, n < 64 → (shT (n : Int) 4 ++ (List.replicate ((n : Int) / 2 % 2).toNat [("a thirtysecond" : Str)]).flatten) ++ (List.replicate ((n : Int) % 2).toNat [("a sixtyfourth" : Str)]).flatten = shW shares (n : Int) 32 := by decide +kernel
theorem hz_ok : ∀ n : Nat, n < 64 → Txt.slice (dblS (64 + (n : Int))) (some 1) none = Txt.zfill (dblS (n : Int)) 6 := by decide +kernel
theorem red_zero : ∀ n : Nat, n < 64 → decide ((redF 6 (n : Int) 64).1 = 0) = decide (n = 0) := by decide +kernel
theorem told_nil : ∀ n : Nat, n < 64 → decide (shW shares (n : Int) 32 = []) = decide (n = 0) := by decide +kernel
theorem nat_of {i : Int} (h : 0 ≤ i) : ∃ n : Nat, i = (n : Int) := Int.eq_ofNat_of_zero_le h
theorem map_lst {l : List Str} {r : List Str} : HO.lst (l.map V.str ++ r.map V.str) = .lst ((l ++ r).map V.str) := congrArg HO.lst List.map_append.symm
theorem sgn_if (m : Int) : (if decide (m < 0) = true then ("-" : Str) else Str.empty) = sgn m := by
  unfold sgn
  by_cases h : m < 0
  · rw [decide_eq_true h, if_pos rfl, if_pos h]
  · rw [decide_eq_false h, if_neg h]
    rfl
theorem wsgn_if (m : Int) : (if decide (m < 0) = true then ("minus " : Str) else Str.empty) = wsgn m := by
  unfold wsgn
  by_cases h : m < 0
  · rw [decide_eq_true h, if_pos rfl, if_pos h]
  · rw [decide_eq_false h, if_neg h]
    rfl
theorem cnt_wordsA (m : Int) : cntL (absI m / 64) = wordsA m := rfl
theorem shT_le (rest : Int) (i : Nat) : (shT rest i).length ≤ 4 := by
  unfold shT
  rw [List.length_map]
  refine Nat.le_trans (List.length_filter_le _ _) ?_
  rw [List.length_take]
  exact Nat.min_le_right _ _
theorem rep_map (z : Str) : ∀ k : Nat, (List.replicate k [V.str z]).flatten = ((List.replicate k [z]).flatten).map V.str
  | 0 => rfl
  | k + 1 => by
    rw [List.replicate_succ, List.flatten_cons, rep_map z k, List.replicate_succ, List.flatten_cons, List.map_append]
    rfl
theorem rep_len (z : V) (k : Nat) : (List.replicate k [z]).flatten.length = k := by
  induction k with
  | zero => rfl
  | succ k ih => rw [List.replicate_succ, List.flatten_cons, List.length_append, ih, List.length_singleton]; omega
theorem words_fin {m : Int} (hm : Md m) {rn : Nat} (hrn : absI m % 64 = (rn : Int)) (hr64 : rn < 64) : (wsgn m ++ Txt.join " and " (wordsA m ++ wordsB m)) ++ (if decide (wordsA m ++ wordsB m = []) = true then ("nothing" : Str) else Str.empty) = wordsS m := by
  unfold wordsS
  by_cases h0 : m = 0
  · subst h0
    decide +kernel
  · rw [if_neg h0]
    have hne : ¬ (wordsA m ++ wordsB m = []) := fun e => by
      obtain ⟨e1, e2⟩ := List.append_eq_nil_iff.mp e
      have h1 : ¬ absI m / 64 > 0 := fun h => by
        unfold wordsA at e1
        rw [if_pos h] at e1
        cases e1
      unfold wordsB at e2
      rw [hrn] at e2
      have h2 := told_nil rn hr64
      rw [decide_eq_true e2] at h2
      have h3 : rn = 0 := of_decide_eq_true h2.symm
      have h4 := absI_nn m
      have h5 : absI m = 0 := by omega
      have h6 : m = 0 := by
        unfold absI at h5
        split at h5 <;> omega
      exact h0 h6
    rw [decide_eq_false hne]
    exact str_empty_r _
theorem s_law_tell : FnScope ["_law_measure_here", "_law_way", "_law_whole", "_law_rest", "_law_told", "_law_worth", "_law_name", "_law_bottom"] ["_law_measure_here", "_law_way"] d_law_tell.scope := ⟨rfl, rfl, rfl, by decide +kernel, rfl, by decide +kernel, by decide +kernel⟩
theorem c_law_tell (T : Txt w K mg) : Cal P w K mg base 2 "_law_tell" (fun vs H Q _ => ∃ (m : Int) (y : Way), vs = [.int m, .str y.s] ∧ Md m ∧ ∀ H', Same H H' → Q (.str (tellS y m)) H') [] := by
  refine T.cal 83 71 (d := d_law_tell) (S := s_law_tell) (hb := fun _ _ _ _ _ _ us hl => match us, hl with | [_, _], _ => rfl) (len := fun vs H Q E h => ?_) (hbody := fun cdv A outer s H vs Q E hr h => ?_)
  · obtain ⟨m, y, rfl, hm, k⟩ := h
    rfl
  · obtain ⟨m, y, rfl, hm, k⟩ := h
    refine ⟨_, (pss_cons (ps_par (i := 2) (j := 3) (by rfl) s_law_tell.nd rfl rfl (by decide) rfl rfl (pa_cons (pe_op op_fdiv (pe_callB (id := "abs") call_absI (by rfl) (T.f 96) (by decide +kernel) (pa_cons (pv 0) pa_nil)) pe_int) (pa_cons (pe_op op_mod (pe_callB (id := "abs") call_absI (by rfl) (T.f 96) (by decide +kernel) (pa_cons (pv 0) pa_nil)) pe_int) pa_nil)) (by rfl))
      (pss_cons (ps_if (pt_cmpR op_eq (pv 1) pe_str (nomark _)) (pss_one (ps_ret (pe_callTy (T := "str") call_str_int (by rfl) (T.f 109) (by decide +kernel) (pa_cons (pv 0) pa_nil)))) pss_nil)
      (pss_cons (ps_set (i := 4) s_law_tell.nd rfl (Or.inl rfl) (pe_lst pa_nil))
      (pss_cons (ps_if (pt_cmpR op_eq (pv 1) pe_str (nomark _)) (pss_cons (ps_set (i := 4) s_law_tell.nd rfl (Or.inl rfl) (pe_c (c_law_counted T) hr (by decide) rfl (pa_cons (pv 2) pa_nil)))
        (pss_cons (ps_for PassesOwn.never rfl (pi_list (pe_lst (pa_cons (pe_tup (pa_cons pe_int (pa_cons pe_str pa_nil))) (pa_cons (pe_tup (pa_cons pe_int (pa_cons pe_str pa_nil))) (pa_cons (pe_tup (pa_cons pe_int (pa_cons pe_str pa_nil))) (pa_cons (pe_tup (pa_cons pe_int (pa_cons pe_str pa_nil))) pa_nil)))))) (pg_tup rfl (pgs_cons (pg_name (i := 5) s_law_tell.nd rfl (Or.inl rfl)) (pgs_cons (pg_name (i := 6) s_law_tell.nd rfl (Or.inl rfl)) pgs_nil)))
        (pss_one (ps_if (pt_cmpR op_eq (pe_op op_mod (pe_op op_fdiv (pv 3) (pv 5)) pe_int) pe_int (nomark _)) (pss_one (ps_expr (pe_bm PySem.F.plainAttrs_list PySem.F.slot_list_append PySem.F.type_list_append mt_append (pv 4) (pa_cons (pv 6) pa_nil)))) pss_nil)))
        (pss_cons (ps_set (i := 4) s_law_tell.nd rfl (Or.inl rfl) (pe_op op_cat (pe_op op_cat (pv 4) (pe_op op_rep (pe_lst (pa_cons pe_str pa_nil)) (pe_op op_mod (pe_op op_fdiv (pv 3) pe_int) pe_int))) (pe_op op_rep (pe_lst (pa_cons pe_str pa_nil)) (pe_op op_mod (pv 3) pe_int))))
        (pss_one (ps_ret (pe_op op_add_str (pe_op op_add_str (pe_op op_mul_str pe_str (pe_callTy (T := "int") call_int1 (by rfl) (T.f 102) (by decide +kernel) (pa_cons (pe_cmpR op_lt (pv 0) pe_int (nomark _)) pa_nil))) (pe_join pe_str (pv 4))) (pe_op op_mul_str pe_str (pe_callTy (T := "int") call_int1 (by rfl) (T.f 102) (by decide +kernel) (pa_cons (pe_cmpR (op_eqT (α := List Str) hr.units (by decide)) (pv 4) (pe_lst pa_nil) (nomark _)) pa_nil))))))))) pss_nil)
      (pss_cons (ps_if (pt_cmpR op_eq (pv 1) pe_str (nomark _)) (pss_one (ps_ret (pe_op op_add_str (pe_op op_add_str (pe_op op_add_str (pe_op op_mul_str pe_str (pe_callTy (T := "int") call_int1 (by rfl) (T.f 102) (by decide +kernel) (pa_cons (pe_cmpR op_lt (pv 0) pe_int (nomark _)) pa_nil))) (pe_c (c_law_doubles T) hr (by decide) rfl (pa_cons (pv 2) pa_nil))) pe_str) (pe_slice C8.sl_txt (pe_c (c_law_doubles T) hr (by decide) rfl (pa_cons (pe_op op_add pe_int (pv 3)) pa_nil)) (po_some pe_int) po_none)))) pss_nil)
      (C8.pss_cut (ps_if (PW.pt (pw_or (pt_cmpR op_gt (pv 2) pe_int (nomark _)) (pw_or1 (pt_cmpR op_eq (pv 3) pe_int (nomark _))))) (pss_one (ps_expr (pe_bm PySem.F.plainAttrs_list PySem.F.slot_list_append PySem.F.type_list_append mt_append (pv 4) (pa_cons (pe_callTy (T := "str") call_str_int (by rfl) (T.f 109) (by decide +kernel) (pa_cons (pv 2) pa_nil)) pa_nil)))) pss_nil)
      (pss_cons (ps_set (i := 7) s_law_tell.nd rfl (Or.inl rfl) pe_int)
      (C8.pss_cut (ps_while PassesOwn.never (PW.pt (pw_and (pt_cmpR op_gt (pv 3) pe_int (nomark _)) (pw_and1 (pt_cmpR op_eq (pe_op op_mod (pv 3) pe_int) pe_int (nomark _)))))
      (pss_one (ps_par (i := 3) (j := 7) (by rfl) s_law_tell.nd rfl rfl (by decide) rfl rfl (pa_cons (pe_op op_fdiv (pv 3) pe_int) (pa_cons (pe_op op_fdiv (pv 7) pe_int) pa_nil)) (by rfl))))
      (C8.pss_cut (ps_if (pt_cmpR op_gt (pv 3) pe_int (nomark _)) (pss_one (ps_expr (pe_bm PySem.F.plainAttrs_list PySem.F.slot_list_append PySem.F.type_list_append mt_append (pv 4) (pa_cons (pe_op op_add_str (pe_op op_add_str (pe_callTy (T := "str") call_str_int (by rfl) (T.f 109) (by decide +kernel) (pa_cons (pv 3) pa_nil)) pe_str) (pe_callTy (T := "str") call_str_int (by rfl) (T.f 109) (by decide +kernel) (pa_cons (pv 7) pa_nil))) pa_nil)))) pss_nil)
      (pss_one (ps_ret (pe_op op_add_str (pe_op op_mul_str pe_str (pe_callTy (T := "int") call_int1 (by rfl) (T.f 102) (by decide +kernel) (pa_cons (pe_cmpR op_lt (pv 0) pe_int (nomark _)) pa_nil))) (pe_join pe_str (pv 4)))))))))))))), ?_⟩
    have a0 := absI_nn m
    have a1 := hm.ab
    have hsm := hm.sm
    refine ⟨_, rfl, m, rfl, _, _, rfl, rfl, ⟨by decide, by decide⟩, _, rfl, m, rfl, _, _, rfl, rfl, (show (0 : Int) < 64 by decide), _, _, rfl, ?_⟩
    obtain ⟨rn, hrn⟩ := nat_of (Int.emod_nonneg (absI m) (by decide : (64 : Int) ≠ 0))
    have hr64 : rn < 64 := by
      have := Int.emod_lt_of_pos (absI m) (by decide : (0 : Int) < 64)
      omega
    have w0 : 0 ≤ absI m / 64 := by omega
    have w1 : absI m / 64 < 100 := by omega
    cases y with
    | parts =>
      refine ⟨_, rfl, rfl, _, rfl, ?_⟩
      refine bool_of_true rfl ?_
      exact ⟨_, rfl, _, rfl, sm_log hsm, k H (Same.refl H)⟩
    | words =>
      refine ⟨_, rfl, rfl, _, rfl, ?_⟩
      refine bool_of_false (by decide) ?_
      refine ⟨Nat.zero_le _, fun e0 he0 => ?_⟩
      have s0 := same_new (o := .lst []) he0
      refine ⟨_, rfl, rfl, _, rfl, ?_⟩
      refine bool_of_true rfl ?_
      refine ⟨_, rfl, _, rfl, w0, w1, fun l H1 hl s1 h1 => ?_⟩
      rw [cnt_wordsA] at h1
      refine ⟨sz2, fun t1 ht1 => ⟨sz2, fun t2 ht2 => ⟨sz2, fun t3 ht3 => ⟨sz2, fun t4 ht4 => ⟨sz4, fun L hL => ?_⟩⟩⟩⟩⟩
      have q1 := same_new (o := .tup [.int 32, .str "a half"]) ht1
      have q2 := same_new (o := .tup [.int 16, .str "a quarter"]) ht2
      have q3 := same_new (o := .tup [.int 8, .str "an eighth"]) ht3
      have q4 := same_new (o := .tup [.int 4, .str "a sixteenth"]) ht4
      have q5 := same_new (o := .lst [.ref t1, .ref t2, .ref t3, .ref t4]) hL
      have q15 := q1.trans (q2.trans (q3.trans (q4.trans q5)))
      obtain ⟨HL, hHL⟩ : ∃ HL, HL = upd (upd (upd (upd (upd H1 t1 (.tup [.int 32, .str "a half"])) t2 (.tup [.int 16, .str "a quarter"])) t3 (.tup [.int 8, .str "an eighth"])) t4 (.tup [.int 4, .str "a sixteenth"])) L (.lst [.ref t1, .ref t2, .ref t3, .ref t4]) := ⟨_, rfl⟩
      have g1 : HL t1 = some (.tup [.int 32, .str "a half"]) := hHL ▸ q5 _ _ (q4 _ _ (q3 _ _ (q2 _ _ upd_same)))
      have g2 : HL t2 = some (.tup [.int 16, .str "a quarter"]) := hHL ▸ q5 _ _ (q4 _ _ (q3 _ _ upd_same))
      have g3 : HL t3 = some (.tup [.int 8, .str "an eighth"]) := hHL ▸ q5 _ _ (q4 _ _ upd_same)
      have g4 : HL t4 = some (.tup [.int 4, .str "a sixteenth"]) := hHL ▸ q5 _ _ upd_same
      have g5 : HL L = some (.lst [.ref t1, .ref t2, .ref t3, .ref t4]) := hHL ▸ upd_same
      have q1L : Same H1 HL := hHL ▸ q15
      have hlL := q1L _ _ h1
      have nL : L ≠ l := fun e => by rw [e, hlL] at g5; injection g5 with g5; injection g5 with g5; unfold wordsA at g5; split at g5 <;> cases g5
      have htup : ∀ (i : Nat) (x : V), ([.ref t1, .ref t2, .ref t3, .ref t4] : List V)[i]? = some x → ∃ t p, x = .ref t ∧ lawPairs[i]? = some p ∧ HL t = some (.tup [.int p.1, .str p.2]) ∧ 0 < p.1 ∧ p.1 < 1073741824 ∧ t ≠ l := fun i x hx => by
        have nt : ∀ t o, HL t = some (HO.tup o) → t ≠ l := fun t o h e => by rw [e, hlL] at h; cases h
        match i, hx with
        | 0, hx => cases hx; exact ⟨t1, _, rfl, rfl, g1, by decide, by decide, nt _ _ g1⟩
        | 1, hx => cases hx; exact ⟨t2, _, rfl, rfl, g2, by decide, by decide, nt _ _ g2⟩
        | 2, hx => cases hx; exact ⟨t3, _, rfl, rfl, g3, by decide, by decide, nt _ _ g3⟩
        | 3, hx => cases hx; exact ⟨t4, _, rfl, rfl, g4, by decide, by decide, nt _ _ g4⟩
      have wA : (wordsA m).length ≤ 1 := by unfold wordsA; split <;> simp
      rw [← hHL]
      have s0L : Same H HL := s0.trans (s1.trans q1L)
      have hlH : H l = none := s0.free hl
      refine ⟨L, rfl, ⟨_, SqL.of g5⟩, for_list (K := K) (xs := [.ref t1, .ref t2, .ref t3, .ref t4]) (fun i σ' H' => ∃ o5 o6, σ' = [some (.int m), some (.str "words"), some (.int (absI m / 64)), some (.int (absI m % 64)), some (.ref l), o5, o6, none] ∧ Bt l HL H' ∧ H' l = some (.lst ((wordsA m ++ shT (absI m % 64) i).map V.str))) ?_ ?_ ?_ ?_⟩
      · refine ⟨none, none, rfl, fun _ _ _ h => h, ?_⟩
        show HL l = some (.lst ((wordsA m ++ []).map V.str))
        rw [List.append_nil]
        exact hlL
      · rintro i σ' H' _ ⟨_, _, _, b, _⟩
        exact SqL.of (b _ _ nL g5)
      · rintro i x σ' H' hx ⟨o5, o6, rfl, b, hlv⟩
        obtain ⟨t, p, rfl, hp, ht, p0, p1, htl⟩ := htup i x hx
        refine ⟨t, _, rfl, SqT.of (b _ _ htl ht), rfl, _, _, rfl, _, _, rfl, rfl, ?_⟩
        refine ⟨_, rfl, _, rfl, _, _, rfl, rfl, ⟨p0, p1⟩, _, _, rfl, rfl, (show (0 : Int) < 2 by decide), rfl, _, rfl, ?_⟩
        have et : lawPairs.take (i + 1) = lawPairs.take i ++ [p] := by rw [List.take_add_one, hp]; rfl
        by_cases hq : absI m % 64 / p.1 % 2 = 1
        · refine bool_of_true (congrArg V.int hq) ?_
          refine ⟨_, rfl, Or.inl ⟨rfl, _, SqL.of hlv⟩, _, rfl, l, _, _, rfl, rfl, hlv, ?_, ?_⟩
          · rw [List.length_map, List.length_append]
            have := shT_le (absI m % 64) i
            exact Nat.lt_of_le_of_lt (by omega : _ ≤ 10) (by decide)
          · refine ⟨_, _, rfl, b.trans Bt.upd, ?_⟩
            have es : shT (absI m % 64) (i + 1) = shT (absI m % 64) i ++ [p.2] := by
              unfold shT
              rw [et, List.filter_append, List.filter_cons_of_pos (p := fun p : Int × Str => decide (absI m % 64 / p.1 % 2 = 1)) (decide_eq_true hq), List.filter_nil, List.map_append]
              rfl
            rw [upd_same, es, ← List.append_assoc, List.map_append (l₁ := wordsA m ++ shT (absI m % 64) i)]
            rfl
        · refine bool_of_false (fun h => hq (by injection h)) ?_
          refine ⟨_, _, rfl, b, ?_⟩
          have es : shT (absI m % 64) (i + 1) = shT (absI m % 64) i := by
            unfold shT
            rw [et, List.filter_append, List.filter_cons_of_neg (p := fun p : Int × Str => decide (absI m % 64 / p.1 % 2 = 1)) (fun h => hq (of_decide_eq_true h)), List.filter_nil, List.append_nil]
          rw [es]
          exact hlv
      · rintro σ' H' ⟨o5, o6, rfl, b, hlv⟩
        have sH : Same H H' := b.same s0L hlH
        have hlv : H' l = some (.lst ((wordsA m ++ shT (absI m % 64) 4).map V.str)) := hlv
        have hshl := shT_le (absI m % 64) 4
        refine ⟨_, rfl, sz1, fun r1 hr1 => ?_⟩
        have z1 := same_new (o := .lst [.str "a thirtysecond"]) hr1
        refine ⟨_, rfl, _, _, rfl, rfl, ⟨by decide, by decide⟩, _, _, rfl, rfl, (show (0 : Int) < 2 by decide), r1, _, _, rfl, rfl, upd_same, by omega, by omega, ?_, fun r2 hr2 => ?_⟩
        · show 1 * _ ≤ _
          exact len_sl (by omega)
        have z2 := same_new (o := .lst (List.replicate (absI m % 64 / 2 % 2).toNat [V.str "a thirtysecond"]).flatten) hr2
        refine ⟨l, r2, _, _, rfl, rfl, z2 _ _ (z1 _ _ hlv), upd_same, ?_, fun r3 hr3 => ?_⟩
        · rw [rep_len, List.length_map, List.length_append]
          exact len_sl (by omega)
        have z3 := same_new (o := .lst ((wordsA m ++ shT (absI m % 64) 4).map V.str ++ (List.replicate (absI m % 64 / 2 % 2).toNat [V.str "a thirtysecond"]).flatten)) hr3
        refine ⟨sz1, fun r4 hr4 => ?_⟩
        have z4 := same_new (o := .lst [.str "a sixtyfourth"]) hr4
        refine ⟨_, rfl, _, _, rfl, rfl, (show (0 : Int) < 2 by decide), r4, _, _, rfl, rfl, upd_same, by omega, by omega, ?_, fun r5 hr5 => ?_⟩
        · show 1 * _ ≤ _
          exact len_sl (by omega)
        have z5 := same_new (o := .lst (List.replicate (absI m % 64 % 2).toNat [V.str "a sixtyfourth"]).flatten) hr5
        refine ⟨r3, r5, _, _, rfl, rfl, z5 _ _ (z4 _ _ upd_same), upd_same, ?_, fun r6 hr6 => ?_⟩
        · rw [rep_len, List.length_append, rep_len, List.length_map, List.length_append]
          exact len_sl (by omega)
        have z6 := same_new (o := .lst (((wordsA m ++ shT (absI m % 64) 4).map V.str ++ (List.replicate (absI m % 64 / 2 % 2).toNat [V.str "a thirtysecond"]).flatten) ++ (List.replicate (absI m % 64 % 2).toNat [V.str "a sixtyfourth"]).flatten)) hr6
        have eB : shT (absI m % 64) 4 ++ (List.replicate (absI m % 64 / 2 % 2).toNat [("a thirtysecond" : Str)]).flatten ++ (List.replicate (absI m % 64 % 2).toNat [("a sixtyfourth" : Str)]).flatten = wordsB m := by
          unfold wordsB
          rw [hrn]
          exact sh_ok rn hr64
        have eL : ((wordsA m ++ shT (absI m % 64) 4).map V.str ++ (List.replicate (absI m % 64 / 2 % 2).toNat [V.str "a thirtysecond"]).flatten) ++ (List.replicate (absI m % 64 % 2).toNat [V.str "a sixtyfourth"]).flatten = (wordsA m ++ wordsB m).map V.str := by
          rw [rep_map, rep_map, ← List.map_append, ← List.map_append, ← eB, List.append_assoc, List.append_assoc, List.append_assoc]
        have sE := sH.trans (z1.trans (z2.trans (z3.trans (z4.trans (z5.trans z6)))))
        obtain ⟨HE, hHE⟩ : ∃ HE, HE = upd (upd (upd (upd (upd (upd H' r1 (.lst [.str "a thirtysecond"])) r2 (.lst (List.replicate (absI m % 64 / 2 % 2).toNat [V.str "a thirtysecond"]).flatten)) r3 (.lst ((wordsA m ++ shT (absI m % 64) 4).map V.str ++ (List.replicate (absI m % 64 / 2 % 2).toNat [V.str "a thirtysecond"]).flatten))) r4 (.lst [.str "a sixtyfourth"])) r5 (.lst (List.replicate (absI m % 64 % 2).toNat [V.str "a sixtyfourth"]).flatten)) r6 (.lst (((wordsA m ++ shT (absI m % 64) 4).map V.str ++ (List.replicate (absI m % 64 / 2 % 2).toNat [V.str "a thirtysecond"]).flatten) ++ (List.replicate (absI m % 64 % 2).toNat [V.str "a sixtyfourth"]).flatten)) := ⟨_, rfl⟩
        have h6 : HE r6 = some (.lst ((wordsA m ++ wordsB m).map V.str)) := by rw [hHE, upd_same, eL]
        have sE : Same H HE := hHE ▸ sE
        have e64 : absI m % 64 % 2 = absI m % 64 % 2 := rfl
        obtain ⟨j1, j2⟩ := words_ok a1
        obtain ⟨j3, j4⟩ := join_ok j1 j2 (a := " and ") (by decide)
        have j5 := wsgn_len m
        rw [← hHE]
        refine ⟨_, rfl, _, _, rfl, rfl, Or.inr ⟨_, rfl, _, _, rfl, rfl, ?_⟩⟩
        rw [wsgn_if]
        refine ⟨⟨_, rfl⟩, _, rfl, _, r6, wordsA m ++ wordsB m, rfl, rfl, Or.inl (SqL.of h6), j3, _, _, rfl, rfl, len_sl (by omega), ?_⟩
        refine ⟨_, rfl, Nat.zero_le _, fun q hq => ⟨wordsA m ++ wordsB m, [], dp_strs (SqL.of ((same_new hq) _ _ h6)), dp_strs (SqL.of upd_same), Or.inr ⟨_, rfl, _, _, rfl, rfl, _, _, rfl, rfl, ?_, ?_⟩⟩⟩
        · rw [len_app]
          have : (if decide (wordsA m ++ wordsB m = []) = true then ("nothing" : Str) else Str.empty).length ≤ 7 := by split <;> decide
          exact len_sl (by omega)
        · rw [words_fin hm hrn hr64]
          exact k _ (sE.trans (same_new hq))
    | halves =>
      refine ⟨_, rfl, rfl, _, rfl, ?_⟩
      refine bool_of_false (by decide) ?_
      refine ⟨Nat.zero_le _, fun e0 he0 => ?_⟩
      have s0 := same_new (o := .lst []) he0
      refine ⟨_, rfl, rfl, _, rfl, ?_⟩
      refine bool_of_false (by decide) ?_
      refine ⟨_, rfl, rfl, _, rfl, ?_⟩
      refine bool_of_true rfl ?_
      refine ⟨_, rfl, _, _, rfl, rfl, Or.inr ⟨_, rfl, _, _, rfl, rfl, ?_⟩⟩
      rw [sgn_if]
      have l1 := len_sgn m
      have l2 := dblS_len (absI m / 64)
      have l3 := zf_len' (i := absI m % 64) (by omega) (by omega)
      have l4 : ("." : Str).length = 1 := rfl
      have l5 := dblS_len (64 + absI m % 64)
      refine ⟨_, rfl, absI m / 64, rfl, ⟨by omega, by omega⟩, fun H1 s1 => ⟨_, _, rfl, rfl, len_sl (by omega), _, _, rfl, rfl, len_sl (by rw [len_app]; omega), ?_⟩⟩
      refine ⟨_, rfl, _, _, rfl, rfl, 64 + absI m % 64, rfl, ⟨by omega, by omega⟩, fun H2 s2 => ⟨_, rfl, _, rfl, len_sl (by omega), ?_⟩⟩
      have e : Txt.slice (dblS (64 + absI m % 64)) (some 1) none = Txt.zfill (dblS (absI m % 64)) 6 := by
        rw [hrn]
        exact hz_ok rn hr64
      rw [e]
      refine ⟨_, _, rfl, rfl, len_sl (by rw [len_app, len_app]; omega), ?_⟩
      exact k _ (s0.trans (s1.trans s2))
    | inches =>
      refine ⟨_, rfl, rfl, _, rfl, ?_⟩
      refine bool_of_false (by decide) ?_
      refine ⟨Nat.zero_le _, fun l hl => ?_⟩
      refine ⟨_, rfl, rfl, _, rfl, ?_⟩
      refine bool_of_false (by decide) ?_
      refine ⟨_, rfl, rfl, _, rfl, ?_⟩
      refine bool_of_false (by decide) ?_
      have ez : (redF 6 (absI m % 64) 64).1 = 0 ↔ absI m % 64 = 0 := by
        rw [hrn]
        have := decide_eq_decide.mp (red_zero rn hr64)
        rw [this]
        omega
      refine ⟨fun σ' H' => σ' = [some (.int m), some (.str "inches"), some (.int (absI m / 64)), some (.int (absI m % 64)), some (.ref l), none, none, none] ∧ H' = upd H l (.lst ((inchA m).map V.str)), ?_, ?_⟩
      · refine ⟨_, rfl, _, _, rfl, rfl, _, rfl, ?_⟩
        refine ite2 (fun h => ?_) (fun h => ?_)
        · refine ⟨_, rfl, Or.inl ⟨rfl, _, SqL.of upd_same⟩, _, rfl, _, rfl, sm_log ⟨by omega, by omega⟩, l, _, _, rfl, rfl, upd_same, by decide, rfl, ?_⟩
          have := of_decide_eq_true h
          unfold inchA
          rw [if_pos (Or.inl this), upd_upd]
          rfl
        · refine ⟨_, rfl, rfl, _, rfl, ?_⟩
          refine ite2 (fun h2 => ?_) (fun h2 => ?_)
          · refine ⟨_, rfl, Or.inl ⟨rfl, _, SqL.of upd_same⟩, _, rfl, _, rfl, sm_log ⟨by omega, by omega⟩, l, _, _, rfl, rfl, upd_same, by decide, rfl, ?_⟩
            have := of_decide_eq_true h2
            unfold inchA
            rw [if_pos (Or.inr (ez.mpr (by injection this))), upd_upd]
            rfl
          · refine ⟨rfl, ?_⟩
            unfold inchA
            rw [if_neg ?_]
            · rfl
            · rintro (h' | h')
              · exact h (decide_eq_true h')
              · exact h2 (decide_eq_true (congrArg V.int (ez.mp h')))
      · rintro _ _ ⟨rfl, rfl⟩
        refine ⟨fun σ' H' => ∃ t b : Int, (t, b) = redF 6 (absI m % 64) 64 ∧ σ' = [some (.int m), some (.str "inches"), some (.int (absI m / 64)), some (.int t), some (.ref l), none, none, some (.int b)] ∧ H' = upd H l (.lst ((inchA m).map V.str)), ⟨fun n σ H' => ∃ t b : Int, σ = [some (.int m), some (.str "inches"), some (.int (absI m / 64)), some (.int t), some (.ref l), none, none, some (.int b)] ∧ H' = upd H l (.lst ((inchA m).map V.str)) ∧ redF n t b = redF 6 (absI m % 64) 64 ∧ 0 ≤ t ∧ t < 2 ^ n ∧ 0 ≤ b, ⟨6, _, _, rfl, rfl, rfl, by omega, by omega, by decide⟩, ?_⟩, ?_⟩
        · rintro n σ H' ⟨t, b, rfl, rfl, he, h0, h1, hb⟩
          refine ⟨_, rfl, _, _, rfl, rfl, _, rfl, ?_⟩
          have fin : ¬ (t > 0 ∧ t % 2 = 0) → redF n t b = (t, b) := fun hn => by
            cases n with
            | zero => rfl
            | succ n => unfold redF; rw [if_neg hn]
          refine ite2 (fun h => ?_) (fun h => ?_)
          · have ht := of_decide_eq_true h
            refine ⟨_, rfl, _, _, rfl, rfl, (by decide : (0 : Int) < 2), rfl, _, rfl, ?_⟩
            refine ite2 (fun h2 => ?_) (fun h2 => ?_)
            · have h2 := of_decide_eq_true h2
              have h2 : t % 2 = 0 := by injection h2
              cases n with
              | zero => omega
              | succ n =>
                refine ⟨_, fun σ' H' h' => ⟨n, Nat.lt_succ_self n, h'⟩, ?_⟩
                refine ⟨_, rfl, _, _, rfl, rfl, ⟨by decide, by decide⟩, _, rfl, _, _, rfl, rfl, ⟨by decide, by decide⟩, _, _, rfl, ?_⟩
                refine ⟨t / 2, b / 2, rfl, rfl, ?_, by omega, ?_, by omega⟩
                · rw [← he]
                  conv => rhs; unfold redF
                  rw [if_pos ⟨ht, h2⟩]
                · rw [Int.pow_succ] at h1
                  omega
            · refine ⟨t, b, ?_, rfl, rfl⟩
              rw [← fin (fun z => h2 (decide_eq_true (congrArg V.int z.2))), he]
          · refine iteF ?_
            refine ⟨t, b, ?_, rfl, rfl⟩
            rw [← fin (fun z => h (decide_eq_true z.1)), he]
        · rintro _ _ ⟨t, b, he, rfl, rfl⟩
          have e1 : (redF 6 (absI m % 64) 64).1 = t := by rw [← he]
          have e2 : (redF 6 (absI m % 64) 64).2 = b := by rw [← he]
          obtain ⟨r0, r1, r2, r3⟩ := redF_bounds 6 (absI m % 64) 64 (by omega) (by omega) (by omega)
          rw [e1] at r0 r1
          rw [e2] at r2 r3
          refine ⟨fun σ' H' => σ' = [some (.int m), some (.str "inches"), some (.int (absI m / 64)), some (.int t), some (.ref l), none, none, some (.int b)] ∧ H' = upd H l (.lst ((inchA m ++ inchB m).map V.str)), ?_, ?_⟩
          · refine ⟨_, rfl, _, _, rfl, rfl, _, rfl, ?_⟩
            refine ite2 (fun h => ?_) (fun h => ?_)
            · have ht := of_decide_eq_true h
              have l1 : (Str.ofString (toString t)).length ≤ 7 := len_num (i := t) (by omega) (by omega)
              have l4 : (Str.ofString (toString b)).length ≤ 7 := len_num (i := b) (by omega) (by omega)
              have l5 : ("/" : Str).length = 1 := rfl
              refine ⟨_, rfl, Or.inl ⟨rfl, _, SqL.of upd_same⟩, _, rfl, _, rfl, sm_log ⟨by omega, by omega⟩, _, _, rfl, rfl, len_sl (by omega), _, rfl, _, rfl, sm_log ⟨by omega, by omega⟩, _, _, rfl, rfl, len_sl (by rw [len_app]; omega), ?_⟩
              refine ⟨l, _, _, rfl, rfl, upd_same, ?_, rfl, ?_⟩
              · rw [List.length_map]
                exact Nat.lt_of_le_of_lt (Nat.le_trans (by rw [List.length_append]; exact Nat.le_add_right _ _) (inch_ab m)) (by decide)
              · rw [upd_upd]
                unfold inchB
                rw [e1, e2, if_pos ht, List.map_append]
                unfold frS
                rw [str_empty_l]
                rfl
            · refine ⟨rfl, ?_⟩
              unfold inchB
              rw [e1, if_neg (fun z => h (decide_eq_true z)), List.append_nil]
          · rintro _ _ ⟨rfl, rfl⟩
            refine ⟨_, rfl, _, _, rfl, rfl, Or.inr ⟨_, rfl, _, _, rfl, rfl, ?_⟩⟩
            rw [sgn_if]
            refine ⟨⟨_, rfl⟩, _, rfl, _, l, inchA m ++ inchB m, rfl, rfl, Or.inl (SqL.of upd_same), join_small (inch_ab m) (inch_len hsm), _, _, rfl, rfl, ?_, ?_⟩
            · have := join_len (inch_ab m) (inch_len hsm)
              have := len_sgn m
              exact Nat.le_trans (by omega : _ ≤ 6000) (by decide)
            · exact k _ (same_new hl)
end
end Fw
set_option Elab.async false
set_option linter.all false
set_option maxRecDepth 100000
set_option maxHeartbeats 4000000
namespace Fw
open PySem PySem.Spec PyProof.Rows L2
open C8 (Cal CalAt Met Mak pe_c pe_mk pe_mt pe_mt0 pe_gc InsC call_isC)

section
variable {P : Program} {w : World} {K : PySem.W.Frag} {mg : Str → Option Value} {base : Heap}

theorem str_assoc (x y z : Str) : (x ++ y) ++ z = x ++ (y ++ z) := TL.ext_tl (by rw [TL.tl_append, TL.tl_append, TL.tl_append, TL.tl_append, List.append_assoc])
theorem over_if (a : Int) : (if decide (0 ≤ a) = true then ("+" : Str) else Str.empty) = overS a := by
  unfold overS
  by_cases h : 0 ≤ a
  · rw [decide_eq_true h, if_pos rfl, if_pos h]
  · rw [decide_eq_false h, if_neg h]
    rfl
theorem under_if (b : Int) : (if decide (b < 0) = true then ("+" : Str) else Str.empty) ++ (if decide (V.int b = V.int 0) = true then ("-" : Str) else Str.empty) = underS b := by
  unfold underS
  by_cases h : b = 0
  · subst h
    decide +kernel
  · rw [if_neg h, decide_eq_false (fun q : V.int b = V.int 0 => h (by injection q))]
    show _ ++ Str.empty = _
    rw [str_empty_r]
    by_cases h2 : b < 0
    · rw [decide_eq_true h2, if_pos rfl, if_pos h2]
    · rw [decide_eq_false h2, if_neg h2]
      rfl
theorem s_law_tell_parts : FnScope ["_law_parts_here", "_law_way", "_law_size", "_law_above", "_law_below", "_law_over", "_law_under"] ["_law_parts_here", "_law_way"] d_law_tell_parts.scope := ⟨rfl, rfl, rfl, by decide +kernel, rfl, by decide +kernel, by decide +kernel⟩
theorem c_law_tell_parts (T : Txt w K mg) : Cal P w K mg base 3 "_law_tell_parts" (fun vs H Q _ => ∃ (t : Addr) (pr : Par) (y : Way), vs = [.ref t, .str y.s] ∧ H t = some (.tup [.int pr.1, .int pr.2.1, .int pr.2.2]) ∧ Pmd pr ∧ ∀ H', Same H H' → Q (.str (spanS y pr.1 pr.2.1 pr.2.2)) H') [] := by
  refine T.cal 86 74 (d := d_law_tell_parts) (S := s_law_tell_parts) (hb := fun _ _ _ _ _ _ us hl => match us, hl with | [_, _], _ => rfl) (len := fun vs H Q E h => ?_) (hbody := fun cdv A outer s H vs Q E hr h => ?_)
  · obtain ⟨t, pr, y, rfl, ht, ⟨m1, m2, m3⟩, k⟩ := h
    rfl
  · obtain ⟨t, pr, y, rfl, ht, ⟨m1, m2, m3⟩, k⟩ := h
    refine ⟨_, (pss_cons (ps_asg (pv 0) (pg_tup rfl (pgs_cons (pg_name (i := 2) s_law_tell_parts.nd rfl (Or.inl rfl)) (pgs_cons (pg_name (i := 3) s_law_tell_parts.nd rfl (Or.inl rfl)) (pgs_cons (pg_name (i := 4) s_law_tell_parts.nd rfl (Or.inl rfl)) pgs_nil)))))
      (pss_cons (ps_if (pt_cmpR op_eq (pv 1) pe_str (nomark _)) (pss_one (ps_ret (pe_op op_add_str (pe_op op_add_str (pe_op op_add_str (pe_op op_add_str (pe_c (c_law_tell T) hr (by decide) rfl (pa_cons (pv 2) (pa_cons (pv 1) pa_nil))) pe_str) (pe_c (c_law_tell T) hr (by decide) rfl (pa_cons (pv 3) (pa_cons (pv 1) pa_nil)))) pe_str) (pe_c (c_law_tell T) hr (by decide) rfl (pa_cons (pv 4) (pa_cons (pv 1) pa_nil)))))) pss_nil)
      (pss_cons (ps_set (i := 5) s_law_tell_parts.nd rfl (Or.inl rfl) (pe_op op_add_str (pe_op op_mul_str pe_str (pe_callTy (T := "int") call_int1 (by rfl) (T.f 102) (by decide +kernel) (pa_cons (pe_cmpR op_ge (pv 3) pe_int (nomark _)) pa_nil))) (pe_c (c_law_tell T) hr (by decide) rfl (pa_cons (pv 3) (pa_cons (pv 1) pa_nil)))))
      (pss_cons (ps_set (i := 6) s_law_tell_parts.nd rfl (Or.inl rfl) (pe_op op_add_str (pe_op op_add_str (pe_op op_mul_str pe_str (pe_callTy (T := "int") call_int1 (by rfl) (T.f 102) (by decide +kernel) (pa_cons (pe_cmpR op_lt (pv 4) pe_int (nomark _)) pa_nil))) (pe_op op_mul_str pe_str (pe_callTy (T := "int") call_int1 (by rfl) (T.f 102) (by decide +kernel) (pa_cons (pe_cmpR op_eq (pv 4) pe_int (nomark _)) pa_nil)))) (pe_c (c_law_tell T) hr (by decide) rfl (pa_cons (pe_op op_sub pe_int (pv 4)) (pa_cons (pv 1) pa_nil)))))
      (pss_one (ps_ret (pe_op op_add_str (pe_op op_add_str (pe_op op_add_str (pe_op op_add_str (pe_c (c_law_tell T) hr (by decide) rfl (pa_cons (pv 2) (pa_cons (pv 1) pa_nil))) pe_str) (pv 5)) pe_str) (pv 6)))))))), ?_⟩
    obtain ⟨s, a, b⟩ := pr
    have ht : H t = some (.tup [.int s, .int a, .int b]) := ht
    have m1 : Md s := m1
    have m2 : Md a := m2
    have m3 : Md b := m3
    have m4 : Md (0 - b) := ⟨by omega, by omega⟩
    have k : ∀ H', Same H H' → Q (.str (spanS y s a b)) H' := k
    have l1 := tellS_len y m1
    have l2 := tellS_len y m2
    have l3 := tellS_len y m3
    have l4 := tellS_len y m4
    have l5 := overS_len a
    have l6 := underS_len b
    have x1 : (" above " : Str).length = 7 := rfl
    have x2 : (" below " : Str).length = 7 := rfl
    have x3 : (" " : Str).length = 1 := rfl
    refine ⟨_, rfl, t, _, rfl, SqT.of ht, rfl, _, _, rfl, _, _, rfl, _, _, rfl, rfl, ?_⟩
    refine ⟨_, rfl, rfl, _, rfl, ?_⟩
    rw [way_words y]
    unfold spanS at k
    by_cases hy : y = .words
    · rw [if_pos hy] at k
      rw [decide_eq_true hy]
      refine iteT ?_
      refine ⟨_, rfl, _, rfl, s, y, rfl, m1, fun H1 s1 => ⟨_, _, rfl, rfl, len_sl (by omega), ?_⟩⟩
      refine ⟨_, rfl, _, rfl, a, y, rfl, m2, fun H2 s2 => ⟨_, _, rfl, rfl, len_sl (by rw [len_app]; omega), _, _, rfl, rfl, len_sl (by rw [len_app, len_app]; omega), ?_⟩⟩
      refine ⟨_, rfl, _, rfl, b, y, rfl, m3, fun H3 s3 => ⟨_, _, rfl, rfl, len_sl (by rw [len_app, len_app, len_app]; omega), ?_⟩⟩
      exact k _ (s1.trans (s2.trans s3))
    · rw [if_neg hy] at k
      rw [decide_eq_false hy]
      refine iteF ?_
      refine ⟨_, rfl, _, _, rfl, rfl, Or.inr ⟨_, rfl, _, _, rfl, rfl, ?_⟩⟩
      rw [over_if]
      refine ⟨_, rfl, _, rfl, a, y, rfl, m2, fun H1 s1 => ⟨_, _, rfl, rfl, len_sl (by omega), ?_⟩⟩
      refine ⟨_, rfl, _, _, rfl, rfl, Or.inr ⟨_, rfl, _, _, rfl, rfl, _, rfl, rfl, Or.inr ⟨_, rfl, _, _, rfl, rfl, _, _, rfl, rfl, ?_, ?_⟩⟩⟩
      · refine len_sl (Nat.le_trans (Nat.add_le_add (?_ : _ ≤ 1) (?_ : _ ≤ 1)) (by decide)) <;> (split <;> decide)
      rw [under_if]
      refine ⟨_, rfl, _, _, rfl, rfl, _, rfl, 0 - b, y, rfl, m4, fun H2 s2 => ⟨_, _, rfl, rfl, len_sl (by omega), ?_⟩⟩
      refine ⟨_, rfl, _, rfl, s, y, rfl, m1, fun H3 s3 => ⟨_, _, rfl, rfl, len_sl (by omega), _, rfl, _, _, rfl, rfl, len_sl (by rw [len_app, len_app]; omega), _, _, rfl, rfl, len_sl (by rw [len_app, len_app, len_app]; omega), _, rfl, _, _, rfl, rfl, len_sl (by rw [len_app, len_app, len_app, len_app, len_app]; omega), ?_⟩⟩
      have e : ((((tellS y s ++ " ") ++ (overS a ++ tellS y a)) ++ " ") ++ (underS b ++ tellS y (0 - b))) = ((((((tellS y s ++ " ") ++ overS a) ++ tellS y a) ++ " ") ++ underS b) ++ tellS y (0 - b)) := by
        rw [← str_assoc, ← str_assoc]
      rw [e]
      exact k _ (s1.trans (s2.trans s3))
theorem rowS_law (y : Way) (r : Row) : (((r.1 ++ " from ") ++ r.2.1) ++ ": ") ++ spanS y r.2.2.1 r.2.2.2.1 r.2.2.2.2 = rowS y r := by
  unfold rowS
  rw [str_empty_l]
theorem wantS_law (y : Way) (r : Want) : (((("want " ++ r.1) ++ " to ") ++ r.2.1) ++ ": ") ++ spanS y r.2.2.1 r.2.2.2.1 r.2.2.2.2 = wantS y r := by
  unfold wantS
  rw [str_empty_l]
theorem zlS_law (z : Str) : "zero " ++ z = zlS z := by
  unfold zlS
  rw [str_empty_l]
theorem s_law_lines : FnScope ["_law_sketch_here", "_law_wants_here", "_law_way", "_law_rows", "_law_name", "_law_start", "_law_parts_here", "_law_one", "_law_other"] ["_law_sketch_here", "_law_wants_here", "_law_way"] d_law_lines.scope := ⟨rfl, rfl, rfl, by decide +kernel, rfl, by decide +kernel, by decide +kernel⟩
theorem c_law_lines (T : Txt w K mg) : Cal P w K mg base 4 "_law_lines" (fun vs H Q _ => ∃ (l lw : Addr) (y : Way) (z : Str) (rs : List Row) (wts : List Want), vs = [.ref l, .ref lw, .str y.s] ∧ SkAt H l z rs ∧ RowsL H lw wts ∧ Good z rs ∧ WtsIn z rs wts ∧ (∀ r ∈ rs, Pmd r.2.2) ∧ (∀ wt ∈ wts, Pmd wt.2.2) ∧ rs.length ≤ 12 ∧ wts.length ≤ 12 ∧ ∀ H', Same H H' → Q (.str (Txt.join "\n" (shownL y z rs wts))) H') [] := by
  refine T.cal 103 91 (d := d_law_lines) (S := s_law_lines) (hb := fun _ _ _ _ _ _ us hl => match us, hl with | [_, _, _], _ => rfl) (len := fun vs H Q E h => ?_) (hbody := fun cdv A outer s H vs Q E hr h => ?_)
  · obtain ⟨l, lw, y, z, rs, wts, rfl, ⟨l2, hl, vs, hl2, hpv⟩, ⟨ws, hlw, hpw⟩, good, hin, hr1, hw1, n1, n2, k⟩ := h
    rfl
  · obtain ⟨l, lw, y, z, rs, wts, rfl, ⟨l2, hl, vs, hl2, hpv⟩, ⟨ws, hlw, hpw⟩, good, hin, hr1, hw1, n1, n2, k⟩ := h
    refine ⟨_, (pss_cons (ps_set (i := 3) s_law_lines.nd rfl (Or.inl rfl) (pe_lst (pa_cons (pe_op op_add_str pe_str (pe_ix (ix_listK (K := K) rfl) (pv 0) pe_int (fun _ _ => rfl))) pa_nil)))
      (pss_cons (ps_for PassesOwn.never rfl (pi_list (pe_ix (ix_listK (K := K) rfl) (pv 0) pe_int (fun _ _ => rfl))) (pg_tup rfl (pgs_cons (pg_name (i := 4) s_law_lines.nd rfl (Or.inl rfl)) (pgs_cons (pg_name (i := 5) s_law_lines.nd rfl (Or.inl rfl)) (pgs_cons (pg_name (i := 6) s_law_lines.nd rfl (Or.inl rfl)) pgs_nil))))
      (pss_one (ps_expr (pe_bm PySem.F.plainAttrs_list PySem.F.slot_list_append PySem.F.type_list_append mt_append (pv 3) (pa_cons (pe_op op_add_str (pe_op op_add_str (pe_op op_add_str (pe_op op_add_str (pv 4) pe_str) (pv 5)) pe_str) (pe_c (c_law_tell_parts T) hr (by decide) rfl (pa_cons (pv 6) (pa_cons (pv 2) pa_nil)))) pa_nil)))))
      (pss_cons (ps_for PassesOwn.never rfl (pi_list (pv 1)) (pg_tup rfl (pgs_cons (pg_name (i := 7) s_law_lines.nd rfl (Or.inl rfl)) (pgs_cons (pg_name (i := 8) s_law_lines.nd rfl (Or.inl rfl)) (pgs_cons (pg_name (i := 6) s_law_lines.nd rfl (Or.inl rfl)) pgs_nil))))
      (pss_one (ps_expr (pe_bm PySem.F.plainAttrs_list PySem.F.slot_list_append PySem.F.type_list_append mt_append (pv 3) (pa_cons (pe_op op_add_str (pe_op op_add_str (pe_op op_add_str (pe_op op_add_str (pe_op op_add_str pe_str (pv 7)) pe_str) (pv 8)) pe_str) (pe_c (c_law_tell_parts T) hr (by decide) rfl (pa_cons (pv 6) (pa_cons (pv 2) pa_nil)))) pa_nil)))))
      (pss_one (ps_ret (pe_join pe_str (pv 3))))))), ?_⟩
    have x0 : ("zero " : Str).length = 5 := rfl
    have x1 : ("want " : Str).length = 5 := rfl
    have x2 : (" to " : Str).length = 4 := rfl
    have x3 : (": " : Str).length = 2 := rfl
    have x4 : (" from " : Str).length = 6 := rfl
    have z6 := good.zero.2.1
    refine ⟨_, rfl, l, _, _, _, rfl, rfl, SqL.of hl, atI_nat (j := 0) rfl, _, _, rfl, rfl, len_sl (by omega), sz1, fun q hq => ?_⟩
    rw [zlS_law]
    have s1 := same_new (o := .lst [.str (zlS z)]) hq
    have hl1 := s1 _ _ hl
    have hl21 := s1 _ _ hl2
    have hlw1 := s1 _ _ hlw
    have hq1 : (upd H q (.lst [.str (zlS z)])) q = some (.lst [.str (zlS z)]) := upd_same
    have nl2 : l2 ≠ q := fun e => by rw [e, hq] at hl2; cases hl2
    have nlw : lw ≠ q := fun e => by rw [e, hq] at hlw; cases hlw
    generalize upd H q (.lst [.str (zlS z)]) = H1 at s1 hl1 hl21 hlw1 hq1 ⊢
    refine ⟨_, rfl, l, _, _, _, rfl, rfl, SqL.of hl1, atI_nat (j := 1) rfl, l2, rfl, ⟨_, SqL.of hl21⟩, for_list (K := K) (xs := vs) (fun i σ' H' => ∃ o4 o5 o6, σ' = [some (.ref l), some (.ref lw), some (.str y.s), some (.ref q), o4, o5, o6, none, none] ∧ Bt q H1 H' ∧ H' q = some (.lst ((zlS z :: (rs.reverse.take i).map (rowS y)).map V.str))) ?_ ?_ ?_ ?_⟩
    · exact ⟨none, none, none, rfl, fun _ _ _ h => h, hq1⟩
    · rintro i σ' H' _ ⟨_, _, _, _, b, _⟩
      exact SqL.of (b _ _ nl2 hl21)
    · rintro i x σ' H' hx ⟨o4, o5, o6, rfl, b, hL⟩
      obtain ⟨r, hr, t, t2, rfl, ht, ht2⟩ := p_get hpv hx
      have hrm := List.mem_reverse.mp (List.mem_of_getElem? hr)
      have hn : r.1 ∈ rnm rs := List.mem_map.mpr ⟨_, hrm, rfl⟩
      obtain ⟨s', p', hl', h3, _, _, hok, _⟩ := look_some good hn
      cases look_uniq good hrm hl'
      have k1 := hok.2.1
      have k2 : r.2.1.length ≤ 6 := (good.ok h3).2.1
      have k1 : r.1.length ≤ 6 := k1
      have hmd := hr1 r hrm
      have sl : (spanS y r.2.2.1 r.2.2.2.1 r.2.2.2.2).length ≤ 400000 := spanS_len y hmd.1 hmd.2.1 hmd.2.2
      have sA : Same H H' := b.same s1 hq
      refine ⟨t, _, rfl, SqT.of (sA _ _ ht), rfl, _, _, rfl, _, _, rfl, _, _, rfl, rfl, ?_⟩
      refine ⟨_, rfl, Or.inl ⟨rfl, _, SqL.of hL⟩, _, rfl, _, _, rfl, rfl, len_sl (by omega), _, rfl, _, _, rfl, rfl, len_sl (by rw [len_app]; omega), _, _, rfl, rfl, len_sl (by rw [len_app, len_app]; omega), ?_⟩
      refine ⟨_, rfl, _, rfl, t2, r.2.2, y, rfl, sA _ _ ht2, hmd, fun H3 s3 => ⟨_, _, rfl, rfl, len_sl (by rw [len_app, len_app, len_app]; omega), ?_⟩⟩
      rw [rowS_law]
      have hL3 := s3 _ _ hL
      refine ⟨q, _, _, rfl, rfl, hL3, ?_, ?_⟩
      · rw [List.length_map, List.length_cons, List.length_map, List.length_take, List.length_reverse]
        exact Nat.lt_of_le_of_lt (by omega : _ ≤ 200) (by decide)
      · refine ⟨_, _, _, rfl, b.trans ((Bt.of s3).trans Bt.upd), ?_⟩
        rw [upd_same, List.take_add_one, hr, List.map_append, ← List.cons_append, List.map_append (f := V.str)]
        rfl
    · rintro σ' H' ⟨o4, o5, o6, rfl, b, hL⟩
      rw [← Paired.len hpv, List.take_length] at hL
      have hL : H' q = some (.lst ((linesP y z rs).map V.str)) := hL
      refine ⟨_, rfl, lw, rfl, ⟨_, SqL.of (b _ _ nlw hlw1)⟩, for_list (K := K) (xs := ws) (fun i σ' H' => ∃ o4 o5 o6 o7 o8, σ' = [some (.ref l), some (.ref lw), some (.str y.s), some (.ref q), o4, o5, o6, o7, o8] ∧ Bt q H1 H' ∧ H' q = some (.lst ((linesP y z rs ++ (wts.take i).map (wantS y)).map V.str))) ?_ ?_ ?_ ?_⟩
      · refine ⟨_, _, _, _, _, rfl, b, ?_⟩
        rw [List.take_zero, List.map_nil, List.append_nil]
        exact hL
      · rintro i σ' H' _ ⟨_, _, _, _, _, _, b, _⟩
        exact SqL.of (b _ _ nlw hlw1)
      · rintro i x σ' H' hx ⟨o4, o5, o6, o7, o8, rfl, b, hL⟩
        obtain ⟨r, hr, t, t2, rfl, ht, ht2⟩ := p_get hpw hx
        have hrm := List.mem_of_getElem? hr
        have hil := (List.getElem?_eq_some_iff.mp hr).1
        obtain ⟨g1, g2⟩ := hin r hrm
        have k1 := (good.ok g1).2.1
        have k2 := (good.ok g2).2.1
        have hmd := hw1 r hrm
        have sl : (spanS y r.2.2.1 r.2.2.2.1 r.2.2.2.2).length ≤ 400000 := spanS_len y hmd.1 hmd.2.1 hmd.2.2
        have sA : Same H H' := b.same s1 hq
        refine ⟨t, _, rfl, SqT.of (sA _ _ ht), rfl, _, _, rfl, _, _, rfl, _, _, rfl, rfl, ?_⟩
        refine ⟨_, rfl, Or.inl ⟨rfl, _, SqL.of hL⟩, _, rfl, _, _, rfl, rfl, len_sl (by omega), _, _, rfl, rfl, len_sl (by rw [len_app]; omega), _, rfl, _, _, rfl, rfl, len_sl (by rw [len_app, len_app]; omega), _, _, rfl, rfl, len_sl (by rw [len_app, len_app, len_app]; omega), ?_⟩
        refine ⟨_, rfl, _, rfl, t2, r.2.2, y, rfl, sA _ _ ht2, hmd, fun H3 s3 => ⟨_, _, rfl, rfl, len_sl (by rw [len_app, len_app, len_app, len_app]; omega), ?_⟩⟩
        rw [wantS_law]
        have hL3 := s3 _ _ hL
        refine ⟨q, _, _, rfl, rfl, hL3, ?_, ?_⟩
        · unfold linesP
          rw [List.length_map, List.length_append, List.length_cons, List.length_map, List.length_map, List.length_take, List.length_reverse]
          exact Nat.lt_of_le_of_lt (by omega : _ ≤ 200) (by decide)
        · refine ⟨_, _, _, _, _, rfl, b.trans ((Bt.of s3).trans Bt.upd), ?_⟩
          rw [upd_same, List.take_add_one, hr, Option.toList_some, List.map_append (f := wantS y), ← List.append_assoc]
          exact congrArg (fun t => some (HO.lst t)) (List.map_append (f := V.str) (l₁ := linesP y z rs ++ (wts.take i).map (wantS y)) (l₂ := [wantS y r])).symm
      · rintro σ' H' ⟨o4, o5, o6, o7, o8, rfl, b, hL⟩
        rw [← Paired.len hpw, List.take_length] at hL
        have sA : Same H H' := b.same s1 hq
        refine ⟨⟨_, rfl⟩, _, rfl, _, q, shownL y z rs wts, rfl, rfl, Or.inl (SqL.of hL), shown_bound y good hr1 hw1 hin n1 n2, k _ sA⟩
end
end Fw
set_option Elab.async false
set_option linter.all false
set_option maxRecDepth 100000
set_option maxHeartbeats 4000000
namespace Fw
open PySem PySem.Spec PyProof.Rows L2
open C8 (Cal CalAt Met Mak pe_c pe_mk pe_mt pe_mt0 pe_gc InsC call_isC)

section
variable {P : Program} {w : World} {K : PySem.W.Frag} {mg : Str → Option Value} {base : Heap}

theorem neD_map {K : PySem.W.Frag} {H : Hp} {a b d d2 : Addr} {z : Str} {rs rs2 : List Row} (hA : DrawAt K H a d z rs) (hB : DrawAt K H b d2 z rs2) (hd : d ≠ d2) (hl : rs.length = rs2.length)
    (hk : ∀ n s p, look rs n = some (s, p) → ∃ p2, look rs2 n = some (s, p2) ∧ p.1 - p.2.2 = p2.1 - p2.2.2 ∧ p.1 + p.2.1 = p2.1 + p2.2.1) : DIns (He.ga K "Drawing") (RD K) (.ref a) (.ref b) H := by
  obtain ⟨dx, h1⟩ := hA.ins
  obtain ⟨dy, h2⟩ := hB.ins
  exact ⟨a, b, dx, dy, _, _, rfl, rfl, h1, h2, d, d2, z, rs, rs2, hA, hB, hd, hl, hk⟩
theorem neD_same {K : PySem.W.Frag} {H : Hp} {a b d d2 : Addr} {z : Str} {rs : List Row} (hA : DrawAt K H a d z rs) (hB : DrawAt K H b d2 z rs) (hd : d ≠ d2) : DIns (He.ga K "Drawing") (RD K) (.ref a) (.ref b) H :=
  neD_map hA hB hd rfl fun n s p h => ⟨p, h, rfl, rfl⟩
theorem want_val {K : PySem.W.Frag} {H : Hp} {wt : Want} {x y : V} (h1 : WantAt K H wt x) (h2 : WantAt K H wt y) : DVal K x y H := by
  obtain ⟨t, sp, rfl, ht, hSp⟩ := h1
  obtain ⟨t2, sp2, rfl, ht2, hSp2⟩ := h2
  refine ⟨t, t2, _, _, rfl, rfl, ht, ht2, ?_⟩
  refine Prs.cons (.inl ⟨rfl, rfl, beq_self_eq_true wt.1⟩) (Prs.cons (.inl ⟨rfl, rfl, beq_self_eq_true wt.2.1⟩) (Prs.cons (.inr ?_) Prs.nil))
  obtain ⟨dx, hx⟩ := id hSp
  obtain ⟨dy, hy⟩ := id hSp2
  exact ⟨sp, sp2, dx, dy, _, _, rfl, rfl, hx, hy, _, _, _, _, _, _, hSp, hSp2, rfl, rfl⟩
theorem wants_val {K : PySem.W.Frag} {H : Hp} : ∀ {wts : List Want} {xs ys : List V}, Paired (WantAt K H) wts xs → Paired (WantAt K H) wts ys → Prs (DVal K) xs ys H
  | [], [], [], .nil, .nil => Prs.nil
  | wt :: wts, x :: xs, y :: ys, .cons h t, .cons h2 t2 => Prs.cons (want_val h h2) (wants_val t t2)
theorem DrawAt.ne {K : PySem.W.Frag} {H H' : Hp} {a d e : Addr} {z : Str} {rs : List Row} (h : DrawAt K H a d z rs) (he : H e = none) : e ≠ d := fun q => by
  obtain ⟨kvs, hk, _⟩ := h.rows
  rw [← q, he] at hk
  cases hk
/-- a text of a drawing, told and read again -/
structure TbOk (y : Way) (z : Str) (rs : List Row) (wts : List Want) : Prop where
  good : Good z rs
  few : rs.length ≤ 12
  fw : wts.length ≤ 12
  pr : ∀ r ∈ rs, Pmd r.2.2
  wok : ∀ wt ∈ wts, WOk z rs wt
  txt : (Txt.join "\n" (shownL y z rs wts)).length ≤ 16000000
  rd : RdOk y (Txt.split (Txt.join "\n" (shownL y z rs wts)) "\n") z rs wts
theorem RetRd.mono {K : PySem.W.Frag} {H H1 : Hp} {Q : VK} {z : Str} {rs : List Row} {wts : List Want} (k : RetRd K H Q z rs wts) (s : Same H H1) : RetRd K H1 Q z rs wts := fun t a d w vs H' h1 h2 h3 s2 h4 h5 h6 h7 => k t a d w vs H' (s.free h1) (s.free h2) (s.free h3) (s.trans s2) h4 h5 h6 h7
theorem s_law_there_and_back : FnScope ["_law_sketch_here", "_law_wants_here", "_law_way", "_law_drawing", "_law_some", "_law_text", "_law_found"] ["_law_sketch_here", "_law_wants_here", "_law_way"] d_law_there_and_back.scope := ⟨rfl, rfl, rfl, by decide +kernel, rfl, by decide +kernel, by decide +kernel⟩
theorem c_law_there_and_back (T : Txt w K mg) : Cal P w K mg base 20 "_law_there_and_back" (fun vs H Q _ => ∃ (l lw : Addr) (y : Way) (z : Str) (rs : List Row) (wts : List Want), vs = [.ref l, .ref lw, .str y.s] ∧ SkAt H l z rs ∧ RowsL H lw wts ∧ TbOk y z rs wts ∧ RetRd K H Q z rs wts) [] := by
  refine T.cal 105 93 (d := d_law_there_and_back) (S := s_law_there_and_back) (hb := fun _ _ _ _ _ _ us hl => match us, hl with | [_, _, _], _ => rfl) (len := fun vs H Q E h => ?_) (hbody := fun cdv A outer s H vs Q E hr h => ?_)
  · obtain ⟨l, lw, y, z, rs, wts, rfl, hS, hW, hO, k⟩ := h
    rfl
  · obtain ⟨l, lw, y, z, rs, wts, rfl, hS, hW, hO, k⟩ := h
    refine ⟨_, (pss_cons (ps_par (i := 3) (j := 4) (by rfl) s_law_there_and_back.nd rfl rfl (by decide) rfl rfl (pa_cons (pe_c (c_law_made T) hr (by decide) rfl (pa_cons (pv 0) pa_nil)) (pa_cons (pe_c (c_law_wants_made T) hr (by decide) rfl (pa_cons (pv 1) pa_nil)) pa_nil)) (by rfl))
      (pss_cons (ps_set (i := 5) s_law_there_and_back.nd rfl (Or.inl rfl) (pe_c (c_law_lines T) hr (by decide) rfl (pa_cons (pv 0) (pa_cons (pv 1) (pa_cons (pv 2) pa_nil)))))
      (pss_cons (ps_if (pt_cmpR op_ne (pe_c (c_show_drawing T) hr (by decide) rfl (pa_cons (pv 3) (pa_cons (pv 4) (pa_cons (pv 2) pa_nil)))) (pv 5) (nomark _)) (pss_one (ps_ret pe_non)) pss_nil)
      (pss_cons (ps_set (i := 6) s_law_there_and_back.nd rfl (Or.inl rfl) (pe_c (c_read_drawing T) hr (by decide) rfl (pa_cons (pv 5) (pa_cons (pv 2) pa_nil))))
      (pss_cons (ps_if (PW.pt (pw_or (pt_not (pt_val (pe_callB (id := "isinstance") call_isi (by rfl) (T.f 103) (by decide +kernel) (pa_cons (pv 6) (pa_cons (pe_bltn (v := .ty "tuple") (by rfl) (T.f 111) (by decide +kernel) rfl) pa_nil))))) (pw_or (pt_cmpR op_ne (pe_callB (id := "len") (call_len_seqK (K := K) rfl) (by rfl) (T.f 104) (by decide +kernel) (pa_cons (pv 6) pa_nil)) pe_int (nomark _)) (pw_or1 (pt_not (pt_val (pe_c (c_law_is_drawing T) hr (by decide) rfl (pa_cons (pe_ix (ix_tupK (K := K) rfl) (pv 6) pe_int (fun _ _ => rfl)) (pa_cons (pv 0) pa_nil))))))))) (pss_one (ps_ret pe_non)) pss_nil)
      (pss_cons (ps_if (PW.pt (pw_or (pt_cmpR (op_neDraw rfl T (hr.mono (by decide))) (pe_ix (ix_tupK (K := K) rfl) (pv 6) pe_int (fun _ _ => rfl)) (pv 3) (nomark _)) (pw_or (pt_not (pt_val (pe_callB (id := "isinstance") call_isi (by rfl) (T.f 103) (by decide +kernel) (pa_cons (pe_ix (ix_tupK (K := K) rfl) (pv 6) pe_int (fun _ _ => rfl)) (pa_cons (pe_bltn (v := .ty "tuple") (by rfl) (T.f 111) (by decide +kernel) rfl) pa_nil))))) (pw_or1 (pt_cmpR (op_neWants rfl T (hr.mono (by decide))) (pe_callTy (T := "list") call_list_of (by rfl) (T.f 105) (by decide +kernel) (pa_cons (pe_ix (ix_tupK (K := K) rfl) (pv 6) pe_int (fun _ _ => rfl)) pa_nil)) (pv 4) (nomark _)))))) (pss_one (ps_ret pe_non)) pss_nil)
      (pss_one (ps_ret (pv 6))))))))), ?_⟩
    have good := hO.good
    have fr := hO.few
    have fw := hO.fw
    have hin : WtsIn z rs wts := fun wt h => ⟨(hO.wok wt h).m1, (hO.wok wt h).m2⟩
    have hmd : ∀ wt ∈ wts, Pmd wt.2.2 := fun wt h => (hO.wok wt h).md
    refine ⟨_, rfl, l, z, rs, rfl, hS, good, by omega, fun a d H1 ha hd s1 hD => ?_⟩
    refine ⟨_, rfl, lw, wts, rfl, hW.ext s1, by omega, fun wt h => (hO.wok wt h).ab, fun w xs H2 hw s2 h2 p2 => ⟨_, _, rfl, ?_⟩⟩
    have s12 := s1.trans s2
    have hD : DrawAt K H1 a d z rs := hD
    have hD2 := hD.ext s2
    refine ⟨_, rfl, _, rfl, _, rfl, l, lw, y, z, rs, wts, rfl, hS.ext s12, hW.ext s12, good, hin, hO.pr, hmd, fr, fw, fun H3 s3 => ?_⟩
    refine ⟨_, rfl, _, rfl, _, rfl, a, d, w, z, rs, wts, xs, y, rfl, hD2.ext s3, s3 _ _ h2, p_imp p2 fun _ _ h => h.kp (Kp.of s3), hin, hO.pr, hmd, fr, fw, fun H4 s4 => ?_⟩
    refine ⟨_, rfl, rfl, _, rfl, ?_⟩
    rw [decide_eq_true rfl]
    refine iteF ?_
    have s14 := s12.trans (s3.trans s4)
    have hD4 := hD2.ext (s3.trans s4)
    have h4 := s4 _ _ (s3 _ _ h2)
    have p4 : Paired (WantAt K H4) wts xs := p_imp p2 fun _ _ h => h.kp (Kp.of (s3.trans s4))
    refine ⟨_, rfl, _, rfl, _, y, z, rs, wts, rfl, hO.txt, hO.rd, fun t a2 d2 w2 ys H5 ht ha2 hd2 s5 h5 h5w p5 hD5 => ?_⟩
    have s15 := s14.trans s5
    have hD5 : DrawAt K H5 a2 d2 z rs := hD5
    have p5 : Paired (WantAt K H5) wts ys := p5
    refine ⟨_, rfl, .ref t, .ty "tuple", .type "tuple", .type "tuple", true, rfl, .ty "tuple", .base (.tup h5), kit_ty (by decide +kernel), true, rfl, ?_⟩
    refine ⟨_, rfl, _, _, rfl, Or.inr (SqT.of h5), rfl, _, rfl, ?_⟩
    refine ⟨_, rfl, t, _, _, _, rfl, rfl, SqT.of h5, atI_nat (j := 0) rfl, _, rfl, a2, d2, l, z, rs, rfl, hD5, hS.ext s15, fun H6 s6 => ⟨_, rfl, ?_⟩⟩
    refine iteF ?_
    have h6 := s6 _ _ h5
    have hne : d2 ≠ d := hD4.ne (H' := H4) hd2
    refine ⟨_, rfl, t, _, _, _, rfl, rfl, SqT.of h6, atI_nat (j := 0) rfl, _, rfl, neD_same (hD5.ext s6) ((hD4.ext s5).ext s6) hne, fun H7 s7 => ⟨_, rfl, ?_⟩⟩
    have h7 := s7 _ _ h6
    have h7w := s7 _ _ (s6 _ _ h5w)
    refine iteF ?_
    refine ⟨_, rfl, t, _, _, _, rfl, rfl, SqT.of h7, atI_nat (j := 1) rfl, .ref w2, .ty "tuple", .type "tuple", .type "tuple", true, rfl, .ty "tuple", .base (.tup h7w), kit_ty (by decide +kernel), true, rfl, ?_⟩
    have s67 := s6.trans s7
    refine ⟨_, rfl, t, _, _, _, rfl, rfl, SqT.of h7, atI_nat (j := 1) rfl, w2, ys, rfl, Or.inr (SqT.of h7w), fun q hq => ?_⟩
    have s8 := same_new (o := .lst ys) hq
    have s58 := s67.trans s8
    have s48 := s5.trans s58
    refine ⟨_, rfl, ⟨q, w, ys, xs, rfl, rfl, upd_same, s48 _ _ h4, wants_val (p_imp p5 fun _ _ h => h.kp (Kp.of s58)) (p_imp p4 fun _ _ h => h.kp (Kp.of s48))⟩, fun H9 s9 => ⟨_, rfl, ?_⟩⟩
    refine iteF ?_
    have s59 := s58.trans s9
    exact ⟨_, rfl, k t a2 d2 w2 ys H9 (s14.free ht) (s14.free ha2) (s14.free hd2) (s15.trans s59) (s59 _ _ h5) (s59 _ _ h5w) (p_imp p5 fun _ _ h => h.kp (Kp.of s59)) (hD5.ext s59)⟩
end
end Fw
set_option Elab.async false
set_option linter.all false
set_option maxRecDepth 100000
set_option maxHeartbeats 4000000
namespace Fw
open PySem PySem.Spec PyProof.Rows L2
open C8 (Cal CalAt Met Mak pe_c pe_mk pe_mt pe_mt0 pe_gc InsC call_isC)

section
variable {P : Program} {w : World} {K : PySem.W.Frag} {mg : Str → Option Value} {base : Heap}

/-! what the plain laws say -/
structure NearOk (z : Str) (rs : List Row) : Prop where
  sk : SkOk z rs
  near : Near rs
end
end Fw
set_option Elab.async false
set_option linter.all false
set_option maxRecDepth 100000
set_option maxHeartbeats 4000000
namespace Fw
open PySem PySem.Spec PyProof.Rows L2
open C8 (Cal CalAt Met Mak pe_c pe_mk pe_mt pe_mt0 pe_gc InsC call_isC)

section
variable {P : Program} {w : World} {K : PySem.W.Frag} {mg : Str → Option Value} {base : Heap}

/-! telling and reading: words -/
theorem S_of (l : List Nat) : TL.tl (SX.S l) = l := rfl
theorem slice1 (z : Str) : Txt.slice z none (some 1) = SX.S ((TL.tl z).take 1) := by
  conv => lhs; rw [← S_tl z]
  rw [SX.slice_to (by decide)]
  rfl
theorem slice1f (z : Str) : Txt.slice z (some 1) none = SX.S ((TL.tl z).drop 1) := by
  conv => lhs; rw [← S_tl z]
  rw [SX.slice_from (by decide)]
  rfl
theorem hd1_eq {z : Str} {c : Nat} {l : List Nat} (h : TL.tl z = c :: l) (d : Nat) : hd1 z = SX.S [d] ↔ c = d := by
  show Txt.slice z none (some 1) = SX.S [d] ↔ c = d
  rw [slice1, h]
  constructor
  · intro e
    have := congrArg TL.tl e
    rw [S_of, S_of] at this
    injection this
  · rintro rfl
    rfl
theorem tl1_eq (z : Str) : TL.tl (tl1 z) = (TL.tl z).drop 1 := by
  show TL.tl (Txt.slice z (some 1) none) = _
  rw [slice1f]
theorem minus_S : ("-" : Str) = SX.S [45] := rfl
theorem plus_S : ("+" : Str) = SX.S [43] := rfl
theorem tl1_minus (x : Str) : tl1 ("-" ++ x) = x := TL.ext_tl (by rw [tl1_eq, TL.tl_append]; rfl)
theorem tl1_plus (x : Str) : tl1 ("+" ++ x) = x := TL.ext_tl (by rw [tl1_eq, TL.tl_append]; rfl)
theorem tl_minus (x : Str) : TL.tl ("-" ++ x) = 45 :: TL.tl x := by rw [TL.tl_append]; rfl
theorem tl_plus (x : Str) : TL.tl ("+" ++ x) = 43 :: TL.tl x := by rw [TL.tl_append]; rfl
theorem unsg_minus (x : Str) : unsg ("-" ++ x) = (x, -1) := by
  unfold unsg
  have h : Txt.slice ("-" ++ x) none (some 1) = "-" := (hd1_eq (tl_minus x) 45).mpr rfl
  rw [if_pos h]
  exact Prod.ext (tl1_minus x) rfl
theorem unsg_pos {x : Str} {c : Nat} {l : List Nat} (h : TL.tl x = c :: l) (hc : c ≠ 45) : unsg x = (x, 1) := by
  unfold unsg
  have h : ¬ Txt.slice x none (some 1) = "-" := fun e => hc ((hd1_eq h 45).mp e)
  rw [if_neg h]
theorem first_split {c : Nat} : ∀ {l : List Nat}, c ∈ l → ∃ p q, l = p ++ c :: q ∧ c ∉ p
  | x :: l, h => by
    by_cases e : x = c
    · exact ⟨[], l, by rw [e]; rfl, fun h => by cases h⟩
    · rcases List.mem_cons.mp h with w | w
      · exact absurd w.symm e
      · obtain ⟨p, q, e1, e2⟩ := first_split w
        refine ⟨x :: p, q, by rw [e1]; rfl, fun hm => ?_⟩
        rcases List.mem_cons.mp hm with v | v
        · exact e v.symm
        · exact e2 v
/-- a word that begins with a sign tells no share -/
theorem share_sgn {z : Str} {c : Nat} {l : List Nat} (h : TL.tl z = c :: l) (hc : c = 43 ∨ c = 45) : shareOf z = 0 := by
  have ez : z = SX.S (c :: l) := TL.ext_tl h
  unfold shareOf
  by_cases hm : 47 ∈ l
  · obtain ⟨p, q, e, hp⟩ := first_split hm
    have e2 : z = SX.S (c :: p) ++ ("/" : Str) ++ SX.S q := TL.ext_tl (by rw [h, TL.tl_append, TL.tl_append, e]; simp [SX.S, TL.tl]; rfl)
    have hpar := TL.partition_app (y := ("/" : Str)) (s := 47) (S := []) rfl (a := SX.S (c :: p)) (b := SX.S q) (by
      rw [S_of]
      intro hm2
      rcases List.mem_cons.mp hm2 with w | w
      · omega
      · exact hp w)
    rw [← e2] at hpar
    rw [hpar]
    have hf : isFig (SX.S (c :: p)) = false := by
      show isFigL (c :: p) = false
      unfold isFigL
      have : ¬ c ∈ figL := fun w => by have := fig_mem.mp w; omega
      simp [this]
    exact if_pos (.inr (.inl hf))
  · have hpar := TL.partition_none (y := ("/" : Str)) (s := 47) (S := []) rfl (a := z) (by
      rw [h]
      intro hm2
      rcases List.mem_cons.mp hm2 with w | w
      · omega
      · exact hm w)
    rw [hpar]
    rw [if_pos (.inl rfl)]
/-! the words of a told measure, not in words -/
def GoodW (w : Str) : Prop := 32 ∉ TL.tl w ∧ 10 ∉ TL.tl w ∧ w.length ≤ 200
def RokS (R : List Str) : Prop := R = [] ∨ ∃ y t c l, R = y :: t ∧ TL.tl y = c :: l ∧ (c = 43 ∨ c = 45)
theorem RokS.share {R : List Str} (h : RokS R) (b : Str) : nextShare b R = 0 := by
  unfold nextShare
  rcases h with rfl | ⟨y, t, c, l, rfl, hy, hc⟩
  · split <;> rfl
  · split
    · exact share_sgn hy hc
    · rfl
structure TwOk (y : Way) (m : Int) (w : Str) (r : List Str) : Prop where
  told : tellS y m = Txt.join " " (w :: r)
  few : r.length ≤ 30
  words : ∀ v ∈ w :: r, GoodW v
  read : ∀ R, RokS R → readL y ((w :: r) ++ R) = some (m, (w :: r).length)
  neg : m < 0 → ∃ l, TL.tl w = 45 :: l
  pos : 0 ≤ m → ∃ c l, TL.tl w = c :: l ∧ 48 ≤ c ∧ c ≤ 57
theorem numL_head (n : Nat) : ∃ c l, TL.numL n = c :: l ∧ 48 ≤ c ∧ c ≤ 57 ∧ (c = 48 → n = 0) := by
  induction n using Nat.strongRecOn with
  | _ n ih =>
    by_cases h : n < 10
    · exact ⟨48 + n, [], TL.numL_lt h, by omega, by omega, by omega⟩
    · obtain ⟨c, l, e, h1, h2, h3⟩ := ih (n / 10) (by omega)
      refine ⟨c, l ++ [48 + n % 10], by rw [TL.numL_step (by omega), e]; rfl, h1, h2, fun q => ?_⟩
      have := h3 q
      omega
theorem numL_all (n : Nat) : ∀ c ∈ TL.numL n, 48 ≤ c ∧ c ≤ 57 := fun c hc => by
  refine ⟨Nat.le_of_not_lt fun h => TL.numL_free (.inl h) hc, Nat.le_of_not_lt fun h => TL.numL_free (.inr h) hc⟩
theorem isFig_numS (n : Nat) : isFig (numS (n : Int)) = true := by
  show isFigL (TL.tl (numS (n : Int))) = true
  rw [TL.tl_num]
  obtain ⟨c, l, e, h1, h2, h3⟩ := numL_head n
  have ha := numL_all n
  rw [e] at ha ⊢
  show (((c :: l).all fun s => decide (s ∈ figL)) && (decide (c :: l = [48]) || !decide (c = 48))) = true
  have a1 : ((c :: l).all fun s => decide (s ∈ figL)) = true := List.all_eq_true.mpr fun x hx => decide_eq_true (fig_mem.mpr (ha x hx))
  rw [a1, Bool.true_and]
  by_cases hc : c = 48
  · have hn := h3 hc
    subst hn
    rw [TL.numL_lt (by decide)] at e
    injection e with e1 e2
    rw [← e1, ← e2]
    rfl
  · simp [hc]
theorem numS_zero {n : Nat} (h : numS (n : Int) = "0") : n = 0 := by
  have e := congrArg TL.tl h
  rw [TL.tl_num] at e
  have e2 : TL.tl ("0" : Str) = TL.numL 0 := by rw [TL.numL_lt (by decide)]; rfl
  rw [e2] at e
  exact TL.numL_inj e
theorem int_numS {n : Nat} (h : n < 100000) : intText? (numS (n : Int)) = some (n : Int) := TL.int_num (Nat.le_trans (TL.numL_len (k := 5) (by decide) (by omega)) (by decide))
theorem numS_neg (n : Nat) : numS (-((n + 1 : Nat) : Int)) = "-" ++ numS ((n + 1 : Nat) : Int) := by
  apply TL.ext_tl
  rw [TL.tl_append]
  show TL.tl (Str.ofString (toString (Int.negSucc n))) = TL.tl (Str.ofString "-") ++ TL.tl (Str.ofString (toString ((n + 1 : Nat) : Int)))
  rw [TL.tl_ofString, TL.tl_ofString, TL.tl_ofString]
  show ("-" ++ toString (n + 1)).toList.map Char.toNat = "-".toList.map Char.toNat ++ (toString (n + 1)).toList.map Char.toNat
  rw [String.toList_append, List.map_append]
theorem good_num (n : Nat) (h : n < 100000) : GoodW (numS (n : Int)) := by
  have hl := TL.numL_len (n := n) (k := 5) (by decide) (by omega)
  refine ⟨?_, ?_, ?_⟩
  · rw [TL.tl_num]; exact TL.numL_free (.inl (by decide))
  · rw [TL.tl_num]; exact TL.numL_free (.inl (by decide))
  · rw [TL.len_tl, TL.tl_num]; omega
theorem good_minus {x : Str} (h : GoodW x) (hl : x.length ≤ 150) : GoodW ("-" ++ x) := by
  refine ⟨?_, ?_, ?_⟩
  · rw [tl_minus]
    intro hm
    rcases List.mem_cons.mp hm with w | w
    · cases w
    · exact h.1 w
  · rw [tl_minus]
    intro hm
    rcases List.mem_cons.mp hm with w | w
    · cases w
    · exact h.2.1 w
  · rw [len_app]
    have : ("-" : Str).length = 1 := rfl
    omega
theorem join1 (w : Str) : Txt.join " " [w] = w := TL.ext_tl (by rw [TL.join_eq, TL.tl_join]; rfl)
theorem num_tl (n : Nat) : ∃ c l, TL.tl (numS (n : Int)) = c :: l ∧ 48 ≤ c ∧ c ≤ 57 := by
  obtain ⟨c, l, e, h1, h2, _⟩ := numL_head n
  exact ⟨c, l, by rw [TL.tl_num, e], h1, h2⟩
theorem num_len (n : Nat) (h : n < 100000) : (numS (n : Int)).length ≤ 5 := by
  rw [TL.len_tl, TL.tl_num]
  exact TL.numL_len (by decide) (by omega)
theorem tw_parts {m : Int} (h : Md m) : ∃ w r, TwOk .parts m w r := by
  rcases Int.lt_or_le m 0 with h0 | h0
  · obtain ⟨n, rfl⟩ : ∃ n : Nat, m = -((n + 1 : Nat) : Int) := ⟨(-m).toNat - 1, by omega⟩
    have hn : n + 1 < 100000 := by omega
    have e := numS_neg n
    refine ⟨"-" ++ numS ((n + 1 : Nat) : Int), [], (e.trans (join1 _).symm), by decide, ?_, fun R _ => ?_, fun _ => ⟨_, tl_minus _⟩, fun h => by omega⟩
    · intro v hv
      rw [List.mem_singleton.mp hv]
      exact good_minus (good_num _ hn) (by have := num_len _ hn; omega)
    · show partsZ ("-" ++ numS ((n + 1 : Nat) : Int)) = _
      unfold partsZ
      rw [unsg_minus, if_pos ⟨isFig_numS _, fun q => by have := numS_zero q.2; omega⟩]
      show (intText? (numS ((n + 1 : Nat) : Int))).map (fun n => (-1 * n, 1)) = _
      rw [int_numS hn]
      show some (-1 * ((n + 1 : Nat) : Int), 1) = some (-((n + 1 : Nat) : Int), 1)
      rw [Int.neg_one_mul]
  · obtain ⟨n, rfl⟩ := Int.eq_ofNat_of_zero_le h0
    have hn : n < 100000 := by omega
    obtain ⟨c, l, et, c1, c2⟩ := num_tl n
    refine ⟨numS (n : Int), [], (join1 _).symm, by decide, ?_, fun R _ => ?_, fun h => by omega, fun _ => ⟨c, l, et, c1, c2⟩⟩
    · intro v hv
      rw [List.mem_singleton.mp hv]
      exact good_num _ hn
    · show partsZ (numS (n : Int)) = _
      unfold partsZ
      rw [unsg_pos et (by omega), if_pos ⟨isFig_numS _, fun q => absurd q.1 (by show ¬ ((1 : Int) < 0); decide)⟩]
      show (intText? (numS (n : Int))).map (fun n => (1 * n, 1)) = _
      rw [int_numS hn]
      show some (1 * (n : Int), 1) = some ((n : Int), 1)
      rw [Int.one_mul]
end
end Fw
set_option Elab.async false
set_option linter.all false
set_option maxRecDepth 100000
set_option maxHeartbeats 4000000
namespace Fw
open PySem PySem.Spec PyProof.Rows L2
open C8 (Cal CalAt Met Mak pe_c pe_mk pe_mt pe_mt0 pe_gc InsC call_isC)

section
variable {P : Program} {w : World} {K : PySem.W.Frag} {mg : Str → Option Value} {base : Heap}

/-! halves -/
theorem dbl_ok : ∀ n : Nat, n < 100 → isFig (dblS (n : Int)) = true ∧ ((dblS (n : Int)).cps.toList.all fun c => decide (c ∈ doubL)) = true ∧ Bn.binNum (dblS (n : Int)).cps.toList = n ∧ 46 ∉ (dblS (n : Int)).cps.toList ∧ (dblS (n : Int)).cps.toList ≠ [] ∧ (dblS (n : Int)).length ≤ 10 := by decide +kernel
theorem zf_ok : ∀ n : Nat, n < 64 → ((Txt.zfill (dblS (n : Int)) 6).cps.toList.all fun c => decide (c ∈ doubL)) = true ∧ (Txt.zfill (dblS (n : Int)) 6).length = 6 ∧ Bn.binNum (Txt.zfill (dblS (n : Int)) 6).cps.toList = n := by decide +kernel
theorem doub_range {l : List Nat} (h : l.all (fun c => decide (c ∈ doubL)) = true) : ∀ c ∈ l, c = 48 ∨ c = 49 := fun c hc => doub_mem.mp (of_decide_eq_true (List.all_eq_true.mp h c hc))
theorem absI_split (m : Int) (h : Md m) : ∃ w r : Nat, w < 100 ∧ r < 64 ∧ absI m / 64 = (w : Int) ∧ absI m % 64 = (r : Int) ∧ absI m = 64 * (w : Int) + (r : Int) := by
  have a0 := absI_nn m
  have a1 := h.ab
  refine ⟨(absI m / 64).toNat, (absI m % 64).toNat, by omega, by omega, by omega, by omega, by omega⟩
theorem absI_neg {m : Int} (h : m < 0) : m = -1 * absI m := by unfold absI; rw [if_pos h]; omega
theorem absI_pos {m : Int} (h : 0 ≤ m) : m = 1 * absI m := by unfold absI; rw [if_neg (by omega)]; omega
theorem halv_read {w r : Nat} (hw : w < 100) (hr : r < 64) (z : Str) (sg : Int) (hz : unsg z = ((dblS (w : Int) ++ ".") ++ Txt.zfill (dblS (r : Int)) 6, sg)) (hn : ¬ (sg < 0 ∧ 64 * (w : Int) + (r : Int) = 0)) : halvesZ z = some (sg * (64 * (w : Int) + (r : Int)), 1) := by
  obtain ⟨d1, d2, d3, d4, d5, d6⟩ := dbl_ok w hw
  obtain ⟨z1, z2, z3⟩ := zf_ok r hr
  have hp := TL.partition_app (y := (".": Str)) (s := 46) (S := []) rfl (a := dblS (w : Int)) (b := Txt.zfill (dblS (r : Int)) 6) d4
  have hv : halvesV (Txt.partition ((dblS (w : Int) ++ ".") ++ Txt.zfill (dblS (r : Int)) 6) ".") = 64 * (w : Int) + (r : Int) := by
    rw [hp]
    show 64 * ((Bn.binNum (dblS (w : Int)).cps.toList : Nat) : Int) + ((Bn.binNum (Txt.zfill (dblS (r : Int)) 6).cps.toList : Nat) : Int) = _
    rw [d3, z3]
  unfold halvesZ
  rw [hz]
  show (if _ then _ else _) = _
  rw [if_pos]
  · show some (sg * halvesV (Txt.partition ((dblS (w : Int) ++ ".") ++ Txt.zfill (dblS (r : Int)) 6) "."), 1) = _
    rw [hv]
  · refine ⟨?_, ?_, ?_, ?_, ?_⟩
    · rw [hp]
      show ("." : Str) ≠ ""
      decide +kernel
    · rw [hp]
      exact z2
    · rw [hp]
      exact d1
    · rw [hp]
      show (TL.tl (dblS (w : Int) ++ Txt.zfill (dblS (r : Int)) 6)).all _ = true
      rw [TL.tl_append, List.all_append]
      exact Bool.and_eq_true_iff.mpr ⟨d2, z1⟩
    · intro q
      exact hn ⟨q.1, by rw [← hv]; exact q.2⟩
theorem halv_good {w r : Nat} (hw : w < 100) (hr : r < 64) : GoodW ((dblS (w : Int) ++ ".") ++ Txt.zfill (dblS (r : Int)) 6) ∧ ((dblS (w : Int) ++ ".") ++ Txt.zfill (dblS (r : Int)) 6).length ≤ 20 ∧ ∃ c l, TL.tl ((dblS (w : Int) ++ ".") ++ Txt.zfill (dblS (r : Int)) 6) = c :: l ∧ 48 ≤ c ∧ c ≤ 57 := by
  obtain ⟨d1, d2, d3, d4, d5, d6⟩ := dbl_ok w hw
  obtain ⟨z1, z2, z3⟩ := zf_ok r hr
  have e : TL.tl ((dblS (w : Int) ++ ".") ++ Txt.zfill (dblS (r : Int)) 6) = (TL.tl (dblS (w : Int)) ++ [46]) ++ TL.tl (Txt.zfill (dblS (r : Int)) 6) := by
    rw [TL.tl_append, TL.tl_append]
    rfl
  have hl : ((dblS (w : Int) ++ ".") ++ Txt.zfill (dblS (r : Int)) 6).length ≤ 20 := by
    rw [len_app, len_app, z2]
    have : ("." : Str).length = 1 := rfl
    omega
  have ha : ∀ c ∈ TL.tl ((dblS (w : Int) ++ ".") ++ Txt.zfill (dblS (r : Int)) 6), c = 48 ∨ c = 49 ∨ c = 46 := by
    rw [e]
    intro c hc
    rcases List.mem_append.mp hc with hc | hc
    · rcases List.mem_append.mp hc with hc | hc
      · rcases doub_range d2 c hc with q | q
        · exact .inl q
        · exact .inr (.inl q)
      · exact .inr (.inr (List.mem_singleton.mp hc))
    · rcases doub_range z1 c hc with q | q
      · exact .inl q
      · exact .inr (.inl q)
  refine ⟨⟨fun h => ?_, fun h => ?_, by omega⟩, hl, ?_⟩
  · rcases ha _ h with q | q | q <;> cases q
  · rcases ha _ h with q | q | q <;> cases q
  · cases hd : (dblS (w : Int)).cps.toList with
    | nil => exact absurd hd d5
    | cons c l =>
      refine ⟨c, (l ++ [46]) ++ TL.tl (Txt.zfill (dblS (r : Int)) 6), ?_, ?_⟩
      · rw [e]
        show ((dblS (w : Int)).cps.toList ++ [46]) ++ _ = _
        rw [hd]
        rfl
      · have := doub_range d2 c (by rw [hd]; exact List.mem_cons_self ..)
        omega
theorem halvS_eq {m : Int} {w r : Nat} (e1 : absI m / 64 = (w : Int)) (e2 : absI m % 64 = (r : Int)) : halvS m = sgn m ++ ((dblS (w : Int) ++ ".") ++ Txt.zfill (dblS (r : Int)) 6) := by
  unfold halvS
  rw [e1, e2, str_assoc, str_assoc, str_assoc]
theorem tw_halves {m : Int} (h : Md m) : ∃ w r, TwOk .halves m w r := by
  obtain ⟨w, r, hw, hr, e1, e2, e3⟩ := absI_split m h
  obtain ⟨g1, g2, c, l, et, c1, c2⟩ := halv_good hw hr
  have ee := halvS_eq e1 e2
  rcases Int.lt_or_le m 0 with h0 | h0
  · have es : sgn m = "-" := by unfold sgn; rw [if_pos h0]
    rw [es] at ee
    refine ⟨_, [], ee.trans (join1 _).symm, by decide, ?_, fun R _ => ?_, fun _ => ⟨_, tl_minus _⟩, fun h => by omega⟩
    · intro v hv
      rw [List.mem_singleton.mp hv]
      exact good_minus g1 (by omega)
    · show halvesZ _ = _
      rw [halv_read hw hr _ (-1) (unsg_minus _) (fun q => by have := absI_neg h0; omega), ← e3, ← absI_neg h0]
      rfl
  · have es : sgn m = "" := by unfold sgn; rw [if_neg (by omega)]
    rw [es] at ee
    have ee : halvS m = (dblS (w : Int) ++ ".") ++ Txt.zfill (dblS (r : Int)) 6 := ee.trans (str_empty_l _)
    refine ⟨_, [], ee.trans (join1 _).symm, by decide, ?_, fun R _ => ?_, fun h => by omega, fun _ => ⟨c, l, et, c1, c2⟩⟩
    · intro v hv
      rw [List.mem_singleton.mp hv]
      exact g1
    · show halvesZ _ = _
      rw [halv_read hw hr _ 1 (unsg_pos et (by omega)) (fun q => absurd q.1 (by decide)), ← e3, ← absI_pos h0]
      rfl
/-! inches -/
def frN (n : Nat) : Str := frS (redF 6 (n : Int) 64).1 (redF 6 (n : Int) 64).2
theorem frN_ok : ∀ n : Nat, n < 64 → 0 < n → shareOf (frN n) = (n : Int) ∧ 0 < (redF 6 (n : Int) 64).1 ∧ (frN n).length ≤ 10 ∧ 32 ∉ (frN n).cps.toList ∧ 10 ∉ (frN n).cps.toList ∧ ((frN n).cps.toList.headD 0 ≥ 48 ∧ (frN n).cps.toList.headD 0 ≤ 57) := by decide +kernel
theorem whole_share : ∀ n : Nat, n < 100 → shareOf (numS (n : Int)) = 0 := by decide +kernel
theorem head_tl {z : Str} (h : z.cps.toList.headD 0 ≥ 48 ∧ z.cps.toList.headD 0 ≤ 57) : ∃ c l, TL.tl z = c :: l ∧ 48 ≤ c ∧ c ≤ 57 := by
  cases e : z.cps.toList with
  | nil =>
    rw [e] at h
    have := h.1
    simp at this
  | cons c l =>
    rw [e] at h
    exact ⟨c, l, e, h.1, h.2⟩
theorem inch_words {m : Int} {w r : Nat} (e1 : absI m / 64 = (w : Int)) (e2 : absI m % 64 = (r : Int)) (hr : r < 64) : inchA m ++ inchB m = (if w > 0 ∨ r = 0 then [numS (w : Int)] else []) ++ (if r > 0 then [frN r] else []) := by
  have hz := decide_eq_decide.mp (red_zero r hr)
  unfold inchA inchB
  rw [e1, e2]
  congr 1
  · by_cases q : w > 0 ∨ r = 0
    · rw [if_pos q, if_pos (q.imp (fun h => by omega) (fun h => hz.mpr h))]
    · rw [if_neg q, if_neg (fun h => q (h.imp (fun h => by omega) (fun h => hz.mp h)))]
  · by_cases q : r > 0
    · rw [if_pos q, if_pos (frN_ok r hr q).2.1]
      rfl
    · rw [if_neg q]
      have : r = 0 := by omega
      subst this
      decide +kernel
theorem join_pre (x w : Str) (r : List Str) : x ++ Txt.join " " (w :: r) = Txt.join " " ((x ++ w) :: r) := by
  apply TL.ext_tl
  rw [TL.tl_append, TL.join_eq, TL.tl_join, TL.join_eq, TL.tl_join, List.map_cons, List.map_cons, TL.tl_append]
  cases r with
  | nil => rfl
  | cons a b =>
    show TL.tl x ++ (TL.tl w ++ _) = (TL.tl x ++ TL.tl w) ++ _
    rw [List.append_assoc]
/-- the told words with their sign ahead -/
theorem tw_sgn {y : Way} {m : Int} {w : Str} {r : List Str} (ht : tellS y m = sgn m ++ Txt.join " " (w :: r)) (few : r.length ≤ 30) (hg : ∀ v ∈ w :: r, GoodW v) (hl : w.length ≤ 150) (hc : ∃ c l, TL.tl w = c :: l ∧ 48 ≤ c ∧ c ≤ 57)
    (h1 : m < 0 → ∀ R, RokS R → readL y ((("-" ++ w) :: r) ++ R) = some (m, (w :: r).length)) (h2 : 0 ≤ m → ∀ R, RokS R → readL y ((w :: r) ++ R) = some (m, (w :: r).length)) : ∃ w r, TwOk y m w r := by
  rcases Int.lt_or_le m 0 with h0 | h0
  · have es : sgn m = "-" := by unfold sgn; rw [if_pos h0]
    rw [es, join_pre] at ht
    refine ⟨_, r, ht, few, ?_, fun R hR => h1 h0 R hR, fun _ => ⟨_, tl_minus _⟩, fun h => by omega⟩
    intro v hv
    rcases List.mem_cons.mp hv with q | q
    · rw [q]; exact good_minus (hg w (List.mem_cons_self ..)) hl
    · exact hg v (List.mem_cons_of_mem _ q)
  · have es : sgn m = "" := by unfold sgn; rw [if_neg (by omega)]
    rw [es] at ht
    exact ⟨w, r, ht.trans (str_empty_l _), few, hg, fun R hR => h2 h0 R hR, fun h => by omega, fun _ => hc⟩
theorem tw_inches {m : Int} (h : Md m) : ∃ w r, TwOk .inches m w r := by
  obtain ⟨w, r, hw, hr, e1, e2, e3⟩ := absI_split m h
  have ei := inch_words e1 e2 hr
  have et : tellS .inches m = sgn m ++ Txt.join " " (inchA m ++ inchB m) := rfl
  rw [ei] at et
  have hsh := whole_share w hw
  obtain ⟨c, l, etl, c1, c2⟩ := num_tl w
  have hnl := num_len w (by omega)
  have hgn := good_num w (by omega)
  by_cases hr0 : r = 0
  · subst hr0
    rw [if_pos (Or.inr rfl), if_neg (by omega)] at et
    refine tw_sgn (w := numS (w : Int)) (r := []) et (by decide) (fun v hv => by rw [List.mem_singleton.mp hv]; exact hgn) (by omega) ⟨c, l, etl, c1, c2⟩ (fun h0 R hR => ?_) (fun h0 R hR => ?_)
    · show inchesZ ("-" ++ numS (w : Int)) R = _
      unfold inchesZ
      rw [unsg_minus, hsh, if_neg (by decide), if_pos ⟨isFig_numS _, fun q => by have := numS_zero q.2; have := absI_neg h0; omega⟩, hR.share, if_neg (by decide)]
      show (intText? (numS (w : Int))).map (fun n => (-1 * (64 * n + 0), 1 + 0)) = _
      rw [int_numS (by omega)]
      show some (-1 * (64 * (w : Int) + 0), 1) = some (m, 1)
      have := absI_neg h0
      congr 2
      omega
    · show inchesZ (numS (w : Int)) R = _
      unfold inchesZ
      rw [unsg_pos etl (by omega), hsh, if_neg (by decide), if_pos ⟨isFig_numS _, fun q => absurd q.1 (by show ¬ ((1 : Int) < 0); decide)⟩, hR.share, if_neg (by decide)]
      show (intText? (numS (w : Int))).map (fun n => (1 * (64 * n + 0), 1 + 0)) = _
      rw [int_numS (by omega)]
      show some (1 * (64 * (w : Int) + 0), 1) = some (m, 1)
      have := absI_pos h0
      congr 2
      omega
  · have hrp : 0 < r := by omega
    obtain ⟨f1, f2, f3, f4, f5, f6⟩ := frN_ok r hr hrp
    have gF : GoodW (frN r) := ⟨f4, f5, by omega⟩
    by_cases hw0 : w = 0
    · subst hw0
      rw [if_neg (by omega), if_pos hrp] at et
      refine tw_sgn (w := frN r) (r := []) et (by decide) (fun v hv => by rw [List.mem_singleton.mp hv]; exact gF) (by omega) (head_tl f6) (fun h0 R hR => ?_) (fun h0 R hR => ?_)
      · show inchesZ ("-" ++ frN r) R = _
        unfold inchesZ
        rw [unsg_minus, f1, if_pos (by omega)]
        have := absI_neg h0
        show some (-1 * (r : Int), 1) = some (m, 1)
        congr 2
        omega
      · obtain ⟨c, l, e, c1, c2⟩ := head_tl f6
        show inchesZ (frN r) R = _
        unfold inchesZ
        rw [unsg_pos e (by omega), f1, if_pos (by omega)]
        have := absI_pos h0
        show some (1 * (r : Int), 1) = some (m, 1)
        congr 2
        omega
    · rw [if_pos (Or.inl (by omega)), if_pos hrp] at et
      have hnz : numS (w : Int) ≠ "0" := fun q => hw0 (numS_zero q)
      have hns : ∀ R, nextShare (numS (w : Int)) (frN r :: R) = (r : Int) := fun R => by
        unfold nextShare
        rw [if_pos hnz]
        exact f1
      refine tw_sgn (w := numS (w : Int)) (r := [frN r]) et (by simp) (fun v hv => ?_) (by omega) ⟨c, l, etl, c1, c2⟩ (fun h0 R hR => ?_) (fun h0 R hR => ?_)
      · rcases List.mem_cons.mp hv with q | q
        · rw [q]; exact hgn
        · rw [List.mem_singleton.mp q]; exact gF
      · show inchesZ ("-" ++ numS (w : Int)) (frN r :: R) = _
        unfold inchesZ
        rw [unsg_minus, hsh, if_neg (by decide), if_pos ⟨isFig_numS _, fun q => hnz q.2⟩, hns, if_pos (by omega)]
        show (intText? (numS (w : Int))).map (fun n => (-1 * (64 * n + (r : Int)), 1 + 1)) = _
        rw [int_numS (by omega)]
        show some (-1 * (64 * (w : Int) + (r : Int)), 2) = some (m, 2)
        have := absI_neg h0
        congr 2
        omega
      · show inchesZ (numS (w : Int)) (frN r :: R) = _
        unfold inchesZ
        rw [unsg_pos etl (by omega), hsh, if_neg (by decide), if_pos ⟨isFig_numS _, fun q => hnz q.2⟩, hns, if_pos (by omega)]
        show (intText? (numS (w : Int))).map (fun n => (1 * (64 * n + (r : Int)), 1 + 1)) = _
        rw [int_numS (by omega)]
        show some (1 * (64 * (w : Int) + (r : Int)), 2) = some (m, 2)
        have := absI_pos h0
        congr 2
        omega
end
end Fw
set_option Elab.async false
set_option linter.all false
set_option maxRecDepth 100000
set_option maxHeartbeats 4000000
namespace Fw
open PySem PySem.Spec PyProof.Rows L2
open C8 (Cal CalAt Met Mak pe_c pe_mk pe_mt pe_mt0 pe_gc InsC call_isC)

section
variable {P : Program} {w : World} {K : PySem.W.Frag} {mg : Str → Option Value} {base : Heap}

/-! measures in words -/
def cntW (n : Nat) : List Str := if n < 20 then [counts.getD n ""] else if n % 10 > 0 then [tens.getD (n / 10 - 2) "", counts.getD (n % 10) ""] else [tens.getD (n / 10 - 2) ""]
def shTk : List (Str × Str) → Nat → Nat → List (Str × Str)
  | [], _, _ => []
  | p :: l, r, w => if r ≥ w then p :: shTk l (r - w) (w / 2) else shTk l r (w / 2)
def tokW : List (Str × Str) → List Str
  | [] => []
  | [p] => [p.1, p.2]
  | p :: q :: l => p.1 :: p.2 :: "and" :: tokW (q :: l)
def shWd (n : Nat) : List Str := tokW (shTk shares n 32)
def goodB (w : Str) : Bool := !(decide (32 ∈ w.cps.toList)) && (!(decide (10 ∈ w.cps.toList)) && decide (w.length ≤ 200))
theorem goodB_ok {w : Str} (h : goodB w = true) : GoodW w := by
  unfold goodB at h
  obtain ⟨h1, h2⟩ := Bool.and_eq_true_iff.mp h
  obtain ⟨h2, h3⟩ := Bool.and_eq_true_iff.mp h2
  exact ⟨(fun q => by rw [decide_eq_true (show 32 ∈ w.cps.toList from q)] at h1; cases h1), (fun q => by rw [decide_eq_true (show 10 ∈ w.cps.toList from q)] at h2; cases h2), of_decide_eq_true h3⟩
theorem cntW_ok : ∀ n : Nat, n < 100 → 0 < n → cntS (n : Int) = Txt.join " " (cntW n) ∧ (cntW n).all goodB = true ∧ (cntW n).length ≤ 2 ∧ (cntW n).headD "minus" ≠ "minus" ∧ (cntW n).headD "nothing" ≠ "nothing" := by decide +kernel
theorem shWd_ok : ∀ n : Nat, n < 64 → 0 < n → Txt.join " and " (shW shares (n : Int) 32) = Txt.join " " (shWd n) ∧ (shWd n).all goodB = true ∧ (shWd n).length ≤ 18 ∧ (shWd n).headD "minus" ≠ "minus" ∧ (shWd n).headD "nothing" ≠ "nothing" ∧ shW shares (n : Int) 32 ≠ [] := by decide +kernel
theorem inL_ok : ∀ n : Nat, n < 100 → 0 < n → inL (cntW n) = some ((n : Int), (cntW n).length) ∧ ∀ x ∈ [("and" : Str), "above", "below"], inL (cntW n ++ [x]) = some ((n : Int), (cntW n).length) := by decide +kernel
theorem shL_ok : ∀ n : Nat, n < 64 → 0 < n → sharesL 7 0 (shWd n) = some ((n : Int), (shWd n).length) ∧ ∀ x ∈ [("above" : Str), "below"], sharesL 7 0 (shWd n ++ [x]) = some ((n : Int), (shWd n).length) := by decide +kernel
theorem inL_sh : ∀ n : Nat, n < 64 → 0 < n → inL (shWd n) = some (0, 0) := by decide +kernel
end
end Fw
set_option Elab.async false
set_option linter.all false
set_option maxRecDepth 100000
set_option maxHeartbeats 4000000
namespace Fw
open PySem PySem.Spec PyProof.Rows L2
open C8 (Cal CalAt Met Mak pe_c pe_mk pe_mt pe_mt0 pe_gc InsC call_isC)

section
variable {P : Program} {w : World} {K : PySem.W.Frag} {mg : Str → Option Value} {base : Heap}

theorem inL_loc {ws : List Str} (hne : 2 ≤ ws.length) (t : List Str) : inL (ws ++ t) = inL ws := by
  match ws, hne with
  | a :: b :: r, _ => rfl
theorem sh_loc : ∀ (n l : Nat) (ws t : List Str) (m : Int) (c : Nat), sharesL n l ws = some (m, c) → c < ws.length → sharesL n l (ws ++ t) = some (m, c)
  | 0, l, ws, t, m, c, h, _ => by rw [shares_0] at h; cases h
  | n + 1, l, [], t, m, c, h, _ => by unfold sharesL at h; cases h
  | n + 1, l, [a], t, m, c, h, _ => by unfold sharesL at h; cases h
  | n + 1, l, a :: nm :: r, t, m, c, h, hc => by
    show sharesL (n + 1) l (a :: nm :: (r ++ t)) = _
    cases hk : ks2 l a nm with
    | nil =>
      unfold sharesL at h
      rw [hk] at h
      cases h
    | cons k0 kr =>
      replace h : (if k0 + 1 < 6 ∧ r.take 1 = (["and"] : List Str) then (sharesL n (k0 + 1) (r.drop 1)).map fun q => (hlf k0 + q.1, 3 + q.2) else some (hlf k0, 2)) = some (m, c) := by
        rw [← h]
        conv => rhs; unfold sharesL
        rw [hk]
      have goal : sharesL (n + 1) l (a :: nm :: (r ++ t)) = (if k0 + 1 < 6 ∧ (r ++ t).take 1 = (["and"] : List Str) then (sharesL n (k0 + 1) ((r ++ t).drop 1)).map fun q => (hlf k0 + q.1, 3 + q.2) else some (hlf k0, 2)) := by
        conv => lhs; unfold sharesL
        rw [hk]
      rw [goal]
      cases r with
      | nil =>
        exfalso
        rw [if_neg (fun q => by cases q.2)] at h
        cases h
        exact absurd hc (by show ¬ (2 < 2); decide)
      | cons x r =>
        show (if k0 + 1 < 6 ∧ [x] = (["and"] : List Str) then (sharesL n (k0 + 1) (r ++ t)).map fun q => (hlf k0 + q.1, 3 + q.2) else some (hlf k0, 2)) = some (m, c)
        have h : (if k0 + 1 < 6 ∧ [x] = (["and"] : List Str) then (sharesL n (k0 + 1) r).map fun q => (hlf k0 + q.1, 3 + q.2) else some (hlf k0, 2)) = some (m, c) := h
        by_cases hq : k0 + 1 < 6 ∧ [x] = (["and"] : List Str)
        · rw [if_pos hq] at h ⊢
          cases hs : sharesL n (k0 + 1) r with
          | none => rw [hs] at h; cases h
          | some q =>
            obtain ⟨m', c'⟩ := q
            rw [hs] at h
            cases h
            rw [sh_loc n (k0 + 1) r t m' c' hs (by
              have hc : 3 + c' < r.length + 1 + 1 + 1 := hc
              omega)]
            rfl
        · rw [if_neg hq] at h ⊢
          exact h
def RokW (R : List Str) : Prop := R = [] ∨ ∃ x t, R = x :: t ∧ x ∈ [("above" : Str), "below"]
theorem inW {n : Nat} (h0 : 0 < n) (h : n < 100) {R : List Str} (hR : R = [] ∨ ∃ x t, R = x :: t ∧ x ∈ [("and" : Str), "above", "below"]) : inL (cntW n ++ R) = some ((n : Int), (cntW n).length) := by
  obtain ⟨i1, i2⟩ := inL_ok n h h0
  obtain ⟨_, _, _, hm, _⟩ := cntW_ok n h h0
  rcases hR with rfl | ⟨x, t, rfl, hx⟩
  · rw [List.append_nil]; exact i1
  · have e : cntW n ++ x :: t = (cntW n ++ [x]) ++ t := by rw [List.append_assoc]; rfl
    have hl : 2 ≤ (cntW n ++ [x]).length := by
      rw [List.length_append]
      cases hc : cntW n with
      | nil => rw [hc] at hm; exact absurd rfl hm
      | cons a b => rw [List.length_cons, List.length_singleton]; omega
    rw [e, inL_loc hl t]
    exact i2 x hx
theorem shWL {n : Nat} (h0 : 0 < n) (h : n < 64) {R : List Str} (hR : RokW R) : sharesL 7 0 (shWd n ++ R) = some ((n : Int), (shWd n).length) := by
  obtain ⟨i1, i2⟩ := shL_ok n h h0
  rcases hR with rfl | ⟨x, t, rfl, hx⟩
  · rw [List.append_nil]; exact i1
  · have e : shWd n ++ x :: t = (shWd n ++ [x]) ++ t := by rw [List.append_assoc]; rfl
    rw [e]
    exact sh_loc 7 0 _ t _ _ (i2 x hx) (by rw [List.length_append, List.length_singleton]; omega)
def wl (ws : List Str) : Option (Int × Nat) := match inL ws with
  | none => none
  | some (wh, b) => if wh = 0 then (sharesL 7 0 (ws.drop b)).map fun q => (64 * wh + q.1, b + q.2)
    else if (ws.drop b).take 1 = (["and"] : List Str) then (sharesL 7 0 (ws.drop (b + 1))).map fun q => (64 * wh + q.1, b + 1 + q.2)
    else some (64 * wh + 0, b)
theorem wordsL_pos {z : Str} {r : List Str} (h1 : z ≠ "nothing") (h2 : z ≠ "minus") : wordsL (z :: r) = wl (z :: r) := by
  show (if z = "nothing" then some (0, 1) else _) = _
  rw [if_neg h1, if_neg h2]
  show (match inL (z :: r) with | none => none | some (wh, b) => _) = _
  unfold wl
  cases hi : inL (z :: r) with
  | none => rfl
  | some q =>
    obtain ⟨wh, b⟩ := q
    have z0 : ∀ k, 0 + k = k := Nat.zero_add
    simp only [if_neg h2, z0 b, Int.one_mul]
theorem wordsL_neg (ws : List Str) : wordsL ("minus" :: ws) = (wl ws).map fun q => (-1 * q.1, 1 + q.2) := by
  show (if ("minus" : Str) = "nothing" then some (0, 1) else _) = _
  rw [if_neg (by decide +kernel), if_pos rfl]
  show (match inL ws with | none => none | some (wh, b) => _) = _
  unfold wl
  cases hi : inL ws with
  | none => rfl
  | some q =>
    obtain ⟨wh, b⟩ := q
    have d1 : ∀ k, (("minus" : Str) :: ws).drop (1 + k) = ws.drop k := fun k => by rw [Nat.add_comm, List.drop_succ_cons]
    have d2 : (("minus" : Str) :: ws).drop (1 + b + 1) = ws.drop (b + 1) := by rw [show 1 + b + 1 = 1 + (b + 1) by omega, d1]
    show _ = Option.map (fun q : Int × Nat => (-1 * q.1, 1 + q.2)) (if wh = 0 then (sharesL 7 0 (ws.drop b)).map fun q => (64 * wh + q.1, b + q.2)
    else if (ws.drop b).take 1 = (["and"] : List Str) then (sharesL 7 0 (ws.drop (b + 1))).map fun q => (64 * wh + q.1, b + 1 + q.2)
    else some (64 * wh + 0, b))
    show (if wh = 0 then (sharesL 7 0 ((("minus" : Str) :: ws).drop (1 + b))).map (fun q => ((-1 : Int) * (64 * wh + q.1), 1 + b + q.2)) else if ((("minus" : Str) :: ws).drop (1 + b)).take 1 = (["and"] : List Str) then (sharesL 7 0 ((("minus" : Str) :: ws).drop (1 + b + 1))).map (fun q => ((-1 : Int) * (64 * wh + q.1), 1 + b + 1 + q.2)) else some ((-1 : Int) * (64 * wh + 0), 1 + b)) = _
    rw [d1, d2]
    by_cases h0 : wh = 0
    · rw [if_pos h0, if_pos h0, Option.map_map]
      refine congrArg (fun f => Option.map f _) (funext fun q => ?_)
      show _ = (-1 * (64 * wh + q.1), 1 + (b + q.2))
      rw [Nat.add_assoc]
    · rw [if_neg h0, if_neg h0]
      by_cases h1 : (ws.drop b).take 1 = (["and"] : List Str)
      · rw [if_pos h1, if_pos h1, Option.map_map]
        refine congrArg (fun f => Option.map f _) (funext fun q => ?_)
        show _ = (-1 * (64 * wh + q.1), 1 + (b + 1 + q.2))
        rw [Nat.add_assoc, Nat.add_assoc, Nat.add_assoc]
      · rw [if_neg h1, if_neg h1]
        rfl
/-- the told words without their sign -/
def bodyW (w r : Nat) : List Str := (if w > 0 then cntW w else []) ++ (if r > 0 then (if w > 0 then [("and" : Str)] else []) ++ shWd r else [])
theorem wl_body {w r : Nat} (hw : w < 100) (hr : r < 64) (h0 : 0 < w ∨ 0 < r) {R : List Str} (hR : RokW R) : wl (bodyW w r ++ R) = some (64 * (w : Int) + (r : Int), (bodyW w r).length) := by
  have hR3 : R = [] ∨ ∃ x t, R = x :: t ∧ x ∈ [("and" : Str), "above", "below"] := hR.imp id fun ⟨x, t, e, hx⟩ => ⟨x, t, e, List.mem_cons_of_mem _ hx⟩
  have hRa : R.take 1 ≠ (["and"] : List Str) := by
    rcases hR with rfl | ⟨x, t, rfl, hx⟩
    · intro e; cases e
    · intro e
      have e : [x] = (["and"] : List Str) := e
      injection e with e
      rw [e] at hx
      exact absurd hx (by decide +kernel)
  unfold bodyW
  by_cases hw0 : 0 < w
  · rw [if_pos hw0]
    by_cases hr0 : 0 < r
    · rw [if_pos hr0, if_pos hw0]
      have ea : (cntW w ++ ([("and" : Str)] ++ shWd r)) ++ R = cntW w ++ (("and" : Str) :: (shWd r ++ R)) := by rw [List.append_assoc, List.append_assoc]; rfl
      rw [ea]
      unfold wl
      rw [inW hw0 hw (.inr ⟨("and" : Str), _, rfl, List.mem_cons_self ..⟩)]
      show (if (w : Int) = 0 then _ else _) = _
      rw [if_neg (by omega), List.drop_left, if_pos (show List.take 1 (("and" : Str) :: (shWd r ++ R)) = [("and" : Str)] from rfl)]
      have ed : (cntW w ++ (("and" : Str) :: (shWd r ++ R))).drop ((cntW w).length + 1) = shWd r ++ R := by
        rw [← List.drop_drop, List.drop_left]
        rfl
      rw [ed, shWL hr0 hr hR]
      show some (64 * (w : Int) + (r : Int), (cntW w).length + 1 + (shWd r).length) = _
      rw [List.length_append, List.length_append, Nat.add_assoc]
      rfl
    · have hr1 : r = 0 := by omega
      subst hr1
      rw [if_neg (by omega), List.append_nil]
      unfold wl
      rw [inW hw0 hw hR3]
      show (if (w : Int) = 0 then _ else _) = _
      rw [if_neg (by omega), List.drop_left, if_neg hRa]
      rfl
  · have hw1 : w = 0 := by omega
    subst hw1
    have hr0 : 0 < r := by omega
    rw [if_neg (by omega), if_pos hr0, if_neg (by omega), List.nil_append, List.nil_append]
    unfold wl
    have hi : inL (shWd r ++ R) = some (0, 0) := by
      rw [inL_loc ?_ R]
      · exact inL_sh r hr hr0
      · obtain ⟨i1, _⟩ := shL_ok r hr hr0
        match hs : shWd r, i1 with
        | [], i1 => unfold sharesL at i1; cases i1
        | [a], i1 => unfold sharesL at i1; cases i1
        | a :: b :: c, _ => rw [List.length_cons, List.length_cons]; omega
    rw [hi]
    show (if (0 : Int) = 0 then (sharesL 7 0 ((shWd r ++ R).drop 0)).map (fun q => (64 * 0 + q.1, 0 + q.2)) else _) = _
    rw [if_pos rfl, List.drop_zero, shWL hr0 hr hR]
    show some (64 * 0 + (r : Int), 0 + (shWd r).length) = _
    rw [Nat.zero_add]
    rfl
theorem join_app {a b : List Str} (ha : a ≠ []) (hb : b ≠ []) : Txt.join " " (a ++ b) = (Txt.join " " a ++ " ") ++ Txt.join " " b := by
  induction a with
  | nil => exact absurd rfl ha
  | cons x r ih =>
    cases r with
    | nil =>
      cases b with
      | nil => exact absurd rfl hb
      | cons y t =>
        rw [join1]
        apply TL.ext_tl
        rw [TL.join_eq, TL.tl_join, TL.tl_append, TL.tl_append, TL.join_eq, TL.tl_join, List.append_assoc]
        rfl
    | cons y t =>
      have ih := ih (fun h => by cases h)
      have e1 : ∀ l : List Str, Txt.join " " (x :: y :: l) = (x ++ " ") ++ Txt.join " " (y :: l) := fun l => by
        apply TL.ext_tl
        rw [TL.join_eq, TL.tl_join, TL.tl_append, TL.tl_append, TL.join_eq, TL.tl_join, List.append_assoc]
        rfl
      show Txt.join " " (x :: y :: (t ++ b)) = _
      rw [e1, e1]
      have ih : Txt.join " " (y :: (t ++ b)) = (Txt.join " " (y :: t) ++ " ") ++ Txt.join " " b := ih
      rw [ih, str_assoc, str_assoc, str_assoc, str_assoc, str_assoc]
theorem joinA {x : Str} {ys : List Str} (h : ys ≠ []) : Txt.join " and " (x :: ys) = (x ++ " and ") ++ Txt.join " and " ys := by
  cases ys with
  | nil => exact absurd rfl h
  | cons y t =>
    apply TL.ext_tl
    rw [TL.join_eq, TL.tl_join, TL.tl_append, TL.tl_append, TL.join_eq, TL.tl_join, List.append_assoc]
    rfl
theorem joinA1 (x : Str) : Txt.join " and " [x] = x := TL.ext_tl (by rw [TL.join_eq, TL.tl_join]; rfl)
theorem body_ok {w r : Nat} (hw : w < 100) (hr : r < 64) (h0 : 0 < w ∨ 0 < r) : Txt.join " and " ((if (w : Int) > 0 then [cntS (w : Int)] else []) ++ shW shares (r : Int) 32) = Txt.join " " (bodyW w r) ∧ bodyW w r ≠ [] ∧ (∀ v ∈ bodyW w r, GoodW v) ∧ (bodyW w r).length ≤ 25 ∧ (bodyW w r).headD "minus" ≠ "minus" ∧ (bodyW w r).headD "nothing" ≠ "nothing" := by
  have good : ∀ l : List Str, l.all goodB = true → ∀ v ∈ l, GoodW v := fun l h v hv => goodB_ok (List.all_eq_true.mp h v hv)
  unfold bodyW
  by_cases hw0 : 0 < w
  · obtain ⟨c1, c2, c3, c4, c5⟩ := cntW_ok w hw hw0
    have cn : cntW w ≠ [] := fun e => by rw [e] at c4; exact absurd rfl c4
    rw [if_pos (by omega), if_pos hw0]
    by_cases hr0 : 0 < r
    · obtain ⟨s1, s2, s3, s4, s5, s6⟩ := shWd_ok r hr hr0
      have sn : shWd r ≠ [] := fun e => by rw [e] at s4; exact absurd rfl s4
      rw [if_pos hr0, if_pos hw0]
      refine ⟨?_, fun e => cn (List.append_eq_nil_iff.mp e).1, ?_, ?_, ?_, ?_⟩
      · show Txt.join " and " (cntS (w : Int) :: shW shares (r : Int) 32) = _
        rw [joinA s6, s1, c1, join_app cn (fun e => by cases e)]
        have e2 : Txt.join " " ([("and" : Str)] ++ shWd r) = (("and" : Str) ++ " ") ++ Txt.join " " (shWd r) := by rw [join_app (fun e => by cases e) sn, join1]
        rw [e2]
        have e3 : (" and " : Str) = " " ++ ("and" ++ " ") := by decide +kernel
        rw [e3, str_assoc, str_assoc, str_assoc, str_assoc]
      · intro v hv
        rcases List.mem_append.mp hv with q | q
        · exact good _ c2 v q
        · rcases List.mem_append.mp q with q | q
          · rw [List.mem_singleton.mp q]
            exact goodB_ok (by decide +kernel)
          · exact good _ s2 v q
      · rw [List.length_append, List.length_append]
        show _ + (1 + _) ≤ 25
        omega
      · cases hc : cntW w with
        | nil => exact absurd hc cn
        | cons a b => rw [hc] at c4; exact c4
      · cases hc : cntW w with
        | nil => exact absurd hc cn
        | cons a b => rw [hc] at c5; exact c5
    · have hr1 : r = 0 := by omega
      subst hr1
      rw [if_neg (by omega), List.append_nil]
      have e0 : shW shares ((0 : Nat) : Int) 32 = [] := by decide +kernel
      rw [e0, List.append_nil, joinA1]
      exact ⟨c1, cn, good _ c2, by omega, c4, c5⟩
  · have hw1 : w = 0 := by omega
    subst hw1
    have hr0 : 0 < r := by omega
    obtain ⟨s1, s2, s3, s4, s5, s6⟩ := shWd_ok r hr hr0
    have sn : shWd r ≠ [] := fun e => by rw [e] at s4; exact absurd rfl s4
    rw [if_neg (by omega), if_neg (by omega), if_pos hr0, if_neg (by omega), List.nil_append, List.nil_append, List.nil_append]
    exact ⟨s1, sn, good _ s2, by omega, s4, s5⟩
structure WwOk (m : Int) (ws : List Str) : Prop where
  told : wordsS m = Txt.join " " ws
  ne : ws ≠ []
  few : ws.length ≤ 30
  words : ∀ v ∈ ws, GoodW v
  read : ∀ R, RokW R → wordsL (ws ++ R) = some (m, ws.length)
theorem tw_words {m : Int} (h : Md m) : ∃ ws, WwOk m ws := by
  by_cases hm0 : m = 0
  · subst hm0
    refine ⟨["nothing"], ?_, (fun e => by cases e), by decide, fun v hv => ?_, fun R _ => ?_⟩
    · rw [join1]
      decide +kernel
    · rw [List.mem_singleton.mp hv]
      exact goodB_ok (by decide +kernel)
    · show wordsL ("nothing" :: R) = some (0, 1)
      unfold wordsL
      exact if_pos rfl
  · obtain ⟨w, r, hw, hr, e1, e2, e3⟩ := absI_split m h
    have hpos : 0 < absI m := by
      have := absI_nn m
      unfold absI at *
      split at this <;> split <;> omega
    have h0 : 0 < w ∨ 0 < r := by omega
    obtain ⟨b1, b2, b3, b4, b5, b6⟩ := body_ok hw hr h0
    have et : wordsS m = wsgn m ++ Txt.join " " (bodyW w r) := by
      unfold wordsS
      rw [if_neg hm0, ← b1]
      unfold wordsA wordsB
      rw [e1, e2]
    rcases Int.lt_or_le m 0 with hn | hn
    · have es : wsgn m = "minus" ++ " " := by
        unfold wsgn
        rw [if_pos hn]
        decide +kernel
      rw [es] at et
      refine ⟨"minus" :: bodyW w r, ?_, (fun e => by cases e), by rw [List.length_cons]; omega, fun v hv => ?_, fun R hR => ?_⟩
      · rw [et]
        have := join_app (a := ["minus"]) (b := bodyW w r) (fun e => by cases e) b2
        rw [join1] at this
        exact this.symm
      · rcases List.mem_cons.mp hv with q | q
        · rw [q]; exact goodB_ok (by decide +kernel)
        · exact b3 v q
      · show wordsL ("minus" :: (bodyW w r ++ R)) = _
        rw [wordsL_neg, wl_body hw hr h0 hR]
        show some (-1 * (64 * (w : Int) + (r : Int)), 1 + (bodyW w r).length) = _
        rw [← e3, ← absI_neg hn, List.length_cons, Nat.add_comm]
    · have es : wsgn m = "" := by
        unfold wsgn
        rw [if_neg (by omega)]
      rw [es] at et
      refine ⟨bodyW w r, et.trans (str_empty_l _), b2, by omega, b3, fun R hR => ?_⟩
      have hb : ∃ a b, bodyW w r = a :: b := by
        cases hc : bodyW w r with
        | nil => exact absurd hc b2
        | cons a b => exact ⟨a, b, rfl⟩
      obtain ⟨a, b, hab⟩ := hb
      have n1 : a ≠ "nothing" := by rw [hab] at b6; exact b6
      have n2 : a ≠ "minus" := by rw [hab] at b5; exact b5
      have ew : wordsL (bodyW w r ++ R) = wl (bodyW w r ++ R) := by
        rw [hab]
        exact wordsL_pos n1 n2
      rw [ew, wl_body hw hr h0 hR, ← e3]
      have := absI_pos hn
      congr 2
      omega
end
end Fw
set_option Elab.async false
set_option linter.all false
set_option maxRecDepth 100000
set_option maxHeartbeats 4000000
namespace Fw
open PySem PySem.Spec PyProof.Rows L2
open C8 (Cal CalAt Met Mak pe_c pe_mk pe_mt pe_mt0 pe_gc InsC call_isC)

section
variable {P : Program} {w : World} {K : PySem.W.Frag} {mg : Str → Option Value} {base : Heap}

/-! spans told and read -/
theorem tw_all {y : Way} (hy : y ≠ .words) {m : Int} (h : Md m) : ∃ w r, TwOk y m w r := by
  cases y with
  | parts => exact tw_parts h
  | inches => exact tw_inches h
  | halves => exact tw_halves h
  | words => exact absurd rfl hy
theorem split_sp {l : List Str} (hne : l ≠ []) (h : ∀ w ∈ l, 32 ∉ TL.tl w) : Txt.split (Txt.join " " l) " " = l := TL.split_join (y := (" " : Str)) (s := 32) (S := []) rfl (by decide +kernel) hne h
theorem bad_zero {y : Way} (hy : y ≠ .words) (r : List Str) : readL y ("-0" :: r) = none ∧ readL y ("-0.000000" :: r) = none := by
  cases y with
  | parts =>
    have h1 : partsZ "-0" = none := by decide +kernel
    have h2 : partsZ "-0.000000" = none := by decide +kernel
    exact ⟨h1, h2⟩
  | halves =>
    have h1 : halvesZ "-0" = none := by decide +kernel
    have h2 : halvesZ "-0.000000" = none := by decide +kernel
    exact ⟨h1, h2⟩
  | inches =>
    have g : ∀ z : Str, ¬ shareOf (unsg z).1 > 0 → ¬ (isFig (unsg z).1 = true ∧ ¬ ((unsg z).2 < 0 ∧ (unsg z).1 = "0")) → inchesZ z r = none := fun z h1 h2 => by
      unfold inchesZ
      rw [if_neg h1, if_neg h2]
    exact ⟨g "-0" (by decide +kernel) (by decide +kernel), g "-0.000000" (by decide +kernel) (by decide +kernel)⟩
  | words => exact absurd rfl hy
theorem zero_told {y : Way} (hy : y ≠ .words) {w : Str} {r : List Str} (h : TwOk y 0 w r) : r = [] ∧ (("-" ++ w) = "-0" ∨ ("-" ++ w) = "-0.000000") := by
  have e := split_sp (l := w :: r) (fun e => by cases e) fun v hv => (h.words v hv).1
  rw [← h.told] at e
  cases y with
  | parts =>
    have e2 : Txt.split (tellS .parts 0) " " = [("0" : Str)] := by decide +kernel
    rw [e2] at e
    injection e with e3 e4
    rw [← e3, ← e4]
    exact ⟨rfl, .inl (by decide +kernel)⟩
  | inches =>
    have e2 : Txt.split (tellS .inches 0) " " = [("0" : Str)] := by decide +kernel
    rw [e2] at e
    injection e with e3 e4
    rw [← e3, ← e4]
    exact ⟨rfl, .inl (by decide +kernel)⟩
  | halves =>
    have e2 : Txt.split (tellS .halves 0) " " = [("0.000000" : Str)] := by decide +kernel
    rw [e2] at e
    injection e with e3 e4
    rw [← e3, ← e4]
    exact ⟨rfl, .inr (by decide +kernel)⟩
  | words => exact absurd rfl hy
theorem hd1_minus {z : Str} {l : List Nat} (h : TL.tl z = 45 :: l) : hd1 z = "-" := (hd1_eq h 45).mpr rfl
theorem hd1_plus {z : Str} {l : List Nat} (h : TL.tl z = 43 :: l) : hd1 z = "+" := (hd1_eq h 43).mpr rfl
def GoodL (w : Str) : Prop := 32 ∉ TL.tl w ∧ 10 ∉ TL.tl w ∧ w.length ≤ 600
theorem GoodW.l {w : Str} (h : GoodW w) : GoodL w := ⟨h.1, h.2.1, by have := h.2.2; omega⟩
theorem GoodW.plus {w : Str} (h : GoodW w) : GoodL ("+" ++ w) := by
  refine ⟨?_, ?_, ?_⟩
  · rw [tl_plus]
    intro hm
    rcases List.mem_cons.mp hm with q | q
    · cases q
    · exact h.1 q
  · rw [tl_plus]
    intro hm
    rcases List.mem_cons.mp hm with q | q
    · cases q
    · exact h.2.1 q
  · rw [len_app]
    have := h.2.2
    have : ("+" : Str).length = 1 := rfl
    omega
theorem GoodW.minus {w : Str} (h : GoodW w) : GoodL ("-" ++ w) := by
  refine ⟨?_, ?_, ?_⟩
  · rw [tl_minus]
    intro hm
    rcases List.mem_cons.mp hm with q | q
    · cases q
    · exact h.1 q
  · rw [tl_minus]
    intro hm
    rcases List.mem_cons.mp hm with q | q
    · cases q
    · exact h.2.1 q
  · rw [len_app]
    have := h.2.2
    have : ("-" : Str).length = 1 := rfl
    omega
structure SpanW (y : Way) (p : Par) (L : List Str) : Prop where
  told : spanS y p.1 p.2.1 p.2.2 = Txt.join " " L
  ne : L ≠ []
  few : L.length ≤ 100
  words : ∀ v ∈ L, GoodL v
  read : parL y L = some (p.1, p.2.1, p.2.2, L.length)
/-- the told above, its sign ahead, and its reading -/
theorem above_ok {y : Way} (hy : y ≠ .words) {a : Int} (h : Md a) : ∃ A, A ≠ [] ∧ A.length ≤ 31 ∧ overS a ++ tellS y a = Txt.join " " A ∧ (∀ v ∈ A, GoodL v) ∧ (∀ R, RokS R → RokS (A ++ R) ∧ abvL y (A ++ R) = some (a, A.length)) := by
  obtain ⟨w, r, t⟩ := tw_all hy h
  rcases Int.lt_or_le a 0 with h0 | h0
  · obtain ⟨l, hl⟩ := t.neg h0
    have eo : overS a = "" := by unfold overS; rw [if_neg (by omega)]
    refine ⟨w :: r, (fun e => by cases e), by have := t.few; rw [List.length_cons]; omega, ?_, fun v hv => (t.words v hv).l, fun R hR => ⟨.inr ⟨w, r ++ R, 45, l, rfl, hl, .inr rfl⟩, ?_⟩⟩
    · rw [eo, t.told]
      exact str_empty_l _
    · show (if hd1 w = "+" then behL y (w :: (r ++ R)) else if hd1 w = "-" then readL y (w :: (r ++ R)) else none) = _
      rw [if_neg (fun e => by have := (hd1_eq hl 43).mp e; cases this), if_pos (hd1_minus hl)]
      exact t.read R hR
  · obtain ⟨c, l, hl, c1, c2⟩ := t.pos h0
    have eo : overS a = "+" := by unfold overS; rw [if_pos h0]
    refine ⟨("+" ++ w) :: r, (fun e => by cases e), by have := t.few; rw [List.length_cons]; omega, ?_, fun v hv => ?_, fun R hR => ⟨.inr ⟨_, r ++ R, 43, _, rfl, tl_plus w, .inl rfl⟩, ?_⟩⟩
    · rw [eo, t.told, join_pre]
    · rcases List.mem_cons.mp hv with q | q
      · rw [q]; exact (t.words w (List.mem_cons_self ..)).plus
      · exact (t.words v (List.mem_cons_of_mem _ q)).l
    · show (if hd1 ("+" ++ w) = "+" then behL y (("+" ++ w) :: (r ++ R)) else _) = _
      rw [if_pos (hd1_plus (tl_plus w))]
      show (if hd1 (tl1 ("+" ++ w)) = "-" then none else readL y (tl1 ("+" ++ w) :: (r ++ R))) = _
      rw [tl1_plus, if_neg (fun e => by have := (hd1_eq hl 45).mp e; omega)]
      exact t.read R hR
theorem blw_eq (y : Way) (z : Str) (r : List Str) : blwL y (z :: r) = if ¬ (hd1 z = "+" ∨ hd1 z = "-") then none else
    if z = "-0" ∨ z = "-0.000000" then (readL y (tl1 z :: r)).map (fun q => (0 - q.1, q.2)) else
    if hd1 z = "+" then (behL y (z :: r)).bind (fun q => if q.1 = 0 then none else some (0 - q.1, q.2)) else (readL y (z :: r)).map (fun q => (0 - q.1, q.2)) := rfl
theorem below_ok {y : Way} (hy : y ≠ .words) {b : Int} (h : Md b) : ∃ B, B ≠ [] ∧ B.length ≤ 31 ∧ underS b ++ tellS y (0 - b) = Txt.join " " B ∧ (∀ v ∈ B, GoodL v) ∧ RokS B ∧ blwL y B = some (b, B.length) := by
  have h2 : Md (0 - b) := ⟨by omega, by omega⟩
  obtain ⟨w, r, t⟩ := tw_all hy h2
  have rd := t.read [] (.inl rfl)
  rw [List.append_nil] at rd
  have n0 : TL.tl ("-0" : Str) = 45 :: [48] := rfl
  have n1 : TL.tl ("-0.000000" : Str) = 45 :: [48, 46, 48, 48, 48, 48, 48, 48] := rfl
  by_cases hb : b = 0
  · subst hb
    obtain ⟨rfl, hz⟩ := zero_told hy t
    have eu : underS 0 = "-" := rfl
    refine ⟨["-" ++ w], (fun e => by cases e), by simp, ?_, fun v hv => ?_, .inr ⟨_, [], 45, _, rfl, tl_minus w, .inr rfl⟩, ?_⟩
    · rw [eu, t.told, join_pre]
    · rw [List.mem_singleton.mp hv]
      exact (t.words w (List.mem_cons_self ..)).minus
    · rw [blw_eq, if_neg (fun q => q (.inr ((hd1_eq (tl_minus w) 45).mpr rfl))), if_pos hz, tl1_minus, rd]
      rfl
  rcases Int.lt_or_le b 0 with h0 | h0
  · obtain ⟨c, l, hl, c1, c2⟩ := t.pos (by omega)
    have eu : underS b = "+" := by unfold underS; rw [if_neg hb, if_pos h0]
    refine ⟨("+" ++ w) :: r, (fun e => by cases e), by have := t.few; rw [List.length_cons]; omega, ?_, fun v hv => ?_, .inr ⟨_, r, 43, _, rfl, tl_plus w, .inl rfl⟩, ?_⟩
    · rw [eu, t.told, join_pre]
    · rcases List.mem_cons.mp hv with q | q
      · rw [q]; exact (t.words w (List.mem_cons_self ..)).plus
      · exact (t.words v (List.mem_cons_of_mem _ q)).l
    · have nz : ¬ (("+" ++ w) = "-0" ∨ ("+" ++ w) = "-0.000000") := fun q => by
        rcases q with q | q
        · have := congrArg TL.tl q
          rw [tl_plus, n0] at this
          injection this with e _
          cases e
        · have := congrArg TL.tl q
          rw [tl_plus, n1] at this
          injection this with e _
          cases e
      have eb : behL y (("+" ++ w) :: r) = some (0 - b, (w :: r).length) := by
        show (if hd1 (tl1 ("+" ++ w)) = "-" then none else readL y (tl1 ("+" ++ w) :: r)) = _
        rw [tl1_plus, if_neg (fun e => by have := (hd1_eq hl 45).mp e; omega)]
        exact rd
      rw [blw_eq, if_neg (fun q => q (.inl ((hd1_eq (tl_plus w) 43).mpr rfl))), if_neg nz, if_pos (hd1_plus (tl_plus w)), eb]
      show (if (0 - b : Int) = 0 then none else some (0 - (0 - b), (w :: r).length)) = _
      rw [if_neg (by omega), show (0 - (0 - b) : Int) = b by omega]
      rfl
  · obtain ⟨l, hl⟩ := t.neg (by omega)
    have eu : underS b = "" := by unfold underS; rw [if_neg hb, if_neg (by omega)]
    refine ⟨w :: r, (fun e => by cases e), by have := t.few; rw [List.length_cons]; omega, ?_, fun v hv => (t.words v hv).l, .inr ⟨w, r, 45, l, rfl, hl, .inr rfl⟩, ?_⟩
    · rw [eu, t.told]
      exact str_empty_l _
    · have nz : ¬ (w = "-0" ∨ w = "-0.000000") := fun q => by
        obtain ⟨b1, b2⟩ := bad_zero hy r
        rcases q with q | q
        · rw [q, b1] at rd; cases rd
        · rw [q, b2] at rd; cases rd
      rw [blw_eq, if_neg (fun q => q (.inr ((hd1_eq hl 45).mpr rfl))), if_neg nz, if_neg (fun e => by have := (hd1_eq hl 43).mp e; cases this), rd]
      show some (0 - (0 - b), (w :: r).length) = _
      rw [show (0 - (0 - b) : Int) = b by omega]
theorem span_plain {y : Way} (hy : y ≠ .words) {p : Par} (h : Pmd p) : ∃ L, SpanW y p L := by
  obtain ⟨s, a, b⟩ := p
  obtain ⟨m1, m2, m3⟩ := h
  have m1 : Md s := m1
  obtain ⟨w, r, t⟩ := tw_all hy m1
  obtain ⟨A, a1, a2, a3, a4, a5⟩ := above_ok hy (a := a) m2
  obtain ⟨B, b1, b2, b3, b4, b5, b6⟩ := below_ok hy (b := b) m3
  obtain ⟨a6, a7⟩ := a5 B b5
  have ne2 : A ++ B ≠ [] := fun e => a1 (List.append_eq_nil_iff.mp e).1
  refine ⟨(w :: r) ++ (A ++ B), ?_, (fun e => by cases e), ?_, fun v hv => ?_, ?_⟩
  · show spanS y s a b = _
    unfold spanS
    rw [if_neg hy, join_app (fun e => by cases e) ne2, join_app a1 b1, ← a3, ← b3, ← t.told]
    simp only [str_assoc]
  · rw [List.length_append, List.length_append, List.length_cons]
    have := t.few
    omega
  · rcases List.mem_append.mp hv with q | q
    · exact (t.words v q).l
    · rcases List.mem_append.mp q with q | q
      · exact a4 v q
      · exact b4 v q
  · have rd := t.read (A ++ B) a6
    have ed : ((w :: r) ++ (A ++ B)).drop (w :: r).length = A ++ B := List.drop_left
    have ed2 : ((w :: r) ++ (A ++ B)).drop ((w :: r).length + A.length) = B := by rw [← List.drop_drop, ed, List.drop_left]
    unfold parL
    rw [rd]
    show (if y = .words then _ else (abvL y (((w :: r) ++ (A ++ B)).drop (w :: r).length)).bind fun q2 => (blwL y (((w :: r) ++ (A ++ B)).drop ((w :: r).length + q2.2))).map fun q3 => (s, q2.1, q3.1, (w :: r).length + q2.2 + q3.2)) = _
    rw [if_neg hy, ed, a7]
    show (blwL y (((w :: r) ++ (A ++ B)).drop ((w :: r).length + A.length))).map (fun q3 => (s, a, q3.1, (w :: r).length + A.length + q3.2)) = _
    rw [ed2, b6]
    show some (s, a, b, (w :: r).length + A.length + B.length) = _
    rw [List.length_append, List.length_append, Nat.add_assoc]
theorem parL_words (ws : List Str) : parL .words ws = (wordsL ws).bind fun q1 => (nmdL "above" (ws.drop q1.2)).bind fun q2 => (nmdL "below" (ws.drop (q1.2 + q2.2))).map fun q3 => (q1.1, q2.1, q3.1, q1.2 + q2.2 + q3.2) := rfl
theorem good_above : GoodW "above" := goodB_ok (by decide +kernel)
theorem good_below : GoodW "below" := goodB_ok (by decide +kernel)
theorem span_wordy {p : Par} (h : Pmd p) : ∃ L, SpanW .words p L := by
  obtain ⟨s, a, b⟩ := p
  obtain ⟨m1, m2, m3⟩ := h
  obtain ⟨S, t⟩ := tw_words (m := s) m1
  obtain ⟨A, u⟩ := tw_words (m := a) m2
  obtain ⟨B, v⟩ := tw_words (m := b) m3
  refine ⟨S ++ ((("above" : Str) :: A) ++ (("below" : Str) :: B)), ?_, fun e => t.ne (List.append_eq_nil_iff.mp e).1, ?_, fun z hz => ?_, ?_⟩
  · show spanS .words s a b = _
    unfold spanS
    rw [if_pos rfl]
    show (((wordsS s ++ " above ") ++ wordsS a) ++ " below ") ++ wordsS b = _
    have e1 : ∀ (z : Str) {l : List Str}, l ≠ [] → Txt.join " " (z :: l) = (z ++ " ") ++ Txt.join " " l := fun z l hl => by
      have := join_app (a := [z]) (b := l) (fun e => by cases e) hl
      rw [join1] at this
      exact this
    have x1 : (" above " : Str) = " " ++ ("above" ++ " ") := by decide +kernel
    have x2 : (" below " : Str) = " " ++ ("below" ++ " ") := by decide +kernel
    rw [join_app t.ne (fun e => by cases e), join_app (a := ("above" : Str) :: A) (fun e => by cases e) (fun e => by cases e), e1 "above" u.ne, e1 "below" v.ne, ← t.told, ← u.told, ← v.told, x1, x2]
    simp only [str_assoc]
  · rw [List.length_append, List.length_append, List.length_cons, List.length_cons]
    have := t.few
    have := u.few
    have := v.few
    omega
  · rcases List.mem_append.mp hz with q | q
    · exact (t.words z q).l
    · rcases List.mem_append.mp q with q | q
      · rcases List.mem_cons.mp q with q | q
        · rw [q]; exact good_above.l
        · exact (u.words z q).l
      · rcases List.mem_cons.mp q with q | q
        · rw [q]; exact good_below.l
        · exact (v.words z q).l
  · have r1 := t.read ((("above" : Str) :: A) ++ (("below" : Str) :: B)) (.inr ⟨"above", _, rfl, List.mem_cons_self ..⟩)
    have r2 := u.read (("below" : Str) :: B) (.inr ⟨"below", _, rfl, List.mem_cons_of_mem _ (List.mem_cons_self ..)⟩)
    have r3 := v.read [] (.inl rfl)
    rw [List.append_nil] at r3
    have d1 : (S ++ ((("above" : Str) :: A) ++ (("below" : Str) :: B))).drop S.length = (("above" : Str) :: A) ++ (("below" : Str) :: B) := List.drop_left
    have d2 : (S ++ ((("above" : Str) :: A) ++ (("below" : Str) :: B))).drop (S.length + (A.length + 1)) = ("below" : Str) :: B := by
      rw [← List.drop_drop, d1]
      exact List.drop_left (l₁ := ("above" : Str) :: A)
    have n1 : nmdL "above" ((("above" : Str) :: A) ++ (("below" : Str) :: B)) = some (a, A.length + 1) := by
      show (if ("above" : Str) = "above" then (readL .words (A ++ (("below" : Str) :: B))).map (fun q => (q.1, q.2 + 1)) else none) = _
      rw [if_pos rfl]
      show (wordsL (A ++ (("below" : Str) :: B))).map _ = _
      rw [r2]
      rfl
    have n2 : nmdL "below" ("below" :: B) = some (b, B.length + 1) := by
      show (if ("below" : Str) = "below" then (readL .words B).map (fun q => (q.1, q.2 + 1)) else none) = _
      rw [if_pos rfl]
      show (wordsL B).map _ = _
      rw [r3]
      rfl
    rw [parL_words, r1]
    show (nmdL "above" ((S ++ ((("above" : Str) :: A) ++ (("below" : Str) :: B))).drop S.length)).bind (fun q2 => (nmdL "below" ((S ++ ((("above" : Str) :: A) ++ (("below" : Str) :: B))).drop (S.length + q2.2))).map fun q3 => (s, q2.1, q3.1, S.length + q2.2 + q3.2)) = _
    rw [d1, n1]
    show (nmdL "below" ((S ++ ((("above" : Str) :: A) ++ (("below" : Str) :: B))).drop (S.length + (A.length + 1)))).map (fun q3 => (s, a, q3.1, S.length + (A.length + 1) + q3.2)) = _
    rw [d2, n2]
    show some (s, a, b, S.length + (A.length + 1) + (B.length + 1)) = _
    rw [List.length_append, List.length_append, List.length_cons, List.length_cons, Nat.add_assoc]
theorem span_all (y : Way) {p : Par} (h : Pmd p) : ∃ L, SpanW y p L := by
  by_cases hy : y = .words
  · subst hy
    exact span_wordy h
  · exact span_plain hy h
end
end Fw
set_option Elab.async false
set_option linter.all false
set_option maxRecDepth 100000
set_option maxHeartbeats 4000000
namespace Fw
open PySem PySem.Spec PyProof.Rows L2
open C8 (Cal CalAt Met Mak pe_c pe_mk pe_mt pe_mt0 pe_gc InsC call_isC)

section
variable {P : Program} {w : World} {K : PySem.W.Frag} {mg : Str → Option Value} {base : Heap}

/-! lines and texts told and read -/
theorem name_free {n : Str} (h : NameOk n) {c : Nat} (hc : c < 97) : c ∉ TL.tl n := fun hm => by
  have := (h.2.2 c hm).1
  omega
theorem name_good {n : Str} (h : NameOk n) : GoodL n := ⟨name_free h (by decide), name_free h (by decide), by have := h.2.1; omega⟩
theorem colon_good {n : Str} (h : NameOk n) : GoodL (n ++ ":") := by
  refine ⟨?_, ?_, ?_⟩
  · rw [TL.tl_append]
    intro hm
    rcases List.mem_append.mp hm with q | q
    · exact name_free h (by decide) q
    · rcases List.mem_cons.mp q with w | w
      · cases w
      · cases w
  · rw [TL.tl_append]
    intro hm
    rcases List.mem_append.mp hm with q | q
    · exact name_free h (by decide) q
    · rcases List.mem_cons.mp q with w | w
      · cases w
      · cases w
  · rw [len_app]
    have := h.2.1
    have : (":" : Str).length = 1 := rfl
    omega
theorem colon_last (n : Str) : lst1 (n ++ ":") = ":" ∧ but1 (n ++ ":") = n := by
  have e : n ++ ":" = SX.S (TL.tl n ++ [58]) := TL.ext_tl (by rw [TL.tl_append]; rfl)
  have hne : TL.tl n ++ [58] ≠ [] := fun q => by have := (List.append_eq_nil_iff.mp q).2; cases this
  have hl : (TL.tl n ++ [58]).length - 1 = (TL.tl n).length := by rw [List.length_append]; rfl
  constructor
  · show Txt.slice (n ++ ":") (some (-1)) none = ":"
    rw [e, SX.slice_last hne, hl, List.drop_left]
    rfl
  · show Txt.slice (n ++ ":") none (some (-1)) = n
    rw [e, SX.slice_butlast hne, hl, List.take_left]
theorem join_free {c : Nat} (hc : c ≠ 32) : ∀ {l : List Str}, (∀ v ∈ l, c ∉ TL.tl v) → c ∉ TL.tl (Txt.join " " l)
  | [], _ => by
    rw [TL.join_eq, TL.tl_join]
    exact fun h => by cases h
  | [w], h => by
    rw [join1]
    exact h w (List.mem_cons_self ..)
  | w :: v :: l, h => by
    have ih := join_free hc (l := v :: l) fun x hx => h x (List.mem_cons_of_mem _ hx)
    have e : Txt.join " " (w :: v :: l) = (w ++ " ") ++ Txt.join " " (v :: l) := by
      have := join_app (a := [w]) (b := v :: l) (fun e => by cases e) (fun e => by cases e)
      rw [join1] at this
      exact this
    rw [e, TL.tl_append, TL.tl_append]
    intro hm
    rcases List.mem_append.mp hm with q | q
    · rcases List.mem_append.mp q with q | q
      · exact h w (List.mem_cons_self ..) q
      · exact hc (List.mem_singleton.mp q)
    · exact ih q
theorem join_cons (w : Str) {l : List Str} (h : l ≠ []) : Txt.join " " (w :: l) = (w ++ " ") ++ Txt.join " " l := by
  have := join_app (a := [w]) (b := l) (fun e => by cases e) h
  rw [join1] at this
  exact this
theorem row_words (y : Way) {n st : Str} {p : Par} {L : List Str} (h : SpanW y p L) : rowS y (n, st, p) = Txt.join " " (n :: ("from" : Str) :: (st ++ ":") :: L) := by
  rw [← rowS_law]
  show (((n ++ " from ") ++ st) ++ ": ") ++ spanS y p.1 p.2.1 p.2.2 = _
  rw [join_cons _ (fun e => by cases e), join_cons _ (fun e => by cases e), join_cons _ h.ne, h.told]
  have x1 : (" from " : Str) = " " ++ (("from" : Str) ++ " ") := by decide +kernel
  have x2 : (": " : Str) = (":" : Str) ++ " " := by decide +kernel
  rw [x1, x2]
  simp only [str_assoc]
theorem want_words (y : Way) {n st : Str} {p : Par} {L : List Str} (h : SpanW y p L) : wantS y (n, st, p) = Txt.join " " (("want" : Str) :: n :: ("to" : Str) :: (st ++ ":") :: L) := by
  rw [← wantS_law]
  show (((("want " ++ n) ++ " to ") ++ st) ++ ": ") ++ spanS y p.1 p.2.1 p.2.2 = _
  rw [join_cons _ (fun e => by cases e), join_cons _ (fun e => by cases e), join_cons _ (fun e => by cases e), join_cons _ h.ne, h.told]
  have x0 : ("want " : Str) = ("want" : Str) ++ " " := by decide +kernel
  have x1 : (" to " : Str) = " " ++ (("to" : Str) ++ " ") := by decide +kernel
  have x2 : (": " : Str) = (":" : Str) ++ " " := by decide +kernel
  rw [x0, x1, x2]
  simp only [str_assoc]
theorem sb_ok {y : Way} {p : Par} {L : List Str} (h : SpanW y p L) (hp : Pmd p) (hab : 0 ≤ p.2.1 + p.2.2) : SbLn y L p := by
  have hs := split_sp h.ne fun v hv => (h.words v hv).1
  have hsum := sum_le (fun x : Str => x.length) 600 L fun v hv => (h.words v hv).2.2
  have hf := h.few
  refine ⟨?_, ?_, ?_, ?_, hab⟩
  · have : L.length * 600 ≤ 100 * 600 := Nat.mul_le_mul_right _ hf
    omega
  · rw [← h.told]
    have := spanS_len y hp.1 hp.2.1 hp.2.2
    omega
  · rw [hs]
    exact ⟨by omega, fun z hz => (h.words z hz).2.2⟩
  · rw [hs]
    exact h.read
theorem from_good : GoodL "from" := (goodB_ok (w := "from") (by decide +kernel)).l
theorem want_good : GoodL "want" := (goodB_ok (w := "want") (by decide +kernel)).l
theorem to_good : GoodL "to" := (goodB_ok (w := "to") (by decide +kernel)).l
theorem zero_good : GoodL "zero" := (goodB_ok (w := "zero") (by decide +kernel)).l
theorem row_ok (y : Way) {z : Str} {rs : List Row} (g : Good z rs) {r : Row} (hr : r ∈ rs) (hp : Pmd r.2.2) : RowLn y (rowS y r) r ∧ 10 ∉ TL.tl (rowS y r) := by
  have hlen := rowS_len y g hr hp
  obtain ⟨n, st, p⟩ := r
  have hp : Pmd p := hp
  have hn : n ∈ rnm rs := List.mem_map.mpr ⟨_, hr, rfl⟩
  obtain ⟨s', p', hl, h3, _, hab, hok, _⟩ := look_some g hn
  cases look_uniq g hr hl
  have hst : NameOk st := g.ok h3
  obtain ⟨L, hL⟩ := span_all y hp
  have ew := row_words y (n := n) (st := st) hL
  have hg : ∀ v ∈ n :: ("from" : Str) :: (st ++ ":") :: L, GoodL v := fun v hv => by
    rcases List.mem_cons.mp hv with q | q
    · rw [q]; exact name_good hok
    rcases List.mem_cons.mp q with q | q
    · rw [q]; exact from_good
    rcases List.mem_cons.mp q with q | q
    · rw [q]; exact colon_good hst
    exact hL.words v q
  have hs := split_sp (l := n :: ("from" : Str) :: (st ++ ":") :: L) (fun e => by cases e) fun v hv => (hg v hv).1
  rw [← ew] at hs
  refine ⟨?_, ?_⟩
  · unfold RowLn
    rw [hs]
    obtain ⟨c1, c2⟩ := colon_last st
    refine ⟨by omega, ?_, rfl, rfl, ⟨st ++ ":", rfl, (colon_good hst).2.2, c1, c2⟩, sb_ok hL hp hab⟩
    rw [List.length_cons, List.length_cons, List.length_cons]
    have := List.length_pos_iff.mpr hL.ne
    omega
  · rw [ew]
    exact join_free (by decide) fun v hv => (hg v hv).2.1
theorem want_ok (y : Way) {z : Str} {rs : List Row} (g : Good z rs) {wt : Want} (h : WOk z rs wt) : WantLn y (wantS y wt) wt ∧ 10 ∉ TL.tl (wantS y wt) := by
  have hlen := wantS_len y (g.ok h.m1).2.1 (g.ok h.m2).2.1 h.md
  have k1 := g.ok h.m1
  have k2 := g.ok h.m2
  have hp := h.md
  have hab := h.ab
  obtain ⟨n, st, p⟩ := wt
  have k1 : NameOk n := k1
  have k2 : NameOk st := k2
  have hp : Pmd p := hp
  obtain ⟨L, hL⟩ := span_all y hp
  have ew := want_words y (n := n) (st := st) hL
  have hg : ∀ v ∈ ("want" : Str) :: n :: ("to" : Str) :: (st ++ ":") :: L, GoodL v := fun v hv => by
    rcases List.mem_cons.mp hv with q | q
    · rw [q]; exact want_good
    rcases List.mem_cons.mp q with q | q
    · rw [q]; exact name_good k1
    rcases List.mem_cons.mp q with q | q
    · rw [q]; exact to_good
    rcases List.mem_cons.mp q with q | q
    · rw [q]; exact colon_good k2
    exact hL.words v q
  have hs := split_sp (l := ("want" : Str) :: n :: ("to" : Str) :: (st ++ ":") :: L) (fun e => by cases e) fun v hv => (hg v hv).1
  rw [← ew] at hs
  refine ⟨?_, ?_⟩
  · unfold WantLn
    rw [hs]
    obtain ⟨c1, c2⟩ := colon_last st
    refine ⟨by omega, ?_, rfl, rfl, rfl, ⟨st ++ ":", rfl, (colon_good k2).2.2, c1, c2⟩, sb_ok hL hp hab⟩
    rw [List.length_cons, List.length_cons, List.length_cons, List.length_cons]
    have := List.length_pos_iff.mpr hL.ne
    omega
  · rw [ew]
    exact join_free (by decide) fun v hv => (hg v hv).2.1
theorem zl_words (z : Str) : zlS z = Txt.join " " [("zero" : Str), z] := by
  rw [← zlS_law, join_cons _ (fun e => by cases e), join1]
  have x0 : ("zero " : Str) = ("zero" : Str) ++ " " := by decide +kernel
  rw [x0]
theorem p_of_map {α β : Type} {F : β → α → Prop} (f : α → β) : ∀ (l : List α), (∀ x ∈ l, F (f x) x) → Paired F (l.map f) l
  | [], _ => .nil
  | x :: l, h => .cons (h x (List.mem_cons_self ..)) (p_of_map f l fun y hy => h y (List.mem_cons_of_mem _ hy))
theorem join_len_le (sep : Str) : ∀ l : List Str, (Txt.join sep l).length ≤ (l.map (·.length)).sum + l.length * sep.length
  | [] => by
    rw [TL.join_eq, TL.len_tl, TL.tl_join]
    exact Nat.zero_le _
  | [w] => by
    rw [TL.join_eq, TL.len_tl, TL.tl_join]
    show (TL.tl w).length ≤ _
    rw [← TL.len_tl]
    show w.length ≤ w.length + 0 + _
    omega
  | w :: v :: l => by
    have ih := join_len_le sep (v :: l)
    have e : (Txt.join sep (w :: v :: l)).length = w.length + (sep.length + (Txt.join sep (v :: l)).length) := by
      rw [TL.join_eq, TL.len_tl, TL.tl_join, TL.join_eq, TL.len_tl (Str.join sep (v :: l)), TL.tl_join]
      show (TL.tl w ++ (TL.tl sep ++ TL.joinL (TL.tl sep) ((v :: l).map TL.tl))).length = _
      rw [List.length_append, List.length_append, ← TL.len_tl, ← TL.len_tl]
    have e2 : ((w :: v :: l).map (·.length)).sum = w.length + ((v :: l).map (·.length)).sum := by rw [List.map_cons, List.sum_cons]
    have e3 : (w :: v :: l).length * sep.length = (v :: l).length * sep.length + sep.length := by rw [List.length_cons, Nat.succ_mul]
    rw [e, e2, e3]
    omega
theorem tb_ok {y : Way} {z : Str} {rs : List Row} {wts : List Want} (g : Good z rs) (h1 : rs.length ≤ 12) (h2 : wts.length ≤ 12) (hp : ∀ r ∈ rs, Pmd r.2.2) (hw : ∀ wt ∈ wts, WOk z rs wt) : TbOk y z rs wts := by
  have hin : WtsIn z rs wts := fun wt h => ⟨(hw wt h).m1, (hw wt h).m2⟩
  have hmd : ∀ wt ∈ wts, Pmd wt.2.2 := fun wt h => (hw wt h).md
  have hz := g.zero
  have hzg : ∀ v ∈ [("zero" : Str), z], GoodL v := fun v hv => by
    rcases List.mem_cons.mp hv with q | q
    · rw [q]; exact zero_good
    rw [List.mem_singleton.mp q]
    exact name_good hz
  have hz10 : 10 ∉ TL.tl (zlS z) := by
    rw [zl_words]
    exact join_free (by decide) fun v hv => (hzg v hv).2.1
  have hall : ∀ v ∈ shownL y z rs wts, 10 ∉ TL.tl v := fun v hv => by
    rcases List.mem_append.mp hv with q | q
    · rcases List.mem_cons.mp q with q | q
      · rw [q]; exact hz10
      · obtain ⟨r, hr, rfl⟩ := List.mem_map.mp q
        have hr := List.mem_reverse.mp hr
        exact (row_ok y g hr (hp r hr)).2
    · obtain ⟨wt, hwt, rfl⟩ := List.mem_map.mp q
      exact (want_ok y g (hw wt hwt)).2
  have hsp : Txt.split (Txt.join "\n" (shownL y z rs wts)) "\n" = shownL y z rs wts := TL.split_join (y := ("\n" : Str)) (s := 10) (S := []) rfl (by decide +kernel) (fun e => by cases e) hall
  refine ⟨g, h1, h2, hp, hw, ?_, ?_⟩
  · have hb := shown_bound y g hp hmd hin h1 h2
    have hl := sum_le (fun x : Str => x.length) 400030 _ (shown_len y g hp hmd hin)
    have e : (shownL y z rs wts).length = 1 + rs.length + wts.length := by
      unfold shownL linesP
      rw [List.length_append, List.length_cons, List.length_map, List.length_map, List.length_reverse]
      omega
    have hj := join_len_le "\n" (shownL y z rs wts)
    have e1 : ("\n" : Str).length = 1 := rfl
    rw [e1] at hj
    rw [e] at hl hj
    have : (1 + rs.length + wts.length) * 400030 ≤ 25 * 400030 := Nat.mul_le_mul_right _ (by omega)
    omega
  · rw [hsp]
    refine ⟨⟨zlS z, rs.reverse.map (rowS y), wts.map (wantS y), rfl, ?_, ?_, p_of_map (rowS y) _ fun r hr => ?_, p_of_map (wantS y) _ fun wt hwt => (want_ok y g (hw wt hwt)).1⟩, g, ⟨by omega, by omega⟩, fun w h => ⟨(hw w h).m1, (hw w h).m2⟩⟩
    · have := shown_len y g hp hmd hin (zlS z) (List.mem_append_left _ (List.mem_cons_self ..))
      omega
    · rw [zl_words]
      exact split_sp (fun e => by cases e) fun v hv => (hzg v hv).1
    · have hr := List.mem_reverse.mp hr
      exact (row_ok y g hr (hp r hr)).1
end
end Fw
set_option Elab.async false
set_option linter.all false
set_option maxRecDepth 100000
set_option maxHeartbeats 4000000
namespace Fw
open PySem PySem.Spec PyProof.Rows L2
open C8 (Cal CalAt Met Mak pe_c pe_mk pe_mt pe_mt0 pe_gc InsC call_isC)

section
variable {P : Program} {w : World} {K : PySem.W.Frag} {mg : Str → Option Value} {base : Heap}

/-! bounds of roads -/
def Bnd (p : Par) : Prop := -500 ≤ p.1 ∧ p.1 ≤ 500 ∧ -69 ≤ p.2.1 ∧ p.2.1 ≤ 69 ∧ -69 ≤ p.2.2 ∧ p.2.2 ≤ 69 ∧ 0 ≤ p.2.1 + p.2.2 ∧ p.2.1 + p.2.2 ≤ 30 ∧ -569 ≤ p.1 - p.2.2 ∧ p.1 + p.2.1 ≤ 569
theorem near_bnd {z : Str} {rs : List Row} (h : NearOk z rs) : ∀ r ∈ rs, Bnd r.2.2 := fun r hr => by
  obtain ⟨a1, a2, a3, a4⟩ := h.sk.ab r hr
  obtain ⟨n1, n2⟩ := h.near r hr
  unfold Bnd
  omega
theorem bnd_pmd {p : Par} (h : Bnd p) : Pmd p := by
  obtain ⟨a1, a2, a3, a4, a5, a6, _⟩ := h
  exact ⟨⟨by omega, by omega⟩, ⟨by omega, by omega⟩, ⟨by omega, by omega⟩⟩
theorem near_pmd {z : Str} {rs : List Row} (h : NearOk z rs) : ∀ r ∈ rs, Pmd r.2.2 := fun r hr => bnd_pmd (near_bnd h r hr)
theorem turn_bnd {z : Str} {rs : List Row} (h : NearOk z rs) {r : Row} (hr : r ∈ rs) : Bnd (turnP r.2.2) := by
  obtain ⟨a1, a2, a3, a4⟩ := h.sk.ab r hr
  obtain ⟨n1, n2⟩ := h.near r hr
  show -500 ≤ 0 - r.2.2.1 ∧ 0 - r.2.2.1 ≤ 500 ∧ -69 ≤ r.2.2.2.2 ∧ r.2.2.2.2 ≤ 69 ∧ -69 ≤ r.2.2.2.1 ∧ r.2.2.2.1 ≤ 69 ∧ 0 ≤ r.2.2.2.2 + r.2.2.2.1 ∧ r.2.2.2.2 + r.2.2.2.1 ≤ 30 ∧ -569 ≤ 0 - r.2.2.1 - r.2.2.2.1 ∧ 0 - r.2.2.1 + r.2.2.2.2 ≤ 569
  omega
theorem near_hbnd {z y : Str} {rs : List Row} (h : NearOk z rs) (hy : y ∈ z :: rnm rs) : ∀ r ∈ hungP rs y, Bnd r.2.2 := fun r hr => by
  rcases List.mem_append.mp hr with q | q
  · exact near_bnd h r (List.mem_filter.mp q).1
  · have q := List.mem_reverse.mp q
    rw [flip_eq h.sk.good hy] at q
    obtain ⟨r0, hr0, rfl⟩ := List.mem_map.mp q
    exact turn_bnd h (List.mem_filter.mp hr0).1
theorem near_hpmd {z y : Str} {rs : List Row} (h : NearOk z rs) (hy : y ∈ z :: rnm rs) : ∀ r ∈ hungP rs y, Pmd r.2.2 := fun r hr => bnd_pmd (near_hbnd h hy r hr)
theorem road_few {z : Str} {rs : List Row} (g : Good z rs) {n m : Str} (hn : n ∈ z :: rnm rs) (hm : m ∈ z :: rnm rs) : (roadP rs n m).length ≤ rs.length := by
  have nd : (leftP rs n m ++ leftP rs m n).Nodup := by
    refine List.nodup_append.mpr ⟨(up_nodup g hn).filter _, (up_nodup g hm).filter _, fun a ha b hb e => ?_⟩
    have h1 := (List.mem_filter.mp ha).2
    have h2 := (List.mem_filter.mp hb).1
    exact of_decide_eq_true h1 (by rw [e]; exact h2)
  have := pigeon _ (rnm rs) nd fun x hx => by
    rcases List.mem_append.mp hx with q | q
    · exact left_mem g hn hm q
    · exact left_mem g hm hn q
  have e1 : (rnm rs).length = rs.length := List.length_map _
  rw [e1, List.length_append] at this
  unfold roadP
  rw [List.length_append, List.length_map, List.length_reverse, List.length_map]
  exact this
theorem fold_b {rs : List Row} : ∀ (l : List (Str × Bool)) (q : Par), (∀ st ∈ l, ∃ s p, look rs st.1 = some (s, p) ∧ Bnd p) →
    (q.1 - q.2.2) - 569 * (l.length : Int) ≤ (l.foldl (betS rs) q).1 - (l.foldl (betS rs) q).2.2 ∧ (l.foldl (betS rs) q).1 + (l.foldl (betS rs) q).2.1 ≤ (q.1 + q.2.1) + 569 * (l.length : Int) ∧
    (q.2.1 + q.2.2) ≤ (l.foldl (betS rs) q).2.1 + (l.foldl (betS rs) q).2.2 ∧ (l.foldl (betS rs) q).2.1 + (l.foldl (betS rs) q).2.2 ≤ (q.2.1 + q.2.2) + 30 * (l.length : Int) ∧
    q.1 - 500 * (l.length : Int) ≤ (l.foldl (betS rs) q).1 ∧ (l.foldl (betS rs) q).1 ≤ q.1 + 500 * (l.length : Int) ∧
    q.2.1 - 69 * (l.length : Int) ≤ (l.foldl (betS rs) q).2.1 ∧ (l.foldl (betS rs) q).2.1 ≤ q.2.1 + 69 * (l.length : Int) ∧
    q.2.2 - 69 * (l.length : Int) ≤ (l.foldl (betS rs) q).2.2 ∧ (l.foldl (betS rs) q).2.2 ≤ q.2.2 + 69 * (l.length : Int)
  | [], q, _ => by
    show _ - 569 * ((0 : Nat) : Int) ≤ _ ∧ _
    simp
  | st :: l, q, h => by
    obtain ⟨s, p, hl, b1, b2, b3, b4, b5, b6, b7, b8, b9, b10⟩ := h st (List.mem_cons_self ..)
    have ih := fold_b l (betS rs q st) fun x hx => h x (List.mem_cons_of_mem _ hx)
    rw [List.foldl_cons]
    generalize l.foldl (betS rs) (betS rs q st) = r at ih ⊢
    have hlen : ((st :: l).length : Int) = (l.length : Int) + 1 := by rw [List.length_cons]; rfl
    rw [hlen]
    obtain ⟨s', a', b'⟩ := p
    have b1 : -500 ≤ s' := b1
    have b2 : s' ≤ 500 := b2
    have b3 : -69 ≤ a' := b3
    have b4 : a' ≤ 69 := b4
    have b5 : -69 ≤ b' := b5
    have b6 : b' ≤ 69 := b6
    have b7 : 0 ≤ a' + b' := b7
    have b8 : a' + b' ≤ 30 := b8
    have b9 : -569 ≤ s' - b' := b9
    have b10 : s' + a' ≤ 569 := b10
    have eb : betS rs q st = if st.2 then (q.1 - s', q.2.1 + b', q.2.2 + a') else (q.1 + s', q.2.1 + a', q.2.2 + b') := by
      unfold betS
      rw [hl]
    rw [eb] at ih
    by_cases hb : st.2 = true
    · rw [if_pos hb] at ih
      simp only at ih
      omega
    · rw [if_neg hb] at ih
      simp only at ih
      omega
theorem road_look {z : Str} {rs : List Row} (g : Good z rs) (hB : ∀ r ∈ rs, Bnd r.2.2) {n m : Str} (hn : n ∈ z :: rnm rs) (hm : m ∈ z :: rnm rs) : ∀ st ∈ roadP rs n m, ∃ s p, look rs st.1 = some (s, p) ∧ Bnd p := fun st hst => by
  obtain ⟨s, p, hl, _⟩ := look_some g (road_mem g hn hm hst)
  exact ⟨s, p, hl, hB _ (look_mem hl)⟩
theorem near_ap {z : Str} {rs : List Row} (h : NearOk z rs) : ApB z rs := fun n m hn hm => by
  have g := h.sk.good
  have hl := road_few g hn hm
  have hf := h.sk.few
  obtain ⟨a1, a2, a3, a4, _⟩ := fold_b (rs := rs) (roadP rs n m) (0, 0, 0) (road_look g (near_bnd h) hn hm)
  have a1 : (0 - 0 : Int) - 569 * ((roadP rs n m).length : Int) ≤ (betP rs n m).1 - (betP rs n m).2.2 := a1
  have a2 : (betP rs n m).1 + (betP rs n m).2.1 ≤ (0 + 0 : Int) + 569 * ((roadP rs n m).length : Int) := a2
  have a3 : (0 + 0 : Int) ≤ (betP rs n m).2.1 + (betP rs n m).2.2 := a3
  have a4 : (betP rs n m).2.1 + (betP rs n m).2.2 ≤ (0 + 0 : Int) + 30 * ((roadP rs n m).length : Int) := a4
  omega
/-! hung and hung back -/
theorem up_join : ∀ {X : List Row} (Y : List Row) {n m : Str} {pre : List Str}, upR X n = pre ++ [m] → upR (X ++ Y) n = pre ++ upR Y m
  | [], Y, n, m, pre, h => by
    have h : [n] = pre ++ [m] := h
    cases pre with
    | nil =>
      injection h with h
      rw [h]
      rfl
    | cons a b =>
      injection h with _ h
      have := (List.append_eq_nil_iff.mp h.symm).2
      cases this
  | r :: X, Y, n, m, pre, h => by
    show (if r.1 = n then n :: upR (X ++ Y) r.2.1 else upR (X ++ Y) n) = _
    have h : (if r.1 = n then n :: upR X r.2.1 else upR X n) = pre ++ [m] := h
    by_cases e : r.1 = n
    · rw [if_pos e] at h ⊢
      obtain ⟨t, et⟩ := up_head X r.2.1
      cases pre with
      | nil =>
        rw [et] at h
        injection h with _ h
        cases h
      | cons a b =>
        injection h with h1 h2
        rw [up_join Y h2, h1]
        rfl
    · rw [if_neg e] at h ⊢
      exact up_join Y h
theorem up_rest : ∀ {X : List Row} (Y : List Row) {n : Str}, n ∉ rnm X → upR (X ++ Y) n = upR Y n := fun {X} Y {n} h => by
  have := up_join Y (pre := []) (m := n) (up_none h)
  exact this
theorem up_flip {z : Str} {rs : List Row} (g : Good z rs) : ∀ {y : Str}, y ∈ z :: rnm rs → upR (flipR rs y).reverse z = (upR rs y).reverse := by
  induction g with
  | nil _ =>
    intro y h
    rw [List.mem_singleton.mp h]
    rfl
  | @cons r rs g h1 h2 h3 h4 ih =>
    intro y h
    by_cases e : r.1 = y
    · have eu : upR (r :: rs) y = y :: upR rs r.2.1 := by conv => lhs; unfold upR; rw [if_pos e]
      have ef : flipR (r :: rs) y = (r.2.1, y, turnP r.2.2) :: flipR rs r.2.1 := by conv => lhs; unfold flipR; rw [if_pos e]
      obtain ⟨t, et⟩ := up_head rs r.2.1
      have i := ih h3
      rw [et, List.reverse_cons] at i
      rw [eu, ef, List.reverse_cons, up_join _ i, et, List.reverse_cons, List.reverse_cons, List.append_assoc]
      have e1 : upR [(r.2.1, y, turnP r.2.2)] r.2.1 = [r.2.1, y] := by
        show (if r.2.1 = r.2.1 then r.2.1 :: upR [] y else upR [] r.2.1) = _
        rw [if_pos rfl]
        rfl
      rw [e1]
      rfl
    · have hy : y ∈ z :: rnm rs := by
        rcases List.mem_cons.mp h with h | h
        · rw [h]; exact List.mem_cons_self ..
        · rcases List.mem_cons.mp h with h | h
          · exact absurd h.symm e
          · exact List.mem_cons_of_mem _ h
      have eu : upR (r :: rs) y = upR rs y := by conv => lhs; unfold upR; rw [if_neg e]
      have ef : flipR (r :: rs) y = flipR rs y := by conv => lhs; unfold flipR; rw [if_neg e]
      rw [eu, ef]
      exact ih hy
theorem up_hung {z y : Str} {rs : List Row} (g : Good z rs) (hy : y ∈ z :: rnm rs) (n : Str) : n ∈ upR (hungP rs y) z ↔ n ∈ upR rs y := by
  have hz : z ∉ rnm (restR rs y) := fun h => by
    obtain ⟨q, hq, e⟩ := List.mem_map.mp h
    have := of_decide_eq_true (List.mem_filter.mp hq).2
    rw [e] at this
    exact this (up_z g hy)
  unfold hungP
  rw [up_rest _ hz, up_flip g hy, List.mem_reverse]
theorem start_up {z y : Str} {rs : List Row} (g : Good z rs) (hy : y ∈ z :: rnm rs) {q : Row} (hq : q ∈ rs) (hu : q.1 ∈ upR rs y) : q.2.1 ∈ upR rs y := by
  obtain ⟨n, st, p⟩ := q
  have hn : n ∈ rnm rs := List.mem_map.mpr ⟨_, hq, rfl⟩
  obtain ⟨s', p', hl, _, hup, _⟩ := look_some g hn
  cases look_uniq g hq hl
  have hu : n ∈ upR rs y := hu
  obtain ⟨pre, e, _⟩ := up_split g hy hu
  obtain ⟨t, et⟩ := up_head rs st
  rw [e, hup, et]
  exact List.mem_append_right _ (List.mem_cons_of_mem _ (List.mem_cons_self ..))
theorem turn_turn (p : Par) : turnP (turnP p) = p := by
  obtain ⟨s, a, b⟩ := p
  show ((0 - (0 - s) : Int), a, b) = (s, a, b)
  rw [show (0 - (0 - s) : Int) = s by omega]
theorem back_mem {z y : Str} {rs : List Row} (g : Good z rs) (hy : y ∈ z :: rnm rs) {r : Row} (hr : r ∈ hungP (hungP rs y) z) : r ∈ rs := by
  have gH := good_hung g hy
  have hz : z ∈ y :: rnm (hungP rs y) := (hung_mem g hy z).mpr (List.mem_cons_self ..)
  have inH : ∀ x ∈ hungP rs y, (x ∈ rs ∧ x.1 ∉ upR rs y) ∨ ∃ q ∈ rs, q.1 ∈ upR rs y ∧ x = flp q := fun x hx => by
    rcases List.mem_append.mp hx with w | w
    · obtain ⟨w1, w2⟩ := List.mem_filter.mp w
      exact .inl ⟨w1, of_decide_eq_true w2⟩
    · have w := List.mem_reverse.mp w
      rw [flip_eq g hy] at w
      obtain ⟨q, hq, rfl⟩ := List.mem_map.mp w
      obtain ⟨w1, w2⟩ := List.mem_filter.mp hq
      exact .inr ⟨q, w1, of_decide_eq_true w2, rfl⟩
  rcases List.mem_append.mp hr with w | w
  · obtain ⟨w1, w2⟩ := List.mem_filter.mp w
    have w2 := of_decide_eq_true w2
    rcases inH r w1 with ⟨v, _⟩ | ⟨q, hq, hu, rfl⟩
    · exact v
    · exact absurd ((up_hung g hy _).mpr (start_up g hy hq hu)) w2
  · have w := List.mem_reverse.mp w
    rw [flip_eq gH hz] at w
    obtain ⟨q', hq', rfl⟩ := List.mem_map.mp w
    obtain ⟨w1, w2⟩ := List.mem_filter.mp hq'
    have w2 := (up_hung g hy _).mp (of_decide_eq_true w2)
    rcases inH q' w1 with ⟨_, v⟩ | ⟨q, hq, hu, rfl⟩
    · exact absurd w2 v
    · have e : flp (flp q) = q := by
        obtain ⟨n, st, p⟩ := q
        show (n, st, turnP (turnP p)) = (n, st, p)
        rw [turn_turn]
      rw [e]
      exact hq
theorem hung_back {z y : Str} {rs : List Row} (g : Good z rs) (hy : y ∈ z :: rnm rs) : (hungP (hungP rs y) z).length = rs.length ∧ ∀ n s p, look (hungP (hungP rs y) z) n = some (s, p) → look rs n = some (s, p) := by
  have gH := good_hung g hy
  have hz : z ∈ y :: rnm (hungP rs y) := (hung_mem g hy z).mpr (List.mem_cons_self ..)
  refine ⟨(hung_len gH hz).trans (hung_len g hy), fun n s p h => ?_⟩
  have hm := back_mem g hy (look_mem h)
  obtain ⟨s', p', hl, _⟩ := look_some g (List.mem_map.mpr ⟨_, hm, rfl⟩ : n ∈ rnm rs)
  rw [hl, look_uniq g hm hl]
/-! straight -/
theorem good_map {p0 : Str} (f : Str → Row) (hf : ∀ n, (f n).1 = n) : ∀ (l : List Str) (b : List Row), Good p0 b → l.Nodup → (∀ n ∈ l, n ∉ p0 :: rnm b) → (∀ n ∈ l, NameOk n ∧ (f n).2.1 ∈ p0 :: rnm b ∧ 0 ≤ (f n).2.2.2.1 + (f n).2.2.2.2) → Good p0 ((l.map f).reverse ++ b)
  | [], b, g, _, _, _ => g
  | x :: l, b, g, hn, h1, h2 => by
    obtain ⟨n1, n2⟩ := List.nodup_cons.mp hn
    obtain ⟨k1, k2, k3⟩ := h2 x (List.mem_cons_self ..)
    rw [List.map_cons, List.reverse_cons, List.append_assoc]
    have up : ∀ {v}, v ∈ p0 :: rnm b → v ∈ p0 :: rnm (f x :: b) := fun {v} h => by
      rcases List.mem_cons.mp h with q | q
      · rw [q]; exact List.mem_cons_self ..
      · exact List.mem_cons_of_mem _ (List.mem_cons_of_mem _ q)
    refine good_map f hf l (f x :: b) (.cons g (by rw [hf]; exact k1) (by rw [hf]; exact h1 x (List.mem_cons_self ..)) k2 k3) n2 (fun n hn2 h => ?_) fun n hn2 => ?_
    · rcases List.mem_cons.mp h with q | q
      · exact h1 n (List.mem_cons_of_mem _ hn2) (by rw [q]; exact List.mem_cons_self ..)
      · rcases List.mem_cons.mp q with q | q
        · have q : n = (f x).1 := q
          rw [hf] at q
          exact n1 (by rw [← q]; exact hn2)
        · exact h1 n (List.mem_cons_of_mem _ hn2) (List.mem_cons_of_mem _ q)
    · obtain ⟨a, b', c⟩ := h2 n (List.mem_cons_of_mem _ hn2)
      exact ⟨a, up b', c⟩
theorem fold_s {rs : List Row} (B : Int) : ∀ (l : List (Str × Bool)) (q : Par), (∀ st ∈ l, ∃ s p, look rs st.1 = some (s, p) ∧ p.2.1 + p.2.2 ≤ B) → (l.foldl (betS rs) q).2.1 + (l.foldl (betS rs) q).2.2 ≤ (q.2.1 + q.2.2) + (l.map fun _ => B).sum
  | [], q, _ => by
    show q.2.1 + q.2.2 ≤ q.2.1 + q.2.2 + 0
    omega
  | st :: l, q, h => by
    obtain ⟨s, p, hl, b⟩ := h st (List.mem_cons_self ..)
    have ih := fold_s B l (betS rs q st) fun x hx => h x (List.mem_cons_of_mem _ hx)
    rw [List.foldl_cons, List.map_cons, List.sum_cons]
    generalize l.foldl (betS rs) (betS rs q st) = r at ih ⊢
    obtain ⟨s', a', b'⟩ := p
    have b : a' + b' ≤ B := b
    have eb : betS rs q st = if st.2 then (q.1 - s', q.2.1 + b', q.2.2 + a') else (q.1 + s', q.2.1 + a', q.2.2 + b') := by
      unfold betS
      rw [hl]
    rw [eb] at ih
    by_cases hb : st.2 = true
    · rw [if_pos hb] at ih
      simp only at ih
      omega
    · rw [if_neg hb] at ih
      simp only at ih
      omega
theorem const_sum (B : Int) : ∀ l : List (Str × Bool), (l.map fun _ => B).sum = B * (l.length : Int)
  | [] => by simp
  | _ :: l => by
    rw [List.map_cons, List.sum_cons, const_sum B l, List.length_cons]
    have : ((l.length + 1 : Nat) : Int) = (l.length : Int) + 1 := rfl
    rw [this, Int.mul_add, Int.mul_one]
    omega
theorem small_of {z : Str} {rs : List Row} (g : Good z rs) (hl : rs.length ≤ 12) {B : Int} (hB : B ≤ 1000) (h0 : ∀ r ∈ rs, 0 ≤ r.2.2.2.1 + r.2.2.2.2) (h : ∀ r ∈ rs, r.2.2.2.1 + r.2.2.2.2 ≤ B) : SmallB z rs := fun n m hn hm => by
  have hr := road_few g hn hm
  have a := fold_s (rs := rs) 1000 (roadP rs n m) (0, 0, 0) fun st hst => by
    obtain ⟨s, p, hl, _⟩ := look_some g (road_mem g hn hm hst)
    have : p.2.1 + p.2.2 ≤ B := h _ (look_mem hl)
    exact ⟨s, p, hl, by omega⟩
  rw [const_sum] at a
  have a : (betP rs n m).2.1 + (betP rs n m).2.2 ≤ (0 + 0 : Int) + 1000 * ((roadP rs n m).length : Int) := a
  omega
theorem near_str {z p0 : Str} {rs : List Row} {pt : List Str} (h : NearOk z rs) (hs : ∀ m ∈ p0 :: pt, m ∈ z :: rnm rs) (nd : (p0 :: pt).Nodup) (hl : pt.length ≤ 12) : StrOk z rs p0 pt ∧ (∀ r ∈ straightP z rs p0 pt, Pmd r.2.2) ∧ (straightP z rs p0 pt).length ≤ 12 := by
  have g := h.sk.good
  have hf := h.sk.few
  have m0 := hs p0 (List.mem_cons_self ..)
  have gH := good_hung g m0
  have hB := near_hbnd h m0
  have hHl := hung_len g m0
  have hmem := hung_mem g m0
  have hnn := names_nodup g
  have hnl := names_len z rs
  have hother : ∀ n ∈ (z :: rnm rs.reverse).filter (fun n => decide (n ∉ p0 :: pt)), n ∈ z :: rnm rs ∧ n ∉ p0 :: pt := fun n hn => by
    obtain ⟨a, b⟩ := List.mem_filter.mp hn
    exact ⟨mem_names.mp a, of_decide_eq_true b⟩
  have ndO : ((z :: rnm rs.reverse).filter (fun n => decide (n ∉ p0 :: pt))).Nodup := hnn.filter _
  have bet : ∀ st n, st ∈ z :: rnm rs → n ∈ z :: rnm rs → Pmd (betP (hungP rs p0) st n) ∧ 0 ≤ (betP (hungP rs p0) st n).2.1 + (betP (hungP rs p0) st n).2.2 ∧ (betP (hungP rs p0) st n).2.1 + (betP (hungP rs p0) st n).2.2 ≤ 330 := fun st n h1 h2 => by
    have k1 := (hmem st).mpr h1
    have k2 := (hmem n).mpr h2
    have hr := road_few gH k1 k2
    rw [hHl] at hr
    obtain ⟨_, _, a3, a4, a5, a6, a7, a8, a9, a10⟩ := fold_b (rs := hungP rs p0) (roadP (hungP rs p0) st n) (0, 0, 0) (road_look gH hB k1 k2)
    have e : (roadP (hungP rs p0) st n).foldl (betS (hungP rs p0)) (0, 0, 0) = betP (hungP rs p0) st n := rfl
    rw [e] at a3 a4 a5 a6 a7 a8 a9 a10
    generalize betP (hungP rs p0) st n = b at *
    simp only at a3 a4 a5 a6 a7 a8 a9 a10
    refine ⟨⟨⟨?_, ?_⟩, ⟨?_, ?_⟩, ⟨?_, ?_⟩⟩, ?_, ?_⟩ <;> omega
  have lz : ∀ n, lastZ (hungP rs p0) (p0 :: pt) p0 n ∈ p0 :: pt := fun n => lastZ_mem (List.mem_cons_self ..)
  obtain ⟨nd1, nd2⟩ := List.nodup_cons.mp nd
  have gY : Good p0 ((pt.map (stA (hungP rs p0) p0)).reverse) := by
    have := good_map (stA (hungP rs p0) p0) (fun _ => rfl) pt [] (.nil (g.ok m0)) nd2 (fun n hn q => by
      rw [List.mem_singleton.mp q] at hn
      exact nd1 hn) fun n hn => ⟨g.ok (hs n (List.mem_cons_of_mem _ hn)), List.mem_cons_self .., (bet p0 n m0 (hs n (List.mem_cons_of_mem _ hn))).2.1⟩
    rw [List.append_nil] at this
    exact this
  have nY : rnm (pt.map (stA (hungP rs p0) p0)).reverse = pt.reverse := by
    rw [rnm_rev]
    refine congrArg List.reverse ?_
    unfold rnm
    rw [List.map_map]
    exact List.map_id _
  have mY : ∀ n, n ∈ p0 :: rnm (pt.map (stA (hungP rs p0) p0)).reverse ↔ n ∈ p0 :: pt := fun n => by
    rw [nY, List.mem_cons, List.mem_cons, List.mem_reverse]
  have gS : Good p0 (straightP z rs p0 pt) := by
    refine good_map (stB (hungP rs p0) (p0 :: pt) p0) (fun _ => rfl) _ _ gY ndO (fun n hn q => (hother n hn).2 ((mY n).mp q)) fun n hn => ⟨g.ok (hother n hn).1, (mY _).mpr (lz n), (bet _ n (hs _ (lz n)) (hother n hn).1).2.1⟩
  have rows : ∀ r ∈ straightP z rs p0 pt, Pmd r.2.2 ∧ 0 ≤ r.2.2.2.1 + r.2.2.2.2 ∧ r.2.2.2.1 + r.2.2.2.2 ≤ 330 := fun r hr => by
    rcases List.mem_append.mp hr with q | q
    · obtain ⟨n, hn, rfl⟩ := List.mem_map.mp (List.mem_reverse.mp q)
      exact bet _ n (hs _ (lz n)) (hother n hn).1
    · obtain ⟨n, hn, rfl⟩ := List.mem_map.mp (List.mem_reverse.mp q)
      exact bet p0 n m0 (hs n (List.mem_cons_of_mem _ hn))
  have len : (straightP z rs p0 pt).length ≤ 12 := by
    have ndA : (pt ++ (z :: rnm rs.reverse).filter (fun n => decide (n ∉ p0 :: pt))).Nodup := List.nodup_append.mpr ⟨nd2, ndO, fun a ha b hb e => (hother b hb).2 (by rw [← e]; exact List.mem_cons_of_mem _ ha)⟩
    have := pigeon _ (z :: rnm rs.reverse) ndA fun x hx => by
      rcases List.mem_append.mp hx with q | q
      · exact mem_names.mpr (hs x (List.mem_cons_of_mem _ q))
      · exact mem_names.mpr (hother x q).1
    rw [hnl, List.length_append] at this
    unfold straightP
    rw [List.length_append, List.length_reverse, List.length_reverse, List.length_map, List.length_map]
    omega
  refine ⟨⟨hs, nd, by rw [List.length_cons]; omega, gS, by omega, fun n hn => ?_, small_of g (by omega) (B := 30) (by decide) (fun r hr => (h.sk.ab r hr).2.2.1) (fun r hr => (h.sk.ab r hr).2.2.2), small_of gS len (B := 330) (by decide) (fun r hr => (rows r hr).2.1) (fun r hr => (rows r hr).2.2)⟩, fun r hr => (rows r hr).1, len⟩
  by_cases q : n ∈ p0 :: pt
  · rcases List.mem_cons.mp q with w | w
    · rw [w]; exact List.mem_cons_self ..
    · refine List.mem_cons_of_mem _ (List.mem_map.mpr ⟨stA (hungP rs p0) p0 n, List.mem_append_right _ (List.mem_reverse.mpr (List.mem_map.mpr ⟨n, w, rfl⟩)), rfl⟩)
  · refine List.mem_cons_of_mem _ (List.mem_map.mpr ⟨stB (hungP rs p0) (p0 :: pt) p0 n, List.mem_append_left _ (List.mem_reverse.mpr (List.mem_map.mpr ⟨n, List.mem_filter.mpr ⟨mem_names.mpr hn, decide_eq_true q⟩, rfl⟩)), rfl⟩)
end
end Fw
set_option Elab.async false
set_option linter.all false
set_option maxRecDepth 100000
set_option maxHeartbeats 4000000
namespace Fw
open PySem PySem.Spec PyProof.Rows L2
open C8 (Cal CalAt Met Mak pe_c pe_mk pe_mt pe_mt0 pe_gc InsC call_isC)

section
variable {P : Program} {w : World} {K : PySem.W.Frag} {mg : Str → Option Value} {base : Heap}

theorem WOk.hung {z y : Str} {rs : List Row} (g : Good z rs) (hy : y ∈ z :: rnm rs) {wt : Want} (h : WOk z rs wt) : WOk y (hungP rs y) wt := ⟨(hung_mem g hy _).mpr h.m1, (hung_mem g hy _).mpr h.m2, h.md, h.ab⟩
/-- a comprehension over a tuple, one name -/
theorem tlc_psT {α : Type} {F : α → V → Prop} {ws : List α} {xs : List V} {f : α → Bool} {El : α → V → Hp → Prop} (mono : ∀ b v H H', Kp H H' → El b v H → El b v H') (pw : Paired F ws xs) {j : Nat} {tl te : TE} {tt : TT} {σ : L2.St} {H : Hp} {Q : VK} (hj : j < σ.length) (hb : ws.length ≤ 100000)
    (htl : ∀ Q : VK, (∀ a H1, Same H H1 → SqT K H1 a xs → Q (.ref a) H1) → tl σ H Q)
    (hs : ∀ x b (σ2 : L2.St) H2 (Kt : V → Hp → Prop) (Kf : Hp → Prop), F b x → b ∈ ws → Same H H2 → (∀ i, i ≠ j → σ2[i]? = (σ.set j none)[i]?) → σ2[j]? = some (some x) → (f b = true → ∀ y H5, Same H2 H5 → El b y H5 → Kt y H5) → (f b = false → ∀ H4, Same H2 H4 → Kf H4) →
      tt σ2 H2 fun c H4 => if c = true then te σ2 H4 Kt else Kf H4)
    (hd : ∀ D H' vs, H D = none → Same H H' → H' D = some (.lst vs) → Paired (fun b v => El b v H') (ws.filter f) vs → Q (.ref D) H') : tLc (iTup K tl) (gName j) tt te [j] σ H Q := by
  obtain ⟨⟨z1, z2⟩, z3⟩ := p_zip pw
  have hzl : (xs.zip ws).length ≤ 100000 := by
    have e : ((xs.zip ws).map (·.2)).length = ws.length := by rw [z2]
    rw [List.length_map] at e
    omega
  refine htl _ fun a H1 s1 hS => ⟨a, rfl, ⟨_, hS⟩, fun D hD => ?_⟩
  refine lcE_tup (ps := xs.zip ws) (f := f) (El := El) mono hD (by rw [z1]; exact hS) hzl ?_ ?_
  · intro i x b H2 Kt Kf hp s2 kt kf
    obtain ⟨hF, hm⟩ := z3 x b (List.mem_of_getElem? hp)
    refine ⟨by show (((σ.set j none).set j _).set j none) = σ.set j none; simp, ?_⟩
    refine hs x b _ _ Kt Kf hF hm (s1.trans s2) (fun i hi => ?_) ?_ kt kf
    · show ((σ.set j none).set j _)[i]? = _
      rw [List.getElem?_set_ne hi.symm]
    · show ((σ.set j none).set j _)[j]? = _
      rw [List.getElem?_set_self (by rw [List.length_set]; exact hj)]
  · intro H' vs s hv p
    rw [z2] at p
    exact hd D H' vs (s1.free hD) (s1.trans s) hv p
theorem p_nats {ks : List Nat} {vs : List V} (h : Paired (fun (k : Nat) v => v = V.int (k : Int)) ks vs) : vs = (ks.map fun (k : Nat) => (k : Int)).map V.int := by
  induction h with
  | nil => rfl
  | cons h t ih => rw [h, ih]; rfl
theorem way_of {x : Str} (h : x ∈ [("parts" : Str), "inches", "halves", "words"]) : ∃ y : Way, x = y.s := by
  rcases List.mem_cons.mp h with e | e
  · exact ⟨.parts, e⟩
  rcases List.mem_cons.mp e with e | e
  · exact ⟨.inches, e⟩
  rcases List.mem_cons.mp e with e | e
  · exact ⟨.halves, e⟩
  exact ⟨.words, List.mem_singleton.mp e⟩
def widD (ws : List (Str × Str × Int)) : PySem.W.Tup (PySem.W.T3 Str Str Int) := ⟨ws.map fun p => ⟨p.1, p.2.1, p.2.2⟩⟩
theorem dpAll_wids {H : Hp} {ws : List (Str × Str × Int)} {vs : List V} (h : Paired (WidAt H) ws vs) : DpAll K H vs ((ws.map fun p => (⟨p.1, p.2.1, p.2.2⟩ : PySem.W.T3 Str Str Int)).map PySem.W.Datum.toD) := by
  induction h with
  | nil => exact .nil
  | cons h t ih =>
    obtain ⟨q, rfl, hq⟩ := h
    exact .cons (.tup (SqT.of hq) (.cons (.str _) (.cons (.str _) (.cons (.int _) .nil)))) ih
theorem dp_wids {H : Hp} {v : Addr} {ws : List (Str × Str × Int)} (h : WidsAt H v ws) : Dp K H (.ref v) (PySem.W.Datum.toD (widD ws)) := by
  obtain ⟨vs, h1, h2⟩ := h
  exact .tup (SqT.of h1) (dpAll_wids h2)
theorem s_law_right : FnScope ["_law_purse_here", "_law_way", "_law_sketch_here", "_law_wants_here", "_law_picked", "_law_found", "_law_drawing", "_law_some", "_law_turned_here", "_law_again", "_law_told", "_law_later", "_law_straightened", "_law_first", "_law_second", "_law_row"] ["_law_purse_here"] d_law_right.scope := ⟨rfl, rfl, rfl, by decide +kernel, rfl, by decide +kernel, by decide +kernel⟩
theorem c_law_right (T : Txt w K mg) : Cal P w K mg base 21 "_law_right" (fun vs H Q _ => ∃ (p : Addr), vs = [.ref p] ∧ PurseAt H p ∧ ∀ H', Bt p H H' → Q (.bl true) H') [] := by
  refine T.cal 106 94 (d := d_law_right) (S := s_law_right) (hb := fun _ _ _ _ _ _ us hl => match us, hl with | [_], _ => rfl) (len := fun vs H Q E h => ?_) (hbody := fun cdv A outer s H vs Q E hr h => ?_)
  · obtain ⟨p, rfl, hp, k⟩ := h
    rfl
  · obtain ⟨p, rfl, hp, k⟩ := h
    refine ⟨_, (pss_cons (ps_set (i := 1) s_law_right.nd rfl (Or.inl rfl) (pe_ix (ix_listK (K := K) rfl) (pe_lst (pa_cons pe_str (pa_cons pe_str (pa_cons pe_str (pa_cons pe_str pa_nil))))) (pe_c (c_law_take T) hr (by decide) rfl (pa_cons (pv 0) (pa_cons pe_int pa_nil))) (fun _ _ => rfl)))
      (pss_cons (ps_set (i := 2) s_law_right.nd rfl (Or.inl rfl) (pe_c (c_law_near_sketch T) hr (by decide) rfl (pa_cons (pv 0) pa_nil)))
      (pss_cons (ps_par (i := 3) (j := 4) (by rfl) s_law_right.nd rfl rfl (by decide) rfl rfl (pa_cons (pe_c (c_law_wants T) hr (by decide) rfl (pa_cons (pv 0) (pa_cons (pv 2) (pa_cons (pe_c (c_law_take T) hr (by decide) rfl (pa_cons (pv 0) (pa_cons pe_int pa_nil))) pa_nil)))) (pa_cons (pe_c (c_law_zeros T) hr (by decide) rfl (pa_cons (pv 0) (pa_cons (pv 2) pa_nil))) pa_nil)) (by rfl))
      (pss_cons (ps_set (i := 5) s_law_right.nd rfl (Or.inl rfl) (pe_c (c_law_there_and_back T) hr (by decide) rfl (pa_cons (pv 2) (pa_cons (pv 3) (pa_cons (pv 1) pa_nil)))))
      (pss_cons (ps_if (pt_cmpR op_isN (pv 5) pe_non (nomark _)) (pss_one (ps_ret pe_bl)) pss_nil)
      (pss_cons (ps_par (i := 6) (j := 7) (by rfl) s_law_right.nd rfl rfl (by decide) rfl rfl (pa_cons (pe_c (c_law_made T) hr (by decide) rfl (pa_cons (pv 2) pa_nil)) (pa_cons (pe_c (c_law_wants_made T) hr (by decide) rfl (pa_cons (pv 3) pa_nil)) pa_nil)) (by rfl))
      (pss_cons (ps_set (i := 8) s_law_right.nd rfl (Or.inl rfl) (pe_c (c_hung T) hr (by decide) rfl (pa_cons (pe_ix (ix_tupK (K := K) rfl) (pv 5) pe_int (fun _ _ => rfl)) (pa_cons (pe_ix (ix_listK (K := K) rfl) (pv 4) pe_int (fun _ _ => rfl)) pa_nil))))
      (pss_cons (ps_if (pt_cmpR op_ne (pe_c (c_show_drawing T) hr (by decide) rfl (pa_cons (pv 8) (pa_cons (pv 7) (pa_cons (pv 1) pa_nil)))) (pe_c (c_law_lines T) hr (by decide) rfl (pa_cons (pe_c (c_law_hung T) hr (by decide) rfl (pa_cons (pv 2) (pa_cons (pe_ix (ix_listK (K := K) rfl) (pv 4) pe_int (fun _ _ => rfl)) pa_nil))) (pa_cons (pv 3) (pa_cons (pv 1) pa_nil)))) (nomark _)) (pss_one (ps_ret pe_bl)) pss_nil)
      (pss_cons (ps_set (i := 9) s_law_right.nd rfl (Or.inl rfl) (pe_c (c_law_there_and_back T) hr (by decide) rfl (pa_cons (pe_c (c_law_hung T) hr (by decide) rfl (pa_cons (pv 2) (pa_cons (pe_ix (ix_listK (K := K) rfl) (pv 4) pe_int (fun _ _ => rfl)) pa_nil))) (pa_cons (pv 3) (pa_cons (pv 1) pa_nil)))))
      (pss_cons (ps_if (PW.pt (pw_or (pt_cmpR op_isN (pv 9) pe_non (nomark _)) (pw_or (pt_cmpR (op_neDraw rfl T (hr.mono (by decide))) (pv 8) (pe_c (c_hung T) hr (by decide) rfl (pa_cons (pv 6) (pa_cons (pe_ix (ix_listK (K := K) rfl) (pv 4) pe_int (fun _ _ => rfl)) pa_nil))) (nomark _)) (pw_or1 (pt_cmpR (op_neDraw rfl T (hr.mono (by decide))) (pe_ix (ix_tupK (K := K) rfl) (pv 9) pe_int (fun _ _ => rfl)) (pv 8) (nomark _)))))) (pss_one (ps_ret pe_bl)) pss_nil)
      (C8.pss_cut (ps_if (pt_cmpR (op_neDraw rfl T (hr.mono (by decide))) (pe_c (c_hung T) hr (by decide) rfl (pa_cons (pe_ix (ix_tupK (K := K) rfl) (pv 9) pe_int (fun _ _ => rfl)) (pa_cons (pe_ix (ix_listK (K := K) rfl) (pv 2) pe_int (fun _ _ => rfl)) pa_nil))) (pv 6) (nomark _)) (pss_one (ps_ret pe_bl)) pss_nil)
      (pss_cons (ps_par (i := 10) (j := 11) (by rfl) s_law_right.nd rfl rfl (by decide) rfl rfl (pa_cons (pe_c (c_straight T) hr (by decide) rfl (pa_cons (pv 6) (pa_cons (pv 4) pa_nil))) (pa_cons (pe_c (c_straight T) hr (by decide) rfl (pa_cons (pe_ix (ix_tupK (K := K) rfl) (pv 5) pe_int (fun _ _ => rfl)) (pa_cons (pv 4) pa_nil))) pa_nil)) (by rfl))
      (pss_cons (ps_set (i := 12) s_law_right.nd rfl (Or.inl rfl) (pe_c (c_law_there_and_back T) hr (by decide) rfl (pa_cons (pe_c (c_law_straight T) hr (by decide) rfl (pa_cons (pv 2) (pa_cons (pv 4) pa_nil))) (pa_cons (pe_lst pa_nil) (pa_cons (pv 1) pa_nil)))))
      (C8.pss_cut (ps_if (PW.pt (pw_or (pt_cmpR op_isN (pv 12) pe_non (nomark _)) (pw_or (pt_cmpR (op_neDraw rfl T (hr.mono (by decide))) (pe_ix (ix_tupK (K := K) rfl) (pv 10) pe_int (fun _ _ => rfl)) (pe_ix (ix_tupK (K := K) rfl) (pv 11) pe_int (fun _ _ => rfl)) (nomark _)) (pw_or (pt_cmpR (op_neT (α := PySem.W.Tup (PySem.W.T3 Str Str Int)) hr.units (by decide)) (pe_ix (ix_tupK (K := K) rfl) (pv 10) pe_int (fun _ _ => rfl)) (pe_ix (ix_tupK (K := K) rfl) (pv 11) pe_int (fun _ _ => rfl)) (nomark _)) (pw_or1 (pt_cmpR (op_neDraw rfl T (hr.mono (by decide))) (pe_ix (ix_tupK (K := K) rfl) (pv 12) pe_int (fun _ _ => rfl)) (pe_ix (ix_tupK (K := K) rfl) (pv 10) pe_int (fun _ _ => rfl)) (nomark _))))))) (pss_one (ps_ret pe_bl)) pss_nil)
      (pss_cons (ps_par (i := 13) (j := 14) (by rfl) s_law_right.nd rfl rfl (by decide) rfl rfl (pa_cons (pe_c (c_unsure T) hr (by decide) rfl (pa_cons (pv 6) (pa_cons (pv 7) (pa_cons (pv 4) pa_nil)))) (pa_cons (pe_c (c_unsure T) hr (by decide) rfl (pa_cons (pe_ix (ix_tupK (K := K) rfl) (pv 5) pe_int (fun _ _ => rfl)) (pa_cons (pe_ix (ix_tupK (K := K) rfl) (pv 5) pe_int (fun _ _ => rfl)) (pa_cons (pv 4) pa_nil)))) pa_nil)) (by rfl))
      (pss_one (ps_ret (pe_cmpR (op_eqT (α := List Int) hr.units (by decide)) (pe_lc (own := [("_law_row", 15)]) (g := (gName 15)) rfl s_law_right.nd (pi_tup (pv 13)) (blkOk_by (N := ["_law_purse_here", "_law_way", "_law_sketch_here", "_law_wants_here", "_law_picked", "_law_found", "_law_drawing", "_law_some", "_law_turned_here", "_law_again", "_law_told", "_law_later", "_law_straightened", "_law_first", "_law_second", "_law_row"]) (sc := d_law_right.scope) (own := [("_law_row", 15)]) (by decide +kernel)) (fun _ _ _ _ _ => (pg_name (i := 15) s_law_right.nd rfl (Or.inl rfl))) (fun _ _ _ _ _ => pts_nil) (fun _ _ _ _ _ => (pe_ix (ix_tupK (K := K) rfl) (pv 15) pe_int (fun _ _ => rfl)))) (pe_lc (own := [("_law_row", 15)]) (g := (gName 15)) rfl s_law_right.nd (pi_tup (pv 14)) (blkOk_by (N := ["_law_purse_here", "_law_way", "_law_sketch_here", "_law_wants_here", "_law_picked", "_law_found", "_law_drawing", "_law_some", "_law_turned_here", "_law_again", "_law_told", "_law_later", "_law_straightened", "_law_first", "_law_second", "_law_row"]) (sc := d_law_right.scope) (own := [("_law_row", 15)]) (by decide +kernel)) (fun _ _ _ _ _ => (pg_name (i := 15) s_law_right.nd rfl (Or.inl rfl))) (fun _ _ _ _ _ => pts_nil) (fun _ _ _ _ _ => (pe_ix (ix_tupK (K := K) rfl) (pv 15) pe_int (fun _ _ => rfl)))) (nomark _))))))))))))))))))), ?_⟩
    refine ⟨sz4, fun wl hwl => ?_⟩
    have s1 := same_new (o := .lst [.str "parts", .str "inches", .str "halves", .str "words"]) hwl
    have hwp := hp.nn hwl
    refine ⟨_, rfl, p, 4, rfl, by decide, by decide, hp.ext s1, fun t0 H1 t00 t01 b1 hp1 => ?_⟩
    obtain ⟨x, hx, hat⟩ := at_strs (xs := [("parts" : Str), "inches", "halves", "words"]) t00 t01
    obtain ⟨y, rfl⟩ := way_of hx
    refine ⟨wl, _, _, _, rfl, rfl, SqL.of (b1 _ _ hwp upd_same), hat, ?_⟩
    have b01 : Bt p H H1 := (Bt.of s1).trans b1
    refine ⟨_, rfl, p, rfl, hp1, fun l z rs H2 hl b2 hp2 hS2 hO hN => ?_⟩
    have hNO : NearOk z rs := ⟨hO, hN⟩
    have good := hO.good
    have few := hO.few
    have apb := near_ap hNO
    have pmd := near_pmd hNO
    refine ⟨_, rfl, _, rfl, _, rfl, p, 7, rfl, by decide, by decide, hp2, fun tm H3 tm0 tm1 b3 hp3 => ?_⟩
    refine ⟨p, l, z, rs, tm, rfl, hp3, hS2.bt hp2 b3, good, by omega, apb, tm0, by omega, fun lw wts H4 hlw b4 hp4 hW4 hWo hwl6 => ?_⟩
    have b24 := b3.trans b4
    have hS4 := hS2.bt hp2 b24
    refine ⟨_, rfl, _, rfl, p, l, z, rs, rfl, hp4, hS4, good, few, fun f p0 pt H5 hf b5 hp5 hP nd sub ptl => ⟨_, _, rfl, ?_⟩⟩
    have hS := hS4.bt hp4 b5
    have hW := hW4.bt hp4 b5
    have bB : Bt p H H5 := b01.trans (b2.trans (b24.trans b5))
    clear hS4 hW4 hS2 b24 b3 b4 b5 b2 b01 b1
    have m0 := sub p0 (List.mem_cons_self ..)
    have gH := good_hung good m0
    have hpmd := near_hpmd hNO m0
    have hHl := hung_len good m0
    have hmemH := hung_mem good m0
    obtain ⟨strO, spmd, slen⟩ := near_str hNO sub nd ptl
    obtain ⟨hbl, hbk⟩ := hung_back good m0
    have tb1 : TbOk y z rs wts := tb_ok good (by omega) (by omega) pmd hWo
    have tb2 : TbOk y p0 (hungP rs p0) wts := tb_ok gH (by omega) (by omega) hpmd fun wt h => (hWo wt h).hung good m0
    have tb3 : TbOk y p0 (straightP z rs p0 pt) [] := tb_ok strO.good slen (by decide) spmd fun wt h => by cases h
    have hin : WtsIn z rs wts := fun wt h => ⟨(hWo wt h).m1, (hWo wt h).m2⟩
    have hinH : WtsIn p0 (hungP rs p0) wts := fun wt h => ⟨(hmemH _).mpr (hWo wt h).m1, (hmemH _).mpr (hWo wt h).m2⟩
    have wmd : ∀ wt ∈ wts, Pmd wt.2.2 := fun wt h => (hWo wt h).md
    have wab : ∀ wt ∈ wts, 0 ≤ wt.2.2.2.1 + wt.2.2.2.2 := fun wt h => (hWo wt h).ab
    refine ⟨_, rfl, _, rfl, _, rfl, l, lw, y, z, rs, wts, rfl, hS, hW, tb1, fun t a d w vs H6 ht ha hd s6 h6 h6w p6 hD6 => ?_⟩
    have hD6 : DrawAt K H6 a d z rs := hD6
    have p6 : Paired (WantAt K H6) wts vs := p6
    refine ⟨_, rfl, rfl, _, rfl, ?_⟩
    rw [decide_eq_false (fun h => by cases h)]
    refine iteF ?_
    refine ⟨_, rfl, l, z, rs, rfl, hS.ext s6, good, by omega, fun da dd H7 hda hdd s7 hD7 => ?_⟩
    have hD7 : DrawAt K H7 da dd z rs := hD7
    have s67 := s6.trans s7
    refine ⟨_, rfl, lw, wts, rfl, hW.ext s67, by omega, wab, fun sw xs H8 hsw s8 h8 p8 => ⟨_, _, rfl, ?_⟩⟩
    have p8 : Paired (WantAt K H8) wts xs := p8
    have s58 := s67.trans s8
    have s68 := s7.trans s8
    have hD68 := hD6.ext s68
    have hD78 := hD7.ext s8
    refine ⟨_, rfl, t, _, _, _, rfl, rfl, SqT.of (s68 _ _ h6), atI_nat (j := 0) rfl, _, rfl, f, _, _, _, rfl, rfl, SqL.of (s58 _ _ hP), at_words (ws := p0 :: pt) (i := 0) rfl, a, d, z, rs, p0, rfl, hD68, m0, fun ta td H9 hta htd s9 hD9 => ?_⟩
    have hD9 : DrawAt K H9 ta td p0 (hungP rs p0) := hD9
    have s59 := s58.trans s9
    refine ⟨_, rfl, _, rfl, _, rfl, ta, td, sw, p0, hungP rs p0, wts, xs, y, rfl, hD9, s9 _ _ h8, p_imp p8 fun _ _ h => h.kp (Kp.of s9), hinH, hpmd, wmd, by omega, by omega, fun H10 s10 => ?_⟩
    have s510 := s59.trans s10
    refine ⟨_, rfl, _, rfl, f, _, _, _, rfl, rfl, SqL.of (s510 _ _ hP), at_words (ws := p0 :: pt) (i := 0) rfl, l, z, p0, rs, rfl, hS.ext s510, good, by omega, m0, fun l3 H11 hl3 s11 hS11 => ?_⟩
    have s511 := s510.trans s11
    refine ⟨_, rfl, _, rfl, l3, lw, y, p0, hungP rs p0, wts, rfl, hS11, hW.ext s511, gH, hinH, hpmd, wmd, by omega, by omega, fun H12 s12 => ⟨rfl, _, rfl, ?_⟩⟩
    rw [decide_eq_true rfl]
    refine iteF ?_
    have s512 := s511.trans s12
    have s912 := s10.trans (s11.trans s12)
    have hD912 := hD9.ext s912
    refine ⟨_, rfl, _, rfl, f, _, _, _, rfl, rfl, SqL.of (s512 _ _ hP), at_words (ws := p0 :: pt) (i := 0) rfl, l, z, p0, rs, rfl, hS.ext s512, good, by omega, m0, fun l5 H13 hl5 s13 hS13 => ?_⟩
    have s513 := s512.trans s13
    refine ⟨_, rfl, _, rfl, l5, lw, y, p0, hungP rs p0, wts, rfl, hS13, hW.ext s513, tb2, fun t2 a2 d2 w2 vs2 H14 ht2 ha2 hd2 s14 h14 h14w p14 hD14 => ?_⟩
    have hD14 : DrawAt K H14 a2 d2 p0 (hungP rs p0) := hD14
    have s514 := s513.trans s14
    have s914 := s912.trans (s13.trans s14)
    have s814 := s9.trans s914
    have hT14 := hD9.ext s914
    have hne1 : d2 ≠ td := (hD912.ext s13).ne (H' := H13) hd2
    refine ⟨_, rfl, rfl, _, rfl, ?_⟩
    rw [decide_eq_false (fun h => by cases h)]
    refine iteF ?_
    refine ⟨_, rfl, _, rfl, _, rfl, f, _, _, _, rfl, rfl, SqL.of (s514 _ _ hP), at_words (ws := p0 :: pt) (i := 0) rfl, da, dd, z, rs, p0, rfl, hD78.ext s814, m0, fun tb tdb H15 htb htdb s15 hD15 => ?_⟩
    have hD15 : DrawAt K H15 tb tdb p0 (hungP rs p0) := hD15
    have hne2 : tdb ≠ td := hT14.ne (H' := H14) htdb
    refine ⟨neD_same (hT14.ext s15) hD15 hne2.symm, fun H16 s16 => ⟨_, rfl, ?_⟩⟩
    refine iteF ?_
    have s1416 := s15.trans s16
    refine ⟨_, rfl, t2, _, _, _, rfl, rfl, SqT.of (s1416 _ _ h14), atI_nat (j := 0) rfl, _, rfl, neD_same (hD14.ext s1416) (hT14.ext s1416) hne1, fun H17 s17 => ⟨_, rfl, ?_⟩⟩
    refine iteF ?_
    have s1417 := s1416.trans s17
    have s517 := s514.trans s1417
    have zin : z ∈ p0 :: rnm (hungP rs p0) := (hmemH z).mpr (List.mem_cons_self ..)
    obtain ⟨l2', hl2', hRl2⟩ := id hS
    refine ⟨fun σ' H' => σ' = [some (.ref p), some (.str y.s), some (.ref l), some (.ref lw), some (.ref f), some (.ref t), some (.ref da), some (.ref sw), some (.ref ta), some (.ref t2), none, none, none, none, none, none] ∧ Same H17 H', ?_, ?_⟩
    · refine ⟨_, rfl, t2, _, _, _, rfl, rfl, SqT.of (s1417 _ _ h14), atI_nat (j := 0) rfl, _, rfl, l, _, _, _, rfl, rfl, SqL.of (s517 _ _ hl2'), atI_nat (j := 0) rfl, a2, d2, p0, hungP rs p0, z, rfl, hD14.ext s1417, zin, fun th tdh H18 hth htdh s18 hD18 => ?_⟩
      have hD18 : DrawAt K H18 th tdh z (hungP (hungP rs p0) z) := hD18
      have s817 := s814.trans s1417
      have hne3 : tdh ≠ dd := (hD78.ext s817).ne (H' := H17) htdh
      refine ⟨_, rfl, neD_map hD18 (hD78.ext (s817.trans s18)) hne3 hbl fun n s p h => ⟨p, hbk n s p h, rfl, rfl⟩, fun H19 s19 => ⟨_, rfl, ?_⟩⟩
      refine iteF ?_
      exact ⟨rfl, s18.trans s19⟩
    rintro _ H19 ⟨rfl, s1719⟩
    have s817 := s814.trans s1417
    have s519 := s517.trans s1719
    have s819 := s817.trans s1719
    have s619 := s68.trans s819
    refine ⟨_, rfl, _, rfl, da, dd, f, z, rs, p0, pt, rfl, hD78.ext s819, s519 _ _ hP, strO, fun q1 e1 f1 v1 H20 hq1 he1 hf1 s20 h20 hD20 hw20 => ?_⟩
    have hD20 : DrawAt K H20 e1 f1 p0 (straightP z rs p0 pt) := hD20
    refine ⟨_, rfl, t, _, _, _, rfl, rfl, SqT.of ((s619.trans s20) _ _ h6), atI_nat (j := 0) rfl, _, rfl, a, d, f, z, rs, p0, pt, rfl, hD6.ext (s619.trans s20), (s519.trans s20) _ _ hP, strO, fun q2 e2 f2 v2 H21 hq2 he2 hf2 s21 h21 hD21 hw21 => ⟨_, _, rfl, ?_⟩⟩
    have hD21 : DrawAt K H21 e2 f2 p0 (straightP z rs p0 pt) := hD21
    have hne4 : f2 ≠ f1 := hD20.ne (H' := H20) hf2
    have s521 := s519.trans (s20.trans s21)
    have s621 := s619.trans (s20.trans s21)
    have s821 := s819.trans (s20.trans s21)
    refine ⟨_, rfl, _, rfl, l, f, z, rs, p0, pt, rfl, hS.ext s521, good, by omega, s521 _ _ hP, by omega, sub, fun l7 H22 hl7 s22 hS22 => ⟨Nat.zero_le _, fun em hem => ?_⟩⟩
    have s23 := same_new (o := .lst []) hem
    refine ⟨_, rfl, l7, em, y, p0, straightP z rs p0 pt, [], rfl, hS22.ext s23, ⟨[], upd_same, .nil⟩, tb3, fun t3 a3 d3 w3 vs3 H24 ht3 ha3 hd3 s24 h24 h24w p24 hD24 => ?_⟩
    have hD24 : DrawAt K H24 a3 d3 p0 (straightP z rs p0 pt) := hD24
    have s2224 := s22.trans (s23.trans s24)
    have hD2123 := (hD20.ext s21).ext (s22.trans s23)
    have hne5 : d3 ≠ f1 := hD2123.ne (H' := H22) hd3
    refine ⟨fun σ' H' => σ' = [some (.ref p), some (.str y.s), some (.ref l), some (.ref lw), some (.ref f), some (.ref t), some (.ref da), some (.ref sw), some (.ref ta), some (.ref t2), some (.ref q1), some (.ref q2), some (.ref t3), none, none, none] ∧ Same H21 H', ?_, ?_⟩
    · refine ⟨_, rfl, rfl, _, rfl, ?_⟩
      rw [decide_eq_false (fun h => by cases h)]
      refine iteF ?_
      have h20b := (s21.trans s2224) _ _ h20
      have h21b := s2224 _ _ h21
      refine ⟨_, rfl, q1, _, _, _, rfl, rfl, SqT.of h20b, atI_nat (j := 0) rfl, _, rfl, q2, _, _, _, rfl, rfl, SqT.of h21b, atI_nat (j := 0) rfl, neD_same (hD20.ext (s21.trans s2224)) (hD21.ext s2224) hne4.symm, fun H25 s25 => ⟨_, rfl, ?_⟩⟩
      refine iteF ?_
      have s2225 := s2224.trans s25
      refine ⟨_, rfl, q1, _, _, _, rfl, rfl, SqT.of (s25 _ _ h20b), atI_nat (j := 1) rfl, _, rfl, q2, _, _, _, rfl, rfl, SqT.of (s25 _ _ h21b), atI_nat (j := 1) rfl, widD (widerP z rs (straightP z rs p0 pt)), widD (widerP z rs (straightP z rs p0 pt)), dp_wids (hw20.ext (s21.trans s2225)), dp_wids (hw21.ext s2225), ?_⟩
      rw [decide_eq_true rfl]
      refine ⟨_, rfl, ?_⟩
      refine iteF ?_
      refine ⟨_, rfl, t3, _, _, _, rfl, rfl, SqT.of (s25 _ _ h24), atI_nat (j := 0) rfl, _, rfl, q1, _, _, _, rfl, rfl, SqT.of (s25 _ _ h20b), atI_nat (j := 0) rfl, neD_same (hD24.ext s25) (hD20.ext (s21.trans s2225)) hne5, fun H26 s26 => ⟨_, rfl, ?_⟩⟩
      refine iteF ?_
      exact ⟨rfl, s2225.trans s26⟩
    rintro _ H26 ⟨rfl, s2226⟩
    have s526 := s521.trans s2226
    have s626 := s621.trans s2226
    have s826 := s821.trans s2226
    have hwl2 : wts.length ≤ 1000 := by omega
    refine ⟨_, rfl, _, rfl, _, rfl, da, dd, sw, f, z, rs, wts, p0, pt, rfl, hD78.ext s826, ⟨xs, .inl (s826 _ _ h8), p_imp p8 fun _ _ h => h.kp (Kp.of s826)⟩, hin, hwl2, s526 _ _ hP, strO, fun u1 us1 H27 hu1 s27 h27 p27 => ?_⟩
    have s527 := s526.trans s27
    have s627 := s626.trans s27
    refine ⟨_, rfl, t, _, _, _, rfl, rfl, SqT.of (s627 _ _ h6), atI_nat (j := 0) rfl, _, rfl, t, _, _, _, rfl, rfl, SqT.of (s627 _ _ h6), atI_nat (j := 1) rfl, _, rfl, a, d, w, f, z, rs, wts, p0, pt, rfl, hD6.ext s627, ⟨vs, .inr (s627 _ _ h6w), p_imp p6 fun _ _ h => h.kp (Kp.of s627)⟩, hin, hwl2, s527 _ _ hP, strO, fun u2 us2 H28 hu2 s28 h28 p28 => ⟨_, _, rfl, ?_⟩⟩
    have hul : (unsureP rs (straightP z rs p0 pt) wts).length ≤ 100000 := by
      unfold unsureP
      have := List.length_filter_le (unsB rs (straightP z rs p0 pt) wts) (List.range wts.length)
      rw [List.length_range] at this
      omega
    have h27b := s28 _ _ h27
    have p27b := p_imp p27 fun _ _ h => UnsAt.kp h (Kp.of s28)
    generalize unsureP rs (straightP z rs p0 pt) wts = ks at *
    unfold tRet tOp
    dsimp only
    refine tlc_psT (F := UnsAt H28) (f := fun _ => true) (El := fun (k : Nat) v _ => v = .int (k : Int)) (fun _ _ _ _ _ h => h) p27b (j := 15) ?_ hul ?_ ?_ fun D1 H29 vs29 hD29 s29 h29 p29 => ?_
    · show 15 < 16
      decide
    · exact fun Q q => ⟨_, rfl, q u1 _ (Same.refl _) (SqT.of h27b)⟩
    · intro x k σ2 H30 Kt Kf hF hk s30 e1 e2 kt kf
      obtain ⟨q, x1, rfl, hq⟩ := hF
      refine iteT (B := Kf H30) ?_
      exact ⟨_, e2, q, _, _, _, rfl, rfl, SqT.of (s30 _ _ hq), atI_nat (j := 0) rfl, kt rfl _ _ (Same.refl _) rfl⟩
    rw [filter_all] at p29
    have ev := p_nats p29
    subst ev
    refine tlc_psT (F := UnsAt H28) (f := fun _ => true) (El := fun (k : Nat) v _ => v = .int (k : Int)) (fun _ _ _ _ _ h => h) p28 (j := 15) ?_ hul ?_ ?_ fun D2 H31 vs31 hD31 s31 h31 p31 => ?_
    · show 15 < 16
      decide
    · exact fun Q q => ⟨_, rfl, q u2 _ (Same.refl _) (SqT.of (s29 _ _ h28))⟩
    · intro x k σ2 H30 Kt Kf hF hk s30 e1 e2 kt kf
      obtain ⟨q, x1, rfl, hq⟩ := hF
      refine iteT (B := Kf H30) ?_
      exact ⟨_, e2, q, _, _, _, rfl, rfl, SqT.of ((s29.trans s30) _ _ hq), atI_nat (j := 0) rfl, kt rfl _ _ (Same.refl _) rfl⟩
    rw [filter_all] at p31
    have ev := p_nats p31
    subst ev
    refine ⟨_, _, dp_ints (SqL.of (s31 _ _ h29)), dp_ints (SqL.of h31), ?_⟩
    rw [decide_eq_true rfl]
    exact k _ (bB.trans (Bt.of (s527.trans (s28.trans (s29.trans s31)))))
end
end Fw
set_option Elab.async false
set_option linter.all false
set_option maxRecDepth 100000
set_option maxHeartbeats 4000000
namespace Fw
open PySem PySem.Spec PyProof.Rows L2
open C8 (Cal CalAt Met Mak pe_c pe_mk pe_mt pe_mt0 pe_gc InsC call_isC)

section
variable {P : Program} {w : World} {K : PySem.W.Frag} {mg : Str → Option Value} {base : Heap}

theorem p_bls {ks : List Nat} {vs : List V} (h : Paired (fun (_ : Nat) v => v = V.bl true) ks vs) : vs = (ks.map fun _ => true).map V.bl := by
  induction h with
  | nil => rfl
  | cons h t ih => rw [h, ih]; rfl
def rngN (n : Nat) : Nat := max 1 (min n 3)
theorem rng_eq (n : Nat) : (if (1 : Int) < (if (3 : Int) < (n : Int) then 3 else (n : Int)) then (if (3 : Int) < (n : Int) then 3 else (n : Int)) else 1) = ((rngN n : Nat) : Int) := by
  unfold rngN
  by_cases h : (3 : Int) < (n : Int)
  · rw [if_pos h, if_pos (by decide)]
    omega
  · rw [if_neg h]
    by_cases h2 : (1 : Int) < (n : Int)
    · rw [if_pos h2]; omega
    · rw [if_neg h2]; omega
/-- the promise of a def at one function object, over every base -/
theorem Txt.calE (T : Txt w K mg) (i : Nat) {x p : Str} {d : He.DefD} {N : List Str} {k : Nat} {sp : Sp} (hd : fn[i]? = some d := by rfl) (hx : d.at_ = (x, none) := by rfl) (hn : d.dfl = [] := by rfl) (hk : d.kwd = [] := by rfl)
    (S : FnScope N [p] d.scope) (hb : ∀ (kV doc pm : Value) (an : Option Addr) (cdv ct : Value) (us : List Value), us.length = [p].length → bindArgs (PySem.W.fnOf d.name d.qual d.params d.body d.scope .none kV doc pm an cdv ct) ⟨us, []⟩ = pure ([p].zip us))
    (len : ∀ vs H Q E, sp vs H Q E → vs.length = [p].length)
    (hbody : ∀ (base : Heap) (cdv : Value) (A : Around) (outer : List Env) (s : Shared) (H : Hp) (vs : List V) (Q : VK) (E : XK), Room k (A.deeper (envOfC d.qual d.scope s.heap.objs.size (He.fAd K d.at_) cdv)) → sp vs H Q E →
      ∃ t, PSs (cxOf C8.CX0 P w K mg base N d.qual d.scope (He.fAd K d.at_) cdv A outer s H E).nox d.body t ∧ t { nx := fun _ H' => Q .non H', rt := Q } (start N vs) H) :
    ∃ fd : FuncData, (∀ (s : Shared) (v : Value), BindsTo s fd ⟨[v], []⟩ [(p, v)]) ∧ ∀ base : Heap, FnOk P w K mg base C8.CX0 (k + 1) (He.ga K x) fd [p] sp := by
  obtain ⟨fd, F⟩ := T.says.t.d.def_ i hd
  have e1 : d.dvs K = [] := by unfold He.DefD.dvs; rw [hn]; rfl
  have e2 : d.kws K = [] := by unfold He.DefD.kws; rw [hk]; rfl
  rw [e1, e2] at F
  have ea : He.fAd K d.at_ = He.ga K x := by rw [hx]; rfl
  have b := FunD.bindsA (ps := [p]) F hb
  refine ⟨fd, fun s v => b s [v] rfl, fun base => ?_⟩
  have G : FnOk P w K mg base C8.CX0 (k + 1) (He.fAd K d.at_) fd [p] sp := F.ok S len fun cdv A outer s H vs Q E hr h => by
    obtain ⟨t, p, q⟩ := hbody base cdv A outer s H vs Q E hr h
    exact ⟨t, p.nox, q⟩
  rw [ea] at G
  exact G
theorem s_law : FnScope ["_law_script", "_law_k"] ["_law_script"] d_law.scope := ⟨rfl, rfl, rfl, by decide +kernel, rfl, by decide +kernel, by decide +kernel⟩
theorem e_law (T : Txt w K mg) : ∃ fd : FuncData, (∀ (s : Shared) (v : Value), BindsTo s fd ⟨[v], []⟩ [("_law_script", v)]) ∧ ∀ base : Heap, FnOk P w K mg base C8.CX0 22 (He.ga K "law") fd ["_law_script"] (fun vs H Q _ => ∃ (l : Addr) (xs : List Int), vs = [.ref l] ∧ SqL K H l (xs.map V.int) ∧ ∀ H', Same H H' → Q (.bl true) H') := by
  refine T.calE 107 (d := d_law) (S := s_law) (hb := fun _ _ _ _ _ _ us hl => match us, hl with | [_], _ => rfl) (len := fun vs H Q E h => ?_) (hbody := fun base cdv A outer s H vs Q E hr h => ?_)
  · obtain ⟨l, xs, rfl, hS, k⟩ := h
    rfl
  · obtain ⟨l, xs, rfl, hS, k⟩ := h
    refine ⟨_, (pss_one (ps_ret (pe_callB (id := "all") (cr_all rfl) (by rfl) (T.f 97) (by decide +kernel) (pa_cons (pe_lc (own := [("_law_k", 1)]) (g := (gName 1)) rfl s_law.nd (pi_range1 (by rfl) (T.f 108) (pa_cons (pe_callB (id := "max") (call_max2 rfl) (by rfl) (T.f 106) (by decide +kernel) (pa_cons pe_int (pa_cons (pe_callB (id := "min") (call_min2 rfl) (by rfl) (T.f 107) (by decide +kernel) (pa_cons (pe_callB (id := "len") (call_len_seqK (K := K) rfl) (by rfl) (T.f 104) (by decide +kernel) (pa_cons (pv 0) pa_nil)) (pa_cons pe_int pa_nil))) pa_nil))) pa_nil)) (blkOk_by (N := ["_law_script", "_law_k"]) (sc := d_law.scope) (own := [("_law_k", 1)]) (by decide +kernel)) (fun _ _ _ _ _ => (pg_name (i := 1) s_law.nd rfl (Or.inl rfl))) (fun _ _ _ _ _ => pts_nil) (fun _ _ _ _ _ => (pe_c (c_law_right T) hr (by decide) rfl (pa_cons (pe_c (c_law_purse T) hr (by decide) rfl (pa_cons (pe_c (c_law_cell T) hr (by decide) rfl (pa_cons (pv 0) (pa_cons (pv 1) pa_nil))) pa_nil)) pa_nil)))) pa_nil)))), ?_⟩
    unfold tRet tCB tCons
    dsimp only
    have hn : rngN xs.length ≤ 3 := by unfold rngN; omega
    refine tlc_rg (n := rngN xs.length) (f := fun _ => true) (El := fun _ v _ => v = .bl true) (fun _ _ _ _ _ h => h) (j := 1) ?_ ?_ ?_ ?_ fun D H1 vs1 hD s1 h1 p1 => ?_
    · show 1 < 2
      decide
    · omega
    · intro Q q
      refine ⟨_, rfl, _, _, rfl, Or.inl hS, _, _, rfl, _, _, rfl, ?_⟩
      show Q [V.int (if (1 : Int) < (if (3 : Int) < ((xs.map V.int).length : Int) then 3 else ((xs.map V.int).length : Int)) then (if (3 : Int) < ((xs.map V.int).length : Int) then 3 else ((xs.map V.int).length : Int)) else 1)] H
      rw [List.length_map, rng_eq]
      exact q _ (Same.refl _)
    · intro k σ2 H2 Kt Kf hk s2 e1 e2 kt kf
      refine iteT (B := Kf H2) ?_
      refine ⟨_, (e1 0 (by decide)).trans rfl, _, e2, l, xs, k, rfl, Same.seq s2 hS, ?_, fun nn H3 s3 => ?_⟩
      · unfold rngN at hk
        cases xs with
        | nil => exact Or.inr rfl
        | cons a b => rw [List.length_cons] at hk ⊢; exact Or.inl (by omega)
      · refine ⟨nn, rfl, fun pp H4 hpp s4 hP => ⟨pp, rfl, hP, fun H5 b5 => ?_⟩⟩
        exact kt rfl _ _ (s3.trans (b5.same s4 hpp)) rfl
    · rw [filter_all] at p1
      have ev : vs1 = ((List.range (rngN xs.length)).map fun _ => true).map V.bl := p_bls p1
      subst ev
      refine ⟨D, (List.range (rngN xs.length)).map fun _ => true, rfl, SqL.of h1, ?_⟩
      have e : ((List.range (rngN xs.length)).map fun _ => true).all id = true := by
        rw [List.all_eq_true]
        intro x hx
        obtain ⟨_, _, rfl⟩ := List.mem_map.mp hx
        rfl
      rw [e]
      exact k _ s1
end
end Fw
set_option Elab.async false
set_option linter.all false
set_option maxRecDepth 100000
set_option maxHeartbeats 0
open PySem PySem.W PySem.Calls PyProof.Rows
theorem PySem.Challenge.cw_fitwords_k56_whole_one_road_of_a_drawing_holds : PySem.Challenge.rw_fitwords_k56_whole_one_road_of_a_drawing.Holds := by
  w_on; o_law
  refine HandSHeadRun.head_any (r := OpenLaw.row PySem.Challenge.rw_fitwords_k56_whole_one_road_of_a_drawing) (q := view (OpenLaw.row PySem.Challenge.rw_fitwords_k56_whole_one_road_of_a_drawing).prog [130]) (H := Fw.hk) (ob := Fw.ob) (M := 20000) (loose := Fw.nms) (d := HandSHeadRun.topDef (OpenLaw.row PySem.Challenge.rw_fitwords_k56_whole_one_road_of_a_drawing).prog 130) (kwd := []) Fw.ob_eq
    (by kernel_rfl) (fun s => by kernel_rfl) Fw.run (by kernel_rfl) (by kernel_rfl) (by kernel_rfl) (by rfl) (by first | assumption | decide +kernel) (by decide +kernel) Fw.top_bare ?hw ?hc
  case hw => w_witness2
  case hc =>
    refine L2.walk_ofE (l := PySem.Challenge.rw_fitwords_k56_whole_one_road_of_a_drawing) (n := 63) (k := 22) (x := "_law_script") (CX := C8.CX0) rfl (by decide) (by kernel_rfl) ⟨rfl, by decide, by decide⟩ ?F (fun _ _ _ _ z => z)
    intro w mg fa h Y G hmg0
    obtain ⟨K, KX, c⟩ := Y
    have hmg : mg ("law" : PySem.Str) = some (.ref fa) := by
      have e : (HandSHeadRun.topDef (OpenLaw.row PySem.Challenge.rw_fitwords_k56_whole_one_road_of_a_drawing).prog 130).name = ("law" : PySem.Str) := by kernel_rfl
      rw [← e]
      exact hmg0
    have T : Fw.Txt w K mg := ⟨⟨h, KX, G⟩, c⟩
    obtain ⟨fd, hb, hF⟩ := Fw.e_law (P := (PySem.Challenge.rw_fitwords_k56_whole_one_road_of_a_drawing).prog) T
    have e := hmg.symm.trans (T.g 95 (x := "law"))
    cases e
    exact ⟨K, fd, _, KX, hb, fun H a ns hl _ hS => ⟨a, ns, rfl, hS, fun _ _ => rfl⟩, fun base _ _ => hF base⟩
