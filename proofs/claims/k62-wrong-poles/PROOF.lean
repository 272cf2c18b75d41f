import PyProof.Rows.All
import Wide.All
import OpenK.AllK
import Wide.FinOn
import Lean
import HandS.ForMost
import HandS.ForExc
import HandS.Defaults
import HandS.Head0
import HandS.Head1
import HandS.Head2
import HandS.HeadEnd
import HandS.HeadHook4
import HandS.HeadWalk
import KE.KExcSuper
import HandS.ExcIs
import HandS.ExcField
import HandS.Nested
import HandS.Lambda
import HandS.Wide
import HandS.TupAny
import HandS.TupMul
import HandS.IsInst
import HandS.Style
import HandS.WideBits
import HandS.ExcCtx
import HandS.SuiteRaise
import HandS.Zip
import HandS.Iter
import HandS.CallLocal
import HandS.CallSlots
import HandS.ExcInit
import HandS.RaiseFrom
import HandS.Small
import HandS.TryMany
import KE.GoesMore
import HandS.NamedTupGet
import HandS.TupSets
import HandS.Flow
import PySem.Challenge.RW_hushedwires_k62_whole_lots_of_wrong_pole
set_option Elab.async false
set_option linter.all false
set_option maxRecDepth 100000
set_option maxHeartbeats 0
namespace Hw
open PySem PySem.Spec PyProof.Rows L2
def top (i : Nat) : Stmt := PySem.Challenge.pw_hushedwires_k62_whole_lots_of_wrong_pole.main.body.getD i (.Pass ⟨0, 0, 0, 0⟩)
abbrev s_is_whole : Stmt := top 16
abbrev s_shared_divisor : Stmt := top 17
abbrev s_lowest : Stmt := top 18
abbrev s_is_ratio : Stmt := top 19
abbrev s_plus : Stmt := top 20
abbrev s_negative : Stmt := top 21
abbrev s_times : Stmt := top 22
abbrev s_over : Stmt := top 23
abbrev s_compare : Stmt := top 24
abbrev s_sum_of : Stmt := top 25
abbrev s_check_lengths : Stmt := top 28
abbrev s_check_hum : Stmt := top 29
abbrev s_check_row : Stmt := top 32
abbrev s_check_signs : Stmt := top 33
abbrev s_check_word : Stmt := top 34
abbrev s_check_poles : Stmt := top 35
abbrev s_weigh_hum : Stmt := top 37
abbrev s_wrong_word : Stmt := top 41
abbrev s_lots_up_to : Stmt := top 42
abbrev s_wrong_lots : Stmt := top 43
abbrev s_check_tests : Stmt := top 44
abbrev s_read_tests : Stmt := top 45
abbrev s_check_readings : Stmt := top 46
abbrev s_tails_of : Stmt := top 47
abbrev s_lot_reading : Stmt := top 48
abbrev s_lot_readings : Stmt := top 49
abbrev s_lots_that_fit : Stmt := top 50
abbrev s_some_lots : Stmt := top 51
abbrev s_sure_wrong : Stmt := top 52
abbrev s_sure_right : Stmt := top 53
abbrev s_telling_hum : Stmt := top 54
abbrev s_word_of_reading : Stmt := top 55
abbrev s__law_hand : Stmt := top 57
abbrev s__law_mixed : Stmt := top 58
abbrev s__law_take : Stmt := top 59
abbrev s__law_gcd : Stmt := top 60
abbrev s__law_ratio : Stmt := top 61
abbrev s__law_plus : Stmt := top 62
abbrev s__law_times : Stmt := top 63
abbrev s__law_noise : Stmt := top 64
abbrev s__law_even : Stmt := top 65
abbrev s__law_line : Stmt := top 66
abbrev s__law_word : Stmt := top 67
abbrev s__law_built : Stmt := top 68
abbrev s__law_hum : Stmt := top 69
abbrev s__law_is_ratio : Stmt := top 70
abbrev s__law_is_row : Stmt := top 71
abbrev s__law_count : Stmt := top 72
abbrev s__law_lots : Stmt := top 73
abbrev s__law_wrong : Stmt := top 74
abbrev s__law_readings : Stmt := top 75
abbrev s__law_odd_word : Stmt := top 76
abbrev s__law_odd_hum : Stmt := top 77
abbrev s__law_base : Stmt := top 78
abbrev s__law_caught : Stmt := top 79
abbrev s__law_telling : Stmt := top 80
abbrev s__law_long : Stmt := top 81
abbrev s__law_refused : Stmt := top 82
abbrev s_law : Stmt := top 83
abbrev s_Line_init : Stmt := inClass (top 30) 0
abbrev s_Line_len : Stmt := inClass (top 30) 1
def d_is_whole : He.DefD := ⟨("is_whole", none), "is_whole", "is_whole", defArgs s_is_whole, defBody s_is_whole, defScope s_is_whole, [.non, .non], []⟩
def d_shared_divisor : He.DefD := ⟨("shared_divisor", none), "shared_divisor", "shared_divisor", defArgs s_shared_divisor, defBody s_shared_divisor, defScope s_shared_divisor, [], []⟩
def d_lowest : He.DefD := ⟨("lowest", none), "lowest", "lowest", defArgs s_lowest, defBody s_lowest, defScope s_lowest, [], []⟩
def d_is_ratio : He.DefD := ⟨("is_ratio", none), "is_ratio", "is_ratio", defArgs s_is_ratio, defBody s_is_ratio, defScope s_is_ratio, [], []⟩
def d_plus : He.DefD := ⟨("plus", none), "plus", "plus", defArgs s_plus, defBody s_plus, defScope s_plus, [], []⟩
def d_negative : He.DefD := ⟨("negative", none), "negative", "negative", defArgs s_negative, defBody s_negative, defScope s_negative, [], []⟩
def d_times : He.DefD := ⟨("times", none), "times", "times", defArgs s_times, defBody s_times, defScope s_times, [], []⟩
def d_over : He.DefD := ⟨("over", none), "over", "over", defArgs s_over, defBody s_over, defScope s_over, [], []⟩
def d_compare : He.DefD := ⟨("compare", none), "compare", "compare", defArgs s_compare, defBody s_compare, defScope s_compare, [], []⟩
def d_sum_of : He.DefD := ⟨("sum_of", none), "sum_of", "sum_of", defArgs s_sum_of, defBody s_sum_of, defScope s_sum_of, [], []⟩
def d_check_lengths : He.DefD := ⟨("check_lengths", none), "check_lengths", "check_lengths", defArgs s_check_lengths, defBody s_check_lengths, defScope s_check_lengths, [], []⟩
def d_check_hum : He.DefD := ⟨("check_hum", none), "check_hum", "check_hum", defArgs s_check_hum, defBody s_check_hum, defScope s_check_hum, [], []⟩
def d_check_row : He.DefD := ⟨("check_row", none), "check_row", "check_row", defArgs s_check_row, defBody s_check_row, defScope s_check_row, [], []⟩
def d_check_signs : He.DefD := ⟨("check_signs", none), "check_signs", "check_signs", defArgs s_check_signs, defBody s_check_signs, defScope s_check_signs, [], []⟩
def d_check_word : He.DefD := ⟨("check_word", none), "check_word", "check_word", defArgs s_check_word, defBody s_check_word, defScope s_check_word, [], []⟩
def d_check_poles : He.DefD := ⟨("check_poles", none), "check_poles", "check_poles", defArgs s_check_poles, defBody s_check_poles, defScope s_check_poles, [], []⟩
def d_weigh_hum : He.DefD := ⟨("weigh_hum", none), "weigh_hum", "weigh_hum", defArgs s_weigh_hum, defBody s_weigh_hum, defScope s_weigh_hum, [], []⟩
def d_wrong_word : He.DefD := ⟨("wrong_word", none), "wrong_word", "wrong_word", defArgs s_wrong_word, defBody s_wrong_word, defScope s_wrong_word, [], []⟩
def d_lots_up_to : He.DefD := ⟨("lots_up_to", none), "lots_up_to", "lots_up_to", defArgs s_lots_up_to, defBody s_lots_up_to, defScope s_lots_up_to, [], []⟩
def d_wrong_lots : He.DefD := ⟨("wrong_lots", none), "wrong_lots", "wrong_lots", defArgs s_wrong_lots, defBody s_wrong_lots, defScope s_wrong_lots, [], []⟩
def d_check_tests : He.DefD := ⟨("check_tests", none), "check_tests", "check_tests", defArgs s_check_tests, defBody s_check_tests, defScope s_check_tests, [], []⟩
def d_read_tests : He.DefD := ⟨("read_tests", none), "read_tests", "read_tests", defArgs s_read_tests, defBody s_read_tests, defScope s_read_tests, [], []⟩
def d_check_readings : He.DefD := ⟨("check_readings", none), "check_readings", "check_readings", defArgs s_check_readings, defBody s_check_readings, defScope s_check_readings, [], []⟩
def d_tails_of : He.DefD := ⟨("tails_of", none), "tails_of", "tails_of", defArgs s_tails_of, defBody s_tails_of, defScope s_tails_of, [], []⟩
def d_lot_reading : He.DefD := ⟨("lot_reading", none), "lot_reading", "lot_reading", defArgs s_lot_reading, defBody s_lot_reading, defScope s_lot_reading, [], []⟩
def d_lot_readings : He.DefD := ⟨("lot_readings", none), "lot_readings", "lot_readings", defArgs s_lot_readings, defBody s_lot_readings, defScope s_lot_readings, [], []⟩
def d_lots_that_fit : He.DefD := ⟨("lots_that_fit", none), "lots_that_fit", "lots_that_fit", defArgs s_lots_that_fit, defBody s_lots_that_fit, defScope s_lots_that_fit, [], []⟩
def d_some_lots : He.DefD := ⟨("some_lots", none), "some_lots", "some_lots", defArgs s_some_lots, defBody s_some_lots, defScope s_some_lots, [], []⟩
def d_sure_wrong : He.DefD := ⟨("sure_wrong", none), "sure_wrong", "sure_wrong", defArgs s_sure_wrong, defBody s_sure_wrong, defScope s_sure_wrong, [], []⟩
def d_sure_right : He.DefD := ⟨("sure_right", none), "sure_right", "sure_right", defArgs s_sure_right, defBody s_sure_right, defScope s_sure_right, [], []⟩
def d_telling_hum : He.DefD := ⟨("telling_hum", none), "telling_hum", "telling_hum", defArgs s_telling_hum, defBody s_telling_hum, defScope s_telling_hum, [], []⟩
def d_word_of_reading : He.DefD := ⟨("word_of_reading", none), "word_of_reading", "word_of_reading", defArgs s_word_of_reading, defBody s_word_of_reading, defScope s_word_of_reading, [], []⟩
def d__law_hand : He.DefD := ⟨("_law_hand", none), "_law_hand", "_law_hand", defArgs s__law_hand, defBody s__law_hand, defScope s__law_hand, [], []⟩
def d__law_mixed : He.DefD := ⟨("_law_mixed", none), "_law_mixed", "_law_mixed", defArgs s__law_mixed, defBody s__law_mixed, defScope s__law_mixed, [], []⟩
def d__law_take : He.DefD := ⟨("_law_take", none), "_law_take", "_law_take", defArgs s__law_take, defBody s__law_take, defScope s__law_take, [], []⟩
def d__law_gcd : He.DefD := ⟨("_law_gcd", none), "_law_gcd", "_law_gcd", defArgs s__law_gcd, defBody s__law_gcd, defScope s__law_gcd, [], []⟩
def d__law_ratio : He.DefD := ⟨("_law_ratio", none), "_law_ratio", "_law_ratio", defArgs s__law_ratio, defBody s__law_ratio, defScope s__law_ratio, [], []⟩
def d__law_plus : He.DefD := ⟨("_law_plus", none), "_law_plus", "_law_plus", defArgs s__law_plus, defBody s__law_plus, defScope s__law_plus, [], []⟩
def d__law_times : He.DefD := ⟨("_law_times", none), "_law_times", "_law_times", defArgs s__law_times, defBody s__law_times, defScope s__law_times, [], []⟩
def d__law_noise : He.DefD := ⟨("_law_noise", none), "_law_noise", "_law_noise", defArgs s__law_noise, defBody s__law_noise, defScope s__law_noise, [], []⟩
def d__law_even : He.DefD := ⟨("_law_even", none), "_law_even", "_law_even", defArgs s__law_even, defBody s__law_even, defScope s__law_even, [], []⟩
def d__law_line : He.DefD := ⟨("_law_line", none), "_law_line", "_law_line", defArgs s__law_line, defBody s__law_line, defScope s__law_line, [], []⟩
def d__law_word : He.DefD := ⟨("_law_word", none), "_law_word", "_law_word", defArgs s__law_word, defBody s__law_word, defScope s__law_word, [], []⟩
def d__law_built : He.DefD := ⟨("_law_built", none), "_law_built", "_law_built", defArgs s__law_built, defBody s__law_built, defScope s__law_built, [], []⟩
def d__law_hum : He.DefD := ⟨("_law_hum", none), "_law_hum", "_law_hum", defArgs s__law_hum, defBody s__law_hum, defScope s__law_hum, [], []⟩
def d__law_is_ratio : He.DefD := ⟨("_law_is_ratio", none), "_law_is_ratio", "_law_is_ratio", defArgs s__law_is_ratio, defBody s__law_is_ratio, defScope s__law_is_ratio, [], []⟩
def d__law_is_row : He.DefD := ⟨("_law_is_row", none), "_law_is_row", "_law_is_row", defArgs s__law_is_row, defBody s__law_is_row, defScope s__law_is_row, [], []⟩
def d__law_count : He.DefD := ⟨("_law_count", none), "_law_count", "_law_count", defArgs s__law_count, defBody s__law_count, defScope s__law_count, [], []⟩
def d__law_lots : He.DefD := ⟨("_law_lots", none), "_law_lots", "_law_lots", defArgs s__law_lots, defBody s__law_lots, defScope s__law_lots, [], []⟩
def d__law_wrong : He.DefD := ⟨("_law_wrong", none), "_law_wrong", "_law_wrong", defArgs s__law_wrong, defBody s__law_wrong, defScope s__law_wrong, [], []⟩
def d__law_readings : He.DefD := ⟨("_law_readings", none), "_law_readings", "_law_readings", defArgs s__law_readings, defBody s__law_readings, defScope s__law_readings, [], []⟩
def d__law_odd_word : He.DefD := ⟨("_law_odd_word", none), "_law_odd_word", "_law_odd_word", defArgs s__law_odd_word, defBody s__law_odd_word, defScope s__law_odd_word, [], []⟩
def d__law_odd_hum : He.DefD := ⟨("_law_odd_hum", none), "_law_odd_hum", "_law_odd_hum", defArgs s__law_odd_hum, defBody s__law_odd_hum, defScope s__law_odd_hum, [], []⟩
def d__law_base : He.DefD := ⟨("_law_base", none), "_law_base", "_law_base", defArgs s__law_base, defBody s__law_base, defScope s__law_base, [], []⟩
def d__law_caught : He.DefD := ⟨("_law_caught", none), "_law_caught", "_law_caught", defArgs s__law_caught, defBody s__law_caught, defScope s__law_caught, [], []⟩
def d__law_telling : He.DefD := ⟨("_law_telling", none), "_law_telling", "_law_telling", defArgs s__law_telling, defBody s__law_telling, defScope s__law_telling, [], []⟩
def d__law_long : He.DefD := ⟨("_law_long", none), "_law_long", "_law_long", defArgs s__law_long, defBody s__law_long, defScope s__law_long, [], []⟩
def d__law_refused : He.DefD := ⟨("_law_refused", none), "_law_refused", "_law_refused", defArgs s__law_refused, defBody s__law_refused, defScope s__law_refused, [], []⟩
def d_law : He.DefD := ⟨("law", none), "law", "law", defArgs s_law, defBody s_law, defScope s_law, [], []⟩
def d_Line_init : He.DefD := ⟨("Line", some "__init__"), "__init__", "Line.__init__", defArgs s_Line_init, defBody s_Line_init, defScope s_Line_init, [], []⟩
def d_Line_len : He.DefD := ⟨("Line", some "__len__"), "__len__", "Line.__len__", defArgs s_Line_len, defBody s_Line_len, defScope s_Line_len, [], []⟩
def fnA : List He.DefD := [d_is_whole, d_shared_divisor, d_lowest, d_is_ratio, d_plus, d_negative, d_times, d_over, d_compare, d_sum_of, d_check_lengths, d_check_hum, d_check_row, d_check_signs, d_check_word, d_check_poles, d_weigh_hum, d_wrong_word, d_lots_up_to, d_wrong_lots, d_check_tests, d_read_tests, d_check_readings, d_tails_of, d_lot_reading, d_lot_readings, d_lots_that_fit, d_some_lots, d_sure_wrong, d_sure_right]
def fnB : List He.DefD := [d_telling_hum, d_word_of_reading, d__law_hand, d__law_mixed, d__law_take, d__law_gcd, d__law_ratio, d__law_plus, d__law_times, d__law_noise, d__law_even, d__law_line, d__law_word, d__law_built, d__law_hum, d__law_is_ratio, d__law_is_row, d__law_count, d__law_lots, d__law_wrong, d__law_readings, d__law_odd_word, d__law_odd_hum, d__law_base, d__law_caught, d__law_telling, d__law_long, d__law_refused, d_law, d_Line_init, d_Line_len]
def fn : List He.DefD := fnA ++ fnB
def faA : List He.Fa := [.glo "is_whole", .glo "shared_divisor", .glo "lowest", .glo "is_ratio", .glo "plus", .glo "negative", .glo "times", .glo "over", .glo "compare", .glo "sum_of", .glo "check_lengths", .glo "check_hum", .glo "check_row", .glo "check_signs", .glo "check_word", .glo "check_poles", .glo "weigh_hum", .glo "wrong_word", .glo "lots_up_to", .glo "wrong_lots", .glo "check_tests", .glo "read_tests", .glo "check_readings", .glo "tails_of", .glo "lot_reading", .glo "lot_readings", .glo "lots_that_fit", .glo "some_lots", .glo "sure_wrong", .glo "sure_right"]
def faB : List He.Fa := [.glo "telling_hum", .glo "word_of_reading", .glo "_law_hand", .glo "_law_mixed", .glo "_law_take", .glo "_law_gcd", .glo "_law_ratio", .glo "_law_plus", .glo "_law_times", .glo "_law_noise", .glo "_law_even", .glo "_law_line", .glo "_law_word", .glo "_law_built", .glo "_law_hum", .glo "_law_is_ratio", .glo "_law_is_row", .glo "_law_count", .glo "_law_lots", .glo "_law_wrong", .glo "_law_readings", .glo "_law_odd_word", .glo "_law_odd_hum", .glo "_law_base", .glo "_law_caught", .glo "_law_telling", .glo "_law_long", .glo "_law_refused", .glo "law"]
def faC : List He.Fa := [.free "len", .free "abs", .free "int", .free "range", .free "tuple", .free "list", .free "isinstance", .free "enumerate", .free "zip", .free "sum", .free "sorted", .free "all", .free "any", .free "bool", .free "ValueError", .free "super", .int "MOST_SECTIONS" 24, .int "MOST_WRONG" 3, .int "MOST_TESTS" 6, .cls "Line", .mkr "Line", .noat "Line" "lengths", .noat "Line" "marks", .glo "ZERO", .glo "ONE"]
def faD : List He.Fa := [.exc "WireError", .exc "BadPoles", .exc "BadAmount", .exc "BadMost", .exc "NoLots"]
def fa : List He.Fa := faA ++ faB ++ faC ++ faD
def tf : List He.Defn := [("_law_telling", none), ("_law_refused", none), ("law", none)]
abbrev R : PySem.W.OpenRow := PySem.W.OpenLaw.row PySem.Challenge.rw_hushedwires_k62_whole_lots_of_wrong_pole
def loose0 : List Str := [("_wall" : Str), ("WireError" : Str), ("BadRatio" : Str), ("BadLine" : Str), ("BadWord" : Str), ("BadPoles" : Str), ("BadHum" : Str), ("BadAmount" : Str), ("BadMost" : Str), ("BadTests" : Str), ("BadReadings" : Str), ("NoLots" : Str), ("ZERO" : Str), ("ONE" : Str), ("is_whole" : Str), ("shared_divisor" : Str)]
def loose1 : List Str := [("lowest" : Str), ("is_ratio" : Str), ("plus" : Str), ("negative" : Str), ("times" : Str), ("over" : Str), ("compare" : Str), ("sum_of" : Str), ("MOST_SECTIONS" : Str), ("check_lengths" : Str), ("check_hum" : Str), ("Line" : Str), ("check_row" : Str), ("check_signs" : Str), ("check_word" : Str), ("check_poles" : Str)]
def loose2 : List Str := [("weigh_hum" : Str), ("MOST_WRONG" : Str), ("MOST_TESTS" : Str), ("wrong_word" : Str), ("lots_up_to" : Str), ("wrong_lots" : Str), ("check_tests" : Str), ("read_tests" : Str), ("check_readings" : Str), ("tails_of" : Str), ("lot_reading" : Str), ("lot_readings" : Str), ("lots_that_fit" : Str), ("some_lots" : Str), ("sure_wrong" : Str), ("sure_right" : Str)]
def loose3 : List Str := [("telling_hum" : Str), ("word_of_reading" : Str), ("_law_hand" : Str), ("_law_mixed" : Str), ("_law_take" : Str), ("_law_gcd" : Str), ("_law_ratio" : Str), ("_law_plus" : Str), ("_law_times" : Str), ("_law_noise" : Str), ("_law_even" : Str), ("_law_line" : Str), ("_law_word" : Str), ("_law_built" : Str), ("_law_hum" : Str), ("_law_is_ratio" : Str)]
def loose4 : List Str := [("_law_is_row" : Str), ("_law_count" : Str), ("_law_lots" : Str), ("_law_wrong" : Str), ("_law_readings" : Str), ("_law_odd_word" : Str), ("_law_odd_hum" : Str), ("_law_base" : Str), ("_law_caught" : Str), ("_law_telling" : Str), ("_law_long" : Str), ("_law_refused" : Str)]
def loose : List Str := loose0 ++ loose1 ++ loose2 ++ loose3 ++ loose4
end Hw
set_option Elab.async false
set_option linter.all false
set_option maxRecDepth 100000
set_option maxHeartbeats 4000000
/-! What is looked at of exceptions with fields, of Line.even: Bools. -/
namespace Hw
open PySem PySem.Spec PyProof.Rows L2 PySem.HandSPX

abbrev s_Line_even : Stmt := inClass (top 30) 3
abbrev PRG : Program := PySem.Challenge.rw_hushedwires_k62_whole_lots_of_wrong_pole.prog
abbrev s_BadWord_init : Stmt := inClass (top 5) 0
abbrev s_BadHum_init : Stmt := inClass (top 7) 0
abbrev s_BadTests_init : Stmt := inClass (top 10) 0
abbrev s_BadReadings_init : Stmt := inClass (top 11) 0
/-- a def with a closure, or off the names -/
structure IniD where
  at_ : PySem.W.Frag → Addr
  name : Str
  qual : Str
  st : Stmt
  cl : List Str
abbrev FnC : Type := Option (Str × Str × Arguments × FuncBody × Scope × Addr × List Str × Addr)
def iniObs (K : PySem.W.Frag) (d : IniD) : FnC := match K.lookup (d.at_ K) with
  | some ⟨_, _, .func fd, _⟩ => some (fd.name, fd.qualname, fd.params, fd.body, fd.scope, fd.globals, fd.closure.map (·.1), fd.builtins)
  | _ => none
def IniD.val (d : IniD) : FnC := some (d.name, d.qual, defArgs d.st, .stmts (defBody d.st), defScope d.st, mainGlobals, d.cl, builtinsNs)
def iA (x : Str) (K : PySem.W.Frag) : Addr := He.ma K (He.ga K x) "__init__"
def evenA (K : PySem.W.Frag) : Addr := match PySem.W.recIn K (He.ma K (He.ga K "Line") "even") "staticmethod" with
  | some (.ref f :: _) => f
  | _ => 0
def d_even : IniD := ⟨evenA, "even", "Line.even", s_Line_even, []⟩
def d_BW : IniD := ⟨iA "BadWord", "__init__", "BadWord.__init__", s_BadWord_init, ["__class__"]⟩
def d_BH : IniD := ⟨iA "BadHum", "__init__", "BadHum.__init__", s_BadHum_init, ["__class__"]⟩
def d_BT : IniD := ⟨iA "BadTests", "__init__", "BadTests.__init__", s_BadTests_init, ["__class__"]⟩
def d_BR : IniD := ⟨iA "BadReadings", "__init__", "BadReadings.__init__", s_BadReadings_init, ["__class__"]⟩
def inits : List IniD := [d_even, d_BW, d_BH, d_BT, d_BR]
def clsB (K : PySem.W.Frag) (C : Addr) : Bool := match K.lookup C with
  | some ⟨.type t, _, .cls cd, sl⟩ => (match cd.mro, sl.toList with
    | .ref C' :: bm, [_, _, _, _, some (.builtin n), _] => decide (t = "type") && (decide (C' = C) && (decide (n = "ValueError.__new__") && (!cd.hasDel && (cd.hasDict && (refsVE bm && He.eqO (PySem.W.alongIn K "__init__" bm) (some (some (.builtin "ValueError.__init__"))))))))
    | _, _ => false)
  | _ => false
def baseB (K : PySem.W.Frag) (C fI : Addr) : Bool := clsB K C && (He.eqO (PySem.W.findIn K (.ref C) "__setattr__") (some (some (.builtin "object.__setattr__"))) && (He.eqO (PySem.W.findIn K (.ref C) "__init__") (some (some (.ref fI))) && (decide (PySem.W.typeIn K (.ref fI) = some (.type "function")) &&
  (PySem.W.keepIn K (.ref C) && (decide (PySem.W.subIn K (.ref C) (.type "BaseException") = some true) && (decide (PySem.W.subIn K (.ref C) (.type "ValueError") = some true) && (decide (PySem.W.mroIn K C (.ref C) = some true) && (decide (PySem.W.typeIn K (.ref C) = some (.type "type")) && He.eqO (PySem.W.nsIn K cStatics "thirdparty.any") (some none)))))))))
def codB (K : PySem.W.Frag) (cda : Addr) : Bool := match K.lookup cda with
  | some ⟨_, _, .fields vs, _⟩ => (match (vs[2]? : Option Value) with
    | some (.str file _) => ((PRG.main.file : Str) == file)
    | _ => false)
  | _ => false
def celB (K : PySem.W.Frag) (C cc : Addr) : Bool := match K.lookup cc with
  | some ⟨_, _, .cell (some (.ref C')), _⟩ => decide (C' = C)
  | _ => false
def initB (K : PySem.W.Frag) (C fI : Addr) (q : Str) : Bool := match K.lookup fI with
  | some ⟨_, _, .func fd, _⟩ => (match fd.defaults, fd.kwdefaults, fd.code, fd.closure with
    | .none, .none, .ref cda, [(_, cc)] => PySem.W.codeIn K (.ref cda) q && (codB K cda && celB K C cc)
    | _, _, _, _ => false)
  | _ => false
def evB (K : PySem.W.Frag) : Bool := PySem.W.keepIn K (.ref (evenA K)) && ((match K.lookup (evenA K) with
  | some ⟨_, _, .func fd, _⟩ => PySem.W.codeIn K fd.code "Line.even" && (He.dflB K fd.defaults [] && He.kwdB K fd.kwdefaults [])
  | _ => false) && (He.eqO (PySem.W.specialIn K (.ref (He.ga K "Line")) "__getattribute__") (some (some (.builtin "type.__getattribute__"))) && (PySem.W.readsIn K (He.ga K "Line") (.type "type") &&
  ((match PySem.W.findCls K (.ref (He.ga K "Line")) (.type "type") "even" with
  | some (.get (.builtin b) (.ref p) .none (.ref c)) => decide (b = "staticmethod.__get__") && (decide (p = He.ma K (He.ga K "Line") "even") && decide (c = He.ga K "Line"))
  | _ => false) && (match PySem.W.recIn K (He.ma K (He.ga K "Line") "even") "staticmethod" with
  | some (.ref f :: _) => true
  | _ => false)))))
def ecB (K : PySem.W.Frag) (D : Addr) : Bool := He.eqO (PySem.W.findIn K (.ref D) "__getattribute__") (some (some (.builtin "BaseException.__getattribute__"))) && (He.eqO (PySem.W.findIn K (.ref D) "__getattr__") (some none) && (decide (PySem.W.subIn K (.ref D) (.type "BaseException") = some true) && (PySem.W.hasDictIn K D &&
  (He.eqO (PySem.W.findIn K (.ref D) "__class__") (some (some (.builtin "object.__class__"))) && (He.eqO (PySem.W.specialIn K (.builtin "object.__class__") "__get__") (some (some (.builtin "getset_descriptor.__get__"))) && (decide (PySem.W.takesIn K (.builtin "object.__class__") = some true) && decide (PySem.W.mroIn K D (.type "object") = some true)))))))
/-- an own exception with fields -/
def badB (K : PySem.W.Frag) (x : Str) : Bool := (He.Fa.glo x).ok K && (baseB K (He.ga K x) (iA x K) && (He.eqO (PySem.W.findIn K (.ref (He.ga K x)) "index") (some none) && He.eqO (PySem.W.findIn K (.ref (He.ga K x)) "what") (some none)))
end Hw
set_option Elab.async false
set_option linter.all false
set_option maxRecDepth 100000
set_option maxHeartbeats 0
/-! The head: the Hook, the run. -/
namespace Hw
open PySem PySem.Spec PyProof.Rows L2 PySem.HandSPX

def xNames : List Str := ["BadWord", "BadPoles", "BadAmount", "BadMost", "BadTests", "BadReadings", "NoLots"]
abbrev gaR (K : PySem.W.Frag) (x : Str) : Value := .ref (He.ga K x)
def exL (K : PySem.W.Frag) : List Bool := [
  He.tupB K "ZERO" [.int 0, .int 1], He.tupB K "ONE" [.int 1, .int 1],
  badB K "BadWord", badB K "BadTests", badB K "BadReadings",
  (He.Fa.glo "BadHum").ok K, baseB K (He.ga K "BadHum") (iA "BadHum" K), He.eqO (PySem.W.findIn K (gaR K "BadHum") "index") (some none),
  initB K (He.ga K "BadWord") (iA "BadWord" K) "BadWord.__init__", initB K (He.ga K "BadTests") (iA "BadTests" K) "BadTests.__init__", initB K (He.ga K "BadReadings") (iA "BadReadings" K) "BadReadings.__init__", initB K (He.ga K "BadHum") (iA "BadHum" K) "BadHum.__init__",
  evB K, (He.Fa.glo "Line").ok K, (He.Fa.glo "WireError").ok K, (He.Fa.glo "BadPoles").ok K, (He.Fa.glo "BadAmount").ok K, (He.Fa.glo "BadMost").ok K, (He.Fa.glo "NoLots").ok K,
  decide ((xNames.map (He.ga K)).Nodup), (xNames.all fun x => xNames.all fun y => decide (PySem.W.exmOne K (gaR K x) (gaR K y) = some (decide (He.ga K x = He.ga K y)))),
  xfB K (He.ga K "BadWord"), xfB K (He.ga K "BadTests"), xfB K (He.ga K "BadReadings"),
  decide (PySem.W.exmOne K (gaR K "BadHum") (gaR K "BadHum") = some true), decide (PySem.W.exmOne K (gaR K "BadTests") (gaR K "WireError") = some true), decide (PySem.W.kitOne K (gaR K "BadTests") (.type "ValueError") = some true), ecB K (He.ga K "BadTests"),
  He.eqO (PySem.W.findIn K (gaR K "Line") "__len__") (some (some (.ref (He.ma K (He.ga K "Line") "__len__")))), decide (PySem.W.typeIn K (.ref (He.ma K (He.ga K "Line") "__len__")) = some (.type "function")),
  decide ((tf.map fun p => (He.cT K p).2).Nodup)]
def exY (K : PySem.W.Frag) : Bool := (exL K).all id
theorem exY_at {K : PySem.W.Frag} (h : exY K = true) (i : Nat) {b : Bool} (e : (exL K)[i]? = some b) : b = true := List.all_eq_true.mp h b (List.mem_of_getElem? e)
/-- the part of the heap that is looked at: what the names reach, and the machine's own names -/
def asY (g : Addr → Option Obj) : List Addr := He.asD g 5 ++ [cStatics]
def KY (g : Addr → Option Obj) : PySem.W.Frag := He.frT g (asY g)
def iniO (K : PySem.W.Frag) : List FnC := inits.map (iniObs K)
def iniV : List FnC := inits.map IniD.val
abbrev AlY : Type := He.AlT × Bool × List FnC
def obsK (g : Addr → Option Obj) (K : PySem.W.Frag) : AlY := (He.obsT fa fn [] K, exY K && He.tabsB g tf K, iniO K)
def obsY (g : Addr → Option Obj) : AlY := obsK g (KY g)
def valY (w : World) : AlY := (He.valT fn [] w, true, iniV)
structure SaysY (w : World) (h : Heap) (K : PySem.W.Frag) : Prop where
  t : He.SaysT fa fn [] w K
  ex : exY K = true
  hd : ∀ p ∈ tf, PySem.W.codeHdIn K (He.cT K p).1 (He.cT K p).2 = true
  out : ∀ p ∈ tf, K.lookup (He.cT K p).2 = none
  emp : ∀ p ∈ tf, h.get? (He.cT K p).2 = some { cls := .none, data := .fields #[] }
  i : iniO K = iniV
theorem tab_of {g : Addr → Option Obj} {as : List Addr} (h : He.tabsB g tf (He.frT g as) = true) {p : He.Defn} (hp : p ∈ tf) : PySem.W.codeHdIn (He.frT g as) (He.cT (He.frT g as) p).1 (He.cT (He.frT g as) p).2 = true ∧ g (He.cT (He.frT g as) p).2 = some { cls := .none, data := .fields #[] } ∧ (He.frT g as).lookup (He.cT (He.frT g as) p).2 = none := by
  have h1 := List.all_eq_true.mp h p hp
  obtain ⟨a, b⟩ := He.ba h1
  refine ⟨a, ?_⟩
  split at b
  · rename_i o q
    exact ⟨q.trans (congrArg some (He.emptyTab_eq b)), He.frT_none q b⟩
  · cases b
theorem saysY_of {w : World} {h : Heap} (e : obsY h.get? = valY w) : SaysY w h (KY h.get?) := by
  unfold obsY obsK valY at e
  injection e with e1 e
  injection e with e2 e3
  obtain ⟨k1, k2⟩ := He.ba e2
  exact ⟨e1, k1, fun p hp => (tab_of k2 hp).1, fun p hp => (tab_of k2 hp).2.2, fun p hp => (tab_of k2 hp).2.1, e3⟩
def hkY : PySem.W.Hook where
  α := AlY
  obs := fun s => obsY s.heap.get?
  val := fun w => valY w
  says := fun w h => ∃ K : PySem.W.Frag, K.In h ∧ SaysY w h K
  of := fun _ s e => ⟨KY s.heap.get?, He.frT_in, saysY_of e⟩
  keeps := fun _ _ _ ⟨K, hK, c⟩ k => ⟨K, fun a o q => k a o (hK a o q), ⟨c.t, c.ex, c.hd, c.out, fun p hp => k _ _ (c.emp p hp), c.i⟩⟩
def obY (s : PySem.W.SharedT) : AlY := obsY (HandSHeadRun.getT s)
theorem obY_eq (s : PySem.W.SharedT) : obY s = hkY.obs s.abs := by
  have e : HandSHeadRun.getT s = s.abs.heap.get? := funext (HandSHeadRun.getT_eq s)
  unfold obY
  rw [e] <;> rfl
/-! ### the run, looked at in parts (each less than all at once) -/
noncomputable abbrev endY (w : World) (os : OsState) : Option PySem.W.SharedT := HandSHeadRun.endF (HandSHeadRun.stepQ (HandSHeadRun.denQ HandSHeadRun.tabQ) R.prog w) 40000 R.prog w os
abbrev KS (s : PySem.W.SharedT) : PySem.W.Frag := KY (HandSHeadRun.getT s)
theorem run0 (w : World) (os : OsState) : (endY w os).map (fun s => (HandSHeadRun.looksF R.prog (PySem.W.boot_heap w.params) s.abs, HandSHeadRun.seenQ (PySem.W.view R.prog [83]) loose (importedModules R.prog.main.body) (fun s => PySem.W.xlAt (PySem.W.view R.prog [83]) [] s && PySem.W.recOk R.toRowW.records s) s.abs)) = some (true, PySem.W.openGood (PySem.W.view R.prog [83]) loose) := by
  kernel_rfl
theorem run1 (w : World) (os : OsState) : (endY w os).map (fun s => He.obsT fa fn [] (KS s)) = some (He.valT fn [] w) := by
  kernel_rfl
theorem run2 (w : World) (os : OsState) : (endY w os).map (fun s => (((exL (KS s)).take 13).all id, iniO (KS s))) = some (true, iniV) := by
  kernel_rfl
theorem run3 (w : World) (os : OsState) : (endY w os).map (fun s => (((exL (KS s)).drop 13).all id, He.tabsB (HandSHeadRun.getT s) tf (KS s))) = some (true, true) := by
  kernel_rfl
theorem exY_of {K : PySem.W.Frag} (h1 : ((exL K).take 13).all id = true) (h2 : ((exL K).drop 13).all id = true) : exY K = true := by
  unfold exY
  rw [← List.take_append_drop 13 (exL K), List.all_append, h1, h2]
  rfl
theorem join_run {S A0 A1 A2 A3 A : Type} {X : Option S} {l : S → Bool} {sn : S → A0} {o1 : S → A1} {o2 : S → A2} {o3 : S → A3} {ob : S → A} {g0 : A0} {v1 : A1} {v2 : A2} {v3 : A3} {v : A} (h0 : X.map (fun s => (l s, sn s)) = some (true, g0)) (h1 : X.map o1 = some v1) (h2 : X.map o2 = some v2) (h3 : X.map o3 = some v3)
    (hob : ∀ s, o1 s = v1 → o2 s = v2 → o3 s = v3 → ob s = v) : X.map (fun s => (l s, sn s, ob s)) = some (true, g0, v) := by
  cases X with
  | none => cases h0
  | some s =>
    have h0 : (l s, sn s) = (true, g0) := Option.some.inj h0
    have e := hob s (Option.some.inj h1) (Option.some.inj h2) (Option.some.inj h3)
    injection h0 with a1 a2
    show some (l s, sn s, ob s) = _
    rw [a1, a2, e]
theorem ob_of {w : World} {s : PySem.W.SharedT} (e1 : He.obsT fa fn [] (KS s) = He.valT fn [] w) (e2 : (((exL (KS s)).take 13).all id, iniO (KS s)) = (true, iniV)) (e3 : (((exL (KS s)).drop 13).all id, He.tabsB (HandSHeadRun.getT s) tf (KS s)) = (true, true)) : obY s = hkY.val w := by
  have b := Prod.mk.inj e2
  have c := Prod.mk.inj e3
  have y : (exY (KS s) && He.tabsB (HandSHeadRun.getT s) tf (KS s)) = true := Bool.and_eq_true_iff.mpr ⟨exY_of b.1 c.1, c.2⟩
  exact congr (congrArg Prod.mk e1) (congr (congrArg Prod.mk y) b.2)
theorem runY (w : World) : HandSHeadRun.RunEq R (PySem.W.view R.prog [83]) hkY obY 40000 loose w := fun os => join_run (run0 w os) (run1 w os) (run2 w os) (run3 w os) fun s e1 e2 e3 => ob_of e1 e2 e3
theorem head_use (call : PySem.W.WalkO (PySem.W.view R.prog [83]) loose (PySem.W.XL (PySem.W.view R.prog [83]) []) hkY.says R.toRowW (HandSHeadRun.topDef R.prog 83) [] fun f vs => PySem.call f vs) (hw : R.toRowW.promised) : R.Holds :=
  HandSHeadRun.head_any (r := R) (q := PySem.W.view R.prog [83]) (H := hkY) (ob := obY) (M := 40000) (loose := loose) (d := HandSHeadRun.topDef R.prog 83) (kwd := []) obY_eq
    (by kernel_rfl) (fun s => by kernel_rfl) runY (by kernel_rfl) (by kernel_rfl) (by kernel_rfl) (by rfl) (by first | assumption | decide +kernel) (by decide +kernel) ⟨rfl, rfl, rfl, rfl, rfl, by decide +kernel⟩ hw call
end Hw
set_option Elab.async false
set_option linter.all false
set_option maxRecDepth 100000
set_option maxHeartbeats 2000000
/-! The data layer: values as trees of data, over the hand layer. -/
namespace Hw
open PySem PySem.Spec PyProof.Rows L2

/-- data: what a value is, whatever the addresses -/
inductive D where
  | non | bl (b : Bool) | int (i : Int) | str (s : Str)
  | tup (xs : List D) | lst (xs : List D) | obj (ls ms : D) | fn (a : Addr) | scr (ns : List Int)

/-- what stands around: the program, the world, the written part, the class of lines, the tables of code -/
structure Gm where
  P : Program
  w : World
  K : PySem.W.Frag
  mg : Str → Option Value
  base : Heap
  cL : Addr
  T : List (Addr × Str)

def H0 : Hp := fun _ => none
def SqT' (g : Gm) (S : List Addr) (H : Hp) (a : Addr) (vs : List V) : Prop := (a ∉ S ∧ Rd H a (.tup vs)) ∨ SqT g.K H0 a vs
def SqL' (g : Gm) (S : List Addr) (H : Hp) (a : Addr) (vs : List V) : Prop := (a ∉ S ∧ Rd H a (.lst vs)) ∨ SqL g.K H0 a vs
mutual
inductive Dx (g : Gm) (S : List Addr) (H : Hp) : V → D → Prop
  | non : Dx g S H .non .non
  | bl (b : Bool) : Dx g S H (.bl b) (.bl b)
  | int (i : Int) : Dx g S H (.int i) (.int i)
  | str (s : Str) : Dx g S H (.str s) (.str s)
  | tup {a : Addr} {vs : List V} {ds : List D} : SqT' g S H a vs → DxL g S H vs ds → Dx g S H (.ref a) (.tup ds)
  | lst {a : Addr} {vs : List V} {ds : List D} : a ∉ S → H a = some (.lst vs) → DxL g S H vs ds → Dx g S H (.ref a) (.lst ds)
  | obj {a dx : Addr} {v1 v2 : V} {d1 d2 : D} : a ∉ S → H a = some (.ins g.cL dx [("lengths", v1), ("marks", v2)]) → Dx g S H v1 d1 → Dx g S H v2 d2 → Dx g S H (.ref a) (.obj d1 d2)
  | fn (a : Addr) : Dx g S H (.ref a) (.fn a)
  | scr {a : Addr} {ns : List Int} : SqL' g S H a (ns.map .int) → Dx g S H (.ref a) (.scr ns)
inductive DxL (g : Gm) (S : List Addr) (H : Hp) : List V → List D → Prop
  | nil : DxL g S H [] []
  | cons {v : V} {vs : List V} {d : D} {ds : List D} : Dx g S H v d → DxL g S H vs ds → DxL g S H (v :: vs) (d :: ds)
end
/-- what stood off S stands, off S' -/
def Kp (S S' : List Addr) (H H' : Hp) : Prop := ∀ a o, a ∉ S → (∀ ps, o ≠ .tbl ps) → H a = some o → a ∉ S' ∧ H' a = some o
theorem Kp.rd {S S' : List Addr} {H H' : Hp} (k : Kp S S' H H') {a : Addr} {u : HO} (hu : ∀ ps, u ≠ .tbl ps) (h : a ∉ S ∧ Rd H a u) : a ∉ S' ∧ Rd H' a u := by
  obtain ⟨ha, h | ⟨o, h⟩⟩ := h
  · obtain ⟨h1, h2⟩ := k a _ ha hu h
    exact ⟨h1, .inl h2⟩
  · obtain ⟨h1, h2⟩ := k a _ ha (fun ps => by intro z; cases z) h
    exact ⟨h1, .inr ⟨o, h2⟩⟩
theorem Kp.sqT {g : Gm} {S S' : List Addr} {H H' : Hp} (k : Kp S S' H H') {a : Addr} {vs : List V} (h : SqT' g S H a vs) : SqT' g S' H' a vs :=
  h.imp (k.rd (fun ps => by intro z; cases z)) id
theorem Kp.sqL {g : Gm} {S S' : List Addr} {H H' : Hp} (k : Kp S S' H H') {a : Addr} {vs : List V} (h : SqL' g S H a vs) : SqL' g S' H' a vs :=
  h.imp (k.rd (fun ps => by intro z; cases z)) id
mutual
theorem Dx.mono {g : Gm} {S S' : List Addr} {H H' : Hp} (k : Kp S S' H H') : ∀ {v : V} {d : D}, Dx g S H v d → Dx g S' H' v d
  | _, _, .non => .non
  | _, _, .bl b => .bl b
  | _, _, .int i => .int i
  | _, _, .str s => .str s
  | _, _, .tup h hs => .tup (k.sqT h) (DxL.mono k hs)
  | _, _, .lst ha h hs => .lst (k _ _ ha (fun ps => by intro z; cases z) h).1 (k _ _ ha (fun ps => by intro z; cases z) h).2 (DxL.mono k hs)
  | _, _, .obj ha h h1 h2 => .obj (k _ _ ha (fun ps => by intro z; cases z) h).1 (k _ _ ha (fun ps => by intro z; cases z) h).2 (Dx.mono k h1) (Dx.mono k h2)
  | _, _, .fn a => .fn a
  | _, _, .scr h => .scr (k.sqL h)
theorem DxL.mono {g : Gm} {S S' : List Addr} {H H' : Hp} (k : Kp S S' H H') : ∀ {vs : List V} {ds : List D}, DxL g S H vs ds → DxL g S' H' vs ds
  | _, _, .nil => .nil
  | _, _, .cons h hs => .cons (Dx.mono k h) (DxL.mono k hs)
end
theorem DxL.length {g : Gm} {S : List Addr} {H : Hp} : ∀ {vs : List V} {ds : List D}, DxL g S H vs ds → vs.length = ds.length
  | _, _, .nil => rfl
  | _, _, .cons _ hs => congrArg Nat.succ hs.length
theorem DxL.get {g : Gm} {S : List Addr} {H : Hp} : ∀ {vs : List V} {ds : List D} {i : Nat} {d : D}, DxL g S H vs ds → ds[i]? = some d → ∃ v, vs[i]? = some v ∧ Dx g S H v d
  | _, _, _, _, .nil, e => by simp at e
  | _, _, 0, _, .cons h _, e => ⟨_, rfl, by cases e; exact h⟩
  | _, _, i + 1, _, .cons _ hs, e => hs.get (i := i) e
theorem DxL.get' {g : Gm} {S : List Addr} {H : Hp} : ∀ {vs : List V} {ds : List D} {i : Nat} {v : V}, DxL g S H vs ds → vs[i]? = some v → ∃ d, ds[i]? = some d ∧ Dx g S H v d
  | _, _, _, _, .nil, e => by simp at e
  | _, _, 0, _, .cons h _, e => ⟨_, rfl, by cases e; exact h⟩
  | _, _, i + 1, _, .cons _ hs, e => hs.get' (i := i) e
theorem DxL.app {g : Gm} {S : List Addr} {H : Hp} : ∀ {vs ws : List V} {ds es : List D}, DxL g S H vs ds → DxL g S H ws es → DxL g S H (vs ++ ws) (ds ++ es)
  | _, _, _, _, .nil, q => q
  | _, _, _, _, .cons h hs, q => .cons h (hs.app q)
theorem DxL.rev {g : Gm} {S : List Addr} {H : Hp} : ∀ {vs : List V} {ds : List D}, DxL g S H vs ds → DxL g S H vs.reverse ds.reverse
  | _, _, .nil => .nil
  | _, _, .cons h hs => by
    rw [List.reverse_cons, List.reverse_cons]
    exact hs.rev.app (.cons h .nil)
theorem DxL.take {g : Gm} {S : List Addr} {H : Hp} : ∀ {vs : List V} {ds : List D} (n : Nat), DxL g S H vs ds → DxL g S H (vs.take n) (ds.take n)
  | _, _, 0, _ => .nil
  | _, _, _ + 1, .nil => .nil
  | _, _, n + 1, .cons h hs => .cons h (hs.take n)
theorem DxL.drop {g : Gm} {S : List Addr} {H : Hp} : ∀ {vs : List V} {ds : List D} (n : Nat), DxL g S H vs ds → DxL g S H (vs.drop n) (ds.drop n)
  | _, _, 0, h => h
  | _, _, _ + 1, .nil => .nil
  | _, _, n + 1, .cons _ hs => hs.drop n
theorem DxL.set {g : Gm} {S : List Addr} {H : Hp} {v : V} {d : D} (h : Dx g S H v d) : ∀ {vs : List V} {ds : List D} (n : Nat), DxL g S H vs ds → DxL g S H (vs.set n v) (ds.set n d)
  | _, _, _, .nil => .nil
  | _, _, 0, .cons _ hs => .cons h hs
  | _, _, n + 1, .cons q hs => .cons q (hs.set h n)
theorem DxL.ints {g : Gm} {S : List Addr} {H : Hp} : ∀ {vs : List V} {ns : List Int}, DxL g S H vs (ns.map .int) → vs = ns.map .int
  | _, [], .nil => rfl
  | _, n :: ns, .cons h hs => by cases h; rw [hs.ints]; rfl
theorem DxL.ofInts {g : Gm} {S : List Addr} {H : Hp} : ∀ ns : List Int, DxL g S H (ns.map .int) (ns.map .int)
  | [] => .nil
  | n :: ns => .cons (.int n) (DxL.ofInts ns)
theorem DxL.bools {g : Gm} {S : List Addr} {H : Hp} : ∀ {vs : List V} {ns : List Bool}, DxL g S H vs (ns.map .bl) → vs = ns.map .bl
  | _, [], .nil => rfl
  | _, n :: ns, .cons h hs => by cases h; rw [hs.bools]; rfl
theorem SqT'.to {g : Gm} {S : List Addr} {H : Hp} {a : Addr} {vs : List V} (h : SqT' g S H a vs) : SqT g.K H a vs :=
  h.elim (fun q => .inl q.2) fun q => q.elim (fun r => by obtain r | ⟨_, r⟩ := r <;> cases r) .inr
theorem SqL'.to {g : Gm} {S : List Addr} {H : Hp} {a : Addr} {vs : List V} (h : SqL' g S H a vs) : SqL g.K H a vs :=
  h.elim (fun q => .inl q.2) fun q => q.elim (fun r => by obtain r | ⟨_, r⟩ := r <;> cases r) .inr
theorem SqT'.written {g : Gm} {S : List Addr} {H : Hp} {a : Addr} {vs : List V} (h : ∀ H, SqT g.K H a vs) : SqT' g S H a vs := .inr (h H0)

/-! ### states -/
/-- what a slot holds: data, or the k-th thing that may change -/
inductive Sl where
  | dat (d : D) | mu (k : Nat)
abbrev Rho := List (Option Sl)
abbrev Om := List (List D)
def SlOk (g : Gm) (S M : List Addr) (H : Hp) (v : V) : Sl → Prop
  | .dat d => Dx g (M ++ S) H v d
  | .mu k => ∃ a, M[k]? = some a ∧ v = .ref a
/-- it is known, and no table -/
def Nt (x : Option HO) : Prop := ∃ o, x = some o ∧ ∀ ps, o ≠ .tbl ps
theorem Nt.lst {x : Option HO} {vs : List V} (e : x = some (.lst vs)) : Nt x := ⟨_, e, fun ps z => by cases z⟩
theorem Nt.no {x : Option HO} (h : Nt x) (e : x = none) : False := by
  obtain ⟨o, h, _⟩ := h
  rw [e] at h
  cases h
/-- the state: ρ the slots' data, ω the changing lists, M their addresses, S what others may change -/
structure En (g : Gm) (S : List Addr) (ρ : Rho) (ω : Om) (M : List Addr) (σ : L2.St) (H : Hp) : Prop where
  len : ρ.length = σ.length
  slot : ∀ (i : Nat) s, ρ[i]? = some (some s) → ∃ v, σ[i]? = some (some v) ∧ SlOk g S M H v s
  mlen : M.length = ω.length
  own : ∀ (k : Nat) a ds, M[k]? = some a → ω[k]? = some ds → ∃ vs, H a = some (.lst vs) ∧ DxL g (M ++ S) H vs ds
  nd : M.Nodup
  dis : ∀ a ∈ M, a ∉ S
  live : ∀ a ∈ S, Nt (H a)
  tabs : LamX.Tabs g.T H
/-- a step: all off M stands, but the tables, which stay good -/
structure Stp (g : Gm) (M : List Addr) (H H' : Hp) : Prop where
  keep : ∀ a o, a ∉ M → (∀ ps, o ≠ .tbl ps) → H a = some o → H' a = some o
  tabs : LamX.Tabs g.T H → LamX.Tabs g.T H'
  /-- no tracked address is lost -/
  there : ∀ a, Nt (H a) → Nt (H' a)
/-- the changing lists as they are at H' -/
def Own (g : Gm) (S M : List Addr) (ω : Om) (H : Hp) : Prop := M.length = ω.length ∧ ∀ (k : Nat) a ds, M[k]? = some a → ω[k]? = some ds → ∃ vs, H a = some (.lst vs) ∧ DxL g (M ++ S) H vs ds
theorem En.ow {g : Gm} {S : List Addr} {ρ : Rho} {ω : Om} {M : List Addr} {σ : L2.St} {H : Hp} (E : En g S ρ ω M σ H) : Own g S M ω H := ⟨E.mlen, E.own⟩
theorem Stp.refl (g : Gm) (M : List Addr) (H : Hp) : Stp g M H H := ⟨fun _ _ _ _ e => e, id, fun _ h => h⟩
theorem Stp.trans {g : Gm} {M : List Addr} {H H1 H2 : Hp} (a : Stp g M H H1) (b : Stp g M H1 H2) : Stp g M H H2 :=
  ⟨fun x o m t e => b.keep x o m t (a.keep x o m t e), fun t => b.tabs (a.tabs t), fun x h => b.there x (a.there x h)⟩
theorem Stp.kp {g : Gm} {M S : List Addr} {H H' : Hp} (a : Stp g M H H') : Kp (M ++ S) (M ++ S) H H' := fun x o h t e =>
  ⟨h, a.keep x o (fun z => h (List.mem_append_left _ z)) t e⟩
/-- a step between states: the slots stay -/
theorem En.step {g : Gm} {S : List Addr} {ρ : Rho} {ω ω' : Om} {M : List Addr} {σ : L2.St} {H H' : Hp} (E : En g S ρ ω M σ H) (s : Stp g M H H') (o : Own g S M ω' H') : En g S ρ ω' M σ H' :=
  ⟨E.len, fun i sl e => by
    obtain ⟨v, h1, h2⟩ := E.slot i sl e
    refine ⟨v, h1, ?_⟩
    cases sl with
    | dat d => exact Dx.mono s.kp h2
    | mu k => exact h2, o.1, o.2, E.nd, E.dis, fun a ha => s.there a (E.live a ha), s.tabs E.tabs⟩
/-- a new object -/
theorem Stp.new {g : Gm} {M : List Addr} {H : Hp} {p : Addr} {o : HO} (hp : H p = none) : Stp g M H (upd H p o) := by
  refine ⟨fun a u _ _ e => ?_, fun t => t.ext fun b u e => ?_, fun a h => ?_⟩
  · rw [upd_ne (ne_of_none e hp)]; exact e
  · rw [upd_ne (ne_of_none e hp)]; exact e
  · obtain ⟨o, e, t⟩ := h
    exact ⟨o, by rw [upd_ne (ne_of_none e hp)]; exact e, t⟩
/-- all stands -/
theorem Stp.same {g : Gm} {M : List Addr} {H H' : Hp} (s : ∀ a o, H a = some o → H' a = some o) : Stp g M H H' :=
  ⟨fun a o _ _ e => s a o e, fun t => t.ext s, fun a ⟨o, e, t⟩ => ⟨o, s a o e, t⟩⟩
theorem Own.step {g : Gm} {S M : List Addr} {ω : Om} {H H' : Hp} (o : Own g S M ω H) (s : ∀ a o, H a = some o → (∀ ps, o ≠ .tbl ps) → H' a = some o) : Own g S M ω H' :=
  ⟨o.1, fun k a ds e1 e2 => by
    obtain ⟨vs, h1, h2⟩ := o.2 k a ds e1 e2
    exact ⟨vs, s a _ h1 (fun ps => by intro z; cases z), DxL.mono (fun x u hx ht e => ⟨hx, s x u e ht⟩) h2⟩⟩
theorem Own.new {g : Gm} {S M : List Addr} {ω : Om} {H : Hp} {p : Addr} {u : HO} (o : Own g S M ω H) (hp : H p = none) : Own g S M ω (upd H p u) :=
  o.step fun a o e _ => by rw [upd_ne (ne_of_none e hp)]; exact e
/-- a new address is in none of the lists -/
theorem En.out {g : Gm} {S : List Addr} {ρ : Rho} {ω : Om} {M : List Addr} {σ : L2.St} {H : Hp} (E : En g S ρ ω M σ H) {p : Addr} (hp : H p = none) : p ∉ M ++ S := fun z => by
  rcases List.mem_append.mp z with z | z
  · obtain ⟨k, hk, e⟩ := List.getElem_of_mem z
    have e1 : M[k]? = some p := by rw [List.getElem?_eq_getElem hk, e]
    have hk2 : k < ω.length := by rw [← E.mlen]; exact hk
    obtain ⟨vs, h1, _⟩ := E.own k p _ e1 (List.getElem?_eq_getElem hk2)
    rw [hp] at h1; cases h1
  · exact (E.live p z).no hp
theorem Own.out {g : Gm} {S M : List Addr} {ω : Om} {H : Hp} (o : Own g S M ω H) (live : ∀ a ∈ S, Nt (H a)) {p : Addr} (hp : H p = none) : p ∉ M ++ S := fun z => by
  rcases List.mem_append.mp z with z | z
  · obtain ⟨k, hk, e⟩ := List.getElem_of_mem z
    have e1 : M[k]? = some p := by rw [List.getElem?_eq_getElem hk, e]
    have hk2 : k < ω.length := by rw [← o.1]; exact hk
    obtain ⟨vs, h1, _⟩ := o.2 k p _ e1 (List.getElem?_eq_getElem hk2)
    rw [hp] at h1; cases h1
  · exact (live p z).no hp
end Hw
set_option Elab.async false
set_option linter.all false
set_option maxRecDepth 100000
set_option maxHeartbeats 2000000
/-! The judgements over data: expressions, arguments, tests. -/
namespace Hw
open PySem PySem.Spec PyProof.Rows L2

/-- what is wished of an exception; md: of any (else only of one whose context is None) -/
structure Wm where
  w : WX
  md : Bool
  /-- the code object and the name that a lambda's maker has -/
  lam : Option (Value × Str)
theorem XE_of {X : Cx} {W : WX} {u : Value} {s' : Shared} (x : L2N.XE X W u s') : L2.XE X W u s' := by
  obtain ⟨a, B, sI, pins, σ, H, cls, d, e, I, nb, up, sky, r⟩ := x
  refine ⟨a, B, sI, pins, σ, H, cls, d, e, I, nb, up, ?_, r⟩
  rcases sky with ⟨h1, h2, h3, oe, vs, h4, h5, h6⟩ | h | h
  · exact .inl ⟨h1, h2, h3, oe, vs, h4, h5.zc, h6⟩
  · exact .inr (.inl (L2H.flyingZ_imp (fun o z => z.zc) h))
  · exact .inr (.inr ⟨h.1, h.2.1, h.2.2.1, L2H.tracedZ_imp (fun o z => z.zc) h.2.2.2⟩)
structure Tk (X : Cx) (W : Wm) : Prop where
  any : W.md = true → L2.Takes X W.w
  non : L2N.Takes X W.w
theorem Tk.of {X : Cx} {W : WX} {l : Option (Value × Str)} (t : L2.Takes X W) : Tk X ⟨W, true, l⟩ := ⟨fun _ => t, fun u s' x => t u s' (XE_of x)⟩
theorem Tk.ofN {X : Cx} {W : WX} {l : Option (Value × Str)} (t : L2N.Takes X W) : Tk X ⟨W, false, l⟩ := ⟨fun z => (by cases z), t⟩
/-- the context's part that every body has -/
structure Bs (g : Gm) (k : Nat) (X : Cx) : Prop where
  prog : X.prog = g.P
  w : X.w = g.w
  K : X.K = g.K
  mg : X.mg = g.mg
  base : X.base = g.base
  calm : X.calm = true
  room : Room k X.A
/-- .. with its names, and what is wished of an exception -/
structure Bd (g : Gm) (N : List Str) (sc : Scope) (k : Nat) (W : Wm) (X : Cx) : Prop extends Bs g k X where
  hN : X.N = N
  hS : X.env.scope = sc
  nd : N.Nodup
  tk : Tk X W
  cq : ∀ c q, W.lam = some (c, q) → X.env.code = c ∧ X.env.qual = q

/-- an exception: its class, its fields (none: no dict) -/
structure Ex where
  c : Addr
  fs : Option (List (Str × D))
def XdOk (g : Gm) (S : List Addr) (H : Hp) (dd : Option Addr) (x : Ex) : Prop := match x.fs with
  | none => dd = none
  | some fs => ∃ a fvs, dd = some a ∧ H a = some (.xd fvs) ∧ a ∉ S ∧ fvs.map (·.1) = fs.map (·.1) ∧ DxL g S H (fvs.map (·.2)) (fs.map (·.2))
inductive Res where
  | val (d : D) | exc (x : Ex)
/-- what is to be shown of what follows -/
def RK (g : Gm) (W : Wm) (S M : List Addr) (ω : Om) (σ : L2.St) (H : Hp) (Q : VK) : Res → Prop
  | .val d => ∀ v H', Stp g M H H' → Own g S M ω H' → Dx g (M ++ S) H' v d → Q v H'
  | .exc x => ∀ dd H', Stp g M H H' → Own g S M ω H' → XdOk g (M ++ S) H' dd x → W.w (.ref x.c) dd σ H'

@[irreducible] def sE (X : Cx) (e : Expr) : TE := fun σ H Q => ∀ (pins : List (Addr × Obj)) (s : Shared), Inv X pins σ H s → wpAny (model X.prog X.w) X.A (eval e X.env) (EP X pins σ Q) X.xe s
@[irreducible] def sA (X : Cx) (es : List Expr) : TA := fun σ H Q => ∀ (pos : Pos) (pins : List (Addr × Obj)) (s : Shared), Inv X pins σ H s → wpAny (model X.prog X.w) X.A (spliced (backTo pos (starEach es X.env))) (AP X pins σ Q) X.xe s
@[irreducible] def sT (X : Cx) (e : Expr) : TT := fun σ H Q => ∀ (pins : List (Addr × Obj)) (s : Shared), Inv X pins σ H s → wpAny (model X.prog X.w) X.A (isTrue e X.env (eval e X.env)) (TP X pins σ Q) X.xe s
theorem pe_s (X : Cx) (e : Expr) : PE X e (sE X e) := ⟨fun pins s σ H Q I h => by unfold sE at h; exact h pins s I⟩
theorem pa_s (X : Cx) (es : List Expr) : PA X es (sA X es) := ⟨fun pos pins s σ H Q I h => by unfold sA at h; exact h pos pins s I⟩
theorem pt_s (X : Cx) (e : Expr) : PT X e (sT X e) := ⟨fun pins s σ H Q I h => by unfold sT at h; exact h pins s I⟩
theorem s_of {X : Cx} {e : Expr} {t : TE} (p : PE X e t) {σ : L2.St} {H : Hp} {Q : VK} (h : t σ H Q) : sE X e σ H Q := by unfold sE; exact fun pins s I => p.run pins s σ H Q I h
theorem sa_of {X : Cx} {es : List Expr} {t : TA} (p : PA X es t) {σ : L2.St} {H : Hp} {Q : List V → Hp → Prop} (h : t σ H Q) : sA X es σ H Q := by unfold sA; exact fun pos pins s I => p.run pos pins s σ H Q I h
theorem st_of {X : Cx} {e : Expr} {t : TT} (p : PT X e t) {σ : L2.St} {H : Hp} {Q : Bool → Hp → Prop} (h : t σ H Q) : sT X e σ H Q := by unfold sT; exact fun pins s I => p.run pins s σ H Q I h

section
variable (g : Gm) (N : List Str) (sc : Scope) (k : Nat) (W : Wm)
/-- e in the state (ρ, ω) comes to r, leaving ω' -/
def EvE (e : Expr) (ρ : Rho) (ω : Om) (r : Res) (ω' : Om) : Prop :=
  ∀ X, Bd g N sc k W X → ∀ (S M : List Addr) (σ : L2.St) (H : Hp), En g S ρ ω M σ H → ∀ Q : VK, RK g W S M ω' σ H Q r → sE X e σ H Q
def EvA (es : List Expr) (ρ : Rho) (ω : Om) (ds : List D) (ω' : Om) : Prop :=
  ∀ X, Bd g N sc k W X → ∀ (S M : List Addr) (σ : L2.St) (H : Hp), En g S ρ ω M σ H → ∀ Q : List V → Hp → Prop, (∀ vs H', Stp g M H H' → Own g S M ω' H' → DxL g (M ++ S) H' vs ds → Q vs H') → sA X es σ H Q
def EvT (e : Expr) (ρ : Rho) (ω : Om) (b : Bool) (ω' : Om) : Prop :=
  ∀ X, Bd g N sc k W X → ∀ (S M : List Addr) (σ : L2.St) (H : Hp), En g S ρ ω M σ H → ∀ Q : Bool → Hp → Prop, (∀ H', Stp g M H H' → Own g S M ω' H' → Q b H') → sT X e σ H Q
end

/-! ### operators on values -/
def Lv (S : List Addr) (H : Hp) : Prop := ∀ a ∈ S, Nt (H a)
/-- all that was tracked stands -/
def All (H H' : Hp) : Prop := ∀ a o, H a = some o → H' a = some o
theorem All.refl (H : Hp) : All H H := fun _ _ e => e
theorem All.new {H : Hp} {p : Addr} {o : HO} (hp : H p = none) : All H (upd H p o) := fun a u e => by
  rw [upd_ne (ne_of_none e hp)]; exact e
theorem All.kp {H H' : Hp} (a : All H H') (S : List Addr) : Kp S S H H' := fun x o h t e => ⟨h, a x o e⟩
theorem Lv.out {S : List Addr} {H : Hp} (l : Lv S H) {p : Addr} (hp : H p = none) : p ∉ S := fun z => (l p z).no hp
def RD2 (g : Gm) (r : R2) (d1 d2 d : D) : Prop :=
  ∀ (S : List Addr) (H : Hp) (x y : V) (Q : VK), Lv S H → Dx g S H x d1 → Dx g S H y d2 → (∀ v H', All H H' → Dx g S H' v d → Q v H') → r x y H Q
def RD1 (g : Gm) (r : V → Hp → VK → Prop) (d1 d : D) : Prop :=
  ∀ (S : List Addr) (H : Hp) (x : V) (Q : VK), Lv S H → Dx g S H x d1 → (∀ v H', All H H' → Dx g S H' v d → Q v H') → r x H Q
def RDL (g : Gm) (r : List V → Hp → VK → Prop) (ds : List D) (d : D) : Prop :=
  ∀ (S : List Addr) (H : Hp) (xs : List V) (Q : VK), Lv S H → DxL g S H xs ds → (∀ v H', All H H' → Dx g S H' v d → Q v H') → r xs H Q
/-- a binary operator, a comparison, a unary one, a subscript, a built-in's call, by data -/
def BinD (g : Gm) (k : Nat) (op : Operator) (d1 d2 d : D) : Prop := ∃ r : Cx → R2, ∀ X, Bs g k X → OpR X (binaryOp op) (r X) ∧ RD2 g (r X) d1 d2 d
def CmpD (g : Gm) (k : Nat) (op : CmpOp) (d1 d2 : D) (b : Bool) : Prop := ∃ r : Cx → R2, ∀ X, Bs g k X → OpR X (compareOp op) (r X) ∧ RD2 g (r X) d1 d2 (.bl b)
def IxD (g : Gm) (k : Nat) (d1 d2 d : D) : Prop := ∃ r : Cx → R2, ∀ X, Bs g k X → IxR X (r X) ∧ RD2 g (r X) d1 d2 d
def FnD (g : Gm) (k : Nat) (f : Value) (ds : List D) (d : D) : Prop := ∃ r : Cx → List V → Hp → VK → Prop, ∀ X, Bs g k X → CallR X f (r X) ∧ RDL g (r X) ds d

section
variable {g : Gm} {N : List Str} {sc : Scope} {k : Nat} {W : Wm} {ρ : Rho} {ω ω1 ω2 ω3 : Om} {pos : Pos} {S M : List Addr} {σ : L2.St} {H : Hp}
theorem Own.live' (o : Own g S M ω H) (l : Lv S H) : Lv (M ++ S) H := fun a h => by
  rcases List.mem_append.mp h with h | h
  · obtain ⟨i, hi, e⟩ := List.getElem_of_mem h
    have e1 : M[i]? = some a := by rw [List.getElem?_eq_getElem hi, e]
    have h2 : i < ω.length := by rw [← o.1]; exact hi
    obtain ⟨vs, h1, _⟩ := o.2 i a _ e1 (List.getElem?_eq_getElem h2)
    exact .lst h1
  · exact l a h
theorem En.live' (E : En g S ρ ω M σ H) : Lv (M ++ S) H := E.ow.live' E.live
theorem Stp.all {H' : Hp} (a : All H H') : Stp g M H H' := .same a
theorem Own.all {H' : Hp} (o : Own g S M ω H) (a : All H H') : Own g S M ω H' := o.step fun x u e _ => a x u e
/-- the state behind an expression -/
theorem En.go {H' : Hp} (E : En g S ρ ω M σ H) (s : Stp g M H H') (o : Own g S M ω1 H') : En g S ρ ω1 M σ H' := E.step s o

/-! ### names and constants -/
def visB (sc : Scope) (x : Str) : Bool := sc.names.lookup x == some .local || sc.names.lookup x == some .cell || sc.names.lookup x == some .free
theorem vis_of {x : Str} (h : visB sc x = true) : Vis sc x := by
  unfold visB at h
  simp only [Bool.or_eq_true, beq_iff_eq] at h
  rcases h with (h | h) | h
  · exact .inl h
  · exact .inr (.inl h)
  · exact .inr (.inr h)
theorem ev_var (i : Nat) {x : Str} {d : D} (hi : N[i]? = some x) (hd : ρ[i]? = some (some (.dat d))) (hv : visB sc x = true := by decide +kernel) (h1 : (x == ("__debug__" : Str)) = false := by decide)
    (h2 : (x == ("__classdict__" : Str)) = false := by decide) : EvE g N sc k W (.Name x pos) ρ ω (.val d) ω := fun X B S M σ H E Q q => by
  obtain ⟨v, e1, e2⟩ := E.slot i _ hd
  refine s_of (pe_var (i := i) (by rw [B.hN]; exact hi) (by rw [B.hS]; exact vis_of hv) h1 h2) ⟨v, e1, q v H (.refl g M H) E.ow e2⟩
theorem ev_int {i : Int} {j : Nat} : EvE g N sc k W (.Constant (.int i) j pos) ρ ω (.val (.int i)) ω := fun X B S M σ H E Q q => s_of pe_int (q _ _ (.refl g M H) E.ow (.int i))
theorem ev_bl {b : Bool} {j : Nat} : EvE g N sc k W (.Constant (.bool b) j pos) ρ ω (.val (.bl b)) ω := fun X B S M σ H E Q q => s_of pe_bl (q _ _ (.refl g M H) E.ow (.bl b))
theorem ev_non {j : Nat} : EvE g N sc k W (.Constant .none j pos) ρ ω (.val .non) ω := fun X B S M σ H E Q q => s_of pe_non (q _ _ (.refl g M H) E.ow .non)
theorem ev_str {x : Str} {j : Nat} : EvE g N sc k W (.Constant (.str x) j pos) ρ ω (.val (.str x)) ω := fun X B S M σ H E Q q => s_of pe_str (q _ _ (.refl g M H) E.ow (.str x))
/-- a name of the module: data at any heap -/
def Glo (g : Gm) (x : Str) (d : D) : Prop := ∃ (v : V) (u : Value), g.mg x = some u ∧ RelV v u ∧ ∀ S H, Dx g S H v d
theorem ev_glo {x : Str} {d : D} (h : Glo g x d) (hg : sc.names.lookup x = some .globalImplicit := by decide +kernel) (hd : (x == ("__debug__" : Str)) = false := by decide) : EvE g N sc k W (.Name x pos) ρ ω (.val d) ω := fun X B S M σ H E Q q => by
  obtain ⟨v, u, h1, h2, h3⟩ := h
  exact s_of (pe_glob (v := v) (u := u) (by show X.env.scope.names.lookup x = _; rw [B.hS]; exact hg) (by rw [B.mg]; exact h1) h2 hd) (q _ _ (.refl g M H) E.ow (h3 _ _))

/-! ### two in a row -/
theorem ev_bin {a b : Expr} {op : Operator} {d1 d2 d : D} (ha : EvE g N sc k W a ρ ω (.val d1) ω1) (hb : EvE g N sc k W b ρ ω1 (.val d2) ω2) (ho : BinD g k op d1 d2 d) : EvE g N sc k W (.BinOp a op b pos) ρ ω (.val d) ω2 := fun X B S M σ H E Q q => by
  obtain ⟨r, hr⟩ := ho
  obtain ⟨h1, h2⟩ := hr X B.toBs
  refine s_of (pe_op h1 (pe_s X a) (pe_s X b)) ?_
  refine ha X B S M σ H E _ fun x H1 s1 o1 x1 => ?_
  have E1 := E.go s1 o1
  refine hb X B S M σ H1 E1 _ fun y H2 s2 o2 y2 => ?_
  have E2 := E1.go s2 o2
  refine h2 (M ++ S) H2 x y _ E2.live' (Dx.mono s2.kp x1) y2 fun v H3 a3 v3 => ?_
  exact q v H3 ((s1.trans s2).trans (.all a3)) (o2.all a3) v3
theorem ev_cmp {a b : Expr} {op : CmpOp} {d1 d2 : D} {c : Bool} (ha : EvE g N sc k W a ρ ω (.val d1) ω1) (hb : EvE g N sc k W b ρ ω1 (.val d2) ω2) (ho : CmpD g k op d1 d2 c) (hm : behindInMarks op b = false := by first | exact nomark _ | rfl) :
    EvE g N sc k W (.Compare a [op] [b] pos) ρ ω (.val (.bl c)) ω2 := fun X B S M σ H E Q q => by
  obtain ⟨r, hr⟩ := ho
  obtain ⟨h1, h2⟩ := hr X B.toBs
  refine s_of (pe_cmpR h1 (pe_s X a) (pe_s X b) hm) ?_
  refine ha X B S M σ H E _ fun x H1 s1 o1 x1 => ?_
  have E1 := E.go s1 o1
  refine hb X B S M σ H1 E1 _ fun y H2 s2 o2 y2 => ?_
  have E2 := E1.go s2 o2
  refine h2 (M ++ S) H2 x y _ E2.live' (Dx.mono s2.kp x1) y2 fun v H3 a3 v3 => ?_
  exact q v H3 ((s1.trans s2).trans (.all a3)) (o2.all a3) v3
theorem ev_ix {a b : Expr} {d1 d2 d : D} (ha : EvE g N sc k W a ρ ω (.val d1) ω1) (hb : EvE g N sc k W b ρ ω1 (.val d2) ω2) (ho : IxD g k d1 d2 d) (hp : PlainIx b := by exact fun _ _ => rfl) : EvE g N sc k W (.Subscript a b pos) ρ ω (.val d) ω2 := fun X B S M σ H E Q q => by
  obtain ⟨r, hr⟩ := ho
  obtain ⟨h1, h2⟩ := hr X B.toBs
  refine s_of (pe_ix h1 (pe_s X a) (pe_s X b) hp) ?_
  refine ha X B S M σ H E _ fun x H1 s1 o1 x1 => ?_
  have E1 := E.go s1 o1
  refine hb X B S M σ H1 E1 _ fun y H2 s2 o2 y2 => ?_
  have E2 := E1.go s2 o2
  refine h2 (M ++ S) H2 x y _ E2.live' (Dx.mono s2.kp x1) y2 fun v H3 a3 v3 => ?_
  exact q v H3 ((s1.trans s2).trans (.all a3)) (o2.all a3) v3
theorem ev_neg {a : Expr} {i : Int} (ha : EvE g N sc k W a ρ ω (.val (.int i)) ω1) : EvE g N sc k W (.UnaryOp .USub a pos) ρ ω (.val (.int (-i))) ω1 := fun X B S M σ H E Q q => by
  refine s_of (pe_un un_neg (pe_s X a)) ?_
  refine ha X B S M σ H E _ fun x H1 s1 o1 x1 => ?_
  cases x1
  exact ⟨i, rfl, q _ _ s1 o1 (.int _)⟩

/-! ### arguments, displays -/
theorem ea_nil : EvA g N sc k W [] ρ ω [] ω := fun X B S M σ H E Q q => sa_of pa_nil (q [] H (.refl g M H) E.ow .nil)
theorem ea_cons {e : Expr} {es : List Expr} {d : D} {ds : List D} (he : EvE g N sc k W e ρ ω (.val d) ω1) (hr : EvA g N sc k W es ρ ω1 ds ω2)
    (hst : ∀ env : Env, starEach (e :: es) env = (false, eval e env) :: starEach es env := by exact fun _ => rfl) : EvA g N sc k W (e :: es) ρ ω (d :: ds) ω2 := fun X B S M σ H E Q q => by
  refine sa_of (pa_cons (pe_s X e) (pa_s X es) (hst X.env)) ?_
  refine he X B S M σ H E _ fun x H1 s1 o1 x1 => ?_
  have E1 := E.go s1 o1
  refine hr X B S M σ H1 E1 _ fun vs H2 s2 o2 y2 => ?_
  exact q (x :: vs) H2 (s1.trans s2) o2 (.cons (Dx.mono s2.kp x1) y2)
theorem ev_tup {es : List Expr} {x1 : Nat} {ds : List D} (h : EvA g N sc k W es ρ ω ds ω1) (hz : ds.length ≤ 1000 := by simp) : EvE g N sc k W (.Tuple es x1 pos) ρ ω (.val (.tup ds)) ω1 := fun X B S M σ H E Q q => by
  refine s_of (pe_tup (pa_s X es)) ?_
  refine h X B S M σ H E _ fun vs H1 s1 o1 x1 => ⟨?_, fun p hp => ?_⟩
  · rw [x1.length]; exact Nat.le_trans hz (by decide)
  · have E1 := E.go s1 o1
    refine q _ _ (s1.trans (.new hp)) (o1.new hp) (.tup (.inl ⟨E1.out hp, .inl upd_same⟩) (DxL.mono ((All.new hp).kp _) x1))
theorem ev_lst {es : List Expr} {ds : List D} (h : EvA g N sc k W es ρ ω ds ω1) (hz : ds.length ≤ 1000 := by simp) : EvE g N sc k W (.List es pos) ρ ω (.val (.lst ds)) ω1 := fun X B S M σ H E Q q => by
  refine s_of (pe_lst (pa_s X es)) ?_
  refine h X B S M σ H E _ fun vs H1 s1 o1 x1 => ⟨?_, fun p hp => ?_⟩
  · rw [x1.length]; exact Nat.le_trans hz (by decide)
  · have E1 := E.go s1 o1
    refine q _ _ (s1.trans (.new hp)) (o1.new hp) (.lst (E1.out hp) upd_same (DxL.mono ((All.new hp).kp _) x1))

/-! ### tests -/
theorem et_val {e : Expr} {b : Bool} (h : EvE g N sc k W e ρ ω (.val (.bl b)) ω1) (he : ∀ (env : Env) whole, isTrue e env whole = (do let v ← whole; standAt e.pos; holding [v] (truthy v)) := by intro _ _; rfl) : EvT g N sc k W e ρ ω b ω1 := fun X B S M σ H E Q q => by
  refine st_of (pt_val (pe_s X e) (he X.env)) ?_
  refine h X B S M σ H E _ fun x H1 s1 o1 x1 => ?_
  cases x1
  exact ⟨b, rfl, q _ s1 o1⟩
theorem et_cmp {a b : Expr} {op : CmpOp} {d1 d2 : D} {c : Bool} (ha : EvE g N sc k W a ρ ω (.val d1) ω1) (hb : EvE g N sc k W b ρ ω1 (.val d2) ω2) (ho : CmpD g k op d1 d2 c) (hm : behindInMarks op b = false := by first | exact nomark _ | rfl) :
    EvT g N sc k W (.Compare a [op] [b] pos) ρ ω c ω2 := fun X B S M σ H E Q q => by
  obtain ⟨r, hr⟩ := ho
  obtain ⟨h1, h2⟩ := hr X B.toBs
  refine st_of (pt_cmpR h1 (pe_s X a) (pe_s X b) hm) ?_
  refine ha X B S M σ H E _ fun x H1 s1 o1 x1 => ?_
  have E1 := E.go s1 o1
  refine hb X B S M σ H1 E1 _ fun y H2 s2 o2 y2 => ?_
  have E2 := E1.go s2 o2
  refine h2 (M ++ S) H2 x y _ E2.live' (Dx.mono s2.kp x1) y2 fun v H3 a3 v3 => ?_
  cases v3
  exact ⟨c, rfl, q H3 ((s1.trans s2).trans (.all a3)) (o2.all a3)⟩
def truB : D → Bool
  | .non => false
  | .bl b => b
  | .int i => i != 0
  | .str s => (s.length : Int) != 0
  | .tup ds => !ds.isEmpty
  | .lst ds => !ds.isEmpty
  | _ => true
def hasTru : D → Bool
  | .non => true | .bl _ => true | .int _ => true | .tup _ => true | .lst _ => true
  | _ => false
theorem DxL.emp {vs : List V} {ds : List D} (h : DxL g S H vs ds) : vs.isEmpty = ds.isEmpty := by
  cases h <;> rfl
theorem truV {v : V} {d : D} (hx : Dx g S H v d) (ht : hasTru d = true) : TruV g.K v H (truB d) := by
  cases hx with
  | non => rfl
  | bl b => rfl
  | int i => rfl
  | str s => cases ht
  | tup h hs =>
    refine .inr (.inl ⟨_, h.to, ?_⟩)
    rw [hs.emp] <;> rfl
  | lst ha h hs =>
    refine .inl ⟨_, .inl (.inl h), ?_⟩
    rw [hs.emp] <;> rfl
  | obj => cases ht
  | fn => cases ht
  | scr => cases ht
theorem et_tru {e : Expr} {d : D} (h : EvE g N sc k W e ρ ω (.val d) ω1) (ht : hasTru d = true := by rfl) (he : ∀ (env : Env) whole, isTrue e env whole = (do let v ← whole; standAt e.pos; holding [v] (truthy v)) := by intro _ _; rfl) :
    EvT g N sc k W e ρ ω (truB d) ω1 := fun X B S M σ H E Q q => by
  refine st_of (pt_truth (pe_s X e) (he X.env)) ?_
  refine h X B S M σ H E _ fun x H1 s1 o1 x1 => ?_
  refine ⟨truB d, ?_, q _ s1 o1⟩
  rw [B.K]
  exact truV x1 ht
theorem et_not {e : Expr} {b : Bool} (h : EvT g N sc k W e ρ ω b ω1) : EvT g N sc k W (.UnaryOp .Not e pos) ρ ω (!b) ω1 := fun X B S M σ H E Q q => by
  refine st_of (pt_not (pt_s X e)) ?_
  exact h X B S M σ H E _ fun H1 s1 o1 => q H1 s1 o1
@[irreducible] def sW (X : Cx) (e : Expr) : TT := fun σ H Q => ∀ (whole : Sem Value) (pins : List (Addr × Obj)) (s : Shared), Inv X pins σ H s → wpAny (model X.prog X.w) X.A (isTrue e X.env whole) (TP X pins σ Q) X.xe s
theorem pw_s (X : Cx) (e : Expr) : PW X e (sW X e) := ⟨fun wh pins s σ H Q I h => by unfold sW at h; exact h wh pins s I⟩
/-- a chain of and | or, as a test whose whole does not matter -/
def EvW (g : Gm) (N : List Str) (sc : Scope) (k : Nat) (W : Wm) (e : Expr) (ρ : Rho) (ω : Om) (b : Bool) (ω' : Om) : Prop :=
  ∀ X, Bd g N sc k W X → ∀ (S M : List Addr) (σ : L2.St) (H : Hp), En g S ρ ω M σ H → ∀ Q : Bool → Hp → Prop, (∀ H', Stp g M H H' → Own g S M ω' H' → Q b H') → sW X e σ H Q
theorem sw_of {X : Cx} {e : Expr} {t : TT} (p : PW X e t) {Q : Bool → Hp → Prop} (h : t σ H Q) : sW X e σ H Q := by unfold sW; exact fun wh pins s I => p.run wh pins s σ H Q I h
theorem et_w {e : Expr} {b : Bool} (h : EvW g N sc k W e ρ ω b ω1) : EvT g N sc k W e ρ ω b ω1 := fun X B S M σ H E Q q => st_of (pw_s X e).pt (h X B S M σ H E Q q)
theorem ew_and1 {e : Expr} {b : Bool} (h : EvT g N sc k W e ρ ω b ω1) : EvW g N sc k W (.BoolOp .And [e] pos) ρ ω b ω1 := fun X B S M σ H E Q q => sw_of (pw_and1 (pt_s X e)) (h X B S M σ H E Q q)
theorem ew_or1 {e : Expr} {b : Bool} (h : EvT g N sc k W e ρ ω b ω1) : EvW g N sc k W (.BoolOp .Or [e] pos) ρ ω b ω1 := fun X B S M σ H E Q q => sw_of (pw_or1 (pt_s X e)) (h X B S M σ H E Q q)
/-- and: the left is true | the left is false -/
theorem ew_and {a b : Expr} {rest : List Expr} {c : Bool} (ha : EvT g N sc k W a ρ ω true ω1) (hb : EvW g N sc k W (.BoolOp .And (b :: rest) pos) ρ ω1 c ω2) : EvW g N sc k W (.BoolOp .And (a :: b :: rest) pos) ρ ω c ω2 := fun X B S M σ H E Q q => by
  refine sw_of (pw_and (pt_s X a) (pw_s X _)) ?_
  refine ha X B S M σ H E _ fun H1 s1 o1 => ?_
  refine iteT ?_
  exact hb X B S M σ H1 (E.go s1 o1) _ fun H2 s2 o2 => q H2 (s1.trans s2) o2
theorem ew_and0 {a b : Expr} {rest : List Expr} (ha : EvT g N sc k W a ρ ω false ω1) : EvW g N sc k W (.BoolOp .And (a :: b :: rest) pos) ρ ω false ω1 := fun X B S M σ H E Q q => by
  refine sw_of (pw_and (pt_s X a) (pw_s X _)) ?_
  refine ha X B S M σ H E _ fun H1 s1 o1 => ?_
  exact iteF (q H1 s1 o1)
theorem ew_or {a b : Expr} {rest : List Expr} {c : Bool} (ha : EvT g N sc k W a ρ ω false ω1) (hb : EvW g N sc k W (.BoolOp .Or (b :: rest) pos) ρ ω1 c ω2) : EvW g N sc k W (.BoolOp .Or (a :: b :: rest) pos) ρ ω c ω2 := fun X B S M σ H E Q q => by
  refine sw_of (pw_or (pt_s X a) (pw_s X _)) ?_
  refine ha X B S M σ H E _ fun H1 s1 o1 => ?_
  refine iteF ?_
  exact hb X B S M σ H1 (E.go s1 o1) _ fun H2 s2 o2 => q H2 (s1.trans s2) o2
theorem ew_or0 {a b : Expr} {rest : List Expr} (ha : EvT g N sc k W a ρ ω true ω1) : EvW g N sc k W (.BoolOp .Or (a :: b :: rest) pos) ρ ω true ω1 := fun X B S M σ H E Q q => by
  refine sw_of (pw_or (pt_s X a) (pw_s X _)) ?_
  refine ha X B S M σ H E _ fun H1 s1 o1 => ?_
  exact iteT (q H1 s1 o1)
/-- and, or of pure tests whose answer is open -/
theorem ew_andP {a b : Expr} {rest : List Expr} {c1 c2 : Bool} (ha : EvT g N sc k W a ρ ω c1 ω) (hb : c1 = true → EvW g N sc k W (.BoolOp .And (b :: rest) pos) ρ ω c2 ω) : EvW g N sc k W (.BoolOp .And (a :: b :: rest) pos) ρ ω (c1 && c2) ω := by
  cases c1 with
  | true => exact ew_and ha (hb rfl)
  | false => exact ew_and0 ha
theorem ew_orP {a b : Expr} {rest : List Expr} {c1 c2 : Bool} (ha : EvT g N sc k W a ρ ω c1 ω) (hb : c1 = false → EvW g N sc k W (.BoolOp .Or (b :: rest) pos) ρ ω c2 ω) : EvW g N sc k W (.BoolOp .Or (a :: b :: rest) pos) ρ ω (c1 || c2) ω := by
  cases c1 with
  | true => exact ew_or0 ha
  | false => exact ew_or ha (hb rfl)
theorem EvE.is {e : Expr} {r r' : Res} (h : EvE g N sc k W e ρ ω r ω1) (e' : r = r') : EvE g N sc k W e ρ ω r' ω1 := e' ▸ h
theorem EvT.is {e : Expr} {b b' : Bool} (h : EvT g N sc k W e ρ ω b ω1) (e' : b = b') : EvT g N sc k W e ρ ω b' ω1 := e' ▸ h
/-- a if t else b -/
theorem ev_ifT {c a b : Expr} {r : Res} (hc : EvT g N sc k W c ρ ω true ω1) (ha : EvE g N sc k W a ρ ω1 r ω2) : EvE g N sc k W (.IfExp c a b pos) ρ ω r ω2 := fun X B S M σ H E Q q => by
  refine s_of (pe_ifExp (pt_s X c) (pe_s X a) (pe_s X b)) ?_
  refine hc X B S M σ H E _ fun H1 s1 o1 => iteT ?_
  refine ha X B S M σ H1 (E.go s1 o1) _ ?_
  cases r with
  | val d => exact fun v H2 s2 o2 x2 => q v H2 (s1.trans s2) o2 x2
  | exc x => exact fun dd H2 s2 o2 x2 => q dd H2 (s1.trans s2) o2 x2
theorem ev_ifF {c a b : Expr} {r : Res} (hc : EvT g N sc k W c ρ ω false ω1) (hb : EvE g N sc k W b ρ ω1 r ω2) : EvE g N sc k W (.IfExp c a b pos) ρ ω r ω2 := fun X B S M σ H E Q q => by
  refine s_of (pe_ifExp (pt_s X c) (pe_s X a) (pe_s X b)) ?_
  refine hc X B S M σ H E _ fun H1 s1 o1 => iteF ?_
  refine hb X B S M σ H1 (E.go s1 o1) _ ?_
  cases r with
  | val d => exact fun v H2 s2 o2 x2 => q v H2 (s1.trans s2) o2 x2
  | exc x => exact fun dd H2 s2 o2 x2 => q dd H2 (s1.trans s2) o2 x2
theorem ev_if {c a b : Expr} {t : Bool} {r1 r2 : Res} (hc : EvT g N sc k W c ρ ω t ω1) (ha : t = true → EvE g N sc k W a ρ ω1 r1 ω2) (hb : t = false → EvE g N sc k W b ρ ω1 r2 ω2) : EvE g N sc k W (.IfExp c a b pos) ρ ω (bif t then r1 else r2) ω2 := by
  cases t with
  | true => exact ev_ifT hc (ha rfl)
  | false => exact ev_ifF hc (hb rfl)
/-- and, or, not as values: bools -/
theorem ev_one {op : BoolOp} {a : Expr} {r : Res} (h : EvE g N sc k W a ρ ω r ω1) : EvE g N sc k W (.BoolOp op [a] pos) ρ ω r ω1 := fun X B S M σ H E Q q => s_of (pe_one (pe_s X a)) (h X B S M σ H E Q q)
theorem ev_and {a b : Expr} {rest : List Expr} {r : Res} (ha : EvE g N sc k W a ρ ω (.val (.bl true)) ω1) (hb : EvE g N sc k W (.BoolOp .And (b :: rest) pos) ρ ω1 r ω2) : EvE g N sc k W (.BoolOp .And (a :: b :: rest) pos) ρ ω r ω2 := fun X B S M σ H E Q q => by
  refine s_of (pe_and (pe_s X a) (pe_s X _)) ?_
  refine ha X B S M σ H E _ fun x H1 s1 o1 x1 => ?_
  cases x1
  refine ⟨true, rfl, iteT ?_⟩
  refine hb X B S M σ H1 (E.go s1 o1) _ ?_
  cases r with
  | val d => exact fun v H2 s2 o2 x2 => q v H2 (s1.trans s2) o2 x2
  | exc x => exact fun dd H2 s2 o2 x2 => q dd H2 (s1.trans s2) o2 x2
theorem ev_and0 {a b : Expr} {rest : List Expr} (ha : EvE g N sc k W a ρ ω (.val (.bl false)) ω1) : EvE g N sc k W (.BoolOp .And (a :: b :: rest) pos) ρ ω (.val (.bl false)) ω1 := fun X B S M σ H E Q q => by
  refine s_of (pe_and (pe_s X a) (pe_s X _)) ?_
  refine ha X B S M σ H E _ fun x H1 s1 o1 x1 => ?_
  cases x1
  exact ⟨false, rfl, iteF (q _ _ s1 o1 (.bl false))⟩
theorem ev_or {a b : Expr} {rest : List Expr} {r : Res} (ha : EvE g N sc k W a ρ ω (.val (.bl false)) ω1) (hb : EvE g N sc k W (.BoolOp .Or (b :: rest) pos) ρ ω1 r ω2) : EvE g N sc k W (.BoolOp .Or (a :: b :: rest) pos) ρ ω r ω2 := fun X B S M σ H E Q q => by
  refine s_of (pe_or (pe_s X a) (pe_s X _)) ?_
  refine ha X B S M σ H E _ fun x H1 s1 o1 x1 => ?_
  cases x1
  refine ⟨false, rfl, iteF ?_⟩
  refine hb X B S M σ H1 (E.go s1 o1) _ ?_
  cases r with
  | val d => exact fun v H2 s2 o2 x2 => q v H2 (s1.trans s2) o2 x2
  | exc x => exact fun dd H2 s2 o2 x2 => q dd H2 (s1.trans s2) o2 x2
theorem ev_or0 {a b : Expr} {rest : List Expr} (ha : EvE g N sc k W a ρ ω (.val (.bl true)) ω1) : EvE g N sc k W (.BoolOp .Or (a :: b :: rest) pos) ρ ω (.val (.bl true)) ω1 := fun X B S M σ H E Q q => by
  refine s_of (pe_or (pe_s X a) (pe_s X _)) ?_
  refine ha X B S M σ H E _ fun x H1 s1 o1 x1 => ?_
  cases x1
  exact ⟨true, rfl, iteT (q _ _ s1 o1 (.bl true))⟩
/-- pure: the answer open -/
theorem ev_andP {a b : Expr} {rest : List Expr} {c1 c2 : Bool} (ha : EvE g N sc k W a ρ ω (.val (.bl c1)) ω) (hb : c1 = true → EvE g N sc k W (.BoolOp .And (b :: rest) pos) ρ ω (.val (.bl c2)) ω) : EvE g N sc k W (.BoolOp .And (a :: b :: rest) pos) ρ ω (.val (.bl (c1 && c2))) ω := by
  cases c1 with
  | true => exact ev_and ha (hb rfl)
  | false => exact ev_and0 ha
theorem ev_orP {a b : Expr} {rest : List Expr} {c1 c2 : Bool} (ha : EvE g N sc k W a ρ ω (.val (.bl c1)) ω) (hb : c1 = false → EvE g N sc k W (.BoolOp .Or (b :: rest) pos) ρ ω (.val (.bl c2)) ω) : EvE g N sc k W (.BoolOp .Or (a :: b :: rest) pos) ρ ω (.val (.bl (c1 || c2))) ω := by
  cases c1 with
  | true => exact ev_or0 ha
  | false => exact ev_or ha (hb rfl)
/-- not of a value, by its truth -/
theorem ev_notV {a : Expr} {c : Bool} (ha : EvE g N sc k W a ρ ω (.val (.bl c)) ω1) : EvE g N sc k W (.UnaryOp .Not a pos) ρ ω (.val (.bl (!c))) ω1 := fun X B S M σ H E Q q => by
  refine s_of (pe_not (pe_s X a)) ?_
  refine ha X B S M σ H E _ fun x H1 s1 o1 x1 => ?_
  cases x1
  exact ⟨c, rfl, q _ _ s1 o1 (.bl _)⟩
end
end Hw
set_option Elab.async false
set_option linter.all false
set_option maxRecDepth 100000
set_option maxHeartbeats 2000000
/-! Operators, comparisons, subscripts, built-ins: by data. -/
namespace Hw
open PySem PySem.Spec PyProof.Rows L2

/-- fewer than n bits -/
def Bt (n : Nat) (i : Int) : Prop := i.natAbs < 2 ^ n
theorem Bt.mono {n m : Nat} {i : Int} (h : Bt n i) (l : n ≤ m) : Bt m i := Nat.lt_of_lt_of_le h (Nat.pow_le_pow_right (by decide) l)
theorem Bt.mul {n m : Nat} {i j : Int} (h : Bt n i) (q : Bt m j) : Bt (n + m) (i * j) := wide_lt h q
theorem Bt.add {n m : Nat} {i j : Int} (h : Bt n i) (q : Bt m j) : Bt (max n m + 1) (i + j) := by
  have h1 : i.natAbs < 2 ^ max n m := Nat.lt_of_lt_of_le h (Nat.pow_le_pow_right (by decide) (Nat.le_max_left ..))
  have h2 : j.natAbs < 2 ^ max n m := Nat.lt_of_lt_of_le q (Nat.pow_le_pow_right (by decide) (Nat.le_max_right ..))
  show (i + j).natAbs < 2 ^ (max n m + 1)
  rw [Nat.pow_succ]
  omega
theorem Bt.neg {n : Nat} {i : Int} (h : Bt n i) : Bt n (-i) := by show (-i).natAbs < _; rw [Int.natAbs_neg]; exact h
theorem Bt.pm {n : Nat} {i : Int} (h0 : -(2 ^ n : Nat) < i) (h1 : i < (2 ^ n : Nat)) : Bt n i := by show i.natAbs < _; omega

section
variable {g : Gm} {k : Nat}
theorem rd_I0 {f : Int → Int → V} {i j : Int} {d : D} (h : ∀ S H, Dx g S H (f i j) d) : RD2 g (rI0 f) (.int i) (.int j) d := fun S H x y Q l hx hy q => by
  cases hx; cases hy
  exact ⟨i, j, rfl, rfl, q _ H (.refl H) (h S H)⟩
theorem rd_I {C : Int → Int → Prop} {f : Int → Int → V} {i j : Int} {d : D} (c : C i j) (h : ∀ S H, Dx g S H (f i j) d) : RD2 g (rI C f) (.int i) (.int j) d := fun S H x y Q l hx hy q => by
  cases hx; cases hy
  exact ⟨i, j, rfl, rfl, c, q _ H (.refl H) (h S H)⟩
theorem bin_add {i j : Int} : BinD g k .Add (.int i) (.int j) (.int (i + j)) := ⟨fun _ => _, fun X B => ⟨op_add, rd_I0 fun S H => .int _⟩⟩
theorem bin_sub {i j : Int} : BinD g k .Sub (.int i) (.int j) (.int (i - j)) := ⟨fun _ => _, fun X B => ⟨op_sub, rd_I0 fun S H => .int _⟩⟩
theorem bin_mul {i j : Int} {a b : Nat} (ha : Bt a i) (hb : Bt b j) (h : a + b ≤ 900000) : BinD g k .Mult (.int i) (.int j) (.int (i * j)) :=
  ⟨fun _ => _, fun X B => ⟨op_mulW, rd_I (wide_mul (a := a + 1) (b := b + 1) (Bt.mono ha (Nat.le_succ _)) (Bt.mono hb (Nat.le_succ _)) (by omega) (by omega) (by omega)) fun S H => .int _⟩⟩
theorem bin_fdiv {i j : Int} {b : Nat} (h0 : 0 < j) (hb : Bt b j) (h : b ≤ 8000) : BinD g k .FloorDiv (.int i) (.int j) (.int (i / j)) :=
  ⟨fun _ => _, fun X B => ⟨op_fdivW, rd_I (wide_div (b := b + 1) h0 (Bt.mono hb (Nat.le_succ _)) (by omega) (by omega)) fun S H => .int _⟩⟩
theorem bin_mod {i j : Int} (h0 : 0 < j) : BinD g k .Mod (.int i) (.int j) (.int (i % j)) := ⟨fun _ => _, fun X B => ⟨op_mod, rd_I h0 fun S H => .int _⟩⟩
theorem bin_pow {i j : Int} (h : CPow i j) : BinD g k .Pow (.int i) (.int j) (.int (i ^ j.toNat)) := ⟨fun _ => _, fun X B => ⟨op_pow, rd_I h fun S H => .int _⟩⟩
theorem bin_shl {i j : Int} (h : CPow i j) : BinD g k .LShift (.int i) (.int j) (.int (i * 2 ^ j.toNat)) := ⟨fun _ => _, fun X B => ⟨op_shl, rd_I h fun S H => .int _⟩⟩
theorem bin_shr {i j : Int} (h : 0 ≤ j) : BinD g k .RShift (.int i) (.int j) (.int (i / 2 ^ j.toNat)) := ⟨fun _ => _, fun X B => ⟨op_shr, rd_I h fun S H => .int _⟩⟩
theorem bin_and1 {i : Int} : BinD g k .BitAnd (.int i) (.int 1) (.int (i % 2)) := ⟨fun _ => _, fun X B => ⟨op_andM, fun S H x y Q l hx hy q => by
  cases hx; cases hy
  exact ⟨i, 1, rfl, rfl, q _ H (.refl H) (.int _)⟩⟩⟩
theorem bin_addT {ds es : List D} (h : ds.length + es.length ≤ 1000000) : BinD g k .Add (.tup ds) (.tup es) (.tup (ds ++ es)) := ⟨fun X => rCatA X.K, fun X B => ⟨op_catA, fun S H x y Q l hx hy q => by
  cases hx with
  | @tup a vs _ ha hs =>
    cases hy with
    | @tup b ws _ hb ht =>
      refine ⟨a, b, vs, ws, rfl, rfl, by rw [B.K]; exact ha.to, by rw [B.K]; exact hb.to, ?_, fun e => ?_, fun _ e => ?_, fun _ _ p hp => ?_⟩
      · rw [hs.length, ht.length]; exact Nat.le_trans h (by decide)
      · subst e
        cases hs
        exact q _ H (.refl H) (.tup hb ht)
      · subst e
        cases ht
        rw [List.append_nil] at q
        exact q _ H (.refl H) (.tup ha hs)
      · exact q _ _ (.new hp) (.tup (.inl ⟨l.out hp, .inl upd_same⟩) (DxL.mono ((All.new hp).kp _) (hs.app ht)))⟩⟩
theorem bin_addL {ds es : List D} (h : ds.length + es.length ≤ 1000000) : BinD g k .Add (.lst ds) (.lst es) (.lst (ds ++ es)) := ⟨fun X => rCat, fun X B => ⟨op_cat, fun S H x y Q l hx hy q => by
  cases hx with
  | @lst a vs _ na ha hs =>
    cases hy with
    | @lst b ws _ nb hb ht =>
      refine ⟨a, b, vs, ws, rfl, rfl, ha, hb, ?_, fun p hp => ?_⟩
      · rw [hs.length, ht.length]; exact Nat.le_trans h (by decide)
      · exact q _ _ (.new hp) (.lst (l.out hp) upd_same (DxL.mono ((All.new hp).kp _) (hs.app ht)))⟩⟩
theorem DxL.rep {S : List Addr} {H : Hp} {vs : List V} {ds : List D} (h : DxL g S H vs ds) : ∀ n : Nat, DxL g S H (List.replicate n vs).flatten (List.replicate n ds).flatten
  | 0 => .nil
  | n + 1 => by
    rw [List.replicate_succ, List.flatten_cons, List.replicate_succ, List.flatten_cons]
    exact h.app (h.rep n)
theorem bin_repL {ds : List D} {n : Int} (h0 : 0 ≤ n) (h : ds.length * n.toNat ≤ 1000000) (h1 : n < 1000000) : BinD g k .Mult (.lst ds) (.int n) (.lst (List.replicate n.toNat ds).flatten) := ⟨fun X => rRep, fun X B => ⟨op_rep, fun S H x y Q l hx hy q => by
  cases hy
  cases hx with
  | @lst a vs _ na ha hs =>
    refine ⟨a, n, vs, rfl, rfl, ha, by omega, by omega, ?_, fun p hp => ?_⟩
    · rw [hs.length]; exact Nat.le_trans h (by decide)
    · exact q _ _ (.new hp) (.lst (l.out hp) upd_same (DxL.mono ((All.new hp).kp _) (hs.rep _)))⟩⟩
theorem bin_repT {ds : List D} {n : Int} (h0 : 2 ≤ n) (h1 : n ≤ 1000) (hd : ds ≠ []) (hz : ds.length ≤ 1000) : BinD g k .Mult (.tup ds) (.int n) (.tup (List.replicate n.toNat ds).flatten) := ⟨fun X => rRepT X.K, fun X B => ⟨op_repT, fun S H x y Q l hx hy q => by
  cases hy
  cases hx with
  | @tup a vs _ ha hs =>
    refine ⟨a, n, vs, rfl, rfl, by rw [B.K]; exact ha.to, fun e => ?_, h0, h1, by rw [hs.length]; exact hz, fun p hp => ?_⟩
    · subst e; cases hs; exact hd rfl
    · exact q _ _ (.new hp) (.tup (.inl ⟨l.out hp, .inl upd_same⟩) (DxL.mono ((All.new hp).kp _) (hs.rep _)))⟩⟩

/-! ### comparisons -/
theorem rd_cmp {f : Int → Int → Bool} {i j : Int} : RD2 g (rI0 fun i j => .bl (f i j)) (.int i) (.int j) (.bl (f i j)) := rd_I0 fun S H => .bl _
theorem cmp_lt {i j : Int} : CmpD g k .Lt (.int i) (.int j) (decide (i < j)) := ⟨fun _ => _, fun X B => ⟨op_lt, rd_I0 fun S H => .bl _⟩⟩
theorem cmp_le {i j : Int} : CmpD g k .LtE (.int i) (.int j) (decide (i ≤ j)) := ⟨fun _ => _, fun X B => ⟨op_le, rd_I0 fun S H => .bl _⟩⟩
theorem cmp_gt {i j : Int} : CmpD g k .Gt (.int i) (.int j) (decide (j < i)) := ⟨fun _ => _, fun X B => ⟨op_gt, rd_I0 fun S H => .bl _⟩⟩
theorem cmp_ge {i j : Int} : CmpD g k .GtE (.int i) (.int j) (decide (j ≤ i)) := ⟨fun _ => _, fun X B => ⟨op_ge, rd_I0 fun S H => .bl _⟩⟩
theorem dec_int {i j : Int} : decide (V.int i = V.int j) = decide (i = j) := by
  by_cases h : i = j
  · subst h; simp
  · rw [decide_eq_false h, decide_eq_false fun z => h (V.int.inj z)]
theorem cmp_eqI {i j : Int} : CmpD g k .Eq (.int i) (.int j) (decide (i = j)) := ⟨fun _ => rEq, fun X B => ⟨op_eq, fun S H x y Q l hx hy q => by
  cases hx; cases hy
  exact ⟨rfl, q _ H (.refl H) (by rw [dec_int]; exact .bl _)⟩⟩⟩
theorem cmp_neI {i j : Int} : CmpD g k .NotEq (.int i) (.int j) (!decide (i = j)) := ⟨fun _ => rNe, fun X B => ⟨op_ne, fun S H x y Q l hx hy q => by
  cases hx; cases hy
  exact ⟨rfl, q _ H (.refl H) (by rw [dec_int]; exact .bl _)⟩⟩⟩
def isNon : D → Bool
  | .non => true
  | _ => false
theorem dec_non {S : List Addr} {H : Hp} {v : V} {d : D} (h : Dx g S H v d) : decide (v = .non) = isNon d := by
  cases h <;> first | rfl | (exact decide_eq_false fun z => by cases z)
theorem cmp_isN {d : D} : CmpD g k .Is d .non (isNon d) := ⟨fun _ => _, fun X B => ⟨op_isN, fun S H x y Q l hx hy q => by
  cases hy
  exact ⟨rfl, q _ H (.refl H) (by rw [dec_non hx]; exact .bl _)⟩⟩⟩
theorem cmp_notN {d : D} : CmpD g k .IsNot d .non (!isNon d) := ⟨fun _ => _, fun X B => ⟨op_notN, fun S H x y Q l hx hy q => by
  cases hy
  exact ⟨rfl, q _ H (.refl H) (by rw [dec_non hx]; exact .bl _)⟩⟩⟩
theorem inV_ints {i : Int} : ∀ {ns : List Int}, inV (.int i) (ns.map .int) = decide (i ∈ ns)
  | [] => rfl
  | n :: ns => by
    have ih := inV_ints (i := i) (ns := ns)
    unfold inV at ih ⊢
    rw [List.map_cons, List.any_cons, ih]
    show ((n == i) || _) = _
    by_cases h : i = n
    · subst h; simp
    · by_cases h2 : i ∈ ns <;> simp [h, h2, Ne.symm h]
theorem flat_ints : ∀ {ns : List Int}, (ns.map V.int).all flatV = true
  | [] => rfl
  | n :: ns => by rw [List.map_cons, List.all_cons, flat_ints] <;> rfl
/-- an int in a tuple, a list of ints -/
theorem cmp_inT {i : Int} {ns : List Int} : CmpD g k .In (.int i) (.tup (ns.map .int)) (decide (i ∈ ns)) := ⟨fun X => rIn X.K false, fun X B => ⟨op_in_seq, fun S H x y Q l hx hy q => by
  cases hx
  cases hy with
  | @tup a vs _ ha hs =>
    have e := hs.ints
    subst e
    refine ⟨a, _, rfl, .inr (by rw [B.K]; exact ha.to), rfl, flat_ints, q _ H (.refl H) ?_⟩
    rw [if_neg Bool.false_ne_true, inV_ints]
    exact .bl _⟩⟩
theorem cmp_notInT {i : Int} {ns : List Int} : CmpD g k .NotIn (.int i) (.tup (ns.map .int)) (!decide (i ∈ ns)) := ⟨fun X => rIn X.K true, fun X B => ⟨op_notIn_seq, fun S H x y Q l hx hy q => by
  cases hx
  cases hy with
  | @tup a vs _ ha hs =>
    have e := hs.ints
    subst e
    refine ⟨a, _, rfl, .inr (by rw [B.K]; exact ha.to), rfl, flat_ints, q _ H (.refl H) ?_⟩
    rw [if_pos rfl, inV_ints]
    exact .bl _⟩⟩
theorem cmp_inL {i : Int} {ns : List Int} : CmpD g k .In (.int i) (.lst (ns.map .int)) (decide (i ∈ ns)) := ⟨fun X => rIn X.K false, fun X B => ⟨op_in_seq, fun S H x y Q l hx hy q => by
  cases hx
  cases hy with
  | @lst a vs _ na ha hs =>
    have e := hs.ints
    subst e
    refine ⟨a, _, rfl, .inl (.of ha), rfl, flat_ints, q _ H (.refl H) ?_⟩
    rw [if_neg Bool.false_ne_true, inV_ints]
    exact .bl _⟩⟩

/-! ### == of data -/
mutual
def D.py : D → PyData
  | .non => .none
  | .bl b => .bool b
  | .int i => .int i
  | .str s => .str s
  | .tup ds => .tuple (D.pyL ds)
  | .lst ds => .list (D.pyL ds)
  | _ => .none
def D.pyL : List D → List PyData
  | [] => []
  | d :: ds => d.py :: D.pyL ds
end
/-- plain data (no bools): depth at most n -/
inductive Sh : Nat → D → Prop
  | non {n} : Sh n .non
  | int {n i} : Sh n (.int i)
  | str {n s} (h : PyData.strOk s = true) : Sh n (.str s)
  | tup {n ds} : (∀ d ∈ ds, Sh n d) → Sh (n + 1) (.tup ds)
  | lst {n ds} : (∀ d ∈ ds, Sh n d) → Sh (n + 1) (.lst ds)
mutual
theorem Dx.dp {S : List Addr} {H : Hp} : ∀ {d : D} {v : V} {n : Nat}, Sh n d → Dx g S H v d → Dp g.K H v d.py
  | _, _, _, .non, .non => by rw [D.py]; exact .non
  | _, _, _, .int, .int i => by rw [D.py]; exact .int i
  | _, _, _, .str _, .str s => by rw [D.py]; exact .str s
  | _, _, _, .tup h, .tup ha hs => by rw [D.py]; exact .tup ha.to (DxL.dp h hs)
  | _, _, _, .lst h, .lst na ha hs => by rw [D.py]; exact .lst (.of ha) (DxL.dp h hs)
theorem DxL.dp {S : List Addr} {H : Hp} : ∀ {ds : List D} {vs : List V} {n : Nat}, (∀ d ∈ ds, Sh n d) → DxL g S H vs ds → DpAll g.K H vs (D.pyL ds)
  | _, _, _, _, .nil => by rw [D.pyL]; exact .nil
  | _, _, _, h, .cons q qs => by rw [D.pyL]; exact .cons (Dx.dp (h _ List.mem_cons_self) q) (DxL.dp (fun d hd => h d (List.mem_cons_of_mem _ hd)) qs)
end
end
mutual
theorem Sh.eqv : ∀ {d e : D} {n m : Nat}, Sh n d → Sh m e → (PyData.eqv d.py e.py = true ↔ d = e)
  | d, e, n, m, hd, he => by
    cases hd with
    | non => cases he <;> simp [D.py, PyData.eqv]
    | int => cases he <;> simp [D.py, PyData.eqv]
    | str => cases he <;> simp [D.py, PyData.eqv]
    | @tup n ds h =>
      cases he with
      | @tup m es h2 =>
        simp only [D.py, PyData.eqv, D.tup.injEq]
        exact Sh.eqvL h h2
      | _ => simp [D.py, PyData.eqv]
    | @lst n ds h =>
      cases he with
      | @lst m es h2 =>
        simp only [D.py, PyData.eqv, D.lst.injEq]
        exact Sh.eqvL h h2
      | _ => simp [D.py, PyData.eqv]
  termination_by d => sizeOf d
theorem Sh.eqvL : ∀ {ds es : List D} {n m : Nat}, (∀ d ∈ ds, Sh n d) → (∀ d ∈ es, Sh m d) → (PyData.eqvAll (D.pyL ds) (D.pyL es) = true ↔ ds = es)
  | [], [], _, _, _, _ => by simp [D.pyL, PyData.eqvAll]
  | [], _ :: _, _, _, _, _ => by simp [D.pyL, PyData.eqvAll]
  | _ :: _, [], _, _, _, _ => by simp [D.pyL, PyData.eqvAll]
  | d :: ds, e :: es, n, m, h, h2 => by
    simp only [D.pyL, PyData.eqvAll, Bool.and_eq_true, List.cons.injEq]
    rw [Sh.eqv (h d List.mem_cons_self) (h2 e List.mem_cons_self), Sh.eqvL (fun x hx => h x (List.mem_cons_of_mem _ hx)) (fun x hx => h2 x (List.mem_cons_of_mem _ hx))]
  termination_by ds => sizeOf ds
end
mutual
theorem Sh.lay : ∀ {d : D} {n : Nat}, Sh n d → d.py.canLay0 = true
  | d, n, h => by
    cases h with
    | non => simp [D.py, PyData.canLay0]
    | int => simp [D.py, PyData.canLay0]
    | str q => simp only [D.py, PyData.canLay0]; exact q
    | @tup n ds h => simp only [D.py, PyData.canLay0]; exact Sh.layL h
    | @lst n ds h => simp only [D.py, PyData.canLay0]; exact Sh.layL h
  termination_by d => sizeOf d
theorem Sh.layL : ∀ {ds : List D} {n : Nat}, (∀ d ∈ ds, Sh n d) → PyData.canLayAll0 (D.pyL ds) = true
  | [], _, _ => by simp [D.pyL, PyData.canLayAll0]
  | d :: ds, n, h => by
    simp only [D.pyL, PyData.canLayAll0, Bool.and_eq_true]
    exact ⟨Sh.lay (h d List.mem_cons_self), Sh.layL fun x hx => h x (List.mem_cons_of_mem _ hx)⟩
  termination_by ds => sizeOf ds
end
mutual
theorem Sh.dep : ∀ {d : D} {n : Nat}, Sh n d → d.py.depth ≤ n
  | d, n, h => by
    cases h with
    | non => simp [D.py, PyData.depth]
    | int => simp [D.py, PyData.depth]
    | str q => simp [D.py, PyData.depth]
    | @tup n ds h => simp only [D.py, PyData.depth]; exact Nat.succ_le_succ (Sh.depL h)
    | @lst n ds h => simp only [D.py, PyData.depth]; exact Nat.succ_le_succ (Sh.depL h)
  termination_by d => sizeOf d
theorem Sh.depL : ∀ {ds : List D} {n : Nat}, (∀ d ∈ ds, Sh n d) → PyData.depthAll (D.pyL ds) ≤ n
  | [], _, _ => by simp [D.pyL, PyData.depthAll]
  | d :: ds, n, h => by
    simp only [D.pyL, PyData.depthAll]
    exact Nat.max_le.mpr ⟨Sh.dep (h d List.mem_cons_self), Sh.depL fun x hx => h x (List.mem_cons_of_mem _ hx)⟩
  termination_by ds => sizeOf ds
end
theorem Sh.shaped {d : D} {n : Nat} (h : Sh n d) (hn : n ≤ 64) : SeqAt.shaped d.py = true := by
  unfold SeqAt.shaped
  rw [h.lay, decide_eq_true (Nat.le_trans h.dep hn)] <;> rfl
section
variable {g : Gm} {k : Nat}
/-- two data are told equal exactly if they are: b says which -/
theorem cmp_eqD {d e : D} {b : Bool} {n m : Nat} (hd : Sh n d) (he : Sh m e) (hb : b = true ↔ d = e) (hn : n ≤ 64 := by decide) (hm : m ≤ 64 := by decide) : CmpD g k .Eq d e b := ⟨fun X => rEqD X.K, fun X B => ⟨op_eqD (by have := B.room.un; omega), fun S H x y Q l hx hy q => by
  refine ⟨d.py, e.py, by rw [B.K]; exact Dx.dp hd hx, by rw [B.K]; exact Dx.dp he hy, hd.shaped hn, he.shaped hm, q _ H (.refl H) ?_⟩
  have z : PyData.eqv d.py e.py = b := by
    rw [Bool.eq_iff_iff, Sh.eqv hd he, hb]
  rw [z]
  exact .bl b⟩⟩
theorem cmp_neD {d e : D} {b : Bool} {n m : Nat} (hd : Sh n d) (he : Sh m e) (hb : b = true ↔ d ≠ e) (hn : n ≤ 64 := by decide) (hm : m ≤ 64 := by decide) : CmpD g k .NotEq d e b := ⟨fun X => rNeD X.K, fun X B => ⟨op_neD (by have := B.room.un; omega), fun S H x y Q l hx hy q => by
  refine ⟨d.py, e.py, by rw [B.K]; exact Dx.dp hd hx, by rw [B.K]; exact Dx.dp he hy, hd.shaped hn, he.shaped hm, q _ H (.refl H) ?_⟩
  have z : (!PyData.eqv d.py e.py) = b := by
    rw [Bool.eq_iff_iff, hb, ne_eq, ← Sh.eqv hd he]
    cases PyData.eqv d.py e.py <;> simp
  rw [z]
  exact .bl b⟩⟩
/-! ### subscripts -/
theorem ix_tupN {ds : List D} {i : Int} {d : D} (h0 : 0 ≤ i) (h : ds[i.toNat]? = some d) : IxD g k (.tup ds) (.int i) d := ⟨fun X => rIxT X.K, fun X B => ⟨ix_tup, fun S H x y Q l hx hy q => by
  cases hy
  cases hx with
  | @tup a vs _ ha hs =>
    obtain ⟨v, h1, h2⟩ := hs.get h
    refine ⟨a, vs, i, v, rfl, rfl, by rw [B.K]; exact ha.to, ?_, q _ H (.refl H) h2⟩
    have e : i = (i.toNat : Int) := by omega
    rw [e]
    exact atI_nat h1⟩⟩
theorem ix_lstN {ds : List D} {i : Int} {d : D} (h0 : 0 ≤ i) (h : ds[i.toNat]? = some d) : IxD g k (.lst ds) (.int i) d := ⟨fun X => rIxL X.K, fun X B => ⟨ix_list, fun S H x y Q l hx hy q => by
  cases hy
  cases hx with
  | @lst a vs _ na ha hs =>
    obtain ⟨v, h1, h2⟩ := hs.get h
    refine ⟨a, vs, i, v, rfl, rfl, .of ha, ?_, q _ H (.refl H) h2⟩
    have e : i = (i.toNat : Int) := by omega
    rw [e]
    exact atI_nat h1⟩⟩
/-- t[-1] -/
theorem ix_tupLast {ds : List D} {d : D} (h : ds.getLast? = some d) : IxD g k (.tup ds) (.int (-1)) d := ⟨fun X => rIxT X.K, fun X B => ⟨ix_tup, fun S H x y Q l hx hy q => by
  cases hy
  cases hx with
  | @tup a vs _ ha hs =>
    have hn : ds ≠ [] := by intro z; subst z; cases h
    have hl : ds[ds.length - 1]? = some d := by rw [← List.getLast?_eq_getElem?]; exact h
    obtain ⟨v, h1, h2⟩ := hs.get hl
    have hp : 0 < ds.length := List.length_pos_iff.mpr hn
    refine ⟨a, vs, -1, v, rfl, rfl, by rw [B.K]; exact ha.to, ?_, q _ H (.refl H) h2⟩
    unfold atI ixN
    rw [if_neg (by decide), if_pos (by have := hs.length; omega)]
    have e : (-1 + (vs.length : Int)).toNat = ds.length - 1 := by have := hs.length; omega
    rw [e]
    exact h1⟩⟩

/-! ### built-ins -/
theorem fn_len_t {ds : List D} : FnD g k (.builtin "len") [.tup ds] (.int ds.length) := ⟨fun X => _, fun X B => ⟨call_len_seq, fun S H xs Q l hx q => by
  cases hx with
  | cons h hr =>
    cases hr
    cases h with
    | @tup a vs _ ha hs =>
      refine ⟨a, vs, rfl, .inr (by rw [B.K]; exact ha.to), ?_⟩
      rw [hs.length]
      exact q _ H (.refl H) (.int _)⟩⟩
theorem fn_len_l {ds : List D} : FnD g k (.builtin "len") [.lst ds] (.int ds.length) := ⟨fun X => _, fun X B => ⟨call_len_seq, fun S H xs Q l hx q => by
  cases hx with
  | cons h hr =>
    cases hr
    cases h with
    | @lst a vs _ na ha hs =>
      refine ⟨a, vs, rfl, .inl (.of ha), ?_⟩
      rw [hs.length]
      exact q _ H (.refl H) (.int _)⟩⟩
theorem fn_len_s {ns : List Int} : FnD g k (.builtin "len") [.scr ns] (.int ns.length) := ⟨fun X => _, fun X B => ⟨call_len_seq, fun S H xs Q l hx q => by
  cases hx with
  | cons h hr =>
    cases hr
    cases h with
    | @scr a _ ha =>
      refine ⟨a, ns.map .int, rfl, .inl (by rw [B.K]; exact ha.to), ?_⟩
      rw [List.length_map]
      exact q _ H (.refl H) (.int _)⟩⟩
theorem fn_abs {i : Int} : FnD g k (.builtin "abs") [.int i] (.int i.natAbs) := ⟨fun X => _, fun X B => ⟨call_abs, fun S H xs Q l hx q => by
  cases hx with
  | cons h hr =>
    cases hr
    cases h
    refine ⟨i, rfl, ?_⟩
    have e : (if i < 0 then -i else i) = (i.natAbs : Int) := by omega
    rw [e]
    exact q _ H (.refl H) (.int _)⟩⟩
theorem fn_int {i : Int} : FnD g k (.type "int") [.int i] (.int i) := ⟨fun X => _, fun X B => ⟨call_int1, fun S H xs Q l hx q => by
  cases hx with
  | cons h hr =>
    cases hr
    cases h
    exact .inl ⟨i, rfl, q _ H (.refl H) (.int _)⟩⟩⟩
theorem fn_tuple_l {ds : List D} : FnD g k (.type "tuple") [.lst ds] (.tup ds) := ⟨fun X => _, fun X B => ⟨call_tuple_of, fun S H xs Q l hx q => by
  cases hx with
  | cons h hr =>
    cases hr
    cases h with
    | @lst a vs _ na ha hs =>
      exact ⟨a, vs, rfl, .inl ⟨.of ha, fun p hp => q _ _ (.new hp) (.tup (.inl ⟨l.out hp, .inl upd_same⟩) (DxL.mono ((All.new hp).kp _) hs))⟩⟩⟩⟩
theorem fn_tuple_t {ds : List D} : FnD g k (.type "tuple") [.tup ds] (.tup ds) := ⟨fun X => _, fun X B => ⟨call_tuple_of, fun S H xs Q l hx q => by
  cases hx with
  | cons h hr =>
    cases hr
    cases h with
    | @tup a vs _ ha hs =>
      exact ⟨a, vs, rfl, .inr ⟨by rw [B.K]; exact ha.to, q _ H (.refl H) (.tup ha hs)⟩⟩⟩⟩
theorem fn_list_t {ds : List D} : FnD g k (.type "list") [.tup ds] (.lst ds) := ⟨fun X => _, fun X B => ⟨call_list_of, fun S H xs Q l hx q => by
  cases hx with
  | cons h hr =>
    cases hr
    cases h with
    | @tup a vs _ ha hs =>
      exact ⟨a, vs, rfl, .inr (by rw [B.K]; exact ha.to), fun p hp => q _ _ (.new hp) (.lst (l.out hp) upd_same (DxL.mono ((All.new hp).kp _) hs))⟩⟩⟩
theorem fn_list_l {ds : List D} : FnD g k (.type "list") [.lst ds] (.lst ds) := ⟨fun X => _, fun X B => ⟨call_list_of, fun S H xs Q l hx q => by
  cases hx with
  | cons h hr =>
    cases hr
    cases h with
    | @lst a vs _ na ha hs =>
      exact ⟨a, vs, rfl, .inl (.of ha), fun p hp => q _ _ (.new hp) (.lst (l.out hp) upd_same (DxL.mono ((All.new hp).kp _) hs))⟩⟩⟩
theorem fn_sum {ns : List Int} : FnD g k (.builtin "sum") [.lst (ns.map .int)] (.int ns.sum) := ⟨fun X => _, fun X B => ⟨cr_sum B.calm, fun S H xs Q l hx q => by
  cases hx with
  | cons h hr =>
    cases hr
    cases h with
    | @lst a vs _ na ha hs =>
      have e := hs.ints
      subst e
      exact ⟨a, ns, rfl, .of ha, q _ H (.refl H) (.int _)⟩⟩⟩
theorem fn_all {bs : List Bool} : FnD g k (.builtin "all") [.lst (bs.map .bl)] (.bl (bs.all id)) := ⟨fun X => _, fun X B => ⟨cr_all B.calm, fun S H xs Q l hx q => by
  cases hx with
  | cons h hr =>
    cases hr
    cases h with
    | @lst a vs _ na ha hs =>
      have e := hs.bools
      subst e
      exact ⟨a, bs, rfl, .of ha, q _ H (.refl H) (.bl _)⟩⟩⟩
theorem fn_any {bs : List Bool} : FnD g k (.builtin "any") [.lst (bs.map .bl)] (.bl (bs.any id)) := ⟨fun X => _, fun X B => ⟨cr_any B.calm, fun S H xs Q l hx q => by
  cases hx with
  | cons h hr =>
    cases hr
    cases h with
    | @lst a vs _ na ha hs =>
      have e := hs.bools
      subst e
      exact ⟨a, bs, rfl, .of ha, q _ H (.refl H) (.bl _)⟩⟩⟩
/-- sorted of ints: the one sorted list -/
theorem fn_sorted {ns ms : List Int} (hz : ns.length < 64) (hp : ms.Perm ns) (ho : ms.Pairwise (· ≤ ·)) : FnD g k (.builtin "sorted") [.lst (ns.map .int)] (.lst (ms.map .int)) := ⟨fun X => _, fun X B => ⟨cr_sorted, fun S H xs Q l hx q => by
  cases hx with
  | cons h hr =>
    cases hr
    cases h with
    | @lst a vs _ na ha hs =>
      have e := hs.ints
      subst e
      refine ⟨a, ns, rfl, .of ha, hz, fun ns' p h1 h2 hp' => ?_⟩
      have e : ns' = ms := List.Perm.eq_of_pairwise (le := fun a b : Int => a ≤ b) (fun a b _ _ h h' => Int.le_antisymm h h') h2 ho (h1.trans hp.symm)
      subst e
      exact q _ _ (.new hp') (.lst (l.out hp') upd_same (DxL.ofInts ns'))⟩⟩
end
end Hw
set_option Elab.async false
set_option linter.all false
set_option maxRecDepth 100000
set_option maxHeartbeats 2000000
/-! Built-ins called, isinstance, slices, fields, what a for walks, comprehensions: by data. -/
namespace Hw
open PySem PySem.Spec PyProof.Rows L2

/-- the module's facts that the rules ask -/
structure Li (g : Gm) : Prop where
  len : g.mg "len" = none
  abs : g.mg "abs" = none
  int : g.mg "int" = none
  range : g.mg "range" = none
  tuple : g.mg "tuple" = none
  list : g.mg "list" = none
  isi : g.mg "isinstance" = none
  enum : g.mg "enumerate" = none
  zip : g.mg "zip" = none
  sum : g.mg "sum" = none
  sorted : g.mg "sorted" = none
  all : g.mg "all" = none
  any : g.mg "any" = none
  bool : g.mg "bool" = none
  ve : g.mg "ValueError" = none
  cl : Cls g.K g.cL
  nL : NoAttr g.K g.cL "lengths"
  nM : NoAttr g.K g.cL "marks"

section
variable {g : Gm} {N : List Str} {sc : Scope} {k : Nat} {W : Wm} {ρ : Rho} {ω ω1 ω2 ω3 : Om} {pos : Pos} {S M : List Addr} {σ : L2.St} {H : Hp}
def glB (sc : Scope) (x : Str) : Bool := sc.names.lookup x == some .globalImplicit
theorem gl_of {X : Cx} {x : Str} (B : Bd g N sc k W X) (h : glB sc x = true) : Gl X x := by
  show X.env.scope.names.lookup x = _
  rw [B.hS]
  exact beq_iff_eq.mp h
abbrev noStar (e : Expr) (es : List Expr) : Prop := ∀ env : Env, starEach (e :: es) env = (false, eval e env) :: starEach es env
abbrev noStars (es : List Expr) : Prop := ∀ (env : Env) (pos : Pos), (backTo pos (starEach es env)).any (·.1) = false
theorem ev_cb {x : Str} {id : String} {p : Pos} {e : Expr} {es : List Expr} {ds : List D} {d : D} (hm : g.mg x = none) (ha : EvA g N sc k W (e :: es) ρ ω ds ω1) (hf : FnD g k (.builtin id) ds d) (hv : bootBuiltins x = some (.builtin id) := by decide +kernel)
    (hg : glB sc x = true := by decide +kernel) (hn : x ≠ "__name__" := by decide) (hdb : (x == ("__debug__" : Str)) = false := by decide) (h1 : noStar e es := by exact fun _ => rfl) (h2 : noStars es := by exact fun _ _ => rfl) :
    EvE g N sc k W (.Call (.Name x p) (e :: es) [] pos) ρ ω (.val d) ω1 := fun X B S M σ H E Q q => by
  obtain ⟨r, hr⟩ := hf
  obtain ⟨c1, c2⟩ := hr X B.toBs
  refine s_of (pe_callB c1 (gl_of B hg) (by rw [B.mg]; exact hm) hv (pa_s X _) hn hdb (h1 X.env) (h2 X.env pos)) ?_
  refine ha X B S M σ H E _ fun vs H1 s1 o1 x1 => ?_
  have E1 := E.go s1 o1
  exact c2 (M ++ S) H1 vs _ E1.live' x1 fun v H2 a2 v2 => q v H2 (s1.trans (.all a2)) (o1.all a2) v2
theorem ev_cty {x : Str} {T : String} {p : Pos} {e : Expr} {es : List Expr} {ds : List D} {d : D} (hm : g.mg x = none) (ha : EvA g N sc k W (e :: es) ρ ω ds ω1) (hf : FnD g k (.type T) ds d) (hv : bootBuiltins x = some (.type T) := by decide +kernel)
    (hg : glB sc x = true := by decide +kernel) (hn : x ≠ "__name__" := by decide) (hdb : (x == ("__debug__" : Str)) = false := by decide) (h1 : noStar e es := by exact fun _ => rfl) (h2 : noStars es := by exact fun _ _ => rfl) :
    EvE g N sc k W (.Call (.Name x p) (e :: es) [] pos) ρ ω (.val d) ω1 := fun X B S M σ H E Q q => by
  obtain ⟨r, hr⟩ := hf
  obtain ⟨c1, c2⟩ := hr X B.toBs
  refine s_of (pe_callTy c1 (gl_of B hg) (by rw [B.mg]; exact hm) hv (pa_s X _) hn hdb (h1 X.env) (h2 X.env pos)) ?_
  refine ha X B S M σ H E _ fun vs H1 s1 o1 x1 => ?_
  have E1 := E.go s1 o1
  exact c2 (M ++ S) H1 vs _ E1.live' x1 fun v H2 a2 v2 => q v H2 (s1.trans (.all a2)) (o1.all a2) v2

/-! ### isinstance -/
def tyN : D → Option String
  | .non => some "NoneType"
  | .bl _ => some "bool"
  | .int _ => some "int"
  | .str _ => some "str"
  | .tup _ => some "tuple"
  | .lst _ => some "list"
  | _ => none
theorem Dx.ty {v : V} {d : D} {T : String} (h : Dx g S H v d) (e : tyN d = some T) : TyX g.K H v (.type T) := by
  cases h with
  | non => cases e; exact .base .non
  | bl b => cases e; exact .base (.bl b)
  | int i => cases e; exact .base (.int i)
  | str s => cases e; exact .base (.str s)
  | tup ha hs =>
    cases e
    rcases ha with ⟨_, ha | ⟨o, ha⟩⟩ | ha
    · exact .base (.tup ha)
    · exact .fTuple ha
    · rcases ha with (ha | ⟨_, ha⟩) | ⟨o, its, n, e1, e2, _⟩
      · cases ha
      · cases ha
      · exact .kTuple e1 e2
  | lst na ha hs => cases e; exact .base (.lst ha)
  | obj => cases e
  | fn => cases e
  | scr => cases e
theorem ev_isi {e : Expr} {x : Str} {p p2 : Pos} {d : D} {t T : String} {b : Bool} (L : Li g) (he : EvE g N sc k W e ρ ω (.val d) ω1) (hx : g.mg x = none) (ht : tyN d = some t) (hb : kitB t T = some b) (hv : bootBuiltins x = some (.type T) := by decide +kernel)
    (hg : glB sc "isinstance" = true := by decide +kernel) (hgx : glB sc x = true := by decide +kernel) (hn : x ≠ "__name__" := by decide) (hdb : (x == ("__debug__" : Str)) = false := by decide)
    (h1 : noStar e [.Name x p2] := by exact fun _ => rfl) :
    EvE g N sc k W (.Call (.Name "isinstance" p) [e, .Name x p2] [] pos) ρ ω (.val (.bl b)) ω1 := fun X B S M σ H E Q q => by
  refine s_of (pe_callB call_isi (gl_of B hg) (by rw [B.mg]; exact L.isi) (by decide +kernel) (pa_cons (pe_s X e) (pa_cons (pe_bltn (v := .ty T) (u := .type T) (gl_of B hgx) (by rw [B.mg]; exact hx) hv rfl hn hdb) pa_nil) (h1 X.env)) (by decide) (by decide) (h1 X.env)) ?_
  refine he X B S M σ H E _ fun v H1 s1 o1 x1 => ?_
  exact ⟨v, .ty T, .type t, .type T, b, rfl, .ty T, by rw [B.K]; exact x1.ty ht, kit_ty hb, q _ _ s1 o1 (.bl b)⟩
theorem ev_isiT {e : Expr} {x y : Str} {p p2 p3 p4 : Pos} {kk : Nat} {d : D} {t T U : String} {b c : Bool} (L : Li g) (he : EvE g N sc k W e ρ ω (.val d) ω1) (hx : g.mg x = none) (hy : g.mg y = none) (ht : tyN d = some t) (hb : kitB t T = some b) (hc : kitB t U = some c) (hv : bootBuiltins x = some (.type T) := by decide +kernel) (hw : bootBuiltins y = some (.type U) := by decide +kernel)
    (hg : glB sc "isinstance" = true := by decide +kernel) (hgx : glB sc x = true := by decide +kernel) (hgy : glB sc y = true := by decide +kernel) (hn : x ≠ "__name__" := by decide) (hdb : (x == ("__debug__" : Str)) = false := by decide) (hn2 : y ≠ "__name__" := by decide) (hdb2 : (y == ("__debug__" : Str)) = false := by decide)
    (h1 : noStar e [.Tuple [.Name x p2, .Name y p3] kk p4] := by exact fun _ => rfl) :
    EvE g N sc k W (.Call (.Name "isinstance" p) [e, .Tuple [.Name x p2, .Name y p3] kk p4] [] pos) ρ ω (.val (.bl (b || c))) ω1 := fun X B S M σ H E Q q => by
  refine s_of (pe_callB call_isiT (gl_of B hg) (by rw [B.mg]; exact L.isi) (by decide +kernel) (pa_cons (pe_s X e) (pa_cons (pe_tup (pa_cons (pe_bltn (v := .ty T) (u := .type T) (gl_of B hgx) (by rw [B.mg]; exact hx) hv rfl hn hdb)
    (pa_cons (pe_bltn (v := .ty U) (u := .type U) (gl_of B hgy) (by rw [B.mg]; exact hy) hw rfl hn2 hdb2) pa_nil))) pa_nil) (h1 X.env)) (by decide) (by decide) (h1 X.env)) ?_
  refine he X B S M σ H E _ fun v H1 s1 o1 x1 => ?_
  refine ⟨by show 2 ≤ sizeLine; decide, fun tp htp => ?_⟩
  refine ⟨v, tp, [.ty T, .ty U], .type t, [.type T, .type U], b || c, rfl, upd_same, .cons (.ty T) (.cons (.ty U) .nil), ?_, ?_, q _ _ (s1.trans (.new htp)) (o1.new htp) (.bl _)⟩
  · rw [B.K]
    exact (Dx.mono ((All.new htp).kp _) x1).ty ht
  · refine kitAny_cons (kit_ty hb) (fun e => ?_) (fun e => by rw [e] <;> rfl)
    rw [e]
    refine kitAny_cons (kit_ty hc) (fun e2 => ?_) (fun e2 => by rw [e2] <;> rfl)
    rw [e2]
    exact kitAny_nil

/-! ### slices of tuples, a list backwards -/
theorem DxL.cut {vs : List V} {ds : List D} (h : DxL g S H vs ds) (lo hi : Nat) : DxL g S H ((vs.drop lo).take hi) ((ds.drop lo).take hi) := (h.drop lo).take hi
theorem cut_all {vs : List V} {lo hi : Option Int} (e : HT.sIx vs.length 0 lo = 0 ∧ HT.sIx vs.length vs.length hi = vs.length) : cutV vs lo hi = vs := by
  unfold cutV
  rw [e.1, e.2, List.drop_zero, Nat.sub_zero, List.take_length]
theorem ev_slTo {e b : Expr} {p2 : Pos} {ds : List D} {i : Int} (he : EvE g N sc k W e ρ ω (.val (.tup ds)) ω1) (hb : EvE g N sc k W b ρ ω1 (.val (.int i)) ω2) (h0 : 0 ≤ i) (h1 : i ≤ ds.length) : EvE g N sc k W (.Subscript e (.Slice none (some b) none p2) pos) ρ ω (.val (.tup (ds.take i.toNat))) ω2 := fun X B S M σ H E Q q => by
  obtain ⟨n, rfl⟩ : ∃ n : Nat, i = (n : Int) := ⟨i.toNat, by omega⟩
  rw [Int.toNat_natCast] at q
  refine s_of (pe_slice sl_tupA (pe_s X e) po_none (po_some (pe_s X b))) ?_
  refine he X B S M σ H E _ fun x H1 s1 o1 x1 => ?_
  have E1 := E.go s1 o1
  refine hb X B S M σ H1 E1 _ fun y H2 s2 o2 y2 => ?_
  have E2 := E1.go s2 o2
  cases y2
  refine ⟨(n : Int), rfl, ?_⟩
  have x2 := Dx.mono (s2.kp (S := S)) x1
  cases x2 with
  | @tup a vs _ ha hs =>
    have hl := hs.length
    have ec : cutV vs none (some (n : Int)) = vs.take n := by
      unfold cutV
      rw [HT.sIx_none, HT.sIx_nat, List.drop_zero, Nat.sub_zero]
      congr 1
      omega
    refine ⟨a, vs, rfl, by rw [B.K]; exact ha.to, fun z => ?_, fun _ p hp => ?_⟩
    · have e2 : vs.take n = vs := by rw [← ec]; exact cut_all z
      have e3 : ds.take n = ds := by
        have l2 := congrArg List.length e2
        rw [List.length_take] at l2
        exact List.take_of_length_le (by omega)
      rw [e3] at q
      exact q _ _ (s1.trans s2) o2 (.tup ha hs)
    · rw [ec]
      exact q _ _ ((s1.trans s2).trans (.new hp)) (o2.new hp) (.tup (.inl ⟨E2.out hp, .inl upd_same⟩) (DxL.mono ((All.new hp).kp _) (hs.take _)))
theorem ev_slFrom {e b : Expr} {p2 : Pos} {ds : List D} {i : Int} (he : EvE g N sc k W e ρ ω (.val (.tup ds)) ω1) (hb : EvE g N sc k W b ρ ω1 (.val (.int i)) ω2) (h0 : 0 ≤ i) (h1 : i ≤ ds.length) : EvE g N sc k W (.Subscript e (.Slice (some b) none none p2) pos) ρ ω (.val (.tup (ds.drop i.toNat))) ω2 := fun X B S M σ H E Q q => by
  obtain ⟨n, rfl⟩ : ∃ n : Nat, i = (n : Int) := ⟨i.toNat, by omega⟩
  rw [Int.toNat_natCast] at q
  refine s_of (pe_slice sl_tupA (pe_s X e) (po_some (pe_s X b)) po_none) ?_
  refine he X B S M σ H E _ fun x H1 s1 o1 x1 => ?_
  have E1 := E.go s1 o1
  refine hb X B S M σ H1 E1 _ fun y H2 s2 o2 y2 => ?_
  have E2 := E1.go s2 o2
  cases y2
  refine ⟨(n : Int), rfl, ?_⟩
  have x2 := Dx.mono (s2.kp (S := S)) x1
  cases x2 with
  | @tup a vs _ ha hs =>
    have hl := hs.length
    have ec : cutV vs (some (n : Int)) none = vs.drop n := by
      unfold cutV
      rw [HT.sIx_none, HT.sIx_nat]
      rw [Nat.min_eq_left (by omega), List.take_of_length_le (by rw [List.length_drop]; omega)]
    refine ⟨a, vs, rfl, by rw [B.K]; exact ha.to, fun z => ?_, fun _ p hp => ?_⟩
    · have e2 : vs.drop n = vs := by rw [← ec]; exact cut_all z
      have e3 : ds.drop n = ds := by
        have l2 := congrArg List.length e2
        rw [List.length_drop] at l2
        by_cases hz : n = 0
        · rw [hz, List.drop_zero]
        · have : ds.length = 0 := by omega
          rw [List.length_eq_zero_iff.mp this, List.drop_nil]
      rw [e3] at q
      exact q _ _ (s1.trans s2) o2 (.tup ha hs)
    · rw [ec]
      exact q _ _ ((s1.trans s2).trans (.new hp)) (o2.new hp) (.tup (.inl ⟨E2.out hp, .inl upd_same⟩) (DxL.mono ((All.new hp).kp _) (hs.drop _)))
theorem ev_revL {e : Expr} {kk : Nat} {p1 p2 p3 : Pos} {ds : List D} (he : EvE g N sc k W e ρ ω (.val (.lst ds)) ω1) : EvE g N sc k W (.Subscript e (.Slice none none (some (.UnaryOp .USub (.Constant (.int 1) kk p1) p2)) p3) pos) ρ ω (.val (.lst ds.reverse)) ω1 := fun X B S M σ H E Q q => by
  refine s_of (pe_revL (pe_s X e)) ?_
  refine he X B S M σ H E _ fun x H1 s1 o1 x1 => ?_
  have E1 := E.go s1 o1
  cases x1 with
  | @lst a vs _ na ha hs =>
    refine ⟨a, vs, rfl, by rw [B.K]; exact .of ha, fun p hp => ?_⟩
    exact q _ _ (s1.trans (.new hp)) (o1.new hp) (.lst (E1.out hp) upd_same (DxL.mono ((All.new hp).kp _) hs.rev))
/-- a changing list as it is now, read backwards -/
theorem ev_revM {x : Str} {px : Pos} {kk i j : Nat} {p1 p2 p3 : Pos} {ds : List D} (hi : N[i]? = some x) (hd : ρ[i]? = some (some (.mu j))) (hw : ω[j]? = some ds) (hv : visB sc x = true := by decide +kernel) (h1 : (x == ("__debug__" : Str)) = false := by decide)
    (h2 : (x == ("__classdict__" : Str)) = false := by decide) : EvE g N sc k W (.Subscript (.Name x px) (.Slice none none (some (.UnaryOp .USub (.Constant (.int 1) kk p1) p2)) p3) pos) ρ ω (.val (.lst ds.reverse)) ω := fun X B S M σ H E Q q => by
  obtain ⟨v, e1, a, e2, e3⟩ := E.slot i _ hd
  subst e3
  obtain ⟨vs, e4, e5⟩ := E.own j a ds e2 hw
  refine s_of (pe_revL (pe_var (i := i) (by rw [B.hN]; exact hi) (by rw [B.hS]; exact vis_of hv) h1 h2)) ?_
  refine ⟨_, e1, a, vs, rfl, .of e4, fun p hp => ?_⟩
  exact q _ _ (.new hp) (E.ow.new hp) (.lst (E.out hp) upd_same (DxL.mono ((All.new hp).kp _) e5.rev))
/-! ### a line's fields -/
theorem ev_lengths {e : Expr} {d1 d2 : D} (L : Li g) (he : EvE g N sc k W e ρ ω (.val (.obj d1 d2)) ω1) (hb : ∀ env : Env, attributeBase e "lengths" env (eval e env) = eval e env := by intro _; rfl) : EvE g N sc k W (.Attribute e "lengths" pos) ρ ω (.val d1) ω1 := fun X B S M σ H E Q q => by
  refine s_of (pe_fld (pe_s X e) (hb X.env)) ?_
  refine he X B S M σ H E _ fun x H1 s1 o1 x1 => ?_
  cases x1 with
  | obj na ha h1 h2 => exact ⟨_, _, _, _, _, rfl, ha, by rw [B.K]; exact L.cl, by rw [B.K]; exact L.nL, rfl, q _ _ s1 o1 h1⟩
end

/-! ### what a for walks -/
/-- J yields the items, whatever happens off S, and stops behind them -/
def Yl (g : Gm) (S : List Addr) (J : It) (ds : List D) (H0 : Hp) : Prop :=
  ∀ (i : Nat) (H' : Hp) (S' : List Addr), Kp S S' H0 H' → Lv S' H' →
    (∀ d, ds[i]? = some d → J.go i H' ∧ ∀ x H'', J.yld i H' x H'' → All H' H'' ∧ Dx g S' H'' x d) ∧ (i = ds.length → J.stop i H')
@[irreducible] def sI (X : Cx) (tg iter : Expr) : TI := fun σ H R => ∀ (pins : List (Addr × Obj)) (s : Shared), Inv X pins σ H s →
  wpAny (model X.prog X.w) X.A (eval iter X.env) (fun v s1 => wpAny (model X.prog X.w) X.A (pyIter v) (PIE X pins σ tg R) X.xe s1) X.xe s
theorem pi_s (X : Cx) (tg iter : Expr) : PI X tg iter (sI X tg iter) := ⟨fun pins s σ H R I h => by unfold sI at h; exact h pins s I⟩
theorem si_of {X : Cx} {tg iter : Expr} {t : TI} (p : PI X tg iter t) {σ : L2.St} {H : Hp} {R : It → Hp → Prop} (h : t σ H R) : sI X tg iter σ H R := by unfold sI; exact fun pins s I => p.run pins s σ H R I h
def EvI (g : Gm) (N : List Str) (sc : Scope) (k : Nat) (W : Wm) (tg iter : Expr) (ρ : Rho) (ω : Om) (ds : List D) (ω' : Om) : Prop :=
  ∀ X, Bd g N sc k W X → ∀ (S M : List Addr) (σ : L2.St) (H : Hp), En g S ρ ω M σ H → ∀ R : It → Hp → Prop, (∀ J H', Stp g M H H' → Own g S M ω' H' → Yl g (M ++ S) J ds H' → R J H') → sI X tg iter σ H R
section
variable {g : Gm} {N : List Str} {sc : Scope} {k : Nat} {W : Wm} {ρ : Rho} {ω ω1 ω2 ω3 : Om} {pos : Pos} {S M : List Addr} {σ : L2.St} {H : Hp} {tg : Expr}
theorem DxL.get2 {vs : List V} {ds : List D} {i : Nat} {d : D} {v : V} (h : DxL g S H vs ds) (e : ds[i]? = some d) (e2 : vs[i]? = some v) : Dx g S H v d := by
  obtain ⟨v', h1, h2⟩ := h.get e
  rw [h1] at e2
  cases e2
  exact h2
theorem yl_list {a : Addr} {vs : List V} {ds : List D} (ha : SqL' g S H a vs) (hs : DxL g S H vs ds) : Yl g S (Itl g.K a) ds H := fun i H' S' kp l => by
  have ha' : SqL g.K H' a vs := (kp.sqL ha).to
  have hs' := DxL.mono kp hs
  refine ⟨fun d e => ⟨?_, fun x H'' y => ?_⟩, fun e => ⟨vs, ha', by rw [hs'.length, e]; exact Nat.le_refl _⟩⟩
  · obtain ⟨v, h1, _⟩ := hs'.get e
    exact ⟨vs, v, ha', h1⟩
  · obtain ⟨e1, e2⟩ := y
    subst e1
    exact ⟨.refl _, hs'.get2 e (e2 vs ha')⟩
theorem yl_tup {a : Addr} {vs : List V} {ds : List D} (ha : SqT' g S H a vs) (hs : DxL g S H vs ds) : Yl g S (Itt g.K a) ds H := fun i H' S' kp l => by
  have ha' : SqT g.K H' a vs := (kp.sqT ha).to
  have hs' := DxL.mono kp hs
  refine ⟨fun d e => ⟨?_, fun x H'' y => ?_⟩, fun e => ⟨vs, ha', by rw [hs'.length, e]; exact Nat.le_refl _⟩⟩
  · obtain ⟨v, h1, _⟩ := hs'.get e
    exact ⟨vs, v, ha', h1⟩
  · obtain ⟨e1, e2⟩ := y
    subst e1
    exact ⟨.refl _, hs'.get2 e (e2 vs ha')⟩
theorem ei_lst {e : Expr} {ds : List D} (he : EvE g N sc k W e ρ ω (.val (.lst ds)) ω1) : EvI g N sc k W tg e ρ ω ds ω1 := fun X B S M σ H E R q => by
  refine si_of (pi_list (pe_s X e)) ?_
  refine he X B S M σ H E _ fun x H1 s1 o1 x1 => ?_
  cases x1 with
  | @lst a vs _ na ha hs =>
    refine ⟨a, rfl, ⟨vs, .of ha⟩, ?_⟩
    rw [B.K]
    exact q _ _ s1 o1 (yl_list (.inl ⟨na, .inl ha⟩) hs)
theorem ei_scr {e : Expr} {ns : List Int} (he : EvE g N sc k W e ρ ω (.val (.scr ns)) ω1) : EvI g N sc k W tg e ρ ω (ns.map .int) ω1 := fun X B S M σ H E R q => by
  refine si_of (pi_list (pe_s X e)) ?_
  refine he X B S M σ H E _ fun x H1 s1 o1 x1 => ?_
  cases x1 with
  | @scr a _ ha =>
    refine ⟨a, rfl, ⟨_, by rw [B.K]; exact ha.to⟩, ?_⟩
    rw [B.K]
    exact q _ _ s1 o1 (yl_list ha (.ofInts ns))
theorem ei_tup {e : Expr} {ds : List D} (he : EvE g N sc k W e ρ ω (.val (.tup ds)) ω1) : EvI g N sc k W tg e ρ ω ds ω1 := fun X B S M σ H E R q => by
  refine si_of (pi_tup (pe_s X e)) ?_
  refine he X B S M σ H E _ fun x H1 s1 o1 x1 => ?_
  cases x1 with
  | @tup a vs _ ha hs =>
    refine ⟨a, rfl, ⟨vs, by rw [B.K]; exact ha.to⟩, ?_⟩
    rw [B.K]
    exact q _ _ s1 o1 (yl_tup ha hs)
/-- the ints from lo, n of them -/
def ups (lo : Int) (n : Nat) : List Int := (List.range n).map fun (i : Nat) => lo + (i : Int)
theorem ups_get {lo : Int} {n i : Nat} {d : D} (e : ((ups lo n).map D.int)[i]? = some d) : i < n ∧ d = .int (lo + (i : Int)) := by
  unfold ups at e
  rw [List.map_map, List.getElem?_map] at e
  by_cases h : i < n
  · rw [List.getElem?_range h] at e
    exact ⟨h, (Option.some.inj e).symm⟩
  · rw [List.getElem?_eq_none (by rw [List.length_range]; omega)] at e
    cases e
theorem yl_rng {lo : Int} {n : Nat} : Yl g S (Itr lo n) ((ups lo n).map .int) H := fun i H' S' kp l => by
  refine ⟨fun d e => ?_, fun e => ?_⟩
  · obtain ⟨h, e⟩ := ups_get e
    subst e
    refine ⟨h, fun x H'' y => ?_⟩
    obtain ⟨e1, e2⟩ := y
    subst e1 e2
    exact ⟨.refl _, .int _⟩
  · have : i = n := by
      rw [e]; unfold ups; rw [List.length_map, List.length_map, List.length_range]
    exact this ▸ Nat.le_refl _
theorem ei_r1 {a : Expr} {p : Pos} {n : Int} (L : Li g) (ha : EvA g N sc k W [a] ρ ω [.int n] ω1) (hn : -1000000 ≤ n ∧ n ≤ 100000000) (hg : glB sc "range" = true := by decide +kernel) (h1 : noStar a [] := by exact fun _ => rfl) : EvI g N sc k W tg (.Call (.Name "range" p) [a] [] pos) ρ ω ((ups 0 n.toNat).map .int) ω1 := fun X B S M σ H E R q => by
  refine si_of (pi_range1 (gl_of B hg) (by rw [B.mg]; exact L.range) (pa_s X _) (h1 X.env)) ?_
  refine ha X B S M σ H E _ fun vs H1 s1 o1 x1 => ?_
  cases x1 with
  | cons h hr =>
    cases hr
    cases h
    exact ⟨n, rfl, by omega, by omega, q _ _ s1 o1 yl_rng⟩
theorem ei_r2 {a b : Expr} {p : Pos} {m n : Int} (L : Li g) (ha : EvA g N sc k W [a, b] ρ ω [.int m, .int n] ω1) (hm : -1000000 ≤ m ∧ m ≤ 100000000) (hn : -1000000 ≤ n ∧ n ≤ 100000000) (hg : glB sc "range" = true := by decide +kernel)
    (h1 : ∀ env : Env, starEach [a, b] env = [(false, eval a env), (false, eval b env)] := by exact fun _ => rfl) (h2 : ∀ env : Env, starEach [b] env = [(false, eval b env)] := by exact fun _ => rfl) : EvI g N sc k W tg (.Call (.Name "range" p) [a, b] [] pos) ρ ω ((ups m (n - m).toNat).map .int) ω1 := fun X B S M σ H E R q => by
  refine si_of (pi_range2 (gl_of B hg) (by rw [B.mg]; exact L.range) (pa_s X _) (h1 X.env) (h2 X.env)) ?_
  refine ha X B S M σ H E _ fun vs H1 s1 o1 x1 => ?_
  cases x1 with
  | cons h hr =>
    cases hr with
    | cons h3 hr =>
      cases hr
      cases h
      cases h3
      exact ⟨m, n, rfl, ⟨by omega, by omega, by omega, by omega⟩, q _ _ s1 o1 yl_rng⟩
/-- downwards: lo, lo - 1, .. n of them -/
def downs (lo : Int) (n : Nat) : List Int := (List.range n).map fun (i : Nat) => lo - (i : Int)
theorem downs_get {lo : Int} {n i : Nat} {d : D} (e : ((downs lo n).map D.int)[i]? = some d) : i < n ∧ d = .int (lo - (i : Int)) := by
  unfold downs at e
  rw [List.map_map, List.getElem?_map] at e
  by_cases h : i < n
  · rw [List.getElem?_range h] at e
    exact ⟨h, (Option.some.inj e).symm⟩
  · rw [List.getElem?_eq_none (by rw [List.length_range]; omega)] at e
    cases e
theorem yl_dwn {lo : Int} {n : Nat} : Yl g S (Itc lo (-1) n) ((downs lo n).map .int) H := fun i H' S' kp l => by
  refine ⟨fun d e => ?_, fun e => ?_⟩
  · obtain ⟨h, e⟩ := downs_get e
    subst e
    refine ⟨h, fun x H'' y => ?_⟩
    obtain ⟨e1, e2⟩ := y
    subst e1 e2
    have e3 : lo - (i : Int) = lo + (i : Nat) * (-1 : Int) := by omega
    rw [e3]
    exact ⟨.refl _, .int _⟩
  · have : i = n := by
      rw [e]; unfold downs; rw [List.length_map, List.length_map, List.length_range]
    exact this ▸ Nat.le_refl _
theorem ei_r3 {a b c : Expr} {p : Pos} {m n : Int} (L : Li g) (ha : EvA g N sc k W [a, b, c] ρ ω [.int m, .int n, .int (-1)] ω1) (hm : -1000000 ≤ m ∧ m ≤ 100000000) (hn : -1000000 ≤ n ∧ n ≤ 100000000) (hg : glB sc "range" = true := by decide +kernel)
    (h1 : noStar a [b, c] := by exact fun _ => rfl) (h2 : noStars [b, c] := by exact fun _ _ => rfl) : EvI g N sc k W tg (.Call (.Name "range" p) [a, b, c] [] pos) ρ ω ((downs m (m - n).toNat).map .int) ω1 := fun X B S M σ H E R q => by
  refine si_of (pi_range3 (gl_of B hg) (by rw [B.mg]; exact L.range) (pa_s X _) (h1 X.env) (h2 X.env pos)) ?_
  refine ha X B S M σ H E _ fun vs H1 s1 o1 x1 => ?_
  cases x1 with
  | cons h hr =>
    cases hr with
    | cons h3 hr =>
      cases hr with
      | cons h4 hr =>
        cases hr
        cases h
        cases h3
        cases h4
        exact ⟨m, n, -1, (m - n).toNat, rfl, .neg (by omega) (by omega) (by omega) (by omega), q _ _ s1 o1 yl_dwn⟩
/-- pairs -/
def prs (ds es : List D) : List D := List.zipWith (fun d e => .tup [d, e]) ds es
theorem prs_get {ds es : List D} {i : Nat} {d : D} (e : (prs ds es)[i]? = some d) : ∃ d1 d2, ds[i]? = some d1 ∧ es[i]? = some d2 ∧ d = .tup [d1, d2] := by
  unfold prs at e
  rw [List.getElem?_zipWith] at e
  cases h1 : ds[i]? with
  | none => rw [h1] at e; cases e
  | some d1 =>
    cases h2 : es[i]? with
    | none => rw [h1, h2] at e; cases e
    | some d2 =>
      rw [h1, h2] at e
      exact ⟨d1, d2, rfl, rfl, (Option.some.inj e).symm⟩
theorem prs_len {ds es : List D} (h : ds.length = es.length) : (prs ds es).length = ds.length := by
  unfold prs
  rw [List.length_zipWith, h, Nat.min_self]
theorem Dx.pair {S' : List Addr} {H' H'' : Hp} {T : Addr} {x y : V} {d1 d2 : D} (l : Lv S' H') (hT : H' T = none) (h1 : Dx g S' H' x d1) (h2 : Dx g S' H' y d2) : Dx g S' (upd H' T (.tup [x, y])) (.ref T) (.tup [d1, d2]) :=
  .tup (.inl ⟨l.out hT, .inl upd_same⟩) (.cons (Dx.mono ((All.new hT).kp _) h1) (.cons (Dx.mono ((All.new hT).kp _) h2) .nil))
theorem yl_zipL {a b : Addr} {vs ws : List V} {ds es : List D} (ha : SqL' g S H a vs) (hs : DxL g S H vs ds) (hb : SqL' g S H b ws) (ht : DxL g S H ws es) (hl : ds.length = es.length) : Yl g S (Itz g.K a b) (prs ds es) H := fun i H' S' kp l => by
  have ha' : SqL g.K H' a vs := (kp.sqL ha).to
  have hb' : SqL g.K H' b ws := (kp.sqL hb).to
  have hs' := DxL.mono kp hs
  have ht' := DxL.mono kp ht
  refine ⟨fun d e => ?_, fun e => ⟨vs, ws, ha', hb', .inl (by rw [hs'.length, e, prs_len hl]; exact Nat.le_refl _)⟩⟩
  obtain ⟨d1, d2, e1, e2, e3⟩ := prs_get e
  subst e3
  obtain ⟨v1, h1, x1⟩ := hs'.get e1
  obtain ⟨v2, h2, x2⟩ := ht'.get e2
  refine ⟨⟨vs, ws, v1, v2, ha', hb', h1, h2⟩, fun x H'' y => ?_⟩
  obtain ⟨T, x', y', q1, q2, q3, q4, q5⟩ := y
  subst q1 q3
  exact ⟨.new q2, Dx.pair (H'' := H') l q2 (hs'.get2 e1 (q4 vs ha')) (ht'.get2 e2 (q5 ws hb'))⟩
theorem ei_zipL {a b : Expr} {p tp : Pos} {elts : List Expr} {kk : Nat} {ds es : List D} (L : Li g) (ha : EvA g N sc k W [a, b] ρ ω [.lst ds, .lst es] ω1) (hl : ds.length = es.length) (hg : glB sc "zip" = true := by decide +kernel)
    (h1 : noStar a [b] := by exact fun _ => rfl) (h2 : noStars [b] := by exact fun _ _ => rfl) : EvI g N sc k W (.Tuple elts kk tp) (.Call (.Name "zip" p) [a, b] [] pos) ρ ω (prs ds es) ω1 := fun X B S M σ H E R q => by
  refine si_of (pi_zip (gl_of B hg) (by rw [B.mg]; exact L.zip) (pa_s X _) (h1 X.env) (h2 X.env pos)) ?_
  refine ha X B S M σ H E _ fun vs H1 s1 o1 x1 => ?_
  cases x1 with
  | cons h hr =>
    cases hr with
    | cons h3 hr =>
      cases hr
      cases h with
      | lst na ha hs =>
        cases h3 with
        | lst nb hb ht =>
          refine ⟨_, _, _, _, rfl, .of ha, .of hb, ?_⟩
          rw [B.K]
          exact q _ _ s1 o1 (yl_zipL (.inl ⟨na, .inl ha⟩) hs (.inl ⟨nb, .inl hb⟩) ht hl)
end
end Hw
set_option Elab.async false
set_option linter.all false
set_option maxRecDepth 100000
set_option maxHeartbeats 2000000
/-! Targets, statements: by data. -/
namespace Hw
open PySem PySem.Spec PyProof.Rows L2

/-! ### the slots set, forgotten -/
section
variable {g : Gm} {ρ ρ' : Rho} {ω : Om} {S M : List Addr} {σ : L2.St} {H : Hp}
theorem En.setd (E : En g S ρ ω M σ H) {i : Nat} {v : V} {d : D} (hv : Dx g (M ++ S) H v d) : En g S (ρ.set i (some (.dat d))) ω M (σ.set i (some v)) H :=
  ⟨by rw [List.length_set, List.length_set, E.len], fun j s e => by
    by_cases h : i = j
    · subst h
      by_cases hl : i < ρ.length
      · rw [List.getElem?_set_self hl] at e
        cases e
        exact ⟨v, List.getElem?_set_self (by rw [← E.len]; exact hl), hv⟩
      · rw [List.getElem?_eq_none (by rw [List.length_set]; omega)] at e
        cases e
    · rw [List.getElem?_set_ne h] at e
      rw [List.getElem?_set_ne h]
      exact E.slot j s e, E.mlen, E.own, E.nd, E.dis, E.live, E.tabs⟩
theorem En.forget (E : En g S ρ ω M σ H) {i : Nat} : En g S (ρ.set i none) ω M (σ.set i none) H :=
  ⟨by rw [List.length_set, List.length_set, E.len], fun j s e => by
    by_cases h : i = j
    · subst h
      by_cases hl : i < ρ.length
      · rw [List.getElem?_set_self hl] at e; cases e
      · rw [List.getElem?_eq_none (by rw [List.length_set]; omega)] at e; cases e
    · rw [List.getElem?_set_ne h] at e
      rw [List.getElem?_set_ne h]
      exact E.slot j s e, E.mlen, E.own, E.nd, E.dis, E.live, E.tabs⟩
def wipeR (ρ : Rho) : List Nat → Rho
  | [] => ρ
  | v :: vs => (wipeR ρ vs).set v none
theorem En.wipe (E : En g S ρ ω M σ H) : ∀ vs : List Nat, En g S (wipeR ρ vs) ω M (L2.wipe σ vs) H
  | [] => E
  | v :: vs => (E.wipe vs).forget
/-- less known -/
inductive Le : Rho → Rho → Prop
  | nil : Le [] []
  | keep {s : Option Sl} {r r' : Rho} : Le r r' → Le (s :: r) (s :: r')
  | drop {s : Option Sl} {r r' : Rho} : Le r r' → Le (none :: r) (s :: r')
theorem Le.refl : ∀ ρ : Rho, Le ρ ρ
  | [] => .nil
  | _ :: r => .keep (Le.refl r)
theorem Le.length : ∀ {ρ ρ' : Rho}, Le ρ ρ' → ρ.length = ρ'.length
  | _, _, .nil => rfl
  | _, _, .keep h => congrArg Nat.succ h.length
  | _, _, .drop h => congrArg Nat.succ h.length
theorem Le.get : ∀ {ρ ρ' : Rho} {i : Nat} {s : Sl}, Le ρ ρ' → ρ[i]? = some (some s) → ρ'[i]? = some (some s)
  | _, _, _, _, .nil, e => by simp at e
  | _, _, 0, _, .keep _, e => e
  | _, _, 0, _, .drop _, e => by simp at e
  | _, _, i + 1, _, .keep h, e => h.get (i := i) e
  | _, _, i + 1, _, .drop h, e => h.get (i := i) e
theorem En.le (E : En g S ρ' ω M σ H) (h : Le ρ ρ') : En g S ρ ω M σ H :=
  ⟨by rw [h.length, E.len], fun j s e => E.slot j s (h.get e), E.mlen, E.own, E.nd, E.dis, E.live, E.tabs⟩
/-- from a first S' on: others that may change -/
theorem En.more {H' : Hp} {p : Addr} {vs : List V} (E : En g S ρ ω M σ H) (hp : H p = none) (e : H' = upd H p (.lst vs)) : En g (p :: S) ρ ω M σ H' := by
  subst e
  have kp : Kp (M ++ S) (M ++ p :: S) H (upd H p (.lst vs)) := fun a o h t e => by
    have ne : a ≠ p := ne_of_none e hp
    refine ⟨fun z => ?_, by rw [upd_ne ne]; exact e⟩
    rcases List.mem_append.mp z with z | z
    · exact h (List.mem_append_left _ z)
    · rcases List.mem_cons.mp z with z | z
      · exact ne z
      · exact h (List.mem_append_right _ z)
  have out := E.out hp
  refine ⟨E.len, fun i s e => ?_, E.mlen, fun k a ds e1 e2 => ?_, E.nd, fun a ha z => ?_, fun a ha => ?_, (Stp.new (g := g) (M := M) hp).tabs E.tabs⟩
  · obtain ⟨v, h1, h2⟩ := E.slot i s e
    refine ⟨v, h1, ?_⟩
    cases s with
    | dat d => exact Dx.mono kp h2
    | mu k => exact h2
  · obtain ⟨vs', h1, h2⟩ := E.own k a ds e1 e2
    exact ⟨vs', by rw [upd_ne (ne_of_none h1 hp)]; exact h1, DxL.mono kp h2⟩
  · rcases List.mem_cons.mp z with z | z
    · subst z; exact out (List.mem_append_left _ ha)
    · exact E.dis a ha z
  · rcases List.mem_cons.mp ha with z | z
    · subst z; exact .lst upd_same
    · exact (Stp.new (g := g) (M := M) hp).there a (E.live a z)
end

/-! ### targets -/
@[irreducible] def sG (X : Cx) (tg : Expr) : TG := fun v σ H Q => ∀ (pins : List (Addr × Obj)) (s : Shared) (u : Value), Inv X pins σ H s → RelV v u →
  wpAny (model X.prog X.w) X.A (assign tg X.env u) (fun _ s' => ∃ σ' H', Inv X pins σ' H' s' ∧ Q σ' H') X.xe s
theorem pg_s (X : Cx) (tg : Expr) : PG X tg (sG X tg) := ⟨fun pins s σ H v u Q I r h => by unfold sG at h; exact h pins s u I r⟩
theorem sg_of {X : Cx} {tg : Expr} {t : TG} (p : PG X tg t) {v : V} {σ : L2.St} {H : Hp} {Q : L2.St → Hp → Prop} (h : t v σ H Q) : sG X tg v σ H Q := by unfold sG; exact fun pins s u I r => p.run pins s σ H v u Q I r h
@[irreducible] def sGs (X : Cx) (tgs : List Expr) : TGs := fun vs σ H Q => ∀ (pins : List (Addr × Obj)) (s : Shared) (us : List Value), Inv X pins σ H s → Vals vs us →
  wpAny (model X.prog X.w) X.A (assignInOrder ((assignEach tgs X.env).map (·.2)) us) (fun _ s' => ∃ σ' H', Inv X pins σ' H' s' ∧ Q σ' H') X.xe s
theorem pgs_s (X : Cx) (tgs : List Expr) : PGs X tgs (sGs X tgs) := ⟨fun pins s σ H vs us Q I r h => by unfold sGs at h; exact h pins s us I r⟩
theorem sgs_of {X : Cx} {tgs : List Expr} {t : TGs} (p : PGs X tgs t) {vs : List V} {σ : L2.St} {H : Hp} {Q : L2.St → Hp → Prop} (h : t vs σ H Q) : sGs X tgs vs σ H Q := by unfold sGs; exact fun pins s us I r => p.run pins s σ H vs us Q I r h
/-- σ' is σ but at the slots is -/
def But (is : List Nat) (σ σ' : L2.St) : Prop := ∀ vs : List Nat, (∀ i ∈ is, i ∈ vs) → L2.wipe σ' vs = L2.wipe σ vs
theorem wipe_get (σ : L2.St) (vs : List Nat) (i : Nat) : (L2.wipe σ vs)[i]? = if i ∈ vs then σ[i]?.map (fun _ => none) else σ[i]? := by
  induction vs with
  | nil => simp [L2.wipe]
  | cons v vs ih =>
    unfold L2.wipe
    by_cases h : v = i
    · subst h
      rw [if_pos List.mem_cons_self]
      by_cases hl : v < σ.length
      · rw [List.getElem?_set_self (by rw [L2.wipe_length]; exact hl), List.getElem?_eq_getElem hl]
        rfl
      · rw [List.getElem?_eq_none (by rw [List.length_set, L2.wipe_length]; omega), List.getElem?_eq_none (by omega)]
        rfl
    · rw [List.getElem?_set_ne h, ih]
      by_cases h2 : i ∈ vs
      · rw [if_pos h2, if_pos (List.mem_cons_of_mem _ h2)]
      · rw [if_neg h2, if_neg (by simp [h2, Ne.symm h])]
theorem But.refl (σ : L2.St) : But [] σ σ := fun _ _ => rfl
theorem But.set {is : List Nat} {σ σ' : L2.St} {i : Nat} {v : Option V} (b : But is (σ.set i v) σ') : But (i :: is) σ σ' := fun vs h => by
  rw [b vs fun j hj => h j (List.mem_cons_of_mem _ hj)]
  refine List.ext_getElem? fun j => ?_
  rw [wipe_get, wipe_get]
  by_cases hj : j ∈ vs
  · rw [if_pos hj, if_pos hj]
    by_cases e : i = j
    · subst e
      by_cases hl : i < σ.length
      · rw [List.getElem?_set_self hl, List.getElem?_eq_getElem hl]
        rfl
      · rw [List.getElem?_eq_none (by rw [List.length_set]; omega), List.getElem?_eq_none (by omega)]
    · rw [List.getElem?_set_ne e]
  · rw [if_neg hj, if_neg hj]
    rw [List.getElem?_set_ne (show i ≠ j from fun e => hj (by rw [← e]; exact h i List.mem_cons_self))]
/-- a target takes d: ρ becomes ρ', the slots is change; fb: the cells that may be stored -/
def EvG (g : Gm) (N : List Str) (sc : Scope) (k : Nat) (W : Wm) (fb : Str → Bool) (tg : Expr) (d : D) (ρ ρ' : Rho) (is : List Nat) : Prop :=
  ∀ X, Bd g N sc k W X → (∀ x, fb x = true → X.fn x = true) → ∀ (S M : List Addr) (ω : Om) (σ : L2.St) (H : Hp) (v : V), En g S ρ ω M σ H → Dx g (M ++ S) H v d →
    ∀ Q : L2.St → Hp → Prop, (∀ σ', En g S ρ' ω M σ' H → But is σ σ' → Q σ' H) → sG X tg v σ H Q
def EvGs (g : Gm) (N : List Str) (sc : Scope) (k : Nat) (W : Wm) (fb : Str → Bool) (tgs : List Expr) (ds : List D) (ρ ρ' : Rho) (is : List Nat) : Prop :=
  ∀ X, Bd g N sc k W X → (∀ x, fb x = true → X.fn x = true) → ∀ (S M : List Addr) (ω : Om) (σ : L2.St) (H : Hp) (vs : List V), En g S ρ ω M σ H → DxL g (M ++ S) H vs ds →
    ∀ Q : L2.St → Hp → Prop, (∀ σ', En g S ρ' ω M σ' H → But is σ σ' → Q σ' H) → sGs X tgs vs σ H Q
def tgB (sc : Scope) (fb : Str → Bool) (x : Str) : Bool := sc.names.lookup x == some .local || (sc.names.lookup x == some .cell && fb x)
section
variable {g : Gm} {N : List Str} {sc : Scope} {k : Nat} {W : Wm} {fb : Str → Bool} {ρ ρ1 ρ2 : Rho} {pos : Pos}
theorem tg_loc {X : Cx} {x : Str} (B : Bd g N sc k W X) (hf : ∀ x, fb x = true → X.fn x = true) (h : tgB sc fb x = true) : Loc X.env.scope x ∧ (X.fn x = true ∨ X.env.scope.names.lookup x = some .local) := by
  unfold tgB at h
  rw [B.hS]
  simp only [Bool.or_eq_true, beq_iff_eq, Bool.and_eq_true] at h
  rcases h with h | ⟨h, h2⟩
  · exact ⟨.inl h, .inr h⟩
  · exact ⟨.inr h, .inl (hf x h2)⟩
theorem eg_name (i : Nat) {x : Str} {d : D} (hi : N[i]? = some x) (hx : tgB sc fb x = true) : EvG g N sc k W fb (.Name x pos) d ρ (ρ.set i (some (.dat d))) [i] := fun X B hf S M ω σ H v E hv Q q => by
  obtain ⟨h1, h2⟩ := tg_loc B hf hx
  exact sg_of (pg_name (i := i) (by rw [B.hN]; exact B.nd) (by rw [B.hN]; exact hi) h1 h2) (q _ (E.setd hv) (But.set (.refl _)))
theorem egs_nil : EvGs g N sc k W fb [] [] ρ ρ [] := fun X B hf S M ω σ H vs E hv Q q => by
  cases hv
  exact sgs_of pgs_nil ⟨rfl, q σ E (.refl _)⟩
theorem egs_cons (i : Nat) {x : Str} {px : Pos} {d : D} {ts : List Expr} {ds : List D} {is : List Nat} (hi : N[i]? = some x) (hx : tgB sc fb x = true) (hr : EvGs g N sc k W fb ts ds (ρ.set i (some (.dat d))) ρ2 is)
    (hs : ∀ env : Env, (assignEach (.Name x px :: ts) env).map (·.2) = assign (.Name x px) env :: (assignEach ts env).map (·.2) := by intro _; rfl) : EvGs g N sc k W fb (.Name x px :: ts) (d :: ds) ρ ρ2 (i :: is) := fun X B hf S M ω σ H vs E hv Q q => by
  cases hv with
  | cons h1 hr' =>
    obtain ⟨l1, l2⟩ := tg_loc B hf hx
    refine sgs_of (pgs_cons (pg_name (i := i) (by rw [B.hN]; exact B.nd) (by rw [B.hN]; exact hi) l1 l2) (pgs_s X ts) (hs X.env)) ?_
    exact ⟨_, _, rfl, hr X B hf S M ω _ H _ (E.setd h1) hr' _ fun σ' E' b => q σ' E' b.set⟩
theorem eg_tup {ts : List Expr} {kk : Nat} {ds : List D} {is : List Nat} (h : EvGs g N sc k W fb ts ds ρ ρ2 is) (hn : ∀ env : Env, (assignEach ts env).length = ds.length := by intro _; rfl) (hst : ∀ env : Env, (assignEach ts env).findIdx? (·.1) = none := by intro _; rfl) :
    EvG g N sc k W fb (.Tuple ts kk pos) (.tup ds) ρ ρ2 is := fun X B hf S M ω σ H v E hv Q q => by
  refine sg_of (pg_tup B.calm (pgs_s X ts) (hn X.env) (hst X.env)) ?_
  cases hv with
  | @tup a vs _ ha hs => exact ⟨a, vs, rfl, by rw [B.K]; exact ha.to, hs.length, h X B hf S M ω σ H vs E hs Q q⟩
end

/-! ### what comes of a block -/
inductive Out where
  | next (ρ : Rho) (ω : Om) | brk (ρ : Rho) (ω : Om) | cnt (ρ : Rho) (ω : Om) | ret (d : D) (ω : Om) | exc (x : Ex) (ω : Om)
/-- M' has M's first m places; what is more of it is new -/
structure Grw (m : Nat) (M M' : List Addr) (H : Hp) : Prop where
  pre : M'.take m = M.take m
  new : ∀ a ∈ M', a ∈ M ∨ ¬ Nt (H a)
theorem Grw.refl (m : Nat) (M : List Addr) (H : Hp) : Grw m M M H := ⟨rfl, fun _ h => .inl h⟩
def OK (g : Gm) (W : Wm) (m : Nat) (S M : List Addr) (H : Hp) (D : Ends) : Out → Prop
  | .next ρ ω => ∀ M' σ' H', Grw m M M' H → Stp g M H H' → En g S ρ ω M' σ' H' → D.nx σ' H'
  | .brk ρ ω => ∀ M' σ' H', Grw m M M' H → Stp g M H H' → En g S ρ ω M' σ' H' → D.bk σ' H'
  | .cnt ρ ω => ∀ M' σ' H', Grw m M M' H → Stp g M H H' → En g S ρ ω M' σ' H' → D.ct σ' H'
  | .ret d ω => ∀ v M' H', Grw m M M' H → Stp g M H H' → Own g S M' ω H' → Dx g (M' ++ S) H' v d → D.rt v H'
  | .exc x ω => ∀ dd σ' M' H', Grw m M M' H → Stp g M H H' → Own g S M' ω H' → XdOk g (M' ++ S) H' dd x → W.w (.ref x.c) dd σ' H'
section
variable {g : Gm} {W : Wm} {m : Nat} {S M M1 M2 : List Addr} {H H1 H2 : Hp} {D D' : Ends}
theorem Grw.trans (a : Grw m M M1 H) (s : Stp g M H H1) (b : Grw m M1 M2 H1) : Grw m M M2 H := ⟨b.pre.trans a.pre, fun x hx => by
  rcases b.new x hx with h | h
  · exact a.new x h
  · exact .inr fun z => h (s.there x z)⟩
theorem Stp.thru (s : Stp g M H H1) (a : Grw m M M1 H) (t : Stp g M1 H1 H2) : Stp g M H H2 := ⟨fun x o h1 h2 e => t.keep x o (fun z => by
    rcases a.new x z with h | h
    · exact h1 h
    · exact h ⟨o, e, h2⟩) h2 (s.keep x o h1 h2 e), fun h => t.tabs (s.tabs h), fun x h => t.there x (s.there x h)⟩
theorem OK.mono {o : Out} (a : Grw m M M1 H) (s : Stp g M H H1) (h : OK g W m S M H D o) : OK g W m S M1 H1 D o := by
  cases o with
  | next ρ ω => exact fun M' σ' H' b t E => h M' σ' H' (a.trans s b) (s.thru a t) E
  | brk ρ ω => exact fun M' σ' H' b t E => h M' σ' H' (a.trans s b) (s.thru a t) E
  | cnt ρ ω => exact fun M' σ' H' b t E => h M' σ' H' (a.trans s b) (s.thru a t) E
  | ret d ω => exact fun v M' H' b t o x => h v M' H' (a.trans s b) (s.thru a t) o x
  | exc x ω => exact fun dd σ' M' H' b t o x => h dd σ' M' H' (a.trans s b) (s.thru a t) o x
end

/-- a def's body: its frame, its exceptions pass -/
structure BdS (g : Gm) (N : List Str) (sc : Scope) (k : Nat) (W : Wm) (X : Cx) : Prop extends Bd g N sc k W X where
  po : PassesOwn (model X.prog X.w) X.A X.env X.xe
  poa : W.md = true → ∀ hd : Option Value, PassesOwnAt (model X.prog X.w) (X.A.mark hd) X.A X.env X.xe
  fn : ∀ x, X.fn x = true
  stk : X.stack = X.env :: X.outer
  fr : X.env.frame = some X.env.locals
  exn : X.ex = []
@[irreducible] def sSs (X : Cx) (sts : List Stmt) : TS := fun D σ H => ∀ (pins : List (Addr × Obj)) (s : Shared), Inv X pins σ H s → wpAny (model X.prog X.w) X.A (execs sts X.env) (SP X pins D) X.xe s
theorem pss_s (X : Cx) (sts : List Stmt) : PSs X sts (sSs X sts) := ⟨fun pins s σ H D I h => by unfold sSs at h; exact h pins s I⟩
theorem ss_of {X : Cx} {sts : List Stmt} {t : TS} (p : PSs X sts t) {D : Ends} {σ : L2.St} {H : Hp} (h : t D σ H) : sSs X sts D σ H := by unfold sSs; exact fun pins s I => p.run pins s σ H D I h
/-- the block sts in the state (ρ, ω): all that may come of it is told by P (m: the changing lists that came from outside) -/
def WS (g : Gm) (N : List Str) (sc : Scope) (k : Nat) (W : Wm) (m : Nat) (sts : List Stmt) (ρ : Rho) (ω : Om) (P : Out → Prop) : Prop :=
  ∀ X, BdS g N sc k W X → ∀ (S M : List Addr) (σ : L2.St) (H : Hp) (D : Ends), En g S ρ ω M σ H → (∀ o, P o → OK g W m S M H D o) → sSs X sts D σ H
/-- and then the rest -/
def Thn (g : Gm) (N : List Str) (sc : Scope) (k : Nat) (W : Wm) (m : Nat) (rest : List Stmt) (P : Out → Prop) : Out → Prop
  | .next ρ ω => WS g N sc k W m rest ρ ω P
  | o => P o
def envD (sc : Scope) : Env := { scope := sc, locals := 0, globals := 0, cells := [], qual := Str.empty, func := none, code := .none, frame := none, builtins := 0 }
theorem swapsWith_sc {e e' : Env} (h : e.scope = e'.scope) (v : Expr) (t : Option Expr) (l : Nat) : swapsWith v t l e = swapsWith v t l e' := by
  unfold swapsWith Env.blockKind Env.kindOf
  rw [h]
theorem swappedStores_sc {e e' : Env} (h : e.scope = e'.scope) (ts : List Expr) (v : Expr) : swappedStores ts v e = swappedStores ts v e' := by
  unfold swappedStores Env.blockKind Env.kindOf
  rw [h]
section
variable {g : Gm} {N : List Str} {sc : Scope} {k : Nat} {W : Wm} {m : Nat} {ρ ρ1 ρ2 : Rho} {ω ω1 ω2 : Om} {P P' : Out → Prop} {rest : List Stmt} {pos : Pos} {e : Expr}
theorem WS.imp {sts : List Stmt} (h : WS g N sc k W m sts ρ ω P) (i : ∀ o, P o → P' o) : WS g N sc k W m sts ρ ω P' := fun X B S M σ H D E q => h X B S M σ H D E fun o p => q o (i o p)
theorem WS.le {sts : List Stmt} (h : WS g N sc k W m sts ρ1 ω P) (l : Le ρ1 ρ) : WS g N sc k W m sts ρ ω P := fun X B S M σ H D E q => h X B S M σ H D (E.le l) q
theorem ws_nil (h : P (.next ρ ω)) : WS g N sc k W m [] ρ ω P := fun X B S M σ H D E q => ss_of pss_nil (q _ h M σ H (.refl _ _ _) (.refl _ _ _) E)
theorem ok_rest {X : Cx} {S M M' : List Addr} {σ' : L2.St} {H H' : Hp} {D : Ends} (B : BdS g N sc k W X) (h : WS g N sc k W m rest ρ1 ω1 P) (q : ∀ o, P o → OK g W m S M H D o) (a : Grw m M M' H) (s : Stp g M H H') (E : En g S ρ1 ω1 M' σ' H') :
    sSs X rest D σ' H' := h X B S M' σ' H' D E fun o p => (q o p).mono a s
theorem ws_set (i : Nat) {x : Str} {p' : Pos} {d : D} (he : EvE g N sc k W e ρ ω (.val d) ω1) (hr : WS g N sc k W m rest (ρ.set i (some (.dat d))) ω1 P) (hi : N[i]? = some x := by rfl) (hx : tgB sc (fun _ => true) x = true := by decide +kernel)
    (hs : swapsWith e (some (.Name x p')) pos.line (envD sc) = pure false := by rfl) : WS g N sc k W m (.Assign [.Name x p'] e pos :: rest) ρ ω P := fun X B S M σ H D E q => by
  obtain ⟨h1, h2⟩ := tg_loc B.toBd (fun x _ => B.fn x) hx
  refine ss_of (pss_cons (ps_set (i := i) (by rw [B.hN]; exact B.nd) (by rw [B.hN]; exact hi) h1 (pe_s X e) (by rw [swapsWith_sc (e' := envD sc) B.hS]; exact hs) h2) (pss_s X rest)) ?_
  refine he X B.toBd S M σ H E _ fun v H1 s1 o1 x1 => ?_
  exact ok_rest B hr q (.refl _ _ _) s1 ((E.go s1 o1).setd x1)
theorem ws_setX {i : Nat} {x : Str} {p' : Pos} {xx : Ex} (he : EvE g N sc k W e ρ ω (.exc xx) ω1) (hP : P (.exc xx ω1)) (hi : N[i]? = some x := by rfl) (hx : tgB sc (fun _ => true) x = true := by decide +kernel)
    (hs : swapsWith e (some (.Name x p')) pos.line (envD sc) = pure false := by rfl) : WS g N sc k W m (.Assign [.Name x p'] e pos :: rest) ρ ω P := fun X B S M σ H D E q => by
  obtain ⟨h1, h2⟩ := tg_loc B.toBd (fun x _ => B.fn x) hx
  refine ss_of (pss_cons (ps_set (i := i) (by rw [B.hN]; exact B.nd) (by rw [B.hN]; exact hi) h1 (pe_s X e) (by rw [swapsWith_sc (e' := envD sc) B.hS]; exact hs) h2) (pss_never (X := X))) ?_
  refine he X B.toBd S M σ H E _ fun dd H1 s1 o1 x1 => ?_
  exact q _ hP dd σ M H1 (.refl _ _ _) s1 o1 x1
theorem ws_ret {d : D} (he : EvE g N sc k W e ρ ω (.val d) ω1) (hP : P (.ret d ω1)) : WS g N sc k W m (.Return (some e) pos :: rest) ρ ω P := fun X B S M σ H D E q => by
  refine ss_of (pss_cons (ps_ret (pe_s X e)) (pss_never (X := X))) ?_
  refine he X B.toBd S M σ H E _ fun v H1 s1 o1 x1 => ?_
  exact q _ hP v M H1 (.refl _ _ _) s1 o1 x1
theorem ws_retX {xx : Ex} (he : EvE g N sc k W e ρ ω (.exc xx) ω1) (hP : P (.exc xx ω1)) : WS g N sc k W m (.Return (some e) pos :: rest) ρ ω P := fun X B S M σ H D E q => by
  refine ss_of (pss_cons (ps_ret (pe_s X e)) (pss_never (X := X))) ?_
  refine he X B.toBd S M σ H E _ fun dd H1 s1 o1 x1 => ?_
  exact q _ hP dd σ M H1 (.refl _ _ _) s1 o1 x1
theorem thn_ok {X : Cx} {S M : List Addr} {H : Hp} {D : Ends} (B : BdS g N sc k W X) (q : ∀ o, P o → OK g W m S M H D o) : ∀ o, Thn g N sc k W m rest P o → OK g W m S M H { D with nx := fun σ' H' => sSs X rest D σ' H' } o := fun o h => by
  cases o with
  | next ρ' ω' => exact fun M' σ' H' a s E => ok_rest B h q a s E
  | brk ρ' ω' => exact q _ h
  | cnt ρ' ω' => exact q _ h
  | ret d ω' => exact q _ h
  | exc x ω' => exact q _ h
theorem ws_if {c : Expr} {body orelse : List Stmt} {b : Bool} (hc : EvT g N sc k W c ρ ω b ω1) (h1 : b = true → WS g N sc k W m body ρ ω1 (Thn g N sc k W m rest P)) (h2 : b = false → WS g N sc k W m orelse ρ ω1 (Thn g N sc k W m rest P)) :
    WS g N sc k W m (.If c body orelse pos :: rest) ρ ω P := fun X B S M σ H D E q => by
  refine ss_of (pss_cons (ps_if (pt_s X c) (pss_s X body) (pss_s X orelse)) (pss_s X rest)) ?_
  refine hc X B.toBd S M σ H E _ fun H1 s1 o1 => ?_
  have E1 := E.go s1 o1
  cases b with
  | true => exact iteT (h1 rfl X B S M σ H1 _ E1 fun o p => (thn_ok B q o p).mono (.refl _ _ _) s1)
  | false => exact iteF (h2 rfl X B S M σ H1 _ E1 fun o p => (thn_ok B q o p).mono (.refl _ _ _) s1)
theorem ws_ifT {c : Expr} {body orelse : List Stmt} (hc : EvT g N sc k W c ρ ω true ω1) (h1 : WS g N sc k W m body ρ ω1 (Thn g N sc k W m rest P)) : WS g N sc k W m (.If c body orelse pos :: rest) ρ ω P := ws_if hc (fun _ => h1) (fun z => by cases z)
/-- the test fails, no else -/
theorem ws_ifF {c : Expr} {body : List Stmt} (hc : EvT g N sc k W c ρ ω false ω1) (h1 : WS g N sc k W m rest ρ ω1 P) : WS g N sc k W m (.If c body [] pos :: rest) ρ ω P := ws_if hc (fun z => by cases z) (fun _ => ws_nil h1)
theorem ws_ifE {c : Expr} {body orelse : List Stmt} (hc : EvT g N sc k W c ρ ω false ω1) (h1 : WS g N sc k W m orelse ρ ω1 (Thn g N sc k W m rest P)) : WS g N sc k W m (.If c body orelse pos :: rest) ρ ω P := ws_if hc (fun z => by cases z) (fun _ => h1)
/-- several names from a tuple -/
theorem ws_asg {tg : Expr} {d : D} {is : List Nat} (he : EvE g N sc k W e ρ ω (.val d) ω1) (hg : EvG g N sc k W (fun _ => true) tg d ρ ρ1 is) (hr : WS g N sc k W m rest ρ1 ω1 P)
    (hs : ∀ env : Env, swapsWithSole [tg] e pos.line env = pure false := by intro _; rfl) (hw : ∀ env : Env, swappedStores [tg] e env = pure none := by intro _; rfl) (h1 : ∀ env : Env, (assignEach [tg] env).map (·.2) = [assign tg env] := by intro _; rfl) :
    WS g N sc k W m (.Assign [tg] e pos :: rest) ρ ω P := fun X B S M σ H D E q => by
  refine ss_of (pss_cons (ps_asg (pe_s X e) (pg_s X tg) (hs X.env) (hw X.env) (h1 X.env)) (pss_s X rest)) ?_
  refine he X B.toBd S M σ H E _ fun v H1 s1 o1 x1 => ?_
  exact hg X B.toBd (fun x _ => B.fn x) S M ω1 σ H1 v (E.go s1 o1) x1 _ fun σ' E' _ => ok_rest B hr q (.refl _ _ _) s1 E'
/-- a, b = e1, e2: plain locals -/
theorem ws_par (i j : Nat) {x y : Str} {a b : Expr} {px py pt : Pos} {kt k2 : Nat} {pt2 : Pos} {d1 d2 : D} (ha : EvA g N sc k W [a, b] ρ ω [d1, d2] ω1) (hr : WS g N sc k W m rest ((ρ.set i (some (.dat d1))).set j (some (.dat d2))) ω1 P)
    (hi : N[i]? = some x := by rfl) (hj : N[j]? = some y := by rfl) (hij : i ≠ j := by decide) (hx : sc.names.lookup x = some .local := by decide +kernel) (hy : sc.names.lookup y = some .local := by decide +kernel)
    (hw : swappedStores [.Tuple [.Name x px, .Name y py] kt pt] (.Tuple [a, b] k2 pt2) (envD sc) = pure (some [x, y]) := by rfl)
    (hs : ∀ env : Env, swapsWithSole [.Tuple [.Name x px, .Name y py] kt pt] (.Tuple [a, b] k2 pt2) pos.line env = pure false := by intro _; rfl) :
    WS g N sc k W m (.Assign [.Tuple [.Name x px, .Name y py] kt pt] (.Tuple [a, b] k2 pt2) pos :: rest) ρ ω P := fun X B S M σ H D E q => by
  refine ss_of (pss_cons (ps_par B.calm (by rw [B.hN]; exact B.nd) (by rw [B.hN]; exact hi) (by rw [B.hN]; exact hj) hij (by rw [B.hS]; exact hx) (by rw [B.hS]; exact hy) (pa_s X _) (by rw [swappedStores_sc (e' := envD sc) B.hS]; exact hw) (hs X.env)) (pss_s X rest)) ?_
  refine ha X B.toBd S M σ H E _ fun vs H1 s1 o1 x1 => ?_
  cases x1 with
  | cons h1 hr1 =>
    cases hr1 with
    | cons h2 hr2 =>
      cases hr2
      exact ⟨_, _, rfl, ok_rest B hr q (.refl _ _ _) s1 (((E.go s1 o1).setd h1).setd h2)⟩
theorem ws_pass (h : WS g N sc k W m rest ρ ω P) : WS g N sc k W m (.Pass pos :: rest) ρ ω P := fun X B S M σ H D E q => ss_of (pss_cons ps_pass (pss_s X rest)) (h X B S M σ H D E q)
end
end Hw
set_option Elab.async false
set_option linter.all false
set_option maxRecDepth 100000
set_option maxHeartbeats 2000000
/-! Comprehensions, loops, lists that change: by data. -/
namespace Hw
open PySem PySem.Spec PyProof.Rows L2

abbrev WF : Wm := ⟨fun _ _ _ _ => False, true, none⟩
section
variable {g : Gm} {N : List Str} {sc : Scope} {k : Nat} {W : Wm} {ρ ρ1 ρ2 : Rho} {ω ω1 ω2 ω3 : Om} {pos : Pos} {S S' M : List Addr} {σ : L2.St} {H H' : Hp}
theorem Bd.blk {X : Cx} (B : Bd g N sc k W X) (s : Shared) (H : Hp) (scope : Scope) (C : Addr) (cl : List (Str × Addr)) (fp : List Addr) : Bd g N (relS scope sc) k WF (X.blk s H scope (compEnvC scope cl C X.env) fp) :=
  ⟨⟨B.prog, B.w, B.K, B.mg, B.base, B.calm, B.room⟩, B.hN, by show relS scope X.env.scope = _; rw [B.hS], B.nd, .of takes0, fun _ _ z => nomatch z⟩
theorem blk_fn {X : Cx} {s : Shared} {H : Hp} {scope : Scope} {cenv : Env} {fp : List Addr} : ∀ x, (scope.names.lookup x == some .cell) = true → (X.blk s H scope cenv fp).fn x = true := fun x h => h
/-- the state at another heap: all that is told stands there -/
theorem En.kp (E : En g S ρ ω M σ H) (kp : Kp (M ++ S) (M ++ S') H H') (o : Own g S' M ω1 H') (dis : ∀ a ∈ M, a ∉ S') (live : Lv S' H') (tabs : LamX.Tabs g.T H') : En g S' ρ ω1 M σ H' :=
  ⟨E.len, fun i s e => by
    obtain ⟨v, h1, h2⟩ := E.slot i s e
    refine ⟨v, h1, ?_⟩
    cases s with
    | dat d => exact Dx.mono kp h2
    | mu k => exact h2, o.1, o.2, E.nd, dis, live, tabs⟩
theorem tabs_upd {T : List (Addr × Str)} {a : Addr} {vs ws : List V} (h : H a = some (.lst vs)) (t : LamX.Tabs T H) : LamX.Tabs T (upd H a (.lst ws)) := fun p hp => by
  obtain ⟨ps, h1, h2, h3⟩ := t p hp
  have st : ∀ b o, H b = some o → (∀ xs, o ≠ .lst xs) → upd H a (.lst ws) b = some o := fun b o e n => by
    rw [upd_ne (fun z => by rw [z, h] at e; exact n vs (Option.some.inj e).symm)]
    exact e
  refine ⟨ps, st _ _ h1 (fun xs z => by cases z), h2, fun pos cv hc => ?_⟩
  obtain ⟨c, e1, e2⟩ := h3 pos cv hc
  exact ⟨c, e1, st _ _ e2 (fun xs z => by unfold LamX.CodeO at z; cases z)⟩
theorem wipe_wipe (σ : L2.St) (vs : List Nat) : L2.wipe (L2.wipe σ vs) vs = L2.wipe σ vs := by
  refine List.ext_getElem? fun j => ?_
  rw [wipe_get, wipe_get]
  by_cases hj : j ∈ vs
  · rw [if_pos hj, if_pos hj, Option.map_map]
    rfl
  · rw [if_neg hj, if_neg hj]

/-! ### a comprehension -/
def blkG (X : Cx) (scope : Scope) (tg : Expr) : TG := fun v σ H Q => ∀ (s : Shared) (H0 : Hp) (C : Addr) (cl : List (Str × Addr)) (fp : List Addr), sG (X.blk s H0 scope (compEnvC scope cl C X.env) fp) tg v σ H Q
def blkE (X : Cx) (scope : Scope) (e : Expr) : TE := fun σ H Q => ∀ (s : Shared) (H0 : Hp) (C : Addr) (cl : List (Str × Addr)) (fp : List Addr), sE (X.blk s H0 scope (compEnvC scope cl C X.env) fp) e σ H Q
@[irreducible] def sTs (X : Cx) (ifs : List Expr) : TT := fun σ H Q => ∀ (pins : List (Addr × Obj)) (s : Shared), Inv X pins σ H s →
  wpAny (model X.prog X.w) X.A (forIn ifs true fun c r => if r = true then do let ok ← isTrue c X.env (eval c X.env); pure (ForInStep.yield ok) else pure (ForInStep.yield r)) (TP X pins σ Q) X.xe s
theorem pts_s (X : Cx) (ifs : List Expr) : PTs X ifs (sTs X ifs) := ⟨fun pins s σ H Q I h => by unfold sTs at h; exact h pins s I⟩
theorem sts_of {X : Cx} {ifs : List Expr} {t : TT} (p : PTs X ifs t) {σ : L2.St} {H : Hp} {Q : Bool → Hp → Prop} (h : t σ H Q) : sTs X ifs σ H Q := by unfold sTs; exact fun pins s I => p.run pins s σ H Q I h
def blkT (X : Cx) (scope : Scope) (ifs : List Expr) : TT := fun σ H Q => ∀ (s : Shared) (H0 : Hp) (C : Addr) (cl : List (Str × Addr)) (fp : List Addr), sTs (X.blk s H0 scope (compEnvC scope cl C X.env) fp) ifs σ H Q
/-- the ifs' answer -/
def EvIf (g : Gm) (N : List Str) (sc : Scope) (k : Nat) (W : Wm) (ifs : List Expr) (ρ : Rho) (ω : Om) (b : Bool) (ω' : Om) : Prop :=
  ∀ X, Bd g N sc k W X → ∀ (S M : List Addr) (σ : L2.St) (H : Hp), En g S ρ ω M σ H → ∀ Q : Bool → Hp → Prop, (∀ H', Stp g M H H' → Own g S M ω' H' → Q b H') → sTs X ifs σ H Q
theorem eif_nil : EvIf g N sc k W [] ρ ω true ω := fun X B S M σ H E Q q => sts_of pts_nil (q H (.refl _ _ _) E.ow)
theorem eif_one {c : Expr} {b : Bool} (h : EvT g N sc k W c ρ ω b ω1) : EvIf g N sc k W [c] ρ ω b ω1 := fun X B S M σ H E Q q => sts_of (pts_one (pt_s X c)) (h X B S M σ H E Q q)
def outs (keep : Nat → Bool) (res : Nat → D) (n : Nat) : List D := ((List.range n).filter keep).map res
theorem outs_yes {keep : Nat → Bool} {res : Nat → D} {n : Nat} (h : keep n = true) : outs keep res (n + 1) = outs keep res n ++ [res n] := by
  unfold outs
  rw [List.range_succ, List.filter_append, List.map_append, List.filter_cons, if_pos h] <;> rfl
theorem outs_no {keep : Nat → Bool} {res : Nat → D} {n : Nat} (h : keep n = false) : outs keep res (n + 1) = outs keep res n := by
  unfold outs
  rw [List.range_succ, List.filter_append, List.map_append, List.filter_cons, if_neg (by rw [h]; exact Bool.false_ne_true)]
  show _ ++ [] = _
  rw [List.append_nil]
theorem outs_len (keep : Nat → Bool) (res : Nat → D) (n : Nat) : (outs keep res n).length ≤ n := by
  unfold outs
  rw [List.length_map]
  exact Nat.le_trans (List.length_filter_le _ _) (by rw [List.length_range]; exact Nat.le_refl _)
/-- what holds between the turns: the list so far at Dl -/
structure Cw (g : Gm) (S M : List Addr) (H1 : Hp) (Dl : Addr) (ω : Om) (ds : List D) (H : Hp) : Prop where
  st : Stp g M H1 H
  ow : Own g (Dl :: S) M ω H
  ls : ∃ vs, H Dl = some (.lst vs) ∧ DxL g (M ++ Dl :: S) H vs ds
theorem Cw.start (E : En g S ρ ω M σ H) {Dl : Addr} (hD : H Dl = none) : Cw g S M H Dl ω [] (upd H Dl (.lst [])) :=
  ⟨.new hD, (E.more hD rfl).ow, [], upd_same, .nil⟩
theorem Cw.en (E : En g S ρ ω M σ H) {Dl : Addr} {ds : List D} (hD : H Dl = none) (c : Cw g S M H Dl ω1 ds H') : En g (Dl :: S) ρ ω1 M σ H' := by
  have out := E.out hD
  have k : Kp (M ++ S) (M ++ Dl :: S) H H' := fun a o h t e => by
    have ne : a ≠ Dl := ne_of_none e hD
    refine ⟨fun z => ?_, c.st.keep a o (fun z => h (List.mem_append_left _ z)) t e⟩
    rcases List.mem_append.mp z with z | z
    · exact h (List.mem_append_left _ z)
    · rcases List.mem_cons.mp z with z | z
      · exact ne z
      · exact h (List.mem_append_right _ z)
  refine E.kp k c.ow (fun a ha z => ?_) (fun a ha => ?_) (c.st.tabs E.tabs)
  · rcases List.mem_cons.mp z with z | z
    · subst z; exact out (List.mem_append_left _ ha)
    · exact E.dis a ha z
  · rcases List.mem_cons.mp ha with z | z
    · subst z
      obtain ⟨vs, h1, _⟩ := c.ls
      exact .lst h1
    · exact c.st.there a (E.live a z)
theorem Cw.kp (E : En g S ρ ω M σ H) {Dl : Addr} {ds : List D} (hD : H Dl = none) (c : Cw g S M H Dl ω1 ds H') : Kp (M ++ S) (M ++ Dl :: S) H H' := fun a o h t e => by
  have ne : a ≠ Dl := ne_of_none e hD
  refine ⟨fun z => ?_, c.st.keep a o (fun z => h (List.mem_append_left _ z)) t e⟩
  rcases List.mem_append.mp z with z | z
  · exact h (List.mem_append_left _ z)
  · rcases List.mem_cons.mp z with z | z
    · exact ne z
    · exact h (List.mem_append_right _ z)
/-- behind a step the list at Dl is as it was -/
theorem Cw.go {Dl : Addr} {ds : List D} (nD : Dl ∉ M) {H2 : Hp} (c : Cw g S M H Dl ω1 ds H') (s : Stp g M H' H2) (o : Own g (Dl :: S) M ω2 H2) : Cw g S M H Dl ω2 ds H2 := by
  obtain ⟨vs, h1, h2⟩ := c.ls
  exact ⟨c.st.trans s, o, vs, s.keep Dl _ nD (fun ps z => by cases z) h1, DxL.mono s.kp h2⟩
/-- one more -/
theorem Cw.push (E : En g S ρ ω M σ H) {Dl : Addr} {ds : List D} {d : D} {v : V} (hD : H Dl = none) (c : Cw g S M H Dl ω1 ds H') (hv : Dx g (M ++ Dl :: S) H' v d) {vs : List V} (h1 : H' Dl = some (.lst vs)) : Cw g S M H Dl ω1 (ds ++ [d]) (upd H' Dl (.lst (vs ++ [v]))) := by
  have out := E.out hD
  obtain ⟨vs', h1', h2⟩ := c.ls
  rw [h1] at h1'
  cases h1'
  have k : Kp (M ++ Dl :: S) (M ++ Dl :: S) H' (upd H' Dl (.lst (vs ++ [v]))) := fun a o h t e => by
    refine ⟨h, ?_⟩
    rw [upd_ne (fun z => h (by rw [z]; exact List.mem_append_right _ List.mem_cons_self))]
    exact e
  refine ⟨⟨fun a o n t e => ?_, fun t => tabs_upd h1 (c.st.tabs t), fun a h => ?_⟩, ⟨c.ow.1, fun j a es e1 e2 => ?_⟩, _, upd_same, DxL.mono k (h2.app (.cons hv .nil))⟩
  · rw [upd_ne (ne_of_none e hD)]
    exact c.st.keep a o n t e
  · by_cases z : a = Dl
    · subst z; exact .lst upd_same
    · rw [upd_ne z]; exact c.st.there a h
  · obtain ⟨us, q1, q2⟩ := c.ow.2 j a es e1 e2
    refine ⟨us, ?_, DxL.mono k q2⟩
    rw [upd_ne (fun z => out (by rw [← z]; exact List.mem_append_left _ (List.mem_of_getElem? e1)))]
    exact q1
/-- the end: the list as data -/
theorem Cw.fin (E : En g S ρ ω M σ H) {Dl : Addr} {ds : List D} (hD : H Dl = none) (c : Cw g S M H Dl ω1 ds H') : Own g S M ω1 H' ∧ Dx g (M ++ S) H' (.ref Dl) (.lst ds) := by
  have k : Kp (M ++ Dl :: S) (M ++ S) H' H' := fun a o h t e => ⟨fun z => h (by
    rcases List.mem_append.mp z with z | z
    · exact List.mem_append_left _ z
    · exact List.mem_append_right _ (List.mem_cons_of_mem _ z)), e⟩
  obtain ⟨vs, h1, h2⟩ := c.ls
  refine ⟨⟨c.ow.1, fun j a es e1 e2 => ?_⟩, .lst (E.out hD) h1 (DxL.mono k h2)⟩
  obtain ⟨us, q1, q2⟩ := c.ow.2 j a es e1 e2
  exact ⟨us, q1, DxL.mono k q2⟩
theorem tlc_ok {elt tg iter : Expr} {ifs : List Expr} {scope : Scope} {items : List D} {is : List Nat} (own : List (Str × Nat)) (om om' : Nat → Om) (keep : Nat → Bool) (res : Nat → D) (ρt : Nat → Rho)
    (hi : EvI g N sc k W tg iter ρ ω items (om 0))
    (hg : ∀ i d, items[i]? = some d → EvG g N (relS scope sc) k WF (fun x => scope.names.lookup x == some .cell) tg d (wipeR ρ (own.map (·.2))) (ρt i) is)
    (ht : ∀ i d, items[i]? = some d → EvIf g N (relS scope sc) k WF ifs (ρt i) (om i) (keep i) (om' i))
    (he : ∀ i d, items[i]? = some d → keep i = true → EvE g N (relS scope sc) k WF elt (ρt i) (om' i) (.val (res i)) (om (i + 1)))
    (hf : ∀ i d, items[i]? = some d → keep i = false → om' i = om (i + 1)) (hz : items.length ≤ 1000000) (hsub : ∀ i ∈ is, i ∈ own.map (·.2) := by decide) {X : Cx} (B : Bd g N sc k W X) (E : En g S ρ ω M σ H) (Q : VK) (q : RK g W S M (om items.length) σ H Q (.val (.lst (outs keep res items.length)))) :
    tLc (sI X tg iter) (blkG X scope tg) (blkT X scope ifs) (blkE X scope elt) (own.map (·.2)) σ H Q := by
  refine hi X B S M σ H E _ fun J H1 s1 o1 yl => ?_
  intro Dl hD
  have E1 := E.go s1 o1
  have outD := E1.out hD
  have nD : Dl ∉ M := fun z => outD (List.mem_append_left _ z)
  refine ⟨fun i m H' => m = items.length - i ∧ i ≤ items.length ∧ Cw g S M H1 Dl (om i) (outs keep res i) H', ⟨_, rfl, Nat.zero_le _, Cw.start E1 hD⟩, ?_⟩
  rintro i m H' ⟨rfl, hle, c⟩
  have E' := Cw.en E1 hD c
  have Y := yl i H' (M ++ Dl :: S) (Cw.kp E1 hD c) E'.live'
  by_cases hlt : i < items.length
  · have hd : items[i]? = some items[i] := List.getElem?_eq_getElem hlt
    obtain ⟨go, yd⟩ := Y.1 _ hd
    refine .inr ⟨go, fun H2 => Cw g S M H1 Dl (om (i + 1)) (outs keep res (i + 1)) H2, fun H2 c2 => ⟨items.length - (i + 1), by omega, rfl, hlt, c2⟩, fun x H2 y => ?_⟩
    obtain ⟨a2, x2⟩ := yd x H2 y
    have c2 : Cw g S M H1 Dl (om i) (outs keep res i) H2 := c.go nD (.all a2) (c.ow.all a2)
    have E2 : En g (Dl :: S) (wipeR ρ (own.map (·.2))) (om i) M (L2.wipe σ (own.map (·.2))) H2 := (Cw.en E1 hD c2).wipe _
    intro s0 H0 C cl fp
    refine hg i _ hd _ (B.blk s0 H0 scope C cl fp) blk_fn (Dl :: S) M (om i) _ H2 x E2 x2 _ fun σ3 E3 b3 => ⟨?_, ?_⟩
    · rw [b3 _ hsub, wipe_wipe]
    · intro s0 H0 C cl fp
      refine ht i _ hd _ (B.blk s0 H0 scope C cl fp) (Dl :: S) M _ H2 E3 _ fun H3 s3 o3 => ?_
      have c3 := c2.go nD s3 o3
      cases hk : keep i with
      | false =>
        refine iteF ?_
        rw [hf i _ hd hk] at c3
        show Cw g S M H1 Dl (om (i + 1)) (outs keep res (i + 1)) H3
        rw [outs_no hk]
        exact c3
      | true =>
        refine iteT ?_
        intro s0 H0 C cl fp
        refine he i _ hd hk _ (B.blk s0 H0 scope C cl fp) (Dl :: S) M _ H3 (E3.go s3 o3) _ fun y H4 s4 o4 y4 => ?_
        have c4 := c3.go nD s4 o4
        obtain ⟨vs, h1, h2⟩ := id c4.ls
        refine ⟨vs, h1, ?_, ?_⟩
        · have l1 := h2.length
          have l2 := outs_len keep res i
          exact Nat.lt_of_le_of_lt (show vs.length ≤ 1000000 by omega) (by decide)
        · show Cw g S M H1 Dl (om (i + 1)) (outs keep res (i + 1)) _
          rw [outs_yes hk]
          exact c4.push E1 hD y4 h1
  · have e : i = items.length := by omega
    refine .inl ⟨Y.2 e, ?_⟩
    subst e
    obtain ⟨f1, f2⟩ := Cw.fin E1 hD c
    exact q _ _ (s1.trans c.st) f1 f2
/-- [elt for tg in iter if ..] -/
theorem ev_lc {elt tg iter : Expr} {ifs : List Expr} {scope : Scope} {items : List D} {is : List Nat} (own : List (Str × Nat)) (om om' : Nat → Om) (keep : Nat → Bool) (res : Nat → D) (ρt : Nat → Rho)
    (hi : EvI g N sc k W tg iter ρ ω items (om 0))
    (hg : ∀ i d, items[i]? = some d → EvG g N (relS scope sc) k WF (fun x => scope.names.lookup x == some .cell) tg d (wipeR ρ (own.map (·.2))) (ρt i) is)
    (ht : ∀ i d, items[i]? = some d → EvIf g N (relS scope sc) k WF ifs (ρt i) (om i) (keep i) (om' i))
    (he : ∀ i d, items[i]? = some d → keep i = true → EvE g N (relS scope sc) k WF elt (ρt i) (om' i) (.val (res i)) (om (i + 1)))
    (hf : ∀ i d, items[i]? = some d → keep i = false → om' i = om (i + 1)) (hz : items.length ≤ 1000000) (hsub : ∀ i ∈ is, i ∈ own.map (·.2) := by decide)
    (ok : blkC N sc scope own = true := by decide +kernel) (hs : ∀ (env : Env) x, foldedSetIterable iter env x = pure x := by intro _ _; rfl) :
    EvE g N sc k W (.ListComp elt [⟨tg, iter, ifs, 0⟩] scope pos) ρ ω (.val (.lst (outs keep res items.length))) (om items.length) := fun X B S M σ H E Q q => by
  refine s_of (pe_lc (g := blkG X scope tg) (tt := blkT X scope ifs) (te := blkE X scope elt) B.calm (by rw [B.hN]; exact B.nd) (pi_s X tg iter) (by rw [B.hN, B.hS]; exact blkOk_by ok)
    (fun s H C cl fp => ⟨fun pins s' σ H' v u Q I r h => (pg_s _ _).run pins s' σ H' v u Q I r (h s H C cl fp)⟩) (fun s H C cl fp => ⟨fun pins s' σ H' Q I h => (pts_s _ _).run pins s' σ H' Q I (h s H C cl fp)⟩) (fun s H C cl fp => ⟨fun pins s' σ H' Q I h => (pe_s _ _).run pins s' σ H' Q I (h s H C cl fp)⟩) (hs X.env)) ?_
  exact tlc_ok own om om' keep res ρt hi hg ht he hf hz hsub B E Q q
end
end Hw
set_option Elab.async false
set_option linter.all false
set_option maxRecDepth 100000
set_option maxHeartbeats 2000000
/-! Loops, lists that change: by data. -/
namespace Hw
open PySem PySem.Spec PyProof.Rows L2

section
variable {g : Gm} {N : List Str} {sc : Scope} {k : Nat} {W : Wm} {m : Nat} {ρ ρ1 ρ2 : Rho} {ω ω1 ω2 : Om} {P : Out → Prop} {rest : List Stmt} {pos : Pos} {e : Expr} {S M : List Addr} {σ : L2.St} {H : Hp}
/-! ### loops -/
/-- what a turn may come to: the next state, or the way out of the loop -/
def TurnP (ρ' : Rho) (ω' : Om) (Pb : Out → Prop) (P : Out → Prop) : Out → Prop
  | .next r w => Le ρ' r ∧ w = ω'
  | .cnt r w => Le ρ' r ∧ w = ω'
  | .brk r w => Pb (.next r w)
  | .ret d w => P (.ret d w)
  | .exc x w => P (.exc x w)
/-- for: mx turns go on; then all is walked, or the turn mx leaves -/
theorem ws_forC {tg iter : Expr} {body : List Stmt} {items : List D} {is : List Nat} (mx : Nat) (ρs ρt : Nat → Rho) (om : Nat → Om) (hm : mx ≤ items.length)
    (hi : EvI g N sc k W tg iter ρ ω items (om 0)) (h0 : Le (ρs 0) ρ)
    (hg : ∀ i d, items[i]? = some d → i ≤ mx → EvG g N sc k W (fun _ => true) tg d (ρs i) (ρt i) is)
    (hb : ∀ i d, items[i]? = some d → i < mx → WS g N sc k W m body (ρt i) (om i) (TurnP (ρs (i + 1)) (om (i + 1)) (Thn g N sc k W m rest P) P))
    (hx : ∀ d, items[mx]? = some d → WS g N sc k W m body (ρt mx) (om mx) (fun o => match o with | .next _ _ => False | .cnt _ _ => False | .brk r w => Thn g N sc k W m rest P (.next r w) | .ret d w => P (.ret d w) | .exc x w => P (.exc x w)))
    (hr : mx = items.length → WS g N sc k W m rest (ρs mx) (om mx) P) (hs : ∀ (env : Env) x, foldedSetIterable iter env x = pure x := by intro _ _; rfl) : WS g N sc k W m (.For tg iter body [] pos :: rest) ρ ω P := fun X B S M σ H D E q => by
  refine ss_of (pss_cons (ps_for B.po B.calm (pi_s X tg iter) (pg_s X tg) (pss_s X body) (hs X.env)) (pss_s X rest)) ?_
  refine hi X B.toBd S M σ H E _ fun J H1 s1 o1 yl => ?_
  have E1 : En g S (ρs 0) (om 0) M σ H1 := (E.go s1 o1).le h0
  refine ⟨fun i n σ' H' => n = items.length - i ∧ i ≤ mx ∧ ∃ M', Grw m M M' H1 ∧ Stp g M H1 H' ∧ En g S (ρs i) (om i) M' σ' H', ⟨_, rfl, Nat.zero_le _, M, .refl _ _ _, .refl _ _ _, E1⟩, ?_⟩
  rintro i n σ' H' ⟨rfl, hle, M', gr, st, E'⟩
  have kp : Kp (M ++ S) (M' ++ S) H1 H' := fun a o h t e => ⟨fun z => by
    rcases List.mem_append.mp z with z | z
    · rcases gr.new a z with y | y
      · exact h (List.mem_append_left _ y)
      · exact y ⟨o, e, t⟩
    · exact h (List.mem_append_right _ z), st.keep a o (fun z => h (List.mem_append_left _ z)) t e⟩
  have Y := yl i H' (M' ++ S) kp E'.live'
  have q' : ∀ o, P o → OK g W m S M' H' D o := fun o p => ((q o p).mono (.refl _ _ _) s1).mono gr st
  by_cases hlt : i < items.length
  · have hd : items[i]? = some items[i] := List.getElem?_eq_getElem hlt
    obtain ⟨go, yd⟩ := Y.1 _ hd
    refine .inr ⟨go, fun σ2 H2 => i < mx ∧ ∃ M2, Grw m M M2 H1 ∧ Stp g M H1 H2 ∧ En g S (ρs (i + 1)) (om (i + 1)) M2 σ2 H2, fun σ2 H2 ⟨l2, w2⟩ => ⟨items.length - (i + 1), by omega, rfl, l2, w2⟩, fun x H2 y => ?_⟩
    obtain ⟨a2, x2⟩ := yd x H2 y
    have E2 := E'.go (.all a2) (E'.ow.all a2)
    refine hg i _ hd hle X B.toBd (fun x _ => B.fn x) S M' (om i) σ' H2 x E2 x2 _ fun σ3 E3 _ => ?_
    have s2 : Stp g M' H' H2 := .all a2
    have q2 : ∀ o, P o → OK g W m S M' H2 D o := fun o p => (q' o p).mono (.refl _ _ _) s2
    have brk : ∀ r w, Thn g N sc k W m rest P (.next r w) → ∀ M3 σ3 H3, Grw m M' M3 H2 → Stp g M' H2 H3 → En g S r w M3 σ3 H3 → sSs X rest D σ3 H3 := fun r w h M3 σ3 H3 a s E3 => ok_rest B h q2 a s E3
    by_cases hx2 : i < mx
    · refine hb i _ hd hx2 X B S M' σ3 H2 _ E3 fun o p => ?_
      cases o with
      | next r w =>
        obtain ⟨l, e⟩ := p
        subst e
        exact fun M3 σ4 H4 a s E4 => ⟨hx2, M3, gr.trans (st.trans (.same fun _ _ z => z)) (Grw.trans (M := M') (M1 := M') (.refl _ _ _) s2 a), (st.thru gr s2).thru gr s, E4.le l⟩
      | cnt r w =>
        obtain ⟨l, e⟩ := p
        subst e
        exact fun M3 σ4 H4 a s E4 => ⟨hx2, M3, gr.trans (st.trans (.same fun _ _ z => z)) (Grw.trans (M := M') (M1 := M') (.refl _ _ _) s2 a), (st.thru gr s2).thru gr s, E4.le l⟩
      | brk r w => exact fun M3 σ4 H4 a s E4 => brk r w p M3 σ4 H4 a s E4
      | ret d w => exact q2 _ p
      | exc x w => exact q2 _ p
    · have e : i = mx := by omega
      subst e
      refine hx _ hd X B S M' σ3 H2 _ E3 fun o p => ?_
      cases o with
      | next r w => exact p.elim
      | cnt r w => exact p.elim
      | brk r w => exact fun M3 σ4 H4 a s E4 => brk r w p M3 σ4 H4 a s E4
      | ret d w => exact q2 _ p
      | exc x w => exact q2 _ p
  · have e : i = items.length := by omega
    have e2 : mx = items.length := by omega
    refine .inl ⟨Y.2 e, ?_⟩
    have e3 : i = mx := by omega
    subst e3
    exact ok_rest B (hr e2) q' (.refl _ _ _) (.refl _ _ _) E'
/-- all the items are walked -/
theorem ws_for {tg iter : Expr} {body : List Stmt} {items : List D} {is : List Nat} (ρs ρt : Nat → Rho) (om : Nat → Om)
    (hi : EvI g N sc k W tg iter ρ ω items (om 0)) (h0 : Le (ρs 0) ρ)
    (hg : ∀ i d, items[i]? = some d → EvG g N sc k W (fun _ => true) tg d (ρs i) (ρt i) is)
    (hb : ∀ i d, items[i]? = some d → WS g N sc k W m body (ρt i) (om i) (TurnP (ρs (i + 1)) (om (i + 1)) (Thn g N sc k W m rest P) P))
    (hr : WS g N sc k W m rest (ρs items.length) (om items.length) P) (hs : ∀ (env : Env) x, foldedSetIterable iter env x = pure x := by intro _ _; rfl) : WS g N sc k W m (.For tg iter body [] pos :: rest) ρ ω P :=
  ws_forC items.length ρs ρt om (Nat.le_refl _) hi h0 (fun i d e _ => hg i d e) (fun i d e _ => hb i d e) (fun d e => by rw [List.getElem?_eq_none (Nat.le_refl _)] at e; cases e) (fun _ => hr) hs
/-- the turn mx leaves -/
theorem ws_forX {tg iter : Expr} {body : List Stmt} {items : List D} {is : List Nat} (mx : Nat) (ρs ρt : Nat → Rho) (om : Nat → Om) (hm : mx < items.length)
    (hi : EvI g N sc k W tg iter ρ ω items (om 0)) (h0 : Le (ρs 0) ρ)
    (hg : ∀ i d, items[i]? = some d → i ≤ mx → EvG g N sc k W (fun _ => true) tg d (ρs i) (ρt i) is)
    (hb : ∀ i d, items[i]? = some d → i < mx → WS g N sc k W m body (ρt i) (om i) (TurnP (ρs (i + 1)) (om (i + 1)) (Thn g N sc k W m rest P) P))
    (hx : ∀ d, items[mx]? = some d → WS g N sc k W m body (ρt mx) (om mx) (fun o => match o with | .next _ _ => False | .cnt _ _ => False | .brk r w => Thn g N sc k W m rest P (.next r w) | .ret d w => P (.ret d w) | .exc x w => P (.exc x w)))
    (hs : ∀ (env : Env) x, foldedSetIterable iter env x = pure x := by intro _ _; rfl) : WS g N sc k W m (.For tg iter body [] pos :: rest) ρ ω P :=
  ws_forC mx ρs ρt om (Nat.le_of_lt hm) hi h0 hg hb hx (fun e => by omega) hs
/-- the walked thing raises -/
theorem ws_forE {tg iter : Expr} {body : List Stmt} {x : Ex} (hi : EvE g N sc k W iter ρ ω (.exc x) ω1) (hP : P (.exc x ω1)) (hs : ∀ (env : Env) x, foldedSetIterable iter env x = pure x := by intro _ _; rfl) :
    WS g N sc k W m (.For tg iter body [] pos :: rest) ρ ω P := fun X B S M σ H D E q => by
  refine ss_of (pss_cons (ps_for B.po B.calm (pi_list (pe_s X iter)) (pg_s X tg) (pss_s X body) (hs X.env)) (pss_never (X := X))) ?_
  exact hi X B.toBd S M σ H E _ fun dd H1 s1 o1 x1 => q _ hP dd σ M H1 (.refl _ _ _) s1 o1 x1
/-- while, by the states that α tells -/
theorem ws_while {α : Type} {c : Expr} {body : List Stmt} (st : α → Rho × Om) (meas : α → Nat) (a0 : α) (h0 : Le (st a0).1 ρ) (e0 : (st a0).2 = ω)
    (hs : ∀ a, ∃ b, EvT g N sc k W c (st a).1 (st a).2 b (st a).2 ∧
      (b = true → WS g N sc k W m body (st a).1 (st a).2 (fun o => match o with
        | .next r w => ∃ a', meas a' < meas a ∧ Le (st a').1 r ∧ w = (st a').2 | .cnt r w => ∃ a', meas a' < meas a ∧ Le (st a').1 r ∧ w = (st a').2
        | .brk r w => Thn g N sc k W m rest P (.next r w) | .ret d w => P (.ret d w) | .exc x w => P (.exc x w))) ∧
      (b = false → WS g N sc k W m rest (st a).1 (st a).2 P)) : WS g N sc k W m (.While c body [] pos :: rest) ρ ω P := fun X B S M σ H D E q => by
  refine ss_of (pss_cons (ps_while B.po (pt_s X c) (pss_s X body)) (pss_s X rest)) ?_
  subst e0
  refine ⟨fun n σ' H' => ∃ a, n = meas a ∧ ∃ M', Grw m M M' H ∧ Stp g M H H' ∧ En g S (st a).1 (st a).2 M' σ' H', ⟨_, a0, rfl, M, .refl _ _ _, .refl _ _ _, E.le h0⟩, ?_⟩
  rintro n σ' H' ⟨a, rfl, M', gr, s, E'⟩
  obtain ⟨b, hc, h1, h2⟩ := hs a
  refine hc X B.toBd S M' σ' H' E' _ fun H2 s2 o2 => ?_
  have E2 := E'.go s2 o2
  have q2 : ∀ o, P o → OK g W m S M' H2 D o := fun o p => ((q o p).mono gr s).mono (.refl _ _ _) s2
  cases b with
  | false => exact iteF (ok_rest B (h2 rfl) q2 (.refl _ _ _) (.refl _ _ _) E2)
  | true =>
    refine iteT ⟨fun σ3 H3 => ∃ a', meas a' < meas a ∧ ∃ M3, Grw m M M3 H ∧ Stp g M H H3 ∧ En g S (st a').1 (st a').2 M3 σ3 H3, fun σ3 H3 ⟨a', l, w⟩ => ⟨_, l, a', rfl, w⟩, ?_⟩
    refine h1 rfl X B S M' σ' H2 _ E2 fun o p => ?_
    cases o with
    | next r w =>
      obtain ⟨a', l, l2, e⟩ := p
      subst e
      exact fun M3 σ4 H4 a s4 E4 => ⟨a', l, M3, gr.trans (s.trans (.same fun _ _ z => z)) (Grw.trans (M := M') (M1 := M') (.refl _ _ _) s2 a), (s.thru gr s2).thru gr s4, E4.le l2⟩
    | cnt r w =>
      obtain ⟨a', l, l2, e⟩ := p
      subst e
      exact fun M3 σ4 H4 a s4 E4 => ⟨a', l, M3, gr.trans (s.trans (.same fun _ _ z => z)) (Grw.trans (M := M') (M1 := M') (.refl _ _ _) s2 a), (s.thru gr s2).thru gr s4, E4.le l2⟩
    | brk r w => exact fun M3 σ4 H4 a s4 E4 => ok_rest B p q2 a s4 E4
    | ret d w => exact q2 _ p
    | exc x w => exact q2 _ p

/-! ### lists that change -/
/-- e makes a new list of ds -/
def EvN (g : Gm) (N : List Str) (sc : Scope) (k : Nat) (W : Wm) (e : Expr) (ρ : Rho) (ω : Om) (ds : List D) (ω' : Om) : Prop :=
  ∀ X, Bd g N sc k W X → ∀ (S M : List Addr) (σ : L2.St) (H : Hp), En g S ρ ω M σ H → ∀ Q : VK, (∀ p vs H1, Stp g M H H1 → Own g S M ω' H1 → H1 p = none → DxL g (M ++ S) H1 vs ds → Q (.ref p) (upd H1 p (.lst vs))) → sE X e σ H Q
theorem en_lst {es : List Expr} {ds : List D} (h : EvA g N sc k W es ρ ω ds ω1) (hz : ds.length ≤ 1000 := by simp) : EvN g N sc k W (.List es pos) ρ ω ds ω1 := fun X B S M σ H E Q q => by
  refine s_of (pe_lst (pa_s X es)) ?_
  refine h X B S M σ H E _ fun vs H1 s1 o1 x1 => ⟨?_, fun p hp => q p vs H1 s1 o1 hp x1⟩
  rw [x1.length]; exact Nat.le_trans hz (by decide)
theorem en_rep {a b : Expr} {ds : List D} {n : Int} (ha : EvE g N sc k W a ρ ω (.val (.lst ds)) ω1) (hb : EvE g N sc k W b ρ ω1 (.val (.int n)) ω2) (h0 : 0 ≤ n) (h : ds.length * n.toNat ≤ 1000000) (h1 : n < 1000000) :
    EvN g N sc k W (.BinOp a .Mult b pos) ρ ω (List.replicate n.toNat ds).flatten ω2 := fun X B S M σ H E Q q => by
  refine s_of (pe_op op_rep (pe_s X a) (pe_s X b)) ?_
  refine ha X B S M σ H E _ fun x H1 s1 o1 x1 => ?_
  have E1 := E.go s1 o1
  refine hb X B S M σ H1 E1 _ fun y H2 s2 o2 y2 => ?_
  cases y2
  have x2 := Dx.mono (s2.kp (S := S)) x1
  cases x2 with
  | @lst a vs _ na ha hs =>
    refine ⟨a, n, vs, rfl, rfl, ha, by omega, by omega, ?_, fun p hp => q p _ H2 (s1.trans s2) o2 hp (hs.rep _)⟩
    rw [hs.length]; exact Nat.le_trans h (by decide)
theorem en_list {a : Expr} {p : Pos} {ds : List D} (L : Li g) (ha : EvA g N sc k W [a] ρ ω [.tup ds] ω1) (hg : glB sc "list" = true := by decide +kernel) (h1 : noStar a [] := by exact fun _ => rfl) :
    EvN g N sc k W (.Call (.Name "list" p) [a] [] pos) ρ ω ds ω1 := fun X B S M σ H E Q q => by
  refine s_of (pe_callTy call_list_of (gl_of B hg) (by rw [B.mg]; exact L.list) (by decide +kernel) (pa_s X _) (by decide) (by decide) (h1 X.env) rfl) ?_
  refine ha X B S M σ H E _ fun vs H1 s1 o1 x1 => ?_
  cases x1 with
  | cons h hr =>
    cases hr
    cases h with
    | @tup a vs _ ha hs => exact ⟨a, vs, rfl, .inr (by rw [B.K]; exact ha.to), fun p hp => q p vs H1 s1 o1 hp hs⟩
/-- a new changing list comes -/
theorem En.newM (E : En g S ρ ω M σ H) {p : Addr} {vs : List V} {ds : List D} {i : Nat} (hp : H p = none) (hv : DxL g (M ++ S) H vs ds) :
    En g S (ρ.set i (some (.mu ω.length))) (ω ++ [ds]) (M ++ [p]) (σ.set i (some (.ref p))) (upd H p (.lst vs)) := by
  have out := E.out hp
  have kp : Kp (M ++ S) ((M ++ [p]) ++ S) H (upd H p (.lst vs)) := fun a o h t e => by
    have ne : a ≠ p := ne_of_none e hp
    refine ⟨fun z => ?_, by rw [upd_ne ne]; exact e⟩
    rcases List.mem_append.mp z with z | z
    · rcases List.mem_append.mp z with z | z
      · exact h (List.mem_append_left _ z)
      · exact ne (List.mem_singleton.mp z)
    · exact h (List.mem_append_right _ z)
  have nM : p ∉ M := fun z => out (List.mem_append_left _ z)
  have ml := E.mlen
  refine ⟨by rw [List.length_set, List.length_set, E.len], fun j s e => ?_, by rw [List.length_append, List.length_append, ml]; rfl, fun j a es e1 e2 => ?_, ?_, fun a ha => ?_, fun a ha => (Stp.new (g := g) (M := M) hp).there a (E.live a ha), (Stp.new (g := g) (M := M) hp).tabs E.tabs⟩
  · by_cases h : i = j
    · subst h
      by_cases hl : i < ρ.length
      · rw [List.getElem?_set_self hl] at e
        cases e
        exact ⟨.ref p, List.getElem?_set_self (by rw [← E.len]; exact hl), p, by rw [← ml, List.getElem?_append_right (Nat.le_refl _), Nat.sub_self]; rfl, rfl⟩
      · rw [List.getElem?_eq_none (by rw [List.length_set]; omega)] at e
        cases e
    · rw [List.getElem?_set_ne h] at e
      rw [List.getElem?_set_ne h]
      obtain ⟨v, h1, h2⟩ := E.slot j s e
      refine ⟨v, h1, ?_⟩
      cases s with
      | dat d => exact Dx.mono kp h2
      | mu k =>
        obtain ⟨a, h3, h4⟩ := h2
        exact ⟨a, by rw [List.getElem?_append_left (List.getElem?_eq_some_iff.mp h3).1]; exact h3, h4⟩
  · by_cases hl : j < M.length
    · rw [List.getElem?_append_left hl] at e1
      rw [List.getElem?_append_left (by omega)] at e2
      obtain ⟨us, q1, q2⟩ := E.own j a es e1 e2
      exact ⟨us, by rw [upd_ne (ne_of_none q1 hp)]; exact q1, DxL.mono kp q2⟩
    · have hj : j = M.length := by
        have := (List.getElem?_eq_some_iff.mp e1).1
        rw [List.length_append] at this
        simp only [List.length_cons, List.length_nil] at this
        omega
      subst hj
      rw [List.getElem?_append_right (Nat.le_refl _), Nat.sub_self] at e1
      rw [ml, List.getElem?_append_right (Nat.le_refl _), Nat.sub_self] at e2
      cases e1
      cases e2
      exact ⟨vs, upd_same, DxL.mono kp hv⟩
  · rw [List.nodup_append]
    exact ⟨E.nd, by simp, fun a ha b hb => by rw [List.mem_singleton.mp hb]; intro z; subst z; exact nM ha⟩
  · rcases List.mem_append.mp ha with z | z
    · exact E.dis a z
    · rw [List.mem_singleton.mp z]
      exact fun y => out (List.mem_append_right _ y)
theorem ws_new (i : Nat) {x : Str} {p' : Pos} {ds : List D} (he : EvN g N sc k W e ρ ω ds ω1) (hr : WS g N sc k W m rest (ρ.set i (some (.mu ω1.length))) (ω1 ++ [ds]) P) (hm : m ≤ ω1.length) (hi : N[i]? = some x := by rfl) (hx : tgB sc (fun _ => true) x = true := by decide +kernel)
    (hs : swapsWith e (some (.Name x p')) pos.line (envD sc) = pure false := by rfl) : WS g N sc k W m (.Assign [.Name x p'] e pos :: rest) ρ ω P := fun X B S M σ H D E q => by
  obtain ⟨h1, h2⟩ := tg_loc B.toBd (fun x _ => B.fn x) hx
  refine ss_of (pss_cons (ps_set (i := i) (by rw [B.hN]; exact B.nd) (by rw [B.hN]; exact hi) h1 (pe_s X e) (by rw [swapsWith_sc (e' := envD sc) B.hS]; exact hs) h2) (pss_s X rest)) ?_
  refine he X B.toBd S M σ H E _ fun p vs H1 s1 o1 hp x1 => ?_
  have E1 := E.go s1 o1
  have hml := o1.1
  refine ok_rest B hr q (M' := M ++ [p]) ⟨?_, fun a ha => ?_⟩ (s1.trans (.new hp)) (E1.newM hp x1)
  · rw [List.take_append_of_le_length (by omega)]
  · rcases List.mem_append.mp ha with z | z
    · exact .inl z
    · rw [List.mem_singleton.mp z]
      exact .inr fun z => (s1.there p z).no hp
/-- the list at a is stored anew -/
theorem En.write (E : En g S ρ ω M σ H) {j : Nat} {a : Addr} {vs ws : List V} {ds : List D} (ha : M[j]? = some a) (h : H a = some (.lst ws)) (hv : DxL g (M ++ S) H vs ds) :
    En g S ρ (ω.set j ds) M σ (upd H a (.lst vs)) ∧ Stp g M H (upd H a (.lst vs)) := by
  have mem : a ∈ M := List.mem_of_getElem? ha
  have kp : Kp (M ++ S) (M ++ S) H (upd H a (.lst vs)) := fun b o hb t e => ⟨hb, by rw [upd_ne (fun z => hb (by rw [z]; exact List.mem_append_left _ mem))]; exact e⟩
  have there : ∀ b, Nt (H b) → Nt (upd H a (.lst vs) b) := fun b hb => by
    by_cases z : b = a
    · subst z; exact .lst upd_same
    · rw [upd_ne z]; exact hb
  refine ⟨⟨E.len, fun i s e => ?_, by rw [List.length_set, E.mlen], fun i b es e1 e2 => ?_, E.nd, E.dis, fun b hb => there b (E.live b hb), tabs_upd h E.tabs⟩, ⟨fun b o n t e => by rw [upd_ne (fun z => n (by rw [z]; exact mem))]; exact e, fun t => tabs_upd h t, there⟩⟩
  · obtain ⟨v, h1, h2⟩ := E.slot i s e
    refine ⟨v, h1, ?_⟩
    cases s with
    | dat d => exact Dx.mono kp h2
    | mu k => exact h2
  · by_cases hij : j = i
    · subst hij
      rw [ha] at e1
      cases e1
      have hl : j < ω.length := by rw [← E.mlen]; exact (List.getElem?_eq_some_iff.mp ha).1
      rw [List.getElem?_set_self hl] at e2
      cases e2
      exact ⟨vs, upd_same, DxL.mono kp hv⟩
    · rw [List.getElem?_set_ne hij] at e2
      obtain ⟨us, q1, q2⟩ := E.own i b es e1 e2
      refine ⟨us, ?_, DxL.mono kp q2⟩
      rw [upd_ne (fun z => hij ?_)]
      · exact q1
      · subst z
        obtain ⟨l1, g1⟩ := List.getElem?_eq_some_iff.mp ha
        obtain ⟨l2, g2⟩ := List.getElem?_eq_some_iff.mp e1
        exact (List.getElem_inj E.nd).mp (g1.trans g2.symm)
/-- xs.append(e) -/
theorem ws_app (i j : Nat) {x : Str} {px ap cp : Pos} {d : D} {ds : List D} (hd : ρ[i]? = some (some (.mu j))) (he : EvE g N sc k W e ρ ω (.val d) ω1) (hw : ω1[j]? = some ds) (hz : ds.length ≤ 1000000) (hr : WS g N sc k W m rest ρ (ω1.set j (ds ++ [d])) P) (hi : N[i]? = some x := by rfl)
    (hv : visB sc x = true := by decide +kernel) (h1 : (x == ("__debug__" : Str)) = false := by decide) (h2 : (x == ("__classdict__" : Str)) = false := by decide)
    (hb : ∀ env : Env, attributeBase (.Name x px) "append" env (eval (.Name x px) env) = eval (.Name x px) env := by intro _; rfl)
    (hfew : ∀ env : Env, ((backTo cp (starEach [e] env)).all (fun x => !x.1) && (backToKw cp (keywordEach [] env)).all (fun x => x.1.isSome) && decide ([e].length + ([] : List Keyword).length + (if ([] : List Keyword).isEmpty then 0 else 1) < 30)) = true := by intro _; rfl)
    (hl : (ap.endLine == cp.line) = true := by rfl) (hst : noStar e [] := by exact fun _ => rfl) : WS g N sc k W m (.Expr (.Call (.Attribute (.Name x px) "append" ap) [e] [] cp) pos :: rest) ρ ω P := fun X B S M σ H D E q => by
  obtain ⟨v, e1, a, e2, e3⟩ := E.slot i _ hd
  subst e3
  have hj : j < ω.length := by rw [← E.mlen]; exact (List.getElem?_eq_some_iff.mp e2).1
  obtain ⟨us, u1, u2⟩ := E.own j a _ e2 (List.getElem?_eq_getElem hj)
  refine ss_of (pss_cons (ps_expr (pe_bm PySem.F.plainAttrs_list PySem.F.slot_list_append PySem.F.type_list_append mt_append (pe_var (i := i) (by rw [B.hN]; exact hi) (by rw [B.hS]; exact vis_of hv) h1 h2) (pa_cons (pe_s X e) pa_nil (hst X.env)) (hb X.env) (hfew X.env) hl (hst X.env) rfl)) (pss_s X rest)) ?_
  refine ⟨_, e1, .inl ⟨rfl, us, .of u1⟩, ?_⟩
  refine he X B.toBd S M σ H E _ fun y H1 s1 o1 x1 => ?_
  have E1 := E.go s1 o1
  obtain ⟨vs, v1, v2⟩ := o1.2 j a ds e2 hw
  obtain ⟨E2, s2⟩ := E1.write e2 v1 (v2.app (.cons x1 .nil))
  exact ⟨a, vs, y, rfl, rfl, v1, Nat.lt_of_le_of_lt (by rw [v2.length]; exact hz) (by decide), ok_rest B hr q (.refl _ _ _) (s1.trans s2) E2⟩
/-- .. of what raises -/
theorem ws_appX (i j : Nat) {x : Str} {px ap cp : Pos} {xx : Ex} (hd : ρ[i]? = some (some (.mu j))) (he : EvE g N sc k W e ρ ω (.exc xx) ω1) (hP : P (.exc xx ω1)) (hi : N[i]? = some x := by rfl)
    (hv : visB sc x = true := by decide +kernel) (h1 : (x == ("__debug__" : Str)) = false := by decide) (h2 : (x == ("__classdict__" : Str)) = false := by decide)
    (hb : ∀ env : Env, attributeBase (.Name x px) "append" env (eval (.Name x px) env) = eval (.Name x px) env := by intro _; rfl)
    (hfew : ∀ env : Env, ((backTo cp (starEach [e] env)).all (fun x => !x.1) && (backToKw cp (keywordEach [] env)).all (fun x => x.1.isSome) && decide ([e].length + ([] : List Keyword).length + (if ([] : List Keyword).isEmpty then 0 else 1) < 30)) = true := by intro _; rfl)
    (hl : (ap.endLine == cp.line) = true := by rfl) (hst : noStar e [] := by exact fun _ => rfl) : WS g N sc k W m (.Expr (.Call (.Attribute (.Name x px) "append" ap) [e] [] cp) pos :: rest) ρ ω P := fun X B S M σ H D E q => by
  obtain ⟨v, e1, a, e2, e3⟩ := E.slot i _ hd
  subst e3
  have hj : j < ω.length := by rw [← E.mlen]; exact (List.getElem?_eq_some_iff.mp e2).1
  obtain ⟨us, u1, u2⟩ := E.own j a _ e2 (List.getElem?_eq_getElem hj)
  refine ss_of (pss_cons (ps_expr (pe_bm PySem.F.plainAttrs_list PySem.F.slot_list_append PySem.F.type_list_append mt_append (pe_var (i := i) (by rw [B.hN]; exact hi) (by rw [B.hS]; exact vis_of hv) h1 h2) (pa_cons (pe_s X e) pa_nil (hst X.env)) (hb X.env) (hfew X.env) hl (hst X.env) rfl)) (pss_never (X := X))) ?_
  refine ⟨_, e1, .inl ⟨rfl, us, .of u1⟩, ?_⟩
  exact he X B.toBd S M σ H E _ fun dd H1 s1 o1 x1 => q _ hP dd σ M H1 (.refl _ _ _) s1 o1 x1
/-- xs[ie] = e -/
theorem ws_sub (i j : Nat) {x : Str} {px tp : Pos} {ie : Expr} {d : D} {ds : List D} {n : Int} (hd : ρ[i]? = some (some (.mu j))) (he : EvE g N sc k W e ρ ω (.val d) ω1) (hie : EvE g N sc k W ie ρ ω1 (.val (.int n)) ω2) (hw : ω2[j]? = some ds) (h0 : 0 ≤ n) (hn : n < ds.length)
    (hr : WS g N sc k W m rest ρ (ω2.set j (ds.set n.toNat d)) P) (hi : N[i]? = some x := by rfl) (hv : visB sc x = true := by decide +kernel) (h1 : (x == ("__debug__" : Str)) = false := by decide) (h2 : (x == ("__classdict__" : Str)) = false := by decide)
    (ha : ∀ (env : Env) v, assign (.Subscript (.Name x px) ie tp) env v = (do
      let ov ← holding [v] (eval (.Name x px) env)
      let iv ← holding [v, ov] (eval ie env)
      standAt tp
      holding [v, ov, iv] (setItem ov iv v)
      release [v, ov, iv] []) := by intro _ _; rfl)
    (hs : ∀ env : Env, swapsWithSole [.Subscript (.Name x px) ie tp] e pos.line env = pure false := by intro _; rfl) (hw2 : ∀ env : Env, swappedStores [.Subscript (.Name x px) ie tp] e env = pure none := by intro _; rfl) (h3 : ∀ env : Env, (assignEach [.Subscript (.Name x px) ie tp] env).map (·.2) = [assign (.Subscript (.Name x px) ie tp) env] := by intro _; rfl) :
    WS g N sc k W m (.Assign [.Subscript (.Name x px) ie tp] e pos :: rest) ρ ω P := fun X B S M σ H D E q => by
  obtain ⟨v, e1, a, e2, e3⟩ := E.slot i _ hd
  subst e3
  refine ss_of (pss_cons (ps_asg (pe_s X e) (pg_sub (pe_var (i := i) (by rw [B.hN]; exact hi) (by rw [B.hS]; exact vis_of hv) h1 h2) (pe_s X ie) set_list (ha X.env)) (hs X.env) (hw2 X.env) (h3 X.env)) (pss_s X rest)) ?_
  refine he X B.toBd S M σ H E _ fun y H1 s1 o1 x1 => ?_
  have E1 := E.go s1 o1
  refine ⟨_, e1, ?_⟩
  refine hie X B.toBd S M σ H1 E1 _ fun z H2 s2 o2 z2 => ?_
  cases z2
  have E2 := E1.go s2 o2
  obtain ⟨vs, v1, v2⟩ := o2.2 j a ds e2 hw
  obtain ⟨E3, s3⟩ := E2.write e2 v1 (v2.set (Dx.mono s2.kp x1) n.toNat)
  refine ⟨a, vs, n, n.toNat, rfl, rfl, v1, ?_, ok_rest B hr q (.refl _ _ _) ((s1.trans s2).trans s3) E3⟩
  unfold ixN
  rw [if_pos h0, if_pos (by rw [v2.length]; exact hn)]
/-- xs[ie], read -/
theorem ev_ixM (i j : Nat) {x : Str} {px : Pos} {ie : Expr} {d : D} {ds : List D} {n : Int} (hd : ρ[i]? = some (some (.mu j))) (hie : EvE g N sc k W ie ρ ω (.val (.int n)) ω1) (hw : ω1[j]? = some ds) (h0 : 0 ≤ n) (hn : ds[n.toNat]? = some d) (hi : N[i]? = some x := by rfl)
    (hv : visB sc x = true := by decide +kernel) (h1 : (x == ("__debug__" : Str)) = false := by decide) (h2 : (x == ("__classdict__" : Str)) = false := by decide) (hp : PlainIx ie := by exact fun _ _ => rfl) : EvE g N sc k W (.Subscript (.Name x px) ie pos) ρ ω (.val d) ω1 := fun X B S M σ H E Q q => by
  obtain ⟨v, e1, a, e2, e3⟩ := E.slot i _ hd
  subst e3
  refine s_of (pe_ix ix_list (pe_var (i := i) (by rw [B.hN]; exact hi) (by rw [B.hS]; exact vis_of hv) h1 h2) (pe_s X ie) hp) ?_
  refine ⟨_, e1, ?_⟩
  refine hie X B S M σ H E _ fun y H1 s1 o1 y1 => ?_
  cases y1
  obtain ⟨vs, v1, v2⟩ := o1.2 j a ds e2 hw
  obtain ⟨w, w1, w2⟩ := v2.get hn
  refine ⟨a, vs, n, w, rfl, rfl, .of v1, ?_, q w H1 s1 o1 w2⟩
  have e : n = (n.toNat : Int) := by omega
  rw [e]
  exact atI_nat w1
/-- tuple(xs) of a changing list -/
theorem ev_tupM (i j : Nat) {x : Str} {p px : Pos} {ds : List D} (L : Li g) (hd : ρ[i]? = some (some (.mu j))) (hw : ω[j]? = some ds) (hi : N[i]? = some x := by rfl) (hg : glB sc "tuple" = true := by decide +kernel)
    (hv : visB sc x = true := by decide +kernel) (h1 : (x == ("__debug__" : Str)) = false := by decide) (h2 : (x == ("__classdict__" : Str)) = false := by decide) : EvE g N sc k W (.Call (.Name "tuple" p) [.Name x px] [] pos) ρ ω (.val (.tup ds)) ω := fun X B S M σ H E Q q => by
  obtain ⟨v, e1, a, e2, e3⟩ := E.slot i _ hd
  subst e3
  obtain ⟨vs, v1, v2⟩ := E.own j a ds e2 hw
  refine s_of (pe_callTy call_tuple_of (gl_of B hg) (by rw [B.mg]; exact L.tuple) (by decide +kernel) (pa_cons (pe_var (i := i) (by rw [B.hN]; exact hi) (by rw [B.hS]; exact vis_of hv) h1 h2) pa_nil)) ?_
  exact ⟨_, e1, a, vs, rfl, .inl ⟨.of v1, fun p hp => q _ _ (.new hp) (E.ow.new hp) (.tup (.inl ⟨E.out hp, .inl upd_same⟩) (DxL.mono ((All.new hp).kp _) v2))⟩⟩
/-- the last list changes no more: it is data from here on -/
theorem ws_freeze (i : Nat) {ds : List D} {sts : List Stmt} (hd : ρ[i]? = some (some (.mu ω.length))) (hm : m ≤ ω.length) (ho : ∀ j, ρ[j]? = some (some (.mu ω.length)) → j = i)
    (h : WS g N sc k W m sts (ρ.set i (some (.dat (.lst ds)))) ω P) : WS g N sc k W m sts ρ (ω ++ [ds]) P := fun X B S M σ H D E q => by
  have ml := E.mlen
  rw [List.length_append, List.length_singleton] at ml
  obtain ⟨M0, a, rfl⟩ : ∃ M0 a, M = M0 ++ [a] := by
    refine ⟨M.dropLast, M.getLast (by intro z; subst z; simp at ml), (List.dropLast_concat_getLast _).symm⟩
  rw [List.length_append, List.length_singleton] at ml
  have ml0 : M0.length = ω.length := by omega
  have e1 : (M0 ++ [a])[ω.length]? = some a := by rw [← ml0, List.getElem?_append_right (Nat.le_refl _), Nat.sub_self]; rfl
  obtain ⟨vs, v1, v2⟩ := E.own ω.length a ds e1 (by rw [List.getElem?_append_right (Nat.le_refl _), Nat.sub_self]; rfl)
  have kp : Kp ((M0 ++ [a]) ++ S) (M0 ++ S) H H := fun b o hb t e => ⟨fun z => hb (by
    rcases List.mem_append.mp z with z | z
    · exact List.mem_append_left _ (List.mem_append_left _ z)
    · exact List.mem_append_right _ z), e⟩
  have nd := E.nd
  rw [List.nodup_append] at nd
  have na : a ∉ M0 ++ S := fun z => by
    rcases List.mem_append.mp z with z | z
    · exact nd.2.2 a z a (List.mem_singleton.mpr rfl) rfl
    · exact E.dis a (List.mem_append_right _ (List.mem_singleton.mpr rfl)) z
  have E' : En g S (ρ.set i (some (.dat (.lst ds)))) ω M0 σ H := by
    refine ⟨by rw [List.length_set, E.len], fun j s e => ?_, ml0, fun j b es f1 f2 => ?_, nd.1, fun b hb => E.dis b (List.mem_append_left _ hb), E.live, E.tabs⟩
    · by_cases hij : i = j
      · subst hij
        obtain ⟨v, h1, b, h2, h3⟩ := E.slot i _ hd
        rw [e1] at h2
        cases h2
        have hl : i < ρ.length := (List.getElem?_eq_some_iff.mp hd).1
        rw [List.getElem?_set_self hl] at e
        cases e
        exact ⟨v, h1, by rw [h3]; exact .lst na v1 (DxL.mono kp v2)⟩
      · rw [List.getElem?_set_ne hij] at e
        obtain ⟨v, h1, h2⟩ := E.slot j s e
        refine ⟨v, h1, ?_⟩
        cases s with
        | dat d => exact Dx.mono kp h2
        | mu n =>
          obtain ⟨b, h3, h4⟩ := h2
          refine ⟨b, ?_, h4⟩
          by_cases hn : n < M0.length
          · rw [List.getElem?_append_left hn] at h3
            exact h3
          · exfalso
            have l := (List.getElem?_eq_some_iff.mp h3).1
            rw [List.length_append, List.length_singleton] at l
            have : n = ω.length := by omega
            subst this
            exact hij (ho j e).symm
    · have hj : j < M0.length := (List.getElem?_eq_some_iff.mp f1).1
      obtain ⟨us, q1, q2⟩ := E.own j b es (by rw [List.getElem?_append_left hj]; exact f1) (by rw [List.getElem?_append_left (by omega)]; exact f2)
      exact ⟨us, q1, DxL.mono kp q2⟩
  have gr : Grw m (M0 ++ [a]) M0 H := ⟨by rw [List.take_append_of_le_length (by omega)], fun b hb => .inl (List.mem_append_left _ hb)⟩
  exact h X B S M0 σ H D E' fun o p => (q o p).mono gr (.refl _ _ _)
end
end Hw
set_option Elab.async false
set_option linter.all false
set_option maxRecDepth 100000
set_option maxHeartbeats 2000000
/-! Calls of defs, by data. -/
namespace Hw
open PySem PySem.Spec PyProof.Rows L2

inductive SlL (g : Gm) (S M : List Addr) (H : Hp) : List V → List Sl → Prop
  | nil : SlL g S M H [] []
  | cons {v : V} {vs : List V} {s : Sl} {ss : List Sl} : SlOk g S M H v s → SlL g S M H vs ss → SlL g S M H (v :: vs) (s :: ss)
section
variable {g : Gm} {S M : List Addr} {H : Hp}
theorem SlL.length : ∀ {vs : List V} {ss : List Sl}, SlL g S M H vs ss → vs.length = ss.length
  | _, _, .nil => rfl
  | _, _, .cons _ h => congrArg Nat.succ h.length
theorem SlL.get : ∀ {vs : List V} {ss : List Sl} {i : Nat} {s : Sl}, SlL g S M H vs ss → ss[i]? = some s → ∃ v, vs[i]? = some v ∧ SlOk g S M H v s
  | _, _, _, _, .nil, e => by simp at e
  | _, _, 0, _, .cons h _, e => ⟨_, rfl, by cases e; exact h⟩
  | _, _, i + 1, _, .cons _ h, e => h.get (i := i) e
theorem SlL.ofD : ∀ {vs : List V} {ds : List D}, DxL g (M ++ S) H vs ds → SlL g S M H vs (ds.map .dat)
  | _, _, .nil => .nil
  | _, _, .cons h hs => .cons h (SlL.ofD hs)
end
/-- a def's promise: the arguments as, the changing lists ω; it comes to r and leaves ω' -/
def spG (g : Gm) (as : List Sl) (ω : Om) (r : Res) (ω' : Om) : Sp := fun vs H Q E => ∃ S M, Own g S M ω H ∧ M.Nodup ∧ (∀ a ∈ M, a ∉ S) ∧ Lv S H ∧ LamX.Tabs g.T H ∧ SlL g S M H vs as ∧ RK g ⟨fun c d _ H => E c d H, true, none⟩ S M ω' [] H Q r
/-- the def at f, j defaults filled up -/
def CallF (g : Gm) (k : Nat) (f : Addr) (as : List Sl) (ω : Om) (r : Res) (ω' : Om) : Prop := ∃ (fd : FuncData) (ps : List Str) (dvs : List V) (ds : List Value) (dds : List D),
  PySem.W.keepIn g.K (.ref f) = true ∧ Binds g.K fd ps ds ∧ Vals dvs ds ∧ (∀ S H, DxL g S H dvs dds) ∧ FnOk g.P g.w g.K g.mg g.base (L2.CX g.P g.w) k f fd ps (spG g (as ++ dds.map .dat) ω r ω')
/-- the def called x -/
def CallG (g : Gm) (k : Nat) (x : Str) (as : List Sl) (ω : Om) (r : Res) (ω' : Om) : Prop := ∃ f : Addr, g.mg x = some (.ref f) ∧ CallF g k f as ω r ω'
theorem CallG.mono {g : Gm} {j k : Nat} {x : Str} {as : List Sl} {ω ω' : Om} {r : Res} (c : CallG g j x as ω r ω') (h : j ≤ k) : CallG g k x as ω r ω' := by
  obtain ⟨f, h1, fd, ps, dvs, ds, dds, h2, h3, h4, h5, h6⟩ := c
  exact ⟨f, h1, fd, ps, dvs, ds, dds, h2, h3, h4, h5, h6.mono h⟩
/-- a pure def -/
abbrev CallP (g : Gm) (k : Nat) (x : Str) (ds : List D) (r : Res) : Prop := CallG g k x (ds.map .dat) [] r []
/-- a def that draws from the hand -/
abbrev CallH (g : Gm) (k : Nat) (x : Str) (ds : List D) (hs : List D) (r : Res) (hs' : List D) : Prop := CallG g k x (.mu 0 :: ds.map .dat) [hs] r [hs']

/-- does it raise -/
def isX : Res → Bool
  | .val _ => false
  | .exc _ => true
/-- what a call may let out -/
def callE (W : Wm) (r : Res) : L2.St → XK := fun σ c d H => isX r = true ∧ W.w c d σ H
theorem callP {X : Cx} {W : Wm} {r : Res} (t : Tk X W) (h : isX r = true → W.md = true) (σ : L2.St) : PassesAt (L2.CX X.prog X.w) X σ (callE W r σ) := fun pins H s e s' I c => by
  obtain ⟨a, B, H', cls, d, h1, h2, h3, h4, h5, h6, h7, hx, h8⟩ := id c
  exact t.any (h hx) e s' (XE.of_call I (fun _ _ _ q => q.2) c)
theorem Stp.weak {g : Gm} {M M' : List Addr} {H H' : Hp} (s : Stp g M H H') (h : ∀ a ∈ M, a ∈ M') : Stp g M' H H' := ⟨fun a o ha t e => s.keep a o (fun z => ha (h a z)) t e, s.tabs, s.there⟩
section
variable {g : Gm} {N : List Str} {sc : Scope} {k : Nat} {W : Wm} {ρ : Rho} {ω ω1 ω2 ω3 : Om} {pos : Pos} {S M : List Addr} {σ : L2.St} {H : Hp}
theorem sl_app {vs ws : List V} {ss : List Sl} {ds : List D} (h : SlL g S M H vs ss) (q : DxL g (M ++ S) H ws ds) : SlL g S M H (vs ++ ws) (ss ++ ds.map .dat) := by
  induction h with
  | nil => exact SlL.ofD q
  | cons a _ ih => exact .cons a ih
/-- what follows a pure call -/
theorem rk_pure {H1 : Hp} {Q : VK} {r : Res} {E : XK} (hW : ∀ c d H, isX r = true → W.w c d σ H → E c d H) (o : Own g S M ω1 H1) (s : Stp g M H H1) (q : RK g W S M ω1 σ H Q r) : RK g ⟨fun c d _ H => E c d H, true, none⟩ (M ++ S) [] [] [] H1 Q r := by
  have go : ∀ {H' : Hp}, Stp g [] H1 H' → Stp g M H H' ∧ Own g S M ω1 H' := fun t => ⟨s.trans (t.weak fun a z => by cases z), o.step fun a u e tb => t.keep a u (fun z => by cases z) tb e⟩
  cases r with
  | val d => exact fun v H' t _ x => q v H' (go t).1 (go t).2 x
  | exc x => exact fun dd H' t _ y => hW _ _ _ rfl (q dd H' (go t).1 (go t).2 y)
theorem ev_call {x : Str} {p : Pos} {e : Expr} {es : List Expr} {ds : List D} {r : Res} (c : CallP g k x ds r) (ha : EvA g N sc k W (e :: es) ρ ω ds ω1)
    (hmd : isX r = true → W.md = true := by exact fun z => (nomatch z)) (hg : glB sc x = true := by decide +kernel) (hdb : (x == ("__debug__" : Str)) = false := by decide) (h1 : noStar e es := by exact fun _ => rfl) (h2 : noStars es := by exact fun _ _ => rfl) :
    EvE g N sc k W (.Call (.Name x p) (e :: es) [] pos) ρ ω r ω1 := fun X B S M σ H E Q q => by
  obtain ⟨f, m1, fd, ps, dvs, dv, dds, m2, m3, m4, m5, F⟩ := c
  rw [← B.prog, ← B.w, ← B.K, ← B.mg, ← B.base] at F
  refine s_of (pe_callSD (E := callE W r) F B.room (gl_of B hg) (by rw [B.mg]; exact m1) (by rw [B.K]; exact m2) (by rw [B.K]; exact m3) m4 (fun σ => callP B.tk hmd σ) (pa_s X (e :: es)) hdb (h1 X.env) (h2 X.env pos)) ?_
  refine ha X B S M σ H E _ fun vs H1 s1 o1 x1 => ?_
  have E1 := E.go s1 o1
  exact ⟨M ++ S, [], ⟨rfl, fun k a ds e => by simp at e⟩, List.nodup_nil, fun a z => (by cases z), E1.live', E1.tabs, sl_app (SlL.ofD x1) (m5 _ _), rk_pure (fun _ _ _ hx h => ⟨hx, h⟩) o1 s1 q⟩
theorem pa_nm {X : Cx} {i : Nat} {x : Str} {px : Pos} (B : Bd g N sc k W X) (hi : N[i]? = some x) (hv : visB sc x = true) (h1 : (x == ("__debug__" : Str)) = false) (h2 : (x == ("__classdict__" : Str)) = false) : PE X (.Name x px) (tVar i) := pe_var (i := i) (by rw [B.hN]; exact hi) (by rw [B.hS]; exact vis_of hv) h1 h2
/-- a name of the frame that holds the def -/
theorem ev_callV (i : Nat) {x : Str} {p : Pos} {e : Expr} {es : List Expr} {f : Addr} {ds : List D} {r : Res} (hd : ρ[i]? = some (some (.dat (.fn f)))) (c : CallF g k f (ds.map .dat) [] r []) (ha : EvA g N sc k W (e :: es) ρ ω ds ω1) (hi : N[i]? = some x := by rfl)
    (hmd : isX r = true → W.md = true := by exact fun z => (nomatch z)) (hv : visB sc x = true := by decide +kernel) (hx1 : (x == ("__debug__" : Str)) = false := by decide) (hx2 : (x == ("__classdict__" : Str)) = false := by decide) (h1 : noStar e es := by exact fun _ => rfl) (h2 : noStars es := by exact fun _ _ => rfl) :
    EvE g N sc k W (.Call (.Name x p) (e :: es) [] pos) ρ ω r ω1 := fun X B S M σ H E Q q => by
  obtain ⟨fd, ps, dvs, dv, dds, m2, m3, m4, m5, F⟩ := c
  rw [← B.prog, ← B.w, ← B.K, ← B.mg, ← B.base] at F
  obtain ⟨v, e1, e2⟩ := E.slot i _ hd
  cases e2
  unfold sE
  intro pins s I
  refine wpAny_Call_Name_kw (thn ((pa_nm B hi hv hx1 hx2 (px := p)).run pins s σ H (fun v H1 => v = .ref f ∧ H1 = H) I ⟨.ref f, e1, rfl, rfl⟩) fun u s1 ⟨v, H1, I1, r1, q1⟩ => ?_)
  obtain ⟨q1, q2⟩ := q1
  subst q1 q2
  obtain rfl : u = Value.ref f := r1
  refine PySem.W.callWith_K (h₀ := X.base) I1.ok.mod.kin (by rw [B.K]; exact m2) (thn ((pa_s X (e :: es)).run pos pins s1 σ H1 (fun vs H2 => spG g (ds.map .dat ++ dds.map .dat) [] r [] (vs ++ dvs) H2 Q (callE W r σ)) I1 ?_) fun us s2 ⟨vs, H2, I2, rv, q⟩ => ⟨I2.kIn, ?_⟩) (h1 X.env) (h2 X.env pos)
  · refine ha X B S M σ H1 E _ fun vs H2 s1 o1 x1 => ?_
    have E1 := E.go s1 o1
    exact ⟨M ++ S, [], ⟨rfl, fun k a ds e => by simp at e⟩, List.nodup_nil, fun a z => (by cases z), E1.live', E1.tabs, sl_app (SlL.ofD x1) (m5 _ _), rk_pure (fun _ _ _ hx h => ⟨hx, h⟩) o1 s1 q⟩
  · exact run_fnSD (E := callE W r) F B.room (by rw [B.K]; exact m3) m4 (callP B.tk hmd σ) I2 rv q
/-- the hand, and data -/
theorem own_hand {a : Addr} {M1 : List Addr} {hs hs' : List D} {H' : Hp} (o : Own g S (a :: M1) (hs :: ω1) H) (nd : (a :: M1).Nodup) (s : Stp g [a] H H') (o' : Own g (M1 ++ S) [a] [hs'] H') : Own g S (a :: M1) (hs' :: ω1) H' := by
  refine ⟨o.1, fun k b ds e1 e2 => ?_⟩
  cases k with
  | zero =>
    cases e1
    cases e2
    exact o'.2 0 _ _ rfl rfl
  | succ k =>
    obtain ⟨vs, h1, h2⟩ := o.2 (k + 1) b ds e1 e2
    have hb : b ∈ M1 := List.mem_of_getElem? e1
    have ne : b ∉ [a] := fun z => (List.nodup_cons.mp nd).1 (by rw [← List.mem_singleton.mp z]; exact hb)
    exact ⟨vs, s.keep b _ ne (fun ps z => by cases z) h1, DxL.mono (fun c u hc t e => ⟨hc, s.keep c u (fun z => hc (by rw [List.mem_singleton.mp z]; exact List.mem_cons_self)) t e⟩) h2⟩
theorem ev_callH (i : Nat) {x y : Str} {p py : Pos} {es : List Expr} {ds hs hs' : List D} {r : Res} (hd : ρ[i]? = some (some (.mu 0))) (c : CallH g k x ds hs r hs') (ha : EvA g N sc k W es ρ ω ds (hs :: ω1)) (hi : N[i]? = some y := by rfl)
    (hmd : isX r = true → W.md = true := by exact fun z => (nomatch z)) (hg : glB sc x = true := by decide +kernel) (hdb : (x == ("__debug__" : Str)) = false := by decide) (h1 : noStar (.Name y py) es := by exact fun _ => rfl) (h2 : noStars es := by exact fun _ _ => rfl)
    (hv : visB sc y = true := by decide +kernel) (hy1 : (y == ("__debug__" : Str)) = false := by decide) (hy2 : (y == ("__classdict__" : Str)) = false := by decide) :
    EvE g N sc k W (.Call (.Name x p) (.Name y py :: es) [] pos) ρ ω r (hs' :: ω1) := fun X B S M σ H E Q q => by
  obtain ⟨f, m1, fd, ps, dvs, dv, dds, m2, m3, m4, m5, F⟩ := c
  rw [← B.prog, ← B.w, ← B.K, ← B.mg, ← B.base] at F
  obtain ⟨v, e1, a, e2, e3⟩ := E.slot i _ hd
  subst e3
  refine s_of (pe_callSD (E := callE W r) F B.room (gl_of B hg) (by rw [B.mg]; exact m1) (by rw [B.K]; exact m2) (by rw [B.K]; exact m3) m4 (fun σ => callP B.tk hmd σ) (pa_cons (pa_nm B hi hv hy1 hy2) (pa_s X es) (h1 X.env)) hdb (h1 X.env) (h2 X.env pos)) ?_
  refine ⟨_, e1, ?_⟩
  refine ha X B S M σ H E _ fun vs H1 s1 o1 x1 => ?_
  have E1 := E.go s1 o1
  cases M with
  | nil => cases e2
  | cons b M1 =>
    cases e2
    have go : ∀ {H' : Hp}, Stp g [a] H1 H' → Own g (M1 ++ S) [a] [hs'] H' → Stp g (a :: M1) H H' ∧ Own g S (a :: M1) (hs' :: ω1) H' := fun t o' =>
      ⟨s1.trans (t.weak fun b z => by rw [List.mem_singleton.mp z]; exact List.mem_cons_self), own_hand o1 E.nd t o'⟩
    refine ⟨M1 ++ S, [a], ⟨rfl, fun k b ds e1 e2 => ?_⟩, by simp, fun b z => ?_, fun b hb => E1.live' b (List.mem_cons_of_mem _ hb), E1.tabs, ?_, ?_⟩
    · cases k with
      | zero =>
        cases e1
        cases e2
        exact o1.2 0 _ _ rfl rfl
      | succ k => simp at e1
    · rw [List.mem_singleton.mp z]
      intro y
      rcases List.mem_append.mp y with y | y
      · exact (List.nodup_cons.mp E.nd).1 y
      · exact E.dis a List.mem_cons_self y
    · exact .cons ⟨a, rfl, rfl⟩ (sl_app (SlL.ofD x1) (m5 _ _))
    · cases r with
      | val d => exact fun v H' t o x => q v H' (go t o).1 (go t o).2 x
      | exc x => exact fun dd H' t o y => ⟨rfl, q dd H' (go t o).1 (go t o).2 y⟩

/-! ### a def keeps its promise -/
def startR (N : List Str) (as : List Sl) : Rho := as.map some ++ List.replicate (N.length - as.length) none
def Fin (r : Res) (ω' : Om) : Out → Prop
  | .ret d ω'' => r = .val d ∧ ω''.take ω'.length = ω'
  | .next _ ω'' => r = .val .non ∧ ω''.take ω'.length = ω'
  | .exc x ω'' => r = .exc x ∧ ω''.take ω'.length = ω'
  | _ => False
theorem own_take {M M' : List Addr} {ω' : Om} {m : Nat} {H' : Hp} (a : Grw m M M' H) (hm : M.length = m) (hw : ω1.take m = ω') (o : Own g S M' ω1 H') : Own g S M ω' H' ∧ Kp (M' ++ S) (M ++ S) H' H' := by
  have pre : M'.take m = M := by rw [a.pre, ← hm, List.take_length]
  have kp : Kp (M' ++ S) (M ++ S) H' H' := fun b u hb _ e => ⟨fun z => hb (by
    rcases List.mem_append.mp z with z | z
    · rw [← pre] at z
      exact List.mem_append_left _ (List.mem_of_mem_take z)
    · exact List.mem_append_right _ z), e⟩
  refine ⟨⟨?_, fun k b ds e1 e2 => ?_⟩, kp⟩
  · rw [← pre, ← hw, List.length_take, List.length_take, o.1]
  · have hk : k < m := by rw [← hm]; exact (List.getElem?_eq_some_iff.mp e1).1
    rw [← pre, List.getElem?_take_of_lt hk] at e1
    rw [← hw, List.getElem?_take_of_lt hk] at e2
    obtain ⟨vs, h1, h2⟩ := o.2 k b ds e1 e2
    exact ⟨vs, h1, DxL.mono kp h2⟩
theorem en_start {N : List Str} {as : List Sl} {vs : List V} (hl : as.length ≤ N.length) (o : Own g S M ω H) (nd : M.Nodup) (dis : ∀ a ∈ M, a ∉ S) (lv : Lv S H) (tb : LamX.Tabs g.T H) (x : SlL g S M H vs as) : En g S (startR N as) ω M (L2.start N vs) H := by
  have e := x.length
  refine ⟨?_, fun i s h => ?_, o.1, o.2, nd, dis, lv, tb⟩
  · unfold startR L2.start
    rw [List.length_append, List.length_append, List.length_map, List.length_map, List.length_replicate, List.length_replicate, e]
  · unfold startR at h
    unfold L2.start
    by_cases hi : i < as.length
    · rw [List.getElem?_append_left (by rw [List.length_map]; exact hi), List.getElem?_map] at h
      cases q : as[i]? with
      | none => rw [q] at h; cases h
      | some t =>
        rw [q] at h
        cases h
        obtain ⟨v, v1, v2⟩ := x.get q
        refine ⟨v, ?_, v2⟩
        rw [List.getElem?_append_left (by rw [List.length_map, e]; exact hi), List.getElem?_map, v1]
        rfl
    · rw [List.getElem?_append_right (by rw [List.length_map]; omega)] at h
      rw [List.getElem?_replicate] at h
      split at h <;> cases h
theorem fin_ok {X : Cx} {N : List Str} {vs : List V} {as : List Sl} {r : Res} {ω' : Om} {Q : VK} {E : XK} {l : Option (Value × Str)} {b : Bool} {m : Nat} (hm0 : m = ω'.length) (hw : ω.length = ω'.length) (o : Own g S M ω H) (q : RK g ⟨fun c d _ H => E c d H, true, none⟩ S M ω' [] H Q r) :
    ∀ oo, Fin r ω' oo → OK g ⟨fun c d _ H => E c d H, b, l⟩ m S M H { nx := fun _ H' => Q .non H', rt := Q } oo := by
  subst hm0
  have hm : M.length = ω'.length := o.1.trans hw
  intro oo h
  cases oo with
  | next ρ1 ω1 =>
    obtain ⟨rfl, h2⟩ := h
    intro M' σ' H' a s E'
    obtain ⟨o1, kp⟩ := own_take a hm h2 E'.ow
    exact q .non H' s o1 .non
  | brk ρ1 ω1 => exact h.elim
  | cnt ρ1 ω1 => exact h.elim
  | ret d ω1 =>
    obtain ⟨rfl, h2⟩ := h
    intro v M' H' a s o' x'
    obtain ⟨o1, kp⟩ := own_take a hm h2 o'
    exact q v H' s o1 (Dx.mono kp x')
  | exc xx ω1 =>
    obtain ⟨rfl, h2⟩ := h
    intro dd σ' M' H' a s o' x'
    obtain ⟨o1, kp⟩ := own_take a hm h2 o'
    refine q dd H' s o1 ?_
    unfold XdOk at x' ⊢
    split at x'
    · exact x'
    · obtain ⟨b, fvs, h3, h4, h5, h6, h7⟩ := x'
      exact ⟨b, fvs, h3, h4, (kp b _ h5 (fun ps z => by cases z) h4).1, h6, DxL.mono kp h7⟩
theorem sp_len {as : List Sl} {ps : List Str} {r : Res} {ω' : Om} (hl : as.length = ps.length) : ∀ vs H Q E, spG g as ω r ω' vs H Q E → vs.length = ps.length := fun vs H Q E h => by
  obtain ⟨S, M, _, _, _, _, _, x, _⟩ := h
  rw [x.length, hl]
theorem def_ok {x qual : Str} {params : Arguments} {body : List Stmt} {scope : Scope} {dvs : List V} {f : Addr} {fd : FuncData} {ps : List Str} {as : List Sl} {r : Res} {ω' : Om} (F : FunD g.K x qual params body scope dvs [] f fd) (Sc : FnScope N ps scope)
    (hl : as.length = ps.length) (hN : as.length ≤ N.length) (hw : ω.length = ω'.length) (hbody : ∀ W : Wm, W.md = true → W.lam = some (fd.code, qual ++ ".<locals>.") → WS g N scope k W ω'.length body (startR N as) ω (Fin r ω')) : FnOk g.P g.w g.K g.mg g.base (L2.CX g.P g.w) (k + 1) f fd ps (spG g as ω r ω') := by
  obtain ⟨oc, od, dV, kV, doc, pm, an, cdv, ct, osl, rfl, lk, hcd, _, _⟩ := F.ex
  refine fn_of lk hcd Sc (sp_len hl) fun A outer s H vs Q E hr h => ⟨sSs _ body, pss_s _ body, ?_⟩
  obtain ⟨S, M, o, nd, dis, lv, tb, x, q⟩ := h
  exact hbody ⟨fun c d _ H => E c d H, true, some (cdv, qual ++ ".<locals>.")⟩ rfl rfl _ ⟨⟨⟨rfl, rfl, rfl, rfl, rfl, rfl, hr⟩, rfl, rfl, Sc.nd, Tk.of (takes_of rfl rfl rfl rfl), fun c q z => by cases z; exact ⟨rfl, rfl⟩⟩, passes_of rfl, fun _ hd => .leaving, fun _ => rfl, rfl, rfl, rfl⟩ S M _ H _ (en_start hN o nd dis lv tb x) (fin_ok (X := cxOf (L2.CX g.P g.w) g.P g.w g.K g.mg g.base N qual scope f cdv A outer s H E) (N := N) (vs := vs) (as := as) rfl hw o q)
/-- .. whose exceptions bear no context -/
theorem def_okN {x qual : Str} {params : Arguments} {body : List Stmt} {scope : Scope} {dvs : List V} {f : Addr} {fd : FuncData} {ps : List Str} {as : List Sl} {r : Res} {ω' : Om} (F : FunD g.K x qual params body scope dvs [] f fd) (Sc : FnScope N ps scope)
    (hl : as.length = ps.length) (hN : as.length ≤ N.length) (hw : ω.length = ω'.length) (hbody : ∀ W : Wm, WS g N scope k W ω'.length body (startR N as) ω (Fin r ω')) : FnOk g.P g.w g.K g.mg g.base (L2N.CX g.P g.w) (k + 1) f fd ps (spG g as ω r ω') := by
  obtain ⟨oc, od, dV, kV, doc, pm, an, cdv, ct, osl, rfl, lk, hcd, _, _⟩ := F.ex
  refine fn_of lk hcd Sc (sp_len hl) fun A outer s H vs Q E hr h => ⟨sSs _ body, pss_s _ body, ?_⟩
  obtain ⟨S, M, o, nd, dis, lv, tb, x, q⟩ := h
  exact hbody ⟨fun c d _ H => E c d H, false, none⟩ _ ⟨⟨⟨rfl, rfl, rfl, rfl, rfl, rfl, hr⟩, rfl, rfl, Sc.nd, Tk.ofN (L2N.takes_of rfl rfl rfl rfl), fun c q z => by cases z⟩, passes_of rfl, fun z => (nomatch z), fun _ => rfl, rfl, rfl, rfl⟩ S M _ H _ (en_start hN o nd dis lv tb x) (fin_ok (X := cxOf (L2N.CX g.P g.w) g.P g.w g.K g.mg g.base N qual scope f cdv A outer s H E) (N := N) (vs := vs) (as := as) rfl hw o q)
end
section
variable {g : Gm} {N : List Str} {sc : Scope} {k : Nat} {W : Wm} {ρ : Rho} {ω ω1 : Om} {pos : Pos}
theorem et_nT {e : Expr} (h : EvT g N sc k W e ρ ω false ω1) : EvT g N sc k W (.UnaryOp .Not e pos) ρ ω true ω1 := et_not h
theorem et_nF {e : Expr} (h : EvT g N sc k W e ρ ω true ω1) : EvT g N sc k W (.UnaryOp .Not e pos) ρ ω false ω1 := et_not h
end
/-- a def of the top as it stands -/
def HasF (g : Gm) (x : Str) (st : Stmt) (dvs : List V) : Prop := ∃ f fd, FunD g.K x x (defArgs st) (defBody st) (defScope st) dvs [] f fd ∧ g.mg x = some (.ref f)
section
variable {g : Gm} {k : Nat} {ω ω' : Om} {r : Res}
/-- no defaults -/
theorem call_ok {x : Str} {st : Stmt} {as : List Sl} (N ps : List Str) (h : HasF g x st []) (Sc : FnScope N ps (defScope st)) (hbody : ∀ W : Wm, W.md = true → WS g N (defScope st) k W ω'.length (defBody st) (startR N as) ω (Fin r ω'))
    (hb : ∀ (kV doc pm : Value) (an : Option Addr) (cdv ct : Value) (us : List Value), us.length = ps.length → bindArgs (PySem.W.fnOf x x (defArgs st) (defBody st) (defScope st) .none kV doc pm an cdv ct) ⟨us, []⟩ = pure (ps.zip us))
    (hl : as.length = ps.length := by rfl) (hN : as.length ≤ N.length := by simp) (hw : ω.length = ω'.length := by rfl) : CallG g (k + 1) x as ω r ω' := by
  obtain ⟨f, fd, F, m⟩ := h
  exact ⟨f, m, fd, ps, [], [], [], F.kp, F.bindsN hb, .nil, fun _ _ => .nil, by
    rw [List.map_nil, List.append_nil]
    exact def_ok F Sc hl hN hw fun W a _ => hbody W a⟩
end
end Hw
set_option Elab.async false
set_option linter.all false
set_option maxRecDepth 100000
set_option maxHeartbeats 2000000
/-! What the top has written. -/
namespace Hw
open PySem PySem.Spec PyProof.Rows L2

/-- a ratio -/
abbrev rat (q : Rat) : D := .tup [.int q.num, .int q.den]
def defsA : List (Str × Stmt × List V) := [⟨"is_whole", s_is_whole, [.non, .non]⟩, ⟨"shared_divisor", s_shared_divisor, []⟩, ⟨"lowest", s_lowest, []⟩, ⟨"is_ratio", s_is_ratio, []⟩, ⟨"plus", s_plus, []⟩, ⟨"negative", s_negative, []⟩, ⟨"times", s_times, []⟩, ⟨"over", s_over, []⟩, ⟨"compare", s_compare, []⟩, ⟨"sum_of", s_sum_of, []⟩, ⟨"check_lengths", s_check_lengths, []⟩, ⟨"check_hum", s_check_hum, []⟩, ⟨"check_row", s_check_row, []⟩, ⟨"check_signs", s_check_signs, []⟩, ⟨"check_word", s_check_word, []⟩, ⟨"check_poles", s_check_poles, []⟩, ⟨"weigh_hum", s_weigh_hum, []⟩, ⟨"wrong_word", s_wrong_word, []⟩, ⟨"lots_up_to", s_lots_up_to, []⟩, ⟨"wrong_lots", s_wrong_lots, []⟩, ⟨"check_tests", s_check_tests, []⟩, ⟨"read_tests", s_read_tests, []⟩, ⟨"check_readings", s_check_readings, []⟩, ⟨"tails_of", s_tails_of, []⟩, ⟨"lot_reading", s_lot_reading, []⟩, ⟨"lot_readings", s_lot_readings, []⟩, ⟨"lots_that_fit", s_lots_that_fit, []⟩, ⟨"some_lots", s_some_lots, []⟩, ⟨"sure_wrong", s_sure_wrong, []⟩, ⟨"sure_right", s_sure_right, []⟩]
def defsB : List (Str × Stmt × List V) := [⟨"telling_hum", s_telling_hum, []⟩, ⟨"word_of_reading", s_word_of_reading, []⟩, ⟨"_law_hand", s__law_hand, []⟩, ⟨"_law_mixed", s__law_mixed, []⟩, ⟨"_law_take", s__law_take, []⟩, ⟨"_law_gcd", s__law_gcd, []⟩, ⟨"_law_ratio", s__law_ratio, []⟩, ⟨"_law_plus", s__law_plus, []⟩, ⟨"_law_times", s__law_times, []⟩, ⟨"_law_noise", s__law_noise, []⟩, ⟨"_law_even", s__law_even, []⟩, ⟨"_law_line", s__law_line, []⟩, ⟨"_law_word", s__law_word, []⟩, ⟨"_law_built", s__law_built, []⟩, ⟨"_law_hum", s__law_hum, []⟩, ⟨"_law_is_ratio", s__law_is_ratio, []⟩, ⟨"_law_is_row", s__law_is_row, []⟩, ⟨"_law_count", s__law_count, []⟩, ⟨"_law_lots", s__law_lots, []⟩, ⟨"_law_wrong", s__law_wrong, []⟩, ⟨"_law_readings", s__law_readings, []⟩, ⟨"_law_odd_word", s__law_odd_word, []⟩, ⟨"_law_odd_hum", s__law_odd_hum, []⟩, ⟨"_law_base", s__law_base, []⟩, ⟨"_law_caught", s__law_caught, []⟩, ⟨"_law_telling", s__law_telling, []⟩, ⟨"_law_long", s__law_long, []⟩, ⟨"_law_refused", s__law_refused, []⟩, ⟨"law", s_law, []⟩]
def defs : List (Str × Stmt × List V) := defsA ++ defsB
structure Has (g : Gm) : Prop where
  li : Li g
  fn : ∀ (i : Nat) (x : Str) (st : Stmt) (dvs : List V), defs[i]? = some (x, st, dvs) → HasF g x st dvs
  g_ZERO : Glo g "ZERO" (.tup [.int 0, .int 1])
  g_ONE : Glo g "ONE" (.tup [.int 1, .int 1])
  g_MOST_SECTIONS : Glo g "MOST_SECTIONS" (.int 24)
  g_MOST_WRONG : Glo g "MOST_WRONG" (.int 3)
  g_MOST_TESTS : Glo g "MOST_TESTS" (.int 6)
section
variable {g : Gm} {k : Nat} {r : Res}
/-- is_whole: n of three are given -/
theorem whole_ok {ds : List D} (j : Nat) (h : HasF g "is_whole" s_is_whole [.non, .non]) (hn : ds.length + (2 - j) = 3) (N : List Str) (Sc : FnScope N ["thing", "low", "high"] (defScope s_is_whole))
    (hN : 3 ≤ N.length) (hbody : ∀ W : Wm, W.md = true → WS g N (defScope s_is_whole) k W 0 (defBody s_is_whole) (startR N ((ds ++ List.replicate (2 - j) D.non).map .dat)) [] (Fin r [])) : CallP g (k + 1) "is_whole" ds r := by
  obtain ⟨f, fd, F, m⟩ := h
  obtain ⟨dv, rv, b⟩ := F.binds1 (ps := ["thing", "low", "high"]) ds.length j (by simp) hn (fun T kV doc pm an cdv ct us its h1 h2 => by
    match its, h2 with
    | [a, b], _ =>
      rcases us with _ | ⟨u, _ | ⟨u2, _ | ⟨u3, _ | ⟨u4, us⟩⟩⟩⟩
      · rw [← h1] at hn; simp at hn; omega
      · rw [← h1] at hn
        obtain rfl : j = 0 := by simp at hn; omega
        exact ⟨_, rfl, rfl⟩
      · rw [← h1] at hn
        obtain rfl : j = 1 := by simp at hn; omega
        exact ⟨_, rfl, rfl⟩
      · rw [← h1] at hn
        have : 2 ≤ j := by simp at hn; omega
        refine ⟨_, rfl, ?_⟩
        rw [show List.drop j [a, b] = [] from List.drop_eq_nil_of_le (by simpa using this)]
        rfl
      · rw [← h1] at hn; simp at hn; omega)
  refine ⟨f, m, fd, _, _, dv, List.replicate (2 - j) D.non, F.kp, b, rv, fun S H => ?_, ?_⟩
  · match j with
    | 0 => exact .cons .non (.cons .non .nil)
    | 1 => exact .cons .non .nil
    | j + 2 =>
      rw [List.drop_eq_nil_of_le (by simp), show 2 - (j + 2) = 0 by omega]
      exact .nil
  · rw [← List.map_append]
    exact def_ok F Sc (by rw [List.length_map, List.length_append, List.length_replicate]; exact hn) (by rw [List.length_map, List.length_append, List.length_replicate, hn]; exact hN) rfl fun W a _ => hbody W a
end
end Hw
set_option Elab.async false
set_option linter.all false
set_option maxRecDepth 100000
set_option maxHeartbeats 2000000
/-! The walks: ratios. -/
namespace Hw
open PySem PySem.Spec PyProof.Rows L2

/-- fewer than n bits, above and below -/
def Rb (n : Nat) (q : Rat) : Prop := Bt n q.num ∧ Bt n (q.den : Int)
theorem Bt.ofNat {n m : Nat} (h : m < 2 ^ n) : Bt n (m : Int) := by show (m : Int).natAbs < _; simpa using h
theorem Rb.mono {n m : Nat} {q : Rat} (h : Rb n q) (l : n ≤ m) : Rb m q := ⟨h.1.mono l, h.2.mono l⟩
theorem mkRat_eqs (t : Int) {b : Nat} (h : b ≠ 0) : (mkRat t b).num = t / (Int.gcd t b) ∧ ((mkRat t b).den : Int) = b / (Int.gcd t b) := by
  simp [mkRat, h, Rat.normalize_eq, Int.gcd]
theorem Rb.mk {n : Nat} {t : Int} {b : Nat} (h : b ≠ 0) (h1 : Bt n t) (h2 : Bt n (b : Int)) : Rb n (mkRat t b) := by
  obtain ⟨e1, e2⟩ := mkRat_eqs t h
  unfold Rb
  rw [e1, e2]
  exact ⟨Nat.lt_of_le_of_lt (Int.natAbs_ediv_le_natAbs _ _) h1, Nat.lt_of_le_of_lt (Int.natAbs_ediv_le_natAbs _ _) h2⟩
theorem add_mk (p q : Rat) : p + q = mkRat (p.num * q.den + q.num * p.den) (p.den * q.den) := by rw [Rat.add_def, Rat.normalize_eq_mkRat]
theorem mul_mk (p q : Rat) : p * q = mkRat (p.num * q.num) (p.den * q.den) := by rw [Rat.mul_def, Rat.normalize_eq_mkRat]
theorem Rb.add {n m : Nat} {p q : Rat} (h : Rb n p) (k : Rb m q) : Rb (n + m + 1) (p + q) := by
  rw [add_mk]
  refine Rb.mk (Nat.mul_ne_zero p.den_nz q.den_nz) ?_ ?_
  · have := (h.1.mul k.2).add (k.1.mul h.2)
    exact this.mono (by omega)
  · rw [Int.natCast_mul]
    exact (h.2.mul k.2).mono (by omega)
theorem Rb.mul {n m : Nat} {p q : Rat} (h : Rb n p) (k : Rb m q) : Rb (n + m) (p * q) := by
  rw [mul_mk]
  refine Rb.mk (Nat.mul_ne_zero p.den_nz q.den_nz) (h.1.mul k.1) ?_
  rw [Int.natCast_mul]
  exact h.2.mul k.2
theorem Rb.neg {n : Nat} {q : Rat} (h : Rb n q) : Rb n (-q) := ⟨by rw [Rat.neg_num]; exact h.1.neg, by rw [Rat.neg_den]; exact h.2⟩
theorem den_pos (q : Rat) : (0 : Int) < q.den := by have := q.den_nz; omega
theorem Rb.int {n : Nat} {i : Int} (h : Bt n i) (h1 : 1 ≤ n := by omega) : Rb n (i : Rat) := ⟨by rw [Rat.num_intCast]; exact h, by
  rw [Rat.den_intCast]
  exact Bt.ofNat (Nat.lt_of_lt_of_le (by decide : 1 < 2 ^ 1) (Nat.pow_le_pow_right (by decide) h1))⟩
theorem rat_int (i : Int) : rat (i : Rat) = .tup [.int i, .int 1] := by
  show D.tup [.int (i : Rat).num, .int ((i : Rat).den : Int)] = _
  rw [Rat.num_intCast, Rat.den_intCast]
  rfl
theorem rat_mk {t : Int} {b : Nat} (h : b ≠ 0) : rat (mkRat t b) = .tup [.int (t / (Int.gcd t b)), .int (b / (Int.gcd t b))] := by
  obtain ⟨e1, e2⟩ := mkRat_eqs t h
  show D.tup [.int (mkRat t b).num, .int ((mkRat t b).den : Int)] = _
  rw [e1, e2]
theorem gcd_pos {t : Int} {b : Nat} (h : b ≠ 0) : (0 : Int) < (Int.gcd t b : Int) := by
  have : 0 < Int.gcd t b := Int.gcd_pos_of_ne_zero_right _ (by omega)
  omega
theorem gcd_bt {n b : Nat} {t : Int} (h : b ≠ 0) (k : Bt n (b : Int)) : Bt n (Int.gcd t b : Int) := by
  have h1 : Int.gcd t b ≤ b := Nat.le_of_dvd (by omega) (by have := Int.gcd_dvd_natAbs_right t b; simpa using this)
  refine Bt.ofNat (Nat.lt_of_le_of_lt h1 ?_)
  have : (b : Int).natAbs < 2 ^ n := k
  simpa using this
/-- is it a whole number between -/
def loOk : D → Int → Bool
  | .int l, i => !decide (i < l)
  | _, _ => true
def hiOk : D → Int → Bool
  | .int l, i => decide (i ≤ l)
  | _, _ => true
def wholeB : D → D → D → Bool
  | .int i, lo, hi => loOk lo i && hiOk hi i
  | _, _, _ => false
inductive NI : D → Prop
  | non : NI .non
  | int (i : Int) : NI (.int i)

section
variable {g : Gm} (h : Has g)
include h
theorem c_shared_divisor (a b : Int) : CallP g 1 "shared_divisor" [.int a, .int b] (.val (.int (Int.gcd a b))) := by
  refine call_ok ["one", "other"] ["one", "other"] (h.fn 1 "shared_divisor" s_shared_divisor [] rfl) ⟨rfl, rfl, rfl, by decide +kernel, rfl, by decide +kernel, by decide +kernel⟩ (fun W hm => ?_) (fun _ _ _ _ _ _ us hl => match us, hl with | [_, _], _ => rfl)
  refine ws_set 0 (ev_cb h.li.abs (ea_cons (ev_var 0 rfl rfl) ea_nil) fn_abs) ?_
  refine ws_set 1 (ev_cb h.li.abs (ea_cons (ev_var 1 rfl rfl) ea_nil) fn_abs) ?_
  refine ws_while (α := {p : Nat × Nat // Nat.gcd p.1 p.2 = Int.gcd a b}) (fun p => ([some (.dat (.int p.1.1)), some (.dat (.int p.1.2))], [])) (fun p => p.1.2) ⟨(a.natAbs, b.natAbs), rfl⟩ (.refl _) rfl (fun p => ⟨_, (et_cmp (ev_var 1 rfl rfl) ev_int cmp_neI), fun c => ?_, fun c => ?_⟩)
  · have c' : p.1.2 ≠ 0 := by simpa using c
    refine ws_par 0 1 (ea_cons (ev_var 1 rfl rfl) (ea_cons (ev_bin (ev_var 0 rfl rfl) (ev_var 1 rfl rfl) (bin_mod (by omega))) ea_nil)) ?_
    refine ws_nil ⟨⟨(p.1.2, p.1.1 % p.1.2), ?_⟩, Nat.mod_lt _ (by omega), .refl _, rfl⟩
    exact ((Nat.gcd_comm _ _).trans (Nat.gcd_rec _ _).symm).trans ((Nat.gcd_comm _ _).trans p.2)
  · have c' : p.1.2 = 0 := by simpa using c
    refine ws_ret (ev_var 0 rfl rfl) ⟨?_, rfl⟩
    have := p.2
    rw [c', Nat.gcd_zero_right] at this
    rw [this]
theorem c__law_gcd (a b : Int) : CallP g 1 "_law_gcd" [.int a, .int b] (.val (.int (Int.gcd a b))) := by
  refine call_ok ["_law_one", "_law_other"] ["_law_one", "_law_other"] (h.fn 35 "_law_gcd" s__law_gcd [] rfl) ⟨rfl, rfl, rfl, by decide +kernel, rfl, by decide +kernel, by decide +kernel⟩ (fun W hm => ?_) (fun _ _ _ _ _ _ us hl => match us, hl with | [_, _], _ => rfl)
  refine ws_par 0 1 (ea_cons (ev_cb h.li.abs (ea_cons (ev_var 0 rfl rfl) ea_nil) fn_abs) (ea_cons (ev_cb h.li.abs (ea_cons (ev_var 1 rfl rfl) ea_nil) fn_abs) ea_nil)) ?_
  refine ws_while (α := {p : Nat × Nat // Nat.gcd p.1 p.2 = Int.gcd a b}) (fun p => ([some (.dat (.int p.1.1)), some (.dat (.int p.1.2))], [])) (fun p => p.1.2) ⟨(a.natAbs, b.natAbs), rfl⟩ (.refl _) rfl (fun p => ⟨_, (et_tru (ev_var 1 rfl rfl)), fun c => ?_, fun c => ?_⟩)
  · have c' : p.1.2 ≠ 0 := by simpa [truB] using c
    refine ws_par 0 1 (ea_cons (ev_var 1 rfl rfl) (ea_cons (ev_bin (ev_cty h.li.int (ea_cons (ev_var 0 rfl rfl) ea_nil) fn_int) (ev_var 1 rfl rfl) (bin_mod (by omega))) ea_nil)) ?_
    refine ws_nil ⟨⟨(p.1.2, p.1.1 % p.1.2), ?_⟩, Nat.mod_lt _ (by omega), .refl _, rfl⟩
    exact ((Nat.gcd_comm _ _).trans (Nat.gcd_rec _ _).symm).trans ((Nat.gcd_comm _ _).trans p.2)
  · have c' : p.1.2 = 0 := by simpa [truB] using c
    refine ws_ret (ev_var 0 rfl rfl) ⟨?_, rfl⟩
    have := p.2
    rw [c', Nat.gcd_zero_right] at this
    rw [this]
theorem c_lowest (t : Int) (b : Nat) (h0 : b ≠ 0) (hb : Bt 8000 (b : Int)) : CallP g 2 "lowest" [.int t, .int b] (.val (rat (mkRat t b))) := by
  refine call_ok ["top", "bottom", "part"] ["top", "bottom"] (h.fn 2 "lowest" s_lowest [] rfl) ⟨rfl, rfl, rfl, by decide +kernel, rfl, by decide +kernel, by decide +kernel⟩ (fun W hm => ?_) (fun _ _ _ _ _ _ us hl => match us, hl with | [_, _], _ => rfl)
  refine ws_set 2 (ev_call (c_shared_divisor h _ _) (ea_cons (ev_var 0 rfl rfl) (ea_cons (ev_var 1 rfl rfl) ea_nil))) ?_
  refine ws_ifF (EvT.is (et_cmp (ev_var 1 rfl rfl) ev_int cmp_lt) (by simp)) ?_
  exact ws_ret (ev_tup (ea_cons (ev_bin (ev_var 0 rfl rfl) (ev_var 2 rfl rfl) (bin_fdiv (gcd_pos h0) (gcd_bt h0 hb) (by decide))) (ea_cons (ev_bin (ev_var 1 rfl rfl) (ev_var 2 rfl rfl) (bin_fdiv (gcd_pos h0) (gcd_bt h0 hb) (by decide))) ea_nil))) ⟨by rw [rat_mk h0], rfl⟩
theorem c__law_ratio (t : Int) (b : Nat) (h0 : b ≠ 0) (hb : Bt 8000 (b : Int)) : CallP g 2 "_law_ratio" [.int t, .int b] (.val (rat (mkRat t b))) := by
  refine call_ok ["_law_top", "_law_bottom", "_law_part"] ["_law_top", "_law_bottom"] (h.fn 36 "_law_ratio" s__law_ratio [] rfl) ⟨rfl, rfl, rfl, by decide +kernel, rfl, by decide +kernel, by decide +kernel⟩ (fun W hm => ?_) (fun _ _ _ _ _ _ us hl => match us, hl with | [_, _], _ => rfl)
  refine ws_set 2 (ev_call (c__law_gcd h _ _) (ea_cons (ev_var 0 rfl rfl) (ea_cons (ev_var 1 rfl rfl) ea_nil))) ?_
  refine ws_ifF (EvT.is (et_cmp (ev_var 1 rfl rfl) ev_int cmp_lt) (by simp)) ?_
  exact ws_ret (ev_tup (ea_cons (ev_bin (ev_var 0 rfl rfl) (ev_var 2 rfl rfl) (bin_fdiv (gcd_pos h0) (gcd_bt h0 hb) (by decide))) (ea_cons (ev_bin (ev_var 1 rfl rfl) (ev_var 2 rfl rfl) (bin_fdiv (gcd_pos h0) (gcd_bt h0 hb) (by decide))) ea_nil))) ⟨by rw [rat_mk h0], rfl⟩
omit h in
theorem mul_den {n m : Nat} {p q : Rat} (a : Bt n (p.den : Int)) (b : Bt m (q.den : Int)) (l : n + m ≤ 8000) : p.den * q.den ≠ 0 ∧ Bt 8000 ((p.den * q.den : Nat) : Int) := ⟨Nat.mul_ne_zero p.den_nz q.den_nz, by
  rw [Int.natCast_mul]
  exact (a.mul b).mono l⟩
theorem c_plus (p q : Rat) (hp : Rb 4000 p) (hq : Rb 4000 q) : CallP g 3 "plus" [rat p, rat q] (.val (rat (p + q))) := by
  refine call_ok ["one", "other"] ["one", "other"] (h.fn 4 "plus" s_plus [] rfl) ⟨rfl, rfl, rfl, by decide +kernel, rfl, by decide +kernel, by decide +kernel⟩ (fun W hm => ?_) (fun _ _ _ _ _ _ us hl => match us, hl with | [_, _], _ => rfl)
  have z := mul_den hp.2 hq.2 (by decide)
  refine ws_ret (ev_call (c_lowest h _ (p.den * q.den) z.1 z.2) (ea_cons (ev_bin (ev_bin (ev_ix (ev_var 0 rfl rfl) ev_int (ix_tupN (by decide) rfl)) (ev_ix (ev_var 1 rfl rfl) ev_int (ix_tupN (by decide) rfl)) (bin_mul hp.1 hq.2 (by decide))) (ev_bin (ev_ix (ev_var 1 rfl rfl) ev_int (ix_tupN (by decide) rfl)) (ev_ix (ev_var 0 rfl rfl) ev_int (ix_tupN (by decide) rfl)) (bin_mul hq.1 hp.2 (by decide))) bin_add) (ea_cons (ev_bin (ev_ix (ev_var 0 rfl rfl) ev_int (ix_tupN (by decide) rfl)) (ev_ix (ev_var 1 rfl rfl) ev_int (ix_tupN (by decide) rfl)) (bin_mul hp.2 hq.2 (by decide))) ea_nil))) ⟨by rw [add_mk], rfl⟩
theorem c_times (p q : Rat) (hp : Rb 4000 p) (hq : Rb 4000 q) : CallP g 3 "times" [rat p, rat q] (.val (rat (p * q))) := by
  refine call_ok ["one", "other"] ["one", "other"] (h.fn 6 "times" s_times [] rfl) ⟨rfl, rfl, rfl, by decide +kernel, rfl, by decide +kernel, by decide +kernel⟩ (fun W hm => ?_) (fun _ _ _ _ _ _ us hl => match us, hl with | [_, _], _ => rfl)
  have z := mul_den hp.2 hq.2 (by decide)
  exact ws_ret (ev_call (c_lowest h _ (p.den * q.den) z.1 z.2) (ea_cons (ev_bin (ev_ix (ev_var 0 rfl rfl) ev_int (ix_tupN (by decide) rfl)) (ev_ix (ev_var 1 rfl rfl) ev_int (ix_tupN (by decide) rfl)) (bin_mul hp.1 hq.1 (by decide))) (ea_cons (ev_bin (ev_ix (ev_var 0 rfl rfl) ev_int (ix_tupN (by decide) rfl)) (ev_ix (ev_var 1 rfl rfl) ev_int (ix_tupN (by decide) rfl)) (bin_mul hp.2 hq.2 (by decide))) ea_nil))) ⟨by rw [mul_mk], rfl⟩
theorem c__law_plus (p q : Rat) (hp : Rb 4000 p) (hq : Rb 4000 q) : CallP g 3 "_law_plus" [rat p, rat q] (.val (rat (p + q))) := by
  refine call_ok ["_law_one", "_law_other"] ["_law_one", "_law_other"] (h.fn 37 "_law_plus" s__law_plus [] rfl) ⟨rfl, rfl, rfl, by decide +kernel, rfl, by decide +kernel, by decide +kernel⟩ (fun W hm => ?_) (fun _ _ _ _ _ _ us hl => match us, hl with | [_, _], _ => rfl)
  have z := mul_den hp.2 hq.2 (by decide)
  exact ws_ret (ev_call (c__law_ratio h _ (p.den * q.den) z.1 z.2) (ea_cons (ev_bin (ev_bin (ev_ix (ev_var 0 rfl rfl) ev_int (ix_tupN (by decide) rfl)) (ev_ix (ev_var 1 rfl rfl) ev_int (ix_tupN (by decide) rfl)) (bin_mul hp.1 hq.2 (by decide))) (ev_bin (ev_ix (ev_var 1 rfl rfl) ev_int (ix_tupN (by decide) rfl)) (ev_ix (ev_var 0 rfl rfl) ev_int (ix_tupN (by decide) rfl)) (bin_mul hq.1 hp.2 (by decide))) bin_add) (ea_cons (ev_bin (ev_ix (ev_var 0 rfl rfl) ev_int (ix_tupN (by decide) rfl)) (ev_ix (ev_var 1 rfl rfl) ev_int (ix_tupN (by decide) rfl)) (bin_mul hp.2 hq.2 (by decide))) ea_nil))) ⟨by rw [add_mk], rfl⟩
/-- the first may be out of lowest terms -/
theorem c__law_times (t : Int) (b : Nat) (q : Rat) (h0 : b ≠ 0) (ht : Bt 4000 t) (hb : Bt 4000 (b : Int)) (hq : Rb 4000 q) : CallP g 3 "_law_times" [.tup [.int t, .int b], rat q] (.val (rat (mkRat t b * q))) := by
  refine call_ok ["_law_one", "_law_other"] ["_law_one", "_law_other"] (h.fn 38 "_law_times" s__law_times [] rfl) ⟨rfl, rfl, rfl, by decide +kernel, rfl, by decide +kernel, by decide +kernel⟩ (fun W hm => ?_) (fun _ _ _ _ _ _ us hl => match us, hl with | [_, _], _ => rfl)
  have z : b * q.den ≠ 0 ∧ Bt 8000 ((b * q.den : Nat) : Int) := ⟨Nat.mul_ne_zero h0 q.den_nz, by
    rw [Int.natCast_mul]
    exact (hb.mul hq.2).mono (by decide)⟩
  refine ws_ret (ev_call (c__law_ratio h _ (b * q.den) z.1 z.2) (ea_cons (ev_bin (ev_ix (ev_var 0 rfl rfl) ev_int (ix_tupN (by decide) rfl)) (ev_ix (ev_var 1 rfl rfl) ev_int (ix_tupN (by decide) rfl)) (bin_mul ht hq.1 (by decide))) (ea_cons (ev_bin (ev_ix (ev_var 0 rfl rfl) ev_int (ix_tupN (by decide) rfl)) (ev_ix (ev_var 1 rfl rfl) ev_int (ix_tupN (by decide) rfl)) (bin_mul hb hq.2 (by decide))) ea_nil))) ⟨?_, rfl⟩
  have e : mkRat t b * q = mkRat (t * q.num) (b * q.den) := by
    conv => lhs; rw [← Rat.mkRat_self q, Rat.mkRat_mul_mkRat]
  rw [e]
theorem c_negative (q : Rat) : CallP g 1 "negative" [rat q] (.val (rat (-q))) := by
  refine call_ok ["one"] ["one"] (h.fn 5 "negative" s_negative [] rfl) ⟨rfl, rfl, rfl, by decide +kernel, rfl, by decide +kernel, by decide +kernel⟩ (fun W hm => ?_) (fun _ _ _ _ _ _ us hl => match us, hl with | [_], _ => rfl)
  exact ws_ret (ev_tup (ea_cons (ev_neg (ev_ix (ev_var 0 rfl rfl) ev_int (ix_tupN (by decide) rfl))) (ea_cons (ev_ix (ev_var 0 rfl rfl) ev_int (ix_tupN (by decide) rfl)) ea_nil))) ⟨by
    show Res.val (D.tup [.int (-q).num, .int ((-q).den : Int)]) = _
    rw [Rat.neg_num, Rat.neg_den], rfl⟩
theorem c_over (p q : Rat) (h0 : 0 < q.num) (hp : Rb 4000 p) (hq : Rb 4000 q) : CallP g 3 "over" [rat p, rat q] (.val (rat (p / q))) := by
  refine call_ok ["one", "other"] ["one", "other"] (h.fn 7 "over" s_over [] rfl) ⟨rfl, rfl, rfl, by decide +kernel, rfl, by decide +kernel, by decide +kernel⟩ (fun W hm => ?_) (fun _ _ _ _ _ _ us hl => match us, hl with | [_, _], _ => rfl)
  refine ws_ifF (EvT.is (et_cmp (ev_ix (ev_var 1 rfl rfl) ev_int (ix_tupN (by decide) rfl)) ev_int cmp_eqI) (decide_eq_false (by omega))) ?_
  have e : q.num = (q.num.toNat : Int) := by omega
  have z : p.den * q.num.toNat ≠ 0 ∧ Bt 8000 ((p.den * q.num.toNat : Nat) : Int) := ⟨Nat.mul_ne_zero p.den_nz (by omega), by
    rw [Int.natCast_mul, ← e]
    exact (hp.2.mul hq.1).mono (by decide)⟩
  have c := c_lowest h (p.num * q.den) (p.den * q.num.toNat) z.1 z.2
  rw [Int.natCast_mul, ← e] at c
  refine ws_ret (ev_call c (ea_cons (ev_bin (ev_ix (ev_var 0 rfl rfl) ev_int (ix_tupN (by decide) rfl)) (ev_ix (ev_var 1 rfl rfl) ev_int (ix_tupN (by decide) rfl)) (bin_mul hp.1 hq.2 (by decide))) (ea_cons (ev_bin (ev_ix (ev_var 0 rfl rfl) ev_int (ix_tupN (by decide) rfl)) (ev_ix (ev_var 1 rfl rfl) ev_int (ix_tupN (by decide) rfl)) (bin_mul hp.2 hq.1 (by decide))) ea_nil))) ⟨?_, rfl⟩
  have e2 : p / q = mkRat (p.num * q.den) (p.den * q.num.toNat) := by
    rw [Rat.div_def, Rat.inv_def]
    have e3 : Rat.divInt q.den q.num = mkRat q.den q.num.toNat := by rw [e]; rfl
    rw [e3]
    conv => lhs; rw [← Rat.mkRat_self p, Rat.mkRat_mul_mkRat]
  rw [e2]
/-- only whether it is below -/
theorem c_compare (p q : Rat) (hl : p < q) (hp : Rb 4000 p) (hq : Rb 4000 q) : CallP g 1 "compare" [rat p, rat q] (.val (.int (-1))) := by
  refine call_ok ["one", "other", "gap"] ["one", "other"] (h.fn 8 "compare" s_compare [] rfl) ⟨rfl, rfl, rfl, by decide +kernel, rfl, by decide +kernel, by decide +kernel⟩ (fun W hm => ?_) (fun _ _ _ _ _ _ us hl => match us, hl with | [_, _], _ => rfl)
  have z : p.num * q.den < q.num * p.den := Rat.lt_iff p q |>.mp hl
  refine ws_set 2 (ev_bin (ev_bin (ev_ix (ev_var 0 rfl rfl) ev_int (ix_tupN (by decide) rfl)) (ev_ix (ev_var 1 rfl rfl) ev_int (ix_tupN (by decide) rfl)) (bin_mul hp.1 hq.2 (by decide))) (ev_bin (ev_ix (ev_var 1 rfl rfl) ev_int (ix_tupN (by decide) rfl)) (ev_ix (ev_var 0 rfl rfl) ev_int (ix_tupN (by decide) rfl)) (bin_mul hq.1 hp.2 (by decide))) bin_sub) ?_
  refine ws_ifF (EvT.is (et_cmp (ev_var 2 rfl rfl) ev_int cmp_eqI) (by simp; omega)) ?_
  exact ws_ret (ev_ifF (EvT.is (et_cmp (ev_var 2 rfl rfl) ev_int cmp_gt) (by simp; omega)) (ev_neg ev_int)) ⟨rfl, rfl⟩
theorem whole_body {W : Wm} {d lo hi : D} {t : String} (ht : tyN d = some t) (hl : NI lo) (hh : NI hi) : WS g ["thing", "low", "high"] (defScope s_is_whole) 0 W 0 (defBody s_is_whole) [some (.dat d), some (.dat lo), some (.dat hi)] [] (Fin (.val (.bl (wholeB d lo hi))) []) := by
  have no : ∀ {b c : Bool}, kitB t "bool" = some b → kitB t "int" = some c → (b = true ∨ c = false) → (∀ lo hi, wholeB d lo hi = false) → WS g ["thing", "low", "high"] (defScope s_is_whole) 0 W 0 (defBody s_is_whole) [some (.dat d), some (.dat lo), some (.dat hi)] [] (Fin (.val (.bl (wholeB d lo hi))) []) := fun {b c} hb hc hbc hw => by
    refine ws_ifT (EvT.is (et_w (ew_orP (et_val (ev_isi (T := "bool") h.li (ev_var 0 rfl rfl) h.li.bool ht hb)) fun _ => (ew_or1 (et_not (et_val (ev_isi (T := "int") h.li (ev_var 0 rfl rfl) h.li.int ht hc)))))) (by rcases hbc with e | e <;> subst e <;> simp)) ?_
    exact ws_ret ev_bl ⟨by rw [hw], rfl⟩
  cases d with
  | non => cases ht; exact no (b := false) (c := false) rfl rfl (.inr rfl) fun _ _ => rfl
  | bl b => cases ht; exact no (b := true) (c := true) rfl rfl (.inl rfl) fun _ _ => rfl
  | str s => cases ht; exact no (b := false) (c := false) rfl rfl (.inr rfl) fun _ _ => rfl
  | tup s => cases ht; exact no (b := false) (c := false) rfl rfl (.inr rfl) fun _ _ => rfl
  | lst s => cases ht; exact no (b := false) (c := false) rfl rfl (.inr rfl) fun _ _ => rfl
  | obj a b => cases ht
  | fn a => cases ht
  | scr a => cases ht
  | int i =>
    cases ht
    refine ws_ifF (et_w (ew_or (et_val (ev_isi (T := "bool") h.li (ev_var 0 rfl rfl) h.li.bool rfl rfl)) (ew_or1 (et_nF (et_val (ev_isi (T := "int") h.li (ev_var 0 rfl rfl) h.li.int rfl rfl)))))) ?_
    have hiP : WS g ["thing", "low", "high"] (defScope s_is_whole) 0 W 0 [(defBody s_is_whole).getD 2 (.Pass ⟨0, 0, 0, 0⟩)] [some (.dat (.int i)), some (.dat lo), some (.dat hi)] [] (Fin (.val (.bl (hiOk hi i))) []) := by
      cases hh with
      | non => exact ws_ret (ev_or0 (ev_cmp (ev_var 2 rfl rfl) ev_non cmp_isN)) ⟨rfl, rfl⟩
      | int j => exact ws_ret (ev_or (ev_cmp (ev_var 2 rfl rfl) ev_non cmp_isN) (ev_one (ev_cmp (ev_var 0 rfl rfl) (ev_var 2 rfl rfl) cmp_le))) ⟨rfl, rfl⟩
    cases hl with
    | non => exact ws_ifF (et_w (ew_and0 (et_cmp (ev_var 1 rfl rfl) ev_non cmp_notN))) hiP
    | int j =>
      by_cases c : i < j
      · refine ws_ifT (EvT.is (et_w (ew_and (et_cmp (ev_var 1 rfl rfl) ev_non cmp_notN) (ew_and1 (et_cmp (ev_var 0 rfl rfl) (ev_var 1 rfl rfl) cmp_lt)))) (by simpa using c)) ?_
        exact ws_ret ev_bl ⟨by simp [wholeB, loOk, c], rfl⟩
      · refine ws_ifF (EvT.is (et_w (ew_and (et_cmp (ev_var 1 rfl rfl) ev_non cmp_notN) (ew_and1 (et_cmp (ev_var 0 rfl rfl) (ev_var 1 rfl rfl) cmp_lt)))) (by simpa using c)) ?_
        refine hiP.imp fun o ho => ?_
        have e : wholeB (.int i) (.int j) hi = hiOk hi i := by simp [wholeB, loOk, c]
        rw [e]
        exact ho
end
end Hw
set_option Elab.async false
set_option linter.all false
set_option maxRecDepth 100000
set_option maxHeartbeats 4000000
/-! An own exception over ValueError whose __init__ calls super().__init__, then stores its fields: made. -/
namespace Bx
open PySem PySem.W PySem.Calls PyProof.Rows PySem.HandSPX

/-- what the written part says of such a class C, __init__ at fI -/
structure BaseTxt (K : Frag) (C fI : Addr) : Prop where
  cls : ∃ nm q N bs bm sn sub ab col dd k0 k1 k2 k3 k5, K.lookup C = some (excClassObj nm q C N bs bm true sn sub ab col dd k0 k1 k2 k3 k5 "ValueError.__new__") ∧ refsVE bm = true ∧ alongIn K "__init__" bm = some (some (.builtin "ValueError.__init__"))
  sa : findIn K (.ref C) "__setattr__" = some (some (.builtin "object.__setattr__"))
  iC : findIn K (.ref C) "__init__" = some (some (.ref fI))
  tC : typeIn K (.ref fI) = some (.type "function")
  kC : keepIn K (.ref C) = true
  exC : subIn K (.ref C) (.type "BaseException") = some true
  veC : subIn K (.ref C) (.type "ValueError") = some true
  slf : mroIn K C (.ref C) = some true
  tyC : typeIn K (.ref C) = some (.type "type")
  thp : nsIn K cStatics "thirdparty.any" = some none
/-- the def of __init__, with its cell -/
structure InitFn (K : Frag) (prog : Program) (qual : Str) (params : Arguments) (body : List Stmt) (scope : Scope) (C fI : Addr) : Prop where
  ex : ∃ (oc : Value) (od : Option Addr) (doc pm : Value) (an : Option Addr) (cda cc : Addr) (ct : Value) (osl : Array (Option Value)) (ccl : Value) (cdd : Option Addr) (vs : Array Value) (ccs : Array (Option Value)) (file : Str) (tf : Tok) (cl : Value) (cld : Option Addr) (csl : Array (Option Value)),
    K.lookup fI = some ⟨oc, od, .func (ksFn "__init__" qual params body scope .none .none doc pm an (.ref cda) ct cc), osl⟩ ∧ codeIn K (.ref cda) qual = true ∧
    K.lookup cda = some ⟨ccl, cdd, .fields vs, ccs⟩ ∧ vs[2]? = some (.str file tf) ∧ ((prog.main.file : Str) == file) = true ∧ K.lookup cc = some ⟨cl, cld, .cell (some (.ref C)), csl⟩
/-- the module's names -/
structure GlobTxt (h : Heap) (prog : Program) : Prop where
  ex : ∃ mg mb, h.Ns mainGlobals mg ∧ mg "super" = none ∧ h.Ns builtinsNs mb ∧ mb "super" = some (.type "super")
  top : (prog.main.scope.names.lookup ("super" : Str)).isSome = false
theorem GlobTxt.keeps {h h' : Heap} {prog : Program} (G : GlobTxt h prog) (k : ∀ b o, h.get? b = some o → h'.get? b = some o) : GlobTxt h' prog := by
  obtain ⟨mg, mb, a, b, c, d⟩ := G.ex
  exact ⟨⟨mg, mb, a.keeps k, b, c.keeps k, d⟩, G.top⟩
section
variable {prog : Program} {w : World} {A : Around} {E : Value → Shared → Prop} {h : Heap} {g : Array GenState} {d : Drawn} {t : Nat} {os : OsState}
variable {nm q : Str} {C N : Addr} {bs bm : List Value} {hdct : Bool} {sn : List Str} {sub : List Value} {ab : Bool} {col : Option Bool} {dd : Option Addr} {k0 k1 k2 k3 k5 : Option Value}
/-- the bound ValueError.__init__ called -/
theorem call_mw {u e t0 : Addr} {rest : List Value} {Q : Value → Shared → Prop}
    (hC : h.get? C = some (excClassObj nm q C N bs bm hdct sn sub ab col dd k0 k1 k2 k3 k5 "ValueError.__new__")) (he : h.get? e = some (excO C t0)) (hu : h.get? u = some (kxs_mw "ValueError.__init__" e)) (hrest : rest.length ≤ sizeLine)
    (hq : ∀ h' t1, (∀ b o, b ≠ e → h.get? b = some o → h'.get? b = some o) → h'.get? e = some (excO C t1) → Q .none ⟨h', g, d, t, os⟩) :
    wpAny (model prog w) A (call (.ref u) rest) Q E ⟨h, g, d, t, os⟩ := by
  refine wpAny_call (codeAny_of_tree ?_)
  show wpAny _ A.in1 (callAny (.ref u) ⟨rest, []⟩) _ _ _
  simp only [callAny]
  refine wpAny_bind (wpAny_load hu ?_)
  simp only [kxs_mw, show (Value.type "method-wrapper" == Value.type "method" || Value.type "method-wrapper" == Value.type "builtin_function_or_method" || Value.type "method-wrapper" == Value.type "method-wrapper") = true by decide, if_true]
  refine KFB.if_so (by decide) ?_
  refine wpAny_bind (check_bound_init F.excBase_ValueError.toExcCallFacts hC he rfl ?_)
  refine wpAny_bind (wpAny_pure (wpAny_pure ?_))
  refine ⟨plainId_quiet F.excBase_ValueError.init.plain _, codeAny_builtin F.excBase_ValueError.initEntry ?_⟩
  rw [Around.under_plainId F.excBase_ValueError.init.plain _]
  wp_walk
  refine hq _ h.objs.size (fun b o hb ho => ?_) ?_
  · rw [Heap.get?_update_other _ _ (Ne.symm hb)]
    exact Heap.get?_push_of_some _ ho
  · rw [Heap.get?_update_self _ (Heap.get?_push_of_some _ he) rfl]
    rfl
end
theorem nmK {M : Model} {A : Around} {E : Value → Shared → Prop} {s : Shared} {env : Env} {m : Str → Option Value} {x : Str} {pos : Pos} {v : Value} {Q : Value → Shared → Prop} (hn : s.heap.Ns env.locals m) (hv : m x = some v) (h : Q v s)
    (hk : env.scope.kind = .function := by rfl) (hl : env.kindOf x = some .local := by rfl) (hd : (x == ("__debug__" : Str)) = false := by decide) : wpAny M A (eval (.Name x pos) env) Q E s := wpAny_Name (wpAny_loadName_local hk hl hn hv h) hd
/-- kept but for x -/
def But1 (x : Addr) (h h' : Heap) : Prop := ∀ b o, b ≠ x → h.get? b = some o → h'.get? b = some o
section
variable {prog : Program} {w : World} {A : Around} {E : Value → Shared → Prop} {K : Frag} {C fI : Addr} {env : Env} {body : List Stmt} {name qual : Str} {scope : Scope}
/-- the shape of the call's tree -/
def MC (a1 a2 a3 a4 : Pos) (args : List Expr) (env : Env) : Prop := ∃ pl : Sem Bool, eval (.Call (.Attribute (.Call (.Name "super" a1) [] [] a2) "__init__" a3) args [] a4) env = (do
      let ov ← attributeBase (.Call (.Name "super" a1) [] [] a2) "__init__" env (eval (.Call (.Name "super" a1) [] [] a2) env)
      standAt a3.atName
      let (f, first) ← holding [ov] (getMethod ov "__init__" pl)
      callWith a4 f first (backTo a4 (starEach args env)) [])
/-- super().__init__(tag, ..) of a fresh exception at x -/
theorem super_line {hp : Heap} {g : Array GenState} {d : Drawn} {tk : Nat} {os : OsState} {x t0 cc cda : Addr} {L : Addr} {m : Str → Option Value} {args : List Expr} {a1 a2 a3 a4 pos : Pos} {oc : Value} {od : Option Addr} {fd : FuncData} {ar : Arg} {osl ccs csl : Array (Option Value)} {ccl cl : Value} {cdd cld : Option Addr} {vs : Array Value} {file : Str} {tf : Tok} {Q : Flow → Shared → Prop}
    (T : BaseTxt K C fI) (X : K.In hp) (G : GlobTxt hp prog) (hn : hp.Ns L m) (hx : hp.get? x = some (excO C t0)) (hnx : K.lookup x = none)
    (hf : K.lookup fI = some ⟨oc, od, .func fd, osl⟩) (hpar : (fd.params.posonlyargs ++ fd.params.args).head? = some ar) (har : ar.arg = ("self" : Str)) (hself : m "self" = some (.ref x))
    (hcode : K.lookup cda = some ⟨ccl, cdd, .fields vs, ccs⟩) (hvs : vs[2]? = some (.str file tf)) (hfile : ((prog.main.file : Str) == file) = true) (hcell : K.lookup cc = some ⟨cl, cld, .cell (some (.ref C)), csl⟩)
    (hks : scope.names.lookup ("super" : Str) = some .globalImplicit) (hkc : scope.names.lookup ("__class__" : Str) = some .free) (hka : scope.names.lookup ("self" : Str) = some .local) (hk : scope.kind = .function)
    (hargs : ∀ h' tk', (∀ b o, hp.get? b = some o → h'.get? b = some o) → wpAny (model prog w) A (spliced (backTo a4 (starEach args (ksEnv qual scope L fI (.ref cda) cc)))) (fun us s1 => (∃ tk2, s1 = ⟨h', g, d, tk2, os⟩) ∧ us.length ≤ sizeLine) E ⟨h', g, d, tk', os⟩)
    (hq : ∀ h' tk' t1, But1 x hp h' → h'.get? x = some (excO C t1) → Q .next ⟨h', g, d, tk', os⟩)
    (hne : ∃ e es, args = e :: es ∧ (∀ env : Env, starEach (e :: es) env = (false, eval e env) :: starEach es env) ∧ ∀ env : Env, (backTo a4 (starEach es env)).any (·.1) = false)
    (he : MC a1 a2 a3 a4 args (ksEnv qual scope L fI (.ref cda) cc))
    (hs : swapsWith (.Call (.Attribute (.Call (.Name "super" a1) [] [] a2) "__init__" a3) args [] a4) none pos.line (ksEnv qual scope L fI (.ref cda) cc) = pure false) (hint : interactive (ksEnv qual scope L fI (.ref cda) cc) = false) :
    _root_.PySem.wpAt (model prog w) A (.func body (ksEnv qual scope L fI (.ref cda) cc)) (exec (.Expr (.Call (.Attribute (.Call (.Name "super" a1) [] [] a2) "__init__" a3) args [] a4) pos) (ksEnv qual scope L fI (.ref cda) cc)) Q E ⟨hp, g, d, tk, os⟩ := by
  obtain ⟨nm, q, N, bs, bm, sn, sub, ab, col, dd, k0, k1, k2, k3, k5, hC, hbm, hal⟩ := T.cls
  obtain ⟨mg, mb, G1, G2, G3, G4⟩ := G.ex
  have hcl : clsIn K C = some { name := nm, bases := bs, mro := .ref C :: bm, ns := N, qualname := q, hasDict := true, slotNames := sn, subclasses := sub, abstract := ab, collection := col, hasDel := false } := by unfold clsIn; rw [hC] <;> rfl
  obtain ⟨pl, he⟩ := he
  refine ks_wpAt_Expr_any ?_ hint hs
  refine ks_wpAt_MethodCall (pl := pl) ?_ he
  refine ks_wpAt_super_base (env := ksEnv qual scope L fI (.ref cda) cc) hks hkc (by decide) rfl (X _ _ hf) rfl hpar rfl (X _ _ hcode) rfl hvs hfile G.top ?_
  refine ks_loadName_global hk hks (loadGlobal_builtin (env := ksEnv qual scope L fI (.ref cda) cc) G1 G2 G3 G4 ⟨rfl, ?_⟩)
  refine wpAny_loadName_free hk hkc rfl ⟨_, X _ _ hcell, rfl⟩ ?_
  rw [har]
  refine wpAny_loadName_local hk hka hn hself ?_
  refine ks_wpAny_isType_cls (X _ _ hC) rfl ⟨rfl, ?_⟩
  refine ks_wpAny_call_super (X _ _ hC) rfl hx rfl (fun c z => by cases z) (looks_mroIn X T.slf) fun h1 e1 k1 => ?_
  have X1 : K.In h1 := X.keeps k1
  have hx1 := k1 _ _ hx
  have hI : Looks (model prog w) h1 (isInstance (.ref x) (.type "ValueError")) true := (InstAt.type (⟨hx1, rfl, rfl, trivial⟩ : PySem.W.InstAt h1 x (excO C t0) C none)).andThen (looks_subIn X1 T.veC)
  have nxC : x ≠ C := fun z => by rw [z, hC] at hnx; cases hnx
  refine kxs_getMethod kxs_ValueError e1 (looks_opaque X1 T.thp) (l₀ := .ref C :: bm) (fun A Q E s k q => wpAny_bind ((looks_clsIn X1 hcl) A _ E s k (wpAny_pure q))) (l := bm) (by simp [List.dropWhile_cons]) X1 hal hI nxC (by decide) ?_
  have k2 : ∀ b o, hp.get? b = some o → (h1.push (kxs_mw "ValueError.__init__" x)).get? b = some o := fun b o e => Heap.get?_push_of_some _ (k1 b o e)
  obtain ⟨e, es, rfl, st1, st2⟩ := hne
  refine kxs_callWith (i := "ValueError.__init__") (x := x) ?_ ?_
  · rw [st1]
    show (false || (backTo a4 (starEach es _)).any (·.1)) = false
    rw [st2] <;> rfl
  rw [st1]
  refine evalArgs_plain ?_
  have ha := hargs _ (tk + 1) k2
  rw [st1] at ha
  refine wpAny_mono ha (fun us s1 hh => ?_) fun _ _ z => z
  obtain ⟨⟨tk3, rfl⟩, hl⟩ := hh
  have hu : (h1.push (kxs_mw "ValueError.__init__" x)).get? h1.objs.size = some (kxs_mw "ValueError.__init__" x) := Heap.get?_push_at rfl rfl
  refine ⟨hu, ?_⟩
  refine call_mw (k2 _ _ (X _ _ hC)) (k2 _ _ hx) hu hl fun h' t1 k e => ?_
  exact hq h' _ t1 (fun b o hb z => k b o hb (k2 b o z)) e
end
end Bx
set_option Elab.async false
set_option linter.all false
set_option maxRecDepth 100000
set_option maxHeartbeats 4000000
/-! The own exceptions made: two fields, one field. -/
namespace Bx
open PySem PySem.W PySem.Calls PyProof.Rows PySem.HandSPX

/-- what __init__ leaves of a fresh exception at x -/
structure InitLeft (h h' : Heap) (x C dx t1 : Addr) (m : Str → Option Value) : Prop where
  keep : But1 x h h'
  obj : h'.get? x = some { cls := .ref C, dict := some dx, data := .fields #[.ref t1, .none, .none, .none, .bool false, .none] }
  dbig : h.objs.size ≤ dx
  dne : dx ≠ x
  ns : h'.Ns1 dx m
/-- an exception made -/
structure Made (h h' : Heap) (e C d : Addr) (m : Str → Option Value) : Prop where
  keep : ∀ b o, h.get? b = some o → h'.get? b = some o
  new : h.objs.size ≤ e
  obj : ∃ t1 : Addr, h'.get? e = some { cls := .ref C, dict := some d, data := .fields #[.ref t1, .none, .none, .none, .bool false, .none] }
  dbig : h.objs.size ≤ d
  dne : d ≠ e
  ns : h'.Ns1 d m
def m2 (f1 f2 : Str) (v1 v2 : Value) : Str → Option Value := fun y => if y = f2 then some v2 else if y = f1 then some v1 else none
def m1 (f1 : Str) (v1 : Value) : Str → Option Value := fun y => if y = f1 then some v1 else none
def par (x : Str) (p : Pos) : Arg := { arg := x, annotation := none, pos := p }
def args3 (p0 p1 p2 : Pos) : Arguments := { posonlyargs := [], args := [{ arg := "self", annotation := none, pos := p0 }, { arg := "index", annotation := none, pos := p1 }, { arg := "what", annotation := none, pos := p2 }], vararg := none, kwonlyargs := [], kw_defaults := [], kwarg := none, defaults := [] }
def args2 (p0 p1 : Pos) : Arguments := { posonlyargs := [], args := [{ arg := "self", annotation := none, pos := p0 }, { arg := "index", annotation := none, pos := p1 }], vararg := none, kwonlyargs := [], kw_defaults := [], kwarg := none, defaults := [] }
def body3 (tag : Str) (j : Nat) (a1 a2 a3 a4 a5 a6 a7 a8 b1 b2 b3 b4 c1 c2 c3 c4 : Pos) : List Stmt :=
  [.Expr (.Call (.Attribute (.Call (.Name "super" a1) [] [] a2) "__init__" a3) [.Constant (.str tag) j a4, .Name "index" a5, .Name "what" a6] [] a7) a8,
   .Assign [.Attribute (.Name "self" b1) "index" b2] (.Name "index" b3) b4, .Assign [.Attribute (.Name "self" c1) "what" c2] (.Name "what" c3) c4]
def body2 (tag : Str) (j : Nat) (a1 a2 a3 a4 a5 a7 a8 b1 b2 b3 b4 : Pos) : List Stmt :=
  [.Expr (.Call (.Attribute (.Call (.Name "super" a1) [] [] a2) "__init__" a3) [.Constant (.str tag) j a4, .Name "index" a5] [] a7) a8,
   .Assign [.Attribute (.Name "self" b1) "index" b2] (.Name "index" b3) b4]
def sco3 : Scope := { kind := .function, names := [(PySem.Str.ofString "self", .local), (PySem.Str.ofString "index", .local), (PySem.Str.ofString "what", .local), (PySem.Str.ofString "__class__", .free), (PySem.Str.ofString "super", .globalImplicit)], isGenerator := false, isCoroutine := false, more := [] }
def sco2 : Scope := { kind := .function, names := [(PySem.Str.ofString "self", .local), (PySem.Str.ofString "index", .local), (PySem.Str.ofString "__class__", .free), (PySem.Str.ofString "super", .globalImplicit)], isGenerator := false, isCoroutine := false, more := [] }
section
variable {prog : Program} {w : World} {A : Around} {E : Value → Shared → Prop} {R : Result → Shared → Prop} {s : Shared} {K : Frag} {C fI : Addr}
theorem ns_but {h h' : Heap} {x L : Addr} {m : Str → Option Value} (hn : h.Ns L m) (b : But1 x h h') (ne : L ≠ x) : h'.Ns L m := by
  obtain ⟨o, es, ep, e, r⟩ := hn
  exact ⟨o, es, ep, b _ _ ne e, r⟩
theorem lk (vs : List Value) (h : vs.length ≤ 10) : vs.length ≤ sizeLine := by
  rw [sizeLine_eq]
  omega
theorem init3 {qual tag : Str} {p0 p1 p2 a1 a2 a3 a4 a5 a6 a7 a8 b1 b2 b3 b4 c1 c2 c3 c4 : Pos} {j : Nat} (T : BaseTxt K C fI) (F : InitFn K prog qual (args3 p0 p1 p2) (body3 tag j a1 a2 a3 a4 a5 a6 a7 a8 b1 b2 b3 b4 c1 c2 c3 c4) sco3 C fI)
    (hmc : ∀ env : Env, MC a1 a2 a3 a7 [.Constant (.str tag) j a4, .Name "index" a5, .Name "what" a6] env) (n1 : findIn K (.ref C) "index" = some none) (n2 : findIn K (.ref C) "what" = some none) (X : K.In s.heap) (G : GlobTxt s.heap prog) (hlim : s.heap.NoLimit) {x t0 : Addr} {v1 v2 : Value} (hx : s.heap.get? x = some (excO C t0)) (hnx : K.lookup x = none) (hroom : A.depth < recursionLimit)
    (hq : ∀ h' tk dx t1, InitLeft s.heap h' x C dx t1 (m2 "index" "what" v1 v2) → R (.ok (.ret .none)) { s with heap := h', toks := tk }) :
    codeAny (model prog w) A (.call (.ref fI) ⟨[.ref x, v1, v2], []⟩) R s := by
  obtain ⟨oc, od, doc, pm, an, cda, cc, ct, osl, ccl, cdd, vs, ccs, file, tf, cl, cld, csl, ho, hcd, hcode, hvs, hfile, hcell⟩ := F.ex
  obtain ⟨nm, q, N, bs, bm, sn, sub, ab, col, dd, k0, k1, k2, k3, k5, hC, hbm, hal⟩ := T.cls
  have hcl : clsIn K C = some { name := nm, bases := bs, mro := .ref C :: bm, ns := N, qualname := q, hasDict := true, slotNames := sn, subclasses := sub, abstract := ab, collection := col, hasDel := false } := by unfold clsIn; rw [hC] <;> rfl
  refine ks_codeAny_call_defAt (binds := [("self", .ref x), ("index", v1), ("what", v2)]) (body := body3 tag j a1 a2 a3 a4 a5 a6 a7 a8 b1 b2 b3 b4 c1 c2 c3 c4) hroom (X _ _ ho) rfl hlim (codeRec_of X hcd) rfl (BindsTo.of_eq (by first | rfl | with_unfolding_all rfl)) (show ∀ x ∈ sco3.names, x.2 ≠ .cell by decide) (by
    intro y hy
    simp only [List.mem_cons, List.not_mem_nil, or_false] at hy
    rcases hy with rfl | rfl | rfl <;> rfl) (fun h₁ hn k => ?_)
  obtain ⟨hp, g, dr, tk, os⟩ := s
  have X₁ : K.In h₁ := X.keeps k
  have hx₁ := k _ _ hx
  have hL : h₁.objs.size > hp.objs.size := hn.lt
  have xL : hp.objs.size ≠ x := Nat.ne_of_gt (Heap.lt_size hx)
  refine ks_wpAt_execs_cons ?_
  refine super_line (t0 := t0) T X₁ (G.keeps k) hn hx₁ hnx ho rfl rfl (by rfl) hcode hvs hfile hcell rfl rfl rfl rfl (fun h' tk' kk => ?_) (fun h2 tk2 t1 b2 x2 => ?_) ⟨_, _, rfl, fun _ => rfl, fun _ => rfl⟩ (hmc _) rfl rfl
  · have hn' := hn.keeps kk
    exact spliced_cons (wpAny_Constant_str (k := j) (pos := a4) (spliced_cons (nmK hn' rfl (spliced_cons (nmK hn' rfl (spliced_nil ⟨⟨tk' + 1, rfl⟩, lk _ (by simp)⟩))))))
  · have hn2 := ns_but hn b2 xL
    have X₂ : K.In h2 := fun a o e => b2 a o (fun z => by rw [z, hnx] at e; cases e) (X₁ a o e)
    refine ks_wpAt_execs_cons ?_
    refine ks_wpAt_Assign_Attr ?_ rfl
    refine wpAt_of_wpAny (nmK hn2 rfl (nmK hn2 rfl ?_))
    refine set_plain X₂ (ox := excO C t1) (od := none) ⟨x2, rfl, rfl, trivial⟩ T.sa ?_
    refine exc_osa X₂ x2 hcl (show refsVE (.ref C :: bm) = true from hbm) rfl n1 (fun h3 tk3 dx k3 dn dne x3 ns3 => ?_)
    have hn3 := ns_but hn2 k3 xL
    have X₃ : K.In h3 := fun a o e => k3 a o (fun z => by rw [z, hnx] at e; cases e) (X₂ a o e)
    refine ks_wpAt_execs_cons ?_
    refine ks_wpAt_Assign_Attr ?_ rfl
    refine wpAt_of_wpAny (nmK hn3 rfl (nmK hn3 rfl ?_))
    have z2 : hp.objs.size < h2.objs.size := hn2.lt
    obtain ⟨oD, _, _, hoD, _, _⟩ := id ns3
    refine set_plain X₃ (ox := { cls := .ref C, dict := some dx, data := .fields #[.ref t1, .none, .none, .none, .bool false, .none] }) (od := some oD) ⟨x3, rfl, rfl, hoD⟩ T.sa ?_
    refine PySem.OEX.osa_old X₃ x3 ns3 (nl := ["index"]) ?_ (by decide) hcl (show refsVE (.ref C :: bm) = true from hbm) rfl n2 (fun h4 tk4 k4 ns4 => ?_)
    · intro y hy
      by_cases e : y = "index"
      · rw [e]; exact List.mem_cons_self
      · exact absurd (if_neg e) hy
    · have dL : hp.objs.size ≤ dx := Nat.le_of_lt (Nat.lt_of_lt_of_le z2 dn)
      refine wpAt_of_wpAny (wpAny_execs_nil ?_)
      exact hq h4 _ dx t1 ⟨fun b o hb e => k4 b o (Nat.ne_of_lt (Nat.lt_of_lt_of_le (Heap.lt_size e) dL)) (k3 b o hb (b2 b o hb (k b o e))), k4 _ _ (Ne.symm dne) x3, dL, dne, ns4⟩
theorem init2 {qual tag : Str} {p0 p1 a1 a2 a3 a4 a5 a7 a8 b1 b2 b3 b4 : Pos} {j : Nat} (T : BaseTxt K C fI) (F : InitFn K prog qual (args2 p0 p1) (body2 tag j a1 a2 a3 a4 a5 a7 a8 b1 b2 b3 b4) sco2 C fI)
    (hmc : ∀ env : Env, MC a1 a2 a3 a7 [.Constant (.str tag) j a4, .Name "index" a5] env) (n1 : findIn K (.ref C) "index" = some none) (X : K.In s.heap) (G : GlobTxt s.heap prog) (hlim : s.heap.NoLimit) {x t0 : Addr} {v1 : Value} (hx : s.heap.get? x = some (excO C t0)) (hnx : K.lookup x = none) (hroom : A.depth < recursionLimit)
    (hq : ∀ h' tk dx t1, InitLeft s.heap h' x C dx t1 (m1 "index" v1) → R (.ok (.ret .none)) { s with heap := h', toks := tk }) :
    codeAny (model prog w) A (.call (.ref fI) ⟨[.ref x, v1], []⟩) R s := by
  obtain ⟨oc, od, doc, pm, an, cda, cc, ct, osl, ccl, cdd, vs, ccs, file, tf, cl, cld, csl, ho, hcd, hcode, hvs, hfile, hcell⟩ := F.ex
  obtain ⟨nm, q, N, bs, bm, sn, sub, ab, col, dd, k0, k1, k2, k3, k5, hC, hbm, hal⟩ := T.cls
  have hcl : clsIn K C = some { name := nm, bases := bs, mro := .ref C :: bm, ns := N, qualname := q, hasDict := true, slotNames := sn, subclasses := sub, abstract := ab, collection := col, hasDel := false } := by unfold clsIn; rw [hC] <;> rfl
  refine ks_codeAny_call_defAt (binds := [("self", .ref x), ("index", v1)]) (body := body2 tag j a1 a2 a3 a4 a5 a7 a8 b1 b2 b3 b4) hroom (X _ _ ho) rfl hlim (codeRec_of X hcd) rfl (BindsTo.of_eq (by first | rfl | with_unfolding_all rfl)) (show ∀ x ∈ sco2.names, x.2 ≠ .cell by decide) (by
    intro y hy
    simp only [List.mem_cons, List.not_mem_nil, or_false] at hy
    rcases hy with rfl | rfl <;> rfl) (fun h₁ hn k => ?_)
  obtain ⟨hp, g, dr, tk, os⟩ := s
  have X₁ : K.In h₁ := X.keeps k
  have hx₁ := k _ _ hx
  have hL : h₁.objs.size > hp.objs.size := hn.lt
  have xL : hp.objs.size ≠ x := Nat.ne_of_gt (Heap.lt_size hx)
  refine ks_wpAt_execs_cons ?_
  refine super_line (t0 := t0) T X₁ (G.keeps k) hn hx₁ hnx ho rfl rfl (by rfl) hcode hvs hfile hcell rfl rfl rfl rfl (fun h' tk' kk => ?_) (fun h2 tk2 t1 b2 x2 => ?_) ⟨_, _, rfl, fun _ => rfl, fun _ => rfl⟩ (hmc _) rfl rfl
  · have hn' := hn.keeps kk
    exact spliced_cons (wpAny_Constant_str (k := j) (pos := a4) (spliced_cons (nmK hn' rfl (spliced_nil ⟨⟨tk' + 1, rfl⟩, lk _ (by simp)⟩))))
  · have hn2 := ns_but hn b2 xL
    have X₂ : K.In h2 := fun a o e => b2 a o (fun z => by rw [z, hnx] at e; cases e) (X₁ a o e)
    refine ks_wpAt_execs_cons ?_
    refine ks_wpAt_Assign_Attr ?_ rfl
    refine wpAt_of_wpAny (nmK hn2 rfl (nmK hn2 rfl ?_))
    refine set_plain X₂ (ox := excO C t1) (od := none) ⟨x2, rfl, rfl, trivial⟩ T.sa ?_
    refine exc_osa X₂ x2 hcl (show refsVE (.ref C :: bm) = true from hbm) rfl n1 (fun h3 tk3 dx k3 dn dne x3 ns3 => ?_)
    have dL : hp.objs.size ≤ dx := Nat.le_of_lt (Nat.lt_of_lt_of_le (show hp.objs.size < h2.objs.size from hn2.lt) dn)
    refine wpAt_of_wpAny (wpAny_execs_nil ?_)
    exact hq h3 _ dx t1 ⟨fun b o hb e => k3 b o hb (b2 b o hb (k b o e)), x3, dL, dne, ns3⟩
/-- C(..) : a fresh exception, then its __init__ -/
theorem made {us : List Value} {mm : Str → Option Value} (T : BaseTxt K C fI) (X : K.In s.heap) (hus : us.length ≤ 10) (hroom : A.depth + 1 < recursionLimit)
    (hinit : ∀ (A' : Around) (h0 : Heap) (x t0 : Addr) (R' : Result → Shared → Prop), (∀ b o, s.heap.get? b = some o → h0.get? b = some o) → h0.get? x = some (excO C t0) → K.lookup x = none → A'.depth < recursionLimit →
      (∀ h' tk dx t1, InitLeft h0 h' x C dx t1 mm → R' (.ok (.ret .none)) { s with heap := h', toks := tk }) → codeAny (model prog w) A' (.call (.ref fI) ⟨.ref x :: us, []⟩) R' { s with heap := h0 })
    (hq : ∀ h' tk e d, Made s.heap h' e C d mm → R (.ok (.ret (.ref e))) { s with heap := h', toks := tk }) : codeAny (model prog w) A (.call (.ref C) ⟨us, []⟩) R s := by
  obtain ⟨nm, q, N, bs, bm, sn, sub, ab, col, dd, k0, k1, k2, k3, k5, hC, hbm, hal⟩ := T.cls
  obtain ⟨hp, g, dr, tk, os⟩ := s
  have k : ∀ b o, hp.get? b = some o → ((hp.push (kdv_tup us)).push (excO C hp.objs.size)).get? b = some o := fun b o e => Heap.get?_push_of_some _ (Heap.get?_push_of_some _ e)
  have hget : ((hp.push (kdv_tup us)).push (excO C hp.objs.size)).get? (hp.objs.size + 1) = some (excO C hp.objs.size) := by heap_get
  have hnx : K.lookup (hp.objs.size + 1) = none := by
    cases e : K.lookup (hp.objs.size + 1) with
    | none => rfl
    | some o =>
      have z : hp.get? (hp.objs.size + 1) = some o := X _ _ e
      exact absurd (Nat.lt_of_succ_lt (Heap.lt_size z)) (Nat.lt_irrefl _)
  refine call_own F.excBase_ValueError (fun X => refsVE_contains X bm hbm) (X _ _ hC) (looks_findIn X T.iC) (fun self => bind_fn X self T.tC) (lk us hus) ?_
  refine hinit _ _ _ _ _ k hget hnx ?_ fun h' tk' dx t1 ⟨k', hx, dn, dne, hns⟩ => ?_
  · show A.depth + 1 < recursionLimit
    exact hroom
  · have old : ∀ b o, hp.get? b = some o → h'.get? b = some o := fun b o e => k' b o (Nat.ne_of_lt (Nat.lt_succ_of_lt (Heap.lt_size e))) (k b o e)
    have z : hp.objs.size + 1 + 1 ≤ dx := by
      first
        | (simpa only [Heap.size_push] using dn)
        | exact dn
    exact ⟨rfl, hq h' tk' (hp.objs.size + 1) dx ⟨old, Nat.le_succ _, ⟨_, hx⟩, Nat.le_trans (Nat.le_trans (Nat.le_succ _) (Nat.le_succ _)) z, dne, hns⟩⟩
end
end Bx
set_option Elab.async false
set_option linter.all false
set_option maxRecDepth 100000
set_option maxHeartbeats 2000000
/-! Exceptions raised, by data. -/
namespace Hw
open PySem PySem.Spec PyProof.Rows L2 Bx

/-- own exceptions with fields: what the head says -/
structure Bad2 (g : Gm) (x : Str) (C : Addr) : Prop where
  gC : g.mg x = some (.ref C)
  ex : ∃ fI, BaseTxt g.K C fI ∧ PySem.W.findIn g.K (.ref C) "index" = some none ∧ PySem.W.findIn g.K (.ref C) "what" = some none ∧ ∃ (qual tag : Str) (p0 p1 p2 a1 a2 a3 a4 a5 a6 a7 a8 b1 b2 b3 b4 c1 c2 c3 c4 : Pos) (j : Nat),
    InitFn g.K g.P qual (args3 p0 p1 p2) (body3 tag j a1 a2 a3 a4 a5 a6 a7 a8 b1 b2 b3 b4 c1 c2 c3 c4) sco3 C fI ∧ ∀ env : Env, MC a1 a2 a3 a7 [.Constant (.str tag) j a4, .Name "index" a5, .Name "what" a6] env
structure Bad1 (g : Gm) (x : Str) (C : Addr) : Prop where
  gC : g.mg x = some (.ref C)
  ex : ∃ fI, BaseTxt g.K C fI ∧ PySem.W.findIn g.K (.ref C) "index" = some none ∧ ∃ (qual tag : Str) (p0 p1 a1 a2 a3 a4 a5 a7 a8 b1 b2 b3 b4 : Pos) (j : Nat),
    InitFn g.K g.P qual (args2 p0 p1) (body2 tag j a1 a2 a3 a4 a5 a7 a8 b1 b2 b3 b4) sco2 C fI ∧ ∀ env : Env, MC a1 a2 a3 a7 [.Constant (.str tag) j a4, .Name "index" a5] env
/-- .. without a field, called with nothing -/
structure Bad0 (g : Gm) (x : Str) (C : Addr) : Prop where
  gC : g.mg x = some (.ref C)
  exc : PySem.W.excIn g.K C [.type "ValueError", .type "Exception", .type "BaseException", .type "object"] "ValueError.__new__" = true
  kC : PySem.W.keepIn g.K (.ref C) = true
  exC : PySem.W.subIn g.K (.ref C) (.type "BaseException") = some true
  tyC : PySem.W.typeIn g.K (.ref C) = some (.type "type")
/-- super is the built-in, everywhere -/
structure Sup (g : Gm) : Prop where
  mg : g.mg "super" = none
  top : (g.P.main.scope.names.lookup ("super" : Str)).isSome = false

section
variable {X : Cx}
theorem relO_one {f : Str} {v : V} {v' : Value} (r : RelV v v') (y : Str) : RelO (List.lookup y [(f, v)]) (if y = f then some v' else none) := by
  by_cases h : y = f
  · subst h
    rw [if_pos rfl]
    have q : List.lookup y [(y, v)] = some v := by simp [List.lookup]
    rw [q]
    exact r
  · rw [if_neg h]
    have q : (y == f) = false := by simpa using h
    have q2 : List.lookup y [(f, v)] = none := by simp [List.lookup, q]
    rw [q2]
    trivial
theorem relO_two {f1 f2 : Str} {v1 v2 : V} {u1 u2 : Value} (hne : f1 ≠ f2) (r1 : RelV v1 u1) (r2 : RelV v2 u2) (y : Str) : RelO (List.lookup y [(f1, v1), (f2, v2)]) (m2 f1 f2 u1 u2 y) := by
  unfold m2
  by_cases h : y = f1
  · subst h
    rw [if_neg hne, if_pos rfl]
    have q : List.lookup y [(y, v1), (f2, v2)] = some v1 := by simp [List.lookup]
    rw [q]
    exact r1
  · have q : (y == f1) = false := by simpa using h
    have q2 : List.lookup y [(f1, v1), (f2, v2)] = List.lookup y [(f2, v2)] := by simp [List.lookup, q]
    rw [q2, if_neg h]
    exact relO_one r2 y
/-- an exception that Made tells of -/
theorem mk_made {pins : List (Addr × Obj)} {σ : L2.St} {H1 : Hp} {Q : XK} {hp h' : Heap} {g : Array GenState} {dr : Drawn} {tk tk' : Nat} {os : OsState} {e C d : Addr} {mm : Str → Option Value} {fvs : List (Str × V)}
    (I1 : Inv X pins σ H1 ⟨hp, g, dr, tk, os⟩) (M : Made hp h' e C d mm) (rel : ∀ y, RelO (fvs.lookup y) (mm y)) (r : Raises X (.ref C)) (q1 : ∀ d, H1 d = none → Q (.ref C) (some d) (upd H1 d (.xd fvs))) : L2N.MkP X pins σ Q (.ref e) ⟨h', g, dr, tk', os⟩ ∧ L2H.Six (.ref e) ⟨h', g, dr, tk', os⟩ := by
  obtain ⟨t1, hoe⟩ := M.obj
  have hns := M.ns
  obtain ⟨G', g1, g2⟩ := restrict h' fun b => decide (b ≠ e)
  have gk : ∀ b, b ≠ e → G'.get? b = h'.get? b := fun b hb => g1 b (decide_eq_true hb)
  have ge : G'.get? e = none := g2 e (by simp)
  have old : ∀ b o, hp.get? b = some o → G'.get? b = some o := fun b o q => (gk b (Nat.ne_of_lt (Nat.lt_of_lt_of_le (Heap.lt_size q) M.new))).trans (M.keep b o q)
  have ob : ObjOk X.prog X.w (upd H1 d (.xd fvs)) G' d (.xd fvs) := ⟨_, hns.at (fun o q => (gk d M.dne).trans q), rel⟩
  have J : Inv X pins σ (upd H1 d (.xd fvs)) ⟨G', g, dr, tk', os⟩ := I1.laid (t' := tk') old M.dbig ob
  refine ⟨⟨e, _, _, ⟨G', g, dr, tk', os⟩, _, .ref C, some d, rfl, J, fun b o q => ?_, ge, hoe, ⟨rfl, rfl, fun vs z => by cases z; rfl⟩, rfl, rfl, ?_, rfl, I1.bare, r, q1 d (I1.hok.fresh M.dbig)⟩, fun a oe vs ea hg hd => ?_⟩
  · by_cases hb : b = e
    · have q' : G'.get? b = some o := q
      rw [hb, ge] at q'; cases q'
    · exact (gk b hb).symm.trans q
  · rw [upd_ne (Ne.symm M.dne)]
    exact I1.hok.fresh M.new
  · cases ea
    have hg' : h'.get? e = some oe := hg
    rw [hoe] at hg'
    cases hg'
    cases hd
    show (4 : Nat) < 6
    decide
theorem glob_txt {g : Gm} (hs : Sup g) (hP : X.prog = g.P) (hm : X.mg = g.mg) {pins : List (Addr × Obj)} {σ : L2.St} {H : Hp} {s : Shared} (I : Inv X pins σ H s) : GlobTxt s.heap X.prog := by
  obtain ⟨mb, h1, h2⟩ := I.ok.mod.blt
  refine ⟨⟨X.mg, mb, I.ok.mod.glob.keeps I.bk, by rw [hm]; exact hs.mg, h1.keeps I.bk, (h2 _ (by decide +kernel)).trans (by decide +kernel)⟩, by rw [hP]; exact hs.top⟩
/-- C(e1, e2) | C(e1), in any suite -/
def tMk2 (C : Addr) (ta : TA) : L2.St → Hp → XK → Prop := fun σ H Q => ta σ H fun vs H1 => ∃ v1 v2, vs = [v1, v2] ∧ ∀ d, H1 d = none → Q (.ref C) (some d) (upd H1 d (.xd [("index", v1), ("what", v2)]))
def tMk1 (C : Addr) (ta : TA) : L2.St → Hp → XK → Prop := fun σ H Q => ta σ H fun vs H1 => ∃ v1, vs = [v1] ∧ ∀ d, H1 d = none → Q (.ref C) (some d) (upd H1 d (.xd [("index", v1)]))
theorem pmk_bad2 {g : Gm} {x : Str} {C : Addr} {e : Expr} {es : List Expr} {ta : TA} {p pos : Pos} (hs : Sup g) (T : Bad2 g x C) (hP : X.prog = g.P) (hK : X.K = g.K) (hm : X.mg = g.mg) (hroom : X.A.depth + 1 < recursionLimit) (ha : PA X (e :: es) ta) (hg : Gl X x)
    (hdb : (x == ("__debug__" : Str)) = false := by decide) (he : starEach (e :: es) X.env = (false, eval e X.env) :: starEach es X.env := by rfl) (hpl : (backTo pos (starEach es X.env)).any (·.1) = false := by rfl) : L2H.PMk5 X (.Call (.Name x p) (e :: es) [] pos) (tMk2 C ta) := by
  intro pins s σ H Q I h
  obtain ⟨fI, B, n1, n2, qual, tag, p0, p1, p2, a1, a2, a3, a4, a5, a6, a7, a8, b1, b2, b3, b4, c1, c2, c3, c4, j, F, hmc⟩ := T.ex
  rw [← hK] at B n1 n2 F
  rw [← hP] at F
  refine wpAny_Call_Name_kw (ld_glob I hg (by rw [hm]; exact T.gC) ?_ hdb)
  refine PySem.W.callWith_K (h₀ := X.base) I.ok.mod.kin B.kC (thn (ha.run pos pins s σ H _ I h) fun us s1 hh => ?_) he hpl
  obtain ⟨vs, H1, I1, r1, v1, v2, ev, q1⟩ := hh
  subst ev
  refine ⟨I1.kIn, ?_⟩
  cases r1 with
  | @cons _ u1 _ _ ra rb =>
    cases rb with
    | @cons _ u2 _ _ rb rn =>
      cases rn
      show wpAny _ _ (call (.ref C) [u1, u2]) _ _ _
      have G := glob_txt hs hP hm I1
      have hlim := I1.nolimit
      have kin := I1.kIn
      refine wpAny_call (made (us := [u1, u2]) (mm := m2 "index" "what" u1 u2) B kin (by simp) hroom (fun A' h0 x t0 R' k hx hnx hd hq => init3 B F hmc n1 n2 (kin.keeps k) (G.keeps k) (hlim.keeps k) hx hnx hd hq) fun h' tk' e d M => ?_)
      obtain ⟨hp, g, dr, tk, os⟩ := s1
      exact mk_made (tk' := tk') I1 M (fun y => relO_two (by decide) ra rb y) (raises_own B.exC B.tyC) q1
theorem pmk_bad1 {g : Gm} {x : Str} {C : Addr} {e : Expr} {es : List Expr} {ta : TA} {p pos : Pos} (hs : Sup g) (T : Bad1 g x C) (hP : X.prog = g.P) (hK : X.K = g.K) (hm : X.mg = g.mg) (hroom : X.A.depth + 1 < recursionLimit) (ha : PA X (e :: es) ta) (hg : Gl X x)
    (hdb : (x == ("__debug__" : Str)) = false := by decide) (he : starEach (e :: es) X.env = (false, eval e X.env) :: starEach es X.env := by rfl) (hpl : (backTo pos (starEach es X.env)).any (·.1) = false := by rfl) : L2H.PMk5 X (.Call (.Name x p) (e :: es) [] pos) (tMk1 C ta) := by
  intro pins s σ H Q I h
  obtain ⟨fI, B, n1, qual, tag, p0, p1, a1, a2, a3, a4, a5, a7, a8, b1, b2, b3, b4, j, F, hmc⟩ := T.ex
  rw [← hK] at B n1 F
  rw [← hP] at F
  refine wpAny_Call_Name_kw (ld_glob I hg (by rw [hm]; exact T.gC) ?_ hdb)
  refine PySem.W.callWith_K (h₀ := X.base) I.ok.mod.kin B.kC (thn (ha.run pos pins s σ H _ I h) fun us s1 hh => ?_) he hpl
  obtain ⟨vs, H1, I1, r1, v1, ev, q1⟩ := hh
  subst ev
  refine ⟨I1.kIn, ?_⟩
  cases r1 with
  | @cons _ u1 _ _ ra rn =>
    cases rn
    show wpAny _ _ (call (.ref C) [u1]) _ _ _
    have G := glob_txt hs hP hm I1
    have hlim := I1.nolimit
    have kin := I1.kIn
    refine wpAny_call (made (us := [u1]) (mm := m1 "index" u1) B kin (by simp) hroom (fun A' h0 x t0 R' k hx hnx hd hq => init2 B F hmc n1 (kin.keeps k) (G.keeps k) (hlim.keeps k) hx hnx hd hq) fun h' tk' e d M => ?_)
    obtain ⟨hp, g, dr, tk, os⟩ := s1
    exact mk_made (tk' := tk') I1 M (fun y => relO_one ra y) (raises_own B.exC B.tyC) q1
theorem pmk_bad0 {g : Gm} {x : Str} {C : Addr} {p pos : Pos} (T : Bad0 g x C) (hK : X.K = g.K) (hm : X.mg = g.mg) (hg : Gl X x) (hdb : (x == ("__debug__" : Str)) = false := by decide) : L2N.PMk X (.Call (.Name x p) [] [] pos) (fun σ H Q => Q (.ref C) none H) := by
  intro pins s σ H Q I h
  refine wpAny_Call_Name_kw (ld_glob I hg (by rw [hm]; exact T.gC) ?_ hdb)
  refine PySem.W.callWith_K0 I.kIn (by rw [hK]; exact T.kC) ?_
  show wpAny _ _ (call (.ref C) []) _ _ _
  obtain ⟨bm, N, nm, qn, bs, hdct, sn, sub, ab, col, dd, k0, k1, k2, k3, k5, mN, hC, hN, hni, T'⟩ := exc_obj I.kIn (by rw [hK]; exact T.exc)
  refine wpAny_call_exc_subT F.excBase_ValueError T' hC hN hni (fun h' e hm => ?_) (by rw [sizeLine_eq]; decide)
  exact L2N.mk_of I hm (raises_own (by rw [hK]; exact T.exC) (by rw [hK]; exact T.tyC)) h (I.hok.gone hm.new)
end

/-! ### raise -/
section
variable {g : Gm} {N : List Str} {sc : Scope} {k : Nat} {W : Wm} {m : Nat} {ρ ρ1 ρ2 : Rho} {ω ω1 ω2 : Om} {P : Out → Prop} {rest : List Stmt} {pos pos2 p : Pos} {S M : List Addr} {σ : L2.St} {H : Hp}
theorem xd_ok {fs : List (Str × D)} {c : Addr} {fvs : List (Str × V)} {d : Addr} (hl : Lv (M ++ S) H) (hd : H d = none) (hn : fvs.map (·.1) = fs.map (·.1)) (x : DxL g (M ++ S) H (fvs.map (·.2)) (fs.map (·.2))) :
    XdOk g (M ++ S) (upd H d (.xd fvs)) (some d) ⟨c, some fs⟩ := ⟨d, fvs, rfl, upd_same, hl.out hd, hn, DxL.mono ((All.new hd).kp _) x⟩
theorem ws_raise2 {x : Str} {C : Addr} {e1 e2 : Expr} {d1 d2 : D} (hs : Sup g) (T : Bad2 g x C) (he : EvA g N sc k W [e1, e2] ρ ω [d1, d2] ω1) (hP : P (.exc ⟨C, some [("index", d1), ("what", d2)]⟩ ω1))
    (hg : glB sc x = true := by decide +kernel) (hdb : (x == ("__debug__" : Str)) = false := by decide) (h1 : noStar e1 [e2] := by exact fun _ => rfl) (h2 : noStars [e2] := by exact fun _ _ => rfl) : WS g N sc k W m (.Raise (some (.Call (.Name x p) [e1, e2] [] pos2)) none pos :: rest) ρ ω P := fun X B S M σ H D E q => by
  have hr : X.A.depth + 1 < recursionLimit := by have := B.room.dp; omega
  refine ss_of (pss_cons (L2N.ps_raise B.calm B.tk.non (pmk_bad2 hs T B.prog B.K B.mg hr (pa_s X _) (gl_of B.toBd hg) hdb (h1 X.env) (h2 X.env pos2)).pmk) (pss_never (X := X))) ?_
  refine he X B.toBd S M σ H E _ fun vs H1 s1 o1 x1 => ?_
  cases x1 with
  | cons y1 r1 =>
    cases r1 with
    | cons y2 r2 =>
      cases r2
      refine ⟨_, _, rfl, fun d hd => ?_⟩
      have E1 := E.go s1 o1
      exact q _ hP (some d) σ M _ (.refl _ _ _) (s1.trans (.new hd)) (o1.new hd) (xd_ok E1.live' hd rfl (.cons y1 (.cons y2 .nil)))
theorem ws_raise1 {x : Str} {C : Addr} {e1 : Expr} {d1 : D} (hs : Sup g) (T : Bad1 g x C) (he : EvA g N sc k W [e1] ρ ω [d1] ω1) (hP : P (.exc ⟨C, some [("index", d1)]⟩ ω1))
    (hg : glB sc x = true := by decide +kernel) (hdb : (x == ("__debug__" : Str)) = false := by decide) (h1 : noStar e1 [] := by exact fun _ => rfl) (h2 : noStars [] := by exact fun _ _ => rfl) : WS g N sc k W m (.Raise (some (.Call (.Name x p) [e1] [] pos2)) none pos :: rest) ρ ω P := fun X B S M σ H D E q => by
  have hr : X.A.depth + 1 < recursionLimit := by have := B.room.dp; omega
  refine ss_of (pss_cons (L2N.ps_raise B.calm B.tk.non (pmk_bad1 hs T B.prog B.K B.mg hr (pa_s X _) (gl_of B.toBd hg) hdb (h1 X.env) (h2 X.env pos2)).pmk) (pss_never (X := X))) ?_
  refine he X B.toBd S M σ H E _ fun vs H1 s1 o1 x1 => ?_
  cases x1 with
  | cons y1 r1 =>
    cases r1
    refine ⟨_, rfl, fun d hd => ?_⟩
    have E1 := E.go s1 o1
    exact q _ hP (some d) σ M _ (.refl _ _ _) (s1.trans (.new hd)) (o1.new hd) (xd_ok E1.live' hd rfl (.cons y1 .nil))
theorem ws_raise0 {x : Str} {C : Addr} (T : Bad0 g x C) (hP : P (.exc ⟨C, none⟩ ω)) (hg : glB sc x = true := by decide +kernel) (hdb : (x == ("__debug__" : Str)) = false := by decide) :
    WS g N sc k W m (.Raise (some (.Call (.Name x p) [] [] pos2)) none pos :: rest) ρ ω P := fun X B S M σ H D E q => by
  refine ss_of (pss_cons (L2N.ps_raise B.calm B.tk.non (pmk_bad0 T B.K B.mg (gl_of B.toBd hg) hdb)) (pss_never (X := X))) ?_
  exact q _ hP none σ M H (.refl _ _ _) (.refl _ _ _) E.ow rfl
end
end Hw
set_option Elab.async false
set_option linter.all false
set_option maxRecDepth 100000
set_option maxHeartbeats 4000000
/-! try with several clauses, some with a name. -/
namespace Hw
open PySem PySem.Spec PyProof.Rows L2

/-- behind a named clause the name is gone -/
def goneD (D : Ends) (i : Nat) : Ends := { nx := fun σ' H' => D.nx (σ'.set i none) H', rt := D.rt, bk := fun σ' H' => D.bk (σ'.set i none) H', ct := fun σ' H' => D.ct (σ'.set i none) H' }
abbrev Suite := Addr → Value → Option Addr → TS
def hitX (ts : Suite) (D : Ends) : Option Nat → Addr → Value → Option Addr → L2.St → Hp → Prop
  | none, a, cls, d, σ, H => ts a cls d D σ H
  | some i, a, cls, d, σ, H => ts a cls d (goneD D i) (σ.set i (some (.ref a))) H
def wMix (K : PySem.W.Frag) (n : Nat) (Wout : WX) (D : Ends) : List (Value × Option Nat × Suite) → WX
  | [] => Wout
  | (c, oi, ts) :: r => fun cls d σ H => ∃ b, PySem.W.exmOne K cls c = some b ∧ (b = true → ∀ a, H a = none → σ.length = n → hitX ts D oi a cls d σ H) ∧ (b = false → wMix K n Wout D r cls d σ H)
inductive HdsM (X : Cx) : List ExceptHandler → List (Value × Option Nat × Suite) → Prop
  | nil : HdsM X [] []
  | bare {x : Str} {c : Value} {ts : Suite} {b₀ : Stmt} {suite : List Stmt} {np pos' : Pos} {hds : List ExceptHandler} {l : List (Value × Option Nat × Suite)} (hc : Names X x c)
      (hsu : ∀ (a : Addr) (oe : Obj) (cls : Value) (d : Option Addr) (pn : List (Addr × Obj)), Zc cls d oe → (∃ vs, oe.data = .fields vs) → PSs (X.suite a ((a, oe) :: pn)) (b₀ :: suite) (ts a cls d)) (r : HdsM X hds l) :
      HdsM X (.ExceptHandler (some (.Name x np)) none (b₀ :: suite) pos' :: hds) ((c, none, ts) :: l)
  | named {x n : Str} {i : Nat} {c : Value} {ts : Suite} {b₀ : Stmt} {suite : List Stmt} {np pos' : Pos} {hds : List ExceptHandler} {l : List (Value × Option Nat × Suite)} (hc : Names X x c) (hi : X.N[i]? = some n) (hln : X.env.kindOf n = some .local)
      (hsu : ∀ (a : Addr) (oe : Obj) (cls : Value) (d : Option Addr) (pn : List (Addr × Obj)), Zc cls d oe → (∃ vs, oe.data = .fields vs) → PSs (X.suite a ((a, oe) :: pn)) (b₀ :: suite) (ts a cls d)) (r : HdsM X hds l) :
      HdsM X (.ExceptHandler (some (.Name x np)) (some n) (b₀ :: suite) pos' :: hds) ((c, some i, ts) :: l)
section
variable {X : Cx} {body : List Stmt} {h₀ : ExceptHandler} {hds : List ExceptHandler} {l : List (Value × Option Nat × Suite)} {pos : Pos} {tb : WX → TS} {Wout : WX}
theorem ps_try_mix (hs : X.stack = X.env :: X.outer) (hf : X.env.frame = some X.env.locals) (hN : X.N.Nodup) (tk : L2.Takes X Wout)
    (hb : ∀ (W : WX) (pn : List (Addr × Obj)) (xe : Value → Shared → Prop), L2.Takes (X.tr pn xe) W → PassesOwn (model X.prog X.w) X.A X.env xe → PSs (X.tr pn xe) body (tb W))
    (hh : HdsM X (h₀ :: hds) l) : PS X (.Try body (h₀ :: hds) [] [] pos) (fun D σ H => tb (wMix X.K X.N.length Wout D l) D σ H) := by
  refine ⟨fun pins s σ H D I h => ?_⟩
  have ok := I.ok
  have frm : X.A.frames = some (X.env :: X.outer) := by rw [ok.frames, hs]
  refine wpAny_Try_except ?_
  refine wpAny_mono ((hb (wMix X.K X.N.length Wout D l) (X.pn ++ pins) (fun e s₁ => wpAny (model X.prog X.w) X.A (noteFrame e X.env) (fun _ s₂ => wpAny (model X.prog X.w) X.A (setFlight e none) (fun _ s₃ =>
    wpAny (model X.prog X.w) X.A (handleBy e X.env (h₀ :: hds)) (SP X pins D) X.xe s₃) X.xe s₂) X.xe s₁) (fun u s' xx => ?_) PassesOwn.looking).run [] s σ H D (I.toTry _) h) (fun f s1 hsp => ?_) (fun e s1 he => he)
  · obtain ⟨a, B, sI, pins', σ', H', cls, d, rfl, J', nb, up, sky, na, os, ag, w⟩ := xx
    have J : Inv X pins σ' H' sI := J'.ofTry ok
    have sky' : Sky B (X.env :: X.outer) a (Zc cls d) X.env.locals s'.heap := by rw [← hs]; exact sky
    show wpAny (model X.prog X.w) X.A (noteFrame (.ref a) X.env) _ _ _
    refine Sky.land Zc.steady frm hf sky' fun h3 fl3 up3 => ?_
    have J3 : Inv X pins σ' H' { s' with heap := h3 } := J.landed nb fl3.1 (up.trans up3) os ag
    obtain ⟨oe3, vs3, he3, hz3, hd3⟩ := fl3.there
    have nfr : a ∉ frs (X.env :: X.outer) := fun hm => by
      obtain ⟨_, o', e', hnf⟩ := fl3.2.2.1.mem hm
      rw [he3] at e'; cases e'
      exact hnf _ hd3
    have nL : a ≠ X.env.locals := fun z => nfr (List.mem_filterMap.mpr ⟨X.env, List.mem_cons_self, by rw [hf, z]⟩)
    have nF : a ∉ X.fs := fun hm => by
      obtain ⟨e, he, q⟩ := List.mem_filterMap.mp hm
      exact nfr (List.mem_filterMap.mpr ⟨e, List.mem_cons_of_mem _ he, q⟩)
    have S3 := J3.suite he3 hd3 na nL nF
    have LT : PySem.W.Looks (model X.prog X.w) h3 (typeOf (.ref a)) cls := fun A Q E s k q => wpAny_typeOf_ref (k _ _ he3) (by rw [hz3.1]; exact q)
    have tst : ∀ {x : Str} {c : Value} {np : Pos} {Q : Value → Shared → Prop} {E : Value → Shared → Prop}, Names X x c → Q c { s' with heap := h3 } → wpAny (model X.prog X.w) (X.A.mark (some (.ref a))) (eval (.Name x np) X.env) Q E { s' with heap := h3 } := fun {x c np Q E} hc q => by
      obtain ⟨hg, hdbg, hm | ⟨hm, hv, hnn⟩⟩ := hc
      · exact ld_glob (X := X.suite a ((a, oe3) :: (X.pn ++ pins))) S3 hg hm q hdbg
      · exact ld_blt (X := X.suite a ((a, oe3) :: (X.pn ++ pins))) S3 hg hm hv q hnn hdbg
    have go : ∀ {hds' : List ExceptHandler} {l' : List (Value × Option Nat × Suite)}, HdsM X hds' l' → wMix X.K X.N.length Wout D l' cls d σ' H' →
        wpAny (model X.prog X.w) X.A (handleBy (.ref a) X.env hds') (SP X pins D) X.xe { s' with heap := h3 } := by
      intro hds' l' hk
      induction hk with
      | nil =>
        intro w
        refine wpAny_handleBy_nil ?_
        obtain ⟨k1, k2, k3, oe, vs, T, oT, ts', he, hz, hd, h1, hr⟩ := id fl3
        unfold PySem.passOn
        refine wpAny_bind (wpAny_field he hd h1 ?_)
        rw [if_neg (show ¬ ((Value.ref T == Value.none) = true) from by simp)]
        have fin : wpAny (model X.prog X.w) X.A (setFlight (.ref a) X.env.frame) (fun _ s4 => wpAny (model X.prog X.w) X.A (throw (.ref a) : Sem Flow) (SP X pins D) X.xe s4) X.xe { s' with heap := h3 } := by
          rw [hf]
          refine HandSPX.setFlight_upZ fl3 fun h4 hh4 up4 => wpAny_throw (tk _ _ ?_)
          exact ⟨a, B, sI, pins, σ', H', cls, d, rfl, J, nb, (up.trans up3).trans up4, .inr (.inr (by rw [hs]; exact hh4)), na, os, ag, w⟩
        first
          | exact wpAny_bind (wpAny_pure (wpAny_bind fin))
          | exact wpAny_bind fin
      | @bare x c ts b₀ suite np pos' hds2 l2 hc hsu r ih =>
        intro w
        obtain ⟨b, hb1, hyes, hno⟩ := w
        refine wpAny_handleBy_cons (codeAny_handlers_test ?_) (by intro q; cases q)
        refine tst hc ((PySem.W.exm_one (M := model X.prog X.w) (J3.kIn) LT hb1).here ?_)
        cases b with
        | true =>
          refine codeAny_handlers_suite ?_
          refine HandSPX.lands_againZ fl3 fun h4 fl4 up4 => ?_
          have J4 : Inv X pins σ' H' { s' with heap := h4 } := J.landed nb fl4.1 ((up.trans up3).trans up4) os ag
          obtain ⟨oe4, vs4, he4, hz4, hd4⟩ := fl4.there
          have S4 := J4.suite he4 hd4 na nL nF
          refine wpAny_mono ((hsu a oe4 cls d (X.pn ++ pins) hz4 ⟨_, hd4⟩).run [] _ _ H' _ S4 (hyes rfl a na J.len)) (fun f s6 hsp => ?_) (fun _ _ z => False.elim z)
          cases f with
          | next => obtain ⟨σ6, H6, S6, q6⟩ := hsp; exact ⟨_, _, S6.unsuite ok, q6⟩
          | brk => obtain ⟨σ6, H6, S6, q6⟩ := hsp; exact ⟨_, _, S6.unsuite ok, q6⟩
          | cont => obtain ⟨σ6, H6, S6, q6⟩ := hsp; exact ⟨_, _, S6.unsuite ok, q6⟩
          | ret u => obtain ⟨v6, σ6, H6, S6, r6, q6⟩ := hsp; exact ⟨_, _, _, S6.unsuite ok, r6, q6⟩
        | false =>
          show wpAny _ X.A (handleBy (.ref a) X.env hds2) _ _ _
          exact ih (hno rfl)
      | @named x n i c ts b₀ suite np pos' hds2 l2 hc hi hln hsu r ih =>
        intro w
        obtain ⟨b, hb1, hyes, hno⟩ := w
        refine wpAny_handleBy_cons (codeAny_handlers_test ?_) (by intro q; cases q)
        refine tst hc ((PySem.W.exm_one (M := model X.prog X.w) (J3.kIn) LT hb1).here ?_)
        cases b with
        | true =>
          refine codeAny_handlers_suite_as ?_
          refine HandSPX.lands_againZ fl3 fun h4 fl4 up4 => ?_
          have J4 : Inv X pins σ' H' { s' with heap := h4 } := J.landed nb fl4.1 ((up.trans up3).trans up4) os ag
          obtain ⟨oe4, vs4, he4, hz4, hd4⟩ := fl4.there
          have S4 := J4.suite he4 hd4 na nL nF
          refine store_ok (X := X.suite a ((a, oe4) :: (X.pn ++ pins))) (v := .ref a) S4 hN hi (.inl hln) rfl (fun s5 S5 => ?_) (.inr hln)
          refine wpAny_mono ((hsu a oe4 cls d (X.pn ++ pins) hz4 ⟨_, hd4⟩).run [] s5 _ H' _ S5 (hyes rfl a na J.len)) (fun f s6 hsp => ?_) (fun _ _ z => False.elim z)
          have out : ∀ {σ6 : L2.St} {H6 : Hp} {Q : Shared → Prop}, Inv (X.suite a ((a, oe4) :: (X.pn ++ pins))) [] σ6 H6 s6 → (∀ s7, Inv X pins (σ6.set i none) H6 s7 → Q s7) →
              wpAny (model X.prog X.w) X.A (do bindName X.env n .none; unbindBehindTheSuite X.env n pos') (fun _ s7 => Q s7) X.xe s6 := fun {σ6 H6 Q} S6 hq => gone_ok (S6.unsuite ok) hN hi hln hq
          cases f with
          | next => obtain ⟨σ6, H6, S6, q6⟩ := hsp; exact out S6 fun s7 J7 => ⟨_, _, J7, q6⟩
          | brk => obtain ⟨σ6, H6, S6, q6⟩ := hsp; exact out S6 fun s7 J7 => ⟨_, _, J7, q6⟩
          | cont => obtain ⟨σ6, H6, S6, q6⟩ := hsp; exact out S6 fun s7 J7 => ⟨_, _, J7, q6⟩
          | ret u => obtain ⟨v6, σ6, H6, S6, r6, q6⟩ := hsp; exact out S6 fun s7 J7 => ⟨_, _, _, J7, r6, q6⟩
        | false =>
          show wpAny _ X.A (handleBy (.ref a) X.env hds2) _ _ _
          exact ih (hno rfl)
    exact go hh w
  · cases f with
    | next => obtain ⟨σ', H', J', q⟩ := hsp; exact wpAny_execs_nil ⟨σ', H', J'.ofTry ok, q⟩
    | brk => obtain ⟨σ', H', J', q⟩ := hsp; exact ⟨σ', H', J'.ofTry ok, q⟩
    | cont => obtain ⟨σ', H', J', q⟩ := hsp; exact ⟨σ', H', J'.ofTry ok, q⟩
    | ret u => obtain ⟨v, σ', H', J', r, q⟩ := hsp; exact ⟨v, σ', H', J'.ofTry ok, r, q⟩
end
end Hw
set_option Elab.async false
set_option linter.all false
set_option maxRecDepth 100000
set_option maxHeartbeats 4000000
/-! _law_caught, by data. -/
namespace Hw
open PySem PySem.Spec PyProof.Rows L2

/-- the clauses: the name that is told, the class, whether it bears fields -/
structure Cl where
  nm : Str
  C : Addr
  two : Bool
/-- the seven classes of the clauses -/
structure XS (g : Gm) where
  w : Addr
  p : Addr
  a : Addr
  m : Addr
  t : Addr
  r : Addr
  n : Addr
abbrev XS.l {g : Gm} (x : XS g) : List Cl := [⟨"BadWord", x.w, true⟩, ⟨"BadPoles", x.p, false⟩, ⟨"BadAmount", x.a, false⟩, ⟨"BadMost", x.m, false⟩, ⟨"BadTests", x.t, true⟩, ⟨"BadReadings", x.r, true⟩, ⟨"NoLots", x.n, false⟩]
structure XSok (g : Gm) (x : XS g) : Prop where
  bw : Bad2 g "BadWord" x.w
  bp : Bad0 g "BadPoles" x.p
  ba : Bad0 g "BadAmount" x.a
  bm : Bad0 g "BadMost" x.m
  bt : Bad2 g "BadTests" x.t
  br : Bad2 g "BadReadings" x.r
  bn : Bad0 g "NoLots" x.n
  nd : (x.l.map (·.C)).Nodup
  ex : ∀ c ∈ x.l, ∀ c' ∈ x.l, PySem.W.exmOne g.K (.ref c.C) (.ref c'.C) = some (decide (c.C = c'.C))
  xf : ∀ c ∈ x.l, c.two = true → XfC g.K c.C

/-- what the clause c makes of the exception: Q of the tuple -/
def clE (c : Cl) (Q : VK) (dd : Option Addr) (H : Hp) : Prop := match c.two with
  | true => ∃ (d : Addr) (v1 v2 : V), dd = some d ∧ H d = some (.xd [("index", v1), ("what", v2)]) ∧ ∀ p, H p = none → Q (.ref p) (upd H p (.tup [.str c.nm, v1, v2]))
  | false => ∀ p, H p = none → Q (.ref p) (upd H p (.tup [.str c.nm]))
def suE (c : Cl) : Suite := fun a cls d => match c.two with
  | true => tRet (tTup (tCons (tC (.str c.nm)) (tCons (tXf a cls d c.C "index" (tVar 2)) (tCons (tXf a cls d c.C "what" (tVar 2)) tNil))))
  | false => tRet (tTup (tCons (tC (.str c.nm)) tNil))
def clL (c : Cl) : Value × Option Nat × Suite := (.ref c.C, cond c.two (some 2) none, suE c)
/-- the exception that reaches the clauses -/
def WEc {g : Gm} (x : XS g) (Q : VK) : XK := fun cls dd H => ∃ c ∈ x.l, cls = .ref c.C ∧ clE c Q dd H
theorem wMix_of {K : PySem.W.Frag} {n : Nat} {c : Cl} {D : Ends} {dd : Option Addr} {σ : L2.St} {H : Hp} (h : clE c D.rt dd H) (hn : 2 < n) : ∀ l : List Cl, c ∈ l → (l.map (·.C)).Nodup → (∀ c' ∈ l, PySem.W.exmOne K (.ref c.C) (.ref c'.C) = some (decide (c.C = c'.C))) →
    wMix K n (fun _ _ _ _ => False) D (l.map clL) (.ref c.C) dd σ H
  | [], hm, _, _ => absurd hm (by simp)
  | c' :: l, hm, nd, ex => by
    refine ⟨decide (c.C = c'.C), ex c' List.mem_cons_self, fun e a na hl => ?_, fun e => ?_⟩
    · have hσ : 2 < σ.length := by rw [hl]; exact hn
      have e' : c.C = c'.C := of_decide_eq_true e
      have ec : c = c' := by
        rcases List.mem_cons.mp hm with z | z
        · exact z
        · exfalso
          rw [List.map_cons] at nd
          exact (List.nodup_cons.mp nd).1 (by rw [← e']; exact List.mem_map_of_mem z)
      subst ec
      unfold clE at h
      show hitX (suE c) D (cond c.two (some 2) none) a (.ref c.C) dd σ H
      unfold suE
      cases ht : c.two with
      | true =>
        rw [ht] at h
        obtain ⟨d, v1, v2, e1, e2, e3⟩ := h
        have l1 : List.lookup ("index" : Str) [(("index" : Str), v1), (("what" : Str), v2)] = some v1 := by simp [List.lookup]
        have l2 : List.lookup ("what" : Str) [(("index" : Str), v1), (("what" : Str), v2)] = some v2 := by
          have : (("what" : Str) == ("index" : Str)) = false := by decide
          simp [List.lookup, this]
        have sg : (σ.set 2 (some (V.ref a)))[2]? = some (some (V.ref a)) := List.getElem?_set_self hσ
        exact ⟨.ref a, sg, rfl, rfl, d, _, v1, e1, e2, l1, .ref a, sg, rfl, rfl, d, _, v2, e1, e2, l2, by show 3 ≤ sizeLine; decide, e3⟩
      | false =>
        rw [ht] at h
        exact ⟨by show 1 ≤ sizeLine; decide, h⟩
    · have e' : c.C ≠ c'.C := of_decide_eq_false e
      rcases List.mem_cons.mp hm with z | z
      · exact absurd (congrArg Cl.C z) e'
      · rw [List.map_cons] at nd
        exact wMix_of h hn l z (List.nodup_cons.mp nd).2 fun c'' hc => ex c'' (List.mem_cons_of_mem _ hc)
def TTc {g : Gm} (x : XS g) : (XK → Hp → VK → Prop) → Hp → VK → Prop := fun tl H Q => tl (WEc x Q) H fun v H1 => ∃ u, (some (some v) : Option (Option V)) = some (some u) ∧ (2 ≤ sizeLine ∧ ∀ p, H1 p = none → Q (.ref p) (upd H1 p (.tup [.str "let", u])))
abbrev Nc : List Str := ["_law_work", "_law_found", "e"]
theorem su_ok {X : Cx} {c : Cl} {a : Addr} {oe : Obj} {cls : Value} {d : Option Addr} {pn : List (Addr × Obj)} {j : Nat} {p1 p2 p3 p4 p5 p6 p7 : Pos} {kk : Nat} (hK : c.two = true) (T : XfC X.K c.C) (n1 : PySem.W.findIn X.K (.ref c.C) "index" = some none) (n2 : PySem.W.findIn X.K (.ref c.C) "what" = some none)
    (hN : X.N = Nc) (hv : Vis X.env.scope "e") (hz : Zc cls d oe) (hf : ∃ vs, oe.data = .fields vs) (s3 : starEach [.Attribute (.Name "e" p2) "index" p3, .Attribute (.Name "e" p4) "what" p5] X.env = (false, eval (.Attribute (.Name "e" p2) "index" p3) X.env) :: starEach [.Attribute (.Name "e" p4) "what" p5] X.env) :
    PSs (X.suite a ((a, oe) :: pn)) [.Return (some (.Tuple [.Constant (.str c.nm) j p1, .Attribute (.Name "e" p2) "index" p3, .Attribute (.Name "e" p4) "what" p5] kk p6)) p7] (suE c a cls d) := by
  have ve : ∀ {p : Pos}, PE (X.suite a ((a, oe) :: pn)) (.Name "e" p) (tVar 2) := fun {p} => pe_var (X := X.suite a ((a, oe) :: pn)) (i := 2) (by show X.N[2]? = _; rw [hN]; rfl) hv (by decide) (by decide)
  have e : suE c a cls d = tRet (tTup (tCons (tC (.str c.nm)) (tCons (tXf a cls d c.C "index" (tVar 2)) (tCons (tXf a cls d c.C "what" (tVar 2)) tNil)))) := by
    unfold suE
    rw [hK]
  rw [e]
  exact pss_one (ps_ret (pe_tup (pa_cons pe_str (pa_cons (pe_xf T n1 hz hf ve) (pa_cons (pe_xf T n2 hz hf ve) pa_nil)))))
theorem su_ok0 {X : Cx} {c : Cl} {a : Addr} {oe : Obj} {cls : Value} {d : Option Addr} {pn : List (Addr × Obj)} {j : Nat} {p1 p6 p7 : Pos} {kk : Nat} (hK : c.two = false) : PSs (X.suite a ((a, oe) :: pn)) [.Return (some (.Tuple [.Constant (.str c.nm) j p1] kk p6)) p7] (suE c a cls d) := by
  have e : suE c a cls d = tRet (tTup (tCons (tC (.str c.nm)) tNil)) := by
    unfold suE
    rw [hK]
  rw [e]
  exact pss_one (ps_ret (pe_tup (pa_cons pe_str pa_nil)))
theorem caught_gives {g : Gm} {x : XS g} (T : XSok g x) {X : Cx} (hK : X.K = g.K) (hm : X.mg = g.mg) {f : Addr} {cdg : Value} {q : Str} :
    LamX.GivesTo X Nc "_law_caught" (defScope s__law_caught) f cdg (defBody s__law_caught) "_law_work" q (TTc x) := by
  intro fl c' s H0 Q tl act hc h
  have nm : ∀ {y : Str} {C : Addr}, g.mg y = some (.ref C) → (defScope s__law_caught).names.lookup y = some .globalImplicit → (y == ("__debug__" : Str)) = false → Names (cxOf C8.CX0 X.prog X.w X.K X.mg X.base Nc "_law_caught" (defScope s__law_caught) f cdg X.A X.stack s H0 C8.E0).nox y (.ref C) := fun h1 h2 h3 => ⟨h2, h3, .inl (by show X.mg _ = _; rw [hm]; exact h1)⟩
  have i2 : ∀ {y : Str} {C : Addr}, Bad2 g y C → PySem.W.findIn X.K (.ref C) "index" = some none ∧ PySem.W.findIn X.K (.ref C) "what" = some none := fun b => by
    obtain ⟨fI, _, n1, n2, _⟩ := b.ex
    rw [hK]
    exact ⟨n1, n2⟩
  have xf : ∀ c ∈ x.l, c.two = true → XfC X.K c.C := by rw [hK]; exact T.xf
  refine ⟨_, pss_cons (ps_try_mix (X := (cxOf C8.CX0 X.prog X.w X.K X.mg X.base Nc "_law_caught" (defScope s__law_caught) f cdg X.A X.stack s H0 C8.E0).nox) (l := x.l.map clL) (Wout := fun _ _ _ _ => False)
      (tb := fun W D σ H => ∃ Ech : XK, (∀ cls d σ' H', Ech cls d H' → W cls d σ' H') ∧ σ[0]? = some (some (.ref fl)) ∧ H c' = some (LamX.CodeO c' q) ∧ tl Ech H (fun v H1 => D.nx (σ.set 1 (some v)) H1))
      rfl rfl (show Nc.Nodup by decide) LamX.takes0 (fun W pn xe tk _ => ?_) ?_) (pss_one (ps_ret (pe_tup (pa_cons pe_str (pa_cons (pe_var (i := 1) rfl (.inl (show (defScope s__law_caught).names.lookup ("_law_found" : Str) = some NameKind.local by decide +kernel)) (by decide) (by decide)) pa_nil))))), ?_⟩
  · refine ⟨fun pins s' σ H' D I h' => ?_⟩
    obtain ⟨Ech, hW, h1, h2, h3⟩ := h'
    have ll : (defScope s__law_caught).names.lookup ("_law_found" : Str) = some NameKind.local := by decide +kernel
    have hq := fun (pa pb p1 p2 : Pos) (hsw : swapsWith (.Call (.Name "_law_work" p1) [] [] p2) (some (.Name "_law_found" pa)) pb.line ((cxOf C8.CX0 X.prog X.w X.K X.mg X.base Nc "_law_caught" (defScope s__law_caught) f cdg X.A X.stack s H0 C8.E0).tr pn xe).env = pure false) => pss_one (ps_set (X := (cxOf C8.CX0 X.prog X.w X.K X.mg X.base Nc "_law_caught" (defScope s__law_caught) f cdg X.A X.stack s H0 C8.E0).tr pn xe) (i := 1) (x := "_law_found") (pos' := pa) (pos := pb) (show Nc.Nodup by decide) rfl (.inl ll) (act W pn xe Ech p1 p2 tk hW) hsw (.inr ll))
    exact (hq _ _ _ _ rfl).run pins s' σ H' D I ⟨h1, h2, h3⟩
  · have ve : Vis (defScope s__law_caught) "e" := .inl (by decide +kernel)
    refine .named (i := 2) (n := "e") (nm T.bw.gC (by decide +kernel) (by decide)) rfl (show (defScope s__law_caught).names.lookup ("e" : Str) = some NameKind.local by decide +kernel) (fun a oe cls d pn hz hf => su_ok (c := ⟨"BadWord", x.w, true⟩) rfl (xf _ (by simp) rfl) (i2 T.bw).1 (i2 T.bw).2 rfl ve hz hf rfl) ?_
    refine .bare (nm T.bp.gC (by decide +kernel) (by decide)) (fun a oe cls d pn hz hf => su_ok0 (c := ⟨"BadPoles", x.p, false⟩) rfl) ?_
    refine .bare (nm T.ba.gC (by decide +kernel) (by decide)) (fun a oe cls d pn hz hf => su_ok0 (c := ⟨"BadAmount", x.a, false⟩) rfl) ?_
    refine .bare (nm T.bm.gC (by decide +kernel) (by decide)) (fun a oe cls d pn hz hf => su_ok0 (c := ⟨"BadMost", x.m, false⟩) rfl) ?_
    refine .named (i := 2) (n := "e") (nm T.bt.gC (by decide +kernel) (by decide)) rfl (show (defScope s__law_caught).names.lookup ("e" : Str) = some NameKind.local by decide +kernel) (fun a oe cls d pn hz hf => su_ok (c := ⟨"BadTests", x.t, true⟩) rfl (xf _ (by simp) rfl) (i2 T.bt).1 (i2 T.bt).2 rfl ve hz hf rfl) ?_
    refine .named (i := 2) (n := "e") (nm T.br.gC (by decide +kernel) (by decide)) rfl (show (defScope s__law_caught).names.lookup ("e" : Str) = some NameKind.local by decide +kernel) (fun a oe cls d pn hz hf => su_ok (c := ⟨"BadReadings", x.r, true⟩) rfl (xf _ (by simp) rfl) (i2 T.br).1 (i2 T.br).2 rfl ve hz hf rfl) ?_
    exact .bare (nm T.bn.gC (by decide +kernel) (by decide)) (fun a oe cls d pn hz hf => su_ok0 (c := ⟨"NoLots", x.n, false⟩) rfl) .nil
  · refine ⟨WEc x Q, fun cls d σ' H' hw => ?_, rfl, hc, ?_⟩
    · obtain ⟨c, hm', rfl, he⟩ := hw
      rw [hK]
      exact wMix_of he (show 2 < 3 by decide) x.l hm' T.nd (fun c' h' => T.ex c hm' c' h')
    · exact h
end Hw
set_option Elab.async false
set_option linter.all false
set_option maxRecDepth 100000
set_option maxHeartbeats 4000000
/-! isinstance of a caught exception that bears fields; _law_base. -/
namespace Hw
open PySem PySem.Spec PyProof.Rows L2
section
open PySem.W PySem.Calls
variable {prog : Program} {w : World} {A : Around} {E : Value → Shared → Prop} {s : Shared} {K : Frag} {x D : Addr} {ox : Obj} {od : Option Obj}
theorem find_data {C : Addr} {name : Str} {a g : Value} (hc : (clsIn K C).isSome = true) (ha : findIn K (.ref C) name = some (some a)) (hg : specialIn K a "__get__" = some (some g)) (ht : takesIn K a = some true) : findObj K C od name = some (.bind g a) := by
  obtain ⟨cd, hc⟩ := Option.isSome_iff_exists.mp hc
  unfold findObj
  simp only [hc, ha, hg, ht, Option.bind_some]
/-- x.__class__ of an exception with a dict -/
theorem cls_of_exc {Q : Option Value → Shared → Prop} (C : ExcC K D) (X : K.In s.heap) (I : InstAt s.heap x ox D od) (h : Q (some (.ref D)) { s with toks := s.toks + 1 }) : wpAny (model prog w) A (getAttr? (.ref x) "__class__") Q E s := by
  have hf : findObj K D od "__class__" = some (.bind (.builtin "getset_descriptor.__get__") (.builtin "object.__class__")) := find_data (by obtain ⟨cd, hc, _⟩ := any_some C.hd; rw [hc]; rfl) C.ha C.hn C.ht
  obtain ⟨hp, g, d, t, os⟩ := s
  have T0 := I.type (M := model prog w)
  have T1 := looks_findIn (M := model prog w) X C.hg
  have T2 := looks_findIn (M := model prog w) X C.hk
  have T3 := looks_find (M := model prog w) X I hf
  have sub : Looks (model prog w) hp (isInstance (.ref x) (.type "BaseException")) true := T0.andThen (looks_subIn X C.hs)
  have b0 : (false && onTheHeap (Value.builtin "BaseException.__getattribute__")) = false := rfl
  have b2 : (Value.builtin "BaseException.__getattribute__" == Value.builtin "object.__getattribute__") = false := by decide +kernel
  have b1 : (onTheHeap (Value.ref D) && Value.builtin "BaseException.__getattribute__" == Value.builtin "object.__getattribute__") = false := by rw [b2]; rfl
  unfold getAttr? getAttrBy? getAttrBy
  refine wpAny_bind (wpAny_mkText (wpAny_bind (wpAny_attempt (wpAny_holding (wpAny_bind (T0.at (wpAny_bind (T1.at ?_))))))))
  show wpAny _ _ (if (onTheHeap (Value.ref D) && Value.builtin "BaseException.__getattribute__" == Value.builtin "object.__getattribute__") = true then _ else _) _ _ _
  rw [b1, if_neg Bool.false_ne_true]
  unfold getAttrByItsOwn hookBefore
  refine wpAny_bind ?_
  rw [if_pos (show onTheHeap (Value.ref D) = true from rfl)]
  refine T2.at (wpAny_bind (wpAny_attempt (wpAny_holding ?_)))
  unfold callGetattribute
  rw [b0, if_neg Bool.false_ne_true]
  unfold boundAndCalled
  rw [PySem.F.excAttr_ValueError.ga.bind (.ref x)]
  refine wpAny_bind (wpAny_pure ?_)
  show wpAny _ _ (call (.builtin "BaseException.__getattribute__") [.ref x, .str "__class__" t]) _ _ _
  refine wpAny_call (codeAny_call_builtin PySem.F.excAttr_ValueError.ga.plain PySem.F.entry_bexc_ga ?_)
  refine @check_slot (model prog w) _ _ ⟨hp, g, d, t + 1, os⟩ "BaseException.__getattribute__" "BaseException" "__getattribute__" (.ref x) [.str "__class__" t] [] _ (by decide +kernel) (by decide +kernel) sub (PySem.F.args_bexc_ga (.ref x) (.str "__class__" t)) ?_
  unfold Builtin.«object.__getattribute__»
  refine wpAny_bind (wpAny_of_eq (a := ((Value.ref x : Value), [Value.str "__class__" t])) (by first | rfl | (simp only [slotArgs]; rfl)) ?_)
  refine wpAny_bind (wpAny_pure (wpAny_bind (T0.at (wpAny_bind (T3.at ?_)))))
  show wpAny _ _ (holding [Value.builtin "object.__class__"] (call (.builtin "getset_descriptor.__get__") [.builtin "object.__class__", .ref x, .ref D]) >>= ret) _ _ _
  refine wpAny_bind (wpAny_holding (wpAny_call (class_get (s := ⟨hp, g, d, t + 1, os⟩) (ox := ox) (od := od) X I C.hm ?_)))
  refine wpAny_pure ?_
  show wpAny _ _ (handedOut (.ref D)) _ _ _
  rw [handedOut_of (v := .ref D) rfl]
  first
    | exact wpAny_pure (wpAny_pure h)
    | exact wpAny_pure h
    | exact wpAny_pure (wpAny_bind (wpAny_pure (wpAny_pure h)))
theorem kitx_exc (C : ExcC K D) : KitX K (.ref x) (.ref D) (fun h => ∃ od, InstAt h x ox D od) where
  ty := fun _ _ _ ⟨_, I⟩ => I.type
  it := fun _ _ X _ => by
    obtain ⟨cdD, hcD, _⟩ := any_some C.hd
    unfold clsIn at hcD
    split at hcD
    · rename_i c' d' cd' sl' ho
      intro A1 Q1 E1 s1 k q
      unfold isType loadHead
      exact wpAny_bind (wpAny_loadPart (k _ _ (X _ _ ho)) (wpAny_pure q))
    · cases hcD
  ne := (handS_kitx_exc (x := x) (ox := ox) C.hg C.hk C.hs C.hd C.ha C.hn C.ht C.hm).ne
  ca := fun X ⟨_, I⟩ k => cls_of_exc C X I k
end
/-- isinstance(e, c), e the exception that the suite holds, its dict at dd -/
def rIsD (K : PySem.W.Frag) (D a dd : Addr) : List V → Hp → VK → Prop := fun xs H Q => ∃ (c : V) (cv : Value) (b : Bool) (fs : List (Str × V)), xs = [.ref a, c] ∧ (∀ u, RelV c u → u = cv) ∧ PySem.W.kitOne K (.ref D) cv = some b ∧ H dd = some (.xd fs) ∧ Q (.bl b) H
theorem call_isD {X : Cx} {a D dd : Addr} {oe : Obj} {pn : List (Addr × Obj)} (C : ExcC X.K D) (hz : Zc (.ref D) (some dd) oe) (hf : ∃ vs, oe.data = .fields vs) : CallR (X.suite a ((a, oe) :: pn)) (.builtin "isinstance") (rIsD X.K D a dd) := by
  intro pins s σ H xs us Q I r h
  obtain ⟨c, cv, b, fs, rfl, hcv, e, hd, q⟩ := h
  cases r with
  | cons rx rr =>
    cases rr with
    | cons rt rr =>
      cases rr
      cases rx
      have ec := hcv _ rt
      subst ec
      obtain ⟨hget, _⟩ := I.pin (a, oe) (List.mem_append.mpr (.inl List.mem_cons_self))
      obtain ⟨vs, hv⟩ := hf
      have hx : ObjOk X.prog X.w H s.heap dd (.xd fs) := I.hok dd _ hd
      obtain ⟨mA, hns, _⟩ := hx
      obtain ⟨od, ho, _⟩ := lookIn_ns hns
      have J : ∃ od, PySem.W.InstAt s.heap a oe D od := ⟨some od, hget, hz.1, by unfold PySem.W.notCls; rw [hv] <;> rfl, by rw [hz.2]; exact ho⟩
      exact PySem.W.kia_one (kitx_exc C) I.kIn J e (fun z => nomatch z) fun tk => ⟨.bl b, H, I.kept (t' := tk) fun _ _ z => z, rfl, q⟩
/-- _law_base: an exception of the class at C, with a dict -/
def TTb (C : Addr) : (XK → Hp → VK → Prop) → Hp → VK → Prop := fun tl H Q => tl (fun cls dd H' => cls = .ref C ∧ ∃ d fs, dd = some d ∧ H' d = some (.xd fs) ∧ Q (.bl true) H') H fun _ H1 => Q (.bl false) H1
abbrev Nb : List Str := ["_law_work", "e"]
theorem base_gives {g : Gm} {C CW : Addr} (L : Li g) (T : ExcC g.K C) (hw : g.mg "WireError" = some (.ref CW)) (hx : PySem.W.exmOne g.K (.ref C) (.ref CW) = some true) (hk : PySem.W.kitOne g.K (.ref C) (.type "ValueError") = some true) {X : Cx} (hK : X.K = g.K) (hm : X.mg = g.mg) {f : Addr} {cdg : Value} {q : Str} :
    LamX.GivesTo X Nb "_law_base" (defScope s__law_base) f cdg (defBody s__law_base) "_law_work" q (TTb C) := by
  intro fl c' s H0 Q tl act hc h
  let Z : Cx := (cxOf C8.CX0 X.prog X.w X.K X.mg X.base Nb "_law_base" (defScope s__law_base) f cdg X.A X.stack s H0 C8.E0).nox
  have le : (defScope s__law_base).names.lookup ("e" : Str) = some NameKind.local := by decide +kernel
  have gw : Names Z "WireError" (.ref CW) := ⟨show (defScope s__law_base).names.lookup ("WireError" : Str) = some NameKind.globalImplicit by decide +kernel, by decide, .inl (by show X.mg _ = _; rw [hm]; exact hw)⟩
  have gi : (defScope s__law_base).names.lookup ("isinstance" : Str) = some NameKind.globalImplicit := by decide +kernel
  have gv : (defScope s__law_base).names.lookup ("ValueError" : Str) = some NameKind.globalImplicit := by decide +kernel
  refine ⟨_, pss_cons (ps_try_mix (X := Z) (l := [(.ref CW, some 1, fun a cls d D σ H => cls = .ref C ∧ ∃ dd, d = some dd ∧ tRet (tCB (rIsD X.K C a dd) (tCons (tVar 1) (tCons (tC (.ty "ValueError")) tNil))) D σ H)]) (Wout := fun _ _ _ _ => False)
      (tb := fun W D σ H => ∃ Ech : XK, (∀ cls d σ' H', Ech cls d H' → W cls d σ' H') ∧ σ[0]? = some (some (.ref fl)) ∧ H c' = some (LamX.CodeO c' q) ∧ tl Ech H (fun _ H1 => D.nx σ H1))
      rfl rfl (show Nb.Nodup by decide) LamX.takes0 (fun W pn xe tk _ => ?_) (.named (i := 1) (n := "e") gw rfl le (fun a oe cls d pn hz hf => ?_) .nil)) (pss_one (ps_ret pe_bl)), ?_⟩
  · refine ⟨fun pins s' σ H' D I h' => ?_⟩
    obtain ⟨Ech, hW, h1, h2, h3⟩ := h'
    have hq := fun (pb p1 p2 : Pos) (hsw : swapsWith (.Call (.Name "_law_work" p1) [] [] p2) none pb.line (Z.tr pn xe).env = pure false) => pss_one (ps_expr (X := Z.tr pn xe) (pos := pb) (act W pn xe Ech p1 p2 tk hW) hsw)
    exact (hq _ _ _ rfl).run pins s' σ H' D I ⟨h1, h2, h3⟩
  · refine ⟨fun pins s' σ H' D I h' => ?_⟩
    obtain ⟨e1, dd, e2, h'⟩ := h'
    subst e1 e2
    have T' : ExcC Z.K C := by show ExcC X.K C; rw [hK]; exact T
    have ve : ∀ {p : Pos}, PE (Z.suite a ((a, oe) :: pn)) (.Name "e" p) (tVar 1) := fun {p} => pe_var (X := Z.suite a ((a, oe) :: pn)) (i := 1) rfl (.inl le) (by decide) (by decide)
    have vv : ∀ {p : Pos}, PE (Z.suite a ((a, oe) :: pn)) (.Name "ValueError" p) (tC (.ty "ValueError")) := fun {p} => pe_bltn (X := Z.suite a ((a, oe) :: pn)) (u := .type "ValueError") gv (by show X.mg _ = _; rw [hm]; exact L.ve) (by decide +kernel) rfl
    exact (pss_one (ps_ret (pe_callB (X := Z.suite a ((a, oe) :: pn)) (call_isD T' hz hf) gi (by show X.mg _ = _; rw [hm]; exact L.isi) (by decide +kernel) (pa_cons ve (pa_cons vv pa_nil))))).run pins s' σ H' D I h'
  · refine ⟨_, fun cls d σ' H' hw => ?_, rfl, hc, h⟩
    obtain ⟨e1, dd, fs, e2, e3, e4⟩ := hw
    subst e1 e2
    refine ⟨true, by show PySem.W.exmOne X.K _ _ = _; rw [hK]; exact hx, fun _ a na hl => ?_, fun z => (by cases z)⟩
    have sg : (σ'.set 1 (some (V.ref a)))[1]? = some (some (V.ref a)) := List.getElem?_set_self (by rw [hl]; exact (by decide : 1 < 2))
    exact ⟨rfl, dd, rfl, _, sg, .ty "ValueError", .type "ValueError", true, fs, rfl, fun u r => r, by rw [hK]; exact hk, e3, e4⟩
end Hw
set_option Elab.async false
set_option linter.all false
set_option maxRecDepth 100000
set_option maxHeartbeats 2000000
/-! Lambdas handed to _law_caught, _law_base, by data. -/
namespace Hw
open PySem PySem.Spec PyProof.Rows L2

/-- the maker's code object and its table -/
def LamOk (g : Gm) (cd : Value) (ql : Str) : Prop := ∃ c P, cd = .ref c ∧ LamX.TabB g.base g.mg c P ∧ (P, ql ++ "<lambda>") ∈ g.T ∧ ∀ p ∈ g.T, p.1 = P → p.2 = ql ++ "<lambda>"
def Giv (g : Gm) (x : Str) (st : Stmt) (Ng : List Str) (TT : (XK → Hp → VK → Prop) → Hp → VK → Prop) : Prop := ∀ (X : Cx), X.K = g.K → X.mg = g.mg → ∀ (f : Addr) (cdg : Value) (q : Str), LamX.GivesTo X Ng x (defScope st) f cdg (defBody st) "_law_work" q TT
section
variable {g : Gm} {N : List Str} {sc : Scope} {k : Nat} {W : Wm} {ρ : Rho} {ω : Om} {pos p lpos : Pos}
theorem En.ext {S M : List Addr} {σ : L2.St} {H H1 : Hp} (E : En g S ρ ω M σ H) (e : LamX.ExtN H H1) (t : LamX.Tabs g.T H1) : En g S ρ ω M σ H1 ∧ Stp g M H H1 ∧ Own g S M ω H1 := by
  have st : Stp g M H H1 := ⟨fun a o _ n q => e a o q n, fun _ => t, fun a ⟨o, q, n⟩ => ⟨o, e a o q n, n⟩⟩
  have ow : Own g S M ω H1 := E.ow.step fun a o q n => e a o q n
  exact ⟨E.step st ow, st, ow⟩
theorem ev_lam {x : Str} {st : Stmt} {Ng : List Str} {TT : (XK → Hp → VK → Prop) → Hp → VK → Prop} {params : Arguments} {body : Expr} {scope : Scope} {r : Res} {d : D} {cd : Value} {ql : Str} (hF : HasF g x st []) (G : Giv g x st Ng TT)
    (hL : W.lam = some (cd, ql)) (LO : LamOk g cd ql) (hbody : ∀ W' : Wm, W'.md = true → EvE g N scope k W' body ρ ω r ω)
    (hTT : ∀ (S M : List Addr) (H : Hp) (Q : VK) (tl : XK → Hp → VK → Prop), Lv (M ++ S) H → (∀ v H', Stp g M H H' → Own g S M ω H' → Dx g (M ++ S) H' v d → Q v H') → (∀ (Ech : XK) (Qv : VK), RK g ⟨fun c dd _ H => Ech c dd H, true, none⟩ S M ω [] H Qv r → tl Ech H Qv) → TT tl H Q)
    (Sg : FnScope Ng ["_law_work"] (defScope st)) (h0 : Ng[0]? = some ("_law_work" : Str)) (hv0 : Vis (defScope st) "_law_work")
    (hb : ∀ (kV doc pm : Value) (an : Option Addr) (cdv ct : Value) (us : List Value), us.length = (["_law_work"] : List Str).length → bindArgs (PySem.W.fnOf x x (defArgs st) (defBody st) (defScope st) .none kV doc pm an cdv ct) ⟨us, []⟩ = pure ((["_law_work"] : List Str).zip us))
    (hbind : ∀ (q : Str) (cl : List (Str × Addr)) (pm cv ctv : Value), bindArgs (PySem.W.kla_fn "<lambda>" q params body scope cl pm cv ctv) ⟨[], []⟩ = pure []) (hdef : ∀ env : Env, defaultsOf params env = ([], []))
    (hls : LamX.lamSB sc scope = true) (hg : glB sc x = true := by decide +kernel) (hdb : (x == ("__debug__" : Str)) = false := by decide) :
    EvE g N sc (k + 2) W (.Call (.Name x p) [.Lambda params body scope lpos] [] pos) ρ ω (.val d) ω := fun X B S M σ H E Q q => by
  obtain ⟨f, fd, F, m⟩ := hF
  obtain ⟨oc, od, dV, kV, doc, pm, an, cdv, ct, osl, rfl, lk, hcd, _, _⟩ := id F.ex
  obtain ⟨c, P, ec, TB, inT, uq⟩ := LO
  obtain ⟨e1, e2⟩ := B.cq _ _ hL
  subst ec
  have bb := FunD.bindsN (ps := ["_law_work"]) F hb
  rw [← B.K] at lk hcd bb
  rw [← B.base, ← B.mg] at TB
  rw [← e2] at inT uq
  have hdV : dV = .none := by
    obtain ⟨oc, od, dV', kV', doc', pm', an', cdv', ct', osl', ef, lk', _, hD, _⟩ := F.ex
    have := congrArg FuncData.defaults ef
    rcases hD with ⟨_, z⟩ | ⟨z, _⟩
    · exact this.trans z
    · exact absurd rfl z
  refine s_of (LamX.pe_lamcall (T := g.T) (TT := TT) (t := fun E σ H Q => ∀ (A : Around) (outer : List Env) (s : Shared) (H0 : Hp) (f c' : Addr), Room k (A.deeper (LamX.lamEnv X scope s.heap.objs.size f c')) → sE (LamX.lamCx X A outer s H0 E scope f c') body σ H Q)
    (gl_of B hg) (by rw [B.mg]; exact m) (by rw [B.K]; exact F.kp) lk hcd bb Sg h0 hv0 (G X B.K B.mg f cdv _) TB e1 inT uq B.room (LamX.lamS_by (by rw [B.hS]; exact hls)) (hdef _) hbind (fun A outer s H0 E f c' hr => ⟨fun pins s' σ' H' Q' I h => (pe_s _ _).run pins s' σ' H' Q' I (h A outer s H0 f c' hr)⟩) hdb (by decide) (by decide)) ?_
  refine ⟨E.tabs, fun H1 eN T1 => ?_⟩
  obtain ⟨E1, s1, o1⟩ := E.ext eN T1
  refine hTT S M H1 Q _ E1.live' (fun v H' s2 o2 x2 => q v H' (s1.trans s2) o2 x2) fun Ech Qv rk => ?_
  intro A outer s H0 f' c' hr
  refine hbody ⟨fun c dd _ H => Ech c dd H, true, none⟩ rfl (LamX.lamCx X A outer s H0 Ech scope f' c') ⟨⟨B.prog, B.w, B.K, B.mg, B.base, rfl, hr⟩, B.hN, rfl, B.nd, Tk.of (takes_of rfl rfl rfl rfl), fun _ _ z => nomatch z⟩ S M σ H1 E1 Qv ?_
  cases r with
  | val d => exact rk
  | exc y => exact rk
/-- what _law_caught tells -/
inductive Caught {g : Gm} (x : XS g) : Res → D → Prop
  | let_ (d : D) : Caught x (.val d) (.tup [.str "let", d])
  | two (c : Cl) (d1 d2 : D) : c ∈ x.l → c.two = true → Caught x (.exc ⟨c.C, some [("index", d1), ("what", d2)]⟩) (.tup [.str c.nm, d1, d2])
  | bare (c : Cl) : c ∈ x.l → c.two = false → Caught x (.exc ⟨c.C, none⟩) (.tup [.str c.nm])
theorem two_eq {fvs : List (Str × V)} {a b : Str} (h : fvs.map (·.1) = [a, b]) : ∃ v1 v2, fvs = [(a, v1), (b, v2)] := by
  match fvs, h with
  | [(x, v1), (y, v2)], h =>
    simp only [List.map_cons, List.map_nil, List.cons.injEq, and_true] at h
    obtain ⟨h1, h2⟩ := h
    subst h1 h2
    exact ⟨v1, v2, rfl⟩
theorem tt_caught {x : XS g} {r : Res} {d : D} (hc : Caught x r d) (S M : List Addr) (H : Hp) (Q : VK) (tl : XK → Hp → VK → Prop) (lv : Lv (M ++ S) H) (hq : ∀ v H', Stp g M H H' → Own g S M ω H' → Dx g (M ++ S) H' v d → Q v H')
    (ht : ∀ (Ech : XK) (Qv : VK), RK g ⟨fun c dd _ H => Ech c dd H, true, none⟩ S M ω [] H Qv r → tl Ech H Qv) : TTc x tl H Q := by
  have fin : ∀ {H' : Hp} {p : Addr} {vs : List V} {ds : List D}, Stp g M H H' → Own g S M ω H' → H' p = none → d = .tup ds → DxL g (M ++ S) H' vs ds → Lv (M ++ S) H' → Q (.ref p) (upd H' p (.tup vs)) := fun {H' p vs ds} s o hp e x l => by
    subst e
    exact hq _ _ (s.trans (.new hp)) (o.new hp) (.tup (.inl ⟨l.out hp, .inl upd_same⟩) (DxL.mono ((All.new hp).kp _) x))
  have lvs : ∀ {H' : Hp}, Stp g M H H' → Own g S M ω H' → Lv (M ++ S) H' := fun s o a ha => s.there a (lv a ha)
  refine ht _ _ ?_
  cases hc with
  | let_ d => exact fun v H' s o x => ⟨v, rfl, by show 2 ≤ sizeLine; decide, fun p hp => fin s o hp rfl (.cons (.str _) (.cons x .nil)) (lvs s o)⟩
  | two c d1 d2 hm h2 =>
    intro dd H' s o x
    obtain ⟨a, fvs, e1, e2, na, e3, e4⟩ := x
    obtain ⟨v1, v2, rfl⟩ := two_eq e3
    refine ⟨c, hm, rfl, ?_⟩
    unfold clE
    rw [h2]
    cases e4 with
    | cons y1 r1 =>
      cases r1 with
      | cons y2 r2 => exact ⟨a, v1, v2, e1, e2, fun p hp => fin s o hp rfl (.cons (.str _) (.cons y1 (.cons y2 .nil))) (lvs s o)⟩
  | bare c hm h2 =>
    intro dd H' s o x
    refine ⟨c, hm, rfl, ?_⟩
    unfold clE
    rw [h2]
    exact fun p hp => fin s o hp rfl (.cons (.str _) .nil) (lvs s o)
theorem tt_base {C : Addr} {r : Res} {b : Bool} (hc : (∃ fs, r = .exc ⟨C, some fs⟩ ∧ b = true) ∨ (∃ d, r = .val d ∧ b = false)) (S M : List Addr) (H : Hp) (Q : VK) (tl : XK → Hp → VK → Prop) (lv : Lv (M ++ S) H) (hq : ∀ v H', Stp g M H H' → Own g S M ω H' → Dx g (M ++ S) H' v (.bl b) → Q v H')
    (ht : ∀ (Ech : XK) (Qv : VK), RK g ⟨fun c dd _ H => Ech c dd H, true, none⟩ S M ω [] H Qv r → tl Ech H Qv) : TTb C tl H Q := by
  refine ht _ _ ?_
  rcases hc with ⟨fs, rfl, rfl⟩ | ⟨d, rfl, rfl⟩
  · intro dd H' s o x
    obtain ⟨a, fvs, e1, e2, na, e3, e4⟩ := x
    exact ⟨rfl, a, fvs, e1, e2, hq _ _ s o (.bl true)⟩
  · exact fun v H' s o x => hq _ _ s o (.bl false)
end
end Hw
set_option Elab.async false
set_option linter.all false
set_option maxRecDepth 100000
set_option maxHeartbeats 4000000
/-! enumerate of a tuple, zip of a tuple and a list. -/
namespace Hw
open PySem PySem.Spec PyProof.Rows L2

theorem enum_new_tuple (l : Addr) (items : Array Value) :
    Meets (Builtin.«enumerate.__new__» ⟨[.type "enumerate", .ref l], []⟩) (fun _ R s => s.heap.IsTuple l items ∧
      R (.ok (.ret (.ref (s.heap.push { cls := .type "tuple_iterator", data := .fields #[.ref l, .int 0 0] }).objs.size)))
        { s with heap := (s.heap.push { cls := .type "tuple_iterator", data := .fields #[.ref l, .int 0 0] }).push { cls := .type "enumerate", data := .fields #[.none, .bool false, .ref s.heap.objs.size, rawInt 0, .none, .none] } }) :=
  .of_wp fun prog w A R s h => by
    obtain ⟨hp, g, d, tk, os⟩ := s; obtain ⟨hl, h⟩ := h
    have hsub := sub_enumerate
    obtain ⟨ol, hol, hcl, nl, hdl⟩ := id hl
    have hT : Heap.IsTuple (Shared.heap ⟨hp, g, d, tk, os⟩) l items := hl
    wp_walk using AutoSeq1.wpAny_loadPart' hol
    refine wpAny_stack_any fun st => wpAny_pure ?_
    split
    · rename_i c _ _ _ _ _
      cases (c == Value.type "enumerate")
      · wp_walk using AutoSeq1.wpAny_loadPart' hol, wpAny_pyIter_tuple hT
        exact ⟨_, rfl, h⟩
      · wp_walk using AutoSeq1.wpAny_loadPart' hol, wpAny_pyIter_tuple hT
        exact ⟨_, rfl, h⟩
    · wp_walk using AutoSeq1.wpAny_loadPart' hol, wpAny_pyIter_tuple hT
      exact ⟨_, rfl, h⟩
theorem enum_call_tuple {prog : Program} {w : World} {A : Around} {E : Value → Shared → Prop} {s : Shared} {l : Addr} {items : Array Value} {Q : Value → Shared → Prop} (hL : s.heap.IsTuple l items)
    (h : ∀ h', IsEnum h' (s.heap.objs.size + 1) s.heap.objs.size 0 .none → h'.IsTupleIter s.heap.objs.size l 0 → h'.objs.size = s.heap.objs.size + 2 →
      (∀ b o, s.heap.get? b = some o → h'.get? b = some o) → Q (.ref (s.heap.objs.size + 1)) { s with heap := h' }) :
    wpAny (model prog w) A (call (.type "enumerate") [.ref l]) Q E s := by
  refine callType_new F.called_enumerate (by decide) (F.typeCall_enumerate_1 _) (F.newCall_enumerate_1 _) (fun obj => F.args_object_init_2 obj _) F.entry_enumerate_new (enum_new_tuple l items) ⟨hL, ?_⟩
  have hz : (s.heap.push { cls := .type "tuple_iterator", data := .fields #[.ref l, .int 0 0] }).objs.size = s.heap.objs.size + 1 := Heap.size_push ..
  show _ ∧ _
  rw [hz]
  have he : IsEnum ((s.heap.push { cls := .type "tuple_iterator", data := .fields #[.ref l, .int 0 0] }).push
      { cls := .type "enumerate", data := .fields #[.none, .bool false, .ref s.heap.objs.size, rawInt 0, .none, .none] }) (s.heap.objs.size + 1) s.heap.objs.size 0 .none := by
    have q := Heap.get?_push_size (s.heap.push { cls := .type "tuple_iterator", data := .fields #[.ref l, .int 0 0] })
      (o := { cls := .type "enumerate", data := .fields #[.none, .bool false, .ref s.heap.objs.size, rawInt 0, .none, .none] }) rfl
    rw [hz] at q; exact q
  refine ⟨⟨_, he, rfl⟩, h _ he ⟨_, Heap.get?_push_of_some _ (Heap.get?_push_size _ rfl), rfl, rfl⟩ (by rw [Heap.size_push, hz]) fun b o x => Heap.get?_push_of_some _ (Heap.get?_push_of_some _ x)⟩
/-- the tuple at a, each item in a new pair with its place -/
def IteT (K : PySem.W.Frag) (a : Addr) : It :=
  ⟨fun i H => ∃ (xs : List V) (x : V), SqT K H a xs ∧ xs[i]? = some x, fun i H v H' => ∃ T x, v = .ref T ∧ H T = none ∧ H' = upd H T (.tup [.int (i : Nat), x]) ∧ ∀ xs, SqT K H a xs → xs[i]? = some x, fun i H => ∃ xs : List V, SqT K H a xs ∧ xs.length = i⟩
theorem turn_enumT {P : Program} {w : World} {K : PySem.W.Frag} {elts : List Expr} {kk : Nat} {tpos : Pos} {a e it : Addr} (hai : a ≠ it) (hea : e ≠ a) :
    Turn P w K (.Tuple elts kk tpos) (IteT K a) [e, it] e (fun i h => (∃ old, IsEnum h e it ((i : Nat) : Int) old) ∧ h.IsTupleIter it a i ∧ e ≠ it) where
  mem := by simp
  obj := fun i h st b hb => by
    obtain ⟨⟨old, he⟩, ⟨o, ho, hc, hd⟩, _⟩ := st
    have e' : b = e ∨ b = it := by simpa using hb
    rcases e' with z | z
    · rw [z]; exact ⟨_, he, fun v q => nomatch q⟩
    · rw [z]; exact ⟨o, ho, fun v q => by rw [hd] at q; cases q⟩
  keep := fun i h h' st k => let ⟨⟨old, he⟩, hi, hne⟩ := st; ⟨⟨old, k e (by simp) _ he⟩, hi.at fun o q => k it (by simp) o q, hne⟩
  item := by
    intro X hP hw hK hc i pins s σ H E I hf st hg
    subst hP hw hK
    obtain ⟨⟨old, he⟩, hit, hne⟩ := st
    obtain ⟨xs, x, hq, hx⟩ := hg
    obtain ⟨its, rv, p, hz⟩ := I.tuple hq
    obtain ⟨u, hu, ru⟩ := rv.get hx
    have hu' : its.toArray[i]? = some u := by simpa using hu
    have hel : e < s.heap.objs.size := Heap.lt_size he
    have hil : it < s.heap.objs.size := by obtain ⟨_, q, _⟩ := hit; exact Heap.lt_size q
    have hlt : i < its.toArray.size := by
      have := (List.getElem?_eq_some_iff.mp hu).1
      simpa using this
    have D0 : Draws X.prog X.w X.A.in1 it [it, a] its.toArray.size (fun i v => its.toArray[i]? = some v) (fun i h => h.IsTupleIter it a i ∧ h.IsTuple a its.toArray) := Draws.tuple (A := X.A.in1) (show X.A.in1.handled = none from I.ok.hd hc) it a hai its.toArray
    refine wpAny_pyNext_enum_itemD D0 he ⟨hit, p⟩ hlt hne (by simp [hne, hea]) fun y h' tk hy ho hst' hT hsz hk => ?_
    have ey : y = u := by rw [hu'] at hy; exact (Option.some.inj hy).symm
    subst ey
    refine ⟨_, rfl, wpAny_letOwnedTupleGo_enum (s := { s with heap := h', toks := tk + 1 }) ho fun h'' he' sb => ?_⟩
    have hT2 : h''.get? s.heap.objs.size = some { cls := .type "tuple", data := .seq #[.int i tk, y] } := (sb.2 _ (Nat.ne_of_gt hel)).trans hT
    have new : ObjOk X.prog X.w (upd H s.heap.objs.size (.tup [.int (i : Nat), x])) h'' s.heap.objs.size (.tup [.int (i : Nat), x]) :=
      ⟨by show 2 ≤ sizeLine; decide, [.int i tk, y], .cons ⟨_, rfl⟩ (.cons ru .nil), ⟨_, hT2, rfl, _, rfl⟩⟩
    have I1 : Inv X pins σ (upd H s.heap.objs.size (.tup [.int (i : Nat), x])) { s with heap := h'', toks := tk + 1 } :=
      I.turnedNew (ch := [e, it]) (fun b ob hb q => (sb.2 b (fun z => hb (by simp [z]))).trans (hk b ob (fun z => hb (by simp [z])) (fun z => hb (by simp [z])) q)) hf (Nat.le_refl _) new
    refine ⟨.ref s.heap.objs.size, _, I1, rfl, ⟨_, x, rfl, I.hok.fresh (Nat.le_refl _), rfl, fun ys hy => by rw [I.tuple_inj hy hq]; exact hx⟩, ⟨⟨y, ?_⟩, hst'.1.at fun o q => (sb.2 it (Ne.symm hne)).trans q, hne⟩, fun b hb => ?_⟩
    · have e1 : ((i + 1 : Nat) : Int) = (i : Int) + 1 := by omega
      rw [e1]; exact he'
    · have hb' : b < s.heap.objs.size := by
        have e' : b = e ∨ b = it := by simpa using hb
        rcases e' with z | z
        · rw [z]; exact hel
        · rw [z]; exact hil
      rw [upd_ne (Nat.ne_of_lt hb')]
      exact (hf b hb).1
  done := by
    intro X hP hw hK hc i pins s σ H E I hf st hg
    subst hP hw hK
    obtain ⟨⟨old, he⟩, hit, hne⟩ := st
    obtain ⟨xs, hq, hx⟩ := hg
    obtain ⟨its, rv, p, hz⟩ := I.tuple hq
    obtain ⟨f0, f1, f2, f3, f4, f5⟩ := hf it (by simp)
    have hl := rv.length
    have D : Draws X.prog X.w X.A.in1 it [it, a] its.toArray.size (fun i v => its.toArray[i]? = some v) (fun i h => h.IsTupleIter it a i ∧ h.IsTuple a its.toArray) := Draws.tuple (A := X.A.in1) (show X.A.in1.handled = none from I.ok.hd hc) it a hai its.toArray
    have ei : i = its.toArray.size := by
      simp
      omega
    subst ei
    exact wpAny_pyNext_enum_endD D he ⟨hit, p⟩ fun h' eb => ⟨rfl, I.turned (t' := s.toks) (fun b o hb q => eb b o hb q) f0 f1 f3 f4 f5⟩
  self := fun A i s Q E st h => let ⟨⟨_, he⟩, _⟩ := st; wpAny_pyIter_enum he h
def iEnumT (K : PySem.W.Frag) (ta : TA) : TI := fun σ H R => ta σ H fun vs H1 => ∃ a xs, vs = [.ref a] ∧ SqT K H1 a xs ∧ R (IteT K a) H1
theorem pi_enumT {X : Cx} {e : Expr} {ta : TA} {p pos tpos : Pos} {elts : List Expr} {kk : Nat} (hg : Gl X "enumerate") (hm : X.mg "enumerate" = none) (ha : PA X [e] ta) (hs : starEach [e] X.env = [(false, eval e X.env)] := by rfl) :
    PI X (.Tuple elts kk tpos) (.Call (.Name "enumerate" p) [e] [] pos) (iEnumT X.K ta) := by
  refine ⟨fun pins s σ H R I h => ?_⟩
  refine Call_ (ld_blt I hg hm boot_enumerate (PyProof.Rows.callWith_type1 (thn (ha.run pos pins s σ H _ I h) fun us s1 ⟨vs, H1, I1, r1, q1⟩ => ?_) hs rfl))
  obtain ⟨a, xs, ex, hq, q⟩ := q1
  subst ex
  cases r1 with
  | cons r rr =>
    cases rr
    cases r
    obtain ⟨its, rv, p', hz⟩ := I1.tuple hq
    obtain ⟨oa, hoa, _⟩ := id p'
    have la := Heap.lt_size hoa
    refine enum_call_tuple p' fun h' he hit hsz hk => wpAny_pyIter_enum he ?_
    have I2 : Inv X pins σ H1 { s1 with heap := h' } := I1.kept (t' := s1.toks) hk
    refine ⟨s1.heap.objs.size + 1, [s1.heap.objs.size + 1, s1.heap.objs.size], _, _, H1, rfl, I2, turn_enumT (a := a) (e := s1.heap.objs.size + 1) (it := s1.heap.objs.size) (Nat.ne_of_lt la) (Nat.ne_of_gt (Nat.lt_succ_of_lt la)), ⟨⟨.none, he⟩, hit, Nat.succ_ne_self _⟩, fun b hb => ?_, q⟩
    have e' : b = s1.heap.objs.size + 1 ∨ b = s1.heap.objs.size := by simpa using hb
    have hle : s1.heap.objs.size ≤ b := by
      rcases e' with z | z
      · rw [z]; exact Nat.le_add_right _ _
      · rw [z]; exact Nat.le_refl _
    exact I1.fpOk hle (I1.hok.fresh hle)

/-! ### zip of a tuple and a list -/
def ItzM (K : PySem.W.Frag) (a b : Addr) : It :=
  ⟨fun i H => ∃ (xs ys : List V) (x y : V), SqT K H a xs ∧ SqL K H b ys ∧ xs[i]? = some x ∧ ys[i]? = some y,
    fun i H v H' => ∃ T x y, v = .ref T ∧ H T = none ∧ H' = upd H T (.tup [x, y]) ∧ (∀ xs, SqT K H a xs → xs[i]? = some x) ∧ ∀ ys, SqL K H b ys → ys[i]? = some y,
    fun i H => ∃ xs ys : List V, SqT K H a xs ∧ SqL K H b ys ∧ xs.length = i ∧ ys.length = i⟩
theorem sep_of {z TI TO i1 i2 a b : Addr} (D : ZipApart z TI TO i1 i2 a b) : ZipSep2 z TI TO i1 i2 [i1, a] [i2, b] where
  TIz := D.TIz
  TOz := D.TOz
  TITO := D.TITO
  TIi1 := D.TIi1
  mem1 := by simp
  zf1 := by simp [D.i1z.symm, D.l1z.symm]
  Tf1 := by simp [D.TOi1, D.l1TO.symm]
  TIi2 := D.TIi2
  mem2 := by simp
  zf2 := by simp [D.i2z.symm, D.l2z.symm]
  Tf2 := by simp [D.TOi2, D.l2TO.symm]
  sep1_2 := by simp [D.i12, D.l2i1.symm]
  sep2_1 := by simp [D.i12.symm, D.l1i2.symm]
theorem turn_zipM {P : Program} {w : World} {K : PySem.W.Frag} {elts : List Expr} {kk : Nat} {tpos : Pos} {a b z TI TO i1 i2 : Addr} (D : ZipApart z TI TO i1 i2 a b) :
    Turn P w K (.Tuple elts kk tpos) (ItzM K a b) [z, TI, TO, i1, i2] z (fun i h => IsZip h z TI TO .none ∧ IsPair h TI (.ref i1) (.ref i2) ∧ (∃ x y, IsPair h TO x y) ∧ h.IsTupleIter i1 a i ∧ h.IsListIter i2 b i) where
  mem := by simp
  obj := fun i h st c hc => by
    obtain ⟨hz, hTI, ⟨x, y, hTO⟩, ⟨o1, e1, _, d1⟩, ⟨o2, e2, _, d2⟩⟩ := st
    have e' : c = z ∨ c = TI ∨ c = TO ∨ c = i1 ∨ c = i2 := by simpa using hc
    rcases e' with q | q | q | q | q
    · rw [q]; exact ⟨_, hz, fun v q => nomatch q⟩
    · rw [q]; exact ⟨_, hTI, fun v q => nomatch q⟩
    · rw [q]; exact ⟨_, hTO, fun v q => nomatch q⟩
    · rw [q]; exact ⟨o1, e1, fun v q => by rw [d1] at q; cases q⟩
    · rw [q]; exact ⟨o2, e2, fun v q => by rw [d2] at q; cases q⟩
  keep := fun i h h' st k => by
    obtain ⟨hz, hTI, ⟨x, y, hTO⟩, h1, h2⟩ := st
    exact ⟨k z (by simp) _ hz, k TI (by simp) _ hTI, ⟨x, y, k TO (by simp) _ hTO⟩, h1.at fun o q => k i1 (by simp) o q, h2.at fun o q => k i2 (by simp) o q⟩
  item := by
    intro X hP hw hK hc i pins s σ H E I hf st hg
    subst hP hw hK
    obtain ⟨hz, hTI, ⟨x0, y0, hTO⟩, h1, h2⟩ := st
    obtain ⟨xs, ys, x, y, hqx, hqy, hx, hy⟩ := hg
    obtain ⟨its, rv, p, _⟩ := I.tuple hqx
    obtain ⟨its2, rv2, p2, _⟩ := I.list hqy
    obtain ⟨u, hu, ru⟩ := rv.get hx
    obtain ⟨u2, hu2, ru2⟩ := rv2.get hy
    have hu' : its.toArray[i]? = some u := by simpa using hu
    have hu2' : its2.toArray[i]? = some u2 := by simpa using hu2
    have lt1 : i < its.toArray.size := by simpa using (List.getElem?_eq_some_iff.mp hu).1
    have lt2 : i < its2.toArray.size := by simpa using (List.getElem?_eq_some_iff.mp hu2).1
    have hzl : z < s.heap.objs.size := Heap.lt_size hz
    have D1 : Draws X.prog X.w X.A.in1 i1 [i1, a] its.toArray.size (fun i v => its.toArray[i]? = some v) (fun i h => h.IsTupleIter i1 a i ∧ h.IsTuple a its.toArray) := Draws.tuple (A := X.A.in1) (show X.A.in1.handled = none from I.ok.hd hc) i1 a D.l1i1 its.toArray
    have D2 : Draws X.prog X.w X.A.in1 i2 [i2, b] its2.toArray.size (fun i v => its2.toArray[i]? = some v) (fun i h => h.IsListIter i2 b i ∧ h.IsList b its2.toArray) := Draws.list (A := X.A.in1) (show X.A.in1.handled = none from I.ok.hd hc) i2 b D.l2i2 its2.toArray
    refine wpAny_pyNext_zipD2_item (sep_of D) D1 D2 hz hTI hTO ⟨h1, p⟩ ⟨h2, p2.isList⟩ lt1 lt2 fun y1 y2 h' tk e1 e2 z' TO' h1' h2' hT hsz hk => ?_
    have ey1 : y1 = u := by rw [hu'] at e1; exact (Option.some.inj e1).symm
    have ey2 : y2 = u2 := by rw [hu2'] at e2; exact (Option.some.inj e2).symm
    subst ey1 ey2
    refine ⟨_, rfl, wpAny_letOwnedTupleGo_zip (s := { s with heap := h', toks := tk }) z' fun h'' z'' sb => ?_⟩
    have hT2 : h''.get? s.heap.objs.size = some { cls := .type "tuple", data := .seq #[y1, y2] } := (sb.2 _ (Nat.ne_of_gt hzl)).trans hT
    have new : ObjOk X.prog X.w (upd H s.heap.objs.size (.tup [x, y])) h'' s.heap.objs.size (.tup [x, y]) :=
      ⟨by show 2 ≤ sizeLine; decide, [y1, y2], .cons ru (.cons ru2 .nil), ⟨_, hT2, rfl, _, rfl⟩⟩
    have I1 : Inv X pins σ (upd H s.heap.objs.size (.tup [x, y])) { s with heap := h'', toks := tk } :=
      I.turnedNew (t' := tk) (ch := [z, TI, TO, i1, i2]) (fun c o hb q => (sb.2 c (fun q' => hb (by simp [q']))).trans (hk c o (fun q' => hb (by simp [q'])) (fun q' => hb (by simp [q'])) (fun q' => hb (by simp [q'])) (fun q' => hb (by simp [q'])) q)) hf (Nat.le_refl _) new
    refine ⟨.ref s.heap.objs.size, _, I1, rfl, ⟨_, x, y, rfl, I.hok.fresh (Nat.le_refl _), rfl, fun l hl => by rw [I.tuple_inj hl hqx]; exact hx, fun l hl => by rw [I.list_inj hl hqy]; exact hy⟩, ⟨z'', ?_, ⟨y1, y2, ?_⟩, ?_, ?_⟩, fun c hcm => ?_⟩
    · exact (sb.2 _ D.TIz).trans (hk _ _ D.TIz D.TITO D.TIi1 D.TIi2 hTI)
    · exact (sb.2 _ D.TOz).trans TO'
    · exact h1'.1.at fun o q => (sb.2 _ D.i1z).trans q
    · exact h2'.1.at fun o q => (sb.2 _ D.i2z).trans q
    · have hlt : c < s.heap.objs.size := by
        have e' : c = z ∨ c = TI ∨ c = TO ∨ c = i1 ∨ c = i2 := by simpa using hcm
        rcases e' with q | q | q | q | q
        · rw [q]; exact hzl
        · rw [q]; exact Heap.lt_size hTI
        · rw [q]; exact Heap.lt_size hTO
        · rw [q]; obtain ⟨_, e1, _⟩ := h1; exact Heap.lt_size e1
        · rw [q]; obtain ⟨_, e2, _⟩ := h2; exact Heap.lt_size e2
      rw [upd_ne (Nat.ne_of_lt hlt)]
      exact (hf c hcm).1
  done := by
    intro X hP hw hK hc i pins s σ H E I hf st hg
    subst hP hw hK
    obtain ⟨hz, hTI, ⟨x0, y0, hTO⟩, h1, h2⟩ := st
    obtain ⟨xs, ys, hqx, hqy, l1, l2⟩ := hg
    obtain ⟨its, rv, p, _⟩ := I.tuple hqx
    obtain ⟨its2, rv2, p2, _⟩ := I.list hqy
    have e1 := rv.length
    have e2 := rv2.length
    have D1 : Draws X.prog X.w X.A.in1 i1 [i1, a] its.toArray.size (fun i v => its.toArray[i]? = some v) (fun i h => h.IsTupleIter i1 a i ∧ h.IsTuple a its.toArray) := Draws.tuple (A := X.A.in1) (show X.A.in1.handled = none from I.ok.hd hc) i1 a D.l1i1 its.toArray
    have D2 : Draws X.prog X.w X.A.in1 i2 [i2, b] its2.toArray.size (fun i v => its2.toArray[i]? = some v) (fun i h => h.IsListIter i2 b i ∧ h.IsList b its2.toArray) := Draws.list (A := X.A.in1) (show X.A.in1.handled = none from I.ok.hd hc) i2 b D.l2i2 its2.toArray
    exact wpAny_pyNext_zipD2_end (sep_of D) D1 D2 hz hTI hTO ⟨h1, p⟩ ⟨h2, p2.isList⟩ (by simp; omega) (by simp; omega) (.inl (by simp; omega)) fun h' tk hk => ⟨rfl, I.turnedL (t' := tk) (ch := [z, TI, TO, i1, i2]) (fun c o hb q =>
      hk c o (fun q' => hb (by simp [q'])) (fun q' => hb (by simp [q'])) (fun q' => hb (by simp [q'])) (fun q' => hb (by simp [q'])) q) hf⟩
  self := fun A i s Q E st h => wpAny_pyIter_zip st.1 h
def iZipM (K : PySem.W.Frag) (ta : TA) : TI := fun σ H R => ta σ H fun vs H1 => ∃ a b xs ys, vs = [.ref a, .ref b] ∧ SqT K H1 a xs ∧ SqL K H1 b ys ∧ R (ItzM K a b) H1
theorem pi_zipM {X : Cx} {e e2 : Expr} {ta : TA} {p pos tpos : Pos} {elts : List Expr} {kk : Nat} (hg : Gl X "zip") (hm : X.mg "zip" = none) (ha : PA X [e, e2] ta)
    (hs : starEach [e, e2] X.env = (false, eval e X.env) :: starEach [e2] X.env := by rfl) (hpl : (backTo pos (starEach [e2] X.env)).any (·.1) = false := by rfl) :
    PI X (.Tuple elts kk tpos) (.Call (.Name "zip" p) [e, e2] [] pos) (iZipM X.K ta) := by
  refine ⟨fun pins s σ H R I h => ?_⟩
  refine Call_ (ld_blt I hg hm PyProof.Rows.boot_zip (PyProof.Rows.callWith_type1 (thn (ha.run pos pins s σ H _ I h) fun us s1 ⟨vs, H1, I1, r1, q1⟩ => ?_) hs hpl))
  obtain ⟨a, b, xs, ys, ex, hqx, hqy, q⟩ := q1
  subst ex
  cases r1 with
  | cons r rr =>
    cases rr with
    | cons r' rr =>
      cases rr
      cases r
      cases r'
      obtain ⟨its, rv, p1, _⟩ := I1.tuple hqx
      obtain ⟨its2, rv2, p2, _⟩ := I1.list hqy
      obtain ⟨o1, ho1, _⟩ := id p1
      refine zip_begins2 (begins_tuple a its.toArray) (begins_list b its2.toArray) p1 p2.isList fun h' hz hTI hTO g1 g2 hsz hk => wpAny_pyIter_zip hz ?_
      have I2 : Inv X pins σ H1 { s1 with heap := h' } := I1.kept (t' := s1.toks) hk
      refine ⟨s1.heap.objs.size + 4, [s1.heap.objs.size + 4, s1.heap.objs.size + 2, s1.heap.objs.size + 3, s1.heap.objs.size, s1.heap.objs.size + 1], _, _, H1, rfl, I2, turn_zipM (PySem.W.ktu_apart s1.heap.objs.size a b (Heap.lt_size ho1) p2.lt), ⟨hz, hTI, ⟨_, _, hTO⟩, ⟨_, g1, rfl, rfl⟩, ⟨_, g2, rfl, rfl⟩⟩, fun c hcm => ?_, q⟩
      have e' : c = s1.heap.objs.size + 4 ∨ c = s1.heap.objs.size + 2 ∨ c = s1.heap.objs.size + 3 ∨ c = s1.heap.objs.size ∨ c = s1.heap.objs.size + 1 := by simpa using hcm
      have hle : s1.heap.objs.size ≤ c := by
        rcases e' with z | z | z | z | z <;> (rw [z]; first | exact Nat.le_add_right _ _ | exact Nat.le_refl _)
      exact I1.fpOk hle (I1.hok.fresh hle)
/-! ### by data -/
section
variable {g : Gm} {N : List Str} {sc : Scope} {k : Nat} {W : Wm} {ρ : Rho} {ω ω1 : Om} {pos : Pos} {S M : List Addr} {σ : L2.St} {H : Hp} {elts : List Expr} {kk : Nat} {tp : Pos}
def enm (ds : List D) : List D := prs ((List.range ds.length).map fun (i : Nat) => D.int (i : Int)) ds
theorem enm_len (ds : List D) : (enm ds).length = ds.length := by
  unfold enm
  rw [prs_len (by simp)]
  simp
theorem yl_enumT {a : Addr} {vs : List V} {ds : List D} (ha : SqT' g S H a vs) (hs : DxL g S H vs ds) : Yl g S (IteT g.K a) (enm ds) H := fun i H' S' kp l => by
  have ha' : SqT g.K H' a vs := (kp.sqT ha).to
  have hs' := DxL.mono kp hs
  refine ⟨fun d e => ?_, fun e => ⟨vs, ha', by rw [hs'.length, e, enm_len]⟩⟩
  obtain ⟨d1, d2, e1, e2, e3⟩ := prs_get e
  subst e3
  obtain ⟨v2, h2, x2⟩ := hs'.get e2
  refine ⟨⟨vs, v2, ha', h2⟩, fun x H'' y => ?_⟩
  obtain ⟨T, x', q1, q2, q3, q4⟩ := y
  subst q1 q3
  have ed : d1 = .int (i : Int) := by
    rw [List.getElem?_map] at e1
    have hl : i < ds.length := (List.getElem?_eq_some_iff.mp e2).1
    rw [List.getElem?_range hl] at e1
    cases e1
    rfl
  subst ed
  exact ⟨.new q2, Dx.pair (H'' := H') l q2 (.int _) (hs'.get2 e2 (q4 vs ha'))⟩
theorem ei_enumT {a : Expr} {p : Pos} {ds : List D} (L : Li g) (ha : EvA g N sc k W [a] ρ ω [.tup ds] ω1) (hg : glB sc "enumerate" = true := by decide +kernel) (h1 : noStar a [] := by exact fun _ => rfl) :
    EvI g N sc k W (.Tuple elts kk tp) (.Call (.Name "enumerate" p) [a] [] pos) ρ ω (enm ds) ω1 := fun X B S M σ H E R q => by
  refine si_of (pi_enumT (gl_of B hg) (by rw [B.mg]; exact L.enum) (pa_s X _) (h1 X.env)) ?_
  refine ha X B S M σ H E _ fun vs H1 s1 o1 x1 => ?_
  cases x1 with
  | cons h hr =>
    cases hr
    cases h with
    | tup ha hs =>
      refine ⟨_, _, rfl, by rw [B.K]; exact ha.to, ?_⟩
      rw [B.K]
      exact q _ _ s1 o1 (yl_enumT ha hs)
theorem yl_zipM {a b : Addr} {vs ws : List V} {ds es : List D} (ha : SqT' g S H a vs) (hs : DxL g S H vs ds) (hb : SqL' g S H b ws) (ht : DxL g S H ws es) (hl : ds.length = es.length) : Yl g S (ItzM g.K a b) (prs ds es) H := fun i H' S' kp l => by
  have ha' : SqT g.K H' a vs := (kp.sqT ha).to
  have hb' : SqL g.K H' b ws := (kp.sqL hb).to
  have hs' := DxL.mono kp hs
  have ht' := DxL.mono kp ht
  refine ⟨fun d e => ?_, fun e => ⟨vs, ws, ha', hb', by rw [hs'.length, e, prs_len hl], by rw [ht'.length, e, prs_len hl, hl]⟩⟩
  obtain ⟨d1, d2, e1, e2, e3⟩ := prs_get e
  subst e3
  obtain ⟨v1, h1, x1⟩ := hs'.get e1
  obtain ⟨v2, h2, x2⟩ := ht'.get e2
  refine ⟨⟨vs, ws, v1, v2, ha', hb', h1, h2⟩, fun x H'' y => ?_⟩
  obtain ⟨T, x', y', q1, q2, q3, q4, q5⟩ := y
  subst q1 q3
  exact ⟨.new q2, Dx.pair (H'' := H') l q2 (hs'.get2 e1 (q4 vs ha')) (ht'.get2 e2 (q5 ws hb'))⟩
theorem ei_zipM {a b : Expr} {p : Pos} {ds es : List D} (L : Li g) (ha : EvA g N sc k W [a, b] ρ ω [.tup ds, .lst es] ω1) (hl : ds.length = es.length) (hg : glB sc "zip" = true := by decide +kernel)
    (h1 : noStar a [b] := by exact fun _ => rfl) (h2 : noStars [b] := by exact fun _ _ => rfl) : EvI g N sc k W (.Tuple elts kk tp) (.Call (.Name "zip" p) [a, b] [] pos) ρ ω (prs ds es) ω1 := fun X B S M σ H E R q => by
  refine si_of (pi_zipM (gl_of B hg) (by rw [B.mg]; exact L.zip) (pa_s X _) (h1 X.env) (h2 X.env pos)) ?_
  refine ha X B S M σ H E _ fun vs H1 s1 o1 x1 => ?_
  cases x1 with
  | cons h hr =>
    cases hr with
    | cons h3 hr =>
      cases hr
      cases h with
      | tup ha hs =>
        cases h3 with
        | lst nb hb ht =>
          refine ⟨_, _, _, _, rfl, by rw [B.K]; exact ha.to, .of hb, ?_⟩
          rw [B.K]
          exact q _ _ s1 o1 (yl_zipM ha hs (.inl ⟨nb, .inl hb⟩) ht hl)
end
end Hw
set_option Elab.async false
set_option linter.all false
set_option maxRecDepth 100000
set_option maxHeartbeats 2000000
/-! Comprehensions stored on one line; of two clauses; chains; local names that hold defs. -/
namespace Hw
open PySem PySem.Spec PyProof.Rows L2

section
variable {g : Gm} {N : List Str} {sc : Scope} {k : Nat} {W : Wm} {m : Nat} {ρ ρ1 ρ2 : Rho} {ω ω1 ω2 ω3 : Om} {P : Out → Prop} {rest : List Stmt} {pos : Pos} {S M : List Addr} {σ : L2.St} {H : Hp}
/-- x = [elt for tg in iter if ..], on one line -/
theorem ws_setLc (y : Nat) {x : Str} {p' lp : Pos} {elt tg iter : Expr} {ifs : List Expr} {scope : Scope} {items : List D} {is : List Nat} (own : List (Str × Nat)) (om om' : Nat → Om) (keep : Nat → Bool) (res : Nat → D) (ρt : Nat → Rho)
    (hi : EvI g N sc k W tg iter ρ ω items (om 0))
    (hg : ∀ i d, items[i]? = some d → EvG g N (relS scope sc) k WF (fun x => scope.names.lookup x == some .cell) tg d (wipeR ρ (own.map (·.2))) (ρt i) is)
    (ht : ∀ i d, items[i]? = some d → EvIf g N (relS scope sc) k WF ifs (ρt i) (om i) (keep i) (om' i))
    (he : ∀ i d, items[i]? = some d → keep i = true → EvE g N (relS scope sc) k WF elt (ρt i) (om' i) (.val (res i)) (om (i + 1)))
    (hf : ∀ i d, items[i]? = some d → keep i = false → om' i = om (i + 1)) (hz : items.length ≤ 1000000)
    (hr : WS g N sc k W m rest (ρ.set y (some (.dat (.lst (outs keep res items.length))))) (om items.length) P)
    (hsub : ∀ i ∈ is, i ∈ own.map (·.2) := by decide)
    (ok : blkC N sc scope own = true := by decide +kernel) (hs : ∀ (env : Env) x, foldedSetIterable iter env x = pure x := by intro _ _; rfl)
    (hy : N[y]? = some x := by rfl) (hyl : sc.names.lookup x = some .local := by decide +kernel) (hsw : swapsWith (.ListComp elt [⟨tg, iter, ifs, 0⟩] scope lp) (some (.Name x p')) pos.line (envD sc) = pure true := by rfl) :
    WS g N sc k W m (.Assign [.Name x p'] (.ListComp elt [⟨tg, iter, ifs, 0⟩] scope lp) pos :: rest) ρ ω P := fun X B S M σ H D E q => by
  refine ss_of (pss_cons (ps_setLc (i := y) (g := blkG X scope tg) (tt := blkT X scope ifs) (te := blkE X scope elt) B.calm (by rw [B.hN]; exact B.nd) (by rw [B.hN]; exact hy) (by rw [B.hS]; exact hyl) (by rw [swapsWith_sc (e' := envD sc) B.hS]; exact hsw) (pi_s X tg iter) (by rw [B.hN, B.hS]; exact blkOk_by ok)
    (fun s H C cl fp => ⟨fun pins s' σ H' v u Q I r h => (pg_s _ _).run pins s' σ H' v u Q I r (h s H C cl fp)⟩) (fun s H C cl fp => ⟨fun pins s' σ H' Q I h => by first | exact (pts_s _ _).run pins s' σ H' Q I (h s H C cl fp) | exact (pe_s _ _).run pins s' σ H' Q I (h s H C cl fp)⟩) (fun s H C cl fp => ⟨fun pins s' σ H' Q I h => by first | exact (pts_s _ _).run pins s' σ H' Q I (h s H C cl fp) | exact (pe_s _ _).run pins s' σ H' Q I (h s H C cl fp)⟩) (hs X.env)) (pss_s X rest)) ?_
  show tLc (sI X tg iter) (blkG X scope tg) (blkT X scope ifs) (blkE X scope elt) (own.map (·.2)) σ H (fun v H1 => sSs X rest D (σ.set y (some v)) H1)
  refine tlc_ok own om om' keep res ρt hi hg ht he hf hz hsub B.toBd E _ fun v H1 s1 o1 x1 => ?_
  exact ok_rest B hr q (.refl _ _ _) s1 ((E.go s1 o1).setd x1)
def rows2 (inn : Nat → List D) (res : Nat → Nat → D) (n : Nat) : List D := (List.range n).flatMap fun i => (List.range (inn i).length).map (res i)
theorem rows2_succ (inn : Nat → List D) (res : Nat → Nat → D) (n : Nat) : rows2 inn res (n + 1) = rows2 inn res n ++ (List.range (inn n).length).map (res n) := by
  unfold rows2
  rw [List.range_succ, List.flatMap_append]
  simp
def blkI (X : Cx) (scope : Scope) (tg iter : Expr) : TI := fun σ H R => ∀ (s : Shared) (H0 : Hp) (C : Addr) (cl : List (Str × Addr)) (fp : List Addr), sI (X.blk s H0 scope (compEnvC scope cl C X.env) fp) tg iter σ H R
/-- x = [elt for tg in iter for tg1 in iter1], pure, on one line -/
theorem ws_setLc2 (y : Nat) {x : Str} {p' lp : Pos} {elt tg iter tg1 iter1 : Expr} {scope : Scope} {items : List D} {is is1 : List Nat} (own : List (Str × Nat)) (vs1 : List Nat) (ρt : Nat → Rho) (inn : Nat → List D) (ρu : Nat → Nat → Rho) (res : Nat → Nat → D)
    (hi : EvI g N sc k W tg iter ρ ω items ω)
    (hg : ∀ i d, items[i]? = some d → EvG g N (relS scope sc) k WF (fun x => scope.names.lookup x == some .cell) tg d (wipeR ρ (own.map (·.2))) (ρt i) is)
    (hi1 : ∀ i d, items[i]? = some d → EvI g N (relS scope sc) k WF tg1 iter1 (ρt i) ω (inn i) ω)
    (hg1 : ∀ i j d d1, items[i]? = some d → (inn i)[j]? = some d1 → EvG g N (relS scope sc) k WF (fun x => scope.names.lookup x == some .cell) tg1 d1 (wipeR (ρt i) vs1) (ρu i j) is1)
    (he : ∀ i j d d1, items[i]? = some d → (inn i)[j]? = some d1 → EvE g N (relS scope sc) k WF elt (ρu i j) ω (.val (res i j)) ω)
    (hz : ∀ i, i < items.length → (rows2 inn res (i + 1)).length ≤ 1000000)
    (hr : WS g N sc k W m rest (ρ.set y (some (.dat (.lst (rows2 inn res items.length))))) ω P)
    (hsub : ∀ i ∈ is, i ∈ own.map (·.2) := by decide) (hsub1 : ∀ i ∈ is1, i ∈ vs1 := by decide) (hv : ∀ i ∈ vs1, i ∈ own.map (·.2) := by decide)
    (ok : blkC N sc scope own = true := by decide +kernel) (hs : ∀ (env : Env) x, foldedSetIterable iter env x = pure x := by intro _ _; rfl) (hs1 : ∀ (env : Env) x, foldedSetIterable iter1 env x = pure x := by intro _ _; rfl)
    (hy : N[y]? = some x := by rfl) (hyl : sc.names.lookup x = some .local := by decide +kernel) (hsw : swapsWith (.ListComp elt [⟨tg, iter, [], 0⟩, ⟨tg1, iter1, [], 0⟩] scope lp) (some (.Name x p')) pos.line (envD sc) = pure true := by rfl) :
    WS g N sc k W m (.Assign [.Name x p'] (.ListComp elt [⟨tg, iter, [], 0⟩, ⟨tg1, iter1, [], 0⟩] scope lp) pos :: rest) ρ ω P := fun X B S M σ H D E q => by
  refine ss_of (pss_cons (ps_setLc2 (i := y) (g := blkG X scope tg) (tt := blkT X scope []) (wi1 := blkI X scope tg1 iter1) (g1 := blkG X scope tg1) (tt1 := blkT X scope []) (te := blkE X scope elt) (vs1 := vs1) B.calm (by rw [B.hN]; exact B.nd) (by rw [B.hN]; exact hy) (by rw [B.hS]; exact hyl) (by rw [swapsWith_sc (e' := envD sc) B.hS]; exact hsw) (pi_s X tg iter) (by rw [B.hN, B.hS]; exact blkOk_by ok) hv
    (fun s H C cl fp => ⟨fun pins s' σ H' v u Q I r h => (pg_s _ _).run pins s' σ H' v u Q I r (h s H C cl fp)⟩) (fun s H C cl fp => ⟨fun pins s' σ H' Q I h => by first | exact (pts_s _ _).run pins s' σ H' Q I (h s H C cl fp) | exact (pe_s _ _).run pins s' σ H' Q I (h s H C cl fp)⟩) (fun s H C cl fp => ⟨fun pins s' σ H' R I h => (pi_s _ _ _).run pins s' σ H' R I (h s H C cl fp)⟩) (fun s H C cl fp => ⟨fun pins s' σ H' v u Q I r h => (pg_s _ _).run pins s' σ H' v u Q I r (h s H C cl fp)⟩)
    (fun s H C cl fp => ⟨fun pins s' σ H' Q I h => by first | exact (pts_s _ _).run pins s' σ H' Q I (h s H C cl fp) | exact (pe_s _ _).run pins s' σ H' Q I (h s H C cl fp)⟩) (fun s H C cl fp => ⟨fun pins s' σ H' Q I h => by first | exact (pts_s _ _).run pins s' σ H' Q I (h s H C cl fp) | exact (pe_s _ _).run pins s' σ H' Q I (h s H C cl fp)⟩) (hs X.env) hs1) (pss_s X rest)) ?_
  refine hi X B.toBd S M σ H E _ fun J H1 s1 o1 yl => ?_
  intro Dl hD
  have E1 := E.go s1 o1
  have outD := E1.out hD
  have nD : Dl ∉ M := fun z => outD (List.mem_append_left _ z)
  refine ⟨fun i n H' => n = items.length - i ∧ i ≤ items.length ∧ Cw g S M H1 Dl ω (rows2 inn res i) H', ⟨_, rfl, Nat.zero_le _, Cw.start E1 hD⟩, ?_⟩
  rintro i n H' ⟨rfl, hle, c⟩
  have E' := Cw.en E1 hD c
  have Y := yl i H' (M ++ Dl :: S) (Cw.kp E1 hD c) E'.live'
  by_cases hlt : i < items.length
  · have hd : items[i]? = some items[i] := List.getElem?_eq_getElem hlt
    have hz' := hz i hlt
    rw [rows2_succ, List.length_append, List.length_map, List.length_range] at hz'
    obtain ⟨go, yd⟩ := Y.1 _ hd
    refine .inr ⟨go, fun H2 => Cw g S M H1 Dl ω (rows2 inn res (i + 1)) H2, fun H2 c2 => ⟨items.length - (i + 1), by omega, rfl, hlt, c2⟩, fun v H2 y2 => ?_⟩
    obtain ⟨a2, x2⟩ := yd v H2 y2
    have c2 : Cw g S M H1 Dl ω (rows2 inn res i) H2 := c.go nD (.all a2) (c.ow.all a2)
    have E2 : En g (Dl :: S) (wipeR ρ (own.map (·.2))) ω M (L2.wipe σ (own.map (·.2))) H2 := (Cw.en E1 hD c2).wipe _
    intro s0 H0 C cl fp
    refine hg i _ hd _ (B.toBd.blk s0 H0 scope C cl fp) blk_fn (Dl :: S) M ω _ H2 v E2 x2 _ fun σ3 E3 b3 => ⟨?_, ?_⟩
    · rw [b3 _ hsub, wipe_wipe]
    · intro s0 H0 C cl fp
      refine eif_nil _ (B.toBd.blk s0 H0 scope C cl fp) (Dl :: S) M _ H2 E3 _ fun H3 s3 o3 => ?_
      refine iteT ?_
      have c3 := c2.go nD s3 o3
      have E3' := E3.go s3 o3
      intro s0 H0 C cl fp
      refine hi1 i _ hd _ (B.toBd.blk s0 H0 scope C cl fp) (Dl :: S) M _ H3 E3' _ fun J1 H4 s4 o4 yl1 => ?_
      have c4 := c3.go nD s4 o4
      have E4 := E3'.go s4 o4
      refine ⟨fun j n H' => n = (inn i).length - j ∧ j ≤ (inn i).length ∧ Kp (M ++ Dl :: S) (M ++ Dl :: S) H4 H' ∧ Cw g S M H1 Dl ω (rows2 inn res i ++ (List.range j).map (res i)) H', ⟨_, rfl, Nat.zero_le _, (fun a o h _ e => ⟨h, e⟩), by simpa using c4⟩, ?_⟩
      rintro j n H5 ⟨rfl, hle1, kp5, c5⟩
      have E5 := Cw.en E1 hD c5
      have E5' : En g (Dl :: S) (ρt i) ω M σ3 H5 := E4.kp kp5 c5.ow E4.dis E5.live E5.tabs
      have Y1 := yl1 j H5 (M ++ Dl :: S) kp5 E5.live'
      by_cases hlt1 : j < (inn i).length
      · have hd1 : (inn i)[j]? = some (inn i)[j] := List.getElem?_eq_getElem hlt1
        obtain ⟨go1, yd1⟩ := Y1.1 _ hd1
        refine .inr ⟨go1, fun H6 => Kp (M ++ Dl :: S) (M ++ Dl :: S) H4 H6 ∧ Cw g S M H1 Dl ω (rows2 inn res i ++ (List.range (j + 1)).map (res i)) H6, fun H6 ⟨k6, c6⟩ => ⟨(inn i).length - (j + 1), by omega, rfl, hlt1, k6, c6⟩, fun v1 H6 y6 => ?_⟩
        obtain ⟨a6, x6⟩ := yd1 v1 H6 y6
        have c6 : Cw g S M H1 Dl ω (rows2 inn res i ++ (List.range j).map (res i)) H6 := c5.go nD (.all a6) (c5.ow.all a6)
        have E6 : En g (Dl :: S) (wipeR (ρt i) vs1) ω M (L2.wipe σ3 vs1) H6 := (E5'.go (.all a6) (c5.ow.all a6)).wipe _
        intro s0 H0 C cl fp
        refine hg1 i j _ _ hd hd1 _ (B.toBd.blk s0 H0 scope C cl fp) blk_fn (Dl :: S) M ω _ H6 v1 E6 x6 _ fun σ7 E7 b7 => ⟨?_, ?_⟩
        · rw [b7 _ hsub1, wipe_wipe]
        · intro s0 H0 C cl fp
          refine eif_nil _ (B.toBd.blk s0 H0 scope C cl fp) (Dl :: S) M _ H6 E7 _ fun H7 s7 o7 => ?_
          refine iteT ?_
          intro s0 H0 C cl fp
          refine he i j _ _ hd hd1 _ (B.toBd.blk s0 H0 scope C cl fp) (Dl :: S) M _ H7 (E7.go s7 o7) _ fun w H8 s8 o8 x8 => ?_
          have c8 := (c6.go nD s7 o7).go nD s8 o8
          obtain ⟨vs, h1, h2⟩ := id c8.ls
          have l1 := h2.length
          rw [List.length_append, List.length_map, List.length_range] at l1
          refine ⟨vs, h1, Nat.lt_of_le_of_lt (show vs.length ≤ 1000000 by omega) (by decide), fun a o hn tb e => ?_, ?_⟩
          · have e8 := ((kp5 a o hn tb e).2)
            have e6 := a6 a o e8
            have nM : a ∉ M := fun z => hn (List.mem_append_left _ z)
            have e9 := s8.keep a o nM tb (s7.keep a o nM tb e6)
            refine ⟨hn, ?_⟩
            rw [upd_ne (fun z => hn (by rw [z]; exact List.mem_append_right _ List.mem_cons_self))]
            exact e9
          · rw [List.range_succ, List.map_append, ← List.append_assoc]
            exact c8.push E1 hD x8 h1
      · have ej : j = (inn i).length := by omega
        refine .inl ⟨Y1.2 ej, ?_⟩
        subst ej
        show Cw g S M H1 Dl ω (rows2 inn res (i + 1)) H5
        rw [rows2_succ]
        exact c5
  · have e : i = items.length := by omega
    refine .inl ⟨Y.2 e, ?_⟩
    subst e
    obtain ⟨f1, f2⟩ := Cw.fin E1 hD c
    exact ok_rest B hr q (.refl _ _ _) (s1.trans c.st) ((E.go (s1.trans c.st) f1).setd f2)
end
end Hw
set_option Elab.async false
set_option linter.all false
set_option maxRecDepth 100000
set_option maxHeartbeats 2000000
/-! Lines: made, their length; local names that hold defs. -/
namespace Hw
open PySem PySem.Spec PyProof.Rows L2

theorem tabs_but {T : List (Addr × Str)} {H H' : Hp} {x : Addr} {o : HO} (hx : H x = some o) (n1 : ∀ ps, o ≠ .tbl ps) (n2 : ∀ c q, o ≠ LamX.CodeO c q) (k : ∀ a u, a ≠ x → H a = some u → H' a = some u) (t : LamX.Tabs T H) : LamX.Tabs T H' := fun p hp => by
  obtain ⟨ps, h1, h2, h3⟩ := t p hp
  refine ⟨ps, k _ _ (fun z => ?_) h1, h2, fun pos cv hc => ?_⟩
  · rw [z, hx] at h1
    exact n1 ps (Option.some.inj h1)
  · obtain ⟨c, e1, e2⟩ := h3 pos cv hc
    refine ⟨c, e1, k _ _ (fun z => ?_) e2⟩
    rw [z, hx] at e2
    exact n2 _ _ (Option.some.inj e2)
theorem ins_code {C dx : Addr} {fs : List (Str × V)} (c : Addr) (q : Str) : HO.ins C dx fs ≠ LamX.CodeO c q := fun z => by
  have z' : HO.ins C dx fs = HO.ext _ := z
  cases z'
section
variable {g : Gm}
/-- Line.__init__ of a fresh instance -/
def spI (g : Gm) (d1 d2 d1' d2' : D) : Sp := fun vs H Q E => ∃ (x dx : Addr) (v1 v2 : V) (S : List Addr), vs = [.ref x, v1, v2] ∧ H x = some (.ins g.cL dx []) ∧ Lv S H ∧ LamX.Tabs g.T H ∧ Dx g (x :: S) H v1 d1 ∧ Dx g (x :: S) H v2 d2 ∧
  ∀ v1' v2' H', Stp g [x] H H' → H' x = some (.ins g.cL dx [("lengths", v1'), ("marks", v2')]) → Dx g (x :: S) H' v1' d1' → Dx g (x :: S) H' v2' d2' → Q .non H'
theorem init_ok {k : Nat} {f : Addr} {fd : FuncData} {d1 d2 d1' d2' : D} (L : Li g) (F : FunD g.K "__init__" "Line.__init__" (defArgs s_Line_init) (defBody s_Line_init) (defScope s_Line_init) [] [] f fd) (c : CallP g k "check_lengths" [d1, d2] (.val (.tup [d1', d2']))) :
    FnOk g.P g.w g.K g.mg g.base (L2.CX g.P g.w) (k + 1) f fd ["self", "lengths", "marks"] (spI g d1 d2 d1' d2') := by
  obtain ⟨f2, m1, fd2, ps, dvs, dv, dds, m2, m3, m4, m5, F2⟩ := c
  have Sc : FnScope ["self", "lengths", "marks", "kept", "told"] ["self", "lengths", "marks"] (defScope s_Line_init) := ⟨rfl, rfl, rfl, by decide +kernel, rfl, by decide +kernel, by decide +kernel⟩
  refine F.ok Sc (fun vs H Q E h => ?_) (fun cdv A outer s H vs Q E hr h => ?_)
  · obtain ⟨x, dx, v1, v2, S, rfl, _⟩ := h
    rfl
  · have tk : L2.Takes (cxOf (L2.CX g.P g.w) g.P g.w g.K g.mg g.base ["self", "lengths", "marks", "kept", "told"] "Line.__init__" (defScope s_Line_init) f cdv A outer s H E) (fun c d _ H => E c d H) := takes_of rfl rfl rfl rfl
    have vis : ∀ {y : Str}, (defScope s_Line_init).names.lookup y = some .local → Vis (defScope s_Line_init) y := fun h => .inl h
    have v0 : ∀ {p : Pos}, PE (cxOf (L2.CX g.P g.w) g.P g.w g.K g.mg g.base ["self", "lengths", "marks", "kept", "told"] "Line.__init__" (defScope s_Line_init) f cdv A outer s H E) (.Name "self" p) (tVar 0) := fun {p} => pe_var (i := 0) rfl (vis (by decide +kernel)) (by decide) (by decide)
    have v1 : ∀ {p : Pos}, PE (cxOf (L2.CX g.P g.w) g.P g.w g.K g.mg g.base ["self", "lengths", "marks", "kept", "told"] "Line.__init__" (defScope s_Line_init) f cdv A outer s H E) (.Name "lengths" p) (tVar 1) := fun {p} => pe_var (i := 1) rfl (vis (by decide +kernel)) (by decide) (by decide)
    have v2 : ∀ {p : Pos}, PE (cxOf (L2.CX g.P g.w) g.P g.w g.K g.mg g.base ["self", "lengths", "marks", "kept", "told"] "Line.__init__" (defScope s_Line_init) f cdv A outer s H E) (.Name "marks" p) (tVar 2) := fun {p} => pe_var (i := 2) rfl (vis (by decide +kernel)) (by decide) (by decide)
    have v3 : ∀ {p : Pos}, PE (cxOf (L2.CX g.P g.w) g.P g.w g.K g.mg g.base ["self", "lengths", "marks", "kept", "told"] "Line.__init__" (defScope s_Line_init) f cdv A outer s H E) (.Name "kept" p) (tVar 3) := fun {p} => pe_var (i := 3) rfl (vis (by decide +kernel)) (by decide) (by decide)
    have v4 : ∀ {p : Pos}, PE (cxOf (L2.CX g.P g.w) g.P g.w g.K g.mg g.base ["self", "lengths", "marks", "kept", "told"] "Line.__init__" (defScope s_Line_init) f cdv A outer s H E) (.Name "told" p) (tVar 4) := fun {p} => pe_var (i := 4) rfl (vis (by decide +kernel)) (by decide) (by decide)
    have l3 : Loc (defScope s_Line_init) "kept" := .inl (by decide +kernel)
    have l4 : Loc (defScope s_Line_init) "told" := .inl (by decide +kernel)
    refine ⟨_, pss_cons (ps_asg (pe_callSD (E := fun _ _ _ _ => False) F2 hr (show (defScope s_Line_init).names.lookup ("check_lengths" : Str) = some .globalImplicit by decide +kernel) m1 m2 m3 m4 (fun σ => fun pins H s e s' I c => by obtain ⟨_, _, _, _, _, _, _, _, _, _, _, _, z⟩ := c; exact z.elim) (pa_cons v1 (pa_cons v2 pa_nil)))
        (pg_tup rfl (pgs_cons (pg_name (i := 3) Sc.nd rfl l3) (pgs_cons (pg_name (i := 4) Sc.nd rfl l4) pgs_nil rfl) rfl)) rfl rfl rfl)
      (pss_cons (ps_fld v0 v3 rfl) (pss_one (ps_fld v0 v4 rfl))), ?_⟩
    obtain ⟨x, dx, u1, u2, S, rfl, hx, lv, tb, x1, x2, q⟩ := h
    refine ⟨_, rfl, _, rfl, ?_⟩
    have lx : Lv (x :: S) H := fun a ha => by
      rcases List.mem_cons.mp ha with z | z
      · subst z; exact ⟨_, hx, fun ps z => by cases z⟩
      · exact lv a z
    refine ⟨x :: S, [], ⟨rfl, fun k a ds e => by simp at e⟩, List.nodup_nil, fun a z => (by cases z), lx, tb, sl_app (SlL.ofD (.cons x1 (.cons x2 .nil))) (m5 _ _), fun v H1 s1 o1 y => ?_⟩
    cases y with
    | @tup a vs _ ha hs =>
      cases hs with
      | cons y1 hs =>
        cases hs with
        | cons y2 hs =>
          cases hs
          have hx1 : H1 x = some (.ins g.cL dx []) := s1.keep x _ (fun z => by cases z) (fun ps z => by cases z) hx
          refine ⟨a, _, rfl, ha.to, rfl, ?_⟩
          have pe2 : ∀ (a b : V), putF ("marks" : Str) b [(("lengths" : Str), a)] = [(("lengths" : Str), a), (("marks" : Str), b)] := fun a b => by
            unfold putF
            rw [if_neg (by decide)]
            rfl
          refine ⟨_, _, rfl, _, _, rfl, rfl, ?_⟩
          refine ⟨_, rfl, .ref x, rfl, x, g.cL, dx, [], rfl, hx1, L.cl, L.nL, by decide, ?_⟩
          refine ⟨_, rfl, .ref x, rfl, x, g.cL, dx, _, rfl, upd_same, L.cl, L.nM, (show (1 : Nat) < 1000 by decide), ?_⟩
          have same : ∀ {a : Addr} {o1 o2 : HO}, a ≠ x → upd (upd H1 x o1) x o2 a = H1 a := fun h => by rw [upd_ne h, upd_ne h]
          have nd : ∀ {a : Addr}, a ∉ x :: S → a ≠ x := fun h z => h (by rw [z]; exact List.mem_cons_self)
          have tb1 := s1.tabs tb
          refine q _ _ _ ⟨fun b o hb t e => ?_, fun _ => tabs_but hx1 (fun ps z => by cases z) (fun c q => ins_code c q) (fun b u hb e => by rw [same hb]; exact e) tb1, fun b hb => ?_⟩ (by rw [upd_same]; exact congrArg (fun l => some (HO.ins g.cL dx l)) (pe2 _ _)) (Dx.mono (fun b o hb t e => ⟨hb, by rw [same (nd hb)]; exact e⟩) y1) (Dx.mono (fun b o hb t e => ⟨hb, by rw [same (nd hb)]; exact e⟩) y2)
          · have hb' : b ≠ x := fun z => hb (by rw [z]; exact List.mem_cons_self)
            rw [same hb']
            exact s1.keep b o (fun z => by cases z) t e
          · by_cases hb' : b = x
            · subst hb'
              rw [upd_same]
              exact ⟨_, rfl, fun ps z => by cases z⟩
            · obtain ⟨o, e, t⟩ := s1.there b hb
              exact ⟨o, by rw [same hb']; exact e, t⟩
/-- Line(e1, e2) -/
theorem ev_make {N : List Str} {sc : Scope} {k : Nat} {W : Wm} {ρ : Rho} {ω ω1 : Om} {p pos : Pos} {e1 e2 : Expr} {f : Addr} {fd : FuncData} {d1 d2 d1' d2' : D} (L : Li g) (F : FunD g.K "__init__" "Line.__init__" (defArgs s_Line_init) (defBody s_Line_init) (defScope s_Line_init) [] [] f fd) (Mk : Mk g.K g.cL f) (gL : g.mg "Line" = some (.ref g.cL))
    (c : CallP g k "check_lengths" [d1, d2] (.val (.tup [d1', d2']))) (ha : EvA g N sc (k + 2) W [e1, e2] ρ ω [d1, d2] ω1) (hg : glB sc "Line" = true := by decide +kernel) (h1 : noStar e1 [e2] := by exact fun _ => rfl) (h2 : noStars [e2] := by exact fun _ _ => rfl) :
    EvE g N sc (k + 2) W (.Call (.Name "Line" p) [e1, e2] [] pos) ρ ω (.val (.obj d1' d2')) ω1 := fun X B S M σ H E Q q => by
  have FI := init_ok L F c
  have bb : Binds g.K fd ["self", "lengths", "marks"] [] := F.bindsN fun _ _ _ _ _ _ us hl => match us, hl with | [_, _, _], _ => rfl
  rw [← B.prog, ← B.w, ← B.K, ← B.mg, ← B.base] at FI
  rw [← B.K] at Mk bb
  refine s_of (pe_make (E := fun _ _ _ => False) Mk FI B.room (gl_of B hg) (by rw [B.mg]; exact gL) bb .nil (fun pins σ H s e s' I c => by obtain ⟨_, _, _, _, _, _, _, _, _, _, _, _, z⟩ := c; exact z.elim) (pa_s X [e1, e2]) (by decide) (h1 X.env) (h2 X.env pos)) ?_
  refine ha X B S M σ H E _ fun vs H1 s1 o1 x1 => ?_
  have E1 := E.go s1 o1
  cases x1 with
  | cons y1 r =>
    cases r with
    | cons y2 r =>
      cases r
      intro x dx hx hdx hne
      have outx := E1.out hx
      have h2 : upd H1 dx (.own x) x = none := by rw [upd_ne (Ne.symm hne)]; exact hx
      have s2 : Stp g M H1 (upd (upd H1 dx (.own x)) x (.ins g.cL dx [])) := (Stp.new hdx).trans (.new h2)
      have o2 : Own g S M ω1 (upd (upd H1 dx (.own x)) x (.ins g.cL dx [])) := (o1.new hdx).new h2
      have E2 := E1.go s2 o2
      have kx : Kp (M ++ S) (x :: (M ++ S)) H1 (upd (upd H1 dx (.own x)) x (.ins g.cL dx [])) := fun a o ha t e => by
        have nx : a ≠ x := ne_of_none e hx
        refine ⟨fun z => ?_, ?_⟩
        · rcases List.mem_cons.mp z with z | z
          · exact nx z
          · exact ha z
        · rw [upd_ne nx, upd_ne (ne_of_none e hdx)]
          exact e
      refine ⟨x, dx, _, _, M ++ S, rfl, upd_same, E2.live', E2.tabs, Dx.mono kx y1, Dx.mono kx y2, fun v1' v2' H' s3 hx' z1 z2 => ⟨rfl, ?_⟩⟩
      have s4 : Stp g M H1 H' := ⟨fun a o hm t e => s3.keep a o (fun z => by rw [List.mem_singleton.mp z, hx] at e; cases e) t (s2.keep a o hm t e), fun t => s3.tabs (s2.tabs t), fun a h => s3.there a (s2.there a h)⟩
      have o4 : Own g S M ω1 H' := o1.step fun a o e t => s3.keep a o (fun z => by rw [List.mem_singleton.mp z, hx] at e; cases e) t (by rw [upd_ne (ne_of_none e hx), upd_ne (ne_of_none e hdx)]; exact e)
      have k5 : Kp (x :: (M ++ S)) (M ++ S) H' H' := fun a o ha _ e => ⟨fun z => ha (List.mem_cons_of_mem _ z), e⟩
      exact q _ _ (s1.trans s4) o4 (.obj outx hx' (Dx.mono k5 z1) (Dx.mono k5 z2))
end
end Hw
set_option Elab.async false
set_option linter.all false
set_option maxRecDepth 100000
set_option maxHeartbeats 2000000
/-! len of a line. -/
namespace Hw
open PySem PySem.Spec PyProof.Rows L2

/-- the def of __len__ -/
structure LenOk (g : Gm) : Prop where
  ex : ∃ f fd, FunD g.K "__len__" "Line.__len__" (defArgs s_Line_len) (defBody s_Line_len) (defScope s_Line_len) [] [] f fd ∧ PySem.W.findIn g.K (.ref g.cL) "__len__" = some (some (.ref f)) ∧ PySem.W.typeIn g.K (.ref f) = some (.type "function")
theorem special_fn {M : Model} {A : Around} {E : Value → Shared → Prop} {s : Shared} {self : Value} {name : PySem.Str} {f : Addr} {args : List Value} {Q : Option Value → Shared → Prop} (sp : PySem.W.Looks M s.heap (specialOf self name) (some (.ref f))) (hb : PySem.W.Looks M s.heap (bindSpecial (.ref f) self) (.ref f, [self]))
    (hc : wpAny M A (call (.ref f) (self :: args)) (fun v => Q (some v)) E s) : wpAny M A (callSpecial? self name args) Q E s := by
  simp only [callSpecial?]
  refine wpAny_bind (sp.here ?_)
  exact wpAny_holding (wpAny_bind (hb.here (wpAny_bind (wpAny_mono hc (fun v s' h' => wpAny_pure h') fun _ _ h' => h'))))
section
variable {g : Gm} {N : List Str} {sc : Scope} {k : Nat} {W : Wm} {ρ : Rho} {ω ω1 : Om} {pos p : Pos}
theorem len_body (L : Li g) {ds : List D} {d2 : D} {f : Addr} {fd : FuncData} (F : FunD g.K "__len__" "Line.__len__" (defArgs s_Line_len) (defBody s_Line_len) (defScope s_Line_len) [] [] f fd) :
    FnOk g.P g.w g.K g.mg g.base (L2.CX g.P g.w) 1 f fd ["self"] (spG g [.dat (.obj (.tup ds) d2)] [] (.val (.int ds.length)) []) := by
  refine def_ok (N := ["self"]) F ⟨rfl, rfl, rfl, by decide +kernel, rfl, by decide +kernel, by decide +kernel⟩ rfl (by simp) rfl fun W hm _ => ?_
  exact ws_ret (ev_cb L.len (ea_cons (ev_lengths L (ev_var 0 rfl rfl)) ea_nil) fn_len_t) ⟨rfl, rfl⟩
/-- len of a line, at the object's own def -/
def rLenO (g : Gm) (n : Nat) : List V → Hp → VK → Prop := fun vs H Q => ∃ (y dx : Addr) (v1 v2 : V), vs = [.ref y] ∧ H y = some (.ins g.cL dx [("lengths", v1), ("marks", v2)]) ∧ (n : Int) < 2 ^ 60 ∧
  ∃ ds d2 S, n = ds.length ∧ Lv S H ∧ LamX.Tabs g.T H ∧ Dx g S H (.ref y) (.obj (.tup ds) d2) ∧ ∀ H', Stp g [] H H' → Q (.int n) H'
theorem call_lenO {X : Cx} {k : Nat} (L : Li g) (T : LenOk g) (B : Bs g (k + 2) X) {n : Nat} : CallR X (.builtin "len") (rLenO g n) := by
  intro pins s σ H xs us Q I r h
  obtain ⟨y, dx, v1, v2, rfl, hy, hn, ds, d2, S, en, lv, tb, xd, q⟩ := h
  obtain ⟨u, rfl, ru⟩ := vals1 r
  obtain rfl : u = Value.ref y := ru
  obtain ⟨f, fd, F, hf, ht⟩ := T.ex
  have FL := len_body (ds := ds) (d2 := d2) L F
  have bb : Binds g.K fd ["self"] [] := F.bindsN fun _ _ _ _ _ _ us hl => match us, hl with | [_], _ => rfl
  rw [← B.K] at hf ht bb
  rw [← B.prog, ← B.w, ← B.K, ← B.mg, ← B.base] at FL
  have hok : ObjOk X.prog X.w H s.heap y (.ins g.cL dx [("lengths", v1), ("marks", v2)]) := I.hok y _ hy
  have ty : PySem.W.Looks (model X.prog X.w) s.heap (typeOf (.ref y)) (.ref g.cL) := by
    obtain ⟨_, _, _, ho, _⟩ := hok
    exact NwA.type_at ho rfl
  have sp : PySem.W.Looks (model X.prog X.w) s.heap (specialOf (.ref y) "__len__") (some (.ref f)) := ty.andThen (PySem.W.looks_findIn I.kIn hf)
  refine Calls.call_function_entry kind_len plain_len entry_len (args_len1 _) ?_
  unfold Builtin.«len»
  refine wpAny_bind (m := oneArg "len" _) (wpAny_pure ?_)
  refine wpAny_bind (m := callSpecial? (.ref y) (PySem.Str.ofString "__len__")) (special_fn sp (PySem.W.bind_fn I.kIn _ ht) ?_)
  have hr : Room 1 X.A.in1 := (B.room.mono (by omega : 1 + 1 ≤ k + 2)).in1
  have hb := bb s [.ref y] I.kIn rfl
  refine wpAny_call (codeAny_mono (FL.run X.A.in1 X.stack s H ⟨[.ref y], []⟩ [.ref y] [.ref y] (fun v H' => v = .int n ∧ Q (.int n) H') (fun _ _ _ => False) hr I.env0.in1 hb (.cons rfl .nil) ⟨S, [], ⟨rfl, fun k a ds e => by simp at e⟩, List.nodup_nil, fun a z => (by cases z), lv, tb, .cons xd .nil, fun v H' s1 _ x => ?_⟩) fun r s' hq => ?_)
  · cases x
    rw [en]
    exact ⟨rfl, by rw [← en]; exact q H' s1⟩
  · cases r with
    | error e =>
      obtain ⟨_, _, _, _, _, _, _, _, _, _, _, _, z⟩ := (show L2.CX _ _ _ _ _ _ _ _ from hq)
      exact z.elim
    | ok fl =>
      cases fl with
      | ret u =>
        obtain ⟨v, H', J, rv, ev, q'⟩ := I.after hq
        subst ev
        obtain ⟨t, rfl⟩ := rv
        refine wpAny_bind (wpAny_holding (wpAny_pure ?_))
        refine wpAny_bind (wpAny_letGo ?_)
        show wpAny _ _ (if ((n : Nat) : Int) < 0 then _ else _) _ _ _
        rw [if_neg (by omega)]
        show wpAny _ _ (if ((n : Nat) : Int) ≥ 2 ^ 63 then _ else _) _ _ _
        rw [if_neg (by have : (2 : Int) ^ 60 < 2 ^ 63 := by decide
                       omega)]
        exact wpAny_bind (wpAny_mkInt (wpAny_pure ⟨_, rfl, ⟨.int n, H', J.tok _, ⟨_, rfl⟩, q'⟩⟩))
      | next => exact False.elim hq
      | brk => exact False.elim hq
      | cont => exact False.elim hq
theorem ev_lenO {e : Expr} {ds : List D} {d2 : D} (L : Li g) (T : LenOk g) (he : EvE g N sc (k + 2) W e ρ ω (.val (.obj (.tup ds) d2)) ω1) (hz : ds.length ≤ 1000000) (hg : glB sc "len" = true := by decide +kernel) (h1 : noStar e [] := by exact fun _ => rfl) :
    EvE g N sc (k + 2) W (.Call (.Name "len" p) [e] [] pos) ρ ω (.val (.int ds.length)) ω1 := fun X B S M σ H E Q q => by
  refine s_of (pe_callB (call_lenO (n := ds.length) L T B.toBs) (gl_of B hg) (by rw [B.mg]; exact L.len) (by decide +kernel) (pa_cons (pe_s X e) pa_nil (h1 X.env)) (by decide) (by decide) (h1 X.env)) ?_
  refine he X B S M σ H E _ fun v H1 s1 o1 x1 => ?_
  have E1 := E.go s1 o1
  cases id x1 with
  | obj na ha y1 y2 =>
    refine ⟨_, _, _, _, rfl, ha, Int.lt_of_le_of_lt (show (ds.length : Int) ≤ 1000000 by omega) (by decide), ds, d2, M ++ S, rfl, E1.live', E1.tabs, x1, fun H' s2 => ?_⟩
    have s3 : Stp g M H H' := s1.trans (s2.weak fun a z => by cases z)
    exact q _ H' s3 (o1.step fun a u e tb => s2.keep a u (fun z => by cases z) tb e) (.int _)
/-- Line.even -/
structure EvenOk (g : Gm) (f : Addr) : Prop where
  gL : g.mg "Line" = some (.ref g.cL)
  ga : PySem.W.specialIn g.K (.ref g.cL) "__getattribute__" = some (some (.builtin "type.__getattribute__"))
  rd : PySem.W.readsIn g.K g.cL (.type "type") = true
  kp : PySem.W.keepIn g.K (.ref f) = true
  at_ : ∃ p rest, PySem.W.findCls g.K (.ref g.cL) (.type "type") "even" = some (.get (.builtin "staticmethod.__get__") (.ref p) .none (.ref g.cL)) ∧ PySem.W.recIn g.K p "staticmethod" = some (.ref f :: rest)
theorem ev_even {e : Expr} {p1 ap : Pos} {f : Addr} {ds : List D} {d : D} (T : EvenOk g f) (c : CallF g k f (ds.map .dat) [] (.val d) []) (ha : EvA g N sc k W [e] ρ ω ds ω1)
    (ht : ∀ env : Env, ∃ pl : Sem Bool, eval (.Call (.Attribute (.Name "Line" p1) "even" ap) [e] [] pos) env = (do
      let ov ← eval (.Name "Line" p1) env
      standAt ap.atName
      let (f, first) ← holding [ov] (getMethod ov "even" pl)
      callWith pos f first (backTo pos (starEach [e] env)) (backToKw pos (keywordEach [] env))) := by exact fun _ => ⟨_, rfl⟩)
    (hg : glB sc "Line" = true := by decide +kernel) (h1 : noStar e [] := by exact fun _ => rfl) :
    EvE g N sc k W (.Call (.Attribute (.Name "Line" p1) "even" ap) [e] [] pos) ρ ω (.val d) ω1 := fun X B S M σ H E Q q => by
  obtain ⟨fd, ps, dvs, dv, dds, m2, m3, m4, m5, F⟩ := c
  rw [← B.prog, ← B.w, ← B.K, ← B.mg, ← B.base] at F
  obtain ⟨p, rest, a1, a2⟩ := T.at_
  obtain ⟨pl, ht⟩ := ht X.env
  unfold sE
  intro pins s I
  refine PySem.W.methodCall_KW (pl := pl) (ld_glob I (gl_of B hg) (by rw [B.mg]; exact T.gL) ?_ (by decide)) ht
  have kin : g.K.In s.heap := by rw [← B.K]; exact I.kIn
  refine PySem.W.method_cls kin T.ga ?_
  refine PySem.W.cls_bind kin T.rd a1 ?_
  refine wpAny_call (PySem.W.sm_get (s := { s with toks := s.toks + 1 }) kin a2 (PySem.W.handed_on rfl ?_))
  refine PySem.W.callWith_K (h₀ := X.base) I.ok.mod.kin (by rw [B.K]; exact m2) (thn ((pa_s X [e]).run pos pins _ σ H (fun vs H2 => spG g (ds.map .dat ++ dds.map .dat) [] (.val d) [] (vs ++ dvs) H2 Q (callE W (.val d) σ)) (I.tok _) ?_) fun us s2 ⟨vs, H2, I2, rv, q⟩ => ⟨I2.kIn, ?_⟩) (h1 X.env)
  · refine ha X B S M σ H E _ fun vs H2 s1 o1 x1 => ?_
    have E1 := E.go s1 o1
    exact ⟨M ++ S, [], ⟨rfl, fun k a ds e => by simp at e⟩, List.nodup_nil, fun a z => (by cases z), E1.live', E1.tabs, sl_app (SlL.ofD x1) (m5 _ _), rk_pure (fun _ _ _ hx h => ⟨hx, h⟩) o1 s1 q⟩
  · exact run_fnSD (E := callE W (.val d)) F B.room (by rw [B.K]; exact m3) m4 (callP B.tk (fun z => (Bool.noConfusion z : W.md = true)) σ) I2 rv q
end
end Hw
set_option Elab.async false
set_option linter.all false
set_option maxRecDepth 100000
set_option maxHeartbeats 2000000
/-! try, chains, comprehensions whose source raises, two new names at once. -/
namespace Hw
open PySem PySem.Spec PyProof.Rows L2

/-- a def whose exceptions bear no context -/
def CallN (g : Gm) (k : Nat) (x : Str) (ds : List D) (r : Res) : Prop := ∃ (f : Addr) (fd : FuncData) (ps : List Str), g.mg x = some (.ref f) ∧ PySem.W.keepIn g.K (.ref f) = true ∧ Binds g.K fd ps [] ∧
  FnOk g.P g.w g.K g.mg g.base (L2N.CX g.P g.w) k f fd ps (spG g (ds.map .dat) [] r [])
section
variable {g : Gm} {N : List Str} {sc : Scope} {k : Nat} {W : Wm} {m : Nat} {ρ ρ1 ρ2 : Rho} {ω ω1 ω2 ω3 : Om} {P : Out → Prop} {rest : List Stmt} {pos p : Pos} {S M : List Addr} {σ : L2.St} {H : Hp}
theorem call_okN {x : Str} {st : Stmt} {ds : List D} {r : Res} (N ps : List Str) (h : HasF g x st []) (Sc : FnScope N ps (defScope st)) (hbody : ∀ W : Wm, WS g N (defScope st) k W 0 (defBody st) (startR N (ds.map .dat)) [] (Fin r []))
    (hb : ∀ (kV doc pm : Value) (an : Option Addr) (cdv ct : Value) (us : List Value), us.length = ps.length → bindArgs (PySem.W.fnOf x x (defArgs st) (defBody st) (defScope st) .none kV doc pm an cdv ct) ⟨us, []⟩ = pure (ps.zip us))
    (hl : (ds.map Sl.dat).length = ps.length := by rfl) (hN : (ds.map Sl.dat).length ≤ N.length := by simp) : CallN g (k + 1) x ds r := by
  obtain ⟨f, fd, F, m⟩ := h
  exact ⟨f, fd, ps, m, F.kp, F.bindsN hb, def_okN F Sc hl hN rfl hbody⟩
theorem callPN {X : Cx} {W : Wm} {r : Res} (t : Tk X W) (σ : L2.St) : PassesAt (L2N.CX X.prog X.w) X σ (callE W r σ) := fun pins H s e s' I c => t.non e s' (L2N.XE.of_call I (fun _ _ _ q => q.2) c)
theorem ev_callN {x : Str} {e : Expr} {es : List Expr} {ds : List D} {r : Res} (c : CallN g k x ds r) (ha : EvA g N sc k W (e :: es) ρ ω ds ω1) (hg : glB sc x = true := by decide +kernel) (hdb : (x == ("__debug__" : Str)) = false := by decide) (h1 : noStar e es := by exact fun _ => rfl) (h2 : noStars es := by exact fun _ _ => rfl) :
    EvE g N sc k W (.Call (.Name x p) (e :: es) [] pos) ρ ω r ω1 := fun X B S M σ H E Q q => by
  obtain ⟨f, fd, ps, m1, m2, m3, F⟩ := c
  rw [← B.prog, ← B.w, ← B.K, ← B.mg, ← B.base] at F
  refine s_of (pe_callSD (E := callE W r) F B.room (gl_of B hg) (by rw [B.mg]; exact m1) (by rw [B.K]; exact m2) (by rw [B.K]; exact m3) .nil (fun σ => callPN B.tk σ) (pa_s X (e :: es)) hdb (h1 X.env) (h2 X.env pos)) ?_
  refine ha X B S M σ H E _ fun vs H1 s1 o1 x1 => ?_
  have E1 := E.go s1 o1
  exact ⟨M ++ S, [], ⟨rfl, fun k a ds e => by simp at e⟩, List.nodup_nil, fun a z => (by cases z), E1.live', E1.tabs, by rw [List.append_nil]; exact SlL.ofD x1, rk_pure (fun _ _ _ hx h => ⟨hx, h⟩) o1 s1 q⟩
/-- a chain of two comparisons of ints, as a test -/
theorem et_chain {a b c : Expr} {op op' : CmpOp} {d1 d2 d3 : D} {t1 t2 : Bool} (ha : EvE g N sc k W a ρ ω (.val d1) ω1) (hb : EvE g N sc k W b ρ ω1 (.val d2) ω2) (hc : EvE g N sc k W c ρ ω2 (.val d3) ω2) (h1 : CmpD g k op d1 d2 t1) (h2 : CmpD g k op' d2 d3 t2) (hm : lastMarks [op, op'] [b, c] = false := by rfl) :
    EvT g N sc k W (.Compare a [op, op'] [b, c] pos) ρ ω (t1 && t2) ω2 := fun X B S M σ H E Q q => by
  obtain ⟨r1, hr1⟩ := h1
  obtain ⟨r2, hr2⟩ := h2
  obtain ⟨o1, f1⟩ := hr1 X B.toBs
  obtain ⟨o2, f2⟩ := hr2 X B.toBs
  refine st_of (pt_chain o1 o2 (pe_s X a) (pe_s X b) (pe_s X c) hm) ?_
  refine ha X B S M σ H E _ fun x H1 s1 w1 x1 => ?_
  have E1 := E.go s1 w1
  refine hb X B S M σ H1 E1 _ fun y H2 s2 w2 y2 => ?_
  have E2 := E1.go s2 w2
  refine f1 (M ++ S) H2 x y _ E2.live' (Dx.mono s2.kp x1) y2 fun v H3 a3 v3 => ?_
  cases v3
  refine ⟨t1, rfl, ?_⟩
  have E3 := E2.go (.all a3) (w2.all a3)
  cases t1 with
  | false => exact iteF ⟨false, rfl, q H3 ((s1.trans s2).trans (.all a3)) (w2.all a3)⟩
  | true =>
    refine iteT ?_
    refine hc X B S M σ H3 E3 _ fun z H4 s4 w4 z4 => ?_
    have E4 := E3.go s4 w4
    refine f2 (M ++ S) H4 y z _ E4.live' (Dx.mono s4.kp (Dx.mono (a3.kp _) y2)) z4 fun v H5 a5 v5 => ?_
    cases v5
    exact ⟨t2, rfl, q H5 (((s1.trans s2).trans (.all a3)).trans (s4.trans (.all a5))) (w4.all a5)⟩
/-- [.. for .. in iter ..] where iter raises -/
theorem ev_lcX {elt tg iter : Expr} {ifs : List Expr} {scope : Scope} {x : Ex} (own : List (Str × Nat)) (hi : EvE g N sc k W iter ρ ω (.exc x) ω1) (ok : blkC N sc scope own = true := by decide +kernel) (hs : ∀ (env : Env) x, foldedSetIterable iter env x = pure x := by intro _ _; rfl) :
    EvE g N sc k W (.ListComp elt [⟨tg, iter, ifs, 0⟩] scope pos) ρ ω (.exc x) ω1 := fun X B S M σ H E Q q => by
  refine s_of (pe_lc (g := blkG X scope tg) (tt := blkT X scope ifs) (te := blkE X scope elt) B.calm (by rw [B.hN]; exact B.nd) (pi_list (pe_s X iter)) (by rw [B.hN, B.hS]; exact blkOk_by ok)
    (fun s H C cl fp => ⟨fun pins s' σ H' v u Q I r h => (pg_s _ _).run pins s' σ H' v u Q I r (h s H C cl fp)⟩) (fun s H C cl fp => ⟨fun pins s' σ H' Q I h => by first | exact (pts_s _ _).run pins s' σ H' Q I (h s H C cl fp) | exact (pe_s _ _).run pins s' σ H' Q I (h s H C cl fp)⟩) (fun s H C cl fp => ⟨fun pins s' σ H' Q I h => by first | exact (pts_s _ _).run pins s' σ H' Q I (h s H C cl fp) | exact (pe_s _ _).run pins s' σ H' Q I (h s H C cl fp)⟩) (hs X.env)) ?_
  exact hi X B S M σ H E _ q
/-- tuple(e) where e raises -/
theorem ev_ctyX {y : Str} {T : String} {e : Expr} {x : Ex} (hm : g.mg y = none) (he : EvE g N sc k W e ρ ω (.exc x) ω1) (hv : bootBuiltins y = some (.type T) := by decide +kernel)
    (hg : glB sc y = true := by decide +kernel) (hn : y ≠ "__name__" := by decide) (hdb : (y == ("__debug__" : Str)) = false := by decide) (h1 : noStar e [] := by exact fun _ => rfl) :
    EvE g N sc k W (.Call (.Name y p) [e] [] pos) ρ ω (.exc x) ω1 := fun X B S M σ H E Q q => by
  have never : CallR X (.type T) (fun _ _ _ => False) := fun _ _ _ _ _ _ _ _ _ z => z.elim
  refine s_of (pe_callTy never (gl_of B hg) (by rw [B.mg]; exact hm) hv (pa_cons (pe_s X e) pa_nil (h1 X.env)) hn hdb (h1 X.env)) ?_
  exact he X B S M σ H E _ q
/-! ### try -/
def trB (X : Cx) (body : List Stmt) : WX → TS := fun W D σ H => ∀ (pn : List (Addr × Obj)) (xe : Value → Shared → Prop), L2N.Takes (X.tr pn xe) W → PassesOwn (model X.prog X.w) X.A X.env xe → sSs (X.tr pn xe) body D σ H
theorem tr_bds {X : Cx} {W' : WX} (B : BdS g N sc k W X) {pn : List (Addr × Obj)} {xe : Value → Shared → Prop} (t : L2N.Takes (X.tr pn xe) W') (po : PassesOwn (model X.prog X.w) X.A X.env xe) : BdS g N sc k ⟨W', false, none⟩ (X.tr pn xe) :=
  ⟨⟨⟨B.prog, B.w, B.K, B.mg, B.base, B.calm, B.room⟩, B.hN, B.hS, B.nd, .ofN t, fun _ _ z => (nomatch z)⟩, po, (fun z => nomatch z), B.fn, B.stk, B.fr, B.exn⟩
theorem tr_pss {X : Cx} {body : List Stmt} (W : WX) (pn : List (Addr × Obj)) (xe : Value → Shared → Prop) (tk : L2N.Takes (X.tr pn xe) W) (po : PassesOwn (model X.prog X.w) X.A X.env xe) : PSs (X.tr pn xe) body (trB X body W) := ⟨fun pins s σ H D I h => (pss_s _ _).run pins s σ H D I (h pn xe tk po)⟩
theorem ps_tryB {X : Cx} {x : Str} {C : Addr} {body suite : List Stmt} {b₀ : Stmt} {np p3 : Pos} {ts : Addr → Value → Option Addr → TS} (B : BdS g N sc k W X) (hm : W.md = true) (hx : g.mg x = some (.ref C)) (hg : glB sc x = true) (hdb : (x == ("__debug__" : Str)) = false)
    (hsu : ∀ (a : Addr) (oe : Obj) (cls : Value) (d : Option Addr) (pn : List (Addr × Obj)), L2N.Zn cls d oe → (∃ vs, oe.data = .fields vs) → L2.Takes (L2H.suiteX X a ((a, oe) :: pn)) W.w → L2H.HotC (L2H.suiteX X a ((a, oe) :: pn)) → PSs (L2H.suiteX X a ((a, oe) :: pn)) (b₀ :: suite) (ts a cls d)) :
    PS X (.Try body [.ExceptHandler (some (.Name x np)) none (b₀ :: suite) p3] [] [] pos) (fun D σ H => trB X body (wOnly X.K (.ref C) ts W.w D) D σ H) :=
  L2H.ps_try_onlyX B.stk B.fr ⟨gl_of B.toBd hg, hdb, .inl (by rw [B.mg]; exact hx)⟩ (B.poa hm) (B.tk.any hm) (fun W pn xe tk _ po => tr_pss W pn xe tk po) hsu
/-- try: body, which raises nothing -/
theorem ws_tryOk {x : Str} {C : Addr} {body suite : List Stmt} {b₀ : Stmt} {np p3 : Pos} (hm : W.md = true) (hx : g.mg x = some (.ref C)) (hbody : ∀ W' : Wm, WS g N sc k W' m body ρ ω (fun o => o = .next ρ1 ω1)) (hr : WS g N sc k W m rest ρ1 ω1 P)
    (hg : glB sc x = true := by decide +kernel) (hdb : (x == ("__debug__" : Str)) = false := by decide) :
    WS g N sc k W m (.Try body [.ExceptHandler (some (.Name x np)) none (b₀ :: suite) p3] [] [] pos :: rest) ρ ω P := fun X B S M σ H D E q => by
  refine ss_of (pss_cons (ps_tryB (ts := fun _ _ _ _ _ _ => False) B hm hx hg hdb fun _ _ _ _ _ _ _ _ _ => pss_never) (pss_s X rest)) ?_
  intro pn xe t po
  refine hbody _ _ (tr_bds B t po) S M σ H _ E fun o e => ?_
  subst e
  exact fun M' σ' H' a s E' => ok_rest B hr q a s E'
/-- try: xs.append(e) / except C: raise C2(number, tag) from None, where e raises C -/
theorem ws_tryX (i j n : Nat) {x y nm : Str} {C C2 : Addr} {e : Expr} {fs : Option (List (Str × D))} {tag : Str} {num : Int} {jc jn : Nat} {np p3 px ap cp p1 q1 q2 q3 q4 q5 q6 pe : Pos} (hm : W.md = true) (hs : Sup g) (hx : g.mg x = some (.ref C)) (T2 : Bad2 g y C2) (hex : PySem.W.exmOne g.K (.ref C) (.ref C) = some true)
    (hd : ρ[i]? = some (some (.mu j))) (hn : ρ[n]? = some (some (.dat (.int num)))) (he : ∀ W' : Wm, EvE g N sc k W' e ρ ω (.exc ⟨C, fs⟩) ω1) (hP : P (.exc ⟨C2, some [("index", .int num), ("what", .str tag)]⟩ ω1)) {xs : Str} (hi : N[i]? = some xs := by rfl) (hni : N[n]? = some nm := by rfl)
    (hg : glB sc x = true := by decide +kernel) (hg2 : glB sc y = true := by decide +kernel) (hdb : (x == ("__debug__" : Str)) = false := by decide) (hdb2 : (y == ("__debug__" : Str)) = false := by decide)
    (hv : visB sc xs = true := by decide +kernel) (hv2 : visB sc nm = true := by decide +kernel) (h1 : (xs == ("__debug__" : Str)) = false := by decide) (h2 : (xs == ("__classdict__" : Str)) = false := by decide) (h3 : (nm == ("__debug__" : Str)) = false := by decide) (h4 : (nm == ("__classdict__" : Str)) = false := by decide)
    (hb : ∀ env : Env, attributeBase (.Name xs px) "append" env (eval (.Name xs px) env) = eval (.Name xs px) env := by intro _; rfl)
    (hfew : ∀ env : Env, ((backTo cp (starEach [e] env)).all (fun x => !x.1) && (backToKw cp (keywordEach [] env)).all (fun x => x.1.isSome) && decide ([e].length + ([] : List Keyword).length + (if ([] : List Keyword).isEmpty then 0 else 1) < 30)) = true := by intro _; rfl)
    (hl : (ap.endLine == cp.line) = true := by rfl) (hst : noStar e [] := by exact fun _ => rfl) :
    WS g N sc k W m (.Try [.Expr (.Call (.Attribute (.Name xs px) "append" ap) [e] [] cp) pe] [.ExceptHandler (some (.Name x np)) none [.Raise (some (.Call (.Name y q1) [.Name nm q2, .Constant (.str tag) jc q3] [] q4)) (some (.Constant .none jn q5)) q6] p3] [] [] pos :: rest) ρ ω P := fun X B S M σ H D E q => by
  have hr : X.A.depth + 1 < recursionLimit := by have := B.room.dp; omega
  refine ss_of (pss_cons (ps_tryB (ts := fun _ _ _ _ σ H => tMk2 C2 (tCons (tVar n) (tCons (tC (.str tag)) tNil)) σ H fun cls d H' => W.w cls d σ H') B hm hx hg hdb fun a oe cls d pn hz hf tkS hot => ?_) (pss_never (X := X))) ?_
  · refine pss_one (L2H.ps_raiseHN hot tkS (pmk_bad2 (X := L2H.suiteX X a ((a, oe) :: pn)) hs T2 B.prog B.K B.mg hr (pa_cons (pe_var (X := L2H.suiteX X a ((a, oe) :: pn)) (i := n) (by show X.N[n]? = _; rw [B.hN]; exact hni) (by show Vis X.env.scope nm; rw [B.hS]; exact vis_of hv2) h3 h4) (pa_cons pe_str pa_nil)) ?_ hdb2))
    show X.env.scope.names.lookup y = _
    rw [B.hS]
    exact beq_iff_eq.mp hg2
  · intro pn xe t po
    have B' := tr_bds B t po
    obtain ⟨v, e1, a, e2, e3⟩ := E.slot i _ hd
    subst e3
    obtain ⟨vn, n1, n2⟩ := E.slot n _ hn
    cases n2
    have hj : j < ω.length := by rw [← E.mlen]; exact (List.getElem?_eq_some_iff.mp e2).1
    obtain ⟨us, u1, u2⟩ := E.own j a _ e2 (List.getElem?_eq_getElem hj)
    refine ss_of (pss_one (ps_expr (pe_bm PySem.F.plainAttrs_list PySem.F.slot_list_append PySem.F.type_list_append mt_append (pa_nm B'.toBd hi hv h1 h2) (pa_cons (pe_s _ e) pa_nil (hst X.env)) (hb X.env) (hfew X.env) hl (hst X.env) rfl))) ?_
    refine ⟨_, e1, .inl ⟨rfl, us, .of u1⟩, ?_⟩
    refine he _ _ B'.toBd S M σ H E _ fun dd H1 s1 o1 x1 => ?_
    refine ⟨true, by rw [B.K]; exact hex, fun _ a' na => ?_, fun z => (by cases z)⟩
    refine ⟨_, n1, ?_⟩
    have E1 := E.go s1 o1
    exact ⟨_, _, rfl, fun d hd => q _ hP (some d) σ M _ (.refl _ _ _) (s1.trans (.new hd)) (o1.new hd) (xd_ok E1.live' hd rfl (.cons (.int _) (.cons (.str _) .nil)))⟩
end
end Hw
set_option Elab.async false
set_option linter.all false
set_option maxRecDepth 100000
set_option maxHeartbeats 2000000
/-! The walks: sequences, checks. -/
namespace Hw
open PySem PySem.Spec PyProof.Rows L2

/-- a tuple or a list of xs -/
inductive Sq : D → List D → Prop
  | tup (xs : List D) : Sq (.tup xs) xs
  | lst (xs : List D) : Sq (.lst xs) xs
/-- nothing of the kind -/
inductive NSq : D → Prop
  | non : NSq .non
  | int (i : Int) : NSq (.int i)
  | str (s : Str) : NSq (.str s)
  | bl (b : Bool) : NSq (.bl b)
section
variable {g : Gm} {N : List Str} {sc : Scope} {k : Nat} {W : Wm} {ρ : Rho} {ω ω1 : Om} {pos : Pos}
theorem fn_len_q {d : D} {xs : List D} (q : Sq d xs) : FnD g k (.builtin "len") [d] (.int xs.length) := by
  cases q with
  | tup => exact fn_len_t
  | lst => exact fn_len_l
theorem fn_tuple_q {d : D} {xs : List D} (q : Sq d xs) : FnD g k (.type "tuple") [d] (.tup xs) := by
  cases q with
  | tup => exact fn_tuple_t
  | lst => exact fn_tuple_l
theorem ix_q {d e : D} {xs : List D} {i : Int} (q : Sq d xs) (h0 : 0 ≤ i) (h : xs[i.toNat]? = some e) : IxD g k d (.int i) e := by
  cases q with
  | tup => exact ix_tupN h0 h
  | lst => exact ix_lstN h0 h
theorem ei_q {tg e : Expr} {d : D} {xs : List D} (he : EvE g N sc k W e ρ ω (.val d) ω1) (q : Sq d xs) : EvI g N sc k W tg e ρ ω xs ω1 := by
  cases q with
  | tup => exact ei_tup he
  | lst => exact ei_lst he
theorem ev_isq {e : Expr} {p p2 p3 p4 : Pos} {kk : Nat} {d : D} {xs : List D} (L : Li g) (he : EvE g N sc k W e ρ ω (.val d) ω1) (q : Sq d xs) (hg : glB sc "isinstance" = true := by decide +kernel) (hgx : glB sc "list" = true := by decide +kernel) (hgy : glB sc "tuple" = true := by decide +kernel)
    (h1 : noStar e [.Tuple [.Name "list" p2, .Name "tuple" p3] kk p4] := by exact fun _ => rfl) : EvE g N sc k W (.Call (.Name "isinstance" p) [e, .Tuple [.Name "list" p2, .Name "tuple" p3] kk p4] [] pos) ρ ω (.val (.bl true)) ω1 := by
  cases q with
  | tup => exact ev_isiT (T := "list") (U := "tuple") (t := "tuple") (b := false) (c := true) L he L.list L.tuple rfl rfl rfl (by decide +kernel) (by decide +kernel) hg hgx hgy (by decide) (by decide) (by decide) (by decide) h1
  | lst => exact ev_isiT (T := "list") (U := "tuple") (t := "list") (b := true) (c := false) L he L.list L.tuple rfl rfl rfl (by decide +kernel) (by decide +kernel) hg hgx hgy (by decide) (by decide) (by decide) (by decide) h1
theorem ev_isnq {e : Expr} {p p2 p3 p4 : Pos} {kk : Nat} {d : D} (L : Li g) (he : EvE g N sc k W e ρ ω (.val d) ω1) (q : NSq d) (hg : glB sc "isinstance" = true := by decide +kernel) (hgx : glB sc "list" = true := by decide +kernel) (hgy : glB sc "tuple" = true := by decide +kernel)
    (h1 : noStar e [.Tuple [.Name "list" p2, .Name "tuple" p3] kk p4] := by exact fun _ => rfl) : EvE g N sc k W (.Call (.Name "isinstance" p) [e, .Tuple [.Name "list" p2, .Name "tuple" p3] kk p4] [] pos) ρ ω (.val (.bl false)) ω1 := by
  cases q with
  | non => exact ev_isiT (T := "list") (U := "tuple") (t := "NoneType") (b := false) (c := false) L he L.list L.tuple rfl rfl rfl (by decide +kernel) (by decide +kernel) hg hgx hgy (by decide) (by decide) (by decide) (by decide) h1
  | int i => exact ev_isiT (T := "list") (U := "tuple") (t := "int") (b := false) (c := false) L he L.list L.tuple rfl rfl rfl (by decide +kernel) (by decide +kernel) hg hgx hgy (by decide) (by decide) (by decide) (by decide) h1
  | str s => exact ev_isiT (T := "list") (U := "tuple") (t := "str") (b := false) (c := false) L he L.list L.tuple rfl rfl rfl (by decide +kernel) (by decide +kernel) hg hgx hgy (by decide) (by decide) (by decide) (by decide) h1
  | bl b => exact ev_isiT (T := "list") (U := "tuple") (t := "bool") (b := false) (c := false) L he L.list L.tuple rfl rfl rfl (by decide +kernel) (by decide +kernel) hg hgx hgy (by decide) (by decide) (by decide) (by decide) h1
end
/-- a type that is told -/
def Ty (d : D) : Prop := ∃ t, tyN d = some t
theorem ty_int (i : Int) : Ty (.int i) := ⟨_, rfl⟩
section
variable {g : Gm} (h : Has g)
include h
theorem c_whole1 {d : D} (ht : Ty d) : CallP g 1 "is_whole" [d] (.val (.bl (wholeB d .non .non))) := by
  obtain ⟨t, ht⟩ := ht
  exact whole_ok 0 (h.fn 0 "is_whole" s_is_whole [.non, .non] rfl) rfl ["thing", "low", "high"] ⟨rfl, rfl, rfl, by decide +kernel, rfl, by decide +kernel, by decide +kernel⟩ (by decide) fun W hm => whole_body h ht .non .non
theorem c_whole2 {d lo : D} (ht : Ty d) (hl : NI lo) : CallP g 1 "is_whole" [d, lo] (.val (.bl (wholeB d lo .non))) := by
  obtain ⟨t, ht⟩ := ht
  exact whole_ok 1 (h.fn 0 "is_whole" s_is_whole [.non, .non] rfl) rfl ["thing", "low", "high"] ⟨rfl, rfl, rfl, by decide +kernel, rfl, by decide +kernel, by decide +kernel⟩ (by decide) fun W hm => whole_body h ht hl .non
theorem c_whole3 {d lo hi : D} (ht : Ty d) (hl : NI lo) (hh : NI hi) : CallP g 1 "is_whole" [d, lo, hi] (.val (.bl (wholeB d lo hi))) := by
  obtain ⟨t, ht⟩ := ht
  exact whole_ok 2 (h.fn 0 "is_whole" s_is_whole [.non, .non] rfl) rfl ["thing", "low", "high"] ⟨rfl, rfl, rfl, by decide +kernel, rfl, by decide +kernel, by decide +kernel⟩ (by decide) fun W hm => whole_body h ht hl hh
/-- a pair of ints: is it a ratio -/
def pairB (x y : Int) : Bool := decide (1 ≤ y) && decide (Int.gcd x y = 1)
theorem c_is_ratio2 (x y : Int) : CallP g 2 "is_ratio" [.tup [.int x, .int y]] (.val (.bl (pairB x y))) := by
  refine call_ok ["thing"] ["thing"] (h.fn 3 "is_ratio" s_is_ratio [] rfl) ⟨rfl, rfl, rfl, by decide +kernel, rfl, by decide +kernel, by decide +kernel⟩ (fun W hm => ?_) (fun _ _ _ _ _ _ us hl => match us, hl with | [_], _ => rfl)
  refine ws_ifF (EvT.is (et_w (ew_or (et_nF (et_val (ev_isi (T := "tuple") h.li (ev_var 0 rfl rfl) h.li.tuple rfl rfl))) (ew_or1 (et_cmp (ev_cb h.li.len (ea_cons (ev_var 0 rfl rfl) ea_nil) fn_len_t) ev_int cmp_neI)))) rfl) ?_
  by_cases c : 1 ≤ y
  · refine ws_ifF (et_w (ew_or (et_nF (et_val (ev_call (c_whole1 h (ty_int x)) (ea_cons (ev_ix (ev_var 0 rfl rfl) ev_int (ix_tupN (by decide) rfl)) ea_nil)))) (ew_or1 (et_nF (EvT.is (et_val (ev_call (c_whole2 h (ty_int y) (.int 1)) (ea_cons (ev_ix (ev_var 0 rfl rfl) ev_int (ix_tupN (by decide) rfl)) (ea_cons ev_int ea_nil)))) (by simp [wholeB, loOk, hiOk]; omega)))))) ?_
    exact ws_ret (ev_cmp (ev_call (c_shared_divisor h x y) (ea_cons (ev_ix (ev_var 0 rfl rfl) ev_int (ix_tupN (by decide) rfl)) (ea_cons (ev_ix (ev_var 0 rfl rfl) ev_int (ix_tupN (by decide) rfl)) ea_nil))) ev_int cmp_eqI) ⟨by simp [pairB, c]; omega, rfl⟩
  · refine ws_ifT (et_w (ew_or (et_nF (et_val (ev_call (c_whole1 h (ty_int x)) (ea_cons (ev_ix (ev_var 0 rfl rfl) ev_int (ix_tupN (by decide) rfl)) ea_nil)))) (ew_or1 (et_nT (EvT.is (et_val (ev_call (c_whole2 h (ty_int y) (.int 1)) (ea_cons (ev_ix (ev_var 0 rfl rfl) ev_int (ix_tupN (by decide) rfl)) (ea_cons ev_int ea_nil)))) (by simp [wholeB, loOk, hiOk]; omega)))))) ?_
    exact ws_ret ev_bl ⟨by simp [pairB, c], rfl⟩
/-- no tuple -/
theorem c_is_ratio0 {d : D} {t : String} (ht : tyN d = some t) (hb : kitB t "tuple" = some false) : CallP g 2 "is_ratio" [d] (.val (.bl false)) := by
  refine call_ok ["thing"] ["thing"] (h.fn 3 "is_ratio" s_is_ratio [] rfl) ⟨rfl, rfl, rfl, by decide +kernel, rfl, by decide +kernel, by decide +kernel⟩ (fun W hm => ?_) (fun _ _ _ _ _ _ us hl => match us, hl with | [_], _ => rfl)
  refine ws_ifT (et_w (ew_or0 (et_nT (et_val (ev_isi (T := "tuple") h.li (ev_var 0 rfl rfl) h.li.tuple ht hb))))) ?_
  exact ws_ret ev_bl ⟨rfl, rfl⟩
omit h in
theorem pair_rat (q : Rat) : pairB q.num q.den = true := by
  have h1 := q.den_nz
  have h2 := q.reduced
  unfold pairB
  have e : Int.gcd q.num q.den = 1 := h2
  rw [e]
  simp
  omega
theorem c_is_ratioQ (q : Rat) : CallP g 2 "is_ratio" [rat q] (.val (.bl true)) := by
  have := c_is_ratio2 h q.num q.den
  rw [pair_rat] at this
  exact this
omit h in
theorem sq_get {α : Type} {xs : List α} {f : α → D} {i : Nat} {d : D} (e : (xs.map f)[i]? = some d) : ∃ x, xs[i]? = some x ∧ d = f x := by
  rw [List.getElem?_map] at e
  cases q : xs[i]? with
  | none => rw [q] at e; cases e
  | some x => rw [q] at e; cases e; exact ⟨x, rfl, rfl⟩
omit h in
theorem sum_take {qs : List Rat} {i : Nat} {q : Rat} (e : qs[i]? = some q) : (qs.take (i + 1)).sum = (qs.take i).sum + q := by
  rw [List.take_add_one, e]
  simp
  grind
omit h in
theorem sum_bt {c : Nat} : ∀ (qs : List Rat), (∀ q ∈ qs, Rb c q) → Rb (qs.length * (c + 1) + 1) qs.sum
  | [], _ => by simpa using (Rb.int (n := 1) (i := 0) (by show (0 : Int).natAbs < 2 ^ 1; decide))
  | q :: qs, hq => by
    have h1 := sum_bt qs fun x hx => hq x (List.mem_cons_of_mem _ hx)
    have h2 := (hq q List.mem_cons_self).add h1
    rw [List.sum_cons, List.length_cons]
    refine h2.mono ?_
    rw [Nat.add_mul]
    omega
omit h in
theorem sum_btk {c : Nat} {qs : List Rat} (hq : ∀ q ∈ qs, Rb c q) (i : Nat) : Rb (qs.length * (c + 1) + 1) (qs.take i).sum := by
  refine (sum_bt (qs.take i) fun q hx => hq q (List.mem_of_mem_take hx)).mono ?_
  have := List.length_take_le' i qs
  have := Nat.mul_le_mul_right (c + 1) this
  omega
theorem c_sum_of (qs : List Rat) {c : Nat} (hq : ∀ q ∈ qs, Rb c q) (hc : qs.length * (c + 1) + 1 ≤ 4000) (hc' : c ≤ 4000) : CallP g 4 "sum_of" [.lst (qs.map rat)] (.val (rat qs.sum)) := by
  refine call_ok ["row", "total", "one"] ["row"] (h.fn 9 "sum_of" s_sum_of [] rfl) ⟨rfl, rfl, rfl, by decide +kernel, rfl, by decide +kernel, by decide +kernel⟩ (fun W hm => ?_) (fun _ _ _ _ _ _ us hl => match us, hl with | [_], _ => rfl)
  refine ws_set 1 (ev_glo h.g_ZERO) ?_
  refine ws_for (is := [2]) (fun i => [some (.dat (.lst (qs.map rat))), some (.dat (rat (qs.take i).sum)), none]) (fun i => [some (.dat (.lst (qs.map rat))), some (.dat (rat (qs.take i).sum)), some (.dat ((qs.map rat).getD i .non))]) (fun _ => []) (ei_lst (ev_var 0 rfl rfl)) (.keep (.keep (.keep .nil))) (fun i d e => ?_) (fun i d e => ?_) ?_
  · obtain ⟨q, e1, rfl⟩ := sq_get e
    rw [List.getD_eq_getElem?_getD, e]
    exact eg_name 2 rfl (by decide +kernel)
  · obtain ⟨q, e1, rfl⟩ := sq_get e
    rw [List.getD_eq_getElem?_getD, e]
    refine ws_set 1 (ev_call (c_plus h _ _ ((sum_btk hq i).mono hc) ((hq q (List.mem_of_getElem? e1)).mono hc')) (ea_cons (ev_var 1 rfl rfl) (ea_cons (ev_var 2 rfl rfl) ea_nil))) (ws_nil ⟨?_, rfl⟩)
    rw [sum_take e1]
    exact .keep (.keep (.drop .nil))
  · refine ws_ret (ev_var 1 rfl rfl) ⟨?_, rfl⟩
    rw [List.length_map, List.take_length]
end
end Hw
set_option Elab.async false
set_option linter.all false
set_option maxRecDepth 100000
set_option maxHeartbeats 2000000
/-! The walks: lines. -/
namespace Hw
open PySem PySem.Spec PyProof.Rows L2

/-- a good line -/
structure LnOk (ls ms : List Rat) : Prop where
  len : ls.length = ms.length
  pos : 1 ≤ ls.length
  le : ls.length ≤ 24
  gt : ∀ q ∈ ls, 0 < q.num
  inc : ∀ (i : Nat) (p q : Rat), ms[i]? = some p → ms[i + 1]? = some q → p < q
  bl : ∀ q ∈ ls, Rb 20 q
  bm : ∀ q ∈ ms, Rb 400 q
abbrev rats (qs : List Rat) : List D := qs.map rat
abbrev line (ls ms : List Rat) : D := .obj (.tup (rats ls)) (.tup (rats ms))
theorem get_of {α : Type} {xs : List α} {i : Nat} (h : i < xs.length) : ∃ x, xs[i]? = some x := ⟨_, List.getElem?_eq_getElem h⟩
theorem map_get {α : Type} {xs : List α} {f : α → D} {i : Nat} {x : α} (h : xs[i]? = some x) : (xs.map f)[i]? = some (f x) := by
  rw [List.getElem?_map, h] <;> rfl
theorem int_nat (i : Nat) : ((0 : Int) + (i : Int)).toNat = i := by omega
section
variable {g : Gm} (h : Has g)
include h
theorem c_check_lengths {d1 d2 : D} {ls ms : List Rat} (o : LnOk ls ms) (q1 : Sq d1 (rats ls)) (q2 : Sq d2 (rats ms)) : CallP g 3 "check_lengths" [d1, d2] (.val (.tup [.tup (rats ls), .tup (rats ms)])) := by
  refine call_ok ["lengths", "marks", "row", "number"] ["lengths", "marks"] (h.fn 10 "check_lengths" s_check_lengths [] rfl) ⟨rfl, rfl, rfl, by decide +kernel, rfl, by decide +kernel, by decide +kernel⟩ (fun W hm => ?_) (fun _ _ _ _ _ _ us hl => match us, hl with | [_, _], _ => rfl)
  have two : ∀ (i : Nat) (d : D), ([d1, d2] : List D)[i]? = some d → ∃ xs, Sq d xs ∧ 1 ≤ xs.length ∧ xs.length ≤ 24 := fun i d e => by
    have o1 := o.pos
    have o2 := o.le
    have o3 := o.len
    match i, e with
    | 0, e => cases e; exact ⟨_, q1, by simpa using o1, by simpa using o2⟩
    | 1, e => cases e; exact ⟨_, q2, by simp; omega, by simp; omega⟩
  have mem : ∀ {qs : List Rat} {i : Nat} {q : Rat}, qs[i]? = some q → q ∈ qs := fun e => List.mem_of_getElem? e
  refine ws_for (is := [2]) (fun i => [some (.dat d1), some (.dat d2), none, none]) (fun i => [some (.dat d1), some (.dat d2), some (.dat (([d1, d2] : List D).getD i .non)), none]) (fun _ => []) (ei_tup (ev_tup (ea_cons (ev_var 0 rfl rfl) (ea_cons (ev_var 1 rfl rfl) ea_nil)))) (.refl _) (fun i d e => ?_) (fun i d e => ?_) ?_
  · rw [List.getD_eq_getElem?_getD, e]
    exact eg_name 2 rfl (by decide +kernel)
  · obtain ⟨xs, hq, h1, h2⟩ := two i d e
    rw [List.getD_eq_getElem?_getD, e]
    exact ws_ifF (et_w (ew_or (et_nF (et_val (ev_isq h.li (ev_var 2 rfl rfl) hq))) (ew_or1 (et_nF (EvT.is (et_chain ev_int (ev_cb h.li.len (ea_cons (ev_var 2 rfl rfl) ea_nil) (fn_len_q hq)) (ev_glo h.g_MOST_SECTIONS) cmp_le cmp_le) (by simp; omega)))))) (ws_nil ⟨.keep (.keep (.drop (.keep .nil))), rfl⟩)
  refine ws_ifF (EvT.is (et_cmp (ev_cb h.li.len (ea_cons (ev_var 0 rfl rfl) ea_nil) (fn_len_q q1)) (ev_cb h.li.len (ea_cons (ev_var 1 rfl rfl) ea_nil) (fn_len_q q2)) cmp_neI) (by simp [o.len])) ?_
  refine ws_for (is := [3]) (fun i => [some (.dat d1), some (.dat d2), none, none]) (fun i => [some (.dat d1), some (.dat d2), none, some (.dat (.int (0 + (i : Int))))]) (fun _ => []) (ei_r1 h.li (ea_cons (ev_cb h.li.len (ea_cons (ev_var 0 rfl rfl) ea_nil) (fn_len_q q1)) ea_nil) (by have := o.le; simp; omega)) (.refl _) (fun i d e => ?_) (fun i d e => ?_) ?_
  · obtain ⟨e1, rfl⟩ := ups_get e
    exact eg_name 3 rfl (by decide +kernel)
  · obtain ⟨e1, rfl⟩ := ups_get e
    have hi : i < ls.length := by simpa using e1
    obtain ⟨p, hp⟩ := get_of hi
    obtain ⟨q, hq⟩ := get_of (show i < ms.length by have := o.len; omega)
    have hp' : (rats ls)[((0 : Int) + (i : Int)).toNat]? = some (rat p) := by rw [int_nat]; exact map_get hp
    have hq' : (rats ms)[((0 : Int) + (i : Int)).toNat]? = some (rat q) := by rw [int_nat]; exact map_get hq
    have gp := o.gt p (mem hp)
    refine ws_ifF (et_w (ew_or (et_nF (et_val (ev_call (c_is_ratioQ h p) (ea_cons (ev_ix (ev_var 0 rfl rfl) (ev_var 3 rfl rfl) (ix_q q1 (by omega) hp')) ea_nil)))) (ew_or1 (EvT.is (et_cmp (ev_ix (ev_ix (ev_var 0 rfl rfl) (ev_var 3 rfl rfl) (ix_q q1 (by omega) hp')) ev_int (ix_tupN (by decide) rfl)) ev_int cmp_le) (by simp; omega))))) ?_
    refine ws_ifF (et_not (et_val (ev_call (c_is_ratioQ h q) (ea_cons (ev_ix (ev_var 1 rfl rfl) (ev_var 3 rfl rfl) (ix_q q2 (by omega) hq')) ea_nil)))) ?_
    have fin : WS g ["lengths", "marks", "row", "number"] (defScope s_check_lengths) 2 W 0 [] [some (.dat d1), some (.dat d2), none, some (.dat (.int (0 + (i : Int))))] [] (TurnP [some (.dat d1), some (.dat d2), none, none] [] (Thn g ["lengths", "marks", "row", "number"] (defScope s_check_lengths) 2 W 0 [(defBody s_check_lengths).getD 3 (.Pass ⟨0, 0, 0, 0⟩)] (Fin (.val (.tup [.tup (rats ls), .tup (rats ms)])) [])) (Fin (.val (.tup [.tup (rats ls), .tup (rats ms)])) [])) := ws_nil ⟨.keep (.keep (.keep (.drop .nil))), rfl⟩
    by_cases i0 : i = 0
    · exact ws_ifF (et_w (ew_and0 (EvT.is (et_cmp (ev_var 3 rfl rfl) ev_int cmp_gt) (by subst i0; simp)))) fin
    · obtain ⟨p2, hp2⟩ := get_of (show i - 1 < ms.length by have := o.len; omega)
      have hp2' : (rats ms)[((0 : Int) + (i : Int) - 1).toNat]? = some (rat p2) := by
        rw [show ((0 : Int) + (i : Int) - 1).toNat = i - 1 by omega]
        exact map_get hp2
      have lt : p2 < q := o.inc (i - 1) p2 q hp2 (by rw [show i - 1 + 1 = i by omega]; exact hq)
      exact ws_ifF (et_w (ew_and (EvT.is (et_cmp (ev_var 3 rfl rfl) ev_int cmp_gt) (by simp; omega)) (ew_and1 (et_cmp (ev_call ((c_compare h p2 q lt ((o.bm _ (mem hp2)).mono (by decide)) ((o.bm _ (mem hq)).mono (by decide))).mono (by decide)) (ea_cons (ev_ix (ev_var 1 rfl rfl) (ev_bin (ev_var 3 rfl rfl) ev_int bin_sub) (ix_q q2 (by omega) hp2')) (ea_cons (ev_ix (ev_var 1 rfl rfl) (ev_var 3 rfl rfl) (ix_q q2 (by omega) hq')) ea_nil))) ev_int cmp_ge)))) fin
  · exact ws_ret (ev_tup (ea_cons (ev_cty h.li.tuple (ea_cons (ev_var 0 rfl rfl) ea_nil) (fn_tuple_q q1)) (ea_cons (ev_cty h.li.tuple (ea_cons (ev_var 1 rfl rfl) ea_nil) (fn_tuple_q q2)) ea_nil))) ⟨rfl, rfl⟩
end
end Hw
set_option Elab.async false
set_option linter.all false
set_option maxRecDepth 100000
set_option maxHeartbeats 2000000
/-! The walks: hums, words, poles: good and bad. -/
namespace Hw
open PySem PySem.Spec PyProof.Rows L2

/-- what else the top has written -/
structure HasX (g : Gm) (x : XS g) (cH : Addr) : Prop extends Has g where
  sup : Sup g
  xo : XSok g x
  bh : Bad1 g "BadHum" cH
  exH : PySem.W.exmOne g.K (.ref cH) (.ref cH) = some true
  len : LenOk g
  mkL : ∃ f fd, FunD g.K "__init__" "Line.__init__" (defArgs s_Line_init) (defBody s_Line_init) (defScope s_Line_init) [] [] f fd ∧ Mk g.K g.cL f
  gL : g.mg "Line" = some (.ref g.cL)
/-- no ratio -/
inductive NRat : D → Prop
  | no {e : D} {t : String} (ht : tyN e = some t) (hb : kitB t "tuple" = some false) : NRat e
  | pair (x y : Int) (hp : pairB x y = false) : NRat (.tup [.int x, .int y])
/-- no hum of n -/
inductive BadH (n : Nat) : D → Prop
  | b0 {d : D} : NSq d → BadH n d
  | b1 {d : D} {xs : List D} : Sq d xs → xs.length ≠ n → BadH n d
  | b2 {d e : D} {xs : List D} (i : Nat) : Sq d xs → xs.length = n → (∀ j, j < i → ∃ q : Rat, xs[j]? = some (rat q)) → xs[i]? = some e → NRat e → BadH n d
abbrev nums (ws : List Int) : List D := ws.map .int
def Sgn (w : Int) : Prop := w = 1 ∨ w = -1
/-- no sign -/
inductive NSgn : D → Prop
  | no {e : D} (ht : Ty e) (hw : wholeB e (.int (-1)) (.int 1) = false) : NSgn e
  | zero : NSgn (.int 0)
theorem sgn_whole {w : Int} (h : Sgn w) : wholeB (.int w) (.int (-1)) (.int 1) = true := by
  rcases h with rfl | rfl <;> decide
section
variable {g : Gm} {x : XS g} {cH : Addr} (h : HasX g x cH)
include h
theorem c_not_ratio {e : D} (n : NRat e) : CallP g 2 "is_ratio" [e] (.val (.bl false)) := by
  cases n with
  | no ht hb => exact c_is_ratio0 h.1 ht hb
  | pair x y hp =>
    have := c_is_ratio2 h.1 x y
    rw [hp] at this
    exact this
theorem c_check_hum {d : D} {qs : List Rat} (q : Sq d (rats qs)) (hz : qs.length ≤ 1000) : CallN g 3 "check_hum" [.int qs.length, d] (.val (.tup (rats qs))) := by
  refine call_okN ["count", "hum", "number"] ["count", "hum"] (h.fn 11 "check_hum" s_check_hum [] rfl) ⟨rfl, rfl, rfl, by decide +kernel, rfl, by decide +kernel, by decide +kernel⟩ (fun W => ?_) (fun _ _ _ _ _ _ us hl => match us, hl with | [_, _], _ => rfl)
  refine ws_ifF (et_w (ew_or (et_nF (et_val (ev_isq h.li (ev_var 1 rfl rfl) q))) (ew_or1 (EvT.is (et_cmp (ev_cb h.li.len (ea_cons (ev_var 1 rfl rfl) ea_nil) (fn_len_q q)) (ev_var 0 rfl rfl) cmp_neI) (by simp))))) ?_
  refine ws_for (is := [2]) (fun i => [some (.dat (.int qs.length)), some (.dat d), none]) (fun i => [some (.dat (.int qs.length)), some (.dat d), some (.dat (.int (0 + (i : Int))))]) (fun _ => []) (ei_r1 h.li (ea_cons (ev_var 0 rfl rfl) ea_nil) (by omega)) (.refl _) (fun i d e => ?_) (fun i d e => ?_) ?_
  · obtain ⟨e1, rfl⟩ := ups_get e
    exact eg_name 2 rfl (by decide +kernel)
  · obtain ⟨e1, rfl⟩ := ups_get e
    obtain ⟨p, hp⟩ := get_of (show i < qs.length by omega)
    have hp' : (rats qs)[((0 : Int) + (i : Int)).toNat]? = some (rat p) := by rw [int_nat]; exact map_get hp
    exact ws_ifF (et_not (et_val (ev_call (c_is_ratioQ h.1 p) (ea_cons (ev_ix (ev_var 1 rfl rfl) (ev_var 2 rfl rfl) (ix_q q (by omega) hp')) ea_nil)))) (ws_nil ⟨.keep (.keep (.drop .nil)), rfl⟩)
  · exact ws_ret (ev_cty h.li.tuple (ea_cons (ev_var 1 rfl rfl) ea_nil) (fn_tuple_q q)) ⟨rfl, rfl⟩
theorem c_check_humX {d : D} {n : Nat} (b : BadH n d) (hz : n ≤ 1000) : ∃ i : Int, CallN g 3 "check_hum" [.int n, d] (.exc ⟨cH, some [("index", .int i)]⟩) := by
  cases b with
  | b0 ns =>
    refine ⟨0, ?_⟩
    refine call_okN ["count", "hum", "number"] ["count", "hum"] (h.fn 11 "check_hum" s_check_hum [] rfl) ⟨rfl, rfl, rfl, by decide +kernel, rfl, by decide +kernel, by decide +kernel⟩ (fun W => ?_) (fun _ _ _ _ _ _ us hl => match us, hl with | [_, _], _ => rfl)
    exact ws_ifT (et_w (ew_or0 (et_nT (et_val (ev_isnq h.li (ev_var 1 rfl rfl) ns))))) (ws_raise1 h.sup h.bh (ea_cons ev_int ea_nil) ⟨rfl, rfl⟩)
  | @b1 xs q hl =>
    refine ⟨0, ?_⟩
    refine call_okN ["count", "hum", "number"] ["count", "hum"] (h.fn 11 "check_hum" s_check_hum [] rfl) ⟨rfl, rfl, rfl, by decide +kernel, rfl, by decide +kernel, by decide +kernel⟩ (fun W => ?_) (fun _ _ _ _ _ _ us hl => match us, hl with | [_, _], _ => rfl)
    exact ws_ifT (et_w (ew_or (et_nF (et_val (ev_isq h.li (ev_var 1 rfl rfl) q))) (ew_or1 (EvT.is (et_cmp (ev_cb h.li.len (ea_cons (ev_var 1 rfl rfl) ea_nil) (fn_len_q q)) (ev_var 0 rfl rfl) cmp_neI) (by simp; omega))))) (ws_raise1 h.sup h.bh (ea_cons ev_int ea_nil) ⟨rfl, rfl⟩)
  | @b2 el xs i q hl hj he ne =>
    refine ⟨0 + (i : Int), ?_⟩
    refine call_okN ["count", "hum", "number"] ["count", "hum"] (h.fn 11 "check_hum" s_check_hum [] rfl) ⟨rfl, rfl, rfl, by decide +kernel, rfl, by decide +kernel, by decide +kernel⟩ (fun W => ?_) (fun _ _ _ _ _ _ us hl => match us, hl with | [_, _], _ => rfl)
    have hi : i < xs.length := (List.getElem?_eq_some_iff.mp he).1
    refine ws_ifF (et_w (ew_or (et_nF (et_val (ev_isq h.li (ev_var 1 rfl rfl) q))) (ew_or1 (EvT.is (et_cmp (ev_cb h.li.len (ea_cons (ev_var 1 rfl rfl) ea_nil) (fn_len_q q)) (ev_var 0 rfl rfl) cmp_neI) (by simp; omega))))) ?_
    refine ws_forX (is := [2]) i (fun i => [some (.dat (.int n)), some (.dat d), none]) (fun i => [some (.dat (.int n)), some (.dat d), some (.dat (.int (0 + (i : Int))))]) (fun _ => []) (by simp [ups]; omega) (ei_r1 h.li (ea_cons (ev_var 0 rfl rfl) ea_nil) (by omega)) (.refl _) (fun j d e _ => ?_) (fun j d e hlt => ?_) (fun d e => ?_)
    · obtain ⟨e1, rfl⟩ := ups_get e
      exact eg_name 2 rfl (by decide +kernel)
    · obtain ⟨e1, rfl⟩ := ups_get e
      obtain ⟨p, hp⟩ := hj j hlt
      have hp' : xs[((0 : Int) + (j : Int)).toNat]? = some (rat p) := by rw [int_nat]; exact hp
      exact ws_ifF (et_not (et_val (ev_call (c_is_ratioQ h.1 p) (ea_cons (ev_ix (ev_var 1 rfl rfl) (ev_var 2 rfl rfl) (ix_q q (by omega) hp')) ea_nil)))) (ws_nil ⟨.keep (.keep (.drop .nil)), rfl⟩)
    · have he' : xs[((0 : Int) + (i : Int)).toNat]? = some el := by rw [int_nat]; exact he
      exact ws_ifT (et_not (et_val (ev_call (c_not_ratio h ne) (ea_cons (ev_ix (ev_var 1 rfl rfl) (ev_var 2 rfl rfl) (ix_q q (by omega) he')) ea_nil)))) (ws_raise1 h.sup h.bh (ea_cons (ev_var 2 rfl rfl) ea_nil) ⟨rfl, rfl⟩)
theorem c_check_row {d : D} {ws : List Int} (q : Sq d (nums ws)) (h1 : 1 ≤ ws.length) (h2 : ws.length ≤ 24) (hs : ∀ w ∈ ws, Sgn w) : CallP g 2 "check_row" [d] (.val (.tup (nums ws))) := by
  refine call_ok ["row", "number"] ["row"] (h.fn 12 "check_row" s_check_row [] rfl) ⟨rfl, rfl, rfl, by decide +kernel, rfl, by decide +kernel, by decide +kernel⟩ (fun W hm => ?_) (fun _ _ _ _ _ _ us hl => match us, hl with | [_], _ => rfl)
  refine ws_ifF (et_w (ew_or (et_nF (et_val (ev_isq h.li (ev_var 0 rfl rfl) q))) (ew_or1 (et_nF (EvT.is (et_chain ev_int (ev_cb h.li.len (ea_cons (ev_var 0 rfl rfl) ea_nil) (fn_len_q q)) (ev_glo h.g_MOST_SECTIONS) cmp_le cmp_le) (by simp; omega)))))) ?_
  refine ws_for (is := [1]) (fun i => [some (.dat d), none]) (fun i => [some (.dat d), some (.dat (.int (0 + (i : Int))))]) (fun _ => []) (ei_r1 h.li (ea_cons (ev_cb h.li.len (ea_cons (ev_var 0 rfl rfl) ea_nil) (fn_len_q q)) ea_nil) (by simp; omega)) (.refl _) (fun i d e => ?_) (fun i d e => ?_) ?_
  · obtain ⟨e1, rfl⟩ := ups_get e
    exact eg_name 1 rfl (by decide +kernel)
  · obtain ⟨e1, rfl⟩ := ups_get e
    obtain ⟨w, hw⟩ := get_of (show i < ws.length by simpa using e1)
    have hw' : (nums ws)[((0 : Int) + (i : Int)).toNat]? = some (.int w) := by rw [int_nat]; exact map_get hw
    have sw := hs w (List.mem_of_getElem? hw)
    have c := c_whole3 h.1 (ty_int w) (.int (-1)) (.int 1)
    rw [sgn_whole sw] at c
    exact ws_ifF (et_w (ew_or (et_nF (et_val (ev_call c (ea_cons (ev_ix (ev_var 0 rfl rfl) (ev_var 1 rfl rfl) (ix_q q (by omega) hw')) (ea_cons (ev_neg ev_int) (ea_cons ev_int ea_nil)))))) (ew_or1 (EvT.is (et_cmp (ev_ix (ev_var 0 rfl rfl) (ev_var 1 rfl rfl) (ix_q q (by omega) hw')) ev_int cmp_eqI) (by rcases sw with rfl | rfl <;> simp))))) (ws_nil ⟨.keep (.drop .nil), rfl⟩)
  · exact ws_ret (ev_cty h.li.tuple (ea_cons (ev_var 0 rfl rfl) ea_nil) (fn_tuple_q q)) ⟨rfl, rfl⟩
theorem c_check_rowX {d el : D} {xs : List D} {i : Nat} (q : Sq d xs) (h2 : xs.length ≤ 24) (hj : ∀ j, j < i → ∃ w, xs[j]? = some (.int w) ∧ Sgn w) (he : xs[i]? = some el) (ne : NSgn el) : CallP g 2 "check_row" [d] (.exc ⟨x.w, some [("index", .int i), ("what", .str "sign")]⟩) := by
  refine call_ok ["row", "number"] ["row"] (h.fn 12 "check_row" s_check_row [] rfl) ⟨rfl, rfl, rfl, by decide +kernel, rfl, by decide +kernel, by decide +kernel⟩ (fun W hm => ?_) (fun _ _ _ _ _ _ us hl => match us, hl with | [_], _ => rfl)
  have hi : i < xs.length := (List.getElem?_eq_some_iff.mp he).1
  refine ws_ifF (et_w (ew_or (et_nF (et_val (ev_isq h.li (ev_var 0 rfl rfl) q))) (ew_or1 (et_nF (EvT.is (et_chain ev_int (ev_cb h.li.len (ea_cons (ev_var 0 rfl rfl) ea_nil) (fn_len_q q)) (ev_glo h.g_MOST_SECTIONS) cmp_le cmp_le) (by simp; omega)))))) ?_
  refine ws_forX (is := [1]) i (fun i => [some (.dat d), none]) (fun i => [some (.dat d), some (.dat (.int (0 + (i : Int))))]) (fun _ => []) (by simp [ups]; omega) (ei_r1 h.li (ea_cons (ev_cb h.li.len (ea_cons (ev_var 0 rfl rfl) ea_nil) (fn_len_q q)) ea_nil) (by simp; omega)) (.refl _) (fun j d e _ => ?_) (fun j d e hlt => ?_) (fun d e => ?_)
  · obtain ⟨e1, rfl⟩ := ups_get e
    exact eg_name 1 rfl (by decide +kernel)
  · obtain ⟨e1, rfl⟩ := ups_get e
    obtain ⟨w, hw, sw⟩ := hj j hlt
    have hw' : xs[((0 : Int) + (j : Int)).toNat]? = some (.int w) := by rw [int_nat]; exact hw
    have c := c_whole3 h.1 (ty_int w) (.int (-1)) (.int 1)
    rw [sgn_whole sw] at c
    exact ws_ifF (et_w (ew_or (et_nF (et_val (ev_call c (ea_cons (ev_ix (ev_var 0 rfl rfl) (ev_var 1 rfl rfl) (ix_q q (by omega) hw')) (ea_cons (ev_neg ev_int) (ea_cons ev_int ea_nil)))))) (ew_or1 (EvT.is (et_cmp (ev_ix (ev_var 0 rfl rfl) (ev_var 1 rfl rfl) (ix_q q (by omega) hw')) ev_int cmp_eqI) (by rcases sw with rfl | rfl <;> simp))))) (ws_nil ⟨.keep (.drop .nil), rfl⟩)
  · have he' : xs[((0 : Int) + (i : Int)).toNat]? = some el := by rw [int_nat]; exact he
    cases ne with
    | no ht hw =>
      have c := c_whole3 h.1 ht (.int (-1)) (.int 1)
      rw [hw] at c
      exact ws_ifT (et_w (ew_or0 (et_nT (et_val (ev_call c (ea_cons (ev_ix (ev_var 0 rfl rfl) (ev_var 1 rfl rfl) (ix_q q (by omega) he')) (ea_cons (ev_neg ev_int) (ea_cons ev_int ea_nil)))))))) (ws_raise2 h.sup h.xo.bw (ea_cons (ev_var 1 rfl rfl) (ea_cons ev_str ea_nil)) ⟨by rw [show (0 : Int) + (i : Int) = i by omega], rfl⟩)
    | zero =>
      have c := c_whole3 h.1 (ty_int 0) (.int (-1)) (.int 1)
      exact ws_ifT (et_w (ew_or (et_nF (et_val (ev_call c (ea_cons (ev_ix (ev_var 0 rfl rfl) (ev_var 1 rfl rfl) (ix_q q (by omega) he')) (ea_cons (ev_neg ev_int) (ea_cons ev_int ea_nil)))))) (ew_or1 (et_cmp (ev_ix (ev_var 0 rfl rfl) (ev_var 1 rfl rfl) (ix_q q (by omega) he')) ev_int cmp_eqI)))) (ws_raise2 h.sup h.xo.bw (ea_cons (ev_var 1 rfl rfl) (ea_cons ev_str ea_nil)) ⟨by rw [show (0 : Int) + (i : Int) = i by omega], rfl⟩)
end
end Hw
set_option Elab.async false
set_option linter.all false
set_option maxRecDepth 100000
set_option maxHeartbeats 2000000
/-! The walks: words, poles, hums weighed. -/
namespace Hw
open PySem PySem.Spec PyProof.Rows L2

section
variable {g : Gm} {N : List Str} {sc : Scope} {k : Nat} {W : Wm} {ρ : Rho} {ω ω1 : Om} {pos : Pos}
/-- e in xs, xs a changing list of ints -/
theorem et_inM (i j : Nat) {x : Str} {px : Pos} {e : Expr} {n : Int} {ns : List Int} (hd : ρ[i]? = some (some (.mu j))) (he : EvE g N sc k W e ρ ω (.val (.int n)) ω1) (hw : ω1[j]? = some (ns.map .int)) (hi : N[i]? = some x := by rfl)
    (hv : visB sc x = true := by decide +kernel) (h1 : (x == ("__debug__" : Str)) = false := by decide) (h2 : (x == ("__classdict__" : Str)) = false := by decide) (hm : behindInMarks .In (.Name x px) = false := by rfl) : EvT g N sc k W (.Compare e [.In] [.Name x px] pos) ρ ω (decide (n ∈ ns)) ω1 := fun X B S M σ H E Q q => by
  obtain ⟨v, e1, a, e2, e3⟩ := E.slot i _ hd
  subst e3
  refine st_of (pt_cmpR op_in_seq (pe_s X e) (pa_nm B hi hv h1 h2) hm) ?_
  refine he X B S M σ H E _ fun y H1 s1 o1 y1 => ?_
  cases y1
  obtain ⟨vs, v1, v2⟩ := o1.2 j a _ e2 hw
  have ev := v2.ints
  subst ev
  refine ⟨_, e1, ?_⟩
  refine ⟨a, _, rfl, .inl (.of v1), rfl, flat_ints, ?_⟩
  rw [if_neg Bool.false_ne_true, inV_ints]
  exact ⟨_, rfl, q H1 s1 o1⟩
end
/-- only the slot i holds the n-th changing list -/
def onlyMu (ρ : Rho) (n i : Nat) : Bool := (List.range ρ.length).all fun j => match ρ[j]? with
  | some (some (.mu k)) => k != n || j == i
  | _ => true
theorem mu_by {ρ : Rho} {n i : Nat} (h : onlyMu ρ n i = true) : ∀ j, ρ[j]? = some (some (.mu n)) → j = i := fun j e => by
  have hl : j < ρ.length := (List.getElem?_eq_some_iff.mp e).1
  have := List.all_eq_true.mp h j (List.mem_range.mpr hl)
  rw [e] at this
  simpa using this
/-- no word for n sections: where, what -/
inductive BadW (n : Nat) : D → Int → Str → Prop
  | w0 {d : D} : NSq d → BadW n d 0 "many"
  | w1 {d : D} {xs : List D} : Sq d xs → xs.length ≠ n → BadW n d 0 "many"
  | w2 {d : D} {ws : List Int} : Sq d (nums ws) → ws.length = n → (∀ w ∈ ws, Sgn w) → ws[0]? = some (-1) → BadW n d 0 "first"
  | w3 {d el : D} {xs : List D} (i : Nat) : Sq d xs → xs.length = n → (∀ j, j < i → ∃ w, xs[j]? = some (.int w) ∧ Sgn w) → xs[i]? = some el → NSgn el → BadW n d i "sign"
/-- a good word -/
structure WdOk (n : Nat) (ws : List Int) : Prop where
  len : ws.length = n
  pos : 1 ≤ n
  le : n ≤ 24
  sg : ∀ w ∈ ws, Sgn w
  one : ws[0]? = some 1
section
variable {g : Gm} {x : XS g} {cH : Addr} (h : HasX g x cH)
include h
theorem c_check_signs {d : D} {ws : List Int} {n : Nat} (q : Sq d (nums ws)) (o : WdOk n ws) : CallP g 3 "check_signs" [d] (.val (.tup (nums ws))) := by
  refine call_ok ["word", "found"] ["word"] (h.fn 13 "check_signs" s_check_signs [] rfl) ⟨rfl, rfl, rfl, by decide +kernel, rfl, by decide +kernel, by decide +kernel⟩ (fun W hm => ?_) (fun _ _ _ _ _ _ us hl => match us, hl with | [_], _ => rfl)
  have l := o.len
  refine ws_set 1 (ev_call (c_check_row h q (by have := o.pos; omega) (by have := o.le; omega) o.sg) (ea_cons (ev_var 0 rfl rfl) ea_nil)) ?_
  refine ws_ifF (EvT.is (et_cmp (ev_ix (ev_var 1 rfl rfl) ev_int (ix_tupN (by decide) (map_get o.one))) (ev_neg ev_int) cmp_eqI) rfl) ?_
  exact ws_ret (ev_var 1 rfl rfl) ⟨rfl, rfl⟩
theorem c_check_word {d : D} {ls ms : List Rat} {ws : List Int} {n : Nat} (q : Sq d (nums ws)) (o : WdOk n ws) (ln : ls.length = n) : CallP g 4 "check_word" [line ls ms, d] (.val (.tup (nums ws))) := by
  refine call_ok ["line", "word"] ["line", "word"] (h.fn 14 "check_word" s_check_word [] rfl) ⟨rfl, rfl, rfl, by decide +kernel, rfl, by decide +kernel, by decide +kernel⟩ (fun W hm => ?_) (fun _ _ _ _ _ _ us hl => match us, hl with | [_, _], _ => rfl)
  have l := o.len
  have l2 := o.le
  refine ws_ifF (et_w (ew_or (et_nF (et_val (ev_isq h.li (ev_var 1 rfl rfl) q))) (ew_or1 (EvT.is (et_cmp (ev_cb h.li.len (ea_cons (ev_var 1 rfl rfl) ea_nil) (fn_len_q q)) (ev_lenO h.li h.len (ev_var 0 rfl rfl) (by simp; omega)) cmp_neI) (by simp; omega))))) ?_
  exact ws_ret (ev_call (c_check_signs h q o) (ea_cons (ev_var 1 rfl rfl) ea_nil)) ⟨rfl, rfl⟩
theorem c_check_wordX {d : D} {ls ms : List Rat} {n : Nat} {i : Int} {s : Str} (b : BadW n d i s) (ln : ls.length = n) (n1 : 1 ≤ n) (n2 : n ≤ 24) : CallP g 4 "check_word" [line ls ms, d] (.exc ⟨x.w, some [("index", .int i), ("what", .str s)]⟩) := by
  refine call_ok ["line", "word"] ["line", "word"] (h.fn 14 "check_word" s_check_word [] rfl) ⟨rfl, rfl, rfl, by decide +kernel, rfl, by decide +kernel, by decide +kernel⟩ (fun W hm => ?_) (fun _ _ _ _ _ _ us hl => match us, hl with | [_, _], _ => rfl)
  cases b with
  | w0 ns => exact ws_ifT (et_w (ew_or0 (et_nT (et_val (ev_isnq h.li (ev_var 1 rfl rfl) ns))))) (ws_raise2 h.sup h.xo.bw (ea_cons ev_int (ea_cons ev_str ea_nil)) ⟨rfl, rfl⟩)
  | @w1 xs q hl => exact ws_ifT (et_w (ew_or (et_nF (et_val (ev_isq h.li (ev_var 1 rfl rfl) q))) (ew_or1 (EvT.is (et_cmp (ev_cb h.li.len (ea_cons (ev_var 1 rfl rfl) ea_nil) (fn_len_q q)) (ev_lenO h.li h.len (ev_var 0 rfl rfl) (by simp; omega)) cmp_neI) (by simp; omega))))) (ws_raise2 h.sup h.xo.bw (ea_cons ev_int (ea_cons ev_str ea_nil)) ⟨rfl, rfl⟩)
  | @w2 ws q hl hs h0 =>
    refine ws_ifF (et_w (ew_or (et_nF (et_val (ev_isq h.li (ev_var 1 rfl rfl) q))) (ew_or1 (EvT.is (et_cmp (ev_cb h.li.len (ea_cons (ev_var 1 rfl rfl) ea_nil) (fn_len_q q)) (ev_lenO h.li h.len (ev_var 0 rfl rfl) (by simp; omega)) cmp_neI) (by simp; omega))))) ?_
    refine ws_retX (ev_call ?_ (ea_cons (ev_var 1 rfl rfl) ea_nil) (fun _ => hm)) ⟨rfl, rfl⟩
    clear hm
    refine call_ok ["word", "found"] ["word"] (h.fn 13 "check_signs" s_check_signs [] rfl) ⟨rfl, rfl, rfl, by decide +kernel, rfl, by decide +kernel, by decide +kernel⟩ (fun W hm => ?_) (fun _ _ _ _ _ _ us hl => match us, hl with | [_], _ => rfl)
    refine ws_set 1 (ev_call (c_check_row h q (by omega) (by omega) hs) (ea_cons (ev_var 0 rfl rfl) ea_nil)) ?_
    refine ws_ifT (EvT.is (et_cmp (ev_ix (ev_var 1 rfl rfl) ev_int (ix_tupN (by decide) (map_get h0))) (ev_neg ev_int) cmp_eqI) rfl) ?_
    exact ws_raise2 h.sup h.xo.bw (ea_cons ev_int (ea_cons ev_str ea_nil)) ⟨rfl, rfl⟩
  | @w3 el xs i q hl hj he ne =>
    refine ws_ifF (et_w (ew_or (et_nF (et_val (ev_isq h.li (ev_var 1 rfl rfl) q))) (ew_or1 (EvT.is (et_cmp (ev_cb h.li.len (ea_cons (ev_var 1 rfl rfl) ea_nil) (fn_len_q q)) (ev_lenO h.li h.len (ev_var 0 rfl rfl) (by simp; omega)) cmp_neI) (by simp; omega))))) ?_
    refine ws_retX (ev_call ?_ (ea_cons (ev_var 1 rfl rfl) ea_nil) (fun _ => hm)) ⟨rfl, rfl⟩
    clear hm
    refine call_ok ["word", "found"] ["word"] (h.fn 13 "check_signs" s_check_signs [] rfl) ⟨rfl, rfl, rfl, by decide +kernel, rfl, by decide +kernel, by decide +kernel⟩ (fun W hm => ?_) (fun _ _ _ _ _ _ us hl => match us, hl with | [_], _ => rfl)
    exact ws_setX (i := 1) (ev_call (c_check_rowX h q (by omega) hj he ne) (ea_cons (ev_var 0 rfl rfl) ea_nil) (fun _ => hm)) ⟨rfl, rfl⟩
/-- poles -/
structure PlOk (n : Nat) (ps : List Int) : Prop where
  rng : ∀ p ∈ ps, 1 ≤ p ∧ p ≤ (n : Int) - 1
  nd : ps.Nodup
omit h in
theorem whole_rng {p lo hi : Int} : wholeB (.int p) (.int lo) (.int hi) = (decide (lo ≤ p) && decide (p ≤ hi)) := by
  rw [Bool.eq_iff_iff]
  simp [wholeB, loOk, hiOk]
omit h in
theorem nd_take {α : Type} {xs : List α} {i : Nat} {v : α} (nd : xs.Nodup) (e : xs[i]? = some v) : v ∉ xs.take i := fun z => by
  obtain ⟨j, hj⟩ := List.mem_iff_getElem?.mp z
  rw [List.getElem?_take] at hj
  by_cases hji : j < i
  · rw [if_pos hji] at hj
    obtain ⟨l1, g1⟩ := List.getElem?_eq_some_iff.mp hj
    obtain ⟨l2, g2⟩ := List.getElem?_eq_some_iff.mp e
    exact absurd ((List.getElem_inj nd).mp (g1.trans g2.symm)) (by omega)
  · rw [if_neg hji] at hj; cases hj
omit h in
theorem take_more {α : Type} {xs : List α} {i : Nat} {v : α} (e : xs[i]? = some v) : xs.take (i + 1) = xs.take i ++ [v] := by
  rw [List.take_add_one, e]
  rfl
theorem c_check_poles {d : D} {n : Nat} {ps ms : List Int} (q : Sq d (nums ps)) (o : PlOk n ps) (hz : ps.length < 64) (hp : ms.Perm ps) (hs : ms.Pairwise (· ≤ ·)) : CallP g 3 "check_poles" [.int n, d] (.val (.tup (nums ms))) := by
  refine call_ok ["count", "poles", "found", "pole"] ["count", "poles"] (h.fn 15 "check_poles" s_check_poles [] rfl) ⟨rfl, rfl, rfl, by decide +kernel, rfl, by decide +kernel, by decide +kernel⟩ (fun W hm => ?_) (fun _ _ _ _ _ _ us hl => match us, hl with | [_, _], _ => rfl)
  refine ws_ifF (et_not (et_val (ev_isq h.li (ev_var 1 rfl rfl) q))) ?_
  refine ws_new 2 (en_lst ea_nil) ?_ (by decide)
  refine ws_for (is := [3]) (fun i => [some (.dat (.int n)), some (.dat d), some (.mu 0), none]) (fun i => [some (.dat (.int n)), some (.dat d), some (.mu 0), some (.dat ((nums ps).getD i .non))]) (fun i => [nums (ps.take i)]) (ei_q (ev_var 1 rfl rfl) q) (.refl _) (fun i d e => ?_) (fun i d e => ?_) ?_
  · rw [List.getD_eq_getElem?_getD, e]
    exact eg_name 3 rfl (by decide +kernel)
  · obtain ⟨p, e1, rfl⟩ := sq_get e
    rw [List.getD_eq_getElem?_getD, e]
    have r := o.rng p (List.mem_of_getElem? e1)
    have c := c_whole3 h.1 (ty_int p) (.int 1) (.int ((n : Int) - 1))
    rw [whole_rng, decide_eq_true r.1, decide_eq_true r.2] at c
    have l := List.length_take_le' i ps
    refine ws_ifF (et_w (ew_or (et_nF (et_val (ev_call (c.mono (by decide)) (ea_cons (ev_var 3 rfl rfl) (ea_cons ev_int (ea_cons (ev_bin (ev_var 0 rfl rfl) ev_int bin_sub) ea_nil)))))) (ew_or1 (EvT.is (et_inM 2 0 rfl (ev_var 3 rfl rfl) rfl) (decide_eq_false (nd_take o.nd e1)))))) ?_
    refine ws_app 2 0 rfl (ev_var 3 rfl rfl) rfl (by rw [List.length_map]; omega) (ws_nil ⟨.keep (.keep (.keep (.drop .nil))), ?_⟩)
    show [nums (ps.take i) ++ [.int p]] = [nums (ps.take (i + 1))]
    rw [take_more e1]
    simp
  · rw [List.length_map, List.take_length]
    refine ws_freeze (ω := []) 2 rfl (by decide) (mu_by rfl) ?_
    exact ws_ret (ev_cty h.li.tuple (ea_cons (ev_cb h.li.sorted (ea_cons (ev_var 2 rfl rfl) ea_nil) (fn_sorted hz hp hs)) ea_nil) fn_tuple_l) ⟨rfl, rfl⟩
end
end Hw
set_option Elab.async false
set_option linter.all false
set_option maxRecDepth 100000
set_option maxHeartbeats 2000000
/-! Comprehensions, simply told. -/
namespace Hw
open PySem PySem.Spec PyProof.Rows L2

section
variable {α : Type} {xs : List α} {f r : α → D} {p : α → Bool}
def keepX (xs : List α) (p : α → Bool) (i : Nat) : Bool := match xs[i]? with
  | some a => p a
  | none => false
def resX (xs : List α) (r : α → D) (i : Nat) : D := match xs[i]? with
  | some a => r a
  | none => .non
theorem outs_take : ∀ n, n ≤ xs.length → outs (keepX xs p) (resX xs r) n = ((xs.take n).filter p).map r
  | 0, _ => by simp [outs]
  | n + 1, hn => by
    have ih := outs_take n (by omega)
    obtain ⟨a, ha⟩ := get_of (show n < xs.length by omega)
    have hr : resX xs r n = r a := by unfold resX; rw [ha]
    have hk : keepX xs p n = p a := by unfold keepX; rw [ha]
    rw [take_more ha, List.filter_append, List.map_append]
    cases hp : p a with
    | true => rw [outs_yes (hk.trans hp), ih, hr]; simp [hp]
    | false => rw [outs_no (hk.trans hp), ih]; simp [hp]
theorem outs_all : outs (keepX xs p) (resX xs r) xs.length = (xs.filter p).map r := by rw [outs_take _ (Nat.le_refl _), List.take_length]
end
section
variable {g : Gm} {N : List Str} {sc : Scope} {k : Nat} {W : Wm} {ρ : Rho} {ω : Om} {pos px : Pos} {α : Type} {r : α → D} {p : α → Bool} {f : α → D}
/-- [elt for x in xs if c], pure -/
theorem ev_lcF {elt iter c : Expr} {scope : Scope} {x : Str} (t : Nat) (own : List (Str × Nat)) (xs : List α) (f : α → D) (p : α → Bool) (r : α → D) (hi : EvI g N sc k W (.Name x px) iter ρ ω (xs.map f) ω)
    (ht : ∀ a, a ∈ xs → EvT g N (relS scope sc) k WF c ((wipeR ρ (own.map (·.2))).set t (some (.dat (f a)))) ω (p a) ω)
    (he : ∀ a, a ∈ xs → p a = true → EvE g N (relS scope sc) k WF elt ((wipeR ρ (own.map (·.2))).set t (some (.dat (f a)))) ω (.val (r a)) ω)
    (hz : xs.length ≤ 1000000) (hN : N[t]? = some x := by rfl) (hx : tgB (relS scope sc) (fun x => scope.names.lookup x == some .cell) x = true := by decide +kernel) (hsub : t ∈ own.map (·.2) := by decide)
    (ok : blkC N sc scope own = true := by decide +kernel) (hs : ∀ (env : Env) x, foldedSetIterable iter env x = pure x := by intro _ _; rfl) :
    EvE g N sc k W (.ListComp elt [⟨.Name x px, iter, [c], 0⟩] scope pos) ρ ω (.val (.lst ((xs.filter p).map r))) ω := by
  have z := ev_lc (pos := pos) (is := [t]) own (fun _ => ω) (fun _ => ω) (keepX xs p) (resX xs r) (fun i => (wipeR ρ (own.map (·.2))).set t (some (.dat (resX xs f i)))) hi
    (fun i d e => by
      obtain ⟨a, e1, rfl⟩ := sq_get e
      have : resX xs f i = f a := by unfold resX; rw [e1]
      rw [this]
      exact eg_name t hN hx)
    (fun i d e => by
      obtain ⟨a, e1, rfl⟩ := sq_get e
      have h1 : resX xs f i = f a := by unfold resX; rw [e1]
      have h2 : keepX xs p i = p a := by unfold keepX; rw [e1]
      rw [h1, h2]
      exact eif_one (ht a (List.mem_of_getElem? e1)))
    (fun i d e hk => by
      obtain ⟨a, e1, rfl⟩ := sq_get e
      have h1 : resX xs f i = f a := by unfold resX; rw [e1]
      have h3 : resX xs r i = r a := by unfold resX; rw [e1]
      have h2 : keepX xs p i = p a := by unfold keepX; rw [e1]
      rw [h1, h3]
      exact he a (List.mem_of_getElem? e1) (h2.symm.trans hk))
    (fun _ _ _ _ => rfl) (by rw [List.length_map]; exact hz) (by intro i hi; rw [List.mem_singleton.mp hi]; exact hsub) ok hs
  rw [List.length_map, outs_all] at z
  exact z
/-- [elt for x in xs], pure -/
theorem ev_lcM {elt iter : Expr} {scope : Scope} {x : Str} (t : Nat) (own : List (Str × Nat)) (xs : List α) (f : α → D) (r : α → D) (hi : EvI g N sc k W (.Name x px) iter ρ ω (xs.map f) ω)
    (he : ∀ a, a ∈ xs → EvE g N (relS scope sc) k WF elt ((wipeR ρ (own.map (·.2))).set t (some (.dat (f a)))) ω (.val (r a)) ω)
    (hz : xs.length ≤ 1000000) (hN : N[t]? = some x := by rfl) (hx : tgB (relS scope sc) (fun x => scope.names.lookup x == some .cell) x = true := by decide +kernel) (hsub : t ∈ own.map (·.2) := by decide)
    (ok : blkC N sc scope own = true := by decide +kernel) (hs : ∀ (env : Env) x, foldedSetIterable iter env x = pure x := by intro _ _; rfl) :
    EvE g N sc k W (.ListComp elt [⟨.Name x px, iter, [], 0⟩] scope pos) ρ ω (.val (.lst (xs.map r))) ω := by
  have z := ev_lc (pos := pos) (is := [t]) own (fun _ => ω) (fun _ => ω) (keepX xs fun _ => true) (resX xs r) (fun i => (wipeR ρ (own.map (·.2))).set t (some (.dat (resX xs f i)))) hi
    (fun i d e => by
      obtain ⟨a, e1, rfl⟩ := sq_get e
      have : resX xs f i = f a := by unfold resX; rw [e1]
      rw [this]
      exact eg_name t hN hx)
    (fun i d e => by
      obtain ⟨a, e1, rfl⟩ := sq_get e
      have h2 : keepX xs (fun _ => true) i = true := by unfold keepX; rw [e1]
      rw [h2]
      exact eif_nil)
    (fun i d e hk => by
      obtain ⟨a, e1, rfl⟩ := sq_get e
      have h1 : resX xs f i = f a := by unfold resX; rw [e1]
      have h3 : resX xs r i = r a := by unfold resX; rw [e1]
      rw [h1, h3]
      exact he a (List.mem_of_getElem? e1))
    (fun _ _ _ _ => rfl) (by rw [List.length_map]; exact hz) (by intro i hi; rw [List.mem_singleton.mp hi]; exact hsub) ok hs
  rw [List.length_map, outs_all, List.filter_eq_self.mpr (fun _ _ => rfl)] at z
  exact z
/-- the same, stored on its line -/
theorem ws_setM {m : Nat} {P : Out → Prop} {rest : List Stmt} {elt iter : Expr} {scope : Scope} {x yn : Str} {lp p' : Pos} (y : Nat) (t : Nat) (own : List (Str × Nat)) (xs : List α) (f : α → D) (r : α → D) (hi : EvI g N sc k W (.Name x px) iter ρ ω (xs.map f) ω)
    (he : ∀ a, a ∈ xs → EvE g N (relS scope sc) k WF elt ((wipeR ρ (own.map (·.2))).set t (some (.dat (f a)))) ω (.val (r a)) ω)
    (hz : xs.length ≤ 1000000) (hr : WS g N sc k W m rest (ρ.set y (some (.dat (.lst (xs.map r))))) ω P) (hN : N[t]? = some x := by rfl) (hx : tgB (relS scope sc) (fun x => scope.names.lookup x == some .cell) x = true := by decide +kernel) (hsub : t ∈ own.map (·.2) := by decide)
    (ok : blkC N sc scope own = true := by decide +kernel) (hs : ∀ (env : Env) x, foldedSetIterable iter env x = pure x := by intro _ _; rfl)
    (hy : N[y]? = some yn := by rfl) (hyl : sc.names.lookup yn = some .local := by decide +kernel) (hsw : swapsWith (.ListComp elt [⟨.Name x px, iter, [], 0⟩] scope lp) (some (.Name yn p')) pos.line (envD sc) = pure true := by rfl) :
    WS g N sc k W m (.Assign [.Name yn p'] (.ListComp elt [⟨.Name x px, iter, [], 0⟩] scope lp) pos :: rest) ρ ω P := by
  refine ws_setLc (is := [t]) y own (fun _ => ω) (fun _ => ω) (keepX xs fun _ => true) (resX xs r) (fun i => (wipeR ρ (own.map (·.2))).set t (some (.dat (resX xs f i)))) hi
    (fun i d e => by
      obtain ⟨a, e1, rfl⟩ := sq_get e
      have : resX xs f i = f a := by unfold resX; rw [e1]
      rw [this]
      exact eg_name t hN hx)
    (fun i d e => by
      obtain ⟨a, e1, rfl⟩ := sq_get e
      have h2 : keepX xs (fun _ => true) i = true := by unfold keepX; rw [e1]
      rw [h2]
      exact eif_nil)
    (fun i d e hk => by
      obtain ⟨a, e1, rfl⟩ := sq_get e
      have h1 : resX xs f i = f a := by unfold resX; rw [e1]
      have h3 : resX xs r i = r a := by unfold resX; rw [e1]
      rw [h1, h3]
      exact he a (List.mem_of_getElem? e1))
    (fun _ _ _ _ => rfl) (by rw [List.length_map]; exact hz) ?_ (by intro i hi; rw [List.mem_singleton.mp hi]; exact hsub) ok hs hy hyl hsw
  rw [List.length_map, outs_all, List.filter_eq_self.mpr (fun _ _ => rfl)]
  exact hr
end
end Hw
set_option Elab.async false
set_option linter.all false
set_option maxRecDepth 100000
set_option maxHeartbeats 2000000
/-! The walks: bad poles, hums weighed, wrong words. -/
namespace Hw
open PySem PySem.Spec PyProof.Rows L2

inductive BadP (n : Nat) : D → Prop
  | p0 {d : D} : NSq d → BadP n d
  | p1 {d el : D} {xs : List D} : Sq d (el :: xs) → Ty el → wholeB el (.int 1) (.int ((n : Int) - 1)) = false → BadP n d
  | p2 {d : D} {xs : List D} (p : Int) : Sq d (.int p :: .int p :: xs) → 1 ≤ p → p ≤ (n : Int) - 1 → BadP n d
def term (ls : List Rat) (ws : List Int) (hs : List Rat) (k : Nat) : Rat := ls.getD k 0 * hs.getD k 0 * (ws.getD k 0 : Int)
def terms (ls : List Rat) (ws : List Int) (hs : List Rat) (n : Nat) : List Rat := (List.range n).map (term ls ws hs)
def noise (ls : List Rat) (ws : List Int) (hs : List Rat) : Rat := (terms ls ws hs ws.length).sum
theorem terms_succ (ls : List Rat) (ws : List Int) (hs : List Rat) (n : Nat) : terms ls ws hs (n + 1) = terms ls ws hs n ++ [term ls ws hs n] := by
  unfold terms
  rw [List.range_succ, List.map_append]
  rfl
theorem getD_of {α : Type} {xs : List α} {i : Nat} {a d : α} (e : xs[i]? = some a) : xs.getD i d = a := by
  rw [List.getD_eq_getElem?_getD, e] <;> rfl
theorem term_bt {c e : Nat} {ls hs : List Rat} {ws : List Int} {k : Nat} {l q : Rat} {w : Int} (hl : ls[k]? = some l) (hh : hs[k]? = some q) (hw : ws[k]? = some w) (bl : Rb c l) (bh : Rb e q) (sg : Sgn w) : term ls ws hs k = (if w = 1 then l * q else -(l * q)) ∧ Rb (c + e) (term ls ws hs k) := by
  unfold term
  rw [getD_of hl, getD_of hh, getD_of hw]
  have h1 := bl.mul bh
  rcases sg with rfl | rfl
  · have e : l * q * ((1 : Int) : Rat) = l * q := by grind
    rw [e, if_pos rfl]
    exact ⟨rfl, h1⟩
  · have e : l * q * ((-1 : Int) : Rat) = -(l * q) := by
      have : ((-1 : Int) : Rat) = -1 := by rfl
      rw [this]; grind
    rw [e, if_neg (by decide)]
    exact ⟨rfl, h1.neg⟩
/-- good hums -/
structure HmOk (n : Nat) (hs : List Rat) : Prop where
  len : hs.length = n
  bt : ∀ q ∈ hs, Rb 60 q
theorem enm_get {ds : List D} {i : Nat} {d : D} (e : (enm ds)[i]? = some d) : ∃ v, ds[i]? = some v ∧ d = .tup [.int (i : Int), v] := by
  obtain ⟨d1, d2, e1, e2, rfl⟩ := prs_get e
  refine ⟨d2, e2, ?_⟩
  rw [List.getElem?_map, List.getElem?_range (List.getElem?_eq_some_iff.mp e2).1] at e1
  cases e1
  rfl
/-- from the pole p on all signs turn -/
def flip (ws : List Int) (p : Int) : List Int := ws.take p.toNat ++ (ws.drop p.toNat).map fun w => -w
def flips (ws : List Int) (ps : List Int) : List Int := ps.foldl flip ws
theorem flip_len (ws : List Int) (p : Int) : (flip ws p).length = ws.length := by
  unfold flip
  simp
  omega
theorem flips_len (ws : List Int) : ∀ ps : List Int, (flips ws ps).length = ws.length := fun ps => by
  induction ps generalizing ws with
  | nil => rfl
  | cons p ps ih =>
    show (flips (flip ws p) ps).length = _
    rw [ih, flip_len]
theorem flips_take (ws : List Int) {ps : List Int} {i : Nat} {p : Int} (e : ps[i]? = some p) : flips ws (ps.take (i + 1)) = flip (flips ws (ps.take i)) p := by
  unfold flips
  rw [take_more e, List.foldl_append]
  rfl
section
variable {g : Gm} {x : XS g} {cH : Addr} (h : HasX g x cH)
include h
theorem c_check_polesX {d : D} {n : Nat} (b : BadP n d) : CallP g 3 "check_poles" [.int n, d] (.exc ⟨x.p, none⟩) := by
  refine call_ok ["count", "poles", "found", "pole"] ["count", "poles"] (h.fn 15 "check_poles" s_check_poles [] rfl) ⟨rfl, rfl, rfl, by decide +kernel, rfl, by decide +kernel, by decide +kernel⟩ (fun W hm => ?_) (fun _ _ _ _ _ _ us hl => match us, hl with | [_, _], _ => rfl)
  cases b with
  | p0 ns => exact ws_ifT (et_nT (et_val (ev_isnq h.li (ev_var 1 rfl rfl) ns))) (ws_raise0 h.xo.bp ⟨rfl, rfl⟩)
  | @p1 el xs q ht hw =>
    have c := c_whole3 h.1 ht (.int 1) (.int ((n : Int) - 1))
    rw [hw] at c
    refine ws_ifF (et_not (et_val (ev_isq h.li (ev_var 1 rfl rfl) q))) ?_
    refine ws_new 2 (en_lst ea_nil) ?_ (by decide)
    refine ws_forX (is := [3]) 0 (fun i => [some (.dat (.int n)), some (.dat d), some (.mu 0), none]) (fun i => [some (.dat (.int n)), some (.dat d), some (.mu 0), some (.dat el)]) (fun i => [[]]) (by simp) (ei_q (ev_var 1 rfl rfl) q) (.refl _) (fun i d e l => ?_) (fun i d e l => by omega) (fun d e => ?_)
    · have : i = 0 := by omega
      subst this
      cases e
      exact eg_name 3 rfl (by decide +kernel)
    · exact ws_ifT (et_w (ew_or0 (et_nT (et_val (ev_call (c.mono (by decide)) (ea_cons (ev_var 3 rfl rfl) (ea_cons ev_int (ea_cons (ev_bin (ev_var 0 rfl rfl) ev_int bin_sub) ea_nil)))))))) (ws_raise0 h.xo.bp ⟨rfl, rfl⟩)
  | @p2 xs p q l1 l2 =>
    have c := c_whole3 h.1 (ty_int p) (.int 1) (.int ((n : Int) - 1))
    rw [whole_rng, decide_eq_true l1, decide_eq_true l2] at c
    refine ws_ifF (et_not (et_val (ev_isq h.li (ev_var 1 rfl rfl) q))) ?_
    refine ws_new 2 (en_lst ea_nil) ?_ (by decide)
    refine ws_forX (is := [3]) 1 (fun i => [some (.dat (.int n)), some (.dat d), some (.mu 0), none]) (fun i => [some (.dat (.int n)), some (.dat d), some (.mu 0), some (.dat (.int p))]) (fun i => [nums (List.replicate i p)]) (by simp) (ei_q (ev_var 1 rfl rfl) q) (.refl _) (fun i d e l => ?_) (fun i d e l => ?_) (fun d e => ?_)
    · match i, e with
      | 0, e => cases e; exact eg_name 3 rfl (by decide +kernel)
      | 1, e => cases e; exact eg_name 3 rfl (by decide +kernel)
      | i + 2, e => omega
    · have : i = 0 := by omega
      subst this
      refine ws_ifF (et_w (ew_or (et_nF (et_val (ev_call (c.mono (by decide)) (ea_cons (ev_var 3 rfl rfl) (ea_cons ev_int (ea_cons (ev_bin (ev_var 0 rfl rfl) ev_int bin_sub) ea_nil)))))) (ew_or1 (EvT.is (et_inM 2 0 rfl (ev_var 3 rfl rfl) rfl) (by simp))))) ?_
      exact ws_app 2 0 rfl (ev_var 3 rfl rfl) rfl (by simp) (ws_nil ⟨.keep (.keep (.keep (.drop .nil))), rfl⟩)
    · exact ws_ifT (et_w (ew_or (et_nF (et_val (ev_call (c.mono (by decide)) (ea_cons (ev_var 3 rfl rfl) (ea_cons ev_int (ea_cons (ev_bin (ev_var 0 rfl rfl) ev_int bin_sub) ea_nil)))))) (ew_or1 (EvT.is (et_inM 2 0 rfl (ev_var 3 rfl rfl) rfl) (by simp))))) (ws_raise0 h.xo.bp ⟨rfl, rfl⟩)
theorem c_weigh_hum {ls ms hs : List Rat} {ws : List Int} {n : Nat} (o : LnOk ls ms) (ln : ls.length = n) (w : ws.length = n) (sg : ∀ w ∈ ws, Sgn w) (m : HmOk n hs) : CallP g 5 "weigh_hum" [line ls ms, .tup (nums ws), .tup (rats hs)] (.val (rat (noise ls ws hs))) := by
  refine call_ok ["line", "signs", "told", "amounts", "at", "sign", "amount"] ["line", "signs", "told"] (h.fn 16 "weigh_hum" s_weigh_hum [] rfl) ⟨rfl, rfl, rfl, by decide +kernel, rfl, by decide +kernel, by decide +kernel⟩ (fun W hm => ?_) (fun _ _ _ _ _ _ us hl => match us, hl with | [_, _, _], _ => rfl)
  have le := o.le
  refine ws_new 3 (en_lst ea_nil) ?_ (by decide)
  refine ws_for (is := [4, 5]) (fun i => [some (.dat (line ls ms)), some (.dat (.tup (nums ws))), some (.dat (.tup (rats hs))), some (.mu 0), none, none, none]) (fun i => [some (.dat (line ls ms)), some (.dat (.tup (nums ws))), some (.dat (.tup (rats hs))), some (.mu 0), some (.dat (.int (i : Int))), some (.dat ((nums ws).getD i .non)), none]) (fun i => [rats (terms ls ws hs i)]) (ei_enumT h.li (ea_cons (ev_var 1 rfl rfl) ea_nil)) (.refl _) (fun i d e => ?_) (fun i d e => ?_) ?_
  · obtain ⟨v, e1, rfl⟩ := enm_get e
    rw [List.getD_eq_getElem?_getD, e1]
    exact eg_tup (egs_cons 4 rfl (by decide +kernel) (egs_cons 5 rfl (by decide +kernel) egs_nil))
  · obtain ⟨v, e1, rfl⟩ := enm_get e
    rw [List.getD_eq_getElem?_getD, e1]
    obtain ⟨w', ew, rfl⟩ := sq_get e1
    have hi : i < ws.length := (List.getElem?_eq_some_iff.mp ew).1
    obtain ⟨l, hl⟩ := get_of (show i < ls.length by omega)
    obtain ⟨q, hq⟩ := get_of (show i < hs.length by have := m.len; omega)
    have bl := o.bl l (List.mem_of_getElem? hl)
    have bq := m.bt q (List.mem_of_getElem? hq)
    have s := sg w' (List.mem_of_getElem? ew)
    obtain ⟨et, bt⟩ := term_bt hl hq ew bl bq s
    have hl' : (rats ls)[((i : Int)).toNat]? = some (rat l) := by rw [Int.toNat_natCast]; exact map_get hl
    have hq' : (rats hs)[((i : Int)).toNat]? = some (rat q) := by rw [Int.toNat_natCast]; exact map_get hq
    refine ws_set 6 (ev_call ((c_times h.1 l q (bl.mono (by decide)) (bq.mono (by decide))).mono (by decide)) (ea_cons (ev_ix (ev_lengths h.li (ev_var 0 rfl rfl)) (ev_var 4 rfl rfl) (ix_tupN (by omega) hl')) (ea_cons (ev_ix (ev_var 2 rfl rfl) (ev_var 4 rfl rfl) (ix_tupN (by omega) hq')) ea_nil))) ?_
    refine ws_app 3 0 (d := rat (term ls ws hs i)) (ω1 := [rats (terms ls ws hs i)]) rfl ?_ rfl (by simp [terms]; omega) (ws_nil ⟨.keep (.keep (.keep (.keep (.drop (.drop (.drop .nil)))))), ?_⟩)
    · rw [et]
      by_cases c : w' = 1
      · rw [if_pos c]
        exact ev_ifT (EvT.is (et_cmp (ev_var 5 rfl rfl) ev_int cmp_eqI) (by simp [c])) (ev_var 6 rfl rfl)
      · rw [if_neg c]
        exact ev_ifF (EvT.is (et_cmp (ev_var 5 rfl rfl) ev_int cmp_eqI) (by simp [c])) (ev_call ((c_negative h.1 (l * q)).mono (by decide)) (ea_cons (ev_var 6 rfl rfl) ea_nil))
    · show [rats (terms ls ws hs i) ++ [rat (term ls ws hs i)]] = [rats (terms ls ws hs (i + 1))]
      rw [terms_succ]
      simp
  · rw [enm_len, List.length_map]
    refine ws_freeze (ω := []) 3 rfl (by decide) (mu_by rfl) ?_
    refine ws_ret (ev_call (c_sum_of h.1 (terms ls ws hs ws.length) (c := 80) (fun q hq => ?_) (by simp [terms]; omega) (by decide)) (ea_cons (ev_var 3 rfl rfl) ea_nil)) ⟨rfl, rfl⟩
    obtain ⟨i, hi, rfl⟩ := List.mem_map.mp hq
    have hi := List.mem_range.mp hi
    obtain ⟨w', ew⟩ := get_of hi
    obtain ⟨l, hl⟩ := get_of (show i < ls.length by omega)
    obtain ⟨q, hq⟩ := get_of (show i < hs.length by have := m.len; omega)
    exact (term_bt hl hq ew (o.bl l (List.mem_of_getElem? hl)) (m.bt q (List.mem_of_getElem? hq)) (sg w' (List.mem_of_getElem? ew))).2
theorem c_wrong_word {dw dp : D} {ls ms : List Rat} {ws ps qs : List Int} {n : Nat} (o : LnOk ls ms) (ln : ls.length = n) (w : WdOk n ws) (qw : Sq dw (nums ws)) (qp : Sq dp (nums ps)) (op : PlOk n ps) (hz : ps.length < 64) (hp : qs.Perm ps) (hs : qs.Pairwise (· ≤ ·)) :
    CallP g 5 "wrong_word" [line ls ms, dw, dp] (.val (.tup (nums (flips ws qs)))) := by
  refine call_ok ["line", "word", "poles", "signs", "pole", "sign"] ["line", "word", "poles"] (h.fn 17 "wrong_word" s_wrong_word [] rfl) ⟨rfl, rfl, rfl, by decide +kernel, rfl, by decide +kernel, by decide +kernel⟩ (fun W hm => ?_) (fun _ _ _ _ _ _ us hl => match us, hl with | [_, _, _], _ => rfl)
  have le := w.le
  have wl := w.len
  refine ws_set 3 (ev_call (c_check_word h qw w ln) (ea_cons (ev_var 0 rfl rfl) (ea_cons (ev_var 1 rfl rfl) ea_nil))) ?_
  refine ws_for (is := [4]) (fun i => [some (.dat (line ls ms)), some (.dat dw), some (.dat dp), some (.dat (.tup (nums (flips ws (qs.take i))))), none, none]) (fun i => [some (.dat (line ls ms)), some (.dat dw), some (.dat dp), some (.dat (.tup (nums (flips ws (qs.take i))))), some (.dat ((nums qs).getD i .non)), none]) (fun _ => [])
    (ei_tup (ev_call (by rw [show ((rats ls).length : Int) = (n : Int) by simp [ln]]; exact (c_check_poles h qp op hz hp hs).mono (by decide)) (ea_cons (ev_lenO h.li h.len (ev_var 0 rfl rfl) (by simp; omega)) (ea_cons (ev_var 2 rfl rfl) ea_nil)))) (.refl _) (fun i d e => ?_) (fun i d e => ?_) ?_
  · rw [List.getD_eq_getElem?_getD, e]
    exact eg_name 4 rfl (by decide +kernel)
  · obtain ⟨p, e1, rfl⟩ := sq_get e
    rw [List.getD_eq_getElem?_getD, e]
    have r := op.rng p (hp.subset (List.mem_of_getElem? e1))
    have fl := flips_len ws (qs.take i)
    refine ws_set 3 (ev_bin (ev_slTo (ev_var 3 rfl rfl) (ev_var 4 rfl rfl) (by omega) (by simp; omega)) (ev_cty h.li.tuple (ea_cons (ev_lcM 5 [("sign", 5)] ((flips ws (qs.take i)).drop p.toNat) D.int (fun w => D.int (-w)) (by rw [List.map_drop]; exact ei_tup (ev_slFrom (ev_var 3 rfl rfl) (ev_var 4 rfl rfl) (by omega) (by simp; omega))) (fun a _ => (ev_neg (ev_var 5 rfl rfl))) (by simp; omega)) ea_nil) fn_tuple_l) (bin_addT (by simp; omega))) (ws_nil ⟨?_, rfl⟩)
    rw [flips_take ws e1]
    have e2 : List.take p.toNat (nums (flips ws (qs.take i))) ++ ((flips ws (qs.take i)).drop p.toNat).map (fun w => D.int (-w)) = nums (flip (flips ws (qs.take i)) p) := by
      unfold flip
      simp [nums]
      rfl
    rw [← e2]
    exact .keep (.keep (.keep (.keep (.drop (.keep .nil)))))
  · rw [List.length_map, List.take_length]
    exact ws_ret (ev_var 3 rfl rfl) ⟨rfl, rfl⟩
end
end Hw
set_option Elab.async false
set_option linter.all false
set_option maxRecDepth 100000
set_option maxHeartbeats 2000000
/-! The walks: lots, tests, readings. -/
namespace Hw
open PySem PySem.Spec PyProof.Rows L2

abbrev lot (l : List Int) : D := .tup (nums l)
abbrev lots (ll : List (List Int)) : List D := ll.map lot
def start (l : List Int) : Int := match l.getLast? with
  | some p => p + 1
  | none => 1
def nxt (n : Nat) (lv : List (List Int)) : List (List Int) := lv.flatMap fun l => (ups (start l) ((n : Int) - start l).toNat).map fun p => l ++ [p]
def lev (n : Nat) : Nat → List (List Int)
  | 0 => [[]]
  | k + 1 => nxt n (lev n k)
def fnd (n : Nat) : Nat → List (List Int)
  | 0 => [[]]
  | k + 1 => fnd n k ++ lev n (k + 1)
theorem ups_mem {lo : Int} {m : Nat} {p : Int} (h : p ∈ ups lo m) : lo ≤ p ∧ p < lo + m := by
  unfold ups at h
  obtain ⟨i, hi, rfl⟩ := List.mem_map.mp h
  have := List.mem_range.mp hi
  omega
theorem ups_len (lo : Int) (m : Nat) : (ups lo m).length = m := by simp [ups]
/-- each lot of a level: its poles stand between 1 and n - 1 -/
theorem lev_rng (n : Nat) : ∀ k l, l ∈ lev n k → ∀ p ∈ l, 1 ≤ p ∧ p < (n : Int)
  | 0, l, hl, p, hp => by
    rw [List.mem_singleton.mp hl] at hp
    cases hp
  | k + 1, l, hl, p, hp => by
    obtain ⟨l0, h0, h1⟩ := List.mem_flatMap.mp hl
    obtain ⟨q, hq, rfl⟩ := List.mem_map.mp h1
    have ih := lev_rng n k l0 h0
    have r := ups_mem hq
    have st : 1 ≤ start l0 := by
      unfold start
      split
      · rename_i p0 e
        have := ih p0 (List.mem_of_getLast? e)
        omega
      · omega
    rcases List.mem_append.mp hp with z | z
    · exact ih p z
    · rw [List.mem_singleton.mp z]
      omega
theorem start_rng {n k : Nat} {l : List Int} (h : l ∈ lev n k) : 1 ≤ start l ∧ (start l ≤ (n : Int) ∨ start l = 1) := by
  have ih := lev_rng n k l h
  unfold start
  split
  · rename_i p0 e
    have := ih p0 (List.mem_of_getLast? e)
    omega
  · omega
theorem flatMap_len {α β : Type} (f : α → List β) (c : Nat) : ∀ xs : List α, (∀ a ∈ xs, (f a).length ≤ c) → (xs.flatMap f).length ≤ xs.length * c
  | [], _ => by simp
  | a :: xs, h => by
    rw [List.flatMap_cons, List.length_append, List.length_cons]
    have h1 := h a List.mem_cons_self
    have h2 := flatMap_len f c xs fun b hb => h b (List.mem_cons_of_mem _ hb)
    rw [Nat.add_mul]
    omega
theorem lev_len {n : Nat} (hn : n ≤ 24) : ∀ k, (lev n k).length ≤ 24 ^ k
  | 0 => by simp [lev]
  | k + 1 => by
    have ih := lev_len hn k
    have := flatMap_len (fun l => (ups (start l) ((n : Int) - start l).toNat).map fun p => l ++ [p]) 24 (lev n k) (fun l hl => by
      rw [List.length_map, ups_len]
      have := (start_rng hl).1
      omega)
    show (nxt n (lev n k)).length ≤ _
    unfold nxt
    rw [Nat.pow_succ]
    exact Nat.le_trans this (Nat.mul_le_mul_right 24 ih)
theorem fnd_len {n : Nat} (hn : n ≤ 24) : ∀ k, k ≤ 3 → (fnd n k).length ≤ 20000
  | 0, _ => by simp [fnd]
  | 1, _ => by
    have := lev_len hn 1
    simp [fnd] at *
    omega
  | 2, _ => by
    have := lev_len hn 1
    have := lev_len hn 2
    simp [fnd] at *
    omega
  | 3, _ => by
    have := lev_len hn 1
    have := lev_len hn 2
    have := lev_len hn 3
    simp [fnd] at *
    omega
theorem range_getD {α : Type} (xs : List α) (a0 : α) : (List.range xs.length).map (fun i => xs.getD i a0) = xs := by
  refine List.ext_getElem (by simp) fun i h1 h2 => ?_
  simp
  rw [List.getElem?_eq_getElem h2]
  rfl
theorem rows2_eq {α : Type} (xs : List α) (a0 : α) (F : α → List Int) (G : α → Int → D) : rows2 (fun i => nums (F (xs.getD i a0))) (fun i j => G (xs.getD i a0) ((F (xs.getD i a0)).getD j 0)) xs.length = xs.flatMap fun a => (F a).map (G a) := by
  unfold rows2
  have inner : ∀ a : α, (List.range (nums (F a)).length).map (fun j => G a ((F a).getD j 0)) = (F a).map (G a) := fun a => by
    have := congrArg (List.map (G a)) (range_getD (F a) 0)
    rw [List.map_map] at this
    simp only [nums, List.length_map]
    exact this
  have : (List.range xs.length).flatMap (fun i => (F (xs.getD i a0)).map (G (xs.getD i a0))) = ((List.range xs.length).map (fun i => xs.getD i a0)).flatMap (fun a => (F a).map (G a)) := by
    rw [List.flatMap_map]
  rw [range_getD] at this
  rw [← this]
  congr 1
  funext i
  exact inner _
theorem lev_lot (n : Nat) : ∀ k l, l ∈ lev n k → l.length = k
  | 0, l, hl => by rw [List.mem_singleton.mp hl]; rfl
  | k + 1, l, hl => by
    obtain ⟨l0, h0, h1⟩ := List.mem_flatMap.mp hl
    obtain ⟨q, hq, rfl⟩ := List.mem_map.mp h1
    have := lev_lot n k l0 h0
    simp [this]
theorem rows2_len {inn : Nat → List D} {res : Nat → Nat → D} (c : Nat) (hc : ∀ i, (inn i).length ≤ c) : ∀ n, (rows2 inn res n).length ≤ n * c
  | 0 => by simp [rows2]
  | n + 1 => by
    rw [rows2_succ, List.length_append, List.length_map, List.length_range, Nat.add_mul]
    have := rows2_len (res := res) c hc n
    have := hc n
    omega
section
variable {g : Gm} {x : XS g} {cH : Addr} (h : HasX g x cH)
include h
theorem c_lots_up_to {n m : Nat} (hn : n ≤ 24) (hm3 : m ≤ 3) : CallP g 1 "lots_up_to" [.int n, .int m] (.val (.lst (lots (fnd n m)))) := by
  refine call_ok ["count", "most", "found", "level", "turn", "lot", "pole"] ["count", "most"] (h.fn 18 "lots_up_to" s_lots_up_to [] rfl) ⟨rfl, rfl, rfl, by decide +kernel, rfl, by decide +kernel, by decide +kernel⟩ (fun W hm => ?_) (fun _ _ _ _ _ _ us hl => match us, hl with | [_, _], _ => rfl)
  refine ws_set 2 (ev_lst (ea_cons (ev_tup ea_nil) ea_nil)) ?_
  refine ws_set 3 (ev_lst (ea_cons (ev_tup ea_nil) ea_nil)) ?_
  refine ws_for (is := [4]) (fun i => [some (.dat (.int n)), some (.dat (.int m)), some (.dat (.lst (lots (fnd n i)))), some (.dat (.lst (lots (lev n i)))), none, none, none]) (fun i => [some (.dat (.int n)), some (.dat (.int m)), some (.dat (.lst (lots (fnd n i)))), some (.dat (.lst (lots (lev n i)))), some (.dat (.int (0 + (i : Int)))), none, none]) (fun _ => []) (ei_r1 h.li (ea_cons (ev_var 1 rfl rfl) ea_nil) (by omega)) (.refl _) (fun i d e => ?_) (fun i d e => ?_) ?_
  · obtain ⟨e1, rfl⟩ := ups_get e
    exact eg_name 4 rfl (by decide +kernel)
  · obtain ⟨e1, rfl⟩ := ups_get e
    have hi : i < 3 := by omega
    have mem : ∀ {j : Nat} {d : D}, (lots (lev n i))[j]? = some d → (lev n i).getD j [] ∈ lev n i ∧ d = lot ((lev n i).getD j []) := fun {j d} e => by
      obtain ⟨l, e2, rfl⟩ := sq_get e
      rw [getD_of e2]
      exact ⟨List.mem_of_getElem? e2, rfl⟩
    refine ws_setLc2 (is := [5]) (is1 := [6]) 3 [("lot", 5), ("pole", 6)] [6] (fun j => [some (.dat (.int n)), some (.dat (.int m)), some (.dat (.lst (lots (fnd n i)))), some (.dat (.lst (lots (lev n i)))), some (.dat (.int (0 + (i : Int)))), some (.dat (lot ((lev n i).getD j []))), none])
      (fun j => nums (ups (start ((lev n i).getD j [])) ((n : Int) - start ((lev n i).getD j [])).toNat)) (fun j p => [some (.dat (.int n)), some (.dat (.int m)), some (.dat (.lst (lots (fnd n i)))), some (.dat (.lst (lots (lev n i)))), some (.dat (.int (0 + (i : Int)))), some (.dat (lot ((lev n i).getD j []))), some (.dat (.int ((ups (start ((lev n i).getD j [])) ((n : Int) - start ((lev n i).getD j [])).toNat).getD p 0)))])
      (fun j p => lot ((lev n i).getD j [] ++ [(ups (start ((lev n i).getD j [])) ((n : Int) - start ((lev n i).getD j [])).toNat).getD p 0])) (ei_lst (ev_var 3 rfl rfl)) (fun j d e => ?_) (fun j d e => ?_) (fun j p d d1 e e2 => ?_) (fun j p d d1 e e2 => ?_) (fun j hj => ?_) ?_
    · obtain ⟨hm', rfl⟩ := mem e
      exact eg_name 5 rfl (by decide +kernel)
    · obtain ⟨hm', rfl⟩ := mem e
      have sr := start_rng hm'
      refine ei_r2 h.li (ea_cons (d := .int (start ((lev n i).getD j []))) ?_ (ea_cons (ev_var 0 rfl rfl) ea_nil)) (by omega) (by omega)
      unfold start
      cases hl : ((lev n i).getD j []).getLast? with
      | none =>
        have e0 : (lev n i).getD j [] = [] := List.getLast?_eq_none_iff.mp hl
        rw [e0]
        exact ev_ifF (EvT.is (et_tru (ev_var 5 rfl rfl)) rfl) ev_int
      | some p0 =>
        have ne : (lev n i).getD j [] ≠ [] := fun z => by rw [z] at hl; cases hl
        refine ev_ifT (EvT.is (et_tru (ev_var 5 rfl rfl)) ?_) (ev_bin (ev_ix (ev_var 5 rfl rfl) (ev_neg ev_int) (ix_tupLast ((by rw [List.getLast?_map, hl]; rfl)))) ev_int bin_add)
        cases hz : (lev n i).getD j [] with
        | nil => exact absurd hz ne
        | cons a l => rfl
    · obtain ⟨q, e3, rfl⟩ := sq_get e2
      rw [getD_of e3]
      exact eg_name 6 rfl (by decide +kernel)
    · obtain ⟨q, e3, rfl⟩ := sq_get e2
      rw [getD_of e3]
      have ll := lev_lot n i _ (mem e).1
      exact EvE.is (ev_bin (ev_var 5 rfl rfl) (ev_tup (ea_cons (ev_var 6 rfl rfl) ea_nil)) (bin_addT (by simp only [nums, List.length_map, List.length_cons, List.length_nil]; omega))) (by simp [nums])
    · have h1 := rows2_len (inn := fun j => nums (ups (start ((lev n i).getD j [])) ((n : Int) - start ((lev n i).getD j [])).toNat)) (res := fun j p => lot ((lev n i).getD j [] ++ [(ups (start ((lev n i).getD j [])) ((n : Int) - start ((lev n i).getD j [])).toNat).getD p 0])) 24 (fun j => by
        simp only [nums, List.length_map, ups_len]
        have : 1 ≤ start ((lev n i).getD j []) := by
          by_cases hj : j < (lev n i).length
          · obtain ⟨l, hl⟩ := get_of hj
            rw [getD_of hl]
            exact (start_rng (List.mem_of_getElem? hl)).1
          · rw [List.getD_eq_getElem?_getD, List.getElem?_eq_none (by omega)]
            decide
        omega) (j + 1)
      rw [List.length_map] at hj
      have h2 := lev_len hn i
      have h3 : 24 ^ i ≤ 24 ^ 2 := Nat.pow_le_pow_right (by decide) (by omega)
      refine Nat.le_trans h1 ?_
      omega
    · have er : rows2 (fun j => nums (ups (start ((lev n i).getD j [])) ((n : Int) - start ((lev n i).getD j [])).toNat)) (fun j p => lot ((lev n i).getD j [] ++ [(ups (start ((lev n i).getD j [])) ((n : Int) - start ((lev n i).getD j [])).toNat).getD p 0])) (lots (lev n i)).length = lots (lev n (i + 1)) := by
        rw [List.length_map, rows2_eq (lev n i) [] (fun l => ups (start l) ((n : Int) - start l).toNat) (fun l p => lot (l ++ [p]))]
        show _ = (nxt n (lev n i)).map lot
        unfold nxt
        rw [List.map_flatMap]
        simp only [List.map_map]
        rfl
      rw [er]
      have f1 := fnd_len hn i (by omega)
      have f2 := lev_len hn (i + 1)
      have f3 : 24 ^ (i + 1) ≤ 24 ^ 3 := Nat.pow_le_pow_right (by decide) (by omega)
      refine ws_set 2 (ev_bin (ev_var 2 rfl rfl) (ev_var 3 rfl rfl) (bin_addL (by simp only [List.length_map]; omega))) (ws_nil ⟨?_, rfl⟩)
      have ea : lots (fnd n i) ++ lots (lev n (i + 1)) = lots (fnd n (i + 1)) := (List.map_append ..).symm
      rw [ea]
      exact .keep (.keep (.keep (.keep (.drop (.keep (.keep .nil))))))
  · have e : ((ups 0 ((m : Int)).toNat).map D.int).length = m := by simp [ups_len]
    rw [e]
    exact ws_ret (ev_var 2 rfl rfl) ⟨rfl, rfl⟩
theorem c_wrong_lots {ls ms : List Rat} {n m : Nat} (ln : ls.length = n) (hn : n ≤ 24) (hm3 : m ≤ 3) : CallP g 3 "wrong_lots" [line ls ms, .int m] (.val (.tup (lots (fnd n m)))) := by
  refine call_ok ["line", "most"] ["line", "most"] (h.fn 19 "wrong_lots" s_wrong_lots [] rfl) ⟨rfl, rfl, rfl, by decide +kernel, rfl, by decide +kernel, by decide +kernel⟩ (fun W hm => ?_) (fun _ _ _ _ _ _ us hl => match us, hl with | [_, _], _ => rfl)
  have c := c_whole3 h.1 (ty_int (m : Int)) (.int 0) (.int 3)
  rw [whole_rng, decide_eq_true (show (0 : Int) ≤ m by omega), decide_eq_true (show (m : Int) ≤ 3 by omega)] at c
  refine ws_ifF (et_not (et_val (ev_call (c.mono (by decide)) (ea_cons (ev_var 1 rfl rfl) (ea_cons ev_int (ea_cons (ev_glo h.g_MOST_WRONG) ea_nil)))))) ?_
  exact ws_ret (ev_cty h.li.tuple (ea_cons (ev_call (by rw [show ((rats ls).length : Int) = (n : Int) by simp [ln]]; exact (c_lots_up_to h hn hm3).mono (by decide)) (ea_cons (ev_lenO h.li h.len (ev_var 0 rfl rfl) (by simp; omega)) (ea_cons (ev_var 1 rfl rfl) ea_nil))) ea_nil) fn_tuple_l) ⟨rfl, rfl⟩
theorem c_wrong_lotsX {ls ms : List Rat} {d : D} (ht : Ty d) (hw : wholeB d (.int 0) (.int 3) = false) : CallP g 2 "wrong_lots" [line ls ms, d] (.exc ⟨x.m, none⟩) := by
  refine call_ok ["line", "most"] ["line", "most"] (h.fn 19 "wrong_lots" s_wrong_lots [] rfl) ⟨rfl, rfl, rfl, by decide +kernel, rfl, by decide +kernel, by decide +kernel⟩ (fun W hm => ?_) (fun _ _ _ _ _ _ us hl => match us, hl with | [_, _], _ => rfl)
  have c := c_whole3 h.1 ht (.int 0) (.int 3)
  rw [hw] at c
  exact ws_ifT (et_not (et_val (ev_call c (ea_cons (ev_var 1 rfl rfl) (ea_cons ev_int (ea_cons (ev_glo h.g_MOST_WRONG) ea_nil)))))) (ws_raise0 h.xo.bm ⟨rfl, rfl⟩)
end
end Hw
set_option Elab.async false
set_option linter.all false
set_option maxRecDepth 100000
set_option maxHeartbeats 2000000
/-! The walks: tests, readings, tails, the lots that fit. -/
namespace Hw
open PySem PySem.Spec PyProof.Rows L2

/-- good hums, with small entries -/
structure HmS (n : Nat) (hs : List Rat) : Prop where
  len : hs.length = n
  bt : ∀ q ∈ hs, Rb 20 q
theorem HmS.ok {n : Nat} {hs : List Rat} (m : HmS n hs) : HmOk n hs := ⟨m.len, fun q hq => (m.bt q hq).mono (by decide)⟩
abbrev hum (hs : List Rat) : D := .tup (rats hs)
/-- the tests as they are given -/
structure TsOk (n : Nat) (d : D) (xs : List D) (hss : List (List Rat)) : Prop where
  q : Sq d xs
  len : xs.length = hss.length
  pos : 1 ≤ hss.length
  le : hss.length ≤ 6
  n24 : n ≤ 24
  each : ∀ (i : Nat) (hs : List Rat), hss[i]? = some hs → hs.length = n ∧ ∃ e, xs[i]? = some e ∧ Sq e (rats hs)
/-- tests with a bad one: where, what -/
inductive BadT (n : Nat) : D → Int → Str → Prop
  | t0 {d : D} : NSq d → BadT n d 0 "many"
  | t1 {d : D} {xs : List D} : Sq d xs → (xs.length < 1 ∨ 6 < xs.length) → xs.length ≤ 1000000 → BadT n d 0 "many"
  | t2 {d el : D} {xs : List D} {hss : List (List Rat)} (i : Nat) : Sq d xs → xs.length ≤ 6 → (∀ j, j < i → ∃ hs e, hss[j]? = some hs ∧ hs.length = n ∧ xs[j]? = some e ∧ Sq e (rats hs)) → xs[i]? = some el → BadH n el → BadT n d i "hum"
theorem rng_b {a : Int} {n m : Int} : (decide (n ≤ a) && decide (a ≤ m)) = decide (n ≤ a ∧ a ≤ m) := by
  rw [Bool.eq_iff_iff]; simp
section
variable {g : Gm} {x : XS g} {cH : Addr} (h : HasX g x cH)
include h
theorem c_check_tests {d : D} {xs : List D} {ls ms : List Rat} {hss : List (List Rat)} {n : Nat} (ln : ls.length = n) (o : TsOk n d xs hss) : CallP g 4 "check_tests" [line ls ms, d] (.val (.tup (hss.map hum))) := by
  refine call_ok ["line", "tests", "kept", "number"] ["line", "tests"] (h.fn 20 "check_tests" s_check_tests [] rfl) ⟨rfl, rfl, rfl, by decide +kernel, rfl, by decide +kernel, by decide +kernel⟩ (fun W hm => ?_) (fun _ _ _ _ _ _ us hl => match us, hl with | [_, _], _ => rfl)
  have q := o.q
  have l1 := o.len
  have l2 := o.pos
  have l3 := o.le
  have n24 := o.n24
  refine ws_ifF (et_w (ew_or (et_nF (et_val (ev_isq h.li (ev_var 1 rfl rfl) q))) (ew_or1 (et_nF (EvT.is (et_chain ev_int (ev_cb h.li.len (ea_cons (ev_var 1 rfl rfl) ea_nil) (fn_len_q q)) (ev_glo h.g_MOST_TESTS) cmp_le cmp_le) (by simp; omega)))))) ?_
  refine ws_new 2 (en_lst ea_nil) ?_ (by decide)
  refine ws_for (is := [3]) (fun i => [some (.dat (line ls ms)), some (.dat d), some (.mu 0), none]) (fun i => [some (.dat (line ls ms)), some (.dat d), some (.mu 0), some (.dat (.int (0 + (i : Int))))]) (fun i => [(hss.take i).map hum]) (ei_r1 h.li (ea_cons (ev_cb h.li.len (ea_cons (ev_var 1 rfl rfl) ea_nil) (fn_len_q q)) ea_nil) (by simp; omega)) (.refl _) (fun i d e => ?_) (fun i d e => ?_) ?_
  · obtain ⟨e1, rfl⟩ := ups_get e
    exact eg_name 3 rfl (by decide +kernel)
  · obtain ⟨e1, rfl⟩ := ups_get e
    obtain ⟨hs, ehs⟩ := get_of (show i < hss.length by omega)
    obtain ⟨hl, e2, he2, qe⟩ := o.each i hs ehs
    have he2' : xs[((0 : Int) + (i : Int)).toNat]? = some e2 := by rw [int_nat]; exact he2
    have c := c_check_hum h qe (by omega)
    rw [show (hs.length : Int) = ((rats ls).length : Int) by simp; omega] at c
    have ll := List.length_take_le' i hss
    refine ws_tryOk hm h.bh.gC (ρ1 := [some (.dat (line ls ms)), some (.dat d), some (.mu 0), some (.dat (.int (0 + (i : Int))))]) (ω1 := [(hss.take (i + 1)).map hum]) (fun W' => ?_) (ws_nil ⟨.keep (.keep (.keep (.drop .nil))), rfl⟩)
    refine ws_app 2 0 rfl (ev_callN c (ea_cons (ev_lenO h.li h.len (ev_var 0 rfl rfl) (by simp; omega)) (ea_cons (ev_ix (ev_var 1 rfl rfl) (ev_var 3 rfl rfl) (ix_q q (by omega) he2')) ea_nil))) rfl (by simp; omega) (ws_nil ?_)
    rw [take_more ehs]
    simp
  · have el : ((ups 0 ((((xs.length : Nat) : Int)).toNat)).map D.int).length = hss.length := by simp [ups_len, l1]
    rw [el, List.take_length]
    refine ws_freeze (ω := []) 2 rfl (by decide) (mu_by rfl) ?_
    exact ws_ret (ev_cty h.li.tuple (ea_cons (ev_var 2 rfl rfl) ea_nil) fn_tuple_l) ⟨rfl, rfl⟩
theorem c_check_testsX {d : D} {ls ms : List Rat} {n : Nat} {i : Int} {s : Str} (ln : ls.length = n) (n24 : n ≤ 24) (b : BadT n d i s) : CallP g 4 "check_tests" [line ls ms, d] (.exc ⟨x.t, some [("index", .int i), ("what", .str s)]⟩) := by
  refine call_ok ["line", "tests", "kept", "number"] ["line", "tests"] (h.fn 20 "check_tests" s_check_tests [] rfl) ⟨rfl, rfl, rfl, by decide +kernel, rfl, by decide +kernel, by decide +kernel⟩ (fun W hm => ?_) (fun _ _ _ _ _ _ us hl => match us, hl with | [_, _], _ => rfl)
  cases b with
  | t0 ns => exact ws_ifT (et_w (ew_or0 (et_nT (et_val (ev_isnq h.li (ev_var 1 rfl rfl) ns))))) (ws_raise2 h.sup h.xo.bt (ea_cons ev_int (ea_cons ev_str ea_nil)) ⟨rfl, rfl⟩)
  | @t1 xs q hl hz => exact ws_ifT (et_w (ew_or (et_nF (et_val (ev_isq h.li (ev_var 1 rfl rfl) q))) (ew_or1 (et_nT (EvT.is (et_chain ev_int (ev_cb h.li.len (ea_cons (ev_var 1 rfl rfl) ea_nil) (fn_len_q q)) (ev_glo h.g_MOST_TESTS) cmp_le cmp_le) (by simp; omega)))))) (ws_raise2 h.sup h.xo.bt (ea_cons ev_int (ea_cons ev_str ea_nil)) ⟨rfl, rfl⟩)
  | @t2 el xs hss i q hz hj he bh =>
    have hi : i < xs.length := (List.getElem?_eq_some_iff.mp he).1
    refine ws_ifF (et_w (ew_or (et_nF (et_val (ev_isq h.li (ev_var 1 rfl rfl) q))) (ew_or1 (et_nF (EvT.is (et_chain ev_int (ev_cb h.li.len (ea_cons (ev_var 1 rfl rfl) ea_nil) (fn_len_q q)) (ev_glo h.g_MOST_TESTS) cmp_le cmp_le) (by simp; omega)))))) ?_
    refine ws_new 2 (en_lst ea_nil) ?_ (by decide)
    refine ws_forX (is := [3]) i (fun i => [some (.dat (line ls ms)), some (.dat d), some (.mu 0), none]) (fun i => [some (.dat (line ls ms)), some (.dat d), some (.mu 0), some (.dat (.int (0 + (i : Int))))]) (fun i => [(hss.take i).map hum]) (by simp [ups]; omega) (ei_r1 h.li (ea_cons (ev_cb h.li.len (ea_cons (ev_var 1 rfl rfl) ea_nil) (fn_len_q q)) ea_nil) (by simp; omega)) (.refl _) (fun j d e _ => ?_) (fun j d e hlt => ?_) (fun d e => ?_)
    · obtain ⟨e1, rfl⟩ := ups_get e
      exact eg_name 3 rfl (by decide +kernel)
    · obtain ⟨e1, rfl⟩ := ups_get e
      obtain ⟨hs, e2, ehs, hl, he2, qe⟩ := hj j hlt
      have he2' : xs[((0 : Int) + (j : Int)).toNat]? = some e2 := by rw [int_nat]; exact he2
      have c := c_check_hum h qe (by omega)
      rw [show (hs.length : Int) = ((rats ls).length : Int) by simp; omega] at c
      have ll := List.length_take_le j hss
      refine ws_tryOk hm h.bh.gC (ρ1 := [some (.dat (line ls ms)), some (.dat d), some (.mu 0), some (.dat (.int (0 + (j : Int))))]) (ω1 := [(hss.take (j + 1)).map hum]) (fun W' => ?_) (ws_nil ⟨.keep (.keep (.keep (.drop .nil))), rfl⟩)
      refine ws_app 2 0 rfl (ev_callN c (ea_cons (ev_lenO h.li h.len (ev_var 0 rfl rfl) (by simp; omega)) (ea_cons (ev_ix (ev_var 1 rfl rfl) (ev_var 3 rfl rfl) (ix_q q (by omega) he2')) ea_nil))) rfl (by simp; omega) (ws_nil ?_)
      rw [take_more ehs]
      simp
    · have he' : xs[((0 : Int) + (i : Int)).toNat]? = some el := by rw [int_nat]; exact he
      obtain ⟨ii, c⟩ := c_check_humX h bh (by omega)
      rw [show (n : Int) = ((rats ls).length : Int) by simp; omega] at c
      exact ws_tryX (p1 := ⟨0, 0, 0, 0⟩) 2 0 3 hm h.sup h.bh.gC h.xo.bt h.exH rfl rfl (fun W' => ev_callN c (ea_cons (ev_lenO h.li h.len (ev_var 0 rfl rfl) (by simp; omega)) (ea_cons (ev_ix (ev_var 1 rfl rfl) (ev_var 3 rfl rfl) (ix_q q (by omega) he')) ea_nil))) ⟨by rw [show (0 : Int) + (i : Int) = i by omega], rfl⟩
theorem c_read_tests {dw d : D} {xs : List D} {ls ms : List Rat} {ws : List Int} {hss : List (List Rat)} {n : Nat} (o : LnOk ls ms) (ln : ls.length = n) (qw : Sq dw (nums ws)) (w : WdOk n ws) (t : TsOk n d xs hss) (ts : ∀ hs ∈ hss, HmS n hs) :
    CallP g 6 "read_tests" [line ls ms, dw, d] (.val (.tup (rats (hss.map (noise ls ws))))) := by
  refine call_ok ["line", "word", "tests", "signs", "told"] ["line", "word", "tests"] (h.fn 21 "read_tests" s_read_tests [] rfl) ⟨rfl, rfl, rfl, by decide +kernel, rfl, by decide +kernel, by decide +kernel⟩ (fun W hm => ?_) (fun _ _ _ _ _ _ us hl => match us, hl with | [_, _, _], _ => rfl)
  have l3 := t.le
  refine ws_set 3 (ev_call ((c_check_word h qw w ln).mono (by decide)) (ea_cons (ev_var 0 rfl rfl) (ea_cons (ev_var 1 rfl rfl) ea_nil))) ?_
  exact ws_ret (ev_cty h.li.tuple (ea_cons (ev_lcM 4 [("told", 4)] hss hum (fun hs => rat (noise ls ws hs)) (ei_tup (ev_call ((c_check_tests h ln t).mono (by decide)) (ea_cons (ev_var 0 rfl rfl) (ea_cons (ev_var 2 rfl rfl) ea_nil)))) (fun hs hh => (ev_call (c_weigh_hum h o ln w.len w.sg (ts hs hh).ok) (ea_cons (ev_var 0 rfl rfl) (ea_cons (ev_var 3 rfl rfl) (ea_cons (ev_var 4 rfl rfl) ea_nil))))) (by omega)) ea_nil) fn_tuple_l) ⟨by simp [rats], rfl⟩
theorem c_read_testsX {dw d : D} {ls ms : List Rat} {n : Nat} {i : Int} {s : Str} (b : BadW n dw i s) (ln : ls.length = n) (n1 : 1 ≤ n) (n2 : n ≤ 24) : CallP g 5 "read_tests" [line ls ms, dw, d] (.exc ⟨x.w, some [("index", .int i), ("what", .str s)]⟩) := by
  refine call_ok ["line", "word", "tests", "signs", "told"] ["line", "word", "tests"] (h.fn 21 "read_tests" s_read_tests [] rfl) ⟨rfl, rfl, rfl, by decide +kernel, rfl, by decide +kernel, by decide +kernel⟩ (fun W hm => ?_) (fun _ _ _ _ _ _ us hl => match us, hl with | [_, _, _], _ => rfl)
  exact ws_setX (i := 3) (ev_call (c_check_wordX h b ln n1 n2) (ea_cons (ev_var 0 rfl rfl) (ea_cons (ev_var 1 rfl rfl) ea_nil)) (fun _ => hm)) ⟨rfl, rfl⟩
theorem c_read_testsY {dw d : D} {ls ms : List Rat} {ws : List Int} {n : Nat} {i : Int} {s : Str} (ln : ls.length = n) (qw : Sq dw (nums ws)) (w : WdOk n ws) (b : BadT n d i s) : CallP g 5 "read_tests" [line ls ms, dw, d] (.exc ⟨x.t, some [("index", .int i), ("what", .str s)]⟩) := by
  refine call_ok ["line", "word", "tests", "signs", "told"] ["line", "word", "tests"] (h.fn 21 "read_tests" s_read_tests [] rfl) ⟨rfl, rfl, rfl, by decide +kernel, rfl, by decide +kernel, by decide +kernel⟩ (fun W hm => ?_) (fun _ _ _ _ _ _ us hl => match us, hl with | [_, _, _], _ => rfl)
  refine ws_set 3 (ev_call (c_check_word h qw w ln) (ea_cons (ev_var 0 rfl rfl) (ea_cons (ev_var 1 rfl rfl) ea_nil))) ?_
  exact ws_retX (ev_ctyX (T := "tuple") h.li.tuple (ev_lcX [("told", 4)] (ev_call (c_check_testsX h ln w.le b) (ea_cons (ev_var 0 rfl rfl) (ea_cons (ev_var 2 rfl rfl) ea_nil)) (fun _ => hm)))) ⟨rfl, rfl⟩
end
end Hw
set_option Elab.async false
set_option linter.all false
set_option maxRecDepth 100000
set_option maxHeartbeats 2000000
/-! The walks: readings, tails, lots that fit. -/
namespace Hw
open PySem PySem.Spec PyProof.Rows L2

/-- readings with a bad one: where, what -/
inductive BadR (m : Nat) : D → Int → Str → Prop
  | r1 {d : D} {xs : List D} : Sq d xs → xs.length ≠ m → xs.length ≤ 1000000 → BadR m d 0 "many"
  | r2 {d el : D} {xs : List D} (i : Nat) : Sq d xs → xs.length = m → (∀ j, j < i → ∃ q : Rat, xs[j]? = some (rat q)) → xs[i]? = some el → NRat el → BadR m d i "reading"
def ttl (ls : List Rat) (ws : List Int) (hs : List Rat) (n : Nat) : Nat → Rat
  | 0 => 0
  | j + 1 => ttl ls ws hs n j + term ls ws hs (n - 1 - j)
def tails (ls : List Rat) (ws : List Int) (hs : List Rat) (n : Nat) : List Rat := ((List.range n).map fun t => ttl ls ws hs n (t + 1)).reverse
def wti (i : Nat) : Int := if i % 2 = 0 then -2 else 2
def fo (T : List Rat) (l : List Int) : Nat → Rat
  | 0 => T.getD 0 0
  | i + 1 => fo T l i + (wti i : Int) * T.getD (l.getD i 0).toNat 0
def lrd (T : List Rat) (l : List Int) : Rat := fo T l l.length
theorem wti_succ (i : Nat) : wti (i + 1) = -wti i := by
  unfold wti
  by_cases c : i % 2 = 0
  · rw [if_pos c, if_neg (by omega)]; rfl
  · rw [if_neg c, if_pos (by omega)]
theorem wti_bt (i : Nat) : Rb 2 ((wti i : Int) : Rat) := Rb.int (by
  unfold wti
  by_cases c : i % 2 = 0
  · rw [if_pos c]; show (-2 : Int).natAbs < 2 ^ 2; decide
  · rw [if_neg c]; show (2 : Int).natAbs < 2 ^ 2; decide)
theorem rat_inj {p q : Rat} (e : rat p = rat q) : p = q := by
  unfold rat at e
  injection e with e
  injection e with e1 e
  injection e with e2 e
  injection e1 with e1
  injection e2 with e2
  exact Rat.ext e1 (by exact_mod_cast e2)
theorem rats_inj : ∀ {ps qs : List Rat}, rats ps = rats qs → ps = qs
  | [], [], _ => rfl
  | p :: ps, q :: qs, e => by
    injection e with e1 e2
    rw [rat_inj e1, rats_inj e2]
  | [], _ :: _, e => by cases e
  | _ :: _, [], e => by cases e
theorem sh_rat (q : Rat) : Sh 1 (rat q) := .tup fun d hd => by
  rcases List.mem_cons.mp hd with rfl | hd
  · exact .int
  · rcases List.mem_cons.mp hd with rfl | hd
    · exact .int
    · cases hd
theorem sh_hum (hs : List Rat) : Sh 2 (hum hs) := .tup fun d hd => by
  obtain ⟨q, _, rfl⟩ := List.mem_map.mp hd
  exact sh_rat q
theorem hum_iff {ps qs : List Rat} : decide (ps = qs) = true ↔ hum ps = hum qs := by
  rw [decide_eq_true_iff]
  exact ⟨fun e => by rw [e], fun e => rats_inj (by injection e)⟩
/-- what is needed of the line, the word and the hum -/
structure Sc (ls : List Rat) (ws : List Int) (hs : List Rat) (n : Nat) : Prop where
  l1 : ls.length = n
  l2 : ws.length = n
  l3 : hs.length = n
  b1 : ∀ q ∈ ls, Rb 20 q
  b3 : ∀ q ∈ hs, Rb 20 q
  sg : ∀ w ∈ ws, Sgn w
  le : n ≤ 24
  pos : 1 ≤ n
theorem Sc.term {ls hs : List Rat} {ws : List Int} {n : Nat} (s : Sc ls ws hs n) {k : Nat} (hk : k < n) : Rb 40 (term ls ws hs k) := by
  have := s.l1
  have := s.l2
  have := s.l3
  obtain ⟨w', ew⟩ := get_of (show k < ws.length by omega)
  obtain ⟨l, hl⟩ := get_of (show k < ls.length by omega)
  obtain ⟨q, hq⟩ := get_of (show k < hs.length by omega)
  exact (term_bt hl hq ew (s.b1 l (List.mem_of_getElem? hl)) (s.b3 q (List.mem_of_getElem? hq)) (s.sg w' (List.mem_of_getElem? ew))).2
theorem Sc.ttl {ls hs : List Rat} {ws : List Int} {n : Nat} (s : Sc ls ws hs n) : ∀ j, j ≤ n → Rb (41 * j + 1) (ttl ls ws hs n j)
  | 0, _ => Rb.int (i := 0) (by show (0 : Int).natAbs < 2 ^ 1; decide)
  | j + 1, hj => ((s.ttl j (by omega)).add (s.term (k := n - 1 - j) (by omega))).mono (by omega)
theorem tails_len (ls : List Rat) (ws : List Int) (hs : List Rat) (n : Nat) : (tails ls ws hs n).length = n := by simp [tails]
theorem Sc.tails {ls hs : List Rat} {ws : List Int} {n : Nat} (s : Sc ls ws hs n) : ∀ q ∈ tails ls ws hs n, Rb 985 q := fun q hq => by
  unfold Hw.tails at hq
  obtain ⟨i, hi, rfl⟩ := List.mem_map.mp (List.mem_reverse.mp hq)
  have := List.mem_range.mp hi
  have le := s.le
  exact (s.ttl (i + 1) (by omega)).mono (by omega)
theorem fo_bt {T : List Rat} {l : List Int} (hT : ∀ q ∈ T, Rb 985 q) (h0 : 0 < T.length) (hl : ∀ p ∈ l, 0 ≤ p ∧ p < (T.length : Int)) : ∀ i, i ≤ l.length → Rb (988 * i + 985) (fo T l i)
  | 0, _ => by
    obtain ⟨t, ht⟩ := get_of h0
    show Rb _ (T.getD 0 0)
    rw [getD_of ht]
    exact (hT t (List.mem_of_getElem? ht)).mono (by omega)
  | i + 1, hi => by
    obtain ⟨p, hp⟩ := get_of (show i < l.length by omega)
    have r := hl p (List.mem_of_getElem? hp)
    obtain ⟨t, ht⟩ := get_of (show p.toNat < T.length by omega)
    show Rb _ (fo T l i + (wti i : Int) * T.getD (l.getD i 0).toNat 0)
    rw [getD_of hp, getD_of ht]
    exact ((fo_bt hT h0 hl i (by omega)).add ((wti_bt i).mul (hT t (List.mem_of_getElem? ht)))).mono (by omega)
def rowOf (ls : List Rat) (ws : List Int) (hss : List (List Rat)) (n : Nat) (l : List Int) : List Rat := hss.map fun hs => lrd (tails ls ws hs n) l
def fits (ls : List Rat) (ws : List Int) (hss : List (List Rat)) (rs : List Rat) (n m : Nat) : List (List Int) := (fnd n m).filter fun l => decide (rowOf ls ws hss n l = rs)
theorem fnd_lev (n : Nat) : ∀ k l, l ∈ fnd n k → ∃ j, j ≤ k ∧ l ∈ lev n j
  | 0, l, hl => ⟨0, Nat.le_refl _, hl⟩
  | k + 1, l, hl => by
    rcases List.mem_append.mp hl with z | z
    · obtain ⟨j, hj, e⟩ := fnd_lev n k l z
      exact ⟨j, by omega, e⟩
    · exact ⟨k + 1, Nat.le_refl _, z⟩
section
variable {g : Gm} {x : XS g} {cH : Addr} (h : HasX g x cH)
include h
theorem c_check_readings {d : D} {ks : List D} {rs : List Rat} (q : Sq d (rats rs)) (hl : rs.length = ks.length) (hz : ks.length ≤ 1000) : CallP g 3 "check_readings" [.tup ks, d] (.val (hum rs)) := by
  refine call_ok ["tests", "readings", "number"] ["tests", "readings"] (h.fn 22 "check_readings" s_check_readings [] rfl) ⟨rfl, rfl, rfl, by decide +kernel, rfl, by decide +kernel, by decide +kernel⟩ (fun W hm => ?_) (fun _ _ _ _ _ _ us hl => match us, hl with | [_, _], _ => rfl)
  refine ws_ifF (et_w (ew_or (et_nF (et_val (ev_isq h.li (ev_var 1 rfl rfl) q))) (ew_or1 (EvT.is (et_cmp (ev_cb h.li.len (ea_cons (ev_var 1 rfl rfl) ea_nil) (fn_len_q q)) (ev_cb h.li.len (ea_cons (ev_var 0 rfl rfl) ea_nil) fn_len_t) cmp_neI) (by simp [hl]))))) ?_
  refine ws_for (is := [2]) (fun i => [some (.dat (.tup ks)), some (.dat d), none]) (fun i => [some (.dat (.tup ks)), some (.dat d), some (.dat (.int (0 + (i : Int))))]) (fun _ => []) (ei_r1 h.li (ea_cons (ev_cb h.li.len (ea_cons (ev_var 1 rfl rfl) ea_nil) (fn_len_q q)) ea_nil) (by simp; omega)) (.refl _) (fun i d e => ?_) (fun i d e => ?_) ?_
  · obtain ⟨e1, rfl⟩ := ups_get e
    exact eg_name 2 rfl (by decide +kernel)
  · obtain ⟨e1, rfl⟩ := ups_get e
    obtain ⟨p, hp⟩ := get_of (show i < rs.length by simpa using e1)
    have hp' : (rats rs)[((0 : Int) + (i : Int)).toNat]? = some (rat p) := by rw [int_nat]; exact map_get hp
    exact ws_ifF (et_not (et_val (ev_call (c_is_ratioQ h.1 p) (ea_cons (ev_ix (ev_var 1 rfl rfl) (ev_var 2 rfl rfl) (ix_q q (by omega) hp')) ea_nil)))) (ws_nil ⟨.keep (.keep (.drop .nil)), rfl⟩)
  · exact ws_ret (ev_cty h.li.tuple (ea_cons (ev_var 1 rfl rfl) ea_nil) (fn_tuple_q q)) ⟨rfl, rfl⟩
theorem c_check_readingsX {d : D} {ks : List D} {i : Int} {s : Str} (b : BadR ks.length d i s) (hz : ks.length ≤ 1000) : CallP g 3 "check_readings" [.tup ks, d] (.exc ⟨x.r, some [("index", .int i), ("what", .str s)]⟩) := by
  refine call_ok ["tests", "readings", "number"] ["tests", "readings"] (h.fn 22 "check_readings" s_check_readings [] rfl) ⟨rfl, rfl, rfl, by decide +kernel, rfl, by decide +kernel, by decide +kernel⟩ (fun W hm => ?_) (fun _ _ _ _ _ _ us hl => match us, hl with | [_, _], _ => rfl)
  cases b with
  | @r1 xs q hl hz => exact ws_ifT (et_w (ew_or (et_nF (et_val (ev_isq h.li (ev_var 1 rfl rfl) q))) (ew_or1 (EvT.is (et_cmp (ev_cb h.li.len (ea_cons (ev_var 1 rfl rfl) ea_nil) (fn_len_q q)) (ev_cb h.li.len (ea_cons (ev_var 0 rfl rfl) ea_nil) fn_len_t) cmp_neI) (by simp; omega))))) (ws_raise2 h.sup h.xo.br (ea_cons ev_int (ea_cons ev_str ea_nil)) ⟨rfl, rfl⟩)
  | @r2 el xs i q hl hj he ne =>
    have hi : i < xs.length := (List.getElem?_eq_some_iff.mp he).1
    refine ws_ifF (et_w (ew_or (et_nF (et_val (ev_isq h.li (ev_var 1 rfl rfl) q))) (ew_or1 (EvT.is (et_cmp (ev_cb h.li.len (ea_cons (ev_var 1 rfl rfl) ea_nil) (fn_len_q q)) (ev_cb h.li.len (ea_cons (ev_var 0 rfl rfl) ea_nil) fn_len_t) cmp_neI) (by simp [hl]))))) ?_
    refine ws_forX (is := [2]) i (fun i => [some (.dat (.tup ks)), some (.dat d), none]) (fun i => [some (.dat (.tup ks)), some (.dat d), some (.dat (.int (0 + (i : Int))))]) (fun _ => []) (by simp [ups]; omega) (ei_r1 h.li (ea_cons (ev_cb h.li.len (ea_cons (ev_var 1 rfl rfl) ea_nil) (fn_len_q q)) ea_nil) (by simp; omega)) (.refl _) (fun j d e _ => ?_) (fun j d e hlt => ?_) (fun d e => ?_)
    · obtain ⟨e1, rfl⟩ := ups_get e
      exact eg_name 2 rfl (by decide +kernel)
    · obtain ⟨e1, rfl⟩ := ups_get e
      obtain ⟨p, hp⟩ := hj j hlt
      have hp' : xs[((0 : Int) + (j : Int)).toNat]? = some (rat p) := by rw [int_nat]; exact hp
      exact ws_ifF (et_not (et_val (ev_call (c_is_ratioQ h.1 p) (ea_cons (ev_ix (ev_var 1 rfl rfl) (ev_var 2 rfl rfl) (ix_q q (by omega) hp')) ea_nil)))) (ws_nil ⟨.keep (.keep (.drop .nil)), rfl⟩)
    · have he' : xs[((0 : Int) + (i : Int)).toNat]? = some el := by rw [int_nat]; exact he
      exact ws_ifT (et_not (et_val (ev_call (c_not_ratio h ne) (ea_cons (ev_ix (ev_var 1 rfl rfl) (ev_var 2 rfl rfl) (ix_q q (by omega) he')) ea_nil)))) (ws_raise2 h.sup h.xo.br (ea_cons (ev_var 2 rfl rfl) (ea_cons ev_str ea_nil)) ⟨by rw [show (0 : Int) + (i : Int) = i by omega], rfl⟩)
theorem c_tails_of {ls ms hs : List Rat} {ws : List Int} {n : Nat} (s : Sc ls ws hs n) : CallP g 4 "tails_of" [line ls ms, .tup (nums ws), .tup (rats hs)] (.val (.lst (rats (tails ls ws hs n)))) := by
  refine call_ok ["line", "signs", "told", "found", "total", "section", "entry"] ["line", "signs", "told"] (h.fn 23 "tails_of" s_tails_of [] rfl) ⟨rfl, rfl, rfl, by decide +kernel, rfl, by decide +kernel, by decide +kernel⟩ (fun W hm => ?_) (fun _ _ _ _ _ _ us hl => match us, hl with | [_, _, _], _ => rfl)
  have l1 := s.l1
  have l2 := s.l2
  have l3 := s.l3
  have le := s.le
  refine ws_new 3 (en_lst ea_nil) ?_ (by decide)
  refine ws_set 4 (ev_glo h.g_ZERO) ?_
  refine ws_for (is := [5]) (items := (downs ((n : Int) - 1) ((n : Int) - 1 - -1).toNat).map D.int) (fun j => [some (.dat (line ls ms)), some (.dat (.tup (nums ws))), some (.dat (.tup (rats hs))), some (.mu 0), some (.dat (rat (ttl ls ws hs n j))), none, none]) (fun j => [some (.dat (line ls ms)), some (.dat (.tup (nums ws))), some (.dat (.tup (rats hs))), some (.mu 0), some (.dat (rat (ttl ls ws hs n j))), some (.dat (.int ((n : Int) - 1 - (j : Int)))), none]) (fun j => [rats ((List.range j).map fun t => ttl ls ws hs n (t + 1))])
    (by rw [show (n : Int) = ((rats ls).length : Int) by simp [l1]]; exact (ei_r3 h.li (ea_cons (ev_bin (ev_lenO h.li h.len (ev_var 0 rfl rfl) (by simp; omega)) ev_int bin_sub) (ea_cons (ev_neg ev_int) (ea_cons (ev_neg ev_int) ea_nil))) (by simp; omega) (by simp))) ?_ (fun j d e => ?_) (fun j d e => ?_) ?_
  · exact .refl _
  · obtain ⟨e1, rfl⟩ := downs_get e
    exact eg_name 5 rfl (by decide +kernel)
  · obtain ⟨e1, rfl⟩ := downs_get e
    simp at e1
    obtain ⟨l, hl⟩ := get_of (show n - 1 - j < ls.length by omega)
    obtain ⟨q, hq⟩ := get_of (show n - 1 - j < hs.length by omega)
    obtain ⟨w, hw⟩ := get_of (show n - 1 - j < ws.length by omega)
    have en : ((n : Int) - 1 - (j : Int)).toNat = n - 1 - j := by omega
    have hl' : (rats ls)[((n : Int) - 1 - (j : Int)).toNat]? = some (rat l) := by rw [en]; exact map_get hl
    have hq' : (rats hs)[((n : Int) - 1 - (j : Int)).toNat]? = some (rat q) := by rw [en]; exact map_get hq
    have hw' : (nums ws)[((n : Int) - 1 - (j : Int)).toNat]? = some (.int w) := by rw [en]; exact map_get hw
    have bl := s.b1 l (List.mem_of_getElem? hl)
    have bq := s.b3 q (List.mem_of_getElem? hq)
    have sg := s.sg w (List.mem_of_getElem? hw)
    have bw : Rb 2 ((w : Int) : Rat) := Rb.int (by rcases sg with rfl | rfl <;> (show Int.natAbs _ < 2 ^ 2) <;> decide)
    have c1 := c_times h.1 q ((w : Int) : Rat) (bq.mono (by decide)) (bw.mono (by decide))
    rw [rat_int] at c1
    have c2 := c_times h.1 l (q * ((w : Int) : Rat)) (bl.mono (by decide)) ((bq.mul bw).mono (by decide))
    refine ws_set 6 (ev_call (c2.mono (by decide)) (ea_cons (ev_ix (ev_lengths h.li (ev_var 0 rfl rfl)) (ev_var 5 rfl rfl) (ix_tupN (by omega) hl')) (ea_cons (ev_call (c1.mono (by decide)) (ea_cons (ev_ix (ev_var 2 rfl rfl) (ev_var 5 rfl rfl) (ix_tupN (by omega) hq')) (ea_cons (ev_tup (ea_cons (ev_ix (ev_var 1 rfl rfl) (ev_var 5 rfl rfl) (ix_tupN (by omega) hw')) (ea_cons ev_int ea_nil))) ea_nil))) ea_nil))) ?_
    have et : l * (q * ((w : Int) : Rat)) = term ls ws hs (n - 1 - j) := by
      unfold term
      rw [getD_of hl, getD_of hq, getD_of hw, Rat.mul_assoc]
    have bt := s.ttl j (by omega)
    have bm := s.term (k := n - 1 - j) (by omega)
    rw [et]
    refine ws_set 4 (ev_call ((c_plus h.1 _ _ (bt.mono (by omega)) (bm.mono (by decide))).mono (by decide)) (ea_cons (ev_var 4 rfl rfl) (ea_cons (ev_var 6 rfl rfl) ea_nil))) ?_
    refine ws_app 3 0 rfl (ev_var 4 rfl rfl) rfl (by simp; omega) (ws_nil ⟨.keep (.keep (.keep (.keep (.keep (.drop (.drop .nil)))))), ?_⟩)
    rw [List.range_succ, List.map_append]
    simp [ttl]
  · have e : ((downs ((n : Int) - 1) ((n : Int) - 1 - -1).toNat).map D.int).length = n := by simp [downs]
    have e' := e
    simp only [List.length_map] at e'
    rw [e]
    refine ws_freeze (ω := []) 3 rfl (by decide) (mu_by rfl) ?_
    exact ws_ret (ev_revL (ev_var 3 rfl rfl)) ⟨by unfold tails; exact congrArg (fun z => Res.val (D.lst z)) List.map_reverse, rfl⟩
end
end Hw
set_option Elab.async false
set_option linter.all false
set_option maxRecDepth 100000
set_option maxHeartbeats 2000000
/-! The walks: the lots that fit. -/
namespace Hw
open PySem PySem.Spec PyProof.Rows L2

section
variable {g : Gm} {N : List Str} {sc : Scope} {k : Nat} {W : Wm} {ρ : Rho} {ω : Om} {pos px px2 tp : Pos} {α : Type} {r : α → D} {p : α → Bool} {f f2 : α → D} {xs : List α}
theorem prs_map_get {i : Nat} {d : D} (e : (prs (xs.map f) (xs.map f2))[i]? = some d) : ∃ a, xs[i]? = some a ∧ d = .tup [f a, f2 a] := by
  obtain ⟨d1, d2, e1, e2, rfl⟩ := prs_get e
  obtain ⟨l, el, rfl⟩ := sq_get e1
  obtain ⟨l', el', rfl⟩ := sq_get e2
  rw [el] at el'
  cases el'
  exact ⟨l, el, rfl⟩
/-- [elt for x, y in iter if c], pure -/
theorem ev_lcZF {elt iter c : Expr} {scope : Scope} {x y : Str} {kk : Nat} (t t2 : Nat) (own : List (Str × Nat)) (xs : List α) (f f2 : α → D) (p : α → Bool) (r : α → D) (hi : EvI g N sc k W (.Tuple [.Name x px, .Name y px2] kk tp) iter ρ ω (prs (xs.map f) (xs.map f2)) ω)
    (ht : ∀ a, a ∈ xs → EvT g N (relS scope sc) k WF c (((wipeR ρ (own.map (·.2))).set t (some (.dat (f a)))).set t2 (some (.dat (f2 a)))) ω (p a) ω)
    (he : ∀ a, a ∈ xs → p a = true → EvE g N (relS scope sc) k WF elt (((wipeR ρ (own.map (·.2))).set t (some (.dat (f a)))).set t2 (some (.dat (f2 a)))) ω (.val (r a)) ω)
    (hz : xs.length ≤ 1000000) (hN : N[t]? = some x := by rfl) (hN2 : N[t2]? = some y := by rfl) (hx : tgB (relS scope sc) (fun x => scope.names.lookup x == some .cell) x = true := by decide +kernel) (hx2 : tgB (relS scope sc) (fun x => scope.names.lookup x == some .cell) y = true := by decide +kernel) (hsub : t ∈ own.map (·.2) := by decide) (hsub2 : t2 ∈ own.map (·.2) := by decide)
    (ok : blkC N sc scope own = true := by decide +kernel) (hs : ∀ (env : Env) x, foldedSetIterable iter env x = pure x := by intro _ _; rfl) :
    EvE g N sc k W (.ListComp elt [⟨.Tuple [.Name x px, .Name y px2] kk tp, iter, [c], 0⟩] scope pos) ρ ω (.val (.lst ((xs.filter p).map r))) ω := by
  have z := ev_lc (pos := pos) (is := [t, t2]) own (fun _ => ω) (fun _ => ω) (keepX xs p) (resX xs r) (fun i => ((wipeR ρ (own.map (·.2))).set t (some (.dat (resX xs f i)))).set t2 (some (.dat (resX xs f2 i)))) hi
    (fun i d e => by
      obtain ⟨a, e1, rfl⟩ := prs_map_get e
      have h1 : resX xs f i = f a := by unfold resX; rw [e1]
      have h2 : resX xs f2 i = f2 a := by unfold resX; rw [e1]
      rw [h1, h2]
      exact eg_tup (egs_cons t hN hx (egs_cons t2 hN2 hx2 egs_nil)))
    (fun i d e => by
      obtain ⟨a, e1, rfl⟩ := prs_map_get e
      have h1 : resX xs f i = f a := by unfold resX; rw [e1]
      have h2 : resX xs f2 i = f2 a := by unfold resX; rw [e1]
      have h3 : keepX xs p i = p a := by unfold keepX; rw [e1]
      rw [h1, h2, h3]
      exact eif_one (ht a (List.mem_of_getElem? e1)))
    (fun i d e hk => by
      obtain ⟨a, e1, rfl⟩ := prs_map_get e
      have h1 : resX xs f i = f a := by unfold resX; rw [e1]
      have h2 : resX xs f2 i = f2 a := by unfold resX; rw [e1]
      have h3 : resX xs r i = r a := by unfold resX; rw [e1]
      have h4 : keepX xs p i = p a := by unfold keepX; rw [e1]
      rw [h1, h2, h3]
      exact he a (List.mem_of_getElem? e1) (h4.symm.trans hk))
    (fun _ _ _ _ => rfl) (by rw [prs_len (by simp), List.length_map]; exact hz) (by intro i hi; rcases List.mem_cons.mp hi with rfl | hi; exact hsub; rw [List.mem_singleton.mp hi]; exact hsub2) ok hs
  rw [prs_len (by simp), List.length_map, outs_all] at z
  exact z
/-- [elt for x, y in iter], pure -/
theorem ev_lcZ {elt iter : Expr} {scope : Scope} {x y : Str} {kk : Nat} (t t2 : Nat) (own : List (Str × Nat)) (xs : List α) (f f2 : α → D) (r : α → D) (hi : EvI g N sc k W (.Tuple [.Name x px, .Name y px2] kk tp) iter ρ ω (prs (xs.map f) (xs.map f2)) ω)
    (he : ∀ a, a ∈ xs → EvE g N (relS scope sc) k WF elt (((wipeR ρ (own.map (·.2))).set t (some (.dat (f a)))).set t2 (some (.dat (f2 a)))) ω (.val (r a)) ω)
    (hz : xs.length ≤ 1000000) (hN : N[t]? = some x := by rfl) (hN2 : N[t2]? = some y := by rfl) (hx : tgB (relS scope sc) (fun x => scope.names.lookup x == some .cell) x = true := by decide +kernel) (hx2 : tgB (relS scope sc) (fun x => scope.names.lookup x == some .cell) y = true := by decide +kernel) (hsub : t ∈ own.map (·.2) := by decide) (hsub2 : t2 ∈ own.map (·.2) := by decide)
    (ok : blkC N sc scope own = true := by decide +kernel) (hs : ∀ (env : Env) x, foldedSetIterable iter env x = pure x := by intro _ _; rfl) :
    EvE g N sc k W (.ListComp elt [⟨.Tuple [.Name x px, .Name y px2] kk tp, iter, [], 0⟩] scope pos) ρ ω (.val (.lst (xs.map r))) ω := by
  have z := ev_lc (pos := pos) (is := [t, t2]) own (fun _ => ω) (fun _ => ω) (keepX xs fun _ => true) (resX xs r) (fun i => ((wipeR ρ (own.map (·.2))).set t (some (.dat (resX xs f i)))).set t2 (some (.dat (resX xs f2 i)))) hi
    (fun i d e => by
      obtain ⟨a, e1, rfl⟩ := prs_map_get e
      have h1 : resX xs f i = f a := by unfold resX; rw [e1]
      have h2 : resX xs f2 i = f2 a := by unfold resX; rw [e1]
      rw [h1, h2]
      exact eg_tup (egs_cons t hN hx (egs_cons t2 hN2 hx2 egs_nil)))
    (fun i d e => by
      obtain ⟨a, e1, rfl⟩ := prs_map_get e
      have h3 : keepX xs (fun _ => true) i = true := by unfold keepX; rw [e1]
      rw [h3]
      exact eif_nil)
    (fun i d e hk => by
      obtain ⟨a, e1, rfl⟩ := prs_map_get e
      have h1 : resX xs f i = f a := by unfold resX; rw [e1]
      have h2 : resX xs f2 i = f2 a := by unfold resX; rw [e1]
      have h3 : resX xs r i = r a := by unfold resX; rw [e1]
      rw [h1, h2, h3]
      exact he a (List.mem_of_getElem? e1))
    (fun _ _ _ _ => rfl) (by rw [prs_len (by simp), List.length_map]; exact hz) (by intro i hi; rcases List.mem_cons.mp hi with rfl | hi; exact hsub; rw [List.mem_singleton.mp hi]; exact hsub2) ok hs
  rw [prs_len (by simp), List.length_map, outs_all] at z
  rw [List.filter_eq_self.mpr (by simp)] at z
  exact z
end
/-- all that a good ask needs -/
structure AskOk (n : Nat) (ls ms : List Rat) (ws : List Int) (hss : List (List Rat)) (rs : List Rat) (m : Nat) (dw dt dr : D) (xs : List D) : Prop where
  ln : LnOk ls ms
  l1 : ls.length = n
  w : WdOk n ws
  qw : Sq dw (nums ws)
  t : TsOk n dt xs hss
  ts : ∀ hs ∈ hss, HmS n hs
  qr : Sq dr (rats rs)
  lr : rs.length = hss.length
  m3 : m ≤ 3
theorem AskOk.sc {n m : Nat} {ls ms rs : List Rat} {ws : List Int} {hss : List (List Rat)} {dw dt dr : D} {xs : List D} (o : AskOk n ls ms ws hss rs m dw dt dr xs) {hs : List Rat} (hh : hs ∈ hss) : Sc ls ws hs n := ⟨o.l1, o.w.len, (o.ts hs hh).len, fun q hq => (o.ln.bl q hq).mono (by decide), (o.ts hs hh).bt, o.w.sg, o.w.le, o.w.pos⟩
section
variable {g : Gm} {x : XS g} {cH : Addr} (h : HasX g x cH)
include h
theorem c_lot_reading {T : List Rat} {l : List Int} (hT : ∀ q ∈ T, Rb 985 q) (h0 : 0 < T.length) (hl : ∀ p ∈ l, 0 ≤ p ∧ p < (T.length : Int)) (h3 : l.length ≤ 3) : CallP g 4 "lot_reading" [.lst (rats T), .tup (nums l)] (.val (rat (lrd T l))) := by
  refine call_ok ["tails", "lot", "found", "weight", "pole"] ["tails", "lot"] (h.fn 24 "lot_reading" s_lot_reading [] rfl) ⟨rfl, rfl, rfl, by decide +kernel, rfl, by decide +kernel, by decide +kernel⟩ (fun W hm => ?_) (fun _ _ _ _ _ _ us hl => match us, hl with | [_, _], _ => rfl)
  obtain ⟨t, ht⟩ := get_of h0
  have ht' : (rats T)[((0 : Int)).toNat]? = some (rat (T.getD 0 0)) := by rw [getD_of ht]; exact map_get ht
  refine ws_set 2 (ev_ix (ev_var 0 rfl rfl) ev_int (ix_lstN (by decide) ht')) ?_
  refine ws_set 3 (d := .tup [.int (wti 0), .int 1]) (ev_tup (ea_cons (ev_neg ev_int) (ea_cons ev_int ea_nil))) ?_
  refine ws_for (is := [4]) (fun i => [some (.dat (.lst (rats T))), some (.dat (.tup (nums l))), some (.dat (rat (fo T l i))), some (.dat (.tup [.int (wti i), .int 1])), none]) (fun i => [some (.dat (.lst (rats T))), some (.dat (.tup (nums l))), some (.dat (rat (fo T l i))), some (.dat (.tup [.int (wti i), .int 1])), some (.dat (.int (l.getD i 0)))]) (fun _ => []) (ei_tup (ev_var 1 rfl rfl)) (.refl _) (fun i d e => ?_) (fun i d e => ?_) ?_
  · obtain ⟨p, hp, rfl⟩ := sq_get e
    rw [getD_of hp]
    exact eg_name 4 rfl (by decide +kernel)
  · obtain ⟨p, hp, rfl⟩ := sq_get e
    have hi : i < l.length := (List.getElem?_eq_some_iff.mp hp).1
    have r := hl p (List.mem_of_getElem? hp)
    obtain ⟨u, hu⟩ := get_of (show p.toNat < T.length by omega)
    have hu' : (rats T)[(l.getD i 0).toNat]? = some (rat u) := by rw [getD_of hp]; exact map_get hu
    have b1 := fo_bt hT h0 hl i (by omega)
    have b2 := (wti_bt i).mul (hT u (List.mem_of_getElem? hu))
    have c1 := c_times h.1 ((wti i : Int) : Rat) u ((wti_bt i).mono (by decide)) ((hT u (List.mem_of_getElem? hu)).mono (by decide))
    rw [rat_int] at c1
    have c2 := c_plus h.1 (fo T l i) (((wti i : Int) : Rat) * u) (b1.mono (by omega)) (b2.mono (by decide))
    refine ws_set 2 (ev_call c2 (ea_cons (ev_var 2 rfl rfl) (ea_cons (ev_call c1 (ea_cons (ev_var 3 rfl rfl) (ea_cons (ev_ix (ev_var 0 rfl rfl) (ev_var 4 rfl rfl) (ix_lstN (by rw [getD_of hp]; omega) hu')) ea_nil))) ea_nil))) ?_
    have ef : fo T l i + ((wti i : Int) : Rat) * u = fo T l (i + 1) := by
      show _ = fo T l i + ((wti i : Int) : Rat) * T.getD (l.getD i 0).toNat 0
      rw [getD_of hp, getD_of hu]
    rw [ef]
    refine ws_set 3 (d := .tup [.int (wti (i + 1)), .int 1]) (EvE.is (ev_tup (ea_cons (ev_neg (ev_ix (ev_var 3 rfl rfl) ev_int (ix_tupN (by decide) rfl))) (ea_cons ev_int ea_nil))) (by rw [wti_succ])) (ws_nil ⟨.keep (.keep (.keep (.keep (.drop .nil)))), rfl⟩)
  · rw [List.length_map]
    exact ws_ret (ev_var 2 rfl rfl) ⟨rfl, rfl⟩
omit h in
theorem lot_in {n : Nat} {l : List Int} {k : Nat} (hl : l ∈ fnd n k) (hk : k ≤ 3) : (∀ p ∈ l, 0 ≤ p ∧ p < (n : Int)) ∧ l.length ≤ 3 := by
  obtain ⟨j, hj, e⟩ := fnd_lev n k l hl
  have := lev_lot n j l e
  exact ⟨fun p hp => by have := lev_rng n j l e p hp; omega, by omega⟩
theorem c_lot_readings {ls ms rs : List Rat} {ws : List Int} {hss : List (List Rat)} {n m : Nat} {dw dt dr : D} {xs : List D} (o : AskOk n ls ms ws hss rs m dw dt dr xs) : CallP g 5 "lot_readings" [line ls ms, .tup (nums ws), .tup (hss.map hum), .tup (lots (fnd n m))] (.val (.lst ((fnd n m).map fun l => hum (rowOf ls ws hss n l)))) := by
  refine call_ok ["line", "signs", "kept", "lots", "rows", "told", "lot", "tails"] ["line", "signs", "kept", "lots"] (h.fn 25 "lot_readings" s_lot_readings [] rfl) ⟨rfl, rfl, rfl, by decide +kernel, rfl, by decide +kernel, by decide +kernel⟩ (fun W hm => ?_) (fun _ _ _ _ _ _ us hl => match us, hl with | [_, _, _, _], _ => rfl)
  have l3 := o.t.le
  have m3 := o.m3
  have n24 := o.w.le
  have n1 := o.w.pos
  have fl := fnd_len n24 m m3
  refine ws_set 4 (ev_lcM 5 [("told", 5)] hss hum (fun hs => .lst (rats (tails ls ws hs n))) (ei_tup (ev_var 2 rfl rfl)) (fun hs hh => (ev_call (c_tails_of h (o.sc hh)) (ea_cons (ev_var 0 rfl rfl) (ea_cons (ev_var 1 rfl rfl) (ea_cons (ev_var 5 rfl rfl) ea_nil))))) (by omega)) ?_
  refine ws_ret (ev_lcM 6 [("lot", 6)] (fnd n m) lot (fun l => hum (rowOf ls ws hss n l)) (ei_tup (ev_var 3 rfl rfl)) (fun l hl => ?_) (by omega)) ⟨rfl, rfl⟩
  obtain ⟨r1, r2⟩ := lot_in hl m3
  refine EvE.is (ev_cty h.li.tuple (ea_cons (ev_lcM 7 [("tails", 7)] hss (fun hs => .lst (rats (tails ls ws hs n))) (fun hs => rat (lrd (tails ls ws hs n) l)) (ei_lst (ev_var 4 rfl rfl)) (fun hs hh => (ev_call (c_lot_reading h (o.sc hh).tails (by rw [tails_len]; omega) (by rw [tails_len]; exact r1) r2) (ea_cons (ev_var 7 rfl rfl) (ea_cons (ev_var 6 rfl rfl) ea_nil)))) (by omega)) ea_nil) fn_tuple_l) ?_
  unfold rowOf
  simp [rats]
theorem c_lots_that_fit {ls ms rs : List Rat} {ws : List Int} {hss : List (List Rat)} {n m : Nat} {dw dt dr : D} {xs : List D} (o : AskOk n ls ms ws hss rs m dw dt dr xs) : CallP g 6 "lots_that_fit" [line ls ms, dw, dt, dr, .int m] (.val (.tup (lots (fits ls ws hss rs n m)))) := by
  refine call_ok ["line", "word", "tests", "readings", "most", "signs", "kept", "told", "lots", "rows", "lot", "row"] ["line", "word", "tests", "readings", "most"] (h.fn 26 "lots_that_fit" s_lots_that_fit [] rfl) ⟨rfl, rfl, rfl, by decide +kernel, rfl, by decide +kernel, by decide +kernel⟩ (fun W hm => ?_) (fun _ _ _ _ _ _ us hl => match us, hl with | [_, _, _, _, _], _ => rfl)
  have l3 := o.t.le
  have m3 := o.m3
  have n24 := o.w.le
  have n1 := o.w.pos
  have fl := fnd_len n24 m m3
  refine ws_set 5 (ev_call ((c_check_word h o.qw o.w o.l1).mono (by decide)) (ea_cons (ev_var 0 rfl rfl) (ea_cons (ev_var 1 rfl rfl) ea_nil))) ?_
  refine ws_set 6 (ev_call ((c_check_tests h o.l1 o.t).mono (by decide)) (ea_cons (ev_var 0 rfl rfl) (ea_cons (ev_var 2 rfl rfl) ea_nil))) ?_
  refine ws_set 7 (ev_call ((c_check_readings h o.qr (by rw [List.length_map]; exact o.lr) (by rw [List.length_map]; omega)).mono (by decide)) (ea_cons (ev_var 6 rfl rfl) (ea_cons (ev_var 3 rfl rfl) ea_nil))) ?_
  refine ws_set 8 (ev_call ((c_wrong_lots h o.l1 n24 m3).mono (by decide)) (ea_cons (ev_var 0 rfl rfl) (ea_cons (ev_var 4 rfl rfl) ea_nil))) ?_
  refine ws_set 9 (ev_call (c_lot_readings h o) (ea_cons (ev_var 0 rfl rfl) (ea_cons (ev_var 5 rfl rfl) (ea_cons (ev_var 6 rfl rfl) (ea_cons (ev_var 8 rfl rfl) ea_nil))))) ?_
  refine ws_ret (ev_cty h.li.tuple (ea_cons (ev_lcZF 10 11 [("lot", 10), ("row", 11)] (fnd n m) lot (fun l => hum (rowOf ls ws hss n l)) (fun l => decide (rowOf ls ws hss n l = rs)) lot (ei_zipM h.li (ea_cons (ev_var 8 rfl rfl) (ea_cons (ev_var 9 rfl rfl) ea_nil)) (by simp)) (fun l hl => (et_cmp (ev_var 11 rfl rfl) (ev_var 7 rfl rfl) (cmp_eqD (sh_hum _) (sh_hum _) hum_iff))) (fun l hl _ => (ev_var 10 rfl rfl)) (by omega)) ea_nil) fn_tuple_l) ⟨rfl, rfl⟩
end
end Hw
set_option Elab.async false
set_option linter.all false
set_option maxRecDepth 100000
set_option maxHeartbeats 2000000
/-! The walks: sure poles, bad asks. -/
namespace Hw
open PySem PySem.Spec PyProof.Rows L2

inductive BadAsk {g : Gm} (x : XS g) (n : Nat) : D → D → D → D → Ex → Prop
  | w {dw dt dr dm : D} {i : Int} {s : Str} : BadW n dw i s → BadAsk x n dw dt dr dm ⟨x.w, some [("index", .int i), ("what", .str s)]⟩
  | t {dw dt dr dm : D} {ws : List Int} {i : Int} {s : Str} : Sq dw (nums ws) → WdOk n ws → BadT n dt i s → BadAsk x n dw dt dr dm ⟨x.t, some [("index", .int i), ("what", .str s)]⟩
  | r {dw dt dr dm : D} {ws : List Int} {xs : List D} {hss : List (List Rat)} {i : Int} {s : Str} : Sq dw (nums ws) → WdOk n ws → TsOk n dt xs hss → BadR hss.length dr i s → BadAsk x n dw dt dr dm ⟨x.r, some [("index", .int i), ("what", .str s)]⟩
  | m {dw dt dr dm : D} {ws : List Int} {xs : List D} {hss : List (List Rat)} {rs : List Rat} : Sq dw (nums ws) → WdOk n ws → TsOk n dt xs hss → Sq dr (rats rs) → rs.length = hss.length → Ty dm → wholeB dm (.int 0) (.int 3) = false → BadAsk x n dw dt dr dm ⟨x.m, none⟩
def sureW (n : Nat) (ll : List (List Int)) : List Int := (ups 1 ((n : Int) - 1).toNat).filter fun p => (ll.map fun l => decide (p ∈ l)).all id
def sureR (n : Nat) (ll : List (List Int)) : List Int := (ups 1 ((n : Int) - 1).toNat).filter fun p => !(ll.map fun l => decide (p ∈ l)).any id
theorem fits_len (ls : List Rat) (ws : List Int) (hss : List (List Rat)) (rs : List Rat) (n m : Nat) (hn : n ≤ 24) (hm : m ≤ 3) : (fits ls ws hss rs n m).length ≤ 20000 := Nat.le_trans (List.length_filter_le _ _) (fnd_len hn m hm)
section
variable {g : Gm} {x : XS g} {cH : Addr} (h : HasX g x cH)
include h
theorem c_lots_that_fitX {ls ms : List Rat} {n : Nat} {dw dt dr dm : D} {e : Ex} (ln : ls.length = n) (n1 : 1 ≤ n) (n24 : n ≤ 24) (b : BadAsk x n dw dt dr dm e) : CallP g 5 "lots_that_fit" [line ls ms, dw, dt, dr, dm] (.exc e) := by
  refine call_ok ["line", "word", "tests", "readings", "most", "signs", "kept", "told", "lots", "rows", "lot", "row"] ["line", "word", "tests", "readings", "most"] (h.fn 26 "lots_that_fit" s_lots_that_fit [] rfl) ⟨rfl, rfl, rfl, by decide +kernel, rfl, by decide +kernel, by decide +kernel⟩ (fun W hm => ?_) (fun _ _ _ _ _ _ us hl => match us, hl with | [_, _, _, _, _], _ => rfl)
  cases b with
  | w b => exact ws_setX (i := 5) (ev_call (c_check_wordX h b ln n1 n24) (ea_cons (ev_var 0 rfl rfl) (ea_cons (ev_var 1 rfl rfl) ea_nil)) (fun _ => hm)) ⟨rfl, rfl⟩
  | t qw w b =>
    refine ws_set 5 (ev_call (c_check_word h qw w ln) (ea_cons (ev_var 0 rfl rfl) (ea_cons (ev_var 1 rfl rfl) ea_nil))) ?_
    exact ws_setX (i := 6) (ev_call (c_check_testsX h ln n24 b) (ea_cons (ev_var 0 rfl rfl) (ea_cons (ev_var 2 rfl rfl) ea_nil)) (fun _ => hm)) ⟨rfl, rfl⟩
  | @r ws xs hss i s qw w t b =>
    have l3 := t.le
    refine ws_set 5 (ev_call (c_check_word h qw w ln) (ea_cons (ev_var 0 rfl rfl) (ea_cons (ev_var 1 rfl rfl) ea_nil))) ?_
    refine ws_set 6 (ev_call (c_check_tests h ln t) (ea_cons (ev_var 0 rfl rfl) (ea_cons (ev_var 2 rfl rfl) ea_nil))) ?_
    exact ws_setX (i := 7) (ev_call ((c_check_readingsX h (ks := hss.map hum) (by rw [List.length_map]; exact b) (by rw [List.length_map]; omega)).mono (by decide)) (ea_cons (ev_var 6 rfl rfl) (ea_cons (ev_var 3 rfl rfl) ea_nil)) (fun _ => hm)) ⟨rfl, rfl⟩
  | @m ws xs hss rs qw w t qr lr ty hw =>
    have l3 := t.le
    refine ws_set 5 (ev_call (c_check_word h qw w ln) (ea_cons (ev_var 0 rfl rfl) (ea_cons (ev_var 1 rfl rfl) ea_nil))) ?_
    refine ws_set 6 (ev_call (c_check_tests h ln t) (ea_cons (ev_var 0 rfl rfl) (ea_cons (ev_var 2 rfl rfl) ea_nil))) ?_
    refine ws_set 7 (ev_call ((c_check_readings h qr (by rw [List.length_map]; exact lr) (by rw [List.length_map]; omega)).mono (by decide)) (ea_cons (ev_var 6 rfl rfl) (ea_cons (ev_var 3 rfl rfl) ea_nil))) ?_
    exact ws_setX (i := 8) (ev_call ((c_wrong_lotsX h (ls := ls) ty hw).mono (by decide)) (ea_cons (ev_var 0 rfl rfl) (ea_cons (ev_var 4 rfl rfl) ea_nil)) (fun _ => hm)) ⟨rfl, rfl⟩
theorem c_some_lots {ls ms rs : List Rat} {ws : List Int} {hss : List (List Rat)} {n m : Nat} {dw dt dr : D} {xs : List D} (o : AskOk n ls ms ws hss rs m dw dt dr xs) (ne : fits ls ws hss rs n m ≠ []) : CallP g 7 "some_lots" [line ls ms, dw, dt, dr, .int m] (.val (.tup (lots (fits ls ws hss rs n m)))) := by
  refine call_ok ["line", "word", "tests", "readings", "most", "lots"] ["line", "word", "tests", "readings", "most"] (h.fn 27 "some_lots" s_some_lots [] rfl) ⟨rfl, rfl, rfl, by decide +kernel, rfl, by decide +kernel, by decide +kernel⟩ (fun W hm => ?_) (fun _ _ _ _ _ _ us hl => match us, hl with | [_, _, _, _, _], _ => rfl)
  refine ws_set 5 (ev_call (c_lots_that_fit h o) (ea_cons (ev_var 0 rfl rfl) (ea_cons (ev_var 1 rfl rfl) (ea_cons (ev_var 2 rfl rfl) (ea_cons (ev_var 3 rfl rfl) (ea_cons (ev_var 4 rfl rfl) ea_nil)))))) ?_
  refine ws_ifF (EvT.is (et_cmp (ev_cb h.li.len (ea_cons (ev_var 5 rfl rfl) ea_nil) fn_len_t) ev_int cmp_eqI) ?_) ?_
  · have : 0 < (fits ls ws hss rs n m).length := List.length_pos_iff.mpr ne
    simp
    exact fun z => ne z
  · exact ws_ret (ev_var 5 rfl rfl) ⟨rfl, rfl⟩
theorem c_some_lotsN {ls ms rs : List Rat} {ws : List Int} {hss : List (List Rat)} {n m : Nat} {dw dt dr : D} {xs : List D} (o : AskOk n ls ms ws hss rs m dw dt dr xs) (ne : fits ls ws hss rs n m = []) : CallP g 7 "some_lots" [line ls ms, dw, dt, dr, .int m] (.exc ⟨x.n, none⟩) := by
  refine call_ok ["line", "word", "tests", "readings", "most", "lots"] ["line", "word", "tests", "readings", "most"] (h.fn 27 "some_lots" s_some_lots [] rfl) ⟨rfl, rfl, rfl, by decide +kernel, rfl, by decide +kernel, by decide +kernel⟩ (fun W hm => ?_) (fun _ _ _ _ _ _ us hl => match us, hl with | [_, _, _, _, _], _ => rfl)
  refine ws_set 5 (ev_call (c_lots_that_fit h o) (ea_cons (ev_var 0 rfl rfl) (ea_cons (ev_var 1 rfl rfl) (ea_cons (ev_var 2 rfl rfl) (ea_cons (ev_var 3 rfl rfl) (ea_cons (ev_var 4 rfl rfl) ea_nil)))))) ?_
  refine ws_ifT (EvT.is (et_cmp (ev_cb h.li.len (ea_cons (ev_var 5 rfl rfl) ea_nil) fn_len_t) ev_int cmp_eqI) (by rw [ne]; rfl)) ?_
  exact ws_raise0 h.xo.bn ⟨rfl, rfl⟩
theorem c_some_lotsX {ls ms : List Rat} {n : Nat} {dw dt dr dm : D} {e : Ex} (ln : ls.length = n) (n1 : 1 ≤ n) (n24 : n ≤ 24) (b : BadAsk x n dw dt dr dm e) : CallP g 7 "some_lots" [line ls ms, dw, dt, dr, dm] (.exc e) := by
  refine call_ok ["line", "word", "tests", "readings", "most", "lots"] ["line", "word", "tests", "readings", "most"] (h.fn 27 "some_lots" s_some_lots [] rfl) ⟨rfl, rfl, rfl, by decide +kernel, rfl, by decide +kernel, by decide +kernel⟩ (fun W hm => ?_) (fun _ _ _ _ _ _ us hl => match us, hl with | [_, _, _, _, _], _ => rfl)
  exact ws_setX (i := 5) (ev_call ((c_lots_that_fitX h ln n1 n24 b).mono (by decide)) (ea_cons (ev_var 0 rfl rfl) (ea_cons (ev_var 1 rfl rfl) (ea_cons (ev_var 2 rfl rfl) (ea_cons (ev_var 3 rfl rfl) (ea_cons (ev_var 4 rfl rfl) ea_nil))))) (fun _ => hm)) ⟨rfl, rfl⟩
theorem c_sure_wrong {ls ms rs : List Rat} {ws : List Int} {hss : List (List Rat)} {n m : Nat} {dw dt dr : D} {xs : List D} (o : AskOk n ls ms ws hss rs m dw dt dr xs) (ne : fits ls ws hss rs n m ≠ []) : CallP g 8 "sure_wrong" [line ls ms, dw, dt, dr, .int m] (.val (.tup (nums (sureW n (fits ls ws hss rs n m))))) := by
  refine call_ok ["line", "word", "tests", "readings", "most", "lots", "pole", "lot"] ["line", "word", "tests", "readings", "most"] (h.fn 28 "sure_wrong" s_sure_wrong [] rfl) ⟨rfl, rfl, rfl, by decide +kernel, rfl, by decide +kernel, by decide +kernel⟩ (fun W hm => ?_) (fun _ _ _ _ _ _ us hl => match us, hl with | [_, _, _, _, _], _ => rfl)
  have m3 := o.m3
  have n24 := o.w.le
  have l1 := o.l1
  have fl := fits_len ls ws hss rs n m n24 m3
  refine ws_set 5 (ev_call (c_some_lots h o ne) (ea_cons (ev_var 0 rfl rfl) (ea_cons (ev_var 1 rfl rfl) (ea_cons (ev_var 2 rfl rfl) (ea_cons (ev_var 3 rfl rfl) (ea_cons (ev_var 4 rfl rfl) ea_nil)))))) ?_
  refine ws_ret (ev_cty h.li.tuple (ea_cons (ev_lcF 6 [("pole", 6)] (ups 1 ((n : Int) - 1).toNat) D.int (fun p => ((fits ls ws hss rs n m).map fun l => decide (p ∈ l)).all id) D.int ?_ (fun p hp => ?_) (fun p hp _ => (ev_var 6 rfl rfl)) (by simp [ups]; omega)) ea_nil) fn_tuple_l) ⟨rfl, rfl⟩
  · rw [show (n : Int) = ((rats ls).length : Int) by simp [l1]]
    exact (ei_r2 h.li (ea_cons ev_int (ea_cons (ev_lenO h.li h.len (ev_var 0 rfl rfl) (by simp; omega)) ea_nil)) (by omega) (by simp; omega))
  · exact et_val (ev_cb h.li.all (ea_cons (EvE.is (ev_lcM 7 [("lot", 7)] (fits ls ws hss rs n m) lot (fun l => .bl (decide (p ∈ l))) (ei_tup (ev_var 5 rfl rfl)) (fun l hl => (ev_cmp (ev_var 6 rfl rfl) (ev_var 7 rfl rfl) cmp_inT)) (by omega)) (by rw [List.map_map]; rfl)) ea_nil) fn_all)
theorem c_sure_wrongN {ls ms rs : List Rat} {ws : List Int} {hss : List (List Rat)} {n m : Nat} {dw dt dr : D} {xs : List D} (o : AskOk n ls ms ws hss rs m dw dt dr xs) (ne : fits ls ws hss rs n m = []) : CallP g 8 "sure_wrong" [line ls ms, dw, dt, dr, .int m] (.exc ⟨x.n, none⟩) := by
  refine call_ok ["line", "word", "tests", "readings", "most", "lots", "pole", "lot"] ["line", "word", "tests", "readings", "most"] (h.fn 28 "sure_wrong" s_sure_wrong [] rfl) ⟨rfl, rfl, rfl, by decide +kernel, rfl, by decide +kernel, by decide +kernel⟩ (fun W hm => ?_) (fun _ _ _ _ _ _ us hl => match us, hl with | [_, _, _, _, _], _ => rfl)
  exact ws_setX (i := 5) (ev_call (c_some_lotsN h o ne) (ea_cons (ev_var 0 rfl rfl) (ea_cons (ev_var 1 rfl rfl) (ea_cons (ev_var 2 rfl rfl) (ea_cons (ev_var 3 rfl rfl) (ea_cons (ev_var 4 rfl rfl) ea_nil))))) (fun _ => hm)) ⟨rfl, rfl⟩
theorem c_sure_wrongX {ls ms : List Rat} {n : Nat} {dw dt dr dm : D} {e : Ex} (ln : ls.length = n) (n1 : 1 ≤ n) (n24 : n ≤ 24) (b : BadAsk x n dw dt dr dm e) : CallP g 8 "sure_wrong" [line ls ms, dw, dt, dr, dm] (.exc e) := by
  refine call_ok ["line", "word", "tests", "readings", "most", "lots", "pole", "lot"] ["line", "word", "tests", "readings", "most"] (h.fn 28 "sure_wrong" s_sure_wrong [] rfl) ⟨rfl, rfl, rfl, by decide +kernel, rfl, by decide +kernel, by decide +kernel⟩ (fun W hm => ?_) (fun _ _ _ _ _ _ us hl => match us, hl with | [_, _, _, _, _], _ => rfl)
  exact ws_setX (i := 5) (ev_call (c_some_lotsX h ln n1 n24 b) (ea_cons (ev_var 0 rfl rfl) (ea_cons (ev_var 1 rfl rfl) (ea_cons (ev_var 2 rfl rfl) (ea_cons (ev_var 3 rfl rfl) (ea_cons (ev_var 4 rfl rfl) ea_nil))))) (fun _ => hm)) ⟨rfl, rfl⟩
theorem c_sure_right {ls ms rs : List Rat} {ws : List Int} {hss : List (List Rat)} {n m : Nat} {dw dt dr : D} {xs : List D} (o : AskOk n ls ms ws hss rs m dw dt dr xs) (ne : fits ls ws hss rs n m ≠ []) : CallP g 8 "sure_right" [line ls ms, dw, dt, dr, .int m] (.val (.tup (nums (sureR n (fits ls ws hss rs n m))))) := by
  refine call_ok ["line", "word", "tests", "readings", "most", "lots", "pole", "lot"] ["line", "word", "tests", "readings", "most"] (h.fn 29 "sure_right" s_sure_right [] rfl) ⟨rfl, rfl, rfl, by decide +kernel, rfl, by decide +kernel, by decide +kernel⟩ (fun W hm => ?_) (fun _ _ _ _ _ _ us hl => match us, hl with | [_, _, _, _, _], _ => rfl)
  have m3 := o.m3
  have n24 := o.w.le
  have l1 := o.l1
  have fl := fits_len ls ws hss rs n m n24 m3
  refine ws_set 5 (ev_call (c_some_lots h o ne) (ea_cons (ev_var 0 rfl rfl) (ea_cons (ev_var 1 rfl rfl) (ea_cons (ev_var 2 rfl rfl) (ea_cons (ev_var 3 rfl rfl) (ea_cons (ev_var 4 rfl rfl) ea_nil)))))) ?_
  refine ws_ret (ev_cty h.li.tuple (ea_cons (ev_lcF 6 [("pole", 6)] (ups 1 ((n : Int) - 1).toNat) D.int (fun p => !((fits ls ws hss rs n m).map fun l => decide (p ∈ l)).any id) D.int ?_ (fun p hp => ?_) (fun p hp _ => (ev_var 6 rfl rfl)) (by simp [ups]; omega)) ea_nil) fn_tuple_l) ⟨rfl, rfl⟩
  · rw [show (n : Int) = ((rats ls).length : Int) by simp [l1]]
    exact (ei_r2 h.li (ea_cons ev_int (ea_cons (ev_lenO h.li h.len (ev_var 0 rfl rfl) (by simp; omega)) ea_nil)) (by omega) (by simp; omega))
  · exact et_not (et_val (ev_cb h.li.any (ea_cons (EvE.is (ev_lcM 7 [("lot", 7)] (fits ls ws hss rs n m) lot (fun l => .bl (decide (p ∈ l))) (ei_tup (ev_var 5 rfl rfl)) (fun l hl => (ev_cmp (ev_var 6 rfl rfl) (ev_var 7 rfl rfl) cmp_inT)) (by omega)) (by rw [List.map_map]; rfl)) ea_nil) fn_any))
theorem c_sure_rightN {ls ms rs : List Rat} {ws : List Int} {hss : List (List Rat)} {n m : Nat} {dw dt dr : D} {xs : List D} (o : AskOk n ls ms ws hss rs m dw dt dr xs) (ne : fits ls ws hss rs n m = []) : CallP g 8 "sure_right" [line ls ms, dw, dt, dr, .int m] (.exc ⟨x.n, none⟩) := by
  refine call_ok ["line", "word", "tests", "readings", "most", "lots", "pole", "lot"] ["line", "word", "tests", "readings", "most"] (h.fn 29 "sure_right" s_sure_right [] rfl) ⟨rfl, rfl, rfl, by decide +kernel, rfl, by decide +kernel, by decide +kernel⟩ (fun W hm => ?_) (fun _ _ _ _ _ _ us hl => match us, hl with | [_, _, _, _, _], _ => rfl)
  exact ws_setX (i := 5) (ev_call (c_some_lotsN h o ne) (ea_cons (ev_var 0 rfl rfl) (ea_cons (ev_var 1 rfl rfl) (ea_cons (ev_var 2 rfl rfl) (ea_cons (ev_var 3 rfl rfl) (ea_cons (ev_var 4 rfl rfl) ea_nil))))) (fun _ => hm)) ⟨rfl, rfl⟩
theorem c_sure_rightX {ls ms : List Rat} {n : Nat} {dw dt dr dm : D} {e : Ex} (ln : ls.length = n) (n1 : 1 ≤ n) (n24 : n ≤ 24) (b : BadAsk x n dw dt dr dm e) : CallP g 8 "sure_right" [line ls ms, dw, dt, dr, dm] (.exc e) := by
  refine call_ok ["line", "word", "tests", "readings", "most", "lots", "pole", "lot"] ["line", "word", "tests", "readings", "most"] (h.fn 29 "sure_right" s_sure_right [] rfl) ⟨rfl, rfl, rfl, by decide +kernel, rfl, by decide +kernel, by decide +kernel⟩ (fun W hm => ?_) (fun _ _ _ _ _ _ us hl => match us, hl with | [_, _, _, _, _], _ => rfl)
  exact ws_setX (i := 5) (ev_call (c_some_lotsX h ln n1 n24 b) (ea_cons (ev_var 0 rfl rfl) (ea_cons (ev_var 1 rfl rfl) (ea_cons (ev_var 2 rfl rfl) (ea_cons (ev_var 3 rfl rfl) (ea_cons (ev_var 4 rfl rfl) ea_nil))))) (fun _ => hm)) ⟨rfl, rfl⟩
end
end Hw
set_option Elab.async false
set_option linter.all false
set_option maxRecDepth 100000
set_option maxHeartbeats 2000000
/-! The walks: the telling hum, the word of a reading. -/
namespace Hw
open PySem PySem.Spec PyProof.Rows L2

def telling (ls : List Rat) (n : Nat) : List Rat := (List.range n).map fun s => ((2 ^ s : Int) : Rat) * (1 / ls.getD s 0)
def bitw (tw : Int) (s : Nat) : Int := if tw / 2 ^ (s + 1) % 2 = 1 then 1 else -1
def worB (n : Nat) (t b : Int) : Bool := b != 1 || decide ((2 : Int) ^ n ≤ (t.natAbs : Int))
def wor (n : Nat) (t b : Int) : Option (List Int) :=
  if worB n t b = true then none
  else if (t + 2 ^ n - 1) % 2 = 1 ∨ (t + 2 ^ n - 1) / 2 % 2 = 0 then none
  else some ((List.range n).map (bitw (t + 2 ^ n - 1)))
def optW : Option (List Int) → D
  | none => .non
  | some ws => .tup (nums ws)
theorem pow_bt (s : Nat) : Bt (s + 1) ((2 : Int) ^ s) := by
  show Int.natAbs _ < 2 ^ (s + 1)
  rw [Int.natAbs_pow]
  exact Nat.pow_lt_pow_right (by decide) (by omega)
section
variable {g : Gm} {x : XS g} {cH : Addr} (h : HasX g x cH)
include h
theorem c_telling_hum {ls ms : List Rat} {n : Nat} (o : LnOk ls ms) (ln : ls.length = n) : CallP g 4 "telling_hum" [line ls ms] (.val (.tup (rats (telling ls n)))) := by
  refine call_ok ["line", "section"] ["line"] (h.fn 30 "telling_hum" s_telling_hum [] rfl) ⟨rfl, rfl, rfl, by decide +kernel, rfl, by decide +kernel, by decide +kernel⟩ (fun W hm => ?_) (fun _ _ _ _ _ _ us hl => match us, hl with | [_], _ => rfl)
  have le := o.le
  refine ws_ret (ev_cty h.li.tuple (ea_cons (ev_lcM 1 [("section", 1)] (List.range n) (fun s => D.int (0 + (s : Int))) (fun s => rat (((2 ^ s : Int) : Rat) * (1 / ls.getD s 0))) ?_ (fun s hs => ?_) (by simp; omega)) ea_nil) fn_tuple_l) ⟨by simp [telling, rats], rfl⟩
  · have e : (List.range n).map (fun (s : Nat) => D.int (0 + (s : Int))) = (ups 0 ((((rats ls).length : Nat) : Int)).toNat).map D.int := by
      unfold ups
      rw [List.map_map]
      simp [ln]
    rw [e]
    exact (ei_r1 h.li (ea_cons (ev_lenO h.li h.len (ev_var 0 rfl rfl) (by simp; omega)) ea_nil) (by simp; omega))
  · have hs := List.mem_range.mp hs
    obtain ⟨l, hl⟩ := get_of (show s < ls.length by omega)
    have hl' : (rats ls)[((0 : Int) + (s : Int)).toNat]? = some (rat l) := by rw [int_nat]; exact map_get hl
    have bl := o.bl l (List.mem_of_getElem? hl)
    have gl := o.gt l (List.mem_of_getElem? hl)
    have b1 : Rb 1 ((1 : Int) : Rat) := Rb.int (by show (1 : Int).natAbs < 2 ^ 1; decide)
    have c1 := c_over h.1 ((1 : Int) : Rat) l gl (b1.mono (by decide)) (bl.mono (by decide))
    rw [rat_int] at c1
    have bo : Rb 25 (1 / l) := by
      have e : l.num = (l.num.toNat : Int) := by omega
      have e2 : 1 / l = mkRat (l.den : Int) l.num.toNat := by
        rw [Rat.div_def, Rat.inv_def, Rat.one_mul]
        conv => lhs; rw [e]
        rfl
      rw [e2]
      refine Rb.mk (by omega) (bl.2.mono (by decide)) ?_
      rw [← e]
      exact bl.1.mono (by decide)
    have bp : Rb 30 ((2 ^ s : Int) : Rat) := Rb.int ((pow_bt s).mono (by omega))
    have c2 := c_times h.1 ((2 ^ s : Int) : Rat) (1 / l) (bp.mono (by decide)) (bo.mono (by decide))
    rw [rat_int] at c2
    rw [getD_of hl]
    have es : (1 : Int) * 2 ^ ((0 : Int) + (s : Int)).toNat = 2 ^ s := by rw [int_nat]; omega
    exact (ev_call (by rw [es]; exact c2) (ea_cons (ev_tup (ea_cons (ev_bin ev_int (ev_var 1 rfl rfl) (bin_shl (⟨by omega, by omega, by decide⟩))) (ea_cons ev_int ea_nil))) (ea_cons (ev_call c1 (ea_cons (ev_glo h.g_ONE) (ea_cons (ev_ix (ev_lengths h.li (ev_var 0 rfl rfl)) (ev_var 1 rfl rfl) (ix_tupN (by omega) hl')) ea_nil))) ea_nil)))
theorem c_word_of_reading {ls ms : List Rat} {n : Nat} {q : Rat} (o : LnOk ls ms) (ln : ls.length = n) : CallP g 3 "word_of_reading" [line ls ms, rat q] (.val (optW (wor n q.num q.den))) := by
  refine call_ok ["line", "reading", "count", "twice", "section"] ["line", "reading"] (h.fn 31 "word_of_reading" s_word_of_reading [] rfl) ⟨rfl, rfl, rfl, by decide +kernel, rfl, by decide +kernel, by decide +kernel⟩ (fun W hm => ?_) (fun _ _ _ _ _ _ us hl => match us, hl with | [_, _], _ => rfl)
  have le := o.le
  refine ws_ifF (et_not (et_val (ev_call (c_is_ratioQ h.1 q) (ea_cons (ev_var 1 rfl rfl) ea_nil)))) ?_
  refine ws_set 2 (d := .int n) (EvE.is (ev_lenO h.li h.len (ev_var 0 rfl rfl) (by simp; omega)) (by simp [ln])) ?_
  have ep : (1 : Int) * 2 ^ ((n : Int)).toNat = 2 ^ n := by rw [Int.toNat_natCast, Int.one_mul]
  by_cases c : worB n q.num q.den = true
  · have ew : wor n q.num q.den = none := by unfold wor; rw [if_pos c]
    rw [ew]
    refine ws_ifT (EvT.is (et_w (ew_orP (et_cmp (ev_ix (ev_var 1 rfl rfl) ev_int (ix_tupN (by decide) rfl)) ev_int cmp_neI) fun _ => (ew_or1 (et_cmp (ev_cb h.li.abs (ea_cons (ev_ix (ev_var 1 rfl rfl) ev_int (ix_tupN (by decide) rfl)) ea_nil) fn_abs) (ev_bin ev_int (ev_var 2 rfl rfl) (bin_shl (⟨by omega, by omega, by decide⟩))) cmp_ge)))) ?_) (ws_ret ev_non ⟨rfl, rfl⟩)
    rw [ep, ← c]
    unfold worB
    rfl
  · have ew : wor n q.num q.den = if (q.num + 2 ^ n - 1) % 2 = 1 ∨ (q.num + 2 ^ n - 1) / 2 % 2 = 0 then none else some ((List.range n).map (bitw (q.num + 2 ^ n - 1))) := by
      conv => lhs; unfold wor
      rw [if_neg c]
    rw [ew]
    refine ws_ifF (EvT.is (et_w (ew_orP (et_cmp (ev_ix (ev_var 1 rfl rfl) ev_int (ix_tupN (by decide) rfl)) ev_int cmp_neI) fun _ => (ew_or1 (et_cmp (ev_cb h.li.abs (ea_cons (ev_ix (ev_var 1 rfl rfl) ev_int (ix_tupN (by decide) rfl)) ea_nil) fn_abs) (ev_bin ev_int (ev_var 2 rfl rfl) (bin_shl (⟨by omega, by omega, by decide⟩))) cmp_ge)))) ?_) ?_
    · rw [ep, ← Bool.eq_false_iff.mpr c]
      unfold worB
      rfl
    refine ws_set 3 (d := .int (q.num + 2 ^ n - 1)) (EvE.is (ev_bin (ev_bin (ev_ix (ev_var 1 rfl rfl) ev_int (ix_tupN (by decide) rfl)) (ev_bin ev_int (ev_var 2 rfl rfl) (bin_shl (⟨by omega, by omega, by decide⟩))) bin_add) ev_int bin_sub) (by rw [ep])) ?_
    by_cases c2 : (q.num + 2 ^ n - 1) % 2 = 1 ∨ (q.num + 2 ^ n - 1) / 2 % 2 = 0
    · rw [if_pos c2]
      refine ws_ifT (EvT.is (et_w (ew_orP (et_cmp (ev_bin (ev_var 3 rfl rfl) ev_int bin_and1) ev_int cmp_eqI) fun _ => (ew_or1 (et_cmp (ev_bin (ev_bin (ev_var 3 rfl rfl) ev_int (bin_shr (by decide))) ev_int bin_and1) ev_int cmp_eqI)))) ?_) (ws_ret ev_non ⟨rfl, rfl⟩)
      simpa using c2
    · rw [if_neg c2]
      refine ws_ifF (EvT.is (et_w (ew_orP (et_cmp (ev_bin (ev_var 3 rfl rfl) ev_int bin_and1) ev_int cmp_eqI) fun _ => (ew_or1 (et_cmp (ev_bin (ev_bin (ev_var 3 rfl rfl) ev_int (bin_shr (by decide))) ev_int bin_and1) ev_int cmp_eqI)))) ?_) ?_
      · simpa using c2
      refine ws_ret (ev_cty h.li.tuple (ea_cons (ev_lcM 4 [("section", 4)] (List.range n) (fun s => D.int (0 + (s : Int))) (fun s => D.int (bitw (q.num + 2 ^ n - 1) s)) ?_ (fun s hs => ?_) (by simp; omega)) ea_nil) fn_tuple_l) ⟨by simp [optW, nums], rfl⟩
      · have e : (List.range n).map (fun (s : Nat) => D.int (0 + (s : Int))) = (ups 0 ((n : Int)).toNat).map D.int := by
          unfold ups
          rw [List.map_map]
          simp
        rw [e]
        exact (ei_r1 h.li (ea_cons (ev_var 2 rfl rfl) ea_nil) (by omega))
      · have es : (((0 : Int) + (s : Int)) + 1).toNat = s + 1 := by omega
        by_cases c3 : (q.num + 2 ^ n - 1) / 2 ^ (s + 1) % 2 = 1
        · have eb : bitw (q.num + 2 ^ n - 1) s = 1 := by unfold bitw; rw [if_pos c3]
          rw [eb]
          exact ev_ifT (EvT.is (et_cmp (ev_bin (ev_bin (ev_var 3 rfl rfl) (ev_bin (ev_var 4 rfl rfl) ev_int bin_add) (bin_shr (by omega))) ev_int bin_and1) ev_int cmp_eqI) (by rw [es, c3]; rfl)) ev_int
        · have eb : bitw (q.num + 2 ^ n - 1) s = -1 := by unfold bitw; rw [if_neg c3]
          rw [eb]
          exact ev_ifF (EvT.is (et_cmp (ev_bin (ev_bin (ev_var 3 rfl rfl) (ev_bin (ev_var 4 rfl rfl) ev_int bin_add) (bin_shr (by omega))) ev_int bin_and1) ev_int cmp_eqI) (by rw [es]; exact decide_eq_false c3)) (ev_neg ev_int)
theorem c_word_of_readingX {ls ms : List Rat} {d : D} (ne : NRat d) : CallP g 3 "word_of_reading" [line ls ms, d] (.exc ⟨x.a, none⟩) := by
  refine call_ok ["line", "reading", "count", "twice", "section"] ["line", "reading"] (h.fn 31 "word_of_reading" s_word_of_reading [] rfl) ⟨rfl, rfl, rfl, by decide +kernel, rfl, by decide +kernel, by decide +kernel⟩ (fun W hm => ?_) (fun _ _ _ _ _ _ us hl => match us, hl with | [_, _], _ => rfl)
  refine ws_ifT (et_not (et_val (ev_call (c_not_ratio h ne) (ea_cons (ev_var 1 rfl rfl) ea_nil)))) (ws_raise0 h.xo.ba ⟨rfl, rfl⟩)
end
end Hw
set_option Elab.async false
set_option linter.all false
set_option maxRecDepth 100000
set_option maxHeartbeats 2000000
/-! Two names at once, one of them a new list; sorted lists of tuples. -/
namespace Hw
open PySem PySem.Spec PyProof.Rows L2

section
variable {g : Gm} {N : List Str} {sc : Scope} {k : Nat} {W : Wm} {m : Nat} {ρ ρ1 ρ2 : Rho} {ω ω1 ω2 : Om} {P P' : Out → Prop} {rest : List Stmt} {pos : Pos} {e : Expr} {S M : List Addr} {σ : L2.St} {H : Hp}
/-- the slot i holds the k-th changing list from here on -/
theorem En.setMu (E : En g S ρ ω M σ H) {i k : Nat} {a : Addr} (h : M[k]? = some a) : En g S (ρ.set i (some (.mu k))) ω M (σ.set i (some (.ref a))) H :=
  ⟨by rw [List.length_set, List.length_set, E.len], fun j s e => by
    by_cases hij : i = j
    · subst hij
      by_cases hl : i < ρ.length
      · rw [List.getElem?_set_self hl] at e
        cases e
        exact ⟨.ref a, List.getElem?_set_self (by rw [← E.len]; exact hl), a, h, rfl⟩
      · rw [List.getElem?_eq_none (by rw [List.length_set]; omega)] at e
        cases e
    · rw [List.getElem?_set_ne hij] at e
      rw [List.getElem?_set_ne hij]
      exact E.slot j s e, E.mlen, E.own, E.nd, E.dis, E.live, E.tabs⟩
theorem set_off {α : Type} : ∀ (l : List α) (a : α), l.set l.length a = l
  | [], _ => rfl
  | x :: l, a => congrArg (x :: ·) (set_off l a)
/-- .. held by no slot yet -/
theorem En.newM0 (E : En g S ρ ω M σ H) {p : Addr} {vs : List V} {ds : List D} (hp : H p = none) (hv : DxL g (M ++ S) H vs ds) : En g S ρ (ω ++ [ds]) (M ++ [p]) σ (upd H p (.lst vs)) := by
  have z := E.newM (i := ρ.length) hp hv
  rw [set_off, E.len, set_off] at z
  exact z
theorem grw_new {M : List Addr} {p : Addr} {H H1 : Hp} (hm : m ≤ M.length) (s1 : Stp g M H H1) (hp : H1 p = none) : Grw m M (M ++ [p]) H := ⟨by rw [List.take_append_of_le_length hm], fun a ha => by
  rcases List.mem_append.mp ha with z | z
  · exact .inl z
  · rw [List.mem_singleton.mp z]
    exact .inr fun z => (s1.there p z).no hp⟩
/-- a, b = e1, [..]: plain locals -/
theorem ws_parN (i j : Nat) {x y : Str} {a b : Expr} {px py pt : Pos} {kt k2 : Nat} {pt2 : Pos} {d1 : D} {ds : List D} (ha : EvE g N sc k W a ρ ω (.val d1) ω1) (hb : EvN g N sc k W b ρ ω1 ds ω2) (hr : WS g N sc k W m rest ((ρ.set i (some (.dat d1))).set j (some (.mu ω2.length))) (ω2 ++ [ds]) P)
    (hm : m ≤ ω2.length) (hi : N[i]? = some x := by rfl) (hj : N[j]? = some y := by rfl) (hij : i ≠ j := by decide) (hx : sc.names.lookup x = some .local := by decide +kernel) (hy : sc.names.lookup y = some .local := by decide +kernel)
    (hw : swappedStores [.Tuple [.Name x px, .Name y py] kt pt] (.Tuple [a, b] k2 pt2) (envD sc) = pure (some [x, y]) := by rfl)
    (hs : ∀ env : Env, swapsWithSole [.Tuple [.Name x px, .Name y py] kt pt] (.Tuple [a, b] k2 pt2) pos.line env = pure false := by intro _; rfl) (hst : noStar a [b] := by exact fun _ => rfl) (hst2 : noStar b [] := by exact fun _ => rfl) :
    WS g N sc k W m (.Assign [.Tuple [.Name x px, .Name y py] kt pt] (.Tuple [a, b] k2 pt2) pos :: rest) ρ ω P := fun X B S M σ H D E q => by
  refine ss_of (pss_cons (ps_par B.calm (by rw [B.hN]; exact B.nd) (by rw [B.hN]; exact hi) (by rw [B.hN]; exact hj) hij (by rw [B.hS]; exact hx) (by rw [B.hS]; exact hy) (pa_cons (pe_s X a) (pa_cons (pe_s X b) pa_nil (hst2 X.env)) (hst X.env)) (by rw [swappedStores_sc (e' := envD sc) B.hS]; exact hw) (hs X.env)) (pss_s X rest)) ?_
  refine ha X B.toBd S M σ H E _ fun v H1 s1 o1 x1 => ?_
  have E1 := E.go s1 o1
  refine hb X B.toBd S M σ H1 E1 _ fun p vs H2 s2 o2 hp x2 => ?_
  have E2 := E1.go s2 o2
  have hml := o2.1
  have s3 := s1.trans s2
  exact ⟨v, .ref p, rfl, ok_rest B hr q (grw_new (by omega) s3 hp) (s3.trans (.new hp)) ((E2.setd (i := i) (Dx.mono s2.kp x1)).newM hp x2)⟩
/-- a, b = [..], [..]: plain locals -/
theorem ws_parNN (i j : Nat) {x y : Str} {a b : Expr} {px py pt : Pos} {kt k2 : Nat} {pt2 : Pos} {ds es : List D} (ha : EvN g N sc k W a ρ ω ds ω1) (hb : EvN g N sc k W b ρ (ω1 ++ [ds]) es (ω1 ++ [ds])) (hr : WS g N sc k W m rest ((ρ.set i (some (.mu ω1.length))).set j (some (.mu (ω1.length + 1)))) (ω1 ++ [ds] ++ [es]) P)
    (hm : m ≤ ω1.length) (hi : N[i]? = some x := by rfl) (hj : N[j]? = some y := by rfl) (hij : i ≠ j := by decide) (hx : sc.names.lookup x = some .local := by decide +kernel) (hy : sc.names.lookup y = some .local := by decide +kernel)
    (hw : swappedStores [.Tuple [.Name x px, .Name y py] kt pt] (.Tuple [a, b] k2 pt2) (envD sc) = pure (some [x, y]) := by rfl)
    (hs : ∀ env : Env, swapsWithSole [.Tuple [.Name x px, .Name y py] kt pt] (.Tuple [a, b] k2 pt2) pos.line env = pure false := by intro _; rfl) (hst : noStar a [b] := by exact fun _ => rfl) (hst2 : noStar b [] := by exact fun _ => rfl) :
    WS g N sc k W m (.Assign [.Tuple [.Name x px, .Name y py] kt pt] (.Tuple [a, b] k2 pt2) pos :: rest) ρ ω P := fun X B S M σ H D E q => by
  refine ss_of (pss_cons (ps_par B.calm (by rw [B.hN]; exact B.nd) (by rw [B.hN]; exact hi) (by rw [B.hN]; exact hj) hij (by rw [B.hS]; exact hx) (by rw [B.hS]; exact hy) (pa_cons (pe_s X a) (pa_cons (pe_s X b) pa_nil (hst2 X.env)) (hst X.env)) (by rw [swappedStores_sc (e' := envD sc) B.hS]; exact hw) (hs X.env)) (pss_s X rest)) ?_
  refine ha X B.toBd S M σ H E _ fun p vs H1 s1 o1 hp x1 => ?_
  have E1 := (E.go s1 o1).newM0 hp x1
  have hml := o1.1
  refine hb X B.toBd S (M ++ [p]) σ _ E1 _ fun p2 ws H2 s2 o2 hp2 x2 => ?_
  have E2 := E1.go s2 o2
  have g1 : Grw m M (M ++ [p]) H := grw_new (by omega) s1 hp
  have t1 : Stp g M H (upd H1 p (.lst vs)) := s1.trans (.new hp)
  have g2 : Grw m (M ++ [p]) (M ++ [p] ++ [p2]) (upd H1 p (.lst vs)) := grw_new (by rw [List.length_append]; omega) s2 hp2
  have hk : (M ++ [p])[ω1.length]? = some p := by rw [← hml, List.getElem?_append_right (Nat.le_refl _), Nat.sub_self]; rfl
  have E3 := ((E2.setMu (i := i) hk).newM (i := j) hp2 x2)
  rw [show (ω1 ++ [ds]).length = ω1.length + 1 by simp] at E3
  exact ⟨.ref p, .ref p2, rfl, ok_rest B hr q (g1.trans t1 g2) (t1.thru g1 (s2.trans (.new hp2))) E3⟩
end
theorem DxL.inv {g : Gm} {S : List Addr} {H : Hp} {v : V} {vs : List V} {ds : List D} (h : DxL g S H (v :: vs) ds) : ∃ d es, ds = d :: es ∧ Dx g S H v d ∧ DxL g S H vs es := by
  cases h with
  | cons a b => exact ⟨_, _, rfl, a, b⟩
theorem DxL.perm {g : Gm} {S : List Addr} {H : Hp} {vs ys : List V} (h : ys.Perm vs) : ∀ {ds : List D}, DxL g S H vs ds → ∃ es, es.Perm ds ∧ DxL g S H ys es := by
  induction h with
  | nil => intro ds h; cases h; exact ⟨[], .refl _, .nil⟩
  | cons x _ ih =>
    intro ds h
    obtain ⟨d, ds, rfl, a, b⟩ := h.inv
    obtain ⟨es, p, q⟩ := ih b
    exact ⟨_ :: es, p.cons _, .cons a q⟩
  | swap x y l =>
    intro ds h
    obtain ⟨d, ds, rfl, a, b⟩ := h.inv
    obtain ⟨e, ds, rfl, c, f⟩ := b.inv
    exact ⟨_, .swap _ _ _, .cons c (.cons a f)⟩
  | trans _ _ ih1 ih2 =>
    intro ds h
    obtain ⟨es, p, q⟩ := ih2 h
    obtain ⟨fs, p2, q2⟩ := ih1 q
    exact ⟨fs, p2.trans p, q2⟩
theorem code_inj {B : Int} : ∀ {ns ms : List Int}, ns.length = ms.length → TS.Bd B ns → TS.Bd B ms → TS.code B ns = TS.code B ms → ns = ms
  | [], [], _, _, _, _ => rfl
  | d :: r, e :: q, hl, hr, hq, h => by
    have hl' : r.length = q.length := by simpa using hl
    rcases Int.lt_trichotomy d e with c | c | c
    · exact absurd h (Int.ne_of_lt (TS.code_lt hl' hr.tail hq.tail c))
    · subst c
      have : TS.code B r = TS.code B q := by
        have h' : d * B ^ r.length + TS.code B r = d * B ^ q.length + TS.code B q := h
        rw [hl'] at h'
        omega
      rw [code_inj hl' hr.tail hq.tail this]
    · exact absurd h.symm (Int.ne_of_lt (TS.code_lt hl'.symm hq.tail hr.tail c))
section
open PySem.W PySem.Calls
variable {prog : Program} {w : World} {A : Around} {E : Value → Shared → Prop} {s : Shared}
open TS in
/-- sorted(xs) of at most one -/
theorem sorted_one {l : Addr} {vs : List Value} {Q : Value → Shared → Prop} (hl : s.heap.IsList l vs.toArray) (h2 : vs.length < 2)
    (h : ∀ out : Array Value, out.toList.Perm vs → Q (.ref (s.heap.objs.size + 1)) { s with heap := sortedAll s.heap vs out }) :
    wpAny (model prog w) A (call (.builtin "sorted") [.ref l]) Q E s := by
  refine Calls.call_function_entry kind_sorted plain_sorted entry_sorted (args_sorted1 _) ?_
  unfold Builtin.«sorted»
  refine wpAny_bind (m := checkCount "sorted" 1 1 _) (wpAny_pure ?_)
  refine wpAny_bind (collect_list hl ?_ (by rw [sizeLine_eq]; omega))
  refine wpAny_bind (wpAny_newList ?_ (by rw [sizeLine_eq]; omega))
  have hsz : ((s.heap.push (seqObj "list" #[] 0)).update s.heap.objs.size (Obj.mapSeq (· ++ vs.toArray))).objs.size = s.heap.objs.size + 1 := by
    rw [Heap.size_update, size_push']
  have hoL : (((s.heap.push (seqObj "list" #[] 0)).update s.heap.objs.size (Obj.mapSeq (· ++ vs.toArray))).push (seqObj "list" vs.toArray 0)).get? (s.heap.objs.size + 1) = some (seqObj "list" vs.toArray 0) := by
    rw [← hsz]; exact Heap.get?_push_size _ rfl
  show wpAny _ _ _ _ _ { s with heap := ((s.heap.push (seqObj "list" #[] 0)).update s.heap.objs.size (Obj.mapSeq (· ++ vs.toArray))).push (seqObj "list" vs.toArray 0) }
  rw [hsz]
  refine wpAny_bind (wpAny_holding (wpAny_call_entry slot_list_sort ⟨_, hoL, rfl⟩ entry_list_sort (SK.plain_sort (r := fun _ => 0) hoL (by omega) (fun z => absurd z (by omega)) fun ps out a1 a2 a3 => ⟨_, rfl, ?_⟩) (args_list_sort _)))
  exact wpAny_pure ⟨_, rfl, h out (out_rank (r := fun _ => 0) a1 a2 a3).1⟩
end
def rSort1 (K : PySem.W.Frag) : List V → Hp → VK → Prop := fun vs H Q => ∃ (a : Addr) (xs : List V), vs = [V.ref a] ∧ SqL K H a xs ∧ xs.length < 2 ∧ (∀ x ∈ xs, ∃ t, x = .ref t) ∧ ∀ (p : Addr), H p = none → Q (.ref p) (upd H p (.lst xs))
theorem cr_sort1 {X : Cx} : CallR X (.builtin "sorted") (rSort1 X.K) := by
  intro pins s σ H vs us Q I r h
  obtain ⟨a, xs, rfl, hs, h2, hx, q⟩ := h
  obtain ⟨its, rv, hl, hz⟩ := I.list hs
  rw [Vals.ref1 r]
  obtain ⟨e1, e2⟩ := bkV_refs rv hx
  refine sorted_one hl.isList (by rw [← rv.length]; exact h2) fun out h1 => ?_
  obtain ⟨ep, he'⟩ := PyProof.Rows.sortedAll_at s.heap its out
  have h3 : ∀ u ∈ out.toList, ∃ a, u = Value.ref a := fun u hu => e2 u (h1.mem_iff.mp hu)
  have hp : out.toList.map bkV = xs := by
    have z : (out.toList.map bkV).Perm xs := by
      rw [e1]
      exact h1.map bkV
    cases xs with
    | nil => exact List.perm_nil.mp z
    | cons x xs =>
      cases xs with
      | nil => exact List.perm_singleton.mp z
      | cons y ys => exact absurd h2 (by simp)
  have hlen : (out.toList.map bkV).length ≤ sizeLine := by
    rw [hp]
    exact hz
  refine ⟨.ref _, upd H (s.heap.objs.size + 1) (.lst (out.toList.map bkV)), I.laid (t' := s.toks) (fun _ _ => PyProof.Rows.sortedAll_old) (Nat.le_succ _) ⟨hlen, out.toList, ep, bkV_vals h3, he'⟩, rfl, ?_⟩
  rw [hp]
  exact q _ (I.hok.fresh (Nat.le_succ _))
section
variable {g : Gm} {k : Nat}
abbrev lotD (l : List Int) : D := .tup (l.map .int)
/-- sorted of at most one tuple -/
theorem fn_sorted1 {ls : List (List Int)} (hz : ls.length < 2) : FnD g k (.builtin "sorted") [.lst (ls.map lotD)] (.lst (ls.map lotD)) := ⟨fun X => rSort1 X.K, fun X B => ⟨cr_sort1, fun S H xs Q l hx q => by
  cases hx with
  | cons h hr =>
    cases hr
    cases h with
    | @lst a vs _ na ha hs =>
      refine ⟨a, vs, rfl, by rw [B.K]; exact .of ha, by rw [hs.length, List.length_map]; exact hz, fun x hx => ?_, fun p hp' => ?_⟩
      · obtain ⟨i, hi⟩ := List.mem_iff_getElem?.mp hx
        obtain ⟨d, e1, e2⟩ := hs.get' hi
        rw [List.getElem?_map] at e1
        cases q : ls[i]? with
        | none => rw [q] at e1; cases e1
        | some y =>
          rw [q] at e1
          cases e1
          cases e2 with
          | tup _ _ => exact ⟨_, rfl⟩
      · exact q _ _ (.new hp') (.lst (l.out hp') upd_same (DxL.mono ((All.new hp').kp _) hs))⟩⟩
theorem DxL.tups {g : Gm} {S : List Addr} {H : Hp} : ∀ {vs : List V} {ls : List (List Int)}, DxL g S H vs (ls.map lotD) → ∀ x ∈ vs, ∃ ns ∈ ls, TupI g.K H x ns
  | v :: vs, l :: ls, h, x, hx => by
    obtain ⟨d, es, e, a, b⟩ := h.inv
    cases e
    rcases List.mem_cons.mp hx with rfl | hx
    · cases a with
      | @tup a us _ ha hs =>
        have := hs.ints
        subst this
        exact ⟨l, List.mem_cons_self, a, rfl, ha.to⟩
    · obtain ⟨ns, h1, h2⟩ := b.tups x hx
      exact ⟨ns, List.mem_cons_of_mem _ h1, h2⟩
theorem DxL.tupP {g : Gm} {S : List Addr} {H : Hp} {B : Int} : ∀ {vs : List V} {ls : List (List Int)}, DxL g S H vs (ls.map lotD) → vs.Pairwise (fun x y => ∀ n m, TupI g.K H x n → TupI g.K H y m → TS.code B n ≤ TS.code B m) → ls.Pairwise (fun n m => TS.code B n ≤ TS.code B m)
  | [], [], _, _ => .nil
  | [], _ :: _, h, _ => by cases h
  | v :: vs, [], h, _ => by cases h
  | v :: vs, l :: ls, h, p => by
    obtain ⟨d, es, e, a, b⟩ := h.inv
    cases e
    rw [List.pairwise_cons] at p ⊢
    refine ⟨fun y hy => ?_, b.tupP p.2⟩
    obtain ⟨i, hi⟩ := List.mem_iff_getElem?.mp hy
    obtain ⟨w, h1, h2⟩ := b.get (i := i) (d := lotD y) (by rw [List.getElem?_map, hi]; rfl)
    refine p.1 w (List.mem_of_getElem? h1) l y ?_ ?_
    · cases a with
      | @tup a us _ ha hs =>
        have := hs.ints
        subst this
        exact ⟨a, rfl, ha.to⟩
    · cases h2 with
      | @tup a us _ ha hs =>
        have := hs.ints
        subst this
        exact ⟨a, rfl, ha.to⟩
theorem map_perm_lots {es : List D} {ls : List (List Int)} (h : es.Perm (ls.map lotD)) : ∃ ms : List (List Int), ms.Perm ls ∧ es = ms.map lotD := by
  obtain ⟨ms, h1, h2⟩ : ∃ ms : List (List Int), ms.Perm ls ∧ ms.map lotD = es := by
    have := h
    generalize e : ls.map lotD = ds at this
    induction this generalizing ls with
    | nil => exact ⟨ls, .refl _, e⟩
    | cons x p ih =>
      cases ls with
      | nil => cases e
      | cons l ls =>
        injection e with e1 e2
        obtain ⟨ms, q1, q2⟩ := ih (ls := ls) (by rw [e2]; exact p) e2
        exact ⟨l :: ms, q1.cons _, by rw [List.map_cons, e1, q2]⟩
    | swap x y t =>
      cases ls with
      | nil => cases e
      | cons l ls =>
        injection e with e1 e2
        cases ls with
        | nil => cases e2
        | cons l' ls =>
          injection e2 with e3 e4
          exact ⟨l' :: l :: ls, .swap _ _ _, by rw [List.map_cons, List.map_cons, e1, e3, e4]⟩
    | trans p1 p2 ih1 ih2 =>
      obtain ⟨ms, q1, q2⟩ := ih2 (by rw [e]; exact p2) e
      obtain ⟨ms2, q3, q4⟩ := ih1 (by rw [q2]; exact p1) q2
      exact ⟨ms2, q3.trans q1, q4⟩
  exact ⟨ms, h1, h2.symm⟩
/-- sorted of tuples of d ints below B -/
theorem fn_sortedT {ls ms : List (List Int)} {d : Nat} {B : Int} (hd : 1 ≤ d) (hz : ls.length < 64) (hl : ∀ l ∈ ls, l.length = d ∧ TS.Bd B l) (hp : ms.Perm ls) (ho : ms.Pairwise fun n m => TS.code B n ≤ TS.code B m) : FnD g k (.builtin "sorted") [.lst (ls.map lotD)] (.lst (ms.map lotD)) := ⟨fun X => rSortU X.K d B, fun X B' => ⟨cr_sortT hd, fun S H xs Q l hx q => by
  cases hx with
  | cons h hr =>
    cases hr
    cases h with
    | @lst a vs _ na ha hs =>
      refine ⟨a, vs, rfl, by rw [B'.K]; exact .of ha, by rw [hs.length, List.length_map]; exact hz, fun x hx => ?_, fun ys p h1 h2 hp' => ?_⟩
      · obtain ⟨ns, m, t⟩ := hs.tups x hx
        rw [B'.K]
        exact ⟨ns, t, hl ns m⟩
      · rw [B'.K] at h2
        obtain ⟨es, e1, e2⟩ := hs.perm h1
        obtain ⟨ms', m1, rfl⟩ := map_perm_lots e1
        have h3 := e2.tupP h2
        have e : ms' = ms := List.Perm.eq_of_pairwise (le := fun n m => TS.code B n ≤ TS.code B m) (fun n m hn hm h4 h5 => by
          have l1 := hl n (m1.mem_iff.mp hn)
          have l2 := hl m (hp.mem_iff.mp hm)
          exact code_inj (l1.1.trans l2.1.symm) l1.2 l2.2 (Int.le_antisymm h4 h5)) h3 ho (m1.trans hp.symm)
        subst e
        exact q _ _ (.new hp') (.lst (l.out hp') upd_same (DxL.mono ((All.new hp').kp _) e2))⟩⟩
end
end Hw
set_option Elab.async false
set_option linter.all false
set_option maxRecDepth 100000
set_option maxHeartbeats 2000000
/-! The walks: the law's hand. -/
namespace Hw
open PySem PySem.Spec PyProof.Rows L2

structure Hd where
  cells : List Int
  pos : Nat
  word : Int
  tot : Int
abbrev hdD (h : Hd) : List D := [.lst (nums h.cells), .int h.pos, .int h.word, .int h.tot]
structure Hok (h : Hd) : Prop where
  len : h.cells.length ≤ 63
  pos : h.pos ≤ h.cells.length
  word : 0 ≤ h.word
  tot : 0 ≤ h.tot ∧ h.tot < 2 ^ 31
def mixA (n t : Int) : Int := (n * 48271 + t * 7919 + 65537) % 2147483647
def mixB (n t : Int) : Int := (mixA n t * mixA n t + t * 104729 + mixA n t / 127) % 2147483629
def mixV (n t : Int) : Int := (mixB n t * 69621 + mixA n t / 5) % 2147483587 / 16
def Hd.tk (h : Hd) (m : Int) : Int × Hd :=
  if h.word = 0 ∧ h.pos < h.cells.length then
    if h.cells.getD h.pos 0 < 10 ^ 18 then (mixV (h.cells.getD h.pos 0 % 2147483647) (h.pos + 1 : Nat) % m, ⟨h.cells, h.pos + 1, h.word, h.tot⟩)
    else (h.cells.getD h.pos 0 % m, ⟨h.cells, h.pos + 1, h.cells.getD h.pos 0 / m, h.tot⟩)
  else if 0 < h.word then (h.word % m, ⟨h.cells, h.pos, h.word / m, h.tot⟩)
  else (mixV ((h.tot + 1) % 2147483629) h.pos % m, ⟨h.cells, h.pos, h.word, (h.tot + 1) % 2147483629⟩)
theorem Hd.tk_rng {h : Hd} {m : Int} (hm : 0 < m) : 0 ≤ (h.tk m).1 ∧ (h.tk m).1 < m := by
  unfold Hd.tk
  split
  · split
    · exact ⟨Int.emod_nonneg _ (by omega), Int.emod_lt_of_pos _ hm⟩
    · exact ⟨Int.emod_nonneg _ (by omega), Int.emod_lt_of_pos _ hm⟩
  · split
    · exact ⟨Int.emod_nonneg _ (by omega), Int.emod_lt_of_pos _ hm⟩
    · exact ⟨Int.emod_nonneg _ (by omega), Int.emod_lt_of_pos _ hm⟩
theorem Hok.tk {h : Hd} {m : Int} (o : Hok h) (hm : 0 < m) : Hok (h.tk m).2 := by
  have ht : 0 ≤ (h.tot + 1) % 2147483629 ∧ (h.tot + 1) % 2147483629 < 2 ^ 31 := by omega
  unfold Hd.tk
  split
  · rename_i c
    split
    · exact ⟨o.len, c.2, o.word, o.tot⟩
    · exact ⟨o.len, c.2, Int.ediv_nonneg (by omega) (by omega), o.tot⟩
  · split
    · exact ⟨o.len, o.pos, Int.ediv_nonneg o.word (by omega), o.tot⟩
    · exact ⟨o.len, o.pos, o.word, ht⟩
theorem bt_of {n : Nat} {i : Int} (h0 : 0 ≤ i) (h : i < 2 ^ n) : Bt n i := by
  show i.natAbs < 2 ^ n
  have : ((2 ^ n : Nat) : Int) = 2 ^ n := by norm_cast
  omega
theorem btd {i : Int} (h : i.natAbs < 2 ^ 20) : Bt 20 i := h
def totS : List Int → Int → Int
  | [], t => t
  | c :: cs, t => totS cs ((t * 1019 + c) % 2147483629)
def absS (c : Int) : Int := if 0 ≤ c then c else -c
def hd0 (ns : List Int) : Hd := ⟨ns.map absS, 0, 0, totS ns (ns.length + 31)⟩
theorem totS_rng : ∀ (cs : List Int) (t : Int), 0 ≤ t → t < 2 ^ 31 → 0 ≤ totS cs t ∧ totS cs t < 2 ^ 31
  | [], t, h0, h1 => ⟨h0, h1⟩
  | c :: cs, t, _, _ => totS_rng cs _ (by omega) (by omega)
theorem hd0_ok {ns : List Int} (h : ns.length ≤ 63) : Hok (hd0 ns) := ⟨by simp [hd0]; exact h, by simp [hd0], by simp [hd0], totS_rng _ _ (by omega) (by omega)⟩
theorem totS_take {ns : List Int} {i : Nat} {c : Int} (e : ns[i]? = some c) (t : Int) : totS (ns.take (i + 1)) t = (totS (ns.take i) t * 1019 + c) % 2147483629 := by
  induction ns generalizing i t with
  | nil => simp at e
  | cons a ns ih =>
    cases i with
    | zero => simp at e; subst e; rfl
    | succ i => exact ih (by simpa using e) _
section
variable {g : Gm} (h : Has g)
include h
theorem c__law_mixed {n t : Int} (hn : 0 ≤ n) (hn2 : n < 2 ^ 32) (ht : 0 ≤ t) (ht2 : t < 2 ^ 32) : CallP g 1 "_law_mixed" [.int n, .int t] (.val (.int (mixV n t))) := by
  refine call_ok ["_law_number", "_law_turn", "_law_once", "_law_twice"] ["_law_number", "_law_turn"] (h.fn 33 "_law_mixed" s__law_mixed [] rfl) ⟨rfl, rfl, rfl, by decide +kernel, rfl, by decide +kernel, by decide +kernel⟩ (fun W hm => ?_) (fun _ _ _ _ _ _ us hl => match us, hl with | [_, _], _ => rfl)
  have a0 : 0 ≤ mixA n t ∧ mixA n t < 2 ^ 32 := by unfold mixA; omega
  have b0 : 0 ≤ mixB n t ∧ mixB n t < 2 ^ 32 := by unfold mixB; omega
  refine ws_set 2 (d := .int (mixA n t)) (ev_bin (ev_cty h.li.int (ea_cons (ev_bin (ev_bin (ev_bin (ev_var 0 rfl rfl) ev_int (bin_mul (bt_of hn hn2) (btd (by decide)) (by decide))) (ev_bin (ev_var 1 rfl rfl) ev_int (bin_mul (bt_of ht ht2) (btd (by decide)) (by decide))) bin_add) ev_int bin_add) ea_nil) fn_int) ev_int (bin_mod (by decide))) ?_
  refine ws_set 3 (d := .int (mixB n t)) (ev_bin (ev_cty h.li.int (ea_cons (ev_bin (ev_bin (ev_bin (ev_var 2 rfl rfl) (ev_var 2 rfl rfl) (bin_mul (bt_of a0.1 a0.2) (bt_of a0.1 a0.2) (by decide))) (ev_bin (ev_var 1 rfl rfl) ev_int (bin_mul (bt_of ht ht2) (btd (by decide)) (by decide))) bin_add) (ev_bin (ev_var 2 rfl rfl) ev_int (bin_fdiv (by decide) (btd (by decide)) (by decide))) bin_add) ea_nil) fn_int) ev_int (bin_mod (by decide))) ?_
  exact ws_ret (d := .int (mixV n t)) (ev_bin (ev_cty h.li.int (ea_cons (ev_bin (ev_cty h.li.int (ea_cons (ev_bin (ev_bin (ev_var 3 rfl rfl) ev_int (bin_mul (bt_of b0.1 b0.2) (btd (by decide)) (by decide))) (ev_bin (ev_var 2 rfl rfl) ev_int (bin_fdiv (by decide) (btd (by decide)) (by decide))) bin_add) ea_nil) fn_int) ev_int (bin_mod (by decide))) ea_nil) fn_int) ev_int (bin_fdiv (by decide) (btd (by decide)) (by decide))) ⟨rfl, rfl⟩
theorem c__law_take {hd : Hd} {m : Int} (o : Hok hd) (m0 : 0 < m) (hb : Bt 8000 m) : CallH g 2 "_law_take" [.int m] (hdD hd) (.val (.int (hd.tk m).1)) (hdD (hd.tk m).2) := by
  refine call_ok ["_law_hand_here", "_law_many", "_law_cell", "_law_rest"] ["_law_hand_here", "_law_many"] (h.fn 34 "_law_take" s__law_take [] rfl) ⟨rfl, rfl, rfl, by decide +kernel, rfl, by decide +kernel, by decide +kernel⟩ (fun W hm => ?_) (fun _ _ _ _ _ _ us hl => match us, hl with | [_, _], _ => rfl)
  have l := o.len
  have p := o.pos
  have w := o.word
  have tt := o.tot
  by_cases c1 : hd.word = 0 ∧ hd.pos < hd.cells.length
  · refine ws_ifT (EvT.is (et_w (ew_andP (et_cmp (ev_ixM 0 0 rfl ev_int rfl (by decide) rfl) ev_int cmp_eqI) fun _ => (ew_and1 (et_cmp (ev_ixM 0 0 rfl ev_int rfl (by decide) rfl) (ev_cb h.li.len (ea_cons (ev_ixM 0 0 rfl ev_int rfl (by decide) rfl) ea_nil) fn_len_l) cmp_lt)))) (by simp; omega)) ?_
    obtain ⟨cell, hc⟩ := get_of c1.2
    have hc' : (nums hd.cells)[((hd.pos : Nat) : Int).toNat]? = some (.int cell) := by rw [Int.toNat_natCast]; exact map_get hc
    refine ws_set 2 (ev_ix (ev_ixM 0 0 rfl ev_int rfl (by decide) rfl) (ev_ixM 0 0 rfl ev_int rfl (by decide) rfl) (ix_lstN (by omega) hc')) ?_
    refine ws_sub 0 0 (n := 1) rfl (ev_bin (ev_ixM 0 0 rfl ev_int rfl (by decide) rfl) ev_int bin_add) ev_int rfl (by decide) (by simp) ?_
    by_cases c2 : cell < 10 ^ 18
    · have e : hd.tk m = (mixV (cell % 2147483647) ((hd.pos : Int) + 1) % m, ⟨hd.cells, hd.pos + 1, hd.word, hd.tot⟩) := by
        unfold Hd.tk
        rw [if_pos c1, getD_of hc, if_pos c2]
        rfl
      rw [e]
      refine ws_ifT (EvT.is (et_cmp (ev_var 2 rfl rfl) (ev_bin ev_int ev_int (bin_pow (⟨by decide, by decide, by decide⟩))) cmp_lt) (decide_eq_true c2)) ?_
      refine ws_ret (ev_bin (ev_cty h.li.int (ea_cons (ev_call (c__law_mixed h (n := cell % 2147483647) (t := (hd.pos : Int) + 1) (by omega) (by omega) (by omega) (by omega)) (ea_cons (ev_bin (ev_cty h.li.int (ea_cons (ev_var 2 rfl rfl) ea_nil) fn_int) ev_int (bin_mod (by decide))) (ea_cons (ev_ixM 0 0 rfl ev_int rfl (by decide) rfl) ea_nil))) ea_nil) fn_int) (ev_var 1 rfl rfl) (bin_mod m0)) ⟨rfl, rfl⟩
    · have e : hd.tk m = (cell % m, ⟨hd.cells, hd.pos + 1, cell / m, hd.tot⟩) := by
        unfold Hd.tk
        rw [if_pos c1, getD_of hc, if_neg c2]
      rw [e]
      refine ws_ifF (EvT.is (et_cmp (ev_var 2 rfl rfl) (ev_bin ev_int ev_int (bin_pow (⟨by decide, by decide, by decide⟩))) cmp_lt) (decide_eq_false c2)) ?_
      refine ws_sub 0 0 (n := 2) rfl (ev_var 2 rfl rfl) ev_int rfl (by decide) (by simp) ?_
      refine ws_nil (ws_ifT (EvT.is (et_cmp (ev_ixM 0 0 rfl ev_int rfl (by decide) rfl) ev_int cmp_gt) (decide_eq_true (by omega))) ?_)
      refine ws_set 3 (ev_ixM 0 0 rfl ev_int rfl (by decide) rfl) ?_
      refine ws_sub 0 0 (n := 2) rfl (ev_bin (ev_cty h.li.int (ea_cons (ev_var 3 rfl rfl) ea_nil) fn_int) (ev_var 1 rfl rfl) (bin_fdiv m0 hb (by decide))) ev_int rfl (by decide) (by simp) ?_
      exact ws_ret (ev_bin (ev_cty h.li.int (ea_cons (ev_var 3 rfl rfl) ea_nil) fn_int) (ev_var 1 rfl rfl) (bin_mod m0)) ⟨rfl, rfl⟩
  · refine ws_ifF (EvT.is (et_w (ew_andP (et_cmp (ev_ixM 0 0 rfl ev_int rfl (by decide) rfl) ev_int cmp_eqI) fun _ => (ew_and1 (et_cmp (ev_ixM 0 0 rfl ev_int rfl (by decide) rfl) (ev_cb h.li.len (ea_cons (ev_ixM 0 0 rfl ev_int rfl (by decide) rfl) ea_nil) fn_len_l) cmp_lt)))) (by simp; omega)) ?_
    by_cases c2 : 0 < hd.word
    · have e : hd.tk m = (hd.word % m, ⟨hd.cells, hd.pos, hd.word / m, hd.tot⟩) := by
        unfold Hd.tk
        rw [if_neg c1, if_pos c2]
      rw [e]
      refine ws_ifT (EvT.is (et_cmp (ev_ixM 0 0 rfl ev_int rfl (by decide) rfl) ev_int cmp_gt) (decide_eq_true c2)) ?_
      refine ws_set 3 (ev_ixM 0 0 rfl ev_int rfl (by decide) rfl) ?_
      refine ws_sub 0 0 (n := 2) rfl (ev_bin (ev_cty h.li.int (ea_cons (ev_var 3 rfl rfl) ea_nil) fn_int) (ev_var 1 rfl rfl) (bin_fdiv m0 hb (by decide))) ev_int rfl (by decide) (by simp) ?_
      exact ws_ret (ev_bin (ev_cty h.li.int (ea_cons (ev_var 3 rfl rfl) ea_nil) fn_int) (ev_var 1 rfl rfl) (bin_mod m0)) ⟨rfl, rfl⟩
    · have e : hd.tk m = (mixV ((hd.tot + 1) % 2147483629) hd.pos % m, ⟨hd.cells, hd.pos, hd.word, (hd.tot + 1) % 2147483629⟩) := by
        unfold Hd.tk
        rw [if_neg c1, if_neg c2]
      rw [e]
      refine ws_ifF (EvT.is (et_cmp (ev_ixM 0 0 rfl ev_int rfl (by decide) rfl) ev_int cmp_gt) (decide_eq_false c2)) ?_
      refine ws_sub 0 0 (n := 3) rfl (ev_bin (ev_cty h.li.int (ea_cons (ev_bin (ev_ixM 0 0 rfl ev_int rfl (by decide) rfl) ev_int bin_add) ea_nil) fn_int) ev_int (bin_mod (by decide))) ev_int rfl (by decide) (by simp) ?_
      exact ws_ret (ev_bin (ev_cty h.li.int (ea_cons (ev_call (c__law_mixed h (n := (hd.tot + 1) % 2147483629) (t := (hd.pos : Int)) (by omega) (by omega) (by omega) (by omega)) (ea_cons (ev_ixM 0 0 rfl ev_int rfl (by decide) rfl) (ea_cons (ev_ixM 0 0 rfl ev_int rfl (by decide) rfl) ea_nil))) ea_nil) fn_int) (ev_var 1 rfl rfl) (bin_mod m0)) ⟨rfl, rfl⟩
theorem c__law_hand {ns : List Int} (hl : ns.length ≤ 63) : CallP g 1 "_law_hand" [.scr ns] (.val (.lst (hdD (hd0 ns)))) := by
  refine call_ok ["_law_script", "_law_total", "_law_cells", "_law_cell"] ["_law_script"] (h.fn 32 "_law_hand" s__law_hand [] rfl) ⟨rfl, rfl, rfl, by decide +kernel, rfl, by decide +kernel, by decide +kernel⟩ (fun W hm => ?_) (fun _ _ _ _ _ _ us hl => match us, hl with | [_], _ => rfl)
  refine ws_set 1 (d := .int (totS (ns.take 0) ((ns.length : Int) + 31))) (ev_bin (ev_cb h.li.len (ea_cons (ev_var 0 rfl rfl) ea_nil) fn_len_s) ev_int bin_add) ?_
  refine ws_new 2 (en_lst ea_nil) ?_ (by decide)
  refine ws_for (is := [3]) (fun i => [some (.dat (.scr ns)), some (.dat (.int (totS (ns.take i) ((ns.length : Int) + 31)))), some (.mu 0), none]) (fun i => [some (.dat (.scr ns)), some (.dat (.int (totS (ns.take i) ((ns.length : Int) + 31)))), some (.mu 0), some (.dat (.int (ns.getD i 0)))]) (fun i => [nums ((ns.take i).map absS)]) (ei_scr (ev_var 0 rfl rfl)) (.refl _) (fun i d e => ?_) (fun i d e => ?_) ?_
  · obtain ⟨c, hc, rfl⟩ := sq_get e
    rw [getD_of hc]
    exact eg_name 3 rfl (by decide +kernel)
  · obtain ⟨c, hc, rfl⟩ := sq_get e
    rw [getD_of hc]
    have ll := List.length_take_le' i ns
    have tr := totS_rng (ns.take i) ((ns.length : Int) + 31) (by omega) (by omega)
    refine ws_set 1 (d := .int (totS (ns.take (i + 1)) ((ns.length : Int) + 31))) (EvE.is (ev_bin (ev_cty h.li.int (ea_cons (ev_bin (ev_bin (ev_var 1 rfl rfl) ev_int (bin_mul (bt_of tr.1 tr.2) (btd (by decide)) (by decide))) (ev_cty h.li.int (ea_cons (ev_var 3 rfl rfl) ea_nil) fn_int) bin_add) ea_nil) fn_int) ev_int (bin_mod (by decide))) (by rw [totS_take hc])) ?_
    refine ws_app 2 0 (d := .int (absS c)) (ω1 := [nums ((ns.take i).map absS)]) rfl ?_ rfl (by simp; omega) (ws_nil ⟨.keep (.keep (.keep (.drop .nil))), ?_⟩)
    · unfold absS
      by_cases cc : 0 ≤ c
      · rw [if_pos cc]
        exact ev_ifT (EvT.is (et_cmp (ev_var 3 rfl rfl) ev_int cmp_ge) (decide_eq_true cc)) (ev_cty h.li.int (ea_cons (ev_var 3 rfl rfl) ea_nil) fn_int)
      · rw [if_neg cc]
        exact ev_ifF (EvT.is (et_cmp (ev_var 3 rfl rfl) ev_int cmp_ge) (decide_eq_false cc)) (ev_neg (ev_cty h.li.int (ea_cons (ev_var 3 rfl rfl) ea_nil) fn_int))
    · show [nums ((ns.take i).map absS) ++ [.int (absS c)]] = [nums ((ns.take (i + 1)).map absS)]
      rw [take_more hc]
      simp
  · rw [List.length_map, List.take_length]
    refine ws_freeze (ω := []) 2 rfl (by decide) (mu_by rfl) ?_
    exact ws_ret (ev_lst (ea_cons (ev_var 2 rfl rfl) (ea_cons ev_int (ea_cons ev_int (ea_cons (ev_var 1 rfl rfl) ea_nil))))) ⟨rfl, rfl⟩
end
end Hw
set_option Elab.async false
set_option linter.all false
set_option maxRecDepth 100000
set_option maxHeartbeats 2000000
/-! not e; comprehensions that draw. -/
namespace Hw
open PySem PySem.Spec PyProof.Rows L2

section
variable {g : Gm} {N : List Str} {sc : Scope} {k : Nat} {W : Wm} {ρ : Rho} {ω ω1 : Om} {pos px : Pos} {α : Type}
theorem ev_notT {a : Expr} {d : D} (ha : EvE g N sc k W a ρ ω (.val d) ω1) (ht : hasTru d = true := by rfl) : EvE g N sc k W (.UnaryOp .Not a pos) ρ ω (.val (.bl (!(truB d)))) ω1 := fun X B S M σ H E Q q => by
  refine s_of (pe_notT (pe_s X a)) ?_
  refine ha X B S M σ H E _ fun x H1 s1 o1 x1 => ?_
  exact ⟨truB d, by rw [B.K]; exact truV x1 ht, q _ _ s1 o1 (.bl _)⟩
/-- [elt for x in xs], the changing lists go from om i to om (i + 1) -/
theorem ev_lcH {elt iter : Expr} {scope : Scope} {x : Str} (t : Nat) (own : List (Str × Nat)) (xs : List α) (f : α → D) (om : Nat → Om) (r : Nat → D) (hi : EvI g N sc k W (.Name x px) iter ρ ω (xs.map f) (om 0))
    (he : ∀ (i : Nat) a, xs[i]? = some a → EvE g N (relS scope sc) k WF elt ((wipeR ρ (own.map (·.2))).set t (some (.dat (f a)))) (om i) (.val (r i)) (om (i + 1)))
    (hz : xs.length ≤ 1000000) (hN : N[t]? = some x := by rfl) (hx : tgB (relS scope sc) (fun x => scope.names.lookup x == some .cell) x = true := by decide +kernel) (hsub : t ∈ own.map (·.2) := by decide)
    (ok : blkC N sc scope own = true := by decide +kernel) (hs : ∀ (env : Env) x, foldedSetIterable iter env x = pure x := by intro _ _; rfl) :
    EvE g N sc k W (.ListComp elt [⟨.Name x px, iter, [], 0⟩] scope pos) ρ ω (.val (.lst ((List.range xs.length).map r))) (om xs.length) := by
  have z := ev_lc (pos := pos) (is := [t]) own om om (fun _ => true) r (fun i => (wipeR ρ (own.map (·.2))).set t (some (.dat (resX xs f i)))) hi
    (fun i d e => by
      obtain ⟨a, e1, rfl⟩ := sq_get e
      have : resX xs f i = f a := by unfold resX; rw [e1]
      rw [this]
      exact eg_name t hN hx)
    (fun i d e => eif_nil)
    (fun i d e hk => by
      obtain ⟨a, e1, rfl⟩ := sq_get e
      have h1 : resX xs f i = f a := by unfold resX; rw [e1]
      rw [h1]
      exact he i a e1)
    (fun _ _ _ h => by cases h) (by rw [List.length_map]; exact hz) (by intro i hi; rw [List.mem_singleton.mp hi]; exact hsub) ok hs
  rw [List.length_map] at z
  have e : outs (fun _ => true) r xs.length = (List.range xs.length).map r := by
    unfold outs
    rw [List.filter_eq_self.mpr (by simp)]
  rw [e] at z
  exact z
end
end Hw
set_option Elab.async false
set_option linter.all false
set_option maxRecDepth 100000
set_option maxHeartbeats 2000000
/-! The walks: the law's lines, words, hums. -/
namespace Hw
open PySem PySem.Spec PyProof.Rows L2

def Hd.count (h : Hd) : Int × Hd :=
  if (h.tk 8).1 = 0 then (12 + ((h.tk 8).2.tk 13).1, ((h.tk 8).2.tk 13).2) else (1 + ((h.tk 8).2.tk 8).1, ((h.tk 8).2.tk 8).2)
theorem Hd.count_rng (h : Hd) : 1 ≤ h.count.1 ∧ h.count.1 ≤ 24 := by
  unfold Hd.count
  have a := Hd.tk_rng (h := (h.tk 8).2) (m := 13) (by decide)
  have b := Hd.tk_rng (h := (h.tk 8).2) (m := 8) (by decide)
  split <;> simp <;> omega
theorem Hok.count {h : Hd} (o : Hok h) : Hok h.count.2 := by
  unfold Hd.count
  split
  · exact (o.tk (by decide)).tk (by decide)
  · exact (o.tk (by decide)).tk (by decide)
/-- i draws of m -/
def Hd.dr (h : Hd) (m : Int) : Nat → Hd
  | 0 => h
  | i + 1 => ((h.dr m i).tk m).2
def Hd.dv (h : Hd) (m : Int) (i : Nat) : Int := ((h.dr m i).tk m).1
theorem Hok.dr {h : Hd} {m : Int} (o : Hok h) (hm : 0 < m) : ∀ i, Hok (h.dr m i)
  | 0 => o
  | i + 1 => (o.dr hm i).tk hm
theorem Hd.dv_rng {h : Hd} {m : Int} (hm : 0 < m) (i : Nat) : 0 ≤ h.dv m i ∧ h.dv m i < m := Hd.tk_rng hm
def evL (n : Nat) : List Rat := (List.range n).map fun _ => (1 : Rat)
def evM (n : Nat) : List Rat := (List.range n).map fun (k : Nat) => ((k : Int) : Rat)
/-- a line that is built -/
structure Ls where
  hd : Hd
  ls : List Rat
  ms : List Rat
  mr : Rat
def Ls.step (s : Nat) (l : Ls) : Ls :=
  ⟨(((l.hd.tk (4 * s)).2.tk 4).2.tk 2).2, l.ls ++ [mkRat (1 + (l.hd.tk (4 * s)).1) s], l.ms ++ [l.mr], l.mr + mkRat (1 + ((l.hd.tk (4 * s)).2.tk 4).1) (1 + (((l.hd.tk (4 * s)).2.tk 4).2.tk 2).1).toNat⟩
def lsAt (s : Nat) (l : Ls) : Nat → Ls
  | 0 => l
  | i + 1 => (lsAt s l i).step s
def Hd.share (h : Hd) : Nat := (1 + (h.tk 2).1).toNat
def Hd.ls0 (h : Hd) : Ls := ⟨((h.tk 2).2.tk 5).2, [], [], (((h.tk 2).2.tk 5).1 - 2 : Int)⟩
def Hd.line (h : Hd) (n : Nat) : List Rat × List Rat × Hd :=
  if (h.tk 3).1 = 0 then (evL n, evM n, (h.tk 3).2)
  else ((lsAt (h.tk 3).2.share (h.tk 3).2.ls0 n).ls, (lsAt (h.tk 3).2.share (h.tk 3).2.ls0 n).ms, (lsAt (h.tk 3).2.share (h.tk 3).2.ls0 n).hd)
theorem share_rng (h : Hd) : 1 ≤ h.share ∧ h.share ≤ 2 ∧ (h.share : Int) = 1 + (h.tk 2).1 := by
  have := Hd.tk_rng (h := h) (m := 2) (by decide)
  unfold Hd.share
  omega
def Hd.wd (h : Hd) (n : Nat) : List Int := 1 :: (List.range (n - 1)).map fun i => 1 - 2 * h.dv 2 i
def Hd.wdH (h : Hd) (n : Nat) : Hd := h.dr 2 (n - 1)
theorem Hd.wd_ok {h : Hd} {n : Nat} (h1 : 1 ≤ n) (h2 : n ≤ 24) : WdOk n (h.wd n) := ⟨by simp [Hd.wd]; omega, h1, h2, fun w hw => by
  rcases List.mem_cons.mp hw with rfl | hw
  · exact .inl rfl
  · obtain ⟨i, _, rfl⟩ := List.mem_map.mp hw
    have := Hd.dv_rng (h := h) (m := 2) (by decide) i
    unfold Sgn
    omega, rfl⟩
def Hd.hum (h : Hd) (n : Nat) : List Rat := (List.range n).map fun i => mkRat ((h.tk 2).2.dv 7 i - 3) h.share
def Hd.humH (h : Hd) (n : Nat) : Hd := (h.tk 2).2.dr 7 n
theorem mk_bt {t : Int} {b : Nat} {c : Nat} (h0 : b ≠ 0) (h1 : t.natAbs < 2 ^ c) (h2 : b < 2 ^ c) : Rb c (mkRat t b) := Rb.mk h0 h1 (by show Int.natAbs _ < 2 ^ c; simpa using h2)
theorem Hd.hum_ok (h : Hd) (n : Nat) : HmS n (h.hum n) := ⟨by simp [Hd.hum], fun q hq => by
  obtain ⟨i, _, rfl⟩ := List.mem_map.mp hq
  have s := share_rng h
  have d := Hd.dv_rng (h := (h.tk 2).2) (m := 7) (by decide) i
  exact mk_bt (by omega) (by omega) (by omega)⟩
/-- what of the line built holds at each turn -/
structure LsOk (l : Ls) : Prop where
  hd : Hok l.hd
  len : l.ls.length = l.ms.length
  gt : ∀ q ∈ l.ls, 0 < q.num
  bl : ∀ q ∈ l.ls, Rb 20 q
  bm : ∀ q ∈ l.ms ++ [l.mr], Rb (4 + 4 * l.ms.length) q
  inc : ∀ (i : Nat) (p q : Rat), (l.ms ++ [l.mr])[i]? = some p → (l.ms ++ [l.mr])[i + 1]? = some q → p < q
theorem mkRat_num {t : Int} {b : Nat} (ht : 0 < t) (hb : b ≠ 0) : 0 < (mkRat t b).num := by
  rw [(mkRat_eqs t hb).1]
  exact Int.ediv_pos_of_pos_of_dvd ht (by omega) (Int.gcd_dvd_left ..)
theorem num_gt {q : Rat} (h : 0 < q.num) : 0 < q := by
  rw [Rat.lt_iff]
  simpa using h
theorem LsOk.step {l : Ls} (o : LsOk l) {s : Nat} (hs : 1 ≤ s ∧ s ≤ 2) : LsOk (l.step s) := by
  have d1 := Hd.tk_rng (h := l.hd) (m := 4 * s) (by omega)
  have o1 := o.hd.tk (m := 4 * s) (by omega)
  have d2 := Hd.tk_rng (h := (l.hd.tk (4 * s)).2) (m := 4) (by decide)
  have o2 := o1.tk (m := 4) (by decide)
  have d3 := Hd.tk_rng (h := ((l.hd.tk (4 * s)).2.tk 4).2) (m := 2) (by decide)
  have o3 := o2.tk (m := 2) (by decide)
  have p1 : 0 < (mkRat (1 + (l.hd.tk (4 * s)).1) s).num := mkRat_num (by omega) (by omega)
  have p2 : 0 < mkRat (1 + ((l.hd.tk (4 * s)).2.tk 4).1) (1 + (((l.hd.tk (4 * s)).2.tk 4).2.tk 2).1).toNat := num_gt (mkRat_num (by omega) (by omega))
  refine ⟨o3, by simp [Ls.step, o.len], fun q hq => ?_, fun q hq => ?_, fun q hq => ?_, fun i p q e1 e2 => ?_⟩
  · rcases List.mem_append.mp hq with z | z
    · exact o.gt q z
    · rw [List.mem_singleton.mp z]
      exact p1
  · rcases List.mem_append.mp hq with z | z
    · exact o.bl q z
    · rw [List.mem_singleton.mp z]
      exact mk_bt (by omega) (by omega) (by omega)
  · have hq' : q ∈ l.ms ++ [l.mr] ++ [l.mr + mkRat (1 + ((l.hd.tk (4 * s)).2.tk 4).1) (1 + (((l.hd.tk (4 * s)).2.tk 4).2.tk 2).1).toNat] := hq
    have el : (l.step s).ms.length = l.ms.length + 1 := by simp [Ls.step]
    rw [el]
    rcases List.mem_append.mp hq' with z | z
    · exact (o.bm q z).mono (by omega)
    · rw [List.mem_singleton.mp z]
      have b1 := o.bm l.mr (by simp)
      have b2 : Rb 3 (mkRat (1 + ((l.hd.tk (4 * s)).2.tk 4).1) (1 + (((l.hd.tk (4 * s)).2.tk 4).2.tk 2).1).toNat) := mk_bt (by omega) (by omega) (by omega)
      exact (b1.add b2).mono (by omega)
  · have e1' : (l.ms ++ [l.mr] ++ [l.mr + mkRat (1 + ((l.hd.tk (4 * s)).2.tk 4).1) (1 + (((l.hd.tk (4 * s)).2.tk 4).2.tk 2).1).toNat])[i]? = some p := e1
    have e2' : (l.ms ++ [l.mr] ++ [l.mr + mkRat (1 + ((l.hd.tk (4 * s)).2.tk 4).1) (1 + (((l.hd.tk (4 * s)).2.tk 4).2.tk 2).1).toNat])[i + 1]? = some q := e2
    by_cases c : i + 1 < (l.ms ++ [l.mr]).length
    · rw [List.getElem?_append_left (by omega)] at e1'
      rw [List.getElem?_append_left c] at e2'
      exact o.inc i p q e1' e2'
    · have c2 : i + 1 = (l.ms ++ [l.mr]).length := by
        have := (List.getElem?_eq_some_iff.mp e2').1
        simp at this c ⊢
        omega
      have c3 : i = l.ms.length := by simpa using c2
      rw [List.getElem?_append_left (by simp; omega), List.getElem?_append_right (by omega), c3, Nat.sub_self] at e1'
      rw [List.getElem?_append_right (by omega), c2, Nat.sub_self] at e2'
      cases e1'
      cases e2'
      grind
theorem lsAt_ok {l : Ls} (o : LsOk l) {s : Nat} (hs : 1 ≤ s ∧ s ≤ 2) : ∀ i, LsOk (lsAt s l i)
  | 0 => o
  | i + 1 => (lsAt_ok o hs i).step hs
theorem lsAt_len (s : Nat) (l : Ls) : ∀ i, (lsAt s l i).ls.length = l.ls.length + i
  | 0 => rfl
  | i + 1 => by
    show (_ ++ [_]).length = _
    rw [List.length_append, lsAt_len s l i]
    rfl
end Hw
set_option Elab.async false
set_option linter.all false
set_option maxRecDepth 100000
set_option maxHeartbeats 2000000
/-! The walks: the law's lines, words, hums. -/
namespace Hw
open PySem PySem.Spec PyProof.Rows L2

theorem ls0_ok {h : Hd} (o : Hok h) : LsOk h.ls0 := by
  have o2 := o.tk (m := 2) (by decide)
  have t := Hd.tk_rng (h := (h.tk 2).2) (m := 5) (by decide)
  refine ⟨o2.tk (by decide), rfl, fun q hq => (by cases hq), fun q hq => (by cases hq), fun q hq => ?_, fun i p q e1 e2 => ?_⟩
  · rw [List.mem_singleton.mp hq]
    exact Rb.int (i := ((h.tk 2).2.tk 5).1 - 2) (by show Int.natAbs _ < 2 ^ 4; omega)
  · simp [Hd.ls0] at e2
section
variable {g : Gm} (h : Has g)
include h
theorem c__law_count {hd : Hd} (o : Hok hd) : CallH g 3 "_law_count" [] (hdD hd) (.val (.int hd.count.1)) (hdD hd.count.2) := by
  refine call_ok ["_law_hand_here"] ["_law_hand_here"] (h.fn 47 "_law_count" s__law_count [] rfl) ⟨rfl, rfl, rfl, by decide +kernel, rfl, by decide +kernel, by decide +kernel⟩ (fun W hm => ?_) (fun _ _ _ _ _ _ us hl => match us, hl with | [_], _ => rfl)
  have o1 := o.tk (m := 8) (by decide)
  by_cases c : (hd.tk 8).1 = 0
  · have e : hd.count = (12 + ((hd.tk 8).2.tk 13).1, ((hd.tk 8).2.tk 13).2) := by unfold Hd.count; rw [if_pos c]
    rw [e]
    refine ws_ifT (EvT.is (et_cmp (ev_callH 0 rfl (c__law_take h o (by decide) (Bt.mono (btd (by decide)) (by decide))) (ea_cons ev_int ea_nil)) ev_int cmp_eqI) (decide_eq_true c)) ?_
    exact ws_ret (ev_bin ev_int (ev_callH 0 rfl (c__law_take h o1 (by decide) (Bt.mono (btd (by decide)) (by decide))) (ea_cons ev_int ea_nil)) bin_add) ⟨rfl, rfl⟩
  · have e : hd.count = (1 + ((hd.tk 8).2.tk 8).1, ((hd.tk 8).2.tk 8).2) := by unfold Hd.count; rw [if_neg c]
    rw [e]
    refine ws_ifF (EvT.is (et_cmp (ev_callH 0 rfl (c__law_take h o (by decide) (Bt.mono (btd (by decide)) (by decide))) (ea_cons ev_int ea_nil)) ev_int cmp_eqI) (decide_eq_false c)) ?_
    exact ws_ret (ev_bin ev_int (ev_callH 0 rfl (c__law_take h o1 (by decide) (Bt.mono (btd (by decide)) (by decide))) (ea_cons ev_int ea_nil)) bin_add) ⟨rfl, rfl⟩
theorem c__law_noise {ls hs : List Rat} {ws : List Int} {n : Nat} (l1 : ls.length = n) (l2 : ws.length = n) (m : HmOk n hs) (le : n ≤ 24) (bl : ∀ q ∈ ls, Rb 20 q) (sg : ∀ w ∈ ws, Sgn w) : CallP g 4 "_law_noise" [.tup (rats ls), .tup (nums ws), .tup (rats hs)] (.val (rat (noise ls ws hs))) := by
  refine call_ok ["_law_lengths", "_law_word_here", "_law_hum_here", "_law_total", "_law_k"] ["_law_lengths", "_law_word_here", "_law_hum_here"] (h.fn 39 "_law_noise" s__law_noise [] rfl) ⟨rfl, rfl, rfl, by decide +kernel, rfl, by decide +kernel, by decide +kernel⟩ (fun W hm => ?_) (fun _ _ _ _ _ _ us hl => match us, hl with | [_, _, _], _ => rfl)
  have l3 := m.len
  have tl : (terms ls ws hs n).length = n := by simp [terms]
  have tb : ∀ q ∈ terms ls ws hs n, Rb 80 q := fun q hq => by
    obtain ⟨i, hi, rfl⟩ := List.mem_map.mp hq
    have hi := List.mem_range.mp hi
    obtain ⟨w', ew⟩ := get_of (show i < ws.length by omega)
    obtain ⟨l, hl⟩ := get_of (show i < ls.length by omega)
    obtain ⟨q, hq⟩ := get_of (show i < hs.length by omega)
    exact (term_bt hl hq ew (bl l (List.mem_of_getElem? hl)) (m.bt q (List.mem_of_getElem? hq)) (sg w' (List.mem_of_getElem? ew))).2
  refine ws_set 3 (d := rat ((terms ls ws hs n).take 0).sum) (ev_tup (ea_cons ev_int (ea_cons ev_int ea_nil))) ?_
  refine ws_for (is := [4]) (fun i => [some (.dat (.tup (rats ls))), some (.dat (.tup (nums ws))), some (.dat (.tup (rats hs))), some (.dat (rat ((terms ls ws hs n).take i).sum)), none]) (fun i => [some (.dat (.tup (rats ls))), some (.dat (.tup (nums ws))), some (.dat (.tup (rats hs))), some (.dat (rat ((terms ls ws hs n).take i).sum)), some (.dat (.int (0 + (i : Int))))]) (fun _ => []) (ei_r1 h.li (ea_cons (ev_cb h.li.len (ea_cons (ev_var 1 rfl rfl) ea_nil) fn_len_t) ea_nil) (by simp; omega)) (.refl _) (fun i d e => ?_) (fun i d e => ?_) ?_
  · obtain ⟨e1, rfl⟩ := ups_get e
    exact eg_name 4 rfl (by decide +kernel)
  · obtain ⟨e1, rfl⟩ := ups_get e
    simp at e1
    obtain ⟨w', ew⟩ := get_of (show i < ws.length by omega)
    obtain ⟨l, hl⟩ := get_of (show i < ls.length by omega)
    obtain ⟨q, hq⟩ := get_of (show i < hs.length by omega)
    have en : ((0 : Int) + (i : Int)).toNat = i := by omega
    have ew' : (nums ws)[((0 : Int) + (i : Int)).toNat]? = some (.int w') := by rw [en]; exact map_get ew
    have hl' : (rats ls)[((0 : Int) + (i : Int)).toNat]? = some (rat l) := by rw [en]; exact map_get hl
    have hq' : (rats hs)[((0 : Int) + (i : Int)).toNat]? = some (rat q) := by rw [en]; exact map_get hq
    have bl' := bl l (List.mem_of_getElem? hl)
    have bq := m.bt q (List.mem_of_getElem? hq)
    have s := sg w' (List.mem_of_getElem? ew)
    have bw : Bt 20 w' := btd (by rcases s with rfl | rfl <;> decide)
    have et : mkRat (l.num * w') l.den * q = term ls ws hs i := by
      unfold term
      rw [getD_of hl, getD_of hq, getD_of ew]
      have : mkRat (l.num * w') l.den = l * ((w' : Int) : Rat) := by
        conv => rhs; rw [← Rat.mkRat_self l]
        have e2 : ((w' : Int) : Rat) = mkRat w' 1 := by rw [Rat.mkRat_one]
        rw [e2, Rat.mkRat_mul_mkRat, Nat.mul_one]
      rw [this]
      grind
    have ti : (terms ls ws hs n)[i]? = some (term ls ws hs i) := by
      unfold terms
      rw [List.getElem?_map, List.getElem?_range (by omega)]
      rfl
    have c1 := c__law_times h (l.num * w') l.den q l.den_nz ((bl'.1.mul bw).mono (by decide)) (bl'.2.mono (by decide)) (bq.mono (by decide))
    rw [et] at c1
    have b1 := sum_btk tb i
    rw [tl] at b1
    have b2 := tb _ (List.mem_of_getElem? ti)
    have c2 := c__law_plus h ((terms ls ws hs n).take i).sum (term ls ws hs i) (b1.mono (by omega)) (b2.mono (by decide))
    rw [← sum_take ti] at c2
    refine ws_set 3 (ev_call c2 (ea_cons (ev_var 3 rfl rfl) (ea_cons (ev_call c1 (ea_cons (ev_tup (ea_cons (ev_bin (ev_ix (ev_ix (ev_var 0 rfl rfl) (ev_var 4 rfl rfl) (ix_tupN (by omega) hl')) ev_int (ix_tupN (by decide) rfl)) (ev_ix (ev_var 1 rfl rfl) (ev_var 4 rfl rfl) (ix_tupN (by omega) ew')) (bin_mul bl'.1 bw (by decide))) (ea_cons (ev_ix (ev_ix (ev_var 0 rfl rfl) (ev_var 4 rfl rfl) (ix_tupN (by omega) hl')) ev_int (ix_tupN (by decide) rfl)) ea_nil))) (ea_cons (ev_ix (ev_var 2 rfl rfl) (ev_var 4 rfl rfl) (ix_tupN (by omega) hq')) ea_nil))) ea_nil))) (ws_nil ⟨.keep (.keep (.keep (.keep (.drop .nil)))), rfl⟩)
  · have e : ((ups 0 ((((nums ws).length : Nat) : Int)).toNat).map D.int).length = n := by simp [ups_len, l2]
    rw [e]
    have e2 : (terms ls ws hs n).take n = terms ls ws hs n := List.take_of_length_le (by omega)
    exact ws_ret (ev_var 3 rfl rfl) ⟨by unfold noise; rw [e2, l2], rfl⟩
theorem c__law_even {n : Nat} (hn : n ≤ 24) : CallP g 1 "_law_even" [.int n] (.val (.tup [hum (evL n), hum (evM n)])) := by
  refine call_ok ["_law_count_here", "_law_k"] ["_law_count_here"] (h.fn 40 "_law_even" s__law_even [] rfl) ⟨rfl, rfl, rfl, by decide +kernel, rfl, by decide +kernel, by decide +kernel⟩ (fun W hm => ?_) (fun _ _ _ _ _ _ us hl => match us, hl with | [_], _ => rfl)
  have er : (ups 0 ((n : Int)).toNat).length = n := by simp [ups_len]
  refine ws_ret (ev_tup (ea_cons (ev_cty h.li.tuple (ea_cons (ev_lcM 1 [("_law_k", 1)] (ups 0 ((n : Int)).toNat) D.int (fun _ => .tup [.int 1, .int 1]) (ei_r1 h.li (ea_cons (ev_var 0 rfl rfl) ea_nil) (by omega)) (fun k hk => (ev_tup (ea_cons ev_int (ea_cons ev_int ea_nil)))) (by omega)) ea_nil) fn_tuple_l)
    (ea_cons (ev_cty h.li.tuple (ea_cons (ev_lcM 1 [("_law_k", 1)] (ups 0 ((n : Int)).toNat) D.int (fun k => .tup [.int k, .int 1]) (ei_r1 h.li (ea_cons (ev_var 0 rfl rfl) ea_nil) (by omega)) (fun k hk => (ev_tup (ea_cons (ev_var 1 rfl rfl) (ea_cons ev_int ea_nil)))) (by omega)) ea_nil) fn_tuple_l) ea_nil))) ⟨?_, rfl⟩
  unfold hum evL evM ups rats
  simp only [List.map_map, Int.toNat_natCast]
  have e1 : ∀ k : Nat, rat (((k : Int)) : Rat) = .tup [.int (0 + (k : Int)), .int 1] := fun k => by rw [rat_int, Int.zero_add]
  have e2 : rat (1 : Rat) = .tup [.int 1, .int 1] := rfl
  congr 4
  exact congrArg D.tup (List.map_congr_left fun k _ => e1 k)
theorem c__law_is_ratio (q : Rat) : CallP g 2 "_law_is_ratio" [rat q] (.val (.bl true)) := by
  refine call_ok ["_law_thing", "_law_part"] ["_law_thing"] (h.fn 45 "_law_is_ratio" s__law_is_ratio [] rfl) ⟨rfl, rfl, rfl, by decide +kernel, rfl, by decide +kernel, by decide +kernel⟩ (fun W hm => ?_) (fun _ _ _ _ _ _ us hl => match us, hl with | [_], _ => rfl)
  refine ws_ifF (et_w (ew_or (et_nF (et_val (ev_isi (T := "tuple") h.li (ev_var 0 rfl rfl) h.li.tuple rfl rfl))) (ew_or1 (EvT.is (et_cmp (ev_cb h.li.len (ea_cons (ev_var 0 rfl rfl) ea_nil) fn_len_t) ev_int cmp_neI) rfl)))) ?_
  refine ws_for (is := [1]) (fun i => [some (.dat (rat q)), none]) (fun i => [some (.dat (rat q)), some (.dat (([D.int q.num, D.int q.den]).getD i .non))]) (fun _ => []) (ei_tup (ev_var 0 rfl rfl)) (.refl _) (fun i d e => ?_) (fun i d e => ?_) ?_
  · rw [getD_of e]
    exact eg_name 1 rfl (by decide +kernel)
  · rw [getD_of e]
    obtain ⟨z, rfl⟩ : ∃ z : Int, d = .int z := by
      match i, e with
      | 0, e => cases e; exact ⟨_, rfl⟩
      | 1, e => cases e; exact ⟨_, rfl⟩
      | i + 2, e => simp at e
    exact ws_ifF (et_w (ew_or (et_val (ev_isi (T := "bool") h.li (ev_var 1 rfl rfl) h.li.bool rfl rfl)) (ew_or1 (et_nF (et_val (ev_isi (T := "int") h.li (ev_var 1 rfl rfl) h.li.int rfl rfl)))))) (ws_nil ⟨.keep (.drop .nil), rfl⟩)
  · refine ws_ret (ev_and (EvE.is (ev_cmp (ev_ix (ev_var 0 rfl rfl) ev_int (ix_tupN (by decide) rfl)) ev_int cmp_gt) (congrArg (fun b => Res.val (D.bl b)) (decide_eq_true (by have := q.den_pos; omega)))) (ev_one (ev_cmp (ev_call ((c__law_gcd h _ _).mono (by decide)) (ea_cons (ev_ix (ev_var 0 rfl rfl) ev_int (ix_tupN (by decide) rfl)) (ea_cons (ev_ix (ev_var 0 rfl rfl) ev_int (ix_tupN (by decide) rfl)) ea_nil))) ev_int cmp_eqI))) ⟨?_, rfl⟩
    have : Int.gcd q.num (q.den : Int) = 1 := q.reduced
    rw [this]
    rfl
theorem c__law_is_row {qs : List Rat} {n : Nat} (hl : qs.length = n) (hn : n ≤ 1000) : CallP g 3 "_law_is_row" [.tup (rats qs), .int n] (.val (.bl true)) := by
  refine call_ok ["_law_thing", "_law_many", "_law_one"] ["_law_thing", "_law_many"] (h.fn 46 "_law_is_row" s__law_is_row [] rfl) ⟨rfl, rfl, rfl, by decide +kernel, rfl, by decide +kernel, by decide +kernel⟩ (fun W hm => ?_) (fun _ _ _ _ _ _ us hl => match us, hl with | [_, _], _ => rfl)
  refine ws_ret (ev_and (ev_isi (T := "tuple") h.li (ev_var 0 rfl rfl) h.li.tuple rfl rfl) (ev_and (EvE.is (ev_cmp (ev_cb h.li.len (ea_cons (ev_var 0 rfl rfl) ea_nil) fn_len_t) (ev_var 1 rfl rfl) cmp_eqI) (congrArg (fun b => Res.val (D.bl b)) (decide_eq_true (by simp [hl])))) (ev_one (ev_notT (ev_lcF 2 [("_law_one", 2)] qs rat (fun _ => false) (fun _ => .int 1) (ei_tup (ev_var 0 rfl rfl)) (fun q hq => (et_not (et_val (ev_call (c__law_is_ratio h q) (ea_cons (ev_var 2 rfl rfl) ea_nil))))) (fun q hq _ => ev_int) (by omega)))))) ⟨?_, rfl⟩
  simp [truB]
theorem c__law_word {hd : Hd} (o : Hok hd) {n : Nat} (hn : n ≤ 24) : CallH g 3 "_law_word" [.int n] (hdD hd) (.val (.tup (nums (hd.wd n)))) (hdD (hd.wdH n)) := by
  refine call_ok ["_law_hand_here", "_law_count_here", "_law_word_here", "_law_k"] ["_law_hand_here", "_law_count_here"] (h.fn 42 "_law_word" s__law_word [] rfl) ⟨rfl, rfl, rfl, by decide +kernel, rfl, by decide +kernel, by decide +kernel⟩ (fun W hm => ?_) (fun _ _ _ _ _ _ us hl => match us, hl with | [_, _], _ => rfl)
  refine ws_new 2 (ds := [.int 1]) (en_lst (ea_cons ev_int ea_nil)) ?_ (Nat.le_refl _)
  refine ws_for (is := [3]) (fun i => [some (.mu 0), some (.dat (.int n)), some (.mu 1), none]) (fun i => [some (.mu 0), some (.dat (.int n)), some (.mu 1), some (.dat (.int (1 + (i : Int))))]) (fun i => [hdD (hd.dr 2 i), nums (1 :: (List.range i).map fun i => 1 - 2 * hd.dv 2 i)]) (ei_r2 h.li (ea_cons ev_int (ea_cons (ev_var 1 rfl rfl) ea_nil)) (by omega) (by omega)) (.refl _) (fun i d e => ?_) (fun i d e => ?_) ?_
  · obtain ⟨e1, rfl⟩ := ups_get e
    exact eg_name 3 rfl (by decide +kernel)
  · obtain ⟨e1, rfl⟩ := ups_get e
    have r := Hd.dv_rng (h := hd) (m := 2) (by decide) i
    refine ws_app 2 1 (d := .int (1 - 2 * hd.dv 2 i)) (ω1 := [hdD (hd.dr 2 (i + 1)), nums (1 :: (List.range i).map fun i => 1 - 2 * hd.dv 2 i)]) rfl (ev_bin ev_int (ev_bin ev_int (ev_callH 0 rfl (c__law_take h (o.dr (by decide) i) (by decide) (Bt.mono (btd (by decide)) (by decide))) (ea_cons ev_int ea_nil)) (bin_mul (btd (by decide)) ((btd (by have := r; unfold Hd.dv at this; omega))) (by decide))) bin_sub) rfl (by simp; omega) (ws_nil ⟨.keep (.keep (.keep (.drop .nil))), ?_⟩)
    show [hdD (hd.dr 2 (i + 1)), nums (1 :: (List.range i).map fun i => 1 - 2 * hd.dv 2 i) ++ [.int (1 - 2 * hd.dv 2 i)]] = [hdD (hd.dr 2 (i + 1)), nums (1 :: (List.range (i + 1)).map fun i => 1 - 2 * hd.dv 2 i)]
    rw [List.range_succ, List.map_append]
    simp
  · have e : ((ups 1 ((n : Int) - 1).toNat).map D.int).length = n - 1 := by simp [ups_len]
    rw [e]
    exact ws_ret (ev_tupM 2 1 h.li rfl rfl) ⟨rfl, rfl⟩
theorem c__law_hum {hd : Hd} (o : Hok hd) {n : Nat} (hn : n ≤ 24) : CallH g 3 "_law_hum" [.int n] (hdD hd) (.val (hum (hd.hum n))) (hdD (hd.humH n)) := by
  refine call_ok ["_law_hand_here", "_law_count_here", "_law_share", "_law_k"] ["_law_hand_here", "_law_count_here"] (h.fn 44 "_law_hum" s__law_hum [] rfl) ⟨rfl, rfl, rfl, by decide +kernel, rfl, by decide +kernel, by decide +kernel⟩ (fun W hm => ?_) (fun _ _ _ _ _ _ us hl => match us, hl with | [_, _], _ => rfl)
  have s := share_rng hd
  have o1 := o.tk (m := 2) (by decide)
  refine ws_set 2 (d := .int hd.share) (EvE.is (ev_bin ev_int (ev_callH 0 rfl ((c__law_take h o (by decide) (Bt.mono (btd (by decide)) (by decide)))) (ea_cons ev_int ea_nil)) bin_add) (by rw [s.2.2])) ?_
  have er : (ups 0 ((n : Int)).toNat).length = n := by simp [ups_len]
  refine ws_ret (ev_cty h.li.tuple (ea_cons (ev_lcH 3 [("_law_k", 3)] (ups 0 ((n : Int)).toNat) D.int (fun i => [hdD ((hd.tk 2).2.dr 7 i)]) (fun i => rat (mkRat ((hd.tk 2).2.dv 7 i - 3) hd.share)) (ei_r1 h.li (ea_cons (ev_var 1 rfl rfl) ea_nil) (by omega)) (fun i k hk => (ev_call (c__law_ratio h ((hd.tk 2).2.dv 7 i - 3) hd.share (by omega) (Bt.mono (btd (by omega)) (by decide))) (ea_cons (ev_bin (ev_callH 0 rfl (c__law_take h (o1.dr (by decide) i) (by decide) (Bt.mono (btd (by decide)) (by decide))) (ea_cons ev_int ea_nil)) ev_int bin_sub) (ea_cons (ev_var 2 rfl rfl) ea_nil)))) (by omega)) ea_nil) fn_tuple_l) ⟨?_, ?_⟩
  · rw [er]
    simp [Hd.hum, hum, rats]
  · rw [er]
    rfl
theorem c__law_line {hd : Hd} (o : Hok hd) {n : Nat} (hn : n ≤ 24) : CallH g 4 "_law_line" [.int n] (hdD hd) (.val (.tup [hum (hd.line n).1, hum (hd.line n).2.1])) (hdD (hd.line n).2.2) := by
  refine call_ok ["_law_hand_here", "_law_count_here", "_law_share", "_law_lengths", "_law_marks", "_law_mark", "_law_k"] ["_law_hand_here", "_law_count_here"] (h.fn 41 "_law_line" s__law_line [] rfl) ⟨rfl, rfl, rfl, by decide +kernel, rfl, by decide +kernel, by decide +kernel⟩ (fun W hm => ?_) (fun _ _ _ _ _ _ us hl => match us, hl with | [_, _], _ => rfl)
  have o1 := o.tk (m := 3) (by decide)
  by_cases c : (hd.tk 3).1 = 0
  · have e : hd.line n = (evL n, evM n, (hd.tk 3).2) := by unfold Hd.line; rw [if_pos c]
    rw [e]
    refine ws_ifT (EvT.is (et_cmp (ev_callH 0 rfl ((c__law_take h o (by decide) (Bt.mono (btd (by decide)) (by decide))).mono (by decide)) (ea_cons ev_int ea_nil)) ev_int cmp_eqI) (decide_eq_true c)) ?_
    exact ws_ret (ev_call ((c__law_even h hn).mono (by decide)) (ea_cons (ev_var 1 rfl rfl) ea_nil)) ⟨rfl, rfl⟩
  · have e : hd.line n = ((lsAt (hd.tk 3).2.share (hd.tk 3).2.ls0 n).ls, (lsAt (hd.tk 3).2.share (hd.tk 3).2.ls0 n).ms, (lsAt (hd.tk 3).2.share (hd.tk 3).2.ls0 n).hd) := by unfold Hd.line; rw [if_neg c]
    rw [e]
    refine ws_ifF (EvT.is (et_cmp (ev_callH 0 rfl ((c__law_take h o (by decide) (Bt.mono (btd (by decide)) (by decide))).mono (by decide)) (ea_cons ev_int ea_nil)) ev_int cmp_eqI) (decide_eq_false c)) ?_
    generalize (hd.tk 3).2 = hd1 at o1 ⊢
    have s := share_rng hd1
    have o2 := o1.tk (m := 2) (by decide)
    refine ws_set 2 (d := .int hd1.share) (EvE.is (ev_bin ev_int (ev_callH 0 rfl ((c__law_take h o1 (by decide) (Bt.mono (btd (by decide)) (by decide))).mono (by decide)) (ea_cons ev_int ea_nil)) bin_add) (by rw [s.2.2])) ?_
    refine ws_parNN 3 4 (en_lst ea_nil) (en_lst ea_nil) ?_ (Nat.le_refl _)
    refine ws_set 5 (d := rat (hd1.ls0).mr) (ω1 := [hdD hd1.ls0.hd, [], []]) (EvE.is (ev_tup (ea_cons (ev_bin (ev_callH 0 rfl ((c__law_take h o2 (by decide) (Bt.mono (btd (by decide)) (by decide))).mono (by decide)) (ea_cons ev_int ea_nil)) ev_int bin_sub) (ea_cons ev_int ea_nil))) (by unfold Hd.ls0; rw [rat_int])) ?_
    have ok0 : LsOk hd1.ls0 := ls0_ok o1
    generalize hl0 : hd1.ls0 = l0 at ok0 ⊢
    have len0 : l0.ls.length = 0 := by rw [← hl0]; rfl
    refine ws_for (is := [6]) (fun i => [some (.mu 0), some (.dat (.int n)), some (.dat (.int hd1.share)), some (.mu 1), some (.mu 2), some (.dat (rat (lsAt hd1.share l0 i).mr)), none]) (fun i => [some (.mu 0), some (.dat (.int n)), some (.dat (.int hd1.share)), some (.mu 1), some (.mu 2), some (.dat (rat (lsAt hd1.share l0 i).mr)), some (.dat (.int (0 + (i : Int))))])
      (fun i => [hdD (lsAt hd1.share l0 i).hd, rats (lsAt hd1.share l0 i).ls, rats (lsAt hd1.share l0 i).ms]) (by subst hl0; exact (ei_r1 h.li (ea_cons (ev_var 1 rfl rfl) ea_nil) (by omega))) (.refl _) (fun i d e => ?_) (fun i d e => ?_) ?_
    · obtain ⟨e1, rfl⟩ := ups_get e
      exact eg_name 6 rfl (by decide +kernel)
    · obtain ⟨e1, rfl⟩ := ups_get e
      have ok := lsAt_ok ok0 (s := hd1.share) (by omega) i
      have ll := lsAt_len hd1.share l0 i
      generalize hl : lsAt hd1.share l0 i = l at ok ll ⊢
      have es : lsAt hd1.share l0 (i + 1) = l.step hd1.share := by rw [← hl]; rfl
      rw [es]
      have t1 := Hd.tk_rng (h := l.hd) (m := 4 * hd1.share) (by omega)
      have k1 := ok.hd.tk (m := 4 * hd1.share) (by omega)
      have t2 := Hd.tk_rng (h := (l.hd.tk (4 * hd1.share)).2) (m := 4) (by decide)
      have k2 := k1.tk (m := 4) (by decide)
      have t3 := Hd.tk_rng (h := ((l.hd.tk (4 * hd1.share)).2.tk 4).2) (m := 2) (by decide)
      refine ws_app 3 1 (d := rat (mkRat (1 + (l.hd.tk (4 * hd1.share)).1) hd1.share)) (ω1 := [hdD (l.hd.tk (4 * hd1.share)).2, rats l.ls, rats l.ms]) rfl (ev_call ((c__law_ratio h (1 + (l.hd.tk (4 * hd1.share)).1) hd1.share (by omega) (Bt.mono (btd (by omega)) (by decide))).mono (by decide)) (ea_cons (ev_bin ev_int (ev_callH 0 rfl ((c__law_take h ok.hd (by omega) (Bt.mono (btd (by omega)) (by decide))).mono (by decide)) (ea_cons (ev_bin ev_int (ev_var 2 rfl rfl) (bin_mul (btd (by decide)) (btd (by omega)) (by decide))) ea_nil)) bin_add) (ea_cons (ev_var 2 rfl rfl) ea_nil))) rfl (by simp; omega) ?_
      refine ws_app 4 2 (d := rat l.mr) rfl (ev_var 5 rfl rfl) rfl (by simp; have := ok.len; omega) ?_
      have bm := ok.bm l.mr (by simp)
      have b2 : Rb 3 (mkRat (1 + ((l.hd.tk (4 * hd1.share)).2.tk 4).1) (1 + (((l.hd.tk (4 * hd1.share)).2.tk 4).2.tk 2).1).toNat) := mk_bt (by omega) (by omega) (by omega)
      have cr := c__law_ratio h (1 + ((l.hd.tk (4 * hd1.share)).2.tk 4).1) (1 + (((l.hd.tk (4 * hd1.share)).2.tk 4).2.tk 2).1).toNat (by omega) (Bt.mono (btd (by omega)) (by decide))
      rw [show (((1 + (((l.hd.tk (4 * hd1.share)).2.tk 4).2.tk 2).1).toNat : Nat) : Int) = 1 + (((l.hd.tk (4 * hd1.share)).2.tk 4).2.tk 2).1 by omega] at cr
      have cp := c__law_plus h l.mr _ (bm.mono (by have := ok.len; omega)) (b2.mono (by decide))
      refine ws_set 5 (d := rat (l.step hd1.share).mr) (EvE.is (ev_call cp (ea_cons (ev_var 5 rfl rfl) (ea_cons (ev_call (cr.mono (by decide)) (ea_cons (ev_bin ev_int (ev_callH 0 rfl ((c__law_take h k1 (by decide) (Bt.mono (btd (by decide)) (by decide))).mono (by decide)) (ea_cons ev_int ea_nil)) bin_add) (ea_cons (ev_bin ev_int (ev_callH 0 rfl ((c__law_take h k2 (by decide) (Bt.mono (btd (by decide)) (by decide))).mono (by decide)) (ea_cons ev_int ea_nil)) bin_add) ea_nil))) ea_nil))) rfl) (ws_nil ⟨.keep (.keep (.keep (.keep (.keep (.keep (.drop .nil)))))), ?_⟩)
      show [hdD _, rats l.ls ++ [_], rats l.ms ++ [_]] = _
      simp [Ls.step, rats]
    · have er : ((ups 0 ((n : Int)).toNat).map D.int).length = n := by simp [ups_len]
      rw [er]
      exact ws_ret (ev_tup (ea_cons (ev_tupM 3 1 h.li rfl rfl) (ea_cons (ev_tupM 4 2 h.li rfl rfl) ea_nil))) ⟨rfl, rfl⟩
end
end Hw
set_option Elab.async false
set_option linter.all false
set_option maxRecDepth 100000
set_option maxHeartbeats 2000000
/-! The walks: built words, wrong words, readings, odd words and hums. -/
namespace Hw
open PySem PySem.Spec PyProof.Rows L2

theorem Hok.wdH {h : Hd} (o : Hok h) (n : Nat) : Hok (h.wdH n) := o.dr (by decide) _
theorem sgn_mul {a b : Int} (ha : Sgn a) (hb : Sgn b) : Sgn (a * b) := by
  rcases ha with rfl | rfl <;> rcases hb with rfl | rfl <;> simp [Sgn]
theorem sgn_neg {a : Int} (ha : Sgn a) : Sgn (-a) := by
  rcases ha with rfl | rfl <;> simp [Sgn]
theorem sgn_bt {a : Int} (ha : Sgn a) : Bt 20 a := btd (by rcases ha with rfl | rfl <;> decide)
theorem sgn_01 {v : Int} (h : 0 ≤ v ∧ v < 2) : Sgn (1 - 2 * v) := by unfold Sgn; omega
/-- a word twice as long -/
theorem wd_app {n : Nat} {ws us : List Int} (o : WdOk n ws) (hl : us.length = n) (hs : ∀ w ∈ us, Sgn w) (h24 : 2 * n ≤ 24) : WdOk (2 * n) (ws ++ us) := ⟨by rw [List.length_append, o.len, hl]; omega, by have := o.pos; omega, h24, fun w hw => by
  rcases List.mem_append.mp hw with z | z
  · exact o.sg w z
  · exact hs w z, by rw [List.getElem?_append_left (by have := o.len; have := o.pos; omega)]; exact o.one⟩
def sgnAt (l : List Int) : Nat → Int
  | 0 => 1
  | k + 1 => if (k : Int) ∈ l then -sgnAt l k else sgnAt l k
theorem sgnAt_ok (l : List Int) : ∀ k, Sgn (sgnAt l k)
  | 0 => .inl rfl
  | k + 1 => by
    unfold sgnAt
    split
    · exact sgn_neg (sgnAt_ok l k)
    · exact sgnAt_ok l k
def wrongV (ws l : List Int) : List Int := (List.range ws.length).map fun k => ws.getD k 0 * sgnAt l (k + 1)
section
variable {g : Gm} (h : Has g)
include h
theorem c__law_wrong {ws l : List Int} (sg : ∀ w ∈ ws, Sgn w) (hn : ws.length ≤ 24) : CallP g 1 "_law_wrong" [.tup (nums ws), .tup (nums l)] (.val (.tup (nums (wrongV ws l)))) := by
  refine call_ok ["_law_word_here", "_law_lot", "_law_sign", "_law_row", "_law_k"] ["_law_word_here", "_law_lot"] (h.fn 49 "_law_wrong" s__law_wrong [] rfl) ⟨rfl, rfl, rfl, by decide +kernel, rfl, by decide +kernel, by decide +kernel⟩ (fun W hm => ?_) (fun _ _ _ _ _ _ us hl => match us, hl with | [_, _], _ => rfl)
  refine ws_parN 2 3 (d1 := .int (sgnAt l 0)) ev_int (en_lst ea_nil) ?_ (Nat.le_refl _)
  refine ws_for (is := [4]) (fun i => [some (.dat (.tup (nums ws))), some (.dat (.tup (nums l))), some (.dat (.int (sgnAt l i))), some (.mu 0), none]) (fun i => [some (.dat (.tup (nums ws))), some (.dat (.tup (nums l))), some (.dat (.int (sgnAt l i))), some (.mu 0), some (.dat (.int (0 + (i : Int))))]) (fun i => [nums ((List.range i).map fun k => ws.getD k 0 * sgnAt l (k + 1))]) (ei_r1 h.li (ea_cons (ev_cb h.li.len (ea_cons (ev_var 0 rfl rfl) ea_nil) fn_len_t) ea_nil) (by simp; omega)) (.refl _) (fun i d e => ?_) (fun i d e => ?_) ?_
  · obtain ⟨e1, rfl⟩ := ups_get e
    exact eg_name 4 rfl (by decide +kernel)
  · obtain ⟨e1, rfl⟩ := ups_get e
    simp at e1
    obtain ⟨w, hw⟩ := get_of e1
    have hw' : (nums ws)[((0 : Int) + (i : Int)).toNat]? = some (.int w) := by rw [int_nat]; exact map_get hw
    have s := sg w (List.mem_of_getElem? hw)
    have t := sgnAt_ok l (i + 1)
    by_cases c : (i : Int) ∈ l
    · have e : sgnAt l (i + 1) = -sgnAt l i := by conv => lhs; unfold sgnAt; rw [if_pos c]
      refine ws_ifT (EvT.is (et_cmp (ev_var 4 rfl rfl) (ev_var 1 rfl rfl) cmp_inT) (by rw [Int.zero_add]; exact decide_eq_true c)) ?_
      refine ws_set 2 (ev_neg (ev_var 2 rfl rfl)) (ws_nil ?_)
      refine ws_app 3 0 (d := .int (w * sgnAt l (i + 1))) (ω1 := [nums ((List.range i).map fun k => ws.getD k 0 * sgnAt l (k + 1))]) rfl (EvE.is (ev_bin (ev_ix (ev_var 0 rfl rfl) (ev_var 4 rfl rfl) (ix_tupN (by omega) hw')) (ev_var 2 rfl rfl) (bin_mul (sgn_bt s) (sgn_bt (sgn_neg (sgnAt_ok l i))) (by decide))) (by rw [e])) rfl (by simp; omega) (ws_nil ⟨?_, ?_⟩)
      · rw [e]
        exact .keep (.keep (.keep (.keep (.drop .nil))))
      · show [nums ((List.range i).map fun k => ws.getD k 0 * sgnAt l (k + 1)) ++ [.int (w * sgnAt l (i + 1))]] = [nums ((List.range (i + 1)).map fun k => ws.getD k 0 * sgnAt l (k + 1))]
        rw [List.range_succ, List.map_append]
        simp [hw]
    · have e : sgnAt l (i + 1) = sgnAt l i := by conv => lhs; unfold sgnAt; rw [if_neg c]
      refine ws_ifF (EvT.is (et_cmp (ev_var 4 rfl rfl) (ev_var 1 rfl rfl) cmp_inT) (by rw [Int.zero_add]; exact decide_eq_false c)) ?_
      refine ws_app 3 0 (d := .int (w * sgnAt l (i + 1))) (ω1 := [nums ((List.range i).map fun k => ws.getD k 0 * sgnAt l (k + 1))]) rfl (EvE.is (ev_bin (ev_ix (ev_var 0 rfl rfl) (ev_var 4 rfl rfl) (ix_tupN (by omega) hw')) (ev_var 2 rfl rfl) (bin_mul (sgn_bt s) (sgn_bt (sgnAt_ok l i)) (by decide))) (by rw [e])) rfl (by simp; omega) (ws_nil ⟨?_, ?_⟩)
      · rw [e]
        exact .keep (.keep (.keep (.keep (.drop .nil))))
      · show [nums ((List.range i).map fun k => ws.getD k 0 * sgnAt l (k + 1)) ++ [.int (w * sgnAt l (i + 1))]] = [nums ((List.range (i + 1)).map fun k => ws.getD k 0 * sgnAt l (k + 1))]
        rw [List.range_succ, List.map_append]
        simp [hw]
  · have e : ((ups 0 ((((nums ws).length : Nat) : Int)).toNat).map D.int).length = ws.length := by simp [ups_len]
    rw [e]
    exact ws_ret (ev_tupM 3 0 h.li rfl rfl) ⟨rfl, rfl⟩
theorem c__law_readings {ls : List Rat} {ws : List Int} {hss : List (List Rat)} {n : Nat} (l1 : ls.length = n) (l2 : ws.length = n) (m : ∀ hs ∈ hss, HmOk n hs) (le : n ≤ 24) (bl : ∀ q ∈ ls, Rb 20 q) (sg : ∀ w ∈ ws, Sgn w) (h6 : hss.length ≤ 1000) : CallP g 5 "_law_readings" [hum ls, .tup (nums ws), .tup (hss.map hum)] (.val (hum (hss.map (noise ls ws)))) := by
  refine call_ok ["_law_lengths", "_law_word_here", "_law_tests", "_law_hum_here"] ["_law_lengths", "_law_word_here", "_law_tests"] (h.fn 50 "_law_readings" s__law_readings [] rfl) ⟨rfl, rfl, rfl, by decide +kernel, rfl, by decide +kernel, by decide +kernel⟩ (fun W hm => ?_) (fun _ _ _ _ _ _ us hl => match us, hl with | [_, _, _], _ => rfl)
  exact ws_ret (ev_cty h.li.tuple (ea_cons (ev_lcM 3 [("_law_hum_here", 3)] hss hum (fun hs => rat (noise ls ws hs)) (ei_tup (ev_var 2 rfl rfl)) (fun hs hh => (ev_call (c__law_noise h l1 l2 (m hs hh) le bl sg) (ea_cons (ev_var 0 rfl rfl) (ea_cons (ev_var 1 rfl rfl) (ea_cons (ev_var 3 rfl rfl) ea_nil))))) (by omega)) ea_nil) fn_tuple_l) ⟨by simp [rats, hum], rfl⟩
theorem c__law_odd_word {hd : Hd} (o : Hok hd) {ws : List Int} {n : Nat} (w : WdOk n ws) : ∃ d i s hd', BadW n d i s ∧ Hok hd' ∧ CallH g 3 "_law_odd_word" [.tup (nums ws)] (hdD hd) (.val (.tup [d, .int i, .str s])) (hdD hd') := by
  have r1 := Hd.tk_rng (h := hd) (m := 4) (by decide)
  have o1 := o.tk (m := 4) (by decide)
  have cp := c__law_take h o (m := 4) (by decide) (Bt.mono (btd (by decide)) (by decide))
  generalize (hd.tk 4).1 = v at r1 cp
  generalize (hd.tk 4).2 = hd1 at o1 cp
  have wl := w.len
  have wp := w.pos
  have le := w.le
  by_cases c0 : v = 0
  · refine ⟨.lst (nums ws ++ [.int 1]), 0, "many", hd1, .w1 (.lst _) (by simp; omega), o1, ?_⟩
    refine call_ok ["_law_hand_here", "_law_word_here", "_law_pick", "_law_at", "_law_odd"] ["_law_hand_here", "_law_word_here"] (h.fn 51 "_law_odd_word" s__law_odd_word [] rfl) ⟨rfl, rfl, rfl, by decide +kernel, rfl, by decide +kernel, by decide +kernel⟩ (fun W hm => ?_) (fun _ _ _ _ _ _ us hl => match us, hl with | [_, _], _ => rfl)
    refine ws_set 2 (ev_callH 0 rfl cp (ea_cons ev_int ea_nil)) ?_
    refine ws_ifT (EvT.is (et_cmp (ev_var 2 rfl rfl) ev_int cmp_eqI) (decide_eq_true c0)) ?_
    exact ws_ret (ev_tup (ea_cons (ev_bin (ev_cty h.li.list (ea_cons (ev_var 1 rfl rfl) ea_nil) fn_list_t) (ev_lst (ea_cons ev_int ea_nil)) (bin_addL (by simp; omega))) (ea_cons ev_int (ea_cons ev_str ea_nil)))) ⟨rfl, rfl⟩
  by_cases c1 : v = 1
  · have r2 := Hd.tk_rng (h := hd1) (m := 3) (by decide)
    have o2 := o1.tk (m := 3) (by decide)
    have cp2 := c__law_take h o1 (m := 3) (by decide) (Bt.mono (btd (by decide)) (by decide))
    generalize (hd1.tk 3).1 = v2 at r2 cp2
    generalize (hd1.tk 3).2 = hd2 at o2 cp2
    obtain ⟨d, nd, hg⟩ : ∃ d, NSq d ∧ ([D.non, .str "+", .int 7])[v2.toNat]? = some d := by
      obtain c | c | c : v2 = 0 ∨ v2 = 1 ∨ v2 = 2 := by omega
      · subst c; exact ⟨_, .non, rfl⟩
      · subst c; exact ⟨_, .str _, rfl⟩
      · subst c; exact ⟨_, .int _, rfl⟩
    refine ⟨d, 0, "many", hd2, .w0 nd, o2, ?_⟩
    refine call_ok ["_law_hand_here", "_law_word_here", "_law_pick", "_law_at", "_law_odd"] ["_law_hand_here", "_law_word_here"] (h.fn 51 "_law_odd_word" s__law_odd_word [] rfl) ⟨rfl, rfl, rfl, by decide +kernel, rfl, by decide +kernel, by decide +kernel⟩ (fun W hm => ?_) (fun _ _ _ _ _ _ us hl => match us, hl with | [_, _], _ => rfl)
    refine ws_set 2 (ev_callH 0 rfl cp (ea_cons ev_int ea_nil)) ?_
    refine ws_ifF (EvT.is (et_cmp (ev_var 2 rfl rfl) ev_int cmp_eqI) (decide_eq_false c0)) ?_
    refine ws_ifT (EvT.is (et_cmp (ev_var 2 rfl rfl) ev_int cmp_eqI) (decide_eq_true c1)) ?_
    exact ws_ret (ev_tup (ea_cons (ev_ix (ev_lst (ea_cons ev_non (ea_cons ev_str (ea_cons ev_int ea_nil)))) (ev_callH 0 rfl cp2 (ea_cons ev_int ea_nil)) (ix_lstN r2.1 hg)) (ea_cons ev_int (ea_cons ev_str ea_nil)))) ⟨rfl, rfl⟩
  by_cases c2 : v = 2
  · refine ⟨.lst (nums (ws.map fun w => -w)), 0, "first", hd1, .w2 (.lst _) (by simp; omega) (fun w' hw' => ?_) (by rw [List.getElem?_map, w.one]; rfl), o1, ?_⟩
    · obtain ⟨w0, hw0, rfl⟩ := List.mem_map.mp hw'
      exact sgn_neg (w.sg w0 hw0)
    refine call_ok ["_law_hand_here", "_law_word_here", "_law_pick", "_law_at", "_law_odd", "_law_sign"] ["_law_hand_here", "_law_word_here"] (h.fn 51 "_law_odd_word" s__law_odd_word [] rfl) ⟨rfl, rfl, rfl, by decide +kernel, rfl, by decide +kernel, by decide +kernel⟩ (fun W hm => ?_) (fun _ _ _ _ _ _ us hl => match us, hl with | [_, _], _ => rfl)
    refine ws_set 2 (ev_callH 0 rfl cp (ea_cons ev_int ea_nil)) ?_
    refine ws_ifF (EvT.is (et_cmp (ev_var 2 rfl rfl) ev_int cmp_eqI) (decide_eq_false c0)) ?_
    refine ws_ifF (EvT.is (et_cmp (ev_var 2 rfl rfl) ev_int cmp_eqI) (decide_eq_false c1)) ?_
    refine ws_ifT (EvT.is (et_cmp (ev_var 2 rfl rfl) ev_int cmp_eqI) (decide_eq_true c2)) ?_
    exact ws_ret (ev_tup (ea_cons (ev_lcM 5 [("_law_sign", 5)] ws D.int (fun w => D.int (-w)) (ei_tup (ev_var 1 rfl rfl)) (fun w hw => (ev_neg (ev_var 5 rfl rfl))) (by omega)) (ea_cons ev_int (ea_cons ev_str ea_nil)))) ⟨by simp [nums], rfl⟩
  have r2 := Hd.tk_rng (h := hd1) (m := n) (by omega)
  have o2 := o1.tk (m := n) (by omega)
  have cp2 := c__law_take h o1 (m := n) (by omega) (Bt.mono (btd (by omega)) (by decide))
  generalize (hd1.tk n).1 = a at r2 cp2
  generalize (hd1.tk n).2 = hd2 at o2 cp2
  have r3 := Hd.tk_rng (h := hd2) (m := 5) (by decide)
  have o3 := o2.tk (m := 5) (by decide)
  have cp3 := c__law_take h o2 (m := 5) (by decide) (Bt.mono (btd (by decide)) (by decide))
  generalize (hd2.tk 5).1 = v3 at r3 cp3
  generalize (hd2.tk 5).2 = hd3 at o3 cp3
  obtain ⟨d, nd, hg⟩ : ∃ d, NSgn d ∧ ([D.int 0, .int 2, .bl true, .non, .tup [.int 1, .int 1]])[v3.toNat]? = some d := by
    obtain c | c | c | c | c : v3 = 0 ∨ v3 = 1 ∨ v3 = 2 ∨ v3 = 3 ∨ v3 = 4 := by omega
    · subst c; exact ⟨_, .zero, rfl⟩
    · subst c; exact ⟨_, .no ⟨_, rfl⟩ (by decide), rfl⟩
    · subst c; exact ⟨_, .no ⟨_, rfl⟩ rfl, rfl⟩
    · subst c; exact ⟨_, .no ⟨_, rfl⟩ rfl, rfl⟩
    · subst c; exact ⟨_, .no ⟨_, rfl⟩ rfl, rfl⟩
  have tl : ((nums ws).take a.toNat).length = a.toNat := by rw [List.length_take, List.length_map]; omega
  refine ⟨.lst ((nums ws).take a.toNat ++ [d] ++ (nums ws).drop (a + 1).toNat), (a.toNat : Nat), "sign", hd3, .w3 a.toNat (.lst _) (by simp; omega) (fun j hj => ?_) ?_ nd, o3, ?_⟩
  · obtain ⟨w0, hw0⟩ := get_of (show j < ws.length by omega)
    refine ⟨w0, ?_, w.sg w0 (List.mem_of_getElem? hw0)⟩
    rw [List.append_assoc, List.getElem?_append_left (by omega), List.getElem?_take_of_lt hj]
    exact map_get hw0
  · rw [List.append_assoc, List.getElem?_append_right (by omega), tl, Nat.sub_self]
    rfl
  refine call_ok ["_law_hand_here", "_law_word_here", "_law_pick", "_law_at", "_law_odd"] ["_law_hand_here", "_law_word_here"] (h.fn 51 "_law_odd_word" s__law_odd_word [] rfl) ⟨rfl, rfl, rfl, by decide +kernel, rfl, by decide +kernel, by decide +kernel⟩ (fun W hm => ?_) (fun _ _ _ _ _ _ us hl => match us, hl with | [_, _], _ => rfl)
  refine ws_set 2 (ev_callH 0 rfl cp (ea_cons ev_int ea_nil)) ?_
  refine ws_ifF (EvT.is (et_cmp (ev_var 2 rfl rfl) ev_int cmp_eqI) (decide_eq_false c0)) ?_
  refine ws_ifF (EvT.is (et_cmp (ev_var 2 rfl rfl) ev_int cmp_eqI) (decide_eq_false c1)) ?_
  refine ws_ifF (EvT.is (et_cmp (ev_var 2 rfl rfl) ev_int cmp_eqI) (decide_eq_false c2)) ?_
  refine ws_set 3 (ev_callH 0 rfl ((by rw [show ((nums ws).length : Int) = (n : Int) by simp [wl]]; exact cp2)) (ea_cons (ev_cb h.li.len (ea_cons (ev_var 1 rfl rfl) ea_nil) fn_len_t) ea_nil)) ?_
  refine ws_set 4 (ev_ix (ev_lst (ea_cons ev_int (ea_cons ev_int (ea_cons ev_bl (ea_cons ev_non (ea_cons (ev_tup (ea_cons ev_int (ea_cons ev_int ea_nil))) ea_nil)))))) (ev_callH 0 rfl cp3 (ea_cons ev_int ea_nil)) (ix_lstN r3.1 hg)) ?_
  exact ws_ret (ev_tup (ea_cons (ev_bin (ev_bin (ev_cty h.li.list (ea_cons (ev_slTo (ev_var 1 rfl rfl) (ev_var 3 rfl rfl) r2.1 (by simp; omega)) ea_nil) fn_list_t) (ev_lst (ea_cons (ev_var 4 rfl rfl) ea_nil)) (bin_addL (by simp; omega))) (ev_cty h.li.list (ea_cons (ev_slFrom (ev_var 1 rfl rfl) (ev_bin (ev_var 3 rfl rfl) ev_int bin_add) (by omega) (by simp; omega)) ea_nil) fn_list_t) (bin_addL (by simp; omega))) (ea_cons (ev_var 3 rfl rfl) (ea_cons ev_str ea_nil)))) ⟨by rw [show ((a.toNat : Nat) : Int) = a by omega], rfl⟩
end
end Hw
set_option Elab.async false
set_option linter.all false
set_option maxRecDepth 100000
set_option maxHeartbeats 2000000
/-! The walks: built words, odd hums. -/
namespace Hw
open PySem PySem.Spec PyProof.Rows L2

theorem WS.cast2 {g : Gm} {N : List Str} {sc : Scope} {k : Nat} {W : Wm} {m : Nat} {ρ ρ' : Rho} {ω ω' : Om} {P : Out → Prop} {sts : List Stmt} (h : WS g N sc k W m sts ρ' ω' P) (e : ρ' = ρ) (e2 : ω' = ω) : WS g N sc k W m sts ρ ω P := e ▸ e2 ▸ h
theorem EvN.is {g : Gm} {N : List Str} {sc : Scope} {k : Nat} {W : Wm} {e : Expr} {ρ : Rho} {ω ω' : Om} {ds ds' : List D} (h : EvN g N sc k W e ρ ω ds ω') (q : ds = ds') : EvN g N sc k W e ρ ω ds' ω' := q ▸ h
section
variable {g : Gm} (h : Has g)
include h
theorem odd_hum3 {hd hd1 hd2 hd3 : Hd} {n : Nat} {v a v3 : Int} {d : D} (h1 : 1 ≤ n) (h2 : n ≤ 24) (cp : CallH g 2 "_law_take" [.int 3] (hdD hd) (.val (.int v)) (hdD hd1)) (c0 : ¬v = 0) (c1 : ¬v = 1) (r2 : 0 ≤ a ∧ a < n) (cp2 : CallH g 2 "_law_take" [.int n] (hdD hd1) (.val (.int a)) (hdD hd2))
    (r3 : 0 ≤ v3 ∧ v3 < 5) (cp3 : CallH g 2 "_law_take" [.int 5] (hdD hd2) (.val (.int v3)) (hdD hd3)) (hg : ([D.int 1, .tup [.int 2, .int 4], .lst [.int 1, .int 2], .tup [.int 1, .int (-2)], .non])[v3.toNat]? = some d) :
    CallH g 3 "_law_odd_hum" [.int n] (hdD hd) (.val (.tup [.lst ((List.replicate n (D.tup [.int 1, .int 1])).set a.toNat d), .int a])) (hdD hd3) := by
  have e1 : (List.replicate ((n : Int)).toNat [D.tup [.int 1, .int 1]]).flatten = List.replicate n (D.tup [.int 1, .int 1]) := by simp
  refine call_ok ["_law_hand_here", "_law_count_here", "_law_pick", "_law_at", "_law_row"] ["_law_hand_here", "_law_count_here"] (h.fn 52 "_law_odd_hum" s__law_odd_hum [] rfl) ⟨rfl, rfl, rfl, by decide +kernel, rfl, by decide +kernel, by decide +kernel⟩ (fun W hm => ?_) (fun _ _ _ _ _ _ us hl => match us, hl with | [_, _], _ => rfl)
  refine ws_set 2 (ev_callH 0 rfl cp (ea_cons ev_int ea_nil)) ?_
  refine ws_ifF (EvT.is (et_cmp (ev_var 2 rfl rfl) ev_int cmp_eqI) (decide_eq_false c0)) ?_
  refine ws_ifF (EvT.is (et_cmp (ev_var 2 rfl rfl) ev_int cmp_eqI) (decide_eq_false c1)) ?_
  refine ws_set 3 (ev_callH 0 rfl cp2 (ea_cons (ev_var 1 rfl rfl) ea_nil)) ?_
  refine ws_new 4 (EvN.is (en_rep (ev_lst (ea_cons (ev_tup (ea_cons ev_int (ea_cons ev_int ea_nil))) ea_nil)) (ev_var 1 rfl rfl) (by omega) (by simp; omega) (by omega)) e1) ?_ (Nat.le_refl _)
  refine WS.cast2 (ρ' := [some (.mu 0), some (.dat (.int n)), some (.dat (.int v)), some (.dat (.int a)), some (.mu 1)]) (ω' := [hdD hd2, List.replicate n (D.tup [.int 1, .int 1])]) ?_ ?_ ?_
  rotate_left
  · rfl
  · rfl
  refine ws_sub 4 1 (n := a) rfl (ev_ix (ev_lst (ea_cons ev_int (ea_cons (ev_tup (ea_cons ev_int (ea_cons ev_int ea_nil))) (ea_cons (ev_lst (ea_cons ev_int (ea_cons ev_int ea_nil))) (ea_cons (ev_tup (ea_cons ev_int (ea_cons (ev_neg ev_int) ea_nil))) (ea_cons ev_non ea_nil)))))) (ev_callH 0 rfl cp3 (ea_cons ev_int ea_nil)) (ix_lstN r3.1 hg)) (ev_var 3 rfl rfl) rfl r2.1 (by simp; omega) ?_
  refine ws_freeze (ω := [hdD hd3]) 4 rfl (Nat.le_refl _) (mu_by rfl) ?_
  exact ws_ret (ev_tup (ea_cons (ev_var 4 rfl rfl) (ea_cons (ev_var 3 rfl rfl) ea_nil))) ⟨rfl, rfl⟩
theorem c__law_odd_hum {hd : Hd} (o : Hok hd) {n : Nat} (h1 : 1 ≤ n) (h2 : n ≤ 24) : ∃ d i hd', BadH n d ∧ Hok hd' ∧ CallH g 3 "_law_odd_hum" [.int n] (hdD hd) (.val (.tup [d, .int i])) (hdD hd') := by
  have r1 := Hd.tk_rng (h := hd) (m := 3) (by decide)
  have o1 := o.tk (m := 3) (by decide)
  have cp := c__law_take h o (m := 3) (by decide) (Bt.mono (btd (by decide)) (by decide))
  generalize (hd.tk 3).1 = v at r1 cp
  generalize (hd.tk 3).2 = hd1 at o1 cp
  by_cases c0 : v = 0
  · refine ⟨.lst (List.replicate ((n : Int) + 1).toNat [D.tup [.int 1, .int 1]]).flatten, 0, hd1, .b1 (.lst _) (by simp), o1, ?_⟩
    refine call_ok ["_law_hand_here", "_law_count_here", "_law_pick", "_law_at", "_law_row"] ["_law_hand_here", "_law_count_here"] (h.fn 52 "_law_odd_hum" s__law_odd_hum [] rfl) ⟨rfl, rfl, rfl, by decide +kernel, rfl, by decide +kernel, by decide +kernel⟩ (fun W hm => ?_) (fun _ _ _ _ _ _ us hl => match us, hl with | [_, _], _ => rfl)
    refine ws_set 2 (ev_callH 0 rfl cp (ea_cons ev_int ea_nil)) ?_
    refine ws_ifT (EvT.is (et_cmp (ev_var 2 rfl rfl) ev_int cmp_eqI) (decide_eq_true c0)) ?_
    exact ws_ret (ev_tup (ea_cons (ev_bin (ev_lst (ea_cons (ev_tup (ea_cons ev_int (ea_cons ev_int ea_nil))) ea_nil)) (ev_bin (ev_var 1 rfl rfl) ev_int bin_add) (bin_repL (by omega) (by simp; omega) (by omega))) (ea_cons ev_int ea_nil))) ⟨rfl, rfl⟩
  by_cases c1 : v = 1
  · have r2 := Hd.tk_rng (h := hd1) (m := 3) (by decide)
    have o2 := o1.tk (m := 3) (by decide)
    have cp2 := c__law_take h o1 (m := 3) (by decide) (Bt.mono (btd (by decide)) (by decide))
    generalize (hd1.tk 3).1 = v2 at r2 cp2
    generalize (hd1.tk 3).2 = hd2 at o2 cp2
    obtain ⟨d, nd, hg⟩ : ∃ d, NSq d ∧ ([D.non, .str "1", .int 7])[v2.toNat]? = some d := by
      obtain c | c | c : v2 = 0 ∨ v2 = 1 ∨ v2 = 2 := by omega
      · subst c; exact ⟨_, .non, rfl⟩
      · subst c; exact ⟨_, .str _, rfl⟩
      · subst c; exact ⟨_, .int _, rfl⟩
    refine ⟨d, 0, hd2, .b0 nd, o2, ?_⟩
    refine call_ok ["_law_hand_here", "_law_count_here", "_law_pick", "_law_at", "_law_row"] ["_law_hand_here", "_law_count_here"] (h.fn 52 "_law_odd_hum" s__law_odd_hum [] rfl) ⟨rfl, rfl, rfl, by decide +kernel, rfl, by decide +kernel, by decide +kernel⟩ (fun W hm => ?_) (fun _ _ _ _ _ _ us hl => match us, hl with | [_, _], _ => rfl)
    refine ws_set 2 (ev_callH 0 rfl cp (ea_cons ev_int ea_nil)) ?_
    refine ws_ifF (EvT.is (et_cmp (ev_var 2 rfl rfl) ev_int cmp_eqI) (decide_eq_false c0)) ?_
    refine ws_ifT (EvT.is (et_cmp (ev_var 2 rfl rfl) ev_int cmp_eqI) (decide_eq_true c1)) ?_
    exact ws_ret (ev_tup (ea_cons (ev_ix (ev_lst (ea_cons ev_non (ea_cons ev_str (ea_cons ev_int ea_nil)))) (ev_callH 0 rfl cp2 (ea_cons ev_int ea_nil)) (ix_lstN r2.1 hg)) (ea_cons ev_int ea_nil))) ⟨rfl, rfl⟩
  have r2 := Hd.tk_rng (h := hd1) (m := n) (by omega)
  have o2 := o1.tk (m := n) (by omega)
  have cp2 := c__law_take h o1 (m := n) (by omega) (Bt.mono (btd (by omega)) (by decide))
  generalize (hd1.tk n).1 = a at r2 cp2
  generalize (hd1.tk n).2 = hd2 at o2 cp2
  have r3 := Hd.tk_rng (h := hd2) (m := 5) (by decide)
  have o3 := o2.tk (m := 5) (by decide)
  have cp3 := c__law_take h o2 (m := 5) (by decide) (Bt.mono (btd (by decide)) (by decide))
  generalize (hd2.tk 5).1 = v3 at r3 cp3
  generalize (hd2.tk 5).2 = hd3 at o3 cp3
  obtain ⟨d, nd, hg⟩ : ∃ d, NRat d ∧ ([D.int 1, .tup [.int 2, .int 4], .lst [.int 1, .int 2], .tup [.int 1, .int (-2)], .non])[v3.toNat]? = some d := by
    obtain c | c | c | c | c : v3 = 0 ∨ v3 = 1 ∨ v3 = 2 ∨ v3 = 3 ∨ v3 = 4 := by omega
    · subst c; exact ⟨_, .no rfl rfl, rfl⟩
    · subst c; exact ⟨_, .pair 2 4 (by decide +kernel), rfl⟩
    · subst c; exact ⟨_, .no rfl rfl, rfl⟩
    · subst c; exact ⟨_, .pair 1 (-2) (by decide +kernel), rfl⟩
    · subst c; exact ⟨_, .no rfl rfl, rfl⟩
  refine ⟨.lst ((List.replicate n (D.tup [.int 1, .int 1])).set a.toNat d), a, hd3, .b2 a.toNat (.lst _) (by simp) (fun j hj => ⟨1, ?_⟩) ?_ nd, o3, ?_⟩
  · rw [List.getElem?_set_ne (by omega), List.getElem?_replicate, if_pos (by omega)]
    rfl
  · rw [List.getElem?_set_self (by simp; omega)]
  exact odd_hum3 h h1 h2 cp c0 c1 r2 cp2 r3 cp3 hg
end
end Hw
set_option Elab.async false
set_option linter.all false
set_option maxRecDepth 100000
set_option maxHeartbeats 2000000
/-! The walks: built words, odd hums. -/
namespace Hw
open PySem PySem.Spec PyProof.Rows L2

theorem wd_alt {n : Nat} {hf : List Int} (o : WdOk n hf) (h24 : 2 * n ≤ 24) (r : Nat → Int) (hr : ∀ k, Sgn (r k)) : WdOk (2 * n) ((ups 0 (2 * n)).map fun k => hf.getD (k / 2).toNat 0 * (1 - 2 * (k % 2))) := by
  refine ⟨by simp [ups], by have := o.pos; omega, h24, fun w hw => ?_, ?_⟩
  · obtain ⟨k, hk, rfl⟩ := List.mem_map.mp hw
    have hk := ups_mem hk
    obtain ⟨v, hv⟩ := get_of (show (k / 2).toNat < hf.length by have := o.len; omega)
    rw [getD_of hv]
    refine sgn_mul (o.sg v (List.mem_of_getElem? hv)) ?_
    unfold Sgn
    omega
  · have hp := o.pos
    have : (ups 0 (2 * n))[0]? = some 0 := by
      unfold ups
      rw [List.getElem?_map, List.getElem?_range (by omega)]
      rfl
    rw [List.getElem?_map, this]
    have e := getD_of (d := 0) o.one
    show some (hf.getD 0 0 * 1) = _
    rw [e]
    rfl
section
variable {g : Gm} (h : Has g)
include h
theorem built_tail {hd : Hd} (o : Hok hd) {n : Nat} {hf : List Int} (w : WdOk n hf) (h24 : 2 * n ≤ 24) (q : Option Sl) : ∃ ws hd', WdOk (2 * n) ws ∧ Hok hd' ∧ ∀ W : Wm, W.md = true →
    WS g ["_law_hand_here", "_law_count_here", "_law_half", "_law_quarter", "_law_pick", "_law_sign", "_law_k"] (defScope s__law_built) 3 W 1 ((defBody s__law_built).drop 3) [some (.mu 0), some (.dat (.int ((2 * n : Nat) : Int))), some (.dat (.tup (nums hf))), q, none, none, none] [hdD hd] (Fin (.val (.tup (nums ws))) [hdD hd']) := by
  have r1 := Hd.tk_rng (h := hd) (m := 3) (by decide)
  have o1 := o.tk (m := 3) (by decide)
  have cp := (c__law_take h o (m := 3) (by decide) (Bt.mono (btd (by decide)) (by decide))).mono (show 2 ≤ 3 by decide)
  generalize (hd.tk 3).1 = v at r1 cp
  generalize (hd.tk 3).2 = hd1 at o1 cp
  have wl := w.len
  have wp := w.pos
  by_cases c0 : v = 0
  · refine ⟨hf ++ hf.map fun w => -w, hd1, wd_app w (by simp [wl]) (fun w' hw' => ?_) h24, o1, fun W hm => ?_⟩
    · obtain ⟨w0, hw0, rfl⟩ := List.mem_map.mp hw'
      exact sgn_neg (w.sg w0 hw0)
    refine ws_set 4 (ev_callH 0 rfl cp (ea_cons ev_int ea_nil)) ?_
    refine ws_ifT (EvT.is (et_cmp (ev_var 4 rfl rfl) ev_int cmp_eqI) (decide_eq_true c0)) ?_
    exact ws_ret (ev_bin (ev_var 2 rfl rfl) (ev_cty h.li.tuple (ea_cons (ev_lcM 5 [("_law_sign", 5)] hf D.int (fun w => D.int (-w)) (ei_tup (ev_var 2 rfl rfl)) (fun w hw => (ev_neg (ev_var 5 rfl rfl))) (by omega)) ea_nil) fn_tuple_l) (bin_addT (by simp; omega))) ⟨by simp [nums], rfl⟩
  by_cases c1 : v = 1
  · refine ⟨_, hd1, wd_alt w h24 (fun _ => 1) (fun _ => .inl rfl), o1, fun W hm => ?_⟩
    refine ws_set 4 (ev_callH 0 rfl cp (ea_cons ev_int ea_nil)) ?_
    refine ws_ifF (EvT.is (et_cmp (ev_var 4 rfl rfl) ev_int cmp_eqI) (decide_eq_false c0)) ?_
    refine ws_ifT (EvT.is (et_cmp (ev_var 4 rfl rfl) ev_int cmp_eqI) (decide_eq_true c1)) ?_
    refine ws_ret (ev_cty h.li.tuple (ea_cons (ev_lcM 6 [("_law_k", 6)] (ups 0 (((2 * n : Nat) : Int)).toNat) D.int (fun k => D.int (hf.getD (k / 2).toNat 0 * (1 - 2 * (k % 2)))) (ei_r1 h.li (ea_cons (ev_var 1 rfl rfl) ea_nil) (by omega)) (fun k hk => ?_) (by simp [ups]; omega)) ea_nil) fn_tuple_l) ⟨by rw [Int.toNat_natCast]; simp [nums], rfl⟩
    have hk := ups_mem hk
    obtain ⟨a, ha⟩ := get_of (show (k / 2).toNat < hf.length by omega)
    have ha' : (nums hf)[(k / 2).toNat]? = some (.int a) := map_get ha
    rw [getD_of ha]
    exact (ev_bin (ev_ix (ev_var 2 rfl rfl) (ev_bin (ev_var 6 rfl rfl) ev_int (bin_fdiv (by decide) (btd (by decide)) (by decide))) (ix_tupN (by omega) ha')) (ev_bin ev_int (ev_bin ev_int (ev_bin (ev_cty h.li.int (ea_cons (ev_var 6 rfl rfl) ea_nil) fn_int) ev_int (bin_mod (by decide))) (bin_mul (btd (by decide)) (btd (by omega)) (by decide))) bin_sub) (bin_mul (sgn_bt (w.sg a (List.mem_of_getElem? ha))) (btd (by omega)) (by decide)))
  · refine ⟨hf ++ (List.range n).map fun i => hf.getD (n - 1 - i) 0 * (1 - 2 * hd1.dv 2 i) * hf.getD 0 0, hd1.dr 2 n, wd_app w (by simp) (fun w' hw' => ?_) h24, o1.dr (by decide) n, fun W hm => ?_⟩
    · obtain ⟨i, hi, rfl⟩ := List.mem_map.mp hw'
      have hi := List.mem_range.mp hi
      obtain ⟨a, ha⟩ := get_of (show n - 1 - i < hf.length by omega)
      rw [getD_of ha, getD_of w.one]
      exact sgn_mul (sgn_mul (w.sg a (List.mem_of_getElem? ha)) (sgn_01 (Hd.dv_rng (by decide) i))) (.inl rfl)
    refine ws_set 4 (ev_callH 0 rfl cp (ea_cons ev_int ea_nil)) ?_
    refine ws_ifF (EvT.is (et_cmp (ev_var 4 rfl rfl) ev_int cmp_eqI) (decide_eq_false c0)) ?_
    refine ws_ifF (EvT.is (et_cmp (ev_var 4 rfl rfl) ev_int cmp_eqI) (decide_eq_false c1)) ?_
    have eu : (ups 0 ((((nums hf).length : Nat) : Int)).toNat).length = n := by simp [ups_len, wl]
    refine ws_ret (ev_bin (ev_var 2 rfl rfl) (ev_cty h.li.tuple (ea_cons (ev_lcH 6 [("_law_k", 6)] (ups 0 ((((nums hf).length : Nat) : Int)).toNat) D.int (fun i => [hdD (hd1.dr 2 i)]) (fun i => D.int (hf.getD (n - 1 - i) 0 * (1 - 2 * hd1.dv 2 i) * hf.getD 0 0)) (ei_r1 h.li (ea_cons (ev_cb h.li.len (ea_cons (ev_var 2 rfl rfl) ea_nil) fn_len_t) ea_nil) (by simp; omega)) (fun i k hk => ?_) (by omega)) ea_nil) fn_tuple_l) (bin_addT (by rw [eu]; simp; omega))) ⟨?_, ?_⟩
    · have hi : i < n := by have := (List.getElem?_eq_some_iff.mp hk).1; omega
      have ek : k = (i : Int) := by
        obtain ⟨_, e⟩ := ups_get (d := D.int k) (by rw [List.getElem?_map, hk]; rfl)
        injection e with e
        omega
      subst ek
      obtain ⟨a, ha⟩ := get_of (show n - 1 - i < hf.length by omega)
      have ha' : (nums hf)[(((nums hf).length : Int) - 1 - (i : Int)).toNat]? = some (.int a) := by
        rw [show (((nums hf).length : Int) - 1 - (i : Int)).toNat = n - 1 - i by simp only [List.length_map, wl]; omega]
        exact map_get ha
      have h0' : (nums hf)[((0 : Int)).toNat]? = some (.int 1) := map_get w.one
      rw [getD_of ha, getD_of w.one]
      have s1 := w.sg a (List.mem_of_getElem? ha)
      have s2 := sgn_01 (Hd.dv_rng (h := hd1) (m := 2) (by decide) i)
      exact (ev_bin (ev_bin (ev_ix (ev_var 2 rfl rfl) (ev_bin (ev_bin (ev_cb h.li.len (ea_cons (ev_var 2 rfl rfl) ea_nil) fn_len_t) ev_int bin_sub) (ev_var 6 rfl rfl) bin_sub) (ix_tupN (by simp; omega) ha')) (ev_bin ev_int (ev_bin ev_int (ev_callH 0 rfl ((c__law_take h (o1.dr (by decide) i) (by decide) (Bt.mono (btd (by decide)) (by decide))).mono (by decide)) (ea_cons ev_int ea_nil)) (bin_mul (btd (by decide)) ((btd (by have := Hd.dv_rng (h := hd1) (m := 2) (by decide) i; unfold Hd.dv at this; omega))) (by decide))) bin_sub) (bin_mul (sgn_bt s1) (sgn_bt s2) (by decide))) (ev_ix (ev_var 2 rfl rfl) ev_int (ix_tupN (by decide) h0')) (bin_mul (sgn_bt (sgn_mul s1 s2)) (sgn_bt (.inl rfl)) (by decide)))
    · rw [eu]
      simp [nums]
    · show [hdD (hd1.dr 2 _)] = _
      rw [eu]
end
end Hw
set_option Elab.async false
set_option linter.all false
set_option maxRecDepth 100000
set_option maxHeartbeats 2000000
/-! The walks: built words, odd hums. -/
namespace Hw
open PySem PySem.Spec PyProof.Rows L2

theorem WS.cast {g : Gm} {N : List Str} {sc : Scope} {k : Nat} {W : Wm} {m : Nat} {ρ ρ' : Rho} {ω : Om} {P : Out → Prop} {sts sts' : List Stmt} (h : WS g N sc k W m sts ρ ω P) (e : sts = sts') (e2 : ρ = ρ') : WS g N sc k W m sts' ρ' ω P := e ▸ e2 ▸ h
section
variable {g : Gm} (h : Has g)
include h
theorem c__law_built {hd : Hd} (o : Hok hd) {n : Nat} (h1 : 1 ≤ n) (h2 : n ≤ 24) : ∃ ws hd', WdOk n ws ∧ Hok hd' ∧ CallH g 4 "_law_built" [.int n] (hdD hd) (.val (.tup (nums ws))) (hdD hd') := by
  by_cases c0 : (n : Int) < 2
  · refine ⟨hd.wd n, hd.wdH n, Hd.wd_ok h1 h2, o.wdH n, ?_⟩
    refine call_ok ["_law_hand_here", "_law_count_here", "_law_half", "_law_quarter", "_law_pick", "_law_sign", "_law_k"] ["_law_hand_here", "_law_count_here"] (h.fn 43 "_law_built" s__law_built [] rfl) ⟨rfl, rfl, rfl, by decide +kernel, rfl, by decide +kernel, by decide +kernel⟩ (fun W hm => ?_) (fun _ _ _ _ _ _ us hl => match us, hl with | [_, _], _ => rfl)
    refine ws_ifT (et_w (ew_or0 (EvT.is (et_cmp (ev_var 1 rfl rfl) ev_int cmp_lt) (decide_eq_true c0)))) ?_
    exact ws_ret (ev_callH 0 rfl (c__law_word h o h2) (ea_cons (ev_var 1 rfl rfl) ea_nil)) ⟨rfl, rfl⟩
  by_cases c1 : (n : Int) % 2 = 1
  · refine ⟨hd.wd n, hd.wdH n, Hd.wd_ok h1 h2, o.wdH n, ?_⟩
    refine call_ok ["_law_hand_here", "_law_count_here", "_law_half", "_law_quarter", "_law_pick", "_law_sign", "_law_k"] ["_law_hand_here", "_law_count_here"] (h.fn 43 "_law_built" s__law_built [] rfl) ⟨rfl, rfl, rfl, by decide +kernel, rfl, by decide +kernel, by decide +kernel⟩ (fun W hm => ?_) (fun _ _ _ _ _ _ us hl => match us, hl with | [_, _], _ => rfl)
    refine ws_ifT (et_w (ew_or (EvT.is (et_cmp (ev_var 1 rfl rfl) ev_int cmp_lt) (decide_eq_false c0)) (ew_or0 (EvT.is (et_tru (ev_bin (ev_cty h.li.int (ea_cons (ev_var 1 rfl rfl) ea_nil) fn_int) ev_int (bin_mod (by decide)))) ((by rw [c1]; rfl)))))) ?_
    exact ws_ret (ev_callH 0 rfl (c__law_word h o h2) (ea_cons (ev_var 1 rfl rfl) ea_nil)) ⟨rfl, rfl⟩
  have r1 := Hd.tk_rng (h := hd) (m := 2) (by decide)
  have o1 := o.tk (m := 2) (by decide)
  have cp := (c__law_take h o (m := 2) (by decide) (Bt.mono (btd (by decide)) (by decide))).mono (show 2 ≤ 3 by decide)
  generalize (hd.tk 2).1 = v at r1 cp
  generalize (hd.tk 2).2 = hd1 at o1 cp
  have e1 : (n : Int) % 2 = 0 := by omega
  by_cases c2 : v = 1
  · refine ⟨hd1.wd n, hd1.wdH n, Hd.wd_ok h1 h2, o1.wdH n, ?_⟩
    refine call_ok ["_law_hand_here", "_law_count_here", "_law_half", "_law_quarter", "_law_pick", "_law_sign", "_law_k"] ["_law_hand_here", "_law_count_here"] (h.fn 43 "_law_built" s__law_built [] rfl) ⟨rfl, rfl, rfl, by decide +kernel, rfl, by decide +kernel, by decide +kernel⟩ (fun W hm => ?_) (fun _ _ _ _ _ _ us hl => match us, hl with | [_, _], _ => rfl)
    refine ws_ifT (et_w (ew_or (EvT.is (et_cmp (ev_var 1 rfl rfl) ev_int cmp_lt) (decide_eq_false c0)) (ew_or (EvT.is (et_tru (ev_bin (ev_cty h.li.int (ea_cons (ev_var 1 rfl rfl) ea_nil) fn_int) ev_int (bin_mod (by decide)))) ((by rw [e1]; rfl))) (ew_or1 (EvT.is (et_tru (ev_callH 0 rfl cp (ea_cons ev_int ea_nil))) ((by rw [c2]; rfl))))))) ?_
    exact ws_ret (ev_callH 0 rfl (c__law_word h o1 h2) (ea_cons (ev_var 1 rfl rfl) ea_nil)) ⟨rfl, rfl⟩
  have c2' : v = 0 := by omega
  obtain ⟨m, rfl⟩ : ∃ m, n = 2 * m := ⟨n / 2, by omega⟩
  have em : ((2 * m : Nat) : Int) / 2 = (m : Int) := by omega
  have cw := c__law_word h o1 (n := m) (by omega)
  rw [← em] at cw
  have wok := Hd.wd_ok (h := hd1) (n := m) (by omega) (by omega)
  have o2 := o1.wdH m
  generalize hd1.wd m = hf at cw wok
  generalize hd1.wdH m = hd2 at cw o2
  by_cases c3 : ((2 * m : Nat) : Int) % 4 = 0
  · obtain ⟨k, rfl⟩ : ∃ k, m = 2 * k := ⟨m / 2, by omega⟩
    have ek : ((2 * (2 * k) : Nat) : Int) / 4 = (k : Int) := by omega
    have cw2 := c__law_word h o2 (n := k) (by omega)
    rw [← ek] at cw2
    have wok2 := Hd.wd_ok (h := hd2) (n := k) (by omega) (by omega)
    have o3 := o2.wdH k
    generalize hd2.wd k = qf at cw2 wok2
    generalize hd2.wdH k = hd3 at cw2 o3
    have wq : WdOk (2 * k) (qf ++ qf.map fun w => -w) := wd_app wok2 (by simp [wok2.len]) (fun w' hw' => by
      obtain ⟨w0, hw0, rfl⟩ := List.mem_map.mp hw'
      exact sgn_neg (wok2.sg w0 hw0)) (by omega)
    have ql := wok2.len
    obtain ⟨ws, hd', w1, w2, w3⟩ := built_tail h o3 wq h2 (some (.dat (.tup (nums qf))))
    refine ⟨ws, hd', w1, w2, ?_⟩
    refine call_ok ["_law_hand_here", "_law_count_here", "_law_half", "_law_quarter", "_law_pick", "_law_sign", "_law_k"] ["_law_hand_here", "_law_count_here"] (h.fn 43 "_law_built" s__law_built [] rfl) ⟨rfl, rfl, rfl, by decide +kernel, rfl, by decide +kernel, by decide +kernel⟩ (fun W hm => ?_) (fun _ _ _ _ _ _ us hl => match us, hl with | [_, _], _ => rfl)
    refine ws_ifF (et_w (ew_or (EvT.is (et_cmp (ev_var 1 rfl rfl) ev_int cmp_lt) (decide_eq_false c0)) (ew_or (EvT.is (et_tru (ev_bin (ev_cty h.li.int (ea_cons (ev_var 1 rfl rfl) ea_nil) fn_int) ev_int (bin_mod (by decide)))) ((by rw [e1]; rfl))) (ew_or1 (EvT.is (et_tru (ev_callH 0 rfl cp (ea_cons ev_int ea_nil))) ((by rw [c2']; rfl))))))) ?_
    refine ws_set 2 (ev_callH 0 rfl cw (ea_cons (ev_bin (ev_var 1 rfl rfl) ev_int (bin_fdiv (by decide) (btd (by decide)) (by decide))) ea_nil)) ?_
    refine ws_ifT (EvT.is (et_cmp (ev_bin (ev_cty h.li.int (ea_cons (ev_var 1 rfl rfl) ea_nil) fn_int) ev_int (bin_mod (by decide))) ev_int cmp_eqI) (decide_eq_true c3)) ?_
    refine ws_set 3 (ev_callH 0 rfl cw2 (ea_cons (ev_bin (ev_var 1 rfl rfl) ev_int (bin_fdiv (by decide) (btd (by decide)) (by decide))) ea_nil)) ?_
    refine ws_set 2 (d := .tup (nums (qf ++ qf.map fun w => -w))) (EvE.is (ev_bin (ev_var 3 rfl rfl) (ev_cty h.li.tuple (ea_cons (ev_lcM 5 [("_law_sign", 5)] qf D.int (fun w => D.int (-w)) (ei_tup (ev_var 3 rfl rfl)) (fun w hw => (ev_neg (ev_var 5 rfl rfl))) (by omega)) ea_nil) fn_tuple_l) (bin_addT (by simp; omega))) (by simp [nums])) (ws_nil ?_)
    exact WS.cast (w3 W hm) (by rfl) (by rfl)
  · obtain ⟨ws, hd', w1, w2, w3⟩ := built_tail h o2 wok h2 none
    refine ⟨ws, hd', w1, w2, ?_⟩
    refine call_ok ["_law_hand_here", "_law_count_here", "_law_half", "_law_quarter", "_law_pick", "_law_sign", "_law_k"] ["_law_hand_here", "_law_count_here"] (h.fn 43 "_law_built" s__law_built [] rfl) ⟨rfl, rfl, rfl, by decide +kernel, rfl, by decide +kernel, by decide +kernel⟩ (fun W hm => ?_) (fun _ _ _ _ _ _ us hl => match us, hl with | [_, _], _ => rfl)
    refine ws_ifF (et_w (ew_or (EvT.is (et_cmp (ev_var 1 rfl rfl) ev_int cmp_lt) (decide_eq_false c0)) (ew_or (EvT.is (et_tru (ev_bin (ev_cty h.li.int (ea_cons (ev_var 1 rfl rfl) ea_nil) fn_int) ev_int (bin_mod (by decide)))) ((by rw [e1]; rfl))) (ew_or1 (EvT.is (et_tru (ev_callH 0 rfl cp (ea_cons ev_int ea_nil))) ((by rw [c2']; rfl))))))) ?_
    refine ws_set 2 (ev_callH 0 rfl cw (ea_cons (ev_bin (ev_var 1 rfl rfl) ev_int (bin_fdiv (by decide) (btd (by decide)) (by decide))) ea_nil)) ?_
    refine ws_ifF (EvT.is (et_cmp (ev_bin (ev_cty h.li.int (ea_cons (ev_var 1 rfl rfl) ea_nil) fn_int) ev_int (bin_mod (by decide))) ev_int cmp_eqI) (decide_eq_false c3)) ?_
    exact WS.cast (w3 W hm) (by rfl) (by rfl)
end
end Hw
set_option Elab.async false
set_option linter.all false
set_option maxRecDepth 100000
set_option maxHeartbeats 2000000
/-! The walks: the law's lots. -/
namespace Hw
open PySem PySem.Spec PyProof.Rows L2

def bitP (n : Nat) (num k : Int) : Bool := (num / 2 ^ ((n : Int) - 1 - k).toNat % 2) != 0
def rowAt (n : Nat) (num : Int) : List Int := (ups 1 ((n : Int) - 1).toNat).filter (bitP n num)
abbrev numsOf (n : Nat) : List Int := ups 0 ((1 : Int) * 2 ^ ((n : Int) - 1).toNat).toNat
def rowsK (n k : Nat) : List (List Int) := ((numsOf n).filter fun num => decide (((rowAt n num).length : Int) = (k : Int))).map (rowAt n)
def chk (n k : Nat) : Bool := decide ((lev n k).Perm (rowsK n k)) && (decide ((lev n k).Pairwise fun a b => TS.code 100 a ≤ TS.code 100 b) && (decide ((rowsK n k).length < 64) && ((rowsK n k).all fun l => decide (l.length = k) && l.all fun p => decide (0 ≤ p ∧ p < 100))))
theorem chk_all : ((List.range 7).all fun n => (List.range 4).all fun k => chk (n + 1) k) = true := by decide +kernel
theorem chk_ok {n k : Nat} (h1 : 1 ≤ n) (h7 : n ≤ 7) (hk : k ≤ 3) : (lev n k).Perm (rowsK n k) ∧ ((lev n k).Pairwise fun a b => TS.code 100 a ≤ TS.code 100 b) ∧ (rowsK n k).length < 64 ∧ ∀ l ∈ rowsK n k, l.length = k ∧ TS.Bd 100 l := by
  have a := List.all_eq_true.mp chk_all (n - 1) (List.mem_range.mpr (by omega))
  have b := List.all_eq_true.mp a k (List.mem_range.mpr (by omega))
  rw [show n - 1 + 1 = n by omega] at b
  unfold chk at b
  simp only [Bool.and_eq_true, decide_eq_true_eq] at b
  obtain ⟨b1, b2, b3, b4⟩ := b
  refine ⟨b1, b2, b3, fun l hl => ?_⟩
  have c := List.all_eq_true.mp b4 l hl
  simp only [Bool.and_eq_true, decide_eq_true_eq] at c
  refine ⟨c.1, fun p hp => ?_⟩
  have d := List.all_eq_true.mp c.2 p hp
  simpa using d
def fndP (n : Nat) : Nat → List (List Int)
  | 0 => []
  | k + 1 => fndP n k ++ lev n k
theorem fndP_fnd (n : Nat) : ∀ m, fndP n (m + 1) = fnd n m
  | 0 => rfl
  | m + 1 => by
    show fndP n (m + 1) ++ lev n (m + 1) = fnd n m ++ lev n (m + 1)
    rw [fndP_fnd n m]
section
variable {g : Gm} (h : Has g)
include h
theorem fn_sortedK {n k i : Nat} (h1 : 1 ≤ n) (h7 : n ≤ 7) (hk : k ≤ 3) : FnD g i (.builtin "sorted") [.lst (lots (rowsK n k))] (.lst (lots (lev n k))) := by
  obtain ⟨c1, c2, c3, c4⟩ := chk_ok h1 h7 hk
  by_cases z : k = 0
  · subst z
    have e : rowsK n 0 = lev n 0 := by
      have := c1.symm
      exact List.perm_singleton.mp this
    rw [e]
    exact fn_sorted1 (ls := lev n 0) (by show 1 < 2; decide)
  · exact fn_sortedT (d := k) (B := 100) (by omega) c3 c4 c1 c2
theorem c__law_lots {n m : Nat} (h1 : 1 ≤ n) (h7 : n ≤ 7) (hm3 : m ≤ 3) : CallP g 1 "_law_lots" [.int n, .int m] (.val (.lst (lots (fnd n m)))) := by
  refine call_ok ["_law_count_here", "_law_most", "_law_rows", "_law_found", "_law_many", "_law_k", "_law_number", "_law_row"] ["_law_count_here", "_law_most"] (h.fn 48 "_law_lots" s__law_lots [] rfl) ⟨rfl, rfl, rfl, by decide +kernel, rfl, by decide +kernel, by decide +kernel⟩ (fun W hm => ?_) (fun _ _ _ _ _ _ us hl => match us, hl with | [_, _], _ => rfl)
  have e2 : (1 : Int) * 2 ^ ((n : Int) - 1).toNat ≤ 64 := by
    have : ((n : Int) - 1).toNat ≤ 6 := by omega
    have h2 : (2 : Int) ^ ((n : Int) - 1).toNat ≤ 2 ^ 6 := by exact_mod_cast Nat.pow_le_pow_right (by decide : 0 < 2) this
    omega
  have e3 : (0 : Int) ≤ (1 : Int) * 2 ^ ((n : Int) - 1).toNat := by
    have : (0 : Int) ≤ 2 ^ ((n : Int) - 1).toNat := Int.le_of_lt (Int.pow_pos (by decide))
    omega
  refine ws_setM 2 6 [("_law_number", 6)] (numsOf n) D.int (fun num => lot (rowAt n num)) (ei_r1 h.li (ea_cons (ev_bin ev_int (ev_bin (ev_var 0 rfl rfl) ev_int bin_sub) (bin_shl (⟨by omega, by omega, by decide⟩))) ea_nil) ((by omega))) (fun num hn => ?_) (by rw [ups_len]; omega) ?_
  · refine EvE.is (ev_cty h.li.tuple (ea_cons (ev_lcF 5 [("_law_k", 5)] (ups 1 ((n : Int) - 1).toNat) D.int (fun k => bitP n num k) D.int (ei_r2 h.li (ea_cons ev_int (ea_cons (ev_var 0 rfl rfl) ea_nil)) (by omega) (by omega)) (fun k hk => ?_) (fun k hk _ => (ev_var 5 rfl rfl)) (by rw [ups_len]; omega)) ea_nil) fn_tuple_l) rfl
    have hk := ups_mem hk
    exact (et_tru (ev_bin (ev_cty h.li.int (ea_cons (ev_bin (ev_var 6 rfl rfl) (ev_bin (ev_bin (ev_var 0 rfl rfl) ev_int bin_sub) (ev_var 5 rfl rfl) bin_sub) (bin_shr (by omega))) ea_nil) fn_int) ev_int (bin_mod (by decide))))
  refine ws_set 3 (d := .lst (lots (fndP n 0))) (ev_lst (ds := []) ea_nil) ?_
  refine ws_for (is := [4]) (fun i => [some (.dat (.int n)), some (.dat (.int m)), some (.dat (.lst ((numsOf n).map fun num => lot (rowAt n num)))), some (.dat (.lst (lots (fndP n i)))), none, none, none, none]) (fun i => [some (.dat (.int n)), some (.dat (.int m)), some (.dat (.lst ((numsOf n).map fun num => lot (rowAt n num)))), some (.dat (.lst (lots (fndP n i)))), some (.dat (.int (0 + (i : Int)))), none, none, none]) (fun _ => []) (ei_r1 h.li (ea_cons (ev_bin (ev_var 1 rfl rfl) ev_int bin_add) ea_nil) (by omega)) (.refl _) (fun i d e => ?_) (fun i d e => ?_) ?_
  · obtain ⟨e1, rfl⟩ := ups_get e
    exact eg_name 4 rfl (by decide +kernel)
  · obtain ⟨e1, rfl⟩ := ups_get e
    have hi : i ≤ 3 := by omega
    have ln : (fndP n i).length ≤ 20000 := by
      cases i with
      | zero => simp [fndP]
      | succ j => rw [fndP_fnd]; exact fnd_len (by omega) j (by omega)
    have ll : (lev n i).length ≤ 24 ^ 3 := Nat.le_trans (lev_len (by omega) i) (Nat.pow_le_pow_right (by decide) hi)
    refine ws_set 3 (d := .lst (lots (fndP n (i + 1)))) (EvE.is (ev_bin (ev_var 3 rfl rfl) (ev_cb h.li.sorted (ea_cons (EvE.is (ev_lcF 7 [("_law_row", 7)] (numsOf n) (fun num => lot (rowAt n num)) (fun num => decide (((rowAt n num).length : Int) = ((i : Nat) : Int))) (fun num => lot (rowAt n num)) (ei_lst (ev_var 2 rfl rfl)) (fun num hn => EvT.is (et_cmp (ev_cb h.li.len (ea_cons (ev_var 7 rfl rfl) ea_nil) fn_len_t) (ev_var 4 rfl rfl) cmp_eqI) (by simp)) (fun num hn _ => (ev_var 7 rfl rfl)) (by rw [ups_len]; omega)) (r' := .val (.lst (lots (rowsK n i)))) (by unfold rowsK lots; rw [List.map_map]; rfl)) ea_nil) (fn_sortedK h h1 h7 hi)) (bin_addL (by simp; omega))) (by show _ = Res.val (.lst (lots (fndP n i ++ lev n i))); unfold lots; rw [List.map_append])) (ws_nil ⟨?_, rfl⟩)
    exact .keep (.keep (.keep (.keep (.drop (.keep (.keep (.keep .nil)))))))
  · have er : ((ups 0 (((m : Int) + 1)).toNat).map D.int).length = m + 1 := by rw [List.length_map, ups_len]; omega
    rw [er, fndP_fnd]
    exact ws_ret (ev_var 3 rfl rfl) ⟨rfl, rfl⟩
end
end Hw
set_option Elab.async false
set_option linter.all false
set_option maxRecDepth 100000
set_option maxHeartbeats 2000000
/-! The plain law: wrong poles, readings. -/
namespace Hw

/-- (-1) to the number of poles up to k -/
def cs : List Int → Int → Int
  | [], _ => 1
  | p :: l, k => if p ≤ k then -cs l k else cs l k
theorem cs_app (l m : List Int) (k : Int) : cs (l ++ m) k = cs l k * cs m k := by
  induction l with
  | nil => simp [cs]
  | cons p l ih =>
    show (if p ≤ k then -cs (l ++ m) k else cs (l ++ m) k) = (if p ≤ k then -cs l k else cs l k) * cs m k
    rw [ih]
    split
    · rw [Int.neg_mul]
    · rfl
theorem flip_get (ws : List Int) (p : Int) (k : Nat) : (flip ws p).getD k 0 = ws.getD k 0 * (if p ≤ (k : Int) then -1 else 1) := by
  unfold flip
  rw [List.getD_eq_getElem?_getD, List.getD_eq_getElem?_getD, List.getElem?_append]
  by_cases c : p ≤ (k : Int)
  · rw [if_pos c]
    have hk : ¬ k < (ws.take p.toNat).length := by rw [List.length_take]; omega
    rw [if_neg hk, List.getElem?_map, List.getElem?_drop, List.length_take]
    by_cases h2 : p.toNat ≤ ws.length
    · rw [show p.toNat + (k - min p.toNat ws.length) = k by omega]
      cases e : ws[k]? with
      | none => simp
      | some w => simp
    · rw [List.getElem?_eq_none (by omega), List.getElem?_eq_none (by omega)]
      rfl
  · rw [if_neg c]
    by_cases h2 : k < ws.length
    · have hk : k < (ws.take p.toNat).length := by rw [List.length_take]; omega
      rw [if_pos hk, List.getElem?_take_of_lt (by omega)]
      simp
    · have hk : ¬ k < (ws.take p.toNat).length := by rw [List.length_take]; omega
      rw [if_neg hk, List.getElem?_map, List.getElem?_drop, List.getElem?_eq_none (by rw [List.length_take]; omega), List.getElem?_eq_none (by omega)]
      rfl
theorem flips_get (l : List Int) (k : Nat) : ∀ ws : List Int, (flips ws l).getD k 0 = ws.getD k 0 * cs l k := by
  induction l with
  | nil => intro ws; simp [flips, cs]
  | cons p l ih =>
    intro ws
    show (flips (flip ws p) l).getD k 0 = _ * (if p ≤ (k : Int) then -cs l k else cs l k)
    rw [ih, flip_get]
    split
    · rw [Int.mul_neg_one, Int.neg_mul, Int.mul_neg]
    · rw [Int.mul_one]
theorem cs_step {l : List Int} (nd : l.Nodup) (k : Int) : cs l k = if k ∈ l then -cs l (k - 1) else cs l (k - 1) := by
  induction l with
  | nil => rfl
  | cons p l ih =>
    obtain ⟨n1, n2⟩ := List.nodup_cons.mp nd
    have ih := ih n2
    by_cases c : p = k
    · subst c
      rw [if_neg n1] at ih
      show (if p ≤ p then -cs l p else cs l p) = if p ∈ p :: l then -(if p ≤ p - 1 then -cs l (p - 1) else cs l (p - 1)) else (if p ≤ p - 1 then -cs l (p - 1) else cs l (p - 1))
      rw [if_pos (Int.le_refl _), if_pos List.mem_cons_self, if_neg (by omega), ih]
    · show (if p ≤ k then -cs l k else cs l k) = if k ∈ p :: l then -(if p ≤ k - 1 then -cs l (k - 1) else cs l (k - 1)) else (if p ≤ k - 1 then -cs l (k - 1) else cs l (k - 1))
      have em : (k ∈ p :: l) ↔ k ∈ l := by simp [Ne.symm c]
      by_cases c2 : p ≤ k
      · rw [if_pos c2, if_pos (show p ≤ k - 1 by omega), ih]
        by_cases c3 : k ∈ l
        · rw [if_pos c3, if_pos (em.mpr c3)]
        · rw [if_neg c3, if_neg (fun z => c3 (em.mp z))]
      · rw [if_neg c2, if_neg (show ¬ p ≤ k - 1 by omega), ih]
        by_cases c3 : k ∈ l
        · rw [if_pos c3, if_pos (em.mpr c3)]
        · rw [if_neg c3, if_neg (fun z => c3 (em.mp z))]
theorem cs_none {l : List Int} {k : Int} (h : ∀ p ∈ l, k < p) : cs l k = 1 := by
  induction l with
  | nil => rfl
  | cons p l ih =>
    show (if p ≤ k then -cs l k else cs l k) = 1
    have := h p List.mem_cons_self
    rw [if_neg (by omega), ih fun q hq => h q (List.mem_cons_of_mem _ hq)]
theorem sgnAt_cs {l : List Int} (nd : l.Nodup) (h0 : ∀ p ∈ l, 0 ≤ p) : ∀ k : Nat, sgnAt l k = cs l ((k : Int) - 1)
  | 0 => by
    rw [cs_none fun p hp => by have := h0 p hp; omega]
    rfl
  | k + 1 => by
    show (if (k : Int) ∈ l then -sgnAt l k else sgnAt l k) = _
    rw [sgnAt_cs nd h0 k, show (((k + 1 : Nat) : Int)) - 1 = (k : Int) by omega, cs_step nd (k : Int)]
/-- a lot: rising, from 0 on -/
structure LotOk (n : Nat) (l : List Int) : Prop where
  up : l.Pairwise (· < ·)
  rng : ∀ p ∈ l, 1 ≤ p ∧ p < (n : Int)
theorem LotOk.nd {n : Nat} {l : List Int} (o : LotOk n l) : l.Nodup := o.up.imp fun h => by omega
theorem wrong_flips {ws l : List Int} {n : Nat} (o : LotOk n l) : flips ws l = wrongV ws l := by
  unfold wrongV
  refine List.ext_getElem (by rw [flips_len]; simp) fun k h1 h2 => ?_
  have e := flips_get l k ws
  rw [List.getD_eq_getElem?_getD, List.getElem?_eq_getElem h1] at e
  simp only [Option.getD_some] at e
  rw [e]
  simp only [List.getElem_map, List.getElem_range]
  rw [sgnAt_cs o.nd (fun p hp => by have := (o.rng p hp).1; omega), show (((k + 1 : Nat) : Int)) - 1 = (k : Int) by omega]
/-- each lot of a level rises -/
theorem lev_ok (n : Nat) : ∀ k l, l ∈ lev n k → LotOk n l
  | 0, l, hl => by
    rw [List.mem_singleton.mp hl]
    exact ⟨.nil, fun p hp => by cases hp⟩
  | k + 1, l, hl => by
    refine ⟨?_, lev_rng n (k + 1) l hl⟩
    obtain ⟨l0, h0, h1⟩ := List.mem_flatMap.mp hl
    obtain ⟨q, hq, rfl⟩ := List.mem_map.mp h1
    have ih := (lev_ok n k l0 h0).up
    have r := ups_mem hq
    rw [List.pairwise_append]
    refine ⟨ih, List.pairwise_singleton _ _, fun a ha b hb => ?_⟩
    rw [List.mem_singleton.mp hb]
    unfold start at r
    cases e : l0.getLast? with
    | none =>
      rw [List.getLast?_eq_none_iff.mp e] at ha
      cases ha
    | some z =>
      rw [e] at r
      have r1 : z + 1 ≤ q := r.1
      have : a ≤ z := by
        obtain ⟨ini, rfl⟩ : ∃ ini, l0 = ini ++ [z] := ⟨l0.dropLast, by
          rw [List.getLast?_eq_some_iff] at e
          obtain ⟨ys, rfl⟩ := e
          simp⟩
        rcases List.mem_append.mp ha with y | y
        · have := (List.pairwise_append.mp ih).2.2 a y z (List.mem_singleton.mpr rfl)
          omega
        · rw [List.mem_singleton.mp y]; omega
      omega
theorem fnd_ok {n k : Nat} {l : List Int} (hl : l ∈ fnd n k) : LotOk n l := by
  obtain ⟨j, _, e⟩ := fnd_lev n k l hl
  exact lev_ok n j l e

/-! ### sums -/
def S (f : Nat → Rat) (n : Nat) : Rat := ((List.range n).map f).sum
theorem S_succ (f : Nat → Rat) (n : Nat) : S f (n + 1) = S f n + f n := by
  unfold S
  rw [List.range_succ, List.map_append, List.sum_append, List.map_cons, List.map_nil, List.sum_cons, List.sum_nil, Rat.add_zero]
theorem S_congr {f h : Nat → Rat} : ∀ n, (∀ k, k < n → f k = h k) → S f n = S h n
  | 0, _ => rfl
  | n + 1, e => by rw [S_succ, S_succ, S_congr n fun k hk => e k (by omega), e n (by omega)]
theorem S_add (f h : Nat → Rat) : ∀ n, S (fun k => f k + h k) n = S f n + S h n
  | 0 => by
    show (0 : Rat) = 0 + 0
    grind
  | n + 1 => by rw [S_succ, S_succ, S_succ, S_add f h n]; grind
theorem S_mul (c : Rat) (f : Nat → Rat) : ∀ n, S (fun k => c * f k) n = c * S f n
  | 0 => by unfold S; simp
  | n + 1 => by rw [S_succ, S_succ, S_mul c f n]; grind
theorem S_zero : ∀ n, S (fun _ => 0) n = 0
  | 0 => by unfold S; rfl
  | n + 1 => by rw [S_succ, S_zero n]; grind
/-- the sum from p on -/
theorem S_from (f : Nat → Rat) {p : Nat} : ∀ n, p < n → S (fun k => if p ≤ k then f k else 0) n = f p + S (fun k => if p + 1 ≤ k then f k else 0) n
  | 0, h => by omega
  | n + 1, h => by
    rw [S_succ, S_succ, if_pos (show p ≤ n by omega)]
    by_cases c : p < n
    · rw [S_from f n c, if_pos (show p + 1 ≤ n by omega)]
      grind
    · have e : p = n := by omega
      subst e
      rw [if_neg (by omega)]
      have z1 : S (fun k => if p ≤ k then f k else 0) p = 0 := by
        rw [S_congr p (h := fun _ => 0) fun k hk => if_neg (by omega), S_zero]
      have z2 : S (fun k => if p + 1 ≤ k then f k else 0) p = 0 := by
        rw [S_congr p (h := fun _ => 0) fun k hk => if_neg (by omega), S_zero]
      rw [z1, z2]
      grind
theorem ttl_S (ls : List Rat) (ws : List Int) (hs : List Rat) (n : Nat) : ∀ j, j ≤ n → ttl ls ws hs n j = S (fun k => if n - j ≤ k then term ls ws hs k else 0) n
  | 0, _ => by
    show (0 : Rat) = _
    rw [S_congr n (h := fun _ => 0) fun k hk => if_neg (by omega), S_zero]
  | j + 1, h => by
    show ttl ls ws hs n j + term ls ws hs (n - 1 - j) = _
    rw [ttl_S ls ws hs n j (by omega), S_from (term ls ws hs) (p := n - (j + 1)) n (by omega), show n - (j + 1) + 1 = n - j by omega, show n - 1 - j = n - (j + 1) by omega]
    grind
theorem tails_get (ls : List Rat) (ws : List Int) (hs : List Rat) {n p : Nat} (h : p < n) : (tails ls ws hs n).getD p 0 = S (fun k => if p ≤ k then term ls ws hs k else 0) n := by
  unfold tails
  rw [List.getD_eq_getElem?_getD, List.getElem?_reverse (by simpa using h), List.getElem?_map, List.getElem?_range (by simp; omega)]
  simp only [List.length_map, List.length_range, Option.map_some, Option.getD_some]
  rw [ttl_S ls ws hs n _ (by omega)]
  refine S_congr n fun k hk => ?_
  rw [show n - (n - 1 - p + 1) = p by omega]
theorem noise_S (ls : List Rat) (ws : List Int) (hs : List Rat) : noise ls ws hs = S (term ls ws hs) ws.length := rfl
theorem noise_flips (ls : List Rat) (ws : List Int) (hs : List Rat) (l : List Int) : noise ls (flips ws l) hs = S (fun k => term ls ws hs k * ((cs l k : Int) : Rat)) ws.length := by
  rw [noise_S, flips_len]
  refine S_congr _ fun k hk => ?_
  unfold term
  rw [flips_get, Rat.intCast_mul]
  grind
theorem fo_app (T : List Rat) (l m : List Int) : ∀ i, i ≤ l.length → fo T (l ++ m) i = fo T l i
  | 0, _ => rfl
  | i + 1, h => by
    show fo T (l ++ m) i + _ = fo T l i + _
    rw [fo_app T l m i (by omega)]
    have e : (l ++ m).getD i 0 = l.getD i 0 := by
      rw [List.getD_eq_getElem?_getD, List.getD_eq_getElem?_getD, List.getElem?_append_left (by omega)]
    rw [e]
theorem cs_all {l : List Int} {k : Int} (h : ∀ p ∈ l, p ≤ k) : cs l k = if l.length % 2 = 0 then 1 else -1 := by
  induction l with
  | nil => rfl
  | cons p l ih =>
    show (if p ≤ k then -cs l k else cs l k) = _
    rw [if_pos (h p List.mem_cons_self), ih fun q hq => h q (List.mem_cons_of_mem _ hq), List.length_cons]
    by_cases c : l.length % 2 = 0
    · rw [if_pos c, if_neg (by omega)]
    · rw [if_neg c, if_pos (by omega)]; rfl
theorem wti_cs {l : List Int} {k : Int} (h : ∀ p ∈ l, p ≤ k) : wti l.length = -2 * cs l k := by
  rw [cs_all h]
  unfold wti
  split <;> rfl
/-- the reading with the poles of a lot wrong -/
theorem lrd_noise {ls hs : List Rat} {ws : List Int} {n : Nat} (hn : ws.length = n) (h0 : 0 < n) : ∀ (m : Nat) (l : List Int), l.length = m → LotOk n l → lrd (tails ls ws hs n) l = noise ls (flips ws l) hs
  | 0, l, hm, o => by
    rw [List.eq_nil_of_length_eq_zero hm, noise_flips]
    show (tails ls ws hs n).getD 0 0 = _
    rw [tails_get ls ws hs h0, hn]
    refine S_congr n fun k hk => ?_
    rw [if_pos (Nat.zero_le _)]
    show _ = _ * ((1 : Int) : Rat)
    simp
  | m + 1, l, hm, o => by
    obtain ⟨l0, p, rfl⟩ : ∃ l0 p, l = l0 ++ [p] := by
      rcases List.eq_nil_or_concat l with rfl | ⟨l0, p, rfl⟩
      · cases hm
      · exact ⟨l0, p, by simp⟩
    have hm0 : l0.length = m := by simpa using hm
    have o0 : LotOk n l0 := ⟨(List.pairwise_append.mp o.up).1, fun q hq => o.rng q (List.mem_append_left _ hq)⟩
    have ih := lrd_noise (ls := ls) (hs := hs) hn h0 m l0 hm0 o0
    have rp := o.rng p (by simp)
    have low : ∀ q ∈ l0, q < p := fun q hq => (List.pairwise_append.mp o.up).2.2 q hq p (List.mem_singleton.mpr rfl)
    obtain ⟨pn, rfl⟩ : ∃ pn : Nat, p = (pn : Int) := ⟨p.toNat, by omega⟩
    unfold lrd at ih ⊢
    rw [List.length_append, List.length_singleton]
    show fo _ (l0 ++ [(pn : Int)]) l0.length + ((wti l0.length : Int) : Rat) * (tails ls ws hs n).getD ((l0 ++ [(pn : Int)]).getD l0.length 0).toNat 0 = _
    rw [fo_app _ _ _ _ (Nat.le_refl _), ih]
    have eg : (l0 ++ [(pn : Int)]).getD l0.length 0 = (pn : Int) := by simp
    rw [eg, Int.toNat_natCast, tails_get ls ws hs (by omega), noise_flips, noise_flips, hn, ← S_mul, ← S_add]
    refine S_congr n fun k hk => ?_
    rw [cs_app]
    show _ = _ * ((cs l0 (k : Int) * (if (pn : Int) ≤ (k : Int) then -1 else 1) : Int) : Rat)
    by_cases c : pn ≤ k
    · rw [if_pos c, if_pos (by omega), wti_cs (l := l0) (k := (k : Int)) (fun q hq => by have := low q hq; omega)]
      simp only [Rat.intCast_mul]
      have : ((-2 : Int) : Rat) = -2 := by rfl
      have : ((-1 : Int) : Rat) = -1 := by rfl
      grind
    · rw [if_neg c, if_neg (by omega), Int.mul_one]
      grind
theorem row_noise {ls : List Rat} {ws : List Int} {hss : List (List Rat)} {n : Nat} (hn : ws.length = n) (h0 : 0 < n) {l : List Int} (o : LotOk n l) : rowOf ls ws hss n l = hss.map (noise ls (wrongV ws l)) := by
  unfold rowOf
  refine List.map_congr_left fun hs _ => ?_
  rw [lrd_noise hn h0 l.length l rfl o, wrong_flips o]
theorem fits_eq {ls : List Rat} {ws : List Int} {hss : List (List Rat)} {rs : List Rat} {n m : Nat} (hn : ws.length = n) (h0 : 0 < n) : (fnd n m).filter (fun l => decide (hss.map (noise ls (wrongV ws l)) = rs)) = fits ls ws hss rs n m := by
  unfold fits
  refine List.filter_congr fun l hl => ?_
  rw [row_noise hn h0 (fnd_ok hl)]
/-- the poles in each, in none of the lots -/
theorem sureW_eq (n : Nat) (ll : List (List Int)) : (ups 1 ((n : Int) - 1).toNat).filter (fun p => (ll.filter fun l => !decide (p ∈ l)).isEmpty) = sureW n ll := by
  unfold sureW
  refine List.filter_congr fun p _ => ?_
  rw [Bool.eq_iff_iff, List.isEmpty_iff, List.filter_eq_nil_iff, List.all_eq_true]
  simp
theorem sureR_eq (n : Nat) (ll : List (List Int)) : (ups 1 ((n : Int) - 1).toNat).filter (fun p => (ll.filter fun l => decide (p ∈ l)).isEmpty) = sureR n ll := by
  unfold sureR
  refine List.filter_congr fun p _ => ?_
  rw [Bool.eq_iff_iff, List.isEmpty_iff, List.filter_eq_nil_iff]
  simp
end Hw
set_option Elab.async false
set_option linter.all false
set_option maxRecDepth 100000
set_option maxHeartbeats 2000000
/-! The plain law: the telling hum. -/
namespace Hw

/-- the sum of the powers at the signs 1 -/
def hf : List Int → Int
  | [] => 0
  | w :: ws => (if w = 1 then 1 else 0) + 2 * hf ws
theorem hf_cons (w : Int) (ws : List Int) : hf (w :: ws) = (if w = 1 then 1 else 0) + 2 * hf ws := rfl
theorem hf_rng : ∀ ws : List Int, 0 ≤ hf ws ∧ hf ws < 2 ^ ws.length
  | [] => ⟨Int.le_refl _, by decide⟩
  | w :: ws => by
    have ih := hf_rng ws
    rw [List.length_cons, Int.pow_succ]
    rw [hf_cons]
    split <;> omega
theorem hf_bit : ∀ (ws : List Int) (s : Nat), s < ws.length → hf ws / 2 ^ s % 2 = if ws.getD s 0 = 1 then 1 else 0
  | [], s, h => by cases h
  | w :: ws, 0, h => by
    show hf (w :: ws) / 1 % 2 = if w = 1 then 1 else 0
    rw [Int.ediv_one]
    rw [hf_cons]
    split <;> omega
  | w :: ws, s + 1, h => by
    have ih := hf_bit ws s (by simpa using h)
    show hf (w :: ws) / 2 ^ (s + 1) % 2 = if ws.getD s 0 = 1 then 1 else 0
    rw [← ih]
    have e : hf (w :: ws) / 2 = hf ws := by
      rw [hf_cons]
      split <;> omega
    have e2 : (2 : Int) ^ (s + 1) = 2 * 2 ^ s := by rw [Int.pow_succ, Int.mul_comm]
    rw [e2, ← Int.ediv_ediv_of_nonneg (by decide), e]
theorem map_shift (n : Nat) (f : Nat → Int) : ((List.range (n + 1)).map f).sum = f 0 + ((List.range n).map fun k => f (k + 1)).sum := by
  rw [List.range_succ_eq_map, List.map_cons, List.sum_cons, List.map_map]
  rfl
theorem map_mul (c : Int) (f : Nat → Int) : ∀ xs : List Nat, (xs.map fun k => c * f k).sum = c * (xs.map f).sum
  | [] => by simp
  | x :: xs => by rw [List.map_cons, List.sum_cons, map_mul c f xs, List.map_cons, List.sum_cons, Int.mul_add]
theorem hf_sum : ∀ ws : List Int, ((List.range ws.length).map fun k => if ws.getD k 0 = 1 then (2 : Int) ^ k else 0).sum = hf ws
  | [] => rfl
  | w :: ws => by
    rw [List.length_cons, map_shift]
    have e : (fun k => if (w :: ws).getD (k + 1) 0 = 1 then (2 : Int) ^ (k + 1) else 0) = fun k => 2 * (if ws.getD k 0 = 1 then (2 : Int) ^ k else 0) := by
      funext k
      show (if ws.getD k 0 = 1 then (2 : Int) ^ (k + 1) else 0) = _
      split
      · rw [Int.pow_succ, Int.mul_comm]
      · rfl
    rw [e, map_mul, hf_sum ws]
    rfl
theorem sum_filter (p : Nat → Bool) (f : Nat → Int) : ∀ xs : List Nat, ((xs.filter p).map f).sum = (xs.map fun k => if p k = true then f k else 0).sum
  | [] => rfl
  | x :: xs => by
    rw [List.filter_cons, List.map_cons, List.sum_cons, ← sum_filter p f xs]
    split
    · rw [List.map_cons, List.sum_cons]
    · simp
theorem hf_two : ∀ ws : List Int, (∀ w ∈ ws, Sgn w) → ((List.range ws.length).map fun k => (2 : Int) ^ k * ws.getD k 0).sum = 2 * hf ws - 2 ^ ws.length + 1
  | [], _ => rfl
  | w :: ws, h => by
    have ih := hf_two ws fun v hv => h v (List.mem_cons_of_mem _ hv)
    rw [List.length_cons, map_shift]
    have e : (fun k => (2 : Int) ^ (k + 1) * (w :: ws).getD (k + 1) 0) = fun k => 2 * ((2 : Int) ^ k * ws.getD k 0) := by
      funext k
      show (2 : Int) ^ (k + 1) * ws.getD k 0 = _
      rw [Int.pow_succ, Int.mul_comm ((2 : Int) ^ k) 2, Int.mul_assoc]
    rw [e, map_mul, ih, Int.pow_succ]
    show 1 * w + _ = _
    rw [hf_cons]
    rcases h w List.mem_cons_self with rfl | rfl
    · rw [if_pos rfl]; omega
    · rw [if_neg (by decide)]; omega
/-- the reading of a word under the telling hum -/
def rdg (ws : List Int) : Int := 2 * hf ws - 2 ^ ws.length + 1
theorem S_int (f : Nat → Int) : ∀ n, S (fun k => ((f k : Int) : Rat)) n = ((((List.range n).map f).sum : Int) : Rat)
  | 0 => rfl
  | n + 1 => by
    rw [S_succ, S_int f n, List.range_succ, List.map_append, List.sum_append, ← Rat.intCast_add]
    simp
theorem noise_telling {ls : List Rat} {ws : List Int} {n : Nat} (h1 : ls.length = n) (h2 : ws.length = n) (pos : ∀ q ∈ ls, 0 < q.num) (sg : ∀ w ∈ ws, Sgn w) : noise ls ws (telling ls n) = ((rdg ws : Int) : Rat) := by
  rw [noise_S, rdg, ← hf_two ws sg, ← S_int, h2]
  refine S_congr n fun k hk => ?_
  unfold term telling
  rw [List.getD_eq_getElem?_getD (l := List.map _ _), List.getElem?_map, List.getElem?_range hk]
  simp only [Option.map_some, Option.getD_some, Rat.intCast_mul]
  obtain ⟨l, hl⟩ := get_of (show k < ls.length by omega)
  rw [getD_of hl]
  have p := pos l (List.mem_of_getElem? hl)
  have ne : l ≠ 0 := fun z => by rw [z] at p; exact absurd p (by decide)
  have : l * (1 / l) = 1 := by
    rw [Rat.div_def, Rat.one_mul, Rat.mul_inv_cancel l ne]
  grind
theorem hf_odd {ws : List Int} (h : ws[0]? = some 1) : hf ws % 2 = 1 := by
  cases ws with
  | nil => cases h
  | cons w ws =>
    have e : w = 1 := by simpa using h
    subst e
    rw [hf_cons]
    rw [if_pos rfl]
    omega
/-- a reading 2 h - 2 ^ n + 1, h odd -/
theorem wor_odd {n : Nat} {v : Int} (h0 : 0 ≤ v) (ho : v % 2 = 1) : wor n (2 * v - 2 ^ n + 1) 1 = if v < 2 ^ n then some ((List.range n).map fun k => if v / 2 ^ k % 2 = 1 then 1 else -1) else none := by
  have p2 : (0 : Int) < 2 ^ n := Int.pow_pos (by decide)
  unfold wor worB
  have et : 2 * v - 2 ^ n + 1 + 2 ^ n - 1 = 2 * v := by omega
  rw [et]
  by_cases c : v < 2 ^ n
  · rw [if_pos c, if_neg (by simp; omega), if_neg (by omega)]
    congr 1
    refine List.map_congr_left fun k _ => ?_
    unfold bitw
    have e2 : (2 : Int) ^ (k + 1) = 2 * 2 ^ k := by rw [Int.pow_succ, Int.mul_comm]
    rw [e2, ← Int.ediv_ediv_of_nonneg (by decide), show 2 * v / 2 = v by omega]
  · rw [if_neg c, if_pos (by simp; omega)]
theorem wor_own {ws : List Int} {n : Nat} (o : WdOk n ws) : wor n (rdg ws) 1 = some ws := by
  have r := hf_rng ws
  unfold rdg
  rw [o.len] at r ⊢
  rw [wor_odd r.1 (hf_odd o.one), if_pos r.2]
  congr 1
  refine List.ext_getElem (by simp [o.len]) fun k h1 h2 => ?_
  simp only [List.getElem_map, List.getElem_range]
  rw [hf_bit ws k h2, List.getD_eq_getElem?_getD, List.getElem?_eq_getElem h2]
  simp only [Option.getD_some]
  rcases o.sg ws[k] (List.getElem_mem h2) with e | e
  · rw [e]; rfl
  · rw [e]; rfl
/-- readings that tell no word -/
theorem wor_den {n : Nat} {t b : Int} (h : b ≠ 1) : wor n t b = none := by
  unfold wor worB
  rw [if_pos (by simp [h])]
theorem wor_far {n : Nat} {t b : Int} (h : (2 : Int) ^ n ≤ t.natAbs) : wor n t b = none := by
  unfold wor worB
  rw [if_pos (by simp [h])]
theorem wor_par {n : Nat} {t b : Int} (h : (t + 2 ^ n - 1) % 2 = 1 ∨ (t + 2 ^ n - 1) / 2 % 2 = 0) : wor n t b = none := by
  unfold wor
  by_cases c : worB n t b = true
  · rw [if_pos c]
  · rw [if_neg c, if_pos h]
theorem wor_odds {ws : List Int} {n : Nat} (o : WdOk n ws) : wor n (rdg ws + 1) 1 = none ∧ wor n (rdg ws + 2) 1 = none ∧ wor n (-rdg ws) 1 = none ∧ wor n (2 ^ n + 1) 1 = none ∧ wor n (-1 - 2 ^ n) 1 = none := by
  have r := hf_rng ws
  have od := hf_odd o.one
  have p2 : (0 : Int) < 2 ^ n := Int.pow_pos (by decide)
  have pe : (2 : Int) ^ n % 2 = 0 := by
    obtain ⟨m, rfl⟩ : ∃ m, n = m + 1 := ⟨n - 1, by have := o.pos; omega⟩
    rw [Int.pow_succ]; omega
  unfold rdg
  rw [o.len] at r ⊢
  refine ⟨wor_par (by omega), wor_par (.inr (by omega)), wor_par (.inr (by omega)), wor_far (by omega), wor_far (by omega)⟩
end Hw
set_option Elab.async false
set_option linter.all false
set_option maxRecDepth 100000
set_option maxHeartbeats 2000000
/-! Defs with lambdas; what a call raises. -/
namespace Hw
open PySem PySem.Spec PyProof.Rows L2

/-- a def of the top whose body makes lambdas -/
def HasFL (g : Gm) (x : Str) (st : Stmt) : Prop := ∃ f fd, FunD g.K x x (defArgs st) (defBody st) (defScope st) [] [] f fd ∧ g.mg x = some (.ref f) ∧ LamOk g fd.code (x ++ ".<locals>.")
structure HasA (g : Gm) (x : XS g) (cH cW : Addr) : Prop extends HasX g x cH where
  fl : ∀ (i : Nat) (x : Str) (st : Stmt), ([("_law_telling", s__law_telling), ("_law_refused", s__law_refused), ("law", s_law)] : List (Str × Stmt))[i]? = some (x, st) → HasFL g x st
  gW : g.mg "WireError" = some (.ref cW)
  xW : PySem.W.exmOne g.K (.ref x.t) (.ref cW) = some true
  kV : PySem.W.kitOne g.K (.ref x.t) (.type "ValueError") = some true
  eC : ExcC g.K x.t
section
variable {g : Gm} {k : Nat} {ω ω' : Om} {r : Res}
theorem call_okL {x : Str} {st : Stmt} {as : List Sl} (N ps : List Str) (h : HasFL g x st) (Sc : FnScope N ps (defScope st))
    (hbody : ∀ (W : Wm) (cd : Value) (ql : Str), W.md = true → W.lam = some (cd, ql) → LamOk g cd ql → WS g N (defScope st) k W ω'.length (defBody st) (startR N as) ω (Fin r ω'))
    (hb : ∀ (kV doc pm : Value) (an : Option Addr) (cdv ct : Value) (us : List Value), us.length = ps.length → bindArgs (PySem.W.fnOf x x (defArgs st) (defBody st) (defScope st) .none kV doc pm an cdv ct) ⟨us, []⟩ = pure (ps.zip us))
    (hl : as.length = ps.length := by rfl) (hN : as.length ≤ N.length := by simp) (hw : ω.length = ω'.length := by rfl) : CallG g (k + 1) x as ω r ω' := by
  obtain ⟨f, fd, F, m, LO⟩ := h
  exact ⟨f, m, fd, ps, [], [], [], F.kp, F.bindsN hb, .nil, fun _ _ => .nil, by
    rw [List.map_nil, List.append_nil]
    exact def_ok F Sc hl hN hw fun W a b => hbody W _ _ a b LO⟩
end
section
variable {g : Gm} {N : List Str} {sc : Scope} {k : Nat} {W : Wm} {ρ : Rho} {ω : Om} {pos p lpos : Pos} {x : XS g} {cH cW : Addr}
/-- _law_caught(lambda: body) -/
theorem ev_caught (h : HasA g x cH cW) {params : Arguments} {body : Expr} {scope : Scope} {r : Res} {d : D} {cd : Value} {ql : Str} (hL : W.lam = some (cd, ql)) (LO : LamOk g cd ql) (hc : Caught x r d)
    (hbody : ∀ W' : Wm, W'.md = true → EvE g N scope k W' body ρ ω r ω)
    (hbind : ∀ (q : Str) (cl : List (Str × Addr)) (pm cv ctv : Value), bindArgs (PySem.W.kla_fn "<lambda>" q params body scope cl pm cv ctv) ⟨[], []⟩ = pure [] := by exact fun _ _ _ _ _ => rfl) (hdef : ∀ env : Env, defaultsOf params env = ([], []) := by exact fun _ => rfl)
    (hls : LamX.lamSB sc scope = true := by decide +kernel) (hg : glB sc "_law_caught" = true := by decide +kernel) :
    EvE g N sc (k + 2) W (.Call (.Name "_law_caught" p) [.Lambda params body scope lpos] [] pos) ρ ω (.val d) ω :=
  ev_lam (h.fn 54 "_law_caught" s__law_caught [] rfl) (fun X hK hm f cdg q => caught_gives h.xo hK hm) hL LO hbody (fun S M H Q tl lv hq ht => tt_caught hc S M H Q tl lv hq ht) ⟨rfl, rfl, rfl, by decide +kernel, rfl, by decide +kernel, by decide +kernel⟩ rfl (.inl (by decide +kernel))
    (fun _ _ _ _ _ _ us hl => match us, hl with | [_], _ => rfl) hbind hdef hls hg (by decide)
/-- _law_base(lambda: body), body raises BadTests -/
theorem ev_base (h : HasA g x cH cW) {params : Arguments} {body : Expr} {scope : Scope} {fs : List (Str × D)} {cd : Value} {ql : Str} (hL : W.lam = some (cd, ql)) (LO : LamOk g cd ql)
    (hbody : ∀ W' : Wm, W'.md = true → EvE g N scope k W' body ρ ω (.exc ⟨x.t, some fs⟩) ω)
    (hbind : ∀ (q : Str) (cl : List (Str × Addr)) (pm cv ctv : Value), bindArgs (PySem.W.kla_fn "<lambda>" q params body scope cl pm cv ctv) ⟨[], []⟩ = pure [] := by exact fun _ _ _ _ _ => rfl) (hdef : ∀ env : Env, defaultsOf params env = ([], []) := by exact fun _ => rfl)
    (hls : LamX.lamSB sc scope = true := by decide +kernel) (hg : glB sc "_law_base" = true := by decide +kernel) :
    EvE g N sc (k + 2) W (.Call (.Name "_law_base" p) [.Lambda params body scope lpos] [] pos) ρ ω (.val (.bl true)) ω :=
  ev_lam (h.fn 53 "_law_base" s__law_base [] rfl) (fun X hK hm f cdg q => base_gives h.li h.eC h.gW h.xW h.kV hK hm) hL LO hbody (fun S M H Q tl lv hq ht => tt_base (.inl ⟨fs, rfl, rfl⟩) S M H Q tl lv hq ht) ⟨rfl, rfl, rfl, by decide +kernel, rfl, by decide +kernel, by decide +kernel⟩ rfl (.inl (by decide +kernel))
    (fun _ _ _ _ _ _ us hl => match us, hl with | [_], _ => rfl) hbind hdef hls hg (by decide)
end
theorem ne_f {d e : D} (h : d = e) : false = true ↔ d ≠ e := ⟨fun z => (nomatch z), fun z => absurd h z⟩
theorem eq_t {d e : D} (h : d = e) : true = true ↔ d = e := ⟨fun _ => h, fun _ => rfl⟩
theorem eq_f {d e : D} (h : d ≠ e) : false = true ↔ d = e := ⟨fun z => (nomatch z), fun z => absurd z h⟩
theorem ne_t {d e : D} (h : d ≠ e) : true = true ↔ d ≠ e := ⟨fun _ => h, fun _ => rfl⟩
theorem sh_nums (ns : List Int) : Sh 1 (.tup (nums ns)) := .tup fun d hd => by
  obtain ⟨n, _, rfl⟩ := List.mem_map.mp hd
  exact .int
theorem sh_lots (ll : List (List Int)) : Sh 2 (.tup (lots ll)) := .tup fun d hd => by
  obtain ⟨l, _, rfl⟩ := List.mem_map.mp hd
  exact sh_nums l
theorem sh_hums (hss : List (List Rat)) : Sh 3 (.tup (hss.map hum)) := .tup fun d hd => by
  obtain ⟨l, _, rfl⟩ := List.mem_map.mp hd
  exact sh_hum l
theorem sh_opt (o : Option (List Int)) : Sh 1 (optW o) := by
  cases o with
  | none => exact .non
  | some ws => exact sh_nums ws
end Hw
set_option Elab.async false
set_option linter.all false
set_option maxRecDepth 100000
set_option maxHeartbeats 2000000
/-! The walks: the telling hum is read back. -/
namespace Hw
open PySem PySem.Spec PyProof.Rows L2

theorem ev_line_ok {n : Nat} (h1 : 1 ≤ n) (h2 : n ≤ 24) : LnOk (evL n) (evM n) := by
  refine ⟨by simp [evL, evM], by simp [evL]; omega, by simp [evL]; omega, fun q hq => ?_, fun i p q e1 e2 => ?_, fun q hq => ?_, fun q hq => ?_⟩
  · obtain ⟨k, _, rfl⟩ := List.mem_map.mp hq
    decide
  · unfold evM at e1 e2
    rw [List.getElem?_map] at e1 e2
    cases a : (List.range n)[i]? with
    | none => rw [a] at e1; cases e1
    | some i' =>
      cases b : (List.range n)[i + 1]? with
      | none => rw [b] at e2; cases e2
      | some j' =>
        rw [a] at e1
        rw [b] at e2
        cases e1
        cases e2
        have ha : i' = i := by
          rw [List.getElem?_range (by have := (List.getElem?_eq_some_iff.mp a).1; simpa using this)] at a
          exact (Option.some.inj a).symm
        have hb : j' = i + 1 := by
          rw [List.getElem?_range (by have := (List.getElem?_eq_some_iff.mp b).1; simpa using this)] at b
          exact (Option.some.inj b).symm
        subst ha hb
        exact Rat.intCast_lt_intCast.mpr (by omega)
  · obtain ⟨k, _, rfl⟩ := List.mem_map.mp hq
    exact Rb.int (i := 1) (by show (1 : Int).natAbs < 2 ^ 20; decide)
  · obtain ⟨k, hk, rfl⟩ := List.mem_map.mp hq
    have := List.mem_range.mp hk
    exact Rb.mono (n := 20) (Rb.int (i := (k : Int)) (by show Int.natAbs _ < 2 ^ 20; omega)) (by decide)
/-- what a drawn line is -/
structure DrOk (h : Hd) (n : Nat) (ls ms : List Rat) : Prop where
  hd : Hok h
  ln : LnOk ls ms
  len : ls.length = n
theorem line_ok {h : Hd} (o : Hok h) {n : Nat} (h1 : 1 ≤ n) (h2 : n ≤ 24) : DrOk (h.line n).2.2 n (h.line n).1 (h.line n).2.1 := by
  have o1 := o.tk (m := 3) (by decide)
  unfold Hd.line
  by_cases c : (h.tk 3).1 = 0
  · rw [if_pos c]
    exact ⟨o1, ev_line_ok h1 h2, by simp [evL]⟩
  · rw [if_neg c]
    have s := share_rng (h.tk 3).2
    have k := lsAt_ok (ls0_ok o1) (s := (h.tk 3).2.share) (by omega) n
    have l := lsAt_len (h.tk 3).2.share (h.tk 3).2.ls0 n
    have l0 : (h.tk 3).2.ls0.ls.length = 0 := rfl
    generalize lsAt (h.tk 3).2.share (h.tk 3).2.ls0 n = L at k l ⊢
    have hl : L.ls.length = n := by omega
    have hm := k.len
    refine ⟨k.hd, ⟨k.len, (by show 1 ≤ L.ls.length; omega), (by show L.ls.length ≤ 24; omega), k.gt, fun i p q e1 e2 => k.inc i p q ?_ ?_, k.bl, fun q hq => (k.bm q (List.mem_append_left _ hq)).mono (by omega)⟩, hl⟩
    · rw [List.getElem?_append_left (List.getElem?_eq_some_iff.mp e1).1]; exact e1
    · rw [List.getElem?_append_left (List.getElem?_eq_some_iff.mp e2).1]; exact e2
theorem rb_inv {l : Rat} {c : Nat} (p : 0 < l.num) (b : Rb c l) : Rb c (1 / l) ∧ 1 / l = mkRat (l.den : Int) l.num.toNat := by
  have e : l.num = (l.num.toNat : Int) := by omega
  have e2 : 1 / l = mkRat (l.den : Int) l.num.toNat := by
    rw [Rat.div_def, Rat.inv_def, Rat.one_mul]
    conv => lhs; rw [e]
    rfl
  refine ⟨?_, e2⟩
  rw [e2]
  refine Rb.mk (by omega) b.2 ?_
  rw [← e]
  exact b.1
theorem tel_mk {l : Rat} (p : 0 < l.num) (k : Nat) : mkRat ((2 : Int) ^ k * l.den) l.num.toNat = ((2 ^ k : Int) : Rat) * (1 / l) := by
  have e2 : 1 / l = mkRat (l.den : Int) l.num.toNat := by
    have e : l.num = (l.num.toNat : Int) := by omega
    rw [Rat.div_def, Rat.inv_def, Rat.one_mul]
    conv => lhs; rw [e]
    rfl
  have e3 : ((2 ^ k : Int) : Rat) = mkRat (2 ^ k) 1 := by rw [Rat.mkRat_one]
  rw [e2, e3, Rat.mkRat_mul_mkRat, Nat.one_mul]
theorem tel_ok {ls ms : List Rat} {n : Nat} (o : LnOk ls ms) (ln : ls.length = n) : HmOk n (telling ls n) := by
  refine ⟨by simp [telling], fun q hq => ?_⟩
  obtain ⟨s, hs, rfl⟩ := List.mem_map.mp hq
  have hs := List.mem_range.mp hs
  obtain ⟨l, hl⟩ := get_of (show s < ls.length by omega)
  rw [getD_of hl]
  have le := o.le
  have b1 := (rb_inv (o.gt l (List.mem_of_getElem? hl)) (o.bl l (List.mem_of_getElem? hl))).1
  have b2 : Rb 30 ((2 ^ s : Int) : Rat) := Rb.int ((pow_bt s).mono (by omega))
  exact (b2.mul b1).mono (by decide)
theorem rat_half (r : Int) : rat (mkRat (r * 2 + 1) 2) = .tup [.int (r * 2 + 1), .int 2] ∧ (mkRat (r * 2 + 1) 2).den ≠ 1 := by
  have g : Int.gcd (r * 2 + 1) ((2 : Nat) : Int) = 1 := by
    rw [Int.gcd_comm]
    have : Int.gcd ((2 : Nat) : Int) (r * 2 + 1) = Int.gcd 2 1 := by
      rw [show r * 2 + 1 = 1 + 2 * r by omega]
      exact Int.gcd_add_mul_left_right 2 1 r
    rw [this]
    decide
  obtain ⟨e1, e2⟩ := mkRat_eqs (r * 2 + 1) (b := 2) (by decide)
  rw [g] at e1 e2
  refine ⟨?_, fun z => ?_⟩
  · rw [rat_mk (by decide), g]
    simp
  · rw [z] at e2
    exact absurd e2 (by decide)
theorem sh_map {α : Type} (xs : List α) (q : α → Rat) : Sh 2 (.tup (xs.map fun a => rat (q a))) := .tup fun d hd => by
  obtain ⟨a, _, rfl⟩ := List.mem_map.mp hd
  exact sh_rat _
def bitd (v : Int) (k : Nat) : Int := if v / 2 ^ k % 2 = 1 then 1 else -1
section
variable {g : Gm} {x : XS g} {cH cW : Addr} (h : HasA g x cH cW)
include h
/-- the first half: the hum, the reading -/
theorem tell_top {hd : Hd} (o : Hok hd) : ∃ n ls ms ws hd', WdOk n ws ∧ LnOk ls ms ∧ ls.length = n ∧ Hok hd' ∧ ∀ (W : Wm) (P : Out → Prop), W.md = true →
    WS g ["_law_hand_here", "_law_count_here", "_law_lengths", "_law_marks", "_law_word_here", "_law_line_here", "_law_told", "_law_half", "_law_reading", "_law_odd", "_law_more", "_law_due", "_law_k"] (defScope s__law_telling) 5 W 1 ((defBody s__law_telling).drop 8) [some (.mu 0), some (.dat (.int n)), some (.dat (hum ls)), some (.dat (hum ms)), some (.dat (.tup (nums ws))), some (.dat (line ls ms)), some (.dat (.tup (rats (telling ls n)))), some (.dat (.int (hf ws))), some (.dat (.int (rdg ws))), none, none, none, none] [hdD hd'] P →
    WS g ["_law_hand_here", "_law_count_here", "_law_lengths", "_law_marks", "_law_word_here", "_law_line_here", "_law_told", "_law_half", "_law_reading", "_law_odd", "_law_more", "_law_due", "_law_k"] (defScope s__law_telling) 5 W 1 (defBody s__law_telling) (startR ["_law_hand_here", "_law_count_here", "_law_lengths", "_law_marks", "_law_word_here", "_law_line_here", "_law_told", "_law_half", "_law_reading", "_law_odd", "_law_more", "_law_due", "_law_k"] [.mu 0]) [hdD hd] P := by
  have cc := (c__law_count h.1.1 o).mono (show 3 ≤ 5 by decide)
  have cr := Hd.count_rng hd
  have co := o.count
  generalize hd.count.1 = nn at cc cr
  generalize hd.count.2 = hd1 at cc co
  obtain ⟨n, rfl⟩ : ∃ n : Nat, nn = (n : Int) := ⟨nn.toNat, by omega⟩
  have n1 : 1 ≤ n := by omega
  have n24 : n ≤ 24 := by omega
  have cl := (c__law_line h.1.1 co n24).mono (show 4 ≤ 5 by decide)
  have d := line_ok co n1 n24
  generalize (hd1.line n).1 = ls at cl d
  generalize (hd1.line n).2.1 = ms at cl d
  generalize (hd1.line n).2.2 = hd2 at cl d
  have cw := (c__law_word h.1.1 d.hd n24).mono (show 3 ≤ 5 by decide)
  have wok := Hd.wd_ok (h := hd2) n1 n24
  have o3 := d.hd.wdH n
  generalize hd2.wd n = ws at cw wok
  generalize hd2.wdH n = hd3 at cw o3
  have ln := d.len
  have lo := d.ln
  refine ⟨n, ls, ms, ws, hd3, wok, lo, ln, o3, fun W P hm hr => ?_⟩
  have wl := wok.len
  have eu : (1 : Int) * 2 ^ ((n : Int)).toNat = 2 ^ n := by rw [Int.toNat_natCast, Int.one_mul]
  refine ws_set 1 (ev_callH 0 rfl cc ea_nil) ?_
  refine ws_asg (ρ1 := [some (.mu 0), some (.dat (.int n)), some (.dat (hum ls)), some (.dat (hum ms)), none, none, none, none, none, none, none, none, none]) (ev_callH 0 rfl cl (ea_cons (ev_var 1 rfl rfl) ea_nil)) (eg_tup (egs_cons 2 rfl (by decide +kernel) (egs_cons 3 rfl (by decide +kernel) egs_nil))) ?_
  refine ws_set 4 (ev_callH 0 rfl cw (ea_cons (ev_var 1 rfl rfl) ea_nil)) ?_
  obtain ⟨fI, fdI, FI, MI⟩ := h.mkL
  refine ws_set 5 (d := line ls ms) (ev_make h.li FI MI h.gL (c_check_lengths h.1.1 lo (.tup _) (.tup _)) (ea_cons (ev_var 2 rfl rfl) (ea_cons (ev_var 3 rfl rfl) ea_nil))) ?_
  refine ws_set 6 (ev_call ((c_telling_hum h.1 lo ln).mono (by decide)) (ea_cons (ev_var 5 rfl rfl) ea_nil)) ?_
  refine ws_ifF (et_w (ew_or (et_cmp (ev_var 6 rfl rfl) (ev_cty h.li.tuple (ea_cons (ev_lcM 12 [("_law_k", 12)] (List.range n) (fun s => D.int (0 + (s : Int))) (fun s => rat (((2 ^ s : Int) : Rat) * (1 / ls.getD s 0))) ?_ (fun s hs => ?_) (by simp; omega)) ea_nil) fn_tuple_l) (cmp_neD (sh_hum _) (sh_map (List.range n) (fun s => ((2 ^ s : Int) : Rat) * (1 / ls.getD s 0))) (ne_f (by simp [telling, hum, rats])))) (ew_or1 (et_nF (et_val (ev_call ((c__law_is_row h.1.1 (by simp [telling]) (by omega)).mono (by decide)) (ea_cons (ev_var 6 rfl rfl) (ea_cons (ev_var 1 rfl rfl) ea_nil)))))))) ?_
  · have e : (List.range n).map (fun (s : Nat) => D.int (0 + (s : Int))) = (ups 0 ((n : Int)).toNat).map D.int := by
      unfold ups
      rw [List.map_map]
      simp
    rw [e]
    exact (ei_r1 h.li (ea_cons (ev_var 1 rfl rfl) ea_nil) (by omega))
  · have hs := List.mem_range.mp hs
    obtain ⟨l, hl⟩ := get_of (show s < ls.length by omega)
    have hl' : (rats ls)[((0 : Int) + (s : Int)).toNat]? = some (rat l) := by rw [int_nat]; exact map_get hl
    have bl := lo.bl l (List.mem_of_getElem? hl)
    have gl := lo.gt l (List.mem_of_getElem? hl)
    rw [getD_of hl]
    have es : (1 : Int) * 2 ^ ((0 : Int) + (s : Int)).toNat = 2 ^ s := by rw [int_nat]; omega
    have c1 := c__law_ratio h.1.1 ((2 : Int) ^ s * l.den) l.num.toNat (by omega) ((show Bt 20 ((l.num.toNat : Nat) : Int) by rw [show ((l.num.toNat : Nat) : Int) = l.num by omega]; exact bl.1).mono (by decide))
    rw [tel_mk gl, show ((l.num.toNat : Nat) : Int) = l.num by omega] at c1
    exact (ev_call (by rw [es]; exact c1.mono (show 2 ≤ 5 by decide)) (ea_cons (ev_bin (ev_bin ev_int (ev_var 12 rfl rfl) (bin_shl (⟨by omega, by omega, by decide⟩))) (ev_ix (ev_ix (ev_var 2 rfl rfl) (ev_var 12 rfl rfl) (ix_tupN (by omega) hl')) ev_int (ix_tupN (by decide) rfl)) (bin_mul ((by rw [es]; exact (pow_bt s).mono (show s + 1 ≤ 30 by omega))) bl.2 (by decide))) (ea_cons (ev_ix (ev_ix (ev_var 2 rfl rfl) (ev_var 12 rfl rfl) (ix_tupN (by omega) hl')) ev_int (ix_tupN (by decide) rfl)) ea_nil)))
  have eh : ((List.range n).filter fun k => decide (ws.getD k 0 = 1)).map (fun k => (2 : Int) ^ k) = ((List.range n).filter fun k => decide (ws.getD k 0 = 1)).map (fun k => (2 : Int) ^ k) := rfl
  refine ws_set 7 (d := .int (hf ws)) (EvE.is (ev_cb h.li.sum (ea_cons (EvE.is (ev_lcF 12 [("_law_k", 12)] (List.range n) (fun s => D.int (0 + (s : Int))) (fun s => decide (ws.getD s 0 = 1)) (fun s => D.int ((2 : Int) ^ s)) ?_ (fun s hs => ?_) (fun s hs _ => ?_) (by simp; omega)) (r' := .val (.lst ((((List.range n).filter fun k => decide (ws.getD k 0 = 1)).map (fun k => (2 : Int) ^ k)).map D.int))) (by rw [List.map_map]; rfl)) ea_nil) fn_sum) (by rw [sum_filter, ← hf_sum ws, wl]; simp)) ?_
  · have e : (List.range n).map (fun (s : Nat) => D.int (0 + (s : Int))) = (ups 0 ((n : Int)).toNat).map D.int := by
      unfold ups
      rw [List.map_map]
      simp
    rw [e]
    exact (ei_r1 h.li (ea_cons (ev_var 1 rfl rfl) ea_nil) (by omega))
  · have hs := List.mem_range.mp hs
    obtain ⟨w, hw⟩ := get_of (show s < ws.length by omega)
    have hw' : (nums ws)[((0 : Int) + (s : Int)).toNat]? = some (.int w) := by rw [int_nat]; exact map_get hw
    rw [getD_of hw]
    exact (et_cmp (ev_ix (ev_var 4 rfl rfl) (ev_var 12 rfl rfl) (ix_tupN (by omega) hw')) ev_int cmp_eqI)
  · have es : (1 : Int) * 2 ^ ((0 : Int) + (s : Int)).toNat = 2 ^ s := by rw [int_nat]; omega
    exact EvE.is (ev_bin ev_int (ev_var 12 rfl rfl) (bin_shl (⟨by omega, by have := List.mem_range.mp hs; omega, by decide⟩))) (by rw [es])
  have hr0 := hf_rng ws
  rw [wl] at hr0
  have bh : Bt 30 (hf ws) := by
    show (hf ws).natAbs < 2 ^ 30
    have : (2 : Int) ^ n ≤ 2 ^ 24 := by exact_mod_cast Nat.pow_le_pow_right (by decide : 0 < 2) n24
    omega
  refine ws_set 8 (d := .int (rdg ws)) (EvE.is (ev_bin (ev_bin (ev_bin (ev_var 7 rfl rfl) ev_int (bin_mul bh (btd (by decide)) (by decide))) (ev_bin ev_int (ev_var 1 rfl rfl) (bin_shl (⟨by omega, by omega, by decide⟩))) bin_sub) ev_int bin_add) (by rw [eu, rdg, wl, Int.mul_comm])) ?_
  exact WS.cast hr (by rfl) (by rfl)
end
end Hw
set_option Elab.async false
set_option linter.all false
set_option maxRecDepth 100000
set_option maxHeartbeats 2000000
/-! The walks: long even lines. -/
namespace Hw
open PySem PySem.Spec PyProof.Rows L2

structure HasB (g : Gm) (x : XS g) (cH cW : Addr) : Prop extends HasA g x cH cW where
  ev : ∃ f fd, FunD g.K "even" "Line.even" (defArgs s_Line_even) (defBody s_Line_even) (defScope s_Line_even) [] [] f fd ∧ EvenOk g f
/-- by places -/
theorem by_place {α : Type} (L : List α) (a0 : α) (p : α → Bool) : ((List.range L.length).filter fun k => p (L.getD k a0)).map (fun k => L.getD k a0) = L.filter p := by
  conv => rhs; rw [← range_getD L a0]
  rw [List.filter_map]
  rfl
def sumI (ws row : List Int) : Int := ((List.range ws.length).map fun k => ws.getD k 0 * row.getD k 0).sum
theorem noise_even {ws row : List Int} {n : Nat} (h1 : ws.length = n) (h2 : row.length = n) : noise (evL n) ws (row.map fun i => ((i : Int) : Rat)) = ((sumI ws row : Int) : Rat) := by
  rw [noise_S, sumI, ← S_int]
  refine S_congr _ fun k hk => ?_
  unfold term
  obtain ⟨i, hi⟩ := get_of (show k < row.length by omega)
  have e1 : (evL n).getD k 0 = 1 := by
    unfold evL
    rw [List.getD_eq_getElem?_getD, List.getElem?_map, List.getElem?_range (by omega)]
    rfl
  have e2 : (row.map fun i => ((i : Int) : Rat)).getD k 0 = ((i : Int) : Rat) := getD_of (by rw [List.getElem?_map, hi]; rfl)
  rw [e1, e2, getD_of hi, Rat.intCast_mul]
  grind
theorem int_eq {i j : Int} : decide ([((i : Int) : Rat)] = [((j : Int) : Rat)]) = decide (i = j) := by
  rw [Bool.eq_iff_iff, decide_eq_true_iff, decide_eq_true_iff]
  constructor
  · intro e
    injection e with e _
    exact Rat.intCast_inj.mp e
  · intro e; rw [e]
def two (n : Nat) (xs : List Int) : List (List Int) := xs.flatMap fun p => (ups (p + 1) ((n : Int) - (p + 1)).toNat).map fun q => [p, q]
theorem fnd1 (n : Nat) : fnd n 1 = [[]] ++ (ups 1 ((n : Int) - 1).toNat).map fun p => [p] := by
  show [[]] ++ nxt n [[]] = _
  unfold nxt
  rw [List.flatMap_cons, List.flatMap_nil, List.append_nil]
  rfl
theorem fnd2 (n : Nat) : fnd n 2 = fnd n 1 ++ two n (ups 1 ((n : Int) - 1).toNat) := by
  show fnd n 1 ++ nxt n (nxt n [[]]) = _
  congr 1
  unfold two nxt
  rw [List.flatMap_cons, List.flatMap_nil, List.append_nil]
  show ((ups 1 ((n : Int) - 1).toNat).map fun p => [p]).flatMap _ = _
  rw [List.flatMap_map]
  rfl
theorem fits_even {ws row : List Int} {n m : Nat} {r : Int} (hn : ws.length = n) (h2 : row.length = n) (h0 : 0 < n) : (fnd n m).filter (fun l => decide (sumI (wrongV ws l) row = r)) = fits (evL n) ws [row.map fun i => ((i : Int) : Rat)] [((r : Int) : Rat)] n m := by
  rw [← fits_eq hn h0]
  refine List.filter_congr fun l hl => ?_
  rw [List.map_cons, List.map_nil, noise_even (by simp [wrongV, hn]) h2, int_eq]
section
variable {g : Gm} {x : XS g} {cH cW : Addr} (h : HasB g x cH cW)
include h
theorem c_even {n : Nat} (h1 : 1 ≤ n) (h2 : n ≤ 24) : ∃ f, EvenOk g f ∧ CallF g 6 f [.dat (.int n)] [] (.val (line (evL n) (evM n))) [] := by
  obtain ⟨f, fd, F, T⟩ := h.ev
  refine ⟨f, T, fd, ["count"], [], [], [], F.kp, F.bindsN (fun _ _ _ _ _ _ us hl => match us, hl with | [_], _ => rfl), .nil, fun _ _ => .nil, ?_⟩
  rw [List.map_nil, List.append_nil]
  refine def_ok (N := ["count", "number"]) F ⟨rfl, rfl, rfl, by decide +kernel, rfl, by decide +kernel, by decide +kernel⟩ rfl (by simp) rfl fun W hm _ => ?_
  refine ws_ifF (EvT.is (et_not (et_val (ev_call ((c_whole3 h.1.1.1 (ty_int n) (.int 1) (.int 24)).mono (by decide)) (ea_cons (ev_var 0 rfl rfl) (ea_cons ev_int (ea_cons (ev_glo h.g_MOST_SECTIONS) ea_nil)))))) (by rw [whole_rng]; simp; omega)) ?_
  obtain ⟨fI, fdI, FI, MI⟩ := h.mkL
  have er : (ups 0 ((n : Int)).toNat).length = n := by simp [ups_len]
  have lo := ev_line_ok h1 h2
  refine ws_ret (ev_make h.li FI MI h.gL (d1 := .lst (rats (evL n))) (d2 := .lst (rats (evM n))) (c_check_lengths h.1.1.1 lo (.lst _) (.lst _)) (ea_cons (EvE.is (ev_lcM 1 [("number", 1)] (ups 0 ((n : Int)).toNat) D.int (fun _ => .tup [.int 1, .int 1]) (ei_r1 h.li (ea_cons (ev_var 0 rfl rfl) ea_nil) (by omega)) (fun k hk => (ev_glo h.g_ONE)) (by omega)) ?_) (ea_cons (EvE.is (ev_lcM 1 [("number", 1)] (ups 0 ((n : Int)).toNat) D.int (fun k => .tup [.int k, .int 1]) (ei_r1 h.li (ea_cons (ev_var 0 rfl rfl) ea_nil) (by omega)) (fun k hk => (ev_tup (ea_cons (ev_var 1 rfl rfl) (ea_cons ev_int ea_nil)))) (by omega)) ?_) ea_nil))) ⟨rfl, rfl⟩
  · unfold evL ups rats
    simp only [List.map_map, Int.toNat_natCast]
    rfl
  · unfold evM ups rats
    simp only [List.map_map, Int.toNat_natCast]
    have e1 : ∀ k : Nat, rat (((k : Int)) : Rat) = .tup [.int (0 + (k : Int)), .int 1] := fun k => by rw [rat_int, Int.zero_add]
    exact congrArg (fun z => Res.val (D.lst z)) (List.map_congr_left fun k _ => (e1 k).symm)
end
end Hw
set_option Elab.async false
set_option linter.all false
set_option maxRecDepth 100000
set_option maxHeartbeats 2000000
/-! The walks: long even lines. -/
namespace Hw
open PySem PySem.Spec PyProof.Rows L2

section
variable {g : Gm} {N : List Str} {sc : Scope} {k : Nat} {W : Wm} {m : Nat} {ρ ρ1 : Rho} {ω ω1 ω2 : Om} {P : Out → Prop} {rest : List Stmt} {pos : Pos} {e : Expr}
theorem EvE.is2 {r r' : Res} (h : EvE g N sc k W e ρ ω r ω1) (q : r = r') (q2 : ω1 = ω2) : EvE g N sc k W e ρ ω r' ω2 := q ▸ q2 ▸ h
/-- several names, one of them a cell, from a tuple that is made -/
theorem ws_asgC {tg : Expr} {d : D} {is : List Nat} (he : EvE g N sc k W e ρ ω (.val d) ω1) (hg : EvG g N sc k W (fun _ => true) tg d ρ ρ1 is) (hr : WS g N sc k W m rest ρ1 ω1 P)
    (hs : ∀ env : Env, swapsWithSole [tg] e pos.line env = pure false := by intro _; rfl) (hw : swappedStores [tg] e (envD sc) = pure none := by rfl) (h1 : ∀ env : Env, (assignEach [tg] env).map (·.2) = [assign tg env] := by intro _; rfl) :
    WS g N sc k W m (.Assign [tg] e pos :: rest) ρ ω P := fun X B S M σ H D E q => by
  refine ss_of (pss_cons (ps_asg (pe_s X e) (pg_s X tg) (hs X.env) (by rw [swappedStores_sc (e' := envD sc) B.hS]; exact hw) (h1 X.env)) (pss_s X rest)) ?_
  refine he X B.toBd S M σ H E _ fun v H1 s1 o1 x1 => ?_
  exact hg X B.toBd (fun x _ => B.fn x) S M ω1 σ H1 v (E.go s1 o1) x1 _ fun σ' E' _ => ok_rest B hr q (.refl _ _ _) s1 E'
end
theorem map_getD {n : Nat} {xs : List Int} (e : xs.length = n) : (List.range n).map (fun k => D.int (xs.getD k 0)) = nums xs := by
  subst e
  have := congrArg (List.map D.int) (range_getD xs 0)
  rw [List.map_map] at this
  exact this
theorem two_more {n : Nat} {xs : List Int} {i : Nat} {p : Int} (e : xs[i]? = some p) : two n (xs.take (i + 1)) = two n (xs.take i) ++ (ups (p + 1) ((n : Int) - (p + 1)).toNat).map fun q => [p, q] := by
  unfold two
  rw [take_more e, List.flatMap_append, List.flatMap_cons, List.flatMap_nil, List.append_nil]
theorem two_len {n : Nat} (hn : n ≤ 24) {xs : List Int} (h : ∀ p ∈ xs, 1 ≤ p) : (two n xs).length ≤ xs.length * 24 := flatMap_len _ 24 xs fun p hp => by
  rw [List.length_map, ups_len]
  have := h p hp
  omega
theorem ups_at {lo : Int} {m i : Nat} (h : i < m) : (ups lo m)[i]? = some (lo + (i : Int)) := by
  unfold ups
  rw [List.getElem?_map, List.getElem?_range h]
  rfl
theorem wrongV_len (ws l : List Int) : (wrongV ws l).length = ws.length := by simp [wrongV]
theorem wrongV_sgn {ws l : List Int} (sg : ∀ w ∈ ws, Sgn w) : ∀ w ∈ wrongV ws l, Sgn w := fun w hw => by
  obtain ⟨k, hk, rfl⟩ := List.mem_map.mp hw
  obtain ⟨a, ha⟩ := get_of (show k < ws.length by simpa using hk)
  rw [getD_of ha]
  exact sgn_mul (sg a (List.mem_of_getElem? ha)) (sgnAt_ok l _)
section
variable {g : Gm} {x : XS g} {cH cW : Addr} (h : HasB g x cH cW)
include h
theorem long_top {hd : Hd} (o : Hok hd) : ∃ n ws row l hd', WdOk n ws ∧ row.length = n ∧ (∀ i ∈ row, Bt 20 i) ∧ l ∈ fnd n 2 ∧ Hok hd' ∧ ∀ (W : Wm) (P : Out → Prop), W.md = true →
    WS g ["_law_hand_here", "_law_count_here", "_law_word_here", "_law_row", "_law_lots_here", "_law_one", "_law_actual", "_law_told", "_law_reading", "_law_line_here", "_law_tests", "_law_due", "_law_always", "_law_never", "_law_k", "_law_other", "_law_lot", "_law_sign", "_law_entry", "_law_pole"] (defScope s__law_long) 8 W 1 ((defBody s__law_long).drop 5) [some (.mu 0), some (.dat (.int n)), some (.dat (.tup (nums ws))), some (.dat (.lst (nums row))), some (.dat (.lst (lots (fnd n 2)))), none, some (.dat (lot l)), none, none, none, none, none, none, none, none, none, none, none, none, none] [hdD hd'] P →
    WS g ["_law_hand_here", "_law_count_here", "_law_word_here", "_law_row", "_law_lots_here", "_law_one", "_law_actual", "_law_told", "_law_reading", "_law_line_here", "_law_tests", "_law_due", "_law_always", "_law_never", "_law_k", "_law_other", "_law_lot", "_law_sign", "_law_entry", "_law_pole"] (defScope s__law_long) 8 W 1 (defBody s__law_long) (startR ["_law_hand_here", "_law_count_here", "_law_word_here", "_law_row", "_law_lots_here", "_law_one", "_law_actual", "_law_told", "_law_reading", "_law_line_here", "_law_tests", "_law_due", "_law_always", "_law_never", "_law_k", "_law_other", "_law_lot", "_law_sign", "_law_entry", "_law_pole"] [.mu 0]) [hdD hd] P := by
  have h0 := h.1.1.1
  have o1 := o.tk (m := 12) (by decide)
  have r1 := Hd.tk_rng (h := hd) (m := 12) (by decide)
  have cp := (c__law_take h0 o (m := 12) (by decide) (Bt.mono (btd (by decide)) (by decide))).mono (show 2 ≤ 8 by decide)
  generalize (hd.tk 12).1 = v at r1 cp
  generalize (hd.tk 12).2 = hd1 at o1 cp
  obtain ⟨n, hn⟩ : ∃ n : Nat, 13 + v = (n : Int) := ⟨(13 + v).toNat, by omega⟩
  have n1 : 13 ≤ n := by omega
  have n24 : n ≤ 24 := by omega
  have cw := (c__law_word h0 o1 n24).mono (show 3 ≤ 8 by decide)
  have wok := Hd.wd_ok (h := hd1) (n := n) (by omega) n24
  have o2 := o1.wdH n
  generalize hd1.wd n = ws at cw wok
  generalize hd1.wdH n = hd2 at cw o2
  have er : (ups 0 ((n : Int)).toNat).length = n := by simp [ups_len]
  have o3 := o2.dr (m := 7) (by decide) n
  have fl := fnd_len n24 2 (by decide)
  have f0 : 0 < (fnd n 2).length := by rw [fnd2, fnd1]; simp
  have cq := (c__law_take h0 o3 (m := (((lots (fnd n 2)).length : Nat) : Int)) (by simp; omega) (Bt.mono (btd (by simp; omega)) (by decide))).mono (show 2 ≤ 8 by decide)
  have r2 := Hd.tk_rng (h := hd2.dr 7 n) (m := (((lots (fnd n 2)).length : Nat) : Int)) (by simp; omega)
  have o4 := o3.tk (m := (((lots (fnd n 2)).length : Nat) : Int)) (by simp; omega)
  generalize ((hd2.dr 7 n).tk (((lots (fnd n 2)).length : Nat) : Int)).1 = u at r2 cq
  generalize ((hd2.dr 7 n).tk (((lots (fnd n 2)).length : Nat) : Int)).2 = hd4 at o4 cq
  obtain ⟨l, hl⟩ := get_of (show u.toNat < (fnd n 2).length by simp at r2; omega)
  refine ⟨n, ws, (List.range n).map fun i => hd2.dv 7 i - 3, l, hd4, wok, by simp, fun i hi => ?_, List.mem_of_getElem? hl, o4, fun W P hm hr => ?_⟩
  · obtain ⟨k, _, rfl⟩ := List.mem_map.mp hi
    have := Hd.dv_rng (h := hd2) (m := 7) (by decide) k
    exact btd (by omega)
  refine ws_set 1 (d := .int n) (EvE.is (ev_bin ev_int (ev_callH 0 rfl cp (ea_cons ev_int ea_nil)) bin_add) (by rw [hn])) ?_
  refine ws_asgC (ρ1 := [some (.mu 0), some (.dat (.int n)), some (.dat (.tup (nums ws))), some (.dat (.lst (nums ((List.range n).map fun i => hd2.dv 7 i - 3)))), none, none, none, none, none, none, none, none, none, none, none, none, none, none, none, none]) (d := .tup [.tup (nums ws), .lst (nums ((List.range n).map fun i => hd2.dv 7 i - 3))]) (ω1 := [hdD (hd2.dr 7 n)]) (ev_tup (ea_cons (ev_callH 0 rfl cw (ea_cons (ev_var 1 rfl rfl) ea_nil)) (ea_cons ?_ ea_nil))) (eg_tup (egs_cons 2 rfl (by decide +kernel) (egs_cons 3 rfl (by decide +kernel) egs_nil))) ?_
  · refine EvE.is2 (ev_lcH 14 [("_law_k", 14)] (ups 0 ((n : Int)).toNat) D.int (fun i => [hdD (hd2.dr 7 i)]) (fun i => D.int (hd2.dv 7 i - 3)) (ei_r1 h.li (ea_cons (ev_var 1 rfl rfl) ea_nil) (by omega)) (fun i k hk => (ev_bin (ev_callH 0 rfl ((c__law_take h0 (o2.dr (by decide) i) (by decide) (Bt.mono (btd (by decide)) (by decide))).mono (show 2 ≤ 8 by decide)) (ea_cons ev_int ea_nil)) ev_int bin_sub)) (by omega)) ?_ (by rw [er])
    rw [er, nums, List.map_map]
    rfl
  refine ws_set 4 (d := .lst (lots (fnd n 1))) (EvE.is (ev_bin (ev_lst (ea_cons (ev_tup ea_nil) ea_nil)) (ev_lcM 5 [("_law_one", 5)] (ups 1 ((n : Int) - 1).toNat) D.int (fun p => lot [p]) (ei_r2 h.li (ea_cons ev_int (ea_cons (ev_var 1 rfl rfl) ea_nil)) (by omega) (by omega)) (fun p hp => (ev_tup (ea_cons (ev_var 5 rfl rfl) ea_nil))) (by rw [ups_len]; omega)) (bin_addL (by simp [ups_len]; omega))) (by rw [fnd1, lots, List.map_append, List.map_map]; rfl)) ?_
  refine ws_for (is := [5]) (fun i => [some (.mu 0), some (.dat (.int n)), some (.dat (.tup (nums ws))), some (.dat (.lst (nums ((List.range n).map fun i => hd2.dv 7 i - 3)))), some (.dat (.lst (lots (fnd n 1 ++ two n ((ups 1 ((n : Int) - 1).toNat).take i))))), none, none, none, none, none, none, none, none, none, none, none, none, none, none, none])
    (fun i => [some (.mu 0), some (.dat (.int n)), some (.dat (.tup (nums ws))), some (.dat (.lst (nums ((List.range n).map fun i => hd2.dv 7 i - 3)))), some (.dat (.lst (lots (fnd n 1 ++ two n ((ups 1 ((n : Int) - 1).toNat).take i))))), some (.dat (.int (1 + (i : Int)))), none, none, none, none, none, none, none, none, none, none, none, none, none, none]) (fun _ => [hdD (hd2.dr 7 n)]) (ei_r2 h.li (ea_cons ev_int (ea_cons (ev_var 1 rfl rfl) ea_nil)) (by omega) (by omega)) ?_ (fun i d e => ?_) (fun i d e => ?_) ?_
  · have e : fnd n 1 ++ two n ((ups 1 ((n : Int) - 1).toNat).take 0) = fnd n 1 := by simp [two]
    rw [e]
    exact .refl _
  · obtain ⟨e1, rfl⟩ := ups_get e
    exact eg_name 5 rfl (by decide +kernel)
  · obtain ⟨e1, rfl⟩ := ups_get e
    have l1 := fnd_len n24 1 (by decide)
    have l2 := two_len n24 (xs := (ups 1 ((n : Int) - 1).toNat).take i) (fun p hp => (ups_mem (List.mem_of_mem_take hp)).1)
    have l3 : ((ups 1 ((n : Int) - 1).toNat).take i).length ≤ 24 := by rw [List.length_take, ups_len]; omega
    refine ws_set 4 (d := .lst (lots (fnd n 1 ++ two n ((ups 1 ((n : Int) - 1).toNat).take (i + 1))))) (EvE.is (ev_bin (ev_var 4 rfl rfl) (ev_lcM 15 [("_law_other", 15)] (ups (1 + (i : Int) + 1) ((n : Int) - (1 + (i : Int) + 1)).toNat) D.int (fun q => lot [1 + (i : Int), q]) (ei_r2 h.li (ea_cons (ev_bin (ev_var 5 rfl rfl) ev_int bin_add) (ea_cons (ev_var 1 rfl rfl) ea_nil)) (by omega) (by omega)) (fun q hq => (ev_tup (ea_cons (ev_var 5 rfl rfl) (ea_cons (ev_var 15 rfl rfl) ea_nil)))) (by rw [ups_len]; omega)) (bin_addL (by rw [List.length_map, List.length_append, List.length_map, ups_len]; omega))) ?_) (ws_nil ⟨?_, rfl⟩)
    · rw [two_more (ups_at e1), ← List.append_assoc, lots, lots, List.map_append (l₁ := fnd n 1 ++ _), List.map_map]
      rfl
    · exact .keep (.keep (.keep (.keep (.keep (.drop (.keep (.keep (.keep (.keep (.keep (.keep (.keep (.keep (.keep (.keep (.keep (.keep (.keep (.keep .nil)))))))))))))))))))
  have e : fnd n 1 ++ two n ((ups 1 ((n : Int) - 1).toNat).take ((ups 1 ((n : Int) - 1).toNat).map D.int).length) = fnd n 2 := by
    rw [List.length_map, List.take_length, fnd2]
  rw [e]
  have hl' : (lots (fnd n 2))[u.toNat]? = some (lot l) := map_get hl
  refine ws_set 6 (ev_ix (ev_var 4 rfl rfl) (ev_callH 0 rfl cq (ea_cons (ev_cb h.li.len (ea_cons (ev_var 4 rfl rfl) ea_nil) fn_len_l) ea_nil)) (ix_lstN r2.1 hl')) ?_
  exact WS.cast hr (by rfl) (by rfl)
end
end Hw
set_option Elab.async false
set_option linter.all false
set_option maxRecDepth 100000
set_option maxHeartbeats 2000000
/-! The walks: long even lines. -/
namespace Hw
open PySem PySem.Spec PyProof.Rows L2

theorem fits_mem {ls : List Rat} {ws : List Int} {hss : List (List Rat)} {n m : Nat} {l : List Int} (hl : l ∈ fnd n m) : l ∈ fits ls ws hss (rowOf ls ws hss n l) n m := List.mem_filter.mpr ⟨hl, by simp⟩
theorem evL_ok {n : Nat} (h1 : 1 ≤ n) (h2 : n ≤ 24) : LnOk (evL n) (evM n) ∧ (evL n).length = n := ⟨ev_line_ok h1 h2, by simp [evL]⟩
theorem emp_map {α β : Type} (xs : List α) (f : α → β) : (xs.map f).isEmpty = xs.isEmpty := by cases xs <;> rfl
section
variable {g : Gm} {x : XS g} {cH cW : Addr} (h : HasB g x cH cW)
include h
theorem c__law_long {hd : Hd} (o : Hok hd) : ∃ hd', Hok hd' ∧ CallH g 9 "_law_long" [] (hdD hd) (.val (.bl true)) (hdD hd') := by
  have h0 := h.1.1.1
  obtain ⟨n, ws, row, l, hd1, wok, rl, rb, hl, o1, top⟩ := long_top h o
  have n1 := wok.pos
  have n24 := wok.le
  have wl := wok.len
  refine ⟨hd1, o1, ?_⟩
  refine call_ok ["_law_hand_here", "_law_count_here", "_law_word_here", "_law_row", "_law_lots_here", "_law_one", "_law_actual", "_law_told", "_law_reading", "_law_line_here", "_law_tests", "_law_due", "_law_always", "_law_never", "_law_k", "_law_other", "_law_lot", "_law_sign", "_law_entry", "_law_pole"] ["_law_hand_here"] (h0.fn 56 "_law_long" s__law_long [] rfl) ⟨rfl, rfl, rfl, by decide +kernel, rfl, by decide +kernel, by decide +kernel⟩ (fun W hm => ?_) (fun _ _ _ _ _ _ us hl => match us, hl with | [_], _ => rfl)
  refine top W _ hm ?_
  have fl := fnd_len n24 2 (by decide)
  obtain ⟨lo, ln⟩ := evL_ok n1 n24
  -- one sum
  have one : ∀ (sc : Scope) (own : Nat), True := fun _ _ => trivial
  have cwr : ∀ l, CallP g 8 "_law_wrong" [.tup (nums ws), lot l] (.val (.tup (nums (wrongV ws l)))) := fun l => (c__law_wrong h0 wok.sg (by omega)).mono (by decide)
  have es : ∀ l, (Res.val (.lst ((List.range n).map fun k => D.int ((wrongV ws l).getD k 0 * row.getD k 0)))) = .val (.lst (((List.range (wrongV ws l).length).map fun k => (wrongV ws l).getD k 0 * row.getD k 0).map D.int)) := fun l => by
    rw [List.map_map, wrongV_len, wl]
    rfl
  have bm : ∀ l k, k ∈ List.range n → Bt 20 ((wrongV ws l).getD k 0) ∧ Bt 20 (row.getD k 0) := fun l k hk => by
    have hk := List.mem_range.mp hk
    obtain ⟨a, ha⟩ := get_of (show k < (wrongV ws l).length by rw [wrongV_len]; omega)
    obtain ⟨b, hb⟩ := get_of (show k < row.length by omega)
    rw [getD_of ha, getD_of hb]
    exact ⟨sgn_bt (wrongV_sgn wok.sg a (List.mem_of_getElem? ha)), rb b (List.mem_of_getElem? hb)⟩
  have e1 : ∀ l, (List.range n).map (fun k => D.int ((wrongV ws l).getD k 0)) = nums (wrongV ws l) := fun l => map_getD (by rw [wrongV_len, wl])
  have e2 : (List.range n).map (fun k => D.int (row.getD k 0)) = nums row := map_getD rl
  refine ws_set 7 (ev_lcM 16 [("_law_lot", 16)] (fnd n 2) lot (fun l => D.int (sumI (wrongV ws l) row)) (ei_lst (ev_var 4 rfl rfl)) (fun l' hl' => ?_) (by omega)) ?_
  · refine ev_cb h.li.sum (ea_cons (EvE.is (ev_lcZ 17 18 [("_law_sign", 17), ("_law_entry", 18)] (List.range n) (fun k => D.int ((wrongV ws l').getD k 0)) (fun k => D.int (row.getD k 0)) (fun k => D.int ((wrongV ws l').getD k 0 * row.getD k 0)) ?_ (fun k hk => ?_) (by simp; omega)) (es l')) ea_nil) fn_sum
    · rw [e1, e2]
      exact ei_zipM h.li (ea_cons (ev_call (cwr l') (ea_cons (ev_var 2 rfl rfl) (ea_cons (ev_var 16 rfl rfl) ea_nil))) (ea_cons (ev_var 3 rfl rfl) ea_nil)) (by simp [wrongV_len, wl, rl])
    · exact (ev_bin (ev_var 17 rfl rfl) (ev_var 18 rfl rfl) (bin_mul ((bm l' k hk).1) ((bm l' k hk).2) (by decide)))
  refine ws_set 8 (d := .int (sumI (wrongV ws l) row)) (ω1 := [hdD hd1]) ?_ ?_
  · refine ev_cb h.li.sum (ea_cons (EvE.is (ev_lcZ 17 18 [("_law_sign", 17), ("_law_entry", 18)] (List.range n) (fun k => D.int ((wrongV ws l).getD k 0)) (fun k => D.int (row.getD k 0)) (fun k => D.int ((wrongV ws l).getD k 0 * row.getD k 0)) ?_ (fun k hk => ?_) (by simp; omega)) (es l)) ea_nil) fn_sum
    · rw [e1, e2]
      exact ei_zipM h.li (ea_cons (ev_call (cwr l) (ea_cons (ev_var 2 rfl rfl) (ea_cons (ev_var 6 rfl rfl) ea_nil))) (ea_cons (ev_var 3 rfl rfl) ea_nil)) (by simp [wrongV_len, wl, rl])
    · exact (ev_bin (ev_var 17 rfl rfl) (ev_var 18 rfl rfl) (bin_mul ((bm l k hk).1) ((bm l k hk).2) (by decide)))
  have er : rats (row.map fun i => ((i : Int) : Rat)) = row.map fun i => D.tup [.int i, .int 1] := by
    unfold rats
    rw [List.map_map]
    exact List.map_congr_left fun i _ => rat_int i
  obtain ⟨fE, TE, cE⟩ := c_even h n1 n24
  refine ws_par 9 10 (d1 := line (evL n) (evM n)) (d2 := .lst [.lst (rats (row.map fun i => ((i : Int) : Rat)))]) (ea_cons (ev_even TE (k := 8) (by obtain ⟨fd, ps, dvs, ds, dds, q1, q2, q3, q4, q5⟩ := cE; exact ⟨fd, ps, dvs, ds, dds, q1, q2, q3, q4, q5.mono (by decide)⟩) (ea_cons (ev_var 1 rfl rfl) ea_nil)) (ea_cons (ev_lst (ea_cons (EvE.is (ev_lcM 18 [("_law_entry", 18)] row D.int (fun i => .tup [.int i, .int 1]) (ei_lst (ev_var 3 rfl rfl)) (fun i hi => (ev_tup (ea_cons (ev_var 18 rfl rfl) (ea_cons ev_int ea_nil)))) (by omega)) (by rw [er])) ea_nil)) ea_nil)) ?_
  have fe := fits_even (m := 2) (r := sumI (wrongV ws l) row) wl rl n1
  generalize hR : sumI (wrongV ws l) row = R at fe
  have AO : AskOk n (evL n) (evM n) ws [row.map fun i => ((i : Int) : Rat)] [((R : Int) : Rat)] 2 (.tup (nums ws)) (.lst [.lst (rats (row.map fun i => ((i : Int) : Rat)))]) (.lst [.tup [.int R, .int 1]]) [.lst (rats (row.map fun i => ((i : Int) : Rat)))] := by
    refine ⟨lo, ln, wok, .tup _, ⟨.lst _, rfl, by simp, by simp, n24, fun i hs e => ?_⟩, fun hs hh => ?_, ?_, rfl, by decide⟩
    · cases i with
      | zero => cases e; exact ⟨by simp [rl], _, rfl, .lst _⟩
      | succ i => simp at e
    · rw [List.mem_singleton.mp hh]
      refine ⟨by simp [rl], fun q hq => ?_⟩
      obtain ⟨i, hi, rfl⟩ := List.mem_map.mp hq
      exact Rb.int (rb i hi)
    · have : rats [((R : Int) : Rat)] = [.tup [.int R, .int 1]] := by
        show [rat _] = _
        rw [rat_int]
      rw [this]
      exact .lst _
  generalize hF : fits (evL n) ws [row.map fun i => ((i : Int) : Rat)] [((R : Int) : Rat)] n 2 = F at fe
  have ne : fits (evL n) ws [row.map fun i => ((i : Int) : Rat)] [((R : Int) : Rat)] n 2 ≠ [] := by
    rw [hF, ← fe]
    refine List.ne_nil_of_mem (a := l) (List.mem_filter.mpr ⟨hl, by rw [hR]; simp⟩)
  have flen : F.length ≤ 20000 := by rw [← hF]; exact fits_len _ _ _ _ n 2 n24 (by decide)
  have cl := (c_lots_that_fit h.1.1 AO).mono (show 6 ≤ 8 by decide)
  have cs := c_sure_wrong h.1.1 AO ne
  have cr := c_sure_right h.1.1 AO ne
  rw [hF] at cl cs cr
  have ed : (((List.range (fnd n 2).length).filter fun k => decide (sumI (wrongV ws ((fnd n 2).getD k [])) row = R)).map fun k => lot ((fnd n 2).getD k [])) = lots F := by
    have := congrArg (List.map lot) (by_place (fnd n 2) [] fun l => decide (sumI (wrongV ws l) row = R))
    rw [List.map_map, fe] at this
    exact this
  have eN : ((((lots (fnd n 2)).length : Nat) : Int)).toNat = (fnd n 2).length := by simp
  refine ws_set 11 (d := .tup (lots F)) (EvE.is (ev_cty h.li.tuple (ea_cons (ev_lcF 14 [("_law_k", 14)] (List.range (fnd n 2).length) (fun s => D.int (0 + (s : Int))) (fun k => decide (sumI (wrongV ws ((fnd n 2).getD k [])) row = R)) (fun k => lot ((fnd n 2).getD k [])) ?_ (fun s hs => ?_) (fun s hs _ => ?_) (by simp; omega)) ea_nil) fn_tuple_l) (by rw [ed])) ?_
  · have e : (List.range (fnd n 2).length).map (fun (s : Nat) => D.int (0 + (s : Int))) = (ups 0 ((((lots (fnd n 2)).length : Nat) : Int)).toNat).map D.int := by
      unfold ups
      rw [List.map_map, eN]
      rfl
    rw [e]
    exact (ei_r1 h.li (ea_cons (ev_cb h.li.len (ea_cons (ev_var 4 rfl rfl) ea_nil) fn_len_l) ea_nil) (by simp; omega))
  · have hs := List.mem_range.mp hs
    obtain ⟨l', hl'⟩ := get_of hs
    have ht : ((fnd n 2).map fun l => D.int (sumI (wrongV ws l) row))[((0 : Int) + (s : Int)).toNat]? = some (.int (sumI (wrongV ws l') row)) := by rw [int_nat, List.getElem?_map, hl']; rfl
    rw [getD_of hl', ← hR]
    exact (et_cmp (ev_ix (ev_var 7 rfl rfl) (ev_var 14 rfl rfl) (ix_lstN (by omega) ht)) (ev_var 8 rfl rfl) cmp_eqI)
  · have hs := List.mem_range.mp hs
    obtain ⟨l', hl'⟩ := get_of hs
    have ht : (lots (fnd n 2))[((0 : Int) + (s : Int)).toNat]? = some (lot l') := by rw [int_nat]; exact map_get hl'
    rw [getD_of hl']
    exact (ev_ix (ev_var 4 rfl rfl) (ev_var 14 rfl rfl) (ix_lstN (by omega) ht))
  refine ws_ifF (et_w (ew_or (et_cmp (ev_call ((c_wrong_lots h.1.1 (m := 2) ln n24 (by decide)).mono (by decide)) (ea_cons (ev_var 9 rfl rfl) (ea_cons ev_int ea_nil))) (ev_cty h.li.tuple (ea_cons (ev_var 4 rfl rfl) ea_nil) fn_tuple_l) (cmp_neD (sh_lots _) (sh_lots _) (ne_f rfl))) (ew_or1 (et_cmp (ev_call cl (ea_cons (ev_var 9 rfl rfl) (ea_cons (ev_var 2 rfl rfl) (ea_cons (ev_var 10 rfl rfl) (ea_cons (ev_lst (ea_cons (ev_tup (ea_cons (ev_var 8 rfl rfl) (ea_cons ev_int ea_nil))) ea_nil)) (ea_cons ev_int ea_nil)))))) (ev_var 11 rfl rfl) (cmp_neD (sh_lots _) (sh_lots _) (ne_f rfl)))))) ?_
  refine ws_set 12 (d := .tup (nums (sureW n F))) (EvE.is (ev_cty h.li.tuple (ea_cons (ev_lcF 19 [("_law_pole", 19)] (ups 1 ((n : Int) - 1).toNat) D.int (fun p => (F.filter fun l => !decide (p ∈ l)).isEmpty) D.int (ei_r2 h.li (ea_cons ev_int (ea_cons (ev_var 1 rfl rfl) ea_nil)) (by omega) (by omega)) (fun p hp => EvT.is (et_not (et_tru (ev_lcF 16 [("_law_lot", 16)] F lot (fun l => !decide (p ∈ l)) (fun _ => D.int 1) (ei_tup (ev_var 11 rfl rfl)) (fun l hl => (et_cmp (ev_var 19 rfl rfl) (ev_var 16 rfl rfl) cmp_notInT)) (fun l hl _ => ev_int) (by omega)))) (by simp [truB, emp_map])) (fun p hp _ => (ev_var 19 rfl rfl)) (by rw [ups_len]; omega)) ea_nil) fn_tuple_l) (by rw [← sureW_eq])) ?_
  refine ws_set 13 (d := .tup (nums (sureR n F))) (EvE.is (ev_cty h.li.tuple (ea_cons (ev_lcF 19 [("_law_pole", 19)] (ups 1 ((n : Int) - 1).toNat) D.int (fun p => (F.filter fun l => decide (p ∈ l)).isEmpty) D.int (ei_r2 h.li (ea_cons ev_int (ea_cons (ev_var 1 rfl rfl) ea_nil)) (by omega) (by omega)) (fun p hp => EvT.is (et_not (et_tru (ev_lcF 16 [("_law_lot", 16)] F lot (fun l => decide (p ∈ l)) (fun _ => D.int 1) (ei_tup (ev_var 11 rfl rfl)) (fun l hl => (et_cmp (ev_var 19 rfl rfl) (ev_var 16 rfl rfl) cmp_inT)) (fun l hl _ => ev_int) (by omega)))) (by simp [truB, emp_map])) (fun p hp _ => (ev_var 19 rfl rfl)) (by rw [ups_len]; omega)) ea_nil) fn_tuple_l) (by rw [← sureR_eq])) ?_
  refine ws_ifF (et_cmp (ev_call cs (ea_cons (ev_var 9 rfl rfl) (ea_cons (ev_var 2 rfl rfl) (ea_cons (ev_var 10 rfl rfl) (ea_cons (ev_lst (ea_cons (ev_tup (ea_cons (ev_var 8 rfl rfl) (ea_cons ev_int ea_nil))) ea_nil)) (ea_cons ev_int ea_nil)))))) (ev_var 12 rfl rfl) (cmp_neD (sh_nums _) (sh_nums _) (ne_f rfl))) ?_
  exact ws_ret (ev_cmp (ev_call cr (ea_cons (ev_var 9 rfl rfl) (ea_cons (ev_var 2 rfl rfl) (ea_cons (ev_var 10 rfl rfl) (ea_cons (ev_lst (ea_cons (ev_tup (ea_cons (ev_var 8 rfl rfl) (ea_cons ev_int ea_nil))) ea_nil)) (ea_cons ev_int ea_nil)))))) (ev_var 13 rfl rfl) (cmp_eqD (sh_nums _) (sh_nums _) (eq_t rfl))) ⟨rfl, rfl⟩
end
end Hw
set_option Elab.async false
set_option linter.all false
set_option maxRecDepth 100000
set_option maxHeartbeats 2000000
/-! The walks: odd things are refused. -/
namespace Hw
open PySem PySem.Spec PyProof.Rows L2

theorem sok_w : PyData.strOk ("BadWord" : Str) = true := by decide +kernel
theorem sok_t : PyData.strOk ("BadTests" : Str) = true := by decide +kernel
theorem sok_r : PyData.strOk ("BadReadings" : Str) = true := by decide +kernel
theorem sok_m : PyData.strOk ("BadMost" : Str) = true := by decide +kernel
theorem sok_p : PyData.strOk ("BadPoles" : Str) = true := by decide +kernel
theorem sok_a : PyData.strOk ("BadAmount" : Str) = true := by decide +kernel
theorem sok_n : PyData.strOk ("NoLots" : Str) = true := by decide +kernel
theorem sh_ex {nm s : Str} {i : Int} (h1 : PyData.strOk nm = true) (h2 : PyData.strOk s = true) : Sh 1 (.tup [.str nm, .int i, .str s]) := .tup fun d hd => by
  simp only [List.mem_cons, List.not_mem_nil, or_false] at hd
  rcases hd with rfl | rfl | rfl
  · exact .str h1
  · exact .int
  · exact .str h2
theorem sh_one {nm : Str} (h1 : PyData.strOk nm = true) : Sh 1 (.tup [.str nm]) := .tup fun d hd => by
  rw [List.mem_singleton.mp hd]
  exact .str h1
theorem BadW.ok {n : Nat} {d : D} {i : Int} {s : Str} (b : BadW n d i s) : PyData.strOk s = true := by cases b <;> decide +kernel
def AskF (g : Gm) (x : XS g) (ls ms : List Rat) (n k : Nat) (a : Addr) : Prop := ∀ dw dt dr dm e, BadAsk x n dw dt dr dm e → CallF g k a ([line ls ms, dw, dt, dr, dm].map .dat) [] (.exc e) []
theorem callF_of {g : Gm} {k : Nat} {x : Str} {a : Addr} {as : List Sl} {ω ω' : Om} {r : Res} (m : g.mg x = some (.ref a)) (c : CallG g k x as ω r ω') : CallF g k a as ω r ω' := by
  obtain ⟨f, m', c⟩ := c
  cases m.symm.trans m'
  exact c
theorem glo_fn {g : Gm} {x : Str} {a : Addr} (m : g.mg x = some (.ref a)) : Glo g x (.fn a) := ⟨.ref a, .ref a, m, rfl, fun S H => .fn a⟩
section
variable {g : Gm} {x : XS g} {cH : Addr} (h : HasX g x cH)
include h
theorem mg_fn (i : Nat) (y : Str) (st : Stmt) (dvs : List V) (e : defs[i]? = some (y, st, dvs)) : ∃ a, g.mg y = some (.ref a) := by
  obtain ⟨f, fd, _, m⟩ := h.fn i y st dvs e
  exact ⟨f, m⟩
theorem c_wrong_wordW {dw dp : D} {ls ms : List Rat} {n : Nat} {i : Int} {s : Str} (ln : ls.length = n) (n1 : 1 ≤ n) (n24 : n ≤ 24) (b : BadW n dw i s) : CallP g 5 "wrong_word" [line ls ms, dw, dp] (.exc ⟨x.w, some [("index", .int i), ("what", .str s)]⟩) := by
  refine call_ok ["line", "word", "poles", "signs", "pole", "sign"] ["line", "word", "poles"] (h.fn 17 "wrong_word" s_wrong_word [] rfl) ⟨rfl, rfl, rfl, by decide +kernel, rfl, by decide +kernel, by decide +kernel⟩ (fun W hm => ?_) (fun _ _ _ _ _ _ us hl => match us, hl with | [_, _, _], _ => rfl)
  exact ws_setX (i := 3) (ev_call (c_check_wordX h b ln n1 n24) (ea_cons (ev_var 0 rfl rfl) (ea_cons (ev_var 1 rfl rfl) ea_nil)) (fun _ => hm)) ⟨rfl, rfl⟩
theorem c_wrong_wordP {dw dp : D} {ls ms : List Rat} {ws : List Int} {n : Nat} (ln : ls.length = n) (w : WdOk n ws) (qw : Sq dw (nums ws)) (b : BadP n dp) : CallP g 5 "wrong_word" [line ls ms, dw, dp] (.exc ⟨x.p, none⟩) := by
  refine call_ok ["line", "word", "poles", "signs", "pole", "sign"] ["line", "word", "poles"] (h.fn 17 "wrong_word" s_wrong_word [] rfl) ⟨rfl, rfl, rfl, by decide +kernel, rfl, by decide +kernel, by decide +kernel⟩ (fun W hm => ?_) (fun _ _ _ _ _ _ us hl => match us, hl with | [_, _, _], _ => rfl)
  have le := w.le
  refine ws_set 3 (ev_call (c_check_word h qw w ln) (ea_cons (ev_var 0 rfl rfl) (ea_cons (ev_var 1 rfl rfl) ea_nil))) ?_
  refine ws_forE (ev_call (by rw [show ((rats ls).length : Int) = (n : Int) by simp [ln]]; exact (c_check_polesX h b).mono (by decide)) (ea_cons (ev_lenO h.li h.len (ev_var 0 rfl rfl) (by simp; omega)) (ea_cons (ev_var 2 rfl rfl) ea_nil)) (fun _ => hm)) ⟨rfl, rfl⟩
theorem asks {ls ms : List Rat} {n : Nat} (ln : ls.length = n) (n1 : 1 ≤ n) (n24 : n ≤ 24) : ∃ a1 a2 a3, (g.mg "lots_that_fit" = some (.ref a1) ∧ g.mg "sure_wrong" = some (.ref a2) ∧ g.mg "sure_right" = some (.ref a3)) ∧ ∀ (i : Nat) d, ([D.fn a1, .fn a2, .fn a3])[i]? = some d → ∃ a, d = .fn a ∧ AskF g x ls ms n 8 a := by
  obtain ⟨a1, m1⟩ := mg_fn h 26 "lots_that_fit" s_lots_that_fit [] rfl
  obtain ⟨a2, m2⟩ := mg_fn h 28 "sure_wrong" s_sure_wrong [] rfl
  obtain ⟨a3, m3⟩ := mg_fn h 29 "sure_right" s_sure_right [] rfl
  refine ⟨a1, a2, a3, ⟨m1, m2, m3⟩, fun i d e => ?_⟩
  match i, e with
  | 0, e => cases e; exact ⟨a1, rfl, fun dw dt dr dm e b => callF_of m1 ((c_lots_that_fitX h ln n1 n24 b).mono (by decide))⟩
  | 1, e => cases e; exact ⟨a2, rfl, fun dw dt dr dm e b => callF_of m2 (c_sure_wrongX h ln n1 n24 b)⟩
  | 2, e => cases e; exact ⟨a3, rfl, fun dw dt dr dm e b => callF_of m3 (c_sure_rightX h ln n1 n24 b)⟩
  | i + 3, e => simp at e
end
section
variable {g : Gm} {x : XS g} {cH cW : Addr} (h : HasA g x cH cW)
include h
/-- what is asked with odd things -/
structure RfOk {g : Gm} (x : XS g) (n : Nat) (ls ms : List Rat) (ws : List Int) (hss : List (List Rat)) (rs : List Rat) (dW : D) (i : Int) (s : Str) (spot : Nat) (dB dR dS : D) : Prop where
  lo : LnOk ls ms
  ln : ls.length = n
  w : WdOk n ws
  h1 : 1 ≤ hss.length
  h6 : hss.length ≤ 3
  ts : ∀ hs ∈ hss, HmS n hs
  lr : rs.length = hss.length
  bW : BadW n dW i s
  sp : spot < hss.length
  bB : BadH n dB
  bR : NRat dR
  tS : Ty dS
  bS : wholeB dS (.int 0) (.int 3) = false
theorem RfOk.tok {n : Nat} {ls ms : List Rat} {ws : List Int} {hss : List (List Rat)} {rs : List Rat} {dW : D} {i : Int} {s : Str} {spot : Nat} {dB dR dS : D} (o : RfOk x n ls ms ws hss rs dW i s spot dB dR dS) : TsOk n (.tup (hss.map hum)) (hss.map hum) hss := by
  have := o.h6
  exact ⟨.tup _, by simp, o.h1, by omega, o.w.le, fun i hs e => ⟨(o.ts hs (List.mem_of_getElem? e)).len, _, map_get e, .tup _⟩⟩
theorem RfOk.bT {n : Nat} {ls ms : List Rat} {ws : List Int} {hss : List (List Rat)} {rs : List Rat} {dW : D} {i : Int} {s : Str} {spot : Nat} {dB dR dS : D} (o : RfOk x n ls ms ws hss rs dW i s spot dB dR dS) : BadT n (.lst ((hss.map hum).set spot dB)) spot "hum" := by
  have := o.h6
  have sp := o.sp
  refine .t2 (hss := hss) spot (.lst _) (by simp; omega) (fun j hj => ?_) (List.getElem?_set_self (by simpa using sp)) o.bB
  obtain ⟨hs, e⟩ := get_of (show j < hss.length by omega)
  exact ⟨hs, hum hs, e, (o.ts hs (List.mem_of_getElem? e)).len, by rw [List.getElem?_set_ne (by omega)]; exact map_get e, .tup _⟩
theorem RfOk.bRd {n : Nat} {ls ms : List Rat} {ws : List Int} {hss : List (List Rat)} {rs : List Rat} {dW : D} {i : Int} {s : Str} {spot : Nat} {dB dR dS : D} (o : RfOk x n ls ms ws hss rs dW i s spot dB dR dS) : BadR hss.length (.lst ((rats rs).set spot dR)) spot "reading" := by
  have sp := o.sp
  have lr := o.lr
  refine .r2 spot (.lst _) (by simp [lr]) (fun j hj => ?_) (List.getElem?_set_self (by simp; omega)) o.bR
  obtain ⟨q, e⟩ := get_of (show j < rs.length by omega)
  exact ⟨q, by rw [List.getElem?_set_ne (by omega)]; exact map_get e⟩
/-- the loop over the three asks -/
theorem ref_loop {n : Nat} {ls ms : List Rat} {ws : List Int} {hss : List (List Rat)} {rs : List Rat} {dW dM : D} {i : Int} {s : Str} {spot : Nat} {dB dR dS : D} (o : RfOk x n ls ms ws hss rs dW i s spot dB dR dS) {hd : Hd} {W : Wm} {cd : Value} {ql : Str} (hm : W.md = true) (hL : W.lam = some (cd, ql)) (LO : LamOk g cd ql) {P : Out → Prop}
    (hr : WS g ["_law_hand_here", "_law_line_here", "_law_word_here", "_law_tests", "_law_readings_here", "_law_most", "_law_odd", "_law_at", "_law_what", "_law_spot", "_law_bad", "_law_wrong_here", "_law_strange", "_law_ask", "_law_poles"] (defScope s__law_refused) 10 W 1 ((defBody s__law_refused).drop 8) [some (.mu 0), some (.dat (line ls ms)), some (.dat (.tup (nums ws))), some (.dat (.tup (hss.map hum))), some (.dat (hum rs)), some (.dat dM), some (.dat dW), some (.dat (.int i)), some (.dat (.str s)), some (.dat (.int spot)), some (.dat (.lst ((hss.map hum).set spot dB))), some (.dat (.lst ((rats rs).set spot dR))), some (.dat dS), none, none] [hdD hd] P) :
    WS g ["_law_hand_here", "_law_line_here", "_law_word_here", "_law_tests", "_law_readings_here", "_law_most", "_law_odd", "_law_at", "_law_what", "_law_spot", "_law_bad", "_law_wrong_here", "_law_strange", "_law_ask", "_law_poles"] (defScope s__law_refused) 10 W 1 ((defBody s__law_refused).drop 7) [some (.mu 0), some (.dat (line ls ms)), some (.dat (.tup (nums ws))), some (.dat (.tup (hss.map hum))), some (.dat (hum rs)), some (.dat dM), some (.dat dW), some (.dat (.int i)), some (.dat (.str s)), some (.dat (.int spot)), some (.dat (.lst ((hss.map hum).set spot dB))), some (.dat (.lst ((rats rs).set spot dR))), some (.dat dS), none, none] [hdD hd] P := by
  have n1 := o.w.pos
  have n24 := o.w.le
  have lr := o.lr
  have h6 := o.h6
  obtain ⟨a1, a2, a3, ⟨m1, m2, m3⟩, each⟩ := asks h.1 (ms := ms) o.ln n1 n24
  let R0 : Rho := [some (.mu 0), some (.dat (line ls ms)), some (.dat (.tup (nums ws))), some (.dat (.tup (hss.map hum))), some (.dat (hum rs)), some (.dat dM), some (.dat dW), some (.dat (.int i)), some (.dat (.str s)), some (.dat (.int spot)), some (.dat (.lst ((hss.map hum).set spot dB))), some (.dat (.lst ((rats rs).set spot dR))), some (.dat dS), none, none]
  refine ws_for (is := [13]) (items := [D.fn a1, .fn a2, .fn a3]) (fun _ => R0) (fun j => R0.set 13 (some (.dat (([D.fn a1, .fn a2, .fn a3]).getD j .non)))) (fun _ => [hdD hd]) (ei_tup (ev_tup (ea_cons (ev_glo (glo_fn m1)) (ea_cons (ev_glo (glo_fn m2)) (ea_cons (ev_glo (glo_fn m3)) ea_nil))))) (.refl _) (fun j d e => ?_) (fun j d e => ?_) (WS.cast hr (by rfl) (by rfl))
  · rw [getD_of e]
    exact eg_name 13 rfl (by decide +kernel)
  · rw [getD_of e]
    obtain ⟨a, rfl, F⟩ := each j d e
    have qw : Sq (.tup (nums ws)) (nums ws) := .tup _
    have b1 := F _ _ _ _ _ (.w (dt := .lst ((hss.map hum).set spot dB)) (dr := .lst ((rats rs).set spot dR)) (dm := dS) o.bW)
    have b2 := F _ _ _ _ _ (.t (dr := .lst ((rats rs).set spot dR)) (dm := dS) qw o.w (o.bT h))
    have b3 := F _ _ _ _ _ (.r (dm := dS) qw o.w (o.tok h) (o.bRd h))
    have b4 := F _ _ _ _ _ (.r (dm := dS) qw o.w (o.tok h) (.r1 (m := hss.length) (.tup (rats rs ++ [.tup [.int 0, .int 1]])) (by simp [lr]) (by simp; omega)))
    have b5 := F _ _ _ _ _ (.m qw o.w (o.tok h) (.tup (rats rs)) lr o.tS o.bS)
    refine ws_ifF (et_cmp (ev_caught h hL LO (k := 8) (.two ⟨"BadWord", x.w, true⟩ (.int i) (.str s) (by simp) rfl) (fun W' hm' => ev_callV 13 rfl b1 (ea_cons (ev_var 1 rfl rfl) (ea_cons (ev_var 6 rfl rfl) (ea_cons (ev_var 10 rfl rfl) (ea_cons (ev_var 11 rfl rfl) (ea_cons (ev_var 12 rfl rfl) ea_nil))))) (hmd := fun _ => hm'))) (ev_tup (ea_cons ev_str (ea_cons (ev_var 7 rfl rfl) (ea_cons (ev_var 8 rfl rfl) ea_nil)))) (cmp_neD (sh_ex sok_w o.bW.ok) (sh_ex sok_w o.bW.ok) (ne_f rfl))) ?_
    refine ws_ifF (et_cmp (ev_caught h hL LO (k := 8) (.two ⟨"BadTests", x.t, true⟩ (.int spot) (.str "hum") (by simp) rfl) (fun W' hm' => ev_callV 13 rfl b2 (ea_cons (ev_var 1 rfl rfl) (ea_cons (ev_var 2 rfl rfl) (ea_cons (ev_var 10 rfl rfl) (ea_cons (ev_var 11 rfl rfl) (ea_cons (ev_var 12 rfl rfl) ea_nil))))) (hmd := fun _ => hm'))) (ev_tup (ea_cons ev_str (ea_cons (ev_var 9 rfl rfl) (ea_cons ev_str ea_nil)))) (cmp_neD (sh_ex sok_t (by decide +kernel)) (sh_ex sok_t (by decide +kernel)) (ne_f rfl))) ?_
    refine ws_ifF (et_cmp (ev_caught h hL LO (k := 8) (.two ⟨"BadReadings", x.r, true⟩ (.int spot) (.str "reading") (by simp) rfl) (fun W' hm' => ev_callV 13 rfl b3 (ea_cons (ev_var 1 rfl rfl) (ea_cons (ev_var 2 rfl rfl) (ea_cons (ev_var 3 rfl rfl) (ea_cons (ev_var 11 rfl rfl) (ea_cons (ev_var 12 rfl rfl) ea_nil))))) (hmd := fun _ => hm'))) (ev_tup (ea_cons ev_str (ea_cons (ev_var 9 rfl rfl) (ea_cons ev_str ea_nil)))) (cmp_neD (sh_ex sok_r (by decide +kernel)) (sh_ex sok_r (by decide +kernel)) (ne_f rfl))) ?_
    refine ws_ifF (et_cmp (ev_caught h hL LO (k := 8) (.two ⟨"BadReadings", x.r, true⟩ (.int 0) (.str "many") (by simp) rfl) (fun W' hm' => ev_callV 13 rfl b4 (ea_cons (ev_var 1 rfl rfl) (ea_cons (ev_var 2 rfl rfl) (ea_cons (ev_var 3 rfl rfl) (ea_cons (ev_bin (ev_var 4 rfl rfl) (ev_tup (ea_cons (ev_tup (ea_cons ev_int (ea_cons ev_int ea_nil))) ea_nil)) (bin_addT (by simp; omega))) (ea_cons (ev_var 12 rfl rfl) ea_nil))))) (hmd := fun _ => hm'))) (ev_tup (ea_cons ev_str (ea_cons ev_int (ea_cons ev_str ea_nil)))) (cmp_neD (sh_ex sok_r (by decide +kernel)) (sh_ex sok_r (by decide +kernel)) (ne_f rfl))) ?_
    refine ws_ifF (et_cmp (ev_caught h hL LO (k := 8) (.bare ⟨"BadMost", x.m, false⟩ (by simp) rfl) (fun W' hm' => ev_callV 13 rfl b5 (ea_cons (ev_var 1 rfl rfl) (ea_cons (ev_var 2 rfl rfl) (ea_cons (ev_var 3 rfl rfl) (ea_cons (ev_var 4 rfl rfl) (ea_cons (ev_var 12 rfl rfl) ea_nil))))) (hmd := fun _ => hm'))) (ev_tup (ea_cons ev_str ea_nil)) (cmp_neD (sh_one sok_m) (sh_one sok_m) (ne_f rfl))) (ws_nil ⟨.keep (.keep (.keep (.keep (.keep (.keep (.keep (.keep (.keep (.keep (.keep (.keep (.keep (.drop (.keep .nil)))))))))))))), rfl⟩)
end
end Hw
set_option Elab.async false
set_option linter.all false
set_option maxRecDepth 100000
set_option maxHeartbeats 2000000
/-! The walks: odd things are refused. -/
namespace Hw
open PySem PySem.Spec PyProof.Rows L2

theorem rep_ok {n k : Nat} {h0 : List Rat} (l : h0.length = n) (h1 : 1 ≤ k) (h6 : k ≤ 6) (n24 : n ≤ 24) : TsOk n (.lst (List.replicate k (hum h0))) (List.replicate k (hum h0)) (List.replicate k h0) := by
  refine ⟨.lst _, by simp, by simp; omega, by simp; omega, n24, fun i hs e => ?_⟩
  rw [List.getElem?_replicate] at e
  split at e
  · cases e
    rename_i hi
    exact ⟨l, hum h0, by rw [List.getElem?_replicate, if_pos hi], .tup _⟩
  · cases e
section
variable {g : Gm} {x : XS g} {cH cW : Addr} (h : HasA g x cH cW)
include h
theorem ref_tail {n : Nat} {ls ms : List Rat} {ws : List Int} {hss : List (List Rat)} {rs : List Rat} {dW dM : D} {i : Int} {s : Str} {spot : Nat} {dB dR dS : D} (o : RfOk x n ls ms ws hss rs dW i s spot dB dR dS) {hd : Hd} (ok : Hok hd) {W : Wm} {cd : Value} {ql : Str} (hm : W.md = true) (hL : W.lam = some (cd, ql)) (LO : LamOk g cd ql) :
    WS g ["_law_hand_here", "_law_line_here", "_law_word_here", "_law_tests", "_law_readings_here", "_law_most", "_law_odd", "_law_at", "_law_what", "_law_spot", "_law_bad", "_law_wrong_here", "_law_strange", "_law_ask", "_law_poles"] (defScope s__law_refused) 10 W 1 ((defBody s__law_refused).drop 8) [some (.mu 0), some (.dat (line ls ms)), some (.dat (.tup (nums ws))), some (.dat (.tup (hss.map hum))), some (.dat (hum rs)), some (.dat dM), some (.dat dW), some (.dat (.int i)), some (.dat (.str s)), some (.dat (.int spot)), some (.dat (.lst ((hss.map hum).set spot dB))), some (.dat (.lst ((rats rs).set spot dR))), some (.dat dS), none, none] [hdD hd] (Fin (.val (.bl true)) [hdD (hd.tk 5).2]) := by
  have hx := h.1
  have n1 := o.w.pos
  have n24 := o.w.le
  have wl := o.w.len
  have qw : Sq (.tup (nums ws)) (nums ws) := .tup _
  have bT := o.bT h
  obtain ⟨h0, hst, rfl⟩ : ∃ h0 hst, hss = h0 :: hst := by
    cases hss with
    | nil => exact absurd o.h1 (by simp)
    | cons a b => exact ⟨a, b, rfl⟩
  have s0 := o.ts h0 List.mem_cons_self
  have r1 := Hd.tk_rng (h := hd) (m := 5) (by decide)
  have cp := (c__law_take hx.1 ok (m := 5) (by decide) (Bt.mono (btd (by decide)) (by decide))).mono (show 2 ≤ 10 by decide)
  generalize (hd.tk 5).1 = v at r1 cp
  generalize (hd.tk 5).2 = hd1 at cp ⊢
  have cA := (c_check_testsX hx (ms := ms) o.ln n24 (.t1 (.lst []) (.inl (by simp)) (by simp))).mono (show 4 ≤ 8 by decide)
  have cB := (c_check_testsX hx (ms := ms) o.ln n24 (.t1 (.lst (List.replicate 7 (hum h0))) (.inr (by simp)) (by simp))).mono (show 4 ≤ 8 by decide)
  have cC := (c_check_tests hx (ms := ms) o.ln (rep_ok s0.len (k := 6) (by decide) (by decide) n24)).mono (show 4 ≤ 10 by decide)
  have cD := (c_read_tests hx o.lo o.ln qw o.w (rep_ok s0.len (k := 5) (by decide) (by decide) n24) (fun hs hh => by rw [List.eq_of_mem_replicate hh]; exact s0)).mono (show 6 ≤ 10 by decide)
  have cE := (c__law_noise hx.1 o.ln wl s0.ok n24 o.lo.bl o.w.sg).mono (show 4 ≤ 10 by decide)
  refine ws_ifF (et_cmp (ev_caught h hL LO (k := 8) (.two ⟨"BadTests", x.t, true⟩ (.int 0) (.str "many") (by simp) rfl) (fun W' hm' => ev_call cA (ea_cons (ev_var 1 rfl rfl) (ea_cons (ev_lst ea_nil) ea_nil)) (fun _ => hm'))) (ev_tup (ea_cons ev_str (ea_cons ev_int (ea_cons ev_str ea_nil)))) (cmp_neD (sh_ex sok_t (by decide +kernel)) (sh_ex sok_t (by decide +kernel)) (ne_f rfl))) ?_
  refine ws_ifF (et_cmp (ev_caught h hL LO (k := 8) (.two ⟨"BadTests", x.t, true⟩ (.int 0) (.str "many") (by simp) rfl) (fun W' hm' => ev_call cB (ea_cons (ev_var 1 rfl rfl) (ea_cons (ev_bin (ev_lst (ea_cons (ev_ix (ev_var 3 rfl rfl) ev_int (ix_tupN (by decide) rfl)) ea_nil)) ev_int (bin_repL (by decide) (by simp) (by decide))) ea_nil)) (fun _ => hm'))) (ev_tup (ea_cons ev_str (ea_cons ev_int (ea_cons ev_str ea_nil)))) (cmp_neD (sh_ex sok_t (by decide +kernel)) (sh_ex sok_t (by decide +kernel)) (ne_f rfl))) ?_
  refine ws_ifF (et_w (ew_or (et_cmp (ev_call cC (ea_cons (ev_var 1 rfl rfl) (ea_cons (ev_bin (ev_lst (ea_cons (ev_ix (ev_var 3 rfl rfl) ev_int (ix_tupN (by decide) rfl)) ea_nil)) ev_int (bin_repL (by decide) (by simp) (by decide))) ea_nil))) (ev_bin (ev_tup (ea_cons (ev_ix (ev_var 3 rfl rfl) ev_int (ix_tupN (by decide) rfl)) ea_nil)) ev_int (bin_repT (by decide) (by decide) (by simp) (by simp))) (cmp_neD (sh_hums _) (sh_hums (List.replicate 6 h0)) (ne_f rfl))) (ew_or1 (et_cmp (ev_call cD (ea_cons (ev_var 1 rfl rfl) (ea_cons (ev_var 2 rfl rfl) (ea_cons (ev_bin (ev_lst (ea_cons (ev_ix (ev_var 3 rfl rfl) ev_int (ix_tupN (by decide) rfl)) ea_nil)) ev_int (bin_repL (by decide) (by simp) (by decide))) ea_nil)))) (ev_bin (ev_tup (ea_cons (ev_call cE (ea_cons (ev_lengths h.li (ev_var 1 rfl rfl)) (ea_cons (ev_var 2 rfl rfl) (ea_cons (ev_ix (ev_var 3 rfl rfl) ev_int (ix_tupN (by decide) rfl)) ea_nil)))) ea_nil)) ev_int (bin_repT (by decide) (by decide) (by simp) (by simp))) (cmp_neD (sh_hum _) (sh_hum ((List.replicate 5 h0).map (noise ls ws))) (ne_f rfl)))))) ?_
  obtain ⟨dP, bP, hg⟩ : ∃ d, BadP n d ∧ ([D.lst [.int 0], .lst [.int (((nums ws).length : Nat) : Int)], .lst [.int 1, .int 1], .lst [.bl true], .non])[v.toNat]? = some d := by
    obtain c | c | c | c | c : v = 0 ∨ v = 1 ∨ v = 2 ∨ v = 3 ∨ v = 4 := by omega
    · subst c; exact ⟨_, .p1 (.lst _) ⟨_, rfl⟩ (by rw [whole_rng]; simp), rfl⟩
    · subst c; exact ⟨_, .p1 (.lst _) ⟨_, rfl⟩ (by rw [whole_rng, List.length_map, wl]; simp; omega), rfl⟩
    · subst c
      by_cases c2 : 2 ≤ n
      · exact ⟨_, .p2 1 (.lst _) (by decide) (by omega), rfl⟩
      · exact ⟨_, .p1 (.lst _) ⟨_, rfl⟩ (by rw [whole_rng]; simp; omega), rfl⟩
    · subst c; exact ⟨_, .p1 (.lst _) ⟨_, rfl⟩ rfl, rfl⟩
    · subst c; exact ⟨_, .p0 .non, rfl⟩
  refine ws_set 14 (ev_ix (ev_lst (ea_cons (ev_lst (ea_cons ev_int ea_nil)) (ea_cons (ev_lst (ea_cons (ev_cb h.li.len (ea_cons (ev_var 2 rfl rfl) ea_nil) fn_len_t) ea_nil)) (ea_cons (ev_lst (ea_cons ev_int (ea_cons ev_int ea_nil))) (ea_cons (ev_lst (ea_cons ev_bl ea_nil)) (ea_cons ev_non ea_nil)))))) (ev_callH 0 rfl cp (ea_cons ev_int ea_nil)) (ix_lstN r1.1 hg)) ?_
  have c1 := (c_wrong_wordP hx (ms := ms) o.ln o.w qw bP).mono (show 5 ≤ 8 by decide)
  have c2 := (c_wrong_wordW hx (ms := ms) (dp := dP) o.ln n1 n24 o.bW).mono (show 5 ≤ 8 by decide)
  have c3 := (c_read_testsX hx (ms := ms) (d := .lst (((h0 :: hst).map hum).set spot dB)) o.bW o.ln n1 n24).mono (show 5 ≤ 8 by decide)
  have c4 := (c_wrong_lotsX hx (ls := ls) (ms := ms) o.tS o.bS).mono (show 2 ≤ 8 by decide)
  have c5 := (c_read_testsY hx (ms := ms) o.ln qw o.w bT).mono (show 5 ≤ 8 by decide)
  refine ws_ifF (et_cmp (ev_caught h hL LO (k := 8) (.bare ⟨"BadPoles", x.p, false⟩ (by simp) rfl) (fun W' hm' => ev_call c1 (ea_cons (ev_var 1 rfl rfl) (ea_cons (ev_var 2 rfl rfl) (ea_cons (ev_var 14 rfl rfl) ea_nil))) (fun _ => hm'))) (ev_tup (ea_cons ev_str ea_nil)) (cmp_neD (sh_one sok_p) (sh_one sok_p) (ne_f rfl))) ?_
  refine ws_ifF (et_cmp (ev_caught h hL LO (k := 8) (.two ⟨"BadWord", x.w, true⟩ (.int i) (.str s) (by simp) rfl) (fun W' hm' => ev_call c2 (ea_cons (ev_var 1 rfl rfl) (ea_cons (ev_var 6 rfl rfl) (ea_cons (ev_var 14 rfl rfl) ea_nil))) (fun _ => hm'))) (ev_tup (ea_cons ev_str (ea_cons (ev_var 7 rfl rfl) (ea_cons (ev_var 8 rfl rfl) ea_nil)))) (cmp_neD (sh_ex sok_w o.bW.ok) (sh_ex sok_w o.bW.ok) (ne_f rfl))) ?_
  refine ws_ifF (et_cmp (ev_caught h hL LO (k := 8) (.two ⟨"BadWord", x.w, true⟩ (.int i) (.str s) (by simp) rfl) (fun W' hm' => ev_call c3 (ea_cons (ev_var 1 rfl rfl) (ea_cons (ev_var 6 rfl rfl) (ea_cons (ev_var 10 rfl rfl) ea_nil))) (fun _ => hm'))) (ev_tup (ea_cons ev_str (ea_cons (ev_var 7 rfl rfl) (ea_cons (ev_var 8 rfl rfl) ea_nil)))) (cmp_neD (sh_ex sok_w o.bW.ok) (sh_ex sok_w o.bW.ok) (ne_f rfl))) ?_
  refine ws_ifF (et_cmp (ev_caught h hL LO (k := 8) (.bare ⟨"BadMost", x.m, false⟩ (by simp) rfl) (fun W' hm' => ev_call c4 (ea_cons (ev_var 1 rfl rfl) (ea_cons (ev_var 12 rfl rfl) ea_nil)) (fun _ => hm'))) (ev_tup (ea_cons ev_str ea_nil)) (cmp_neD (sh_one sok_m) (sh_one sok_m) (ne_f rfl))) ?_
  exact ws_ret (ev_base h hL LO (k := 8) (fun W' hm' => ev_call c5 (ea_cons (ev_var 1 rfl rfl) (ea_cons (ev_var 2 rfl rfl) (ea_cons (ev_var 10 rfl rfl) ea_nil))) (fun _ => hm'))) ⟨rfl, rfl⟩
theorem c__law_refused {hd : Hd} (ok : Hok hd) {n : Nat} {ls ms : List Rat} {ws : List Int} {hss : List (List Rat)} {rs : List Rat} {dM : D} (lo : LnOk ls ms) (ln : ls.length = n) (w : WdOk n ws) (h1 : 1 ≤ hss.length) (h3 : hss.length ≤ 3) (ts : ∀ hs ∈ hss, HmS n hs) (lr : rs.length = hss.length) :
    ∃ hd', Hok hd' ∧ CallH g 11 "_law_refused" [line ls ms, .tup (nums ws), .tup (hss.map hum), hum rs, dM] (hdD hd) (.val (.bl true)) (hdD hd') := by
  have hx := h.1
  have n1 := w.pos
  have n24 := w.le
  have wl := w.len
  obtain ⟨dW, i, s, hd1, bW, o1, c1⟩ := c__law_odd_word hx.1 ok w
  have o2 := o1.tk (m := (((hss.map hum).length : Nat) : Int)) (by simp; omega)
  have r2 := Hd.tk_rng (h := hd1) (m := (((hss.map hum).length : Nat) : Int)) (by simp; omega)
  have c2 := (c__law_take hx.1 o1 (m := (((hss.map hum).length : Nat) : Int)) (by simp; omega) (Bt.mono (btd (by simp; omega)) (by decide))).mono (show 2 ≤ 10 by decide)
  generalize (hd1.tk (((hss.map hum).length : Nat) : Int)).1 = sp at r2 c2
  generalize (hd1.tk (((hss.map hum).length : Nat) : Int)).2 = hd2 at o2 c2
  rw [List.length_map] at r2
  obtain ⟨spot, rfl⟩ : ∃ k : Nat, sp = (k : Int) := ⟨sp.toNat, by omega⟩
  obtain ⟨dB, ib, hd3, bB, o3, c3⟩ := c__law_odd_hum hx.1 o2 n1 n24
  have o4 := o3.tk (m := 4) (by decide)
  have r4 := Hd.tk_rng (h := hd3) (m := 4) (by decide)
  have c4 := (c__law_take hx.1 o3 (m := 4) (by decide) (Bt.mono (btd (by decide)) (by decide))).mono (show 2 ≤ 10 by decide)
  generalize (hd3.tk 4).1 = v4 at r4 c4
  generalize (hd3.tk 4).2 = hd4 at o4 c4
  have o5 := o4.tk (m := 4) (by decide)
  have r5 := Hd.tk_rng (h := hd4) (m := 4) (by decide)
  have c5 := (c__law_take hx.1 o4 (m := 4) (by decide) (Bt.mono (btd (by decide)) (by decide))).mono (show 2 ≤ 10 by decide)
  generalize (hd4.tk 4).1 = v5 at r5 c5
  generalize (hd4.tk 4).2 = hd5 at o5 c5
  obtain ⟨dR, bR, g4⟩ : ∃ d, NRat d ∧ ([D.int 1, .non, .tup [.int 2, .int 2], .lst [.int 1, .int 2]])[v4.toNat]? = some d := by
    obtain c | c | c | c : v4 = 0 ∨ v4 = 1 ∨ v4 = 2 ∨ v4 = 3 := by omega
    · subst c; exact ⟨_, .no rfl rfl, rfl⟩
    · subst c; exact ⟨_, .no rfl rfl, rfl⟩
    · subst c; exact ⟨_, .pair 2 2 (by decide +kernel), rfl⟩
    · subst c; exact ⟨_, .no rfl rfl, rfl⟩
  obtain ⟨dS, tS, bS, g5⟩ : ∃ d, Ty d ∧ wholeB d (.int 0) (.int 3) = false ∧ ([D.int 4, .int (-1), .bl true, .non])[v5.toNat]? = some d := by
    obtain c | c | c | c : v5 = 0 ∨ v5 = 1 ∨ v5 = 2 ∨ v5 = 3 := by omega
    · subst c; exact ⟨_, ⟨_, rfl⟩, by decide, rfl⟩
    · subst c; exact ⟨_, ⟨_, rfl⟩, by decide, rfl⟩
    · subst c; exact ⟨_, ⟨_, rfl⟩, rfl, rfl⟩
    · subst c; exact ⟨_, ⟨_, rfl⟩, rfl, rfl⟩
  have R : RfOk x n ls ms ws hss rs dW i s spot dB dR dS := ⟨lo, ln, w, h1, h3, ts, lr, bW, by omega, bB, bR, tS, bS⟩
  refine ⟨_, o5.tk (m := 5) (by decide), ?_⟩
  refine call_okL ["_law_hand_here", "_law_line_here", "_law_word_here", "_law_tests", "_law_readings_here", "_law_most", "_law_odd", "_law_at", "_law_what", "_law_spot", "_law_bad", "_law_wrong_here", "_law_strange", "_law_ask", "_law_poles"] ["_law_hand_here", "_law_line_here", "_law_word_here", "_law_tests", "_law_readings_here", "_law_most"] (h.fl 1 "_law_refused" s__law_refused rfl) ⟨rfl, rfl, rfl, by decide +kernel, rfl, by decide +kernel, by decide +kernel⟩ (fun W cd ql hm hL LO => ?_) (fun _ _ _ _ _ _ us hl => match us, hl with | [_, _, _, _, _, _], _ => rfl)
  refine ws_asg (ρ1 := [some (.mu 0), some (.dat (line ls ms)), some (.dat (.tup (nums ws))), some (.dat (.tup (hss.map hum))), some (.dat (hum rs)), some (.dat dM), some (.dat dW), some (.dat (.int i)), some (.dat (.str s)), none, none, none, none, none, none]) (ev_callH 0 rfl (c1.mono (show 3 ≤ 10 by decide)) (ea_cons (ev_var 2 rfl rfl) ea_nil)) (eg_tup (egs_cons 6 rfl (by decide +kernel) (egs_cons 7 rfl (by decide +kernel) (egs_cons 8 rfl (by decide +kernel) egs_nil)))) ?_
  refine ws_set 9 (ev_callH 0 rfl c2 (ea_cons (ev_cb h.li.len (ea_cons (ev_var 3 rfl rfl) ea_nil) fn_len_t) ea_nil)) ?_
  refine ws_new 10 (en_list h.li (ea_cons (ev_var 3 rfl rfl) ea_nil)) ?_ (Nat.le_refl _)
  refine ws_sub 10 1 (n := spot) (d := dB) rfl (ev_ix (ev_callH 0 rfl (c3.mono (show 3 ≤ 10 by decide)) (by rw [← wl, show (ws.length : Int) = ((nums ws).length : Int) by simp]; exact (ea_cons (ev_cb h.li.len (ea_cons (ev_var 2 rfl rfl) ea_nil) fn_len_t) ea_nil))) ev_int (ix_tupN (by decide) rfl)) (ev_var 9 rfl rfl) rfl (by omega) (by simp; omega) ?_
  refine ws_freeze (ω := [hdD hd3]) 10 rfl (Nat.le_refl _) (mu_by rfl) ?_
  refine ws_new 11 (en_list h.li (ea_cons (ev_var 4 rfl rfl) ea_nil)) ?_ (Nat.le_refl _)
  refine ws_sub 11 1 (n := spot) (d := dR) rfl (ev_ix (ev_lst (ea_cons ev_int (ea_cons ev_non (ea_cons (ev_tup (ea_cons ev_int (ea_cons ev_int ea_nil))) (ea_cons (ev_lst (ea_cons ev_int (ea_cons ev_int ea_nil))) ea_nil))))) (ev_callH 0 rfl c4 (ea_cons ev_int ea_nil)) (ix_lstN r4.1 g4)) (ev_var 9 rfl rfl) rfl (by omega) (by simp [rats]; omega) ?_
  refine ws_freeze (ω := [hdD hd4]) 11 rfl (Nat.le_refl _) (mu_by rfl) ?_
  refine ws_set 12 (ev_ix (ev_lst (ea_cons ev_int (ea_cons (ev_neg ev_int) (ea_cons ev_bl (ea_cons ev_non ea_nil))))) (ev_callH 0 rfl c5 (ea_cons ev_int ea_nil)) (ix_lstN r5.1 g5)) ?_
  exact WS.cast (ref_loop h R hm hL LO (dM := dM) (hd := hd5) (ref_tail h R o5 hm hL LO)) (by rfl) (by rfl)
end
end Hw
set_option Elab.async false
set_option linter.all false
set_option maxRecDepth 100000
set_option maxHeartbeats 2000000
/-! The law's hand is new. -/
namespace Hw
open PySem PySem.Spec PyProof.Rows L2
section
variable {g : Gm} {N : List Str} {sc : Scope} {k : Nat} {W : Wm} {ρ : Rho} {pos p : Pos}
theorem nt_dec (x : Option HO) : Nt x ∨ ¬ Nt x := Classical.em _
theorem en_hand {x : Str} {e : Expr} {ns : List Int} {hd : Hd} (c : CallP g k x [.scr ns] (.val (.lst (hdD hd)))) (ha : EvA g N sc k W [e] ρ [] [.scr ns] [])
    (hg : glB sc x = true := by decide +kernel) (hdb : (x == ("__debug__" : Str)) = false := by decide) (h1 : noStar e [] := by exact fun _ => rfl) : EvN g N sc k W (.Call (.Name x p) [e] [] pos) ρ [] (hdD hd) [] := fun X B S M σ H E Q q => by
  classical
  obtain ⟨f, m1, fd, ps, dvs, dv, dds, m2, m3, m4, m5, F⟩ := c
  rw [← B.prog, ← B.w, ← B.K, ← B.mg, ← B.base] at F
  unfold sE
  intro pins s I
  have hM : M = [] := List.eq_nil_of_length_eq_zero (by rw [E.mlen]; rfl)
  subst hM
  have kfree : ∀ a o, X.K.lookup a = some o → H a = none := fun a o e => by
    have b1 := I.ok.mod.kin _ _ e
    obtain ⟨b2, b3⟩ := I.ok.bs _ _ b1
    exact I.base.free _ _ b2 b3 (I.ok.noex _ _ b1)
  refine (pe_callSD (E := callE W (.val (.lst (hdD hd)))) F B.room (gl_of B hg) (by rw [B.mg]; exact m1) (by rw [B.K]; exact m2) (by rw [B.K]; exact m3) m4 (fun σ => callP (r := .val (.lst (hdD hd))) B.tk (fun z => absurd z Bool.false_ne_true) σ) (pa_s X [e]) hdb (h1 X.env) rfl).run pins s σ H Q I ?_
  refine ha X B S [] σ H E _ fun vs H1 s1 o1 x1 => ?_
  have E1 := E.go s1 o1
  cases x1 with
  | cons y1 r1 =>
    cases r1
    cases y1 with
    | @scr a0 _ hsq =>
      let live : List Addr := ((List.range s.heap.objs.size).filter fun a => decide (Nt (H a))).filter fun a => decide (a ≠ a0)
      have hlive : ∀ a, Nt (H a) → a ≠ a0 → a ∈ live := fun a na ne => by
        obtain ⟨o, e, _⟩ := id na
        exact List.mem_filter.mpr ⟨List.mem_filter.mpr ⟨List.mem_range.mpr (I.hok.lt e), decide_eq_true na⟩, decide_eq_true ne⟩
      have lv : Lv (S ++ live) H1 := fun a h => by
        rcases List.mem_append.mp h with h | h
        · exact E1.live a h
        · exact s1.there a (of_decide_eq_true (List.mem_filter.mp (List.mem_filter.mp h).1).2)
      have hsq' : SqL' g (S ++ live) H1 a0 (ns.map .int) := by
        rcases hsq with ⟨h, r⟩ | h
        · refine .inl ⟨fun z => ?_, r⟩
          rcases List.mem_append.mp z with z | z
          · exact h z
          · exact absurd rfl (of_decide_eq_true (List.mem_filter.mp z).2)
        · exact .inr h
      refine ⟨S ++ live, [], ⟨rfl, fun k a ds e => by simp at e⟩, List.nodup_nil, fun a z => (by cases z), lv, E1.tabs, sl_app (SlL.ofD (M := []) (.cons (.scr hsq') .nil)) (m5 _ _), ?_⟩
      intro v H' t o' x'
      cases x' with
      | @lst b ws _ nb hb hs =>
        have nS : b ∉ S := fun z => nb (List.mem_append_right _ (List.mem_append_left _ z))
        have first : ∃ a1, ∃ w, ws = .ref a1 :: w := by
          obtain ⟨v1, w, rfl⟩ : ∃ v1 w, ws = v1 :: w := by
            cases ws with
            | nil => cases hs
            | cons v1 w => exact ⟨v1, w, rfl⟩
          cases hs with
          | cons z _ => cases z with | lst _ _ _ => exact ⟨_, _, rfl⟩
        have new : ¬ Nt (H b) := fun na => by
          by_cases eb : b = a0
          · subst eb
            rcases hsq with ⟨_, r | ⟨oo, r⟩⟩ | (r | ⟨_, r⟩) | ⟨oo, its, n, r, _⟩
            · have := t.keep b _ (fun z => by cases z) (fun ps z => by cases z) r
              rw [hb] at this
              obtain ⟨a1, w, rfl⟩ := first
              injection this with this
              injection this with this
              cases ns with
              | nil => cases this
              | cons i ns => injection this with z _; cases z
            · have := t.keep b _ (fun z => by cases z) (fun ps z => by cases z) r
              rw [hb] at this
              cases this
            · cases r
            · cases r
            · obtain ⟨o, e, _⟩ := na
              rw [kfree b oo (by rw [B.K]; exact r)] at e
              cases e
          · exact nb (List.mem_append_right _ (List.mem_append_right _ (hlive b na eb)))
        have ne_of : ∀ a, Nt (H a) → a ≠ b := fun a na z => new (z ▸ na)
        have eH : upd (fun a => if a = b then none else H' a) b (.lst ws) = H' := by
          funext a
          by_cases z : a = b
          · subst z; rw [upd_same, hb]
          · rw [upd_ne z]
            exact if_neg z
        have keep : ∀ a o, H' a = some o → (∀ us, o ≠ .lst us) → (fun a => if a = b then none else H' a) a = some o := fun a o e nl => by
          have : a ≠ b := fun z => by
            rw [z, hb] at e
            exact nl ws (Option.some.inj e).symm
          show (if a = b then none else H' a) = some o
          rw [if_neg this]
          exact e
        rw [← eH]
        have st : Stp g [] H (fun a => if a = b then none else H' a) := by
          have s2 : Stp g [] H H' := s1.trans t
          refine ⟨fun a o na nt e => ?_, fun tb => ?_, fun a na => ?_⟩
          · show (if a = b then none else H' a) = some o
            rw [if_neg (ne_of a ⟨o, e, nt⟩)]
            exact s2.keep a o na nt e
          · have tb := s2.tabs tb
            intro p hp
            obtain ⟨ps, e1, e2, e3⟩ := tb p hp
            refine ⟨ps, keep _ _ e1 (fun us z => by cases z), e2, fun pos cv h => ?_⟩
            obtain ⟨c, ec, e4⟩ := e3 pos cv h
            exact ⟨c, ec, keep _ _ e4 (fun us z => by cases z)⟩
          · obtain ⟨o, e, nt⟩ := s2.there a na
            exact ⟨o, by
              show (if a = b then none else H' a) = some o
              rw [if_neg (ne_of a na)]
              exact e, nt⟩
        refine q b ws _ st ⟨rfl, fun k a ds e => by simp at e⟩ (if_pos rfl) ?_
        cases hs with
        | cons z1 z2 =>
          refine .cons ?_ ?_
          · cases z1 with
            | @lst b1 us _ nb1 hb1 hs1 =>
              have eu := hs1.ints
              subst eu
              have ne1 : b1 ≠ b := fun z => by
                rw [z, hb] at hb1
                injection hb1 with hb1
                injection hb1 with hb1
                cases hc : hd.cells with
                | nil => rw [hc] at hb1; cases hb1
                | cons i l =>
                  rw [hc] at hb1
                  injection hb1 with z _
                  cases z
              refine .lst (fun z => nb1 (List.mem_append_right _ (List.mem_append_left _ z))) ?_ (DxL.ofInts _)
              show (if b1 = b then none else H' b1) = _
              rw [if_neg ne1]
              exact hb1
          · cases z2 with
            | cons z2 z3 =>
              cases z2
              cases z3 with
              | cons z3 z4 =>
                cases z3
                cases z4 with
                | cons z4 z5 =>
                  cases z4
                  cases z5
                  exact .cons (.int _) (.cons (.int _) (.cons (.int _) .nil))
end
end Hw
set_option Elab.async false
set_option linter.all false
set_option maxRecDepth 100000
set_option maxHeartbeats 2000000
/-! The walks: the law, first part. -/
namespace Hw
open PySem PySem.Spec PyProof.Rows L2

def hms (h : Hd) (n : Nat) : Nat → Hd
  | 0 => h
  | i + 1 => (hms h n i).humH n
theorem Hok.humH {h : Hd} (o : Hok h) (n : Nat) : Hok (h.humH n) := (o.tk (m := 2) (by decide)).dr (by decide) n
theorem Hok.hms {h : Hd} (o : Hok h) (n : Nat) : ∀ i, Hok (Hw.hms h n i)
  | 0 => o
  | i + 1 => (o.hms n i).humH n
theorem lev_cnt1 {n : Nat} : 0 < (fnd n 3).length := by
  show 0 < (([[]] ++ lev n 1) ++ lev n 2 ++ lev n 3).length
  simp
/-- what the law has drawn -/
structure LwOk (n : Nat) (ls ms : List Rat) (ws : List Int) (m : Nat) (hss : List (List Rat)) (l : List Int) (hd : Hd) : Prop where
  n7 : n ≤ 7
  lo : LnOk ls ms
  ln : ls.length = n
  w : WdOk n ws
  m3 : m ≤ 3
  h1 : 1 ≤ hss.length
  h3 : hss.length ≤ 3
  ts : ∀ hs ∈ hss, HmS n hs
  lf : l ∈ fnd n 3
  hd : Hok hd
section
variable {g : Gm} {x : XS g} {cH cW : Addr} (h : HasB g x cH cW)
include h
theorem law_a {ns : List Int} (hl : ns.length ≤ 63) : ∃ n ls ms ws m hss l hd, LwOk n ls ms ws m hss l hd ∧ ∀ (W : Wm) (P : Out → Prop), W.md = true →
    WS g ["_law_script", "_law_hand_here", "_law_count_here", "_law_lengths", "_law_marks", "_law_word_here", "_law_most", "_law_tests", "_law_wide", "_law_actual", "_law_line_here", "_law_wrong_here", "_law_readings_here", "_law_given", "_law_lots_here", "_law_due", "_law_ask", "_law_always", "_law_never", "_law_turn", "_law_k", "_law_hum_here", "_law_lot", "_law_pole"] (defScope s_law) 11 W 0 ((defBody s_law).drop 10) [some (.dat (.scr ns)), some (.mu 0), some (.dat (.int n)), some (.dat (hum ls)), some (.dat (hum ms)), some (.dat (.tup (nums ws))), some (.dat (.int m)), some (.dat (.tup (hss.map hum))), some (.dat (.lst (lots (fnd n 3)))), some (.dat (lot l)), some (.dat (line ls ms)), some (.dat (.tup (nums (wrongV ws l)))), none, none, none, none, none, none, none, none, none, none, none, none] [hdD hd] P →
    WS g ["_law_script", "_law_hand_here", "_law_count_here", "_law_lengths", "_law_marks", "_law_word_here", "_law_most", "_law_tests", "_law_wide", "_law_actual", "_law_line_here", "_law_wrong_here", "_law_readings_here", "_law_given", "_law_lots_here", "_law_due", "_law_ask", "_law_always", "_law_never", "_law_turn", "_law_k", "_law_hum_here", "_law_lot", "_law_pole"] (defScope s_law) 11 W 0 (defBody s_law) (startR ["_law_script", "_law_hand_here", "_law_count_here", "_law_lengths", "_law_marks", "_law_word_here", "_law_most", "_law_tests", "_law_wide", "_law_actual", "_law_line_here", "_law_wrong_here", "_law_readings_here", "_law_given", "_law_lots_here", "_law_due", "_law_ask", "_law_always", "_law_never", "_law_turn", "_law_k", "_law_hum_here", "_law_lot", "_law_pole"] [.dat (.scr ns)]) [] P := by
  have h0 := h.1.1.1
  have ch := (c__law_hand h0 hl).mono (show 1 ≤ 11 by decide)
  have o0 := hd0_ok hl
  generalize hd0 ns = hd at ch o0
  have r1 := Hd.tk_rng (h := hd) (m := 7) (by decide)
  have o1 := o0.tk (m := 7) (by decide)
  have c1 := (c__law_take h0 o0 (m := 7) (by decide) (Bt.mono (btd (by decide)) (by decide))).mono (show 2 ≤ 11 by decide)
  generalize (hd.tk 7).1 = v1 at r1 c1
  generalize (hd.tk 7).2 = hd1 at o1 c1
  obtain ⟨n, hn⟩ : ∃ n : Nat, 1 + v1 = (n : Int) := ⟨(1 + v1).toNat, by omega⟩
  have n1 : 1 ≤ n := by omega
  have n7 : n ≤ 7 := by omega
  have cl := (c__law_line h0 o1 (n := n) (by omega)).mono (show 4 ≤ 11 by decide)
  have d := line_ok o1 n1 (by omega)
  generalize (hd1.line n).1 = ls at cl d
  generalize (hd1.line n).2.1 = ms at cl d
  generalize (hd1.line n).2.2 = hd2 at cl d
  obtain ⟨ws, hd3, w, o3, cb⟩ := c__law_built h0 d.hd n1 (by omega)
  have r4 := Hd.tk_rng (h := hd3) (m := 4) (by decide)
  have o4 := o3.tk (m := 4) (by decide)
  have c4 := (c__law_take h0 o3 (m := 4) (by decide) (Bt.mono (btd (by decide)) (by decide))).mono (show 2 ≤ 11 by decide)
  generalize (hd3.tk 4).1 = v4 at r4 c4
  generalize (hd3.tk 4).2 = hd4 at o4 c4
  obtain ⟨m, rfl⟩ : ∃ m : Nat, v4 = (m : Int) := ⟨v4.toNat, by omega⟩
  have r5 := Hd.tk_rng (h := hd4) (m := 3) (by decide)
  have o5 := o4.tk (m := 3) (by decide)
  have c5 := (c__law_take h0 o4 (m := 3) (by decide) (Bt.mono (btd (by decide)) (by decide))).mono (show 2 ≤ 11 by decide)
  generalize (hd4.tk 3).1 = v5 at r5 c5
  generalize (hd4.tk 3).2 = hd5 at o5 c5
  obtain ⟨t, ht⟩ : ∃ t : Nat, 1 + v5 = (t : Int) := ⟨(1 + v5).toNat, by omega⟩
  have o6 := o5.hms n t
  have lc := lev_cnt1 (n := n)
  have fl := fnd_len (n := n) (by omega) 3 (by decide)
  have r7 := Hd.tk_rng (h := hms hd5 n t) (m := (((lots (fnd n 3)).length : Nat) : Int)) (by simp; omega)
  have o7 := o6.tk (m := (((lots (fnd n 3)).length : Nat) : Int)) (by simp; omega)
  have c7 := (c__law_take h0 o6 (m := (((lots (fnd n 3)).length : Nat) : Int)) (by simp; omega) (Bt.mono (btd (by simp; omega)) (by decide))).mono (show 2 ≤ 11 by decide)
  generalize ((hms hd5 n t).tk (((lots (fnd n 3)).length : Nat) : Int)).1 = u at r7 c7
  generalize ((hms hd5 n t).tk (((lots (fnd n 3)).length : Nat) : Int)).2 = hd7 at o7 c7
  obtain ⟨l, hlk⟩ := get_of (show u.toNat < (fnd n 3).length by simp at r7; omega)
  have ln := d.len
  have lo := d.ln
  refine ⟨n, ls, ms, ws, m, (List.range t).map fun i => (hms hd5 n i).hum n, l, hd7, ⟨n7, lo, ln, w, by omega, by simp; omega, by simp; omega, fun hs hh => ?_, List.mem_of_getElem? hlk, o7⟩, fun W P hm hr => ?_⟩
  · obtain ⟨i, _, rfl⟩ := List.mem_map.mp hh
    exact Hd.hum_ok _ n
  refine ws_new 1 (en_hand ch (ea_cons (ev_var 0 rfl rfl) ea_nil)) ?_ (Nat.le_refl _)
  refine ws_set 2 (d := .int n) (EvE.is (ev_bin ev_int (ev_callH 1 rfl c1 (ea_cons ev_int ea_nil)) bin_add) (by rw [hn])) ?_
  refine ws_asg (ρ1 := [some (.dat (.scr ns)), some (.mu 0), some (.dat (.int n)), some (.dat (hum ls)), some (.dat (hum ms)), none, none, none, none, none, none, none, none, none, none, none, none, none, none, none, none, none, none, none]) (ev_callH 1 rfl cl (ea_cons (ev_var 2 rfl rfl) ea_nil)) (eg_tup (egs_cons 3 rfl (by decide +kernel) (egs_cons 4 rfl (by decide +kernel) egs_nil))) ?_
  refine ws_set 5 (ev_callH 1 rfl (cb.mono (by decide)) (ea_cons (ev_var 2 rfl rfl) ea_nil)) ?_
  refine ws_set 6 (ev_callH 1 rfl c4 (ea_cons ev_int ea_nil)) ?_
  have eu : ((1 : Int) + v5).toNat = t := by omega
  have er : (ups 0 ((1 : Int) + v5).toNat).length = t := by rw [ups_len, eu]
  refine ws_set 7 (d := .tup (((List.range t).map fun i => (hms hd5 n i).hum n).map hum)) (ω1 := [hdD (hms hd5 n t)]) (EvE.is2 (ev_cty h.li.tuple (ea_cons (ev_lcH 19 [("_law_turn", 19)] (ups 0 ((1 : Int) + v5).toNat) D.int (fun i => [hdD (hms hd5 n i)]) (fun i => hum ((hms hd5 n i).hum n)) (ei_r1 h.li (ea_cons (ev_bin ev_int (ev_callH 1 rfl c5 (ea_cons ev_int ea_nil)) bin_add) ea_nil) (by omega)) (fun i k hk => (ev_callH 1 rfl ((c__law_hum h0 (o5.hms n i) (n := n) (by omega)).mono (show 3 ≤ 11 by decide)) (ea_cons (ev_var 2 rfl rfl) ea_nil))) (by omega)) ea_nil) fn_tuple_l) ?_ (by rw [er])) ?_
  · rw [er, List.map_map]
    rfl
  refine ws_set 8 (ev_call ((c__law_lots h0 n1 n7 (m := 3) (by decide)).mono (show 1 ≤ 11 by decide)) (ea_cons (ev_var 2 rfl rfl) (ea_cons ev_int ea_nil))) ?_
  have hl' : (lots (fnd n 3))[u.toNat]? = some (lot l) := map_get hlk
  refine ws_set 9 (ev_ix (ev_var 8 rfl rfl) (ev_callH 1 rfl c7 (ea_cons (ev_cb h.li.len (ea_cons (ev_var 8 rfl rfl) ea_nil) fn_len_l) ea_nil)) (ix_lstN r7.1 hl')) ?_
  obtain ⟨fI, fdI, FI, MI⟩ := h.mkL
  refine ws_set 10 (d := line ls ms) (ev_make h.li FI MI h.gL ((c_check_lengths h0 lo (.tup _) (.tup _)).mono (show 3 ≤ 9 by decide)) (ea_cons (ev_var 3 rfl rfl) (ea_cons (ev_var 4 rfl rfl) ea_nil))) ?_
  refine ws_set 11 (ev_call ((c__law_wrong h0 w.sg (by rw [w.len]; omega)).mono (by decide)) (ea_cons (ev_var 5 rfl rfl) (ea_cons (ev_var 9 rfl rfl) ea_nil))) ?_
  exact WS.cast hr (by rfl) (by rfl)
end
end Hw
set_option Elab.async false
set_option linter.all false
set_option maxRecDepth 100000
set_option maxHeartbeats 2000000
/-! The walks: the telling hum is read back. -/
namespace Hw
open PySem PySem.Spec PyProof.Rows L2

theorem rat_i1 (i : Int) : rat (i : Rat) = .tup [.int i, .int 1] := rat_int i
theorem sh_i1 (i : Int) : Sh 1 (.tup [.int i, .int 1]) := rat_int i ▸ sh_rat _
theorem odd_items {ws : List Int} {n : Nat} (o : WdOk n ws) (d : D) (h : d ∈ [D.tup [.int (rdg ws + 1), .int 1], .tup [.int (rdg ws + 2), .int 1], .tup [.int (-rdg ws), .int 1], .tup [.int ((1 : Int) * 2 ^ ((n : Int)).toNat + 1), .int 1], .tup [.int (rdg ws * 2 + 1), .int 2], .tup [.int (-1 - (1 : Int) * 2 ^ ((n : Int)).toNat), .int 1]]) :
    ∃ q : Rat, d = rat q ∧ wor n q.num q.den = none := by
  have eu : (1 : Int) * 2 ^ ((n : Int)).toNat = 2 ^ n := by rw [Int.toNat_natCast, Int.one_mul]
  obtain ⟨w1, w2, w3, w4, w5⟩ := wor_odds o
  have one : ∀ i : Int, wor n i 1 = none → ∃ q : Rat, D.tup [.int i, .int 1] = rat q ∧ wor n q.num q.den = none := fun i e => ⟨(i : Rat), (rat_int i).symm, by rw [Rat.num_intCast, Rat.den_intCast]; exact e⟩
  simp only [List.mem_cons, List.not_mem_nil, or_false] at h
  rw [eu] at h
  rcases h with rfl | rfl | rfl | rfl | rfl | rfl
  · exact one _ w1
  · exact one _ w2
  · exact one _ w3
  · exact one _ w4
  · obtain ⟨e1, e2⟩ := rat_half (rdg ws)
    exact ⟨_, e1.symm, wor_den (by intro z; exact e2 (by exact_mod_cast z))⟩
  · exact one _ w5
section
variable {g : Gm} {x : XS g} {cH cW : Addr} (h : HasA g x cH cW)
include h
theorem c__law_telling {hd : Hd} (o : Hok hd) : ∃ hd', Hok hd' ∧ CallH g 6 "_law_telling" [] (hdD hd) (.val (.bl true)) (hdD hd') := by
  obtain ⟨n, ls, ms, ws, hd1, wok, lo, ln, o1, top⟩ := tell_top h o
  have n1 := wok.pos
  have n24 := wok.le
  have wl := wok.len
  have o2 := o1.tk (m := 1048576) (by decide)
  have r2 := Hd.tk_rng (h := hd1) (m := 1048576) (by decide)
  have cp := (c__law_take h.1.1 o1 (m := 1048576) (by decide) (Bt.mono (n := 30) (show Int.natAbs _ < 2 ^ 30 by decide) (by decide))).mono (show 2 ≤ 5 by decide)
  generalize (hd1.tk 1048576).1 = v at r2 cp
  generalize (hd1.tk 1048576).2 = hd2 at o2 cp
  refine ⟨hd2, o2, ?_⟩
  refine call_okL ["_law_hand_here", "_law_count_here", "_law_lengths", "_law_marks", "_law_word_here", "_law_line_here", "_law_told", "_law_half", "_law_reading", "_law_odd", "_law_more", "_law_due", "_law_k"] ["_law_hand_here"] (h.fl 0 "_law_telling" s__law_telling rfl) ⟨rfl, rfl, rfl, by decide +kernel, rfl, by decide +kernel, by decide +kernel⟩ (fun W cd ql hm hL LO => ?_) (fun _ _ _ _ _ _ us hl => match us, hl with | [_], _ => rfl)
  refine top W _ hm ?_
  have hr0 := hf_rng ws
  rw [wl] at hr0
  have p24 : (2 : Int) ^ n ≤ 2 ^ 24 := by exact_mod_cast Nat.pow_le_pow_right (by decide : 0 < 2) n24
  have p0 : (0 : Int) < 2 ^ n := Int.pow_pos (by decide)
  have od := hf_odd wok.one
  have cn := (c__law_noise h.1.1 ln wl (tel_ok lo ln) n24 lo.bl wok.sg).mono (show 4 ≤ 5 by decide)
  rw [noise_telling ln wl lo.gt wok.sg, rat_i1] at cn
  have cw1 := (c_word_of_reading h.1 (q := ((rdg ws : Int) : Rat)) lo ln).mono (show 3 ≤ 5 by decide)
  rw [rat_i1, Rat.num_intCast, Rat.den_intCast, show (((1 : Nat) : Int)) = 1 from rfl, wor_own wok] at cw1
  have eu : (1 : Int) * 2 ^ ((n : Int)).toNat = 2 ^ n := by rw [Int.toNat_natCast, Int.one_mul]
  have e20 : (1 : Int) * 2 ^ ((20 : Int)).toNat = 1048576 := by decide
  rw [← e20] at cp
  let R0 : Rho := [some (.mu 0), some (.dat (.int n)), some (.dat (hum ls)), some (.dat (hum ms)), some (.dat (.tup (nums ws))), some (.dat (line ls ms)), some (.dat (.tup (rats (telling ls n)))), some (.dat (.int (hf ws))), some (.dat (.int (rdg ws))), none, none, none, none]
  refine ws_ifF (et_w (ew_or (et_cmp (ev_call cn (ea_cons (ev_var 2 rfl rfl) (ea_cons (ev_var 4 rfl rfl) (ea_cons (ev_var 6 rfl rfl) ea_nil)))) (ev_tup (ea_cons (ev_var 8 rfl rfl) (ea_cons ev_int ea_nil))) (cmp_neD (sh_i1 _) (sh_i1 _) (ne_f rfl))) (ew_or1 (et_cmp (ev_call cw1 (ea_cons (ev_var 5 rfl rfl) (ea_cons (ev_tup (ea_cons (ev_var 8 rfl rfl) (ea_cons ev_int ea_nil))) ea_nil))) (ev_var 4 rfl rfl) (cmp_neD (sh_nums ws) (sh_nums ws) (ne_f rfl)))))) ?_
  refine ws_for (is := [9]) (fun _ => R0) (fun i => R0.set 9 (some (.dat ([D.tup [.int (rdg ws + 1), .int 1], .tup [.int (rdg ws + 2), .int 1], .tup [.int (-rdg ws), .int 1], .tup [.int ((1 : Int) * 2 ^ ((n : Int)).toNat + 1), .int 1], .tup [.int (rdg ws * 2 + 1), .int 2], .tup [.int (-1 - (1 : Int) * 2 ^ ((n : Int)).toNat), .int 1]].getD i .non)))) (fun _ => [hdD hd1]) (items := [D.tup [.int (rdg ws + 1), .int 1], .tup [.int (rdg ws + 2), .int 1], .tup [.int (-rdg ws), .int 1], .tup [.int ((1 : Int) * 2 ^ ((n : Int)).toNat + 1), .int 1], .tup [.int (rdg ws * 2 + 1), .int 2], .tup [.int (-1 - (1 : Int) * 2 ^ ((n : Int)).toNat), .int 1]])
    (ei_lst (ev_lst (ea_cons (ev_tup (ea_cons (ev_bin (ev_var 8 rfl rfl) ev_int bin_add) (ea_cons ev_int ea_nil))) (ea_cons (ev_tup (ea_cons (ev_bin (ev_var 8 rfl rfl) ev_int bin_add) (ea_cons ev_int ea_nil))) (ea_cons (ev_tup (ea_cons (ev_neg (ev_var 8 rfl rfl)) (ea_cons ev_int ea_nil))) (ea_cons (ev_tup (ea_cons (ev_bin (ev_bin ev_int (ev_var 1 rfl rfl) (bin_shl (⟨by omega, by omega, by decide⟩))) ev_int bin_add) (ea_cons ev_int ea_nil))) (ea_cons (ev_tup (ea_cons (ev_bin (ev_bin (ev_var 8 rfl rfl) ev_int (bin_mul ((show Bt 30 (rdg ws) by show (rdg ws).natAbs < 2 ^ 30; unfold rdg; rw [wl]; omega)) (btd (by decide)) (by decide))) ev_int bin_add) (ea_cons ev_int ea_nil))) (ea_cons (ev_tup (ea_cons (ev_bin (ev_neg ev_int) (ev_bin ev_int (ev_var 1 rfl rfl) (bin_shl (⟨by omega, by omega, by decide⟩))) bin_sub) (ea_cons ev_int ea_nil))) ea_nil)))))))) (.refl _) (fun i d e => ?_) (fun i d e => ?_) ?_
  · rw [getD_of e]
    exact eg_name 9 rfl (by decide +kernel)
  · rw [getD_of e]
    obtain ⟨q, rfl, hq⟩ := odd_items wok d (List.mem_of_getElem? e)
    have c := (c_word_of_reading h.1 (q := q) lo ln).mono (show 3 ≤ 5 by decide)
    rw [hq] at c
    exact ws_ifF (et_cmp (ev_call c (ea_cons (ev_var 5 rfl rfl) (ea_cons (ev_var 9 rfl rfl) ea_nil))) ev_non cmp_notN) (ws_nil ⟨.keep (.keep (.keep (.keep (.keep (.keep (.keep (.keep (.keep (.drop (.keep (.keep (.keep .nil)))))))))))), rfl⟩)
  have hM : ∃ u, u = hf ws + 2 * (1 + v) := ⟨_, rfl⟩
  obtain ⟨u, hu⟩ := hM
  have u0 : 0 ≤ u ∧ u < 2 ^ 24 + 2 ^ 22 := by omega
  have uo : u % 2 = 1 := by omega
  refine ws_set 10 (d := .int u) (EvE.is (ev_bin (ev_var 7 rfl rfl) (ev_bin ev_int (ev_bin ev_int (ev_callH 0 rfl cp (ea_cons (ev_bin ev_int ev_int (bin_shl (⟨by decide, by decide, by decide⟩))) ea_nil)) bin_add) (bin_mul (btd (by decide)) ((show Bt 30 (1 + v) by show Int.natAbs _ < 2 ^ 30; omega)) (by decide))) bin_add) (by rw [hu])) ?_
  refine ws_set 11 (d := .non) ev_non ?_
  have bu : Bt 30 u := by show Int.natAbs _ < 2 ^ 30; omega
  have cw2 := (c_word_of_reading h.1 (q := ((2 * u - 2 ^ n + 1 : Int) : Rat)) lo ln).mono (show 3 ≤ 5 by decide)
  rw [rat_i1, Rat.num_intCast, Rat.den_intCast, show (((1 : Nat) : Int)) = 1 from rfl, wor_odd u0.1 uo] at cw2
  have e2u : u * 2 - (1 : Int) * 2 ^ ((n : Int)).toNat + 1 = 2 * u - 2 ^ n + 1 := by rw [eu]; omega
  rw [← e2u] at cw2
  have last : ∀ due : D, (∃ ow, due = optW ow ∧ ow = if u < 2 ^ n then some ((List.range n).map fun k => if u / 2 ^ k % 2 = 1 then 1 else -1) else none) →
      WS g ["_law_hand_here", "_law_count_here", "_law_lengths", "_law_marks", "_law_word_here", "_law_line_here", "_law_told", "_law_half", "_law_reading", "_law_odd", "_law_more", "_law_due", "_law_k"] (defScope s__law_telling) 5 W 1 ((defBody s__law_telling).drop 13) [some (.mu 0), some (.dat (.int n)), some (.dat (hum ls)), some (.dat (hum ms)), some (.dat (.tup (nums ws))), some (.dat (line ls ms)), some (.dat (.tup (rats (telling ls n)))), some (.dat (.int (hf ws))), some (.dat (.int (rdg ws))), none, some (.dat (.int u)), some (.dat due), none] [hdD hd2] (Fin (.val (.bl true)) [hdD hd2]) := fun due hdue => by
    obtain ⟨ow, rfl, rfl⟩ := hdue
    refine ws_ifF (et_cmp (ev_call cw2 (ea_cons (ev_var 5 rfl rfl) (ea_cons (ev_tup (ea_cons (ev_bin (ev_bin (ev_bin (ev_var 10 rfl rfl) ev_int (bin_mul bu (btd (by decide)) (by decide))) (ev_bin ev_int (ev_var 1 rfl rfl) (bin_shl (⟨by omega, by omega, by decide⟩))) bin_sub) ev_int bin_add) (ea_cons ev_int ea_nil))) ea_nil))) (ev_var 11 rfl rfl) (cmp_neD (sh_opt _) (sh_opt _) (ne_f rfl))) ?_
    refine ws_ret (ev_cmp (ev_caught h hL LO (k := 3) (d := .tup [.str "BadAmount"]) (Caught.bare ⟨"BadAmount", x.a, false⟩ (by simp) rfl) (fun W' hm' => ev_call (c_word_of_readingX h.1 (NRat.no rfl rfl)) (ea_cons (ev_var 5 rfl rfl) (ea_cons (ev_var 8 rfl rfl) ea_nil)) (fun _ => hm'))) (ev_tup (ea_cons ev_str ea_nil)) (cmp_eqD (b := true) (n := 1) (m := 1) (.tup fun d hd => ?_) (.tup fun d hd => ?_) (eq_t rfl))) ⟨rfl, rfl⟩
    · rw [List.mem_singleton.mp hd]; exact .str (by decide +kernel)
    · rw [List.mem_singleton.mp hd]; exact .str (by decide +kernel)
  by_cases c : u < 2 ^ n
  · refine ws_ifT (EvT.is (et_cmp (ev_var 10 rfl rfl) (ev_bin ev_int (ev_var 1 rfl rfl) (bin_shl (⟨by omega, by omega, by decide⟩))) cmp_lt) (by rw [eu]; exact decide_eq_true c)) ?_
    refine ws_set 11 (d := optW (some ((List.range n).map fun k => if u / 2 ^ k % 2 = 1 then 1 else -1))) (EvE.is (ev_cty h.li.tuple (ea_cons (ev_lcM 12 [("_law_k", 12)] (List.range n) (fun s => D.int (0 + (s : Int))) (fun s => D.int (if u / 2 ^ s % 2 = 1 then 1 else -1)) ?_ (fun s hs => ?_) (by simp; omega)) ea_nil) fn_tuple_l) (by simp [optW, nums])) (ws_nil ?_)
    · have e : (List.range n).map (fun (s : Nat) => D.int (0 + (s : Int))) = (ups 0 ((n : Int)).toNat).map D.int := by
        unfold ups
        rw [List.map_map]
        simp
      rw [e]
      exact (ei_r1 h.li (ea_cons (ev_var 1 rfl rfl) ea_nil) (by omega))
    · have es : ((0 : Int) + (s : Int)).toNat = s := int_nat s
      by_cases c3 : u / 2 ^ s % 2 = 1
      · rw [if_pos c3]
        exact ev_ifT (EvT.is (et_tru (ev_bin (ev_cty h.li.int (ea_cons (ev_bin (ev_var 10 rfl rfl) (ev_var 12 rfl rfl) (bin_shr (by omega))) ea_nil) fn_int) ev_int (bin_mod (by decide)))) (by rw [es, c3]; rfl)) ev_int
      · rw [if_neg c3]
        exact ev_ifF (EvT.is (et_tru (ev_bin (ev_cty h.li.int (ea_cons (ev_bin (ev_var 10 rfl rfl) (ev_var 12 rfl rfl) (bin_shr (by omega))) ea_nil) fn_int) ev_int (bin_mod (by decide)))) (by rw [es, show u / 2 ^ s % 2 = 0 by omega]; rfl)) (ev_neg ev_int)
    · exact WS.cast (last _ ⟨_, rfl, by rw [if_pos c]⟩) (by rfl) (by rfl)
  · refine ws_ifF (EvT.is (et_cmp (ev_var 10 rfl rfl) (ev_bin ev_int (ev_var 1 rfl rfl) (bin_shl (⟨by omega, by omega, by decide⟩))) cmp_lt) (by rw [eu]; exact decide_eq_false c)) ?_
    exact WS.cast (last .non ⟨none, rfl, by rw [if_neg c]⟩) (by rfl) (by rfl)
end
end Hw
set_option Elab.async false
set_option linter.all false
set_option maxRecDepth 100000
set_option maxHeartbeats 2000000
/-! The walks: the law, second part. -/
namespace Hw
open PySem PySem.Spec PyProof.Rows L2

theorem noise_bt {ls hs : List Rat} {ws : List Int} {n : Nat} (l1 : ls.length = n) (l2 : ws.length = n) (m : HmOk n hs) (le : n ≤ 24) (bl : ∀ q ∈ ls, Rb 20 q) (sg : ∀ w ∈ ws, Sgn w) : Rb 2000 (noise ls ws hs) := by
  have tl : (terms ls ws hs ws.length).length = n := by simp [terms, l2]
  have l3 := m.len
  have tb : ∀ q ∈ terms ls ws hs ws.length, Rb 80 q := fun q hq => by
    obtain ⟨i, hi, rfl⟩ := List.mem_map.mp hq
    have hi := List.mem_range.mp hi
    obtain ⟨w', ew⟩ := get_of (show i < ws.length by omega)
    obtain ⟨l, hl⟩ := get_of (show i < ls.length by omega)
    obtain ⟨q, hq⟩ := get_of (show i < hs.length by omega)
    exact (term_bt hl hq ew (bl l (List.mem_of_getElem? hl)) (m.bt q (List.mem_of_getElem? hq)) (sg w' (List.mem_of_getElem? ew))).2
  have := sum_bt _ tb
  rw [tl] at this
  exact this.mono (by omega)
theorem rev_map (l : List Int) : (List.range l.length).map (fun s => D.int (l.getD (l.length - 1 - s) 0)) = nums l.reverse := by
  refine List.ext_getElem (by simp) fun k h1 h2 => ?_
  have hk : k < l.length := by simpa using h1
  simp only [List.getElem_map, List.getElem_range, List.getElem_reverse]
  rw [List.getD_eq_getElem?_getD, List.getElem?_eq_getElem (by omega)]
  rfl
theorem wrongV_ok {n : Nat} {ws l : List Int} (w : WdOk n ws) (o : LotOk n l) : WdOk n (wrongV ws l) := by
  refine ⟨by rw [wrongV_len, w.len], w.pos, w.le, wrongV_sgn w.sg, ?_⟩
  have wl := w.len
  have wp := w.pos
  unfold wrongV
  rw [List.getElem?_map, List.getElem?_range (by omega)]
  have e : ws.getD 0 0 = 1 := getD_of w.one
  show some (ws.getD 0 0 * (if ((0 : Nat) : Int) ∈ l then -1 else 1)) = some 1
  rw [e, if_neg (fun z => by have := (o.rng _ z).1; omega)]
  rfl
section
variable {g : Gm} {x : XS g} {cH cW : Addr} (h : HasB g x cH cW)
include h
theorem law_b {ns : List Int} {n : Nat} {ls ms : List Rat} {ws : List Int} {m : Nat} {hss : List (List Rat)} {l : List Int} {hd : Hd} (o : LwOk n ls ms ws m hss l hd) : ∃ rs hd', rs.length = hss.length ∧ Hok hd' ∧ ∀ (W : Wm) (P : Out → Prop), W.md = true →
    WS g ["_law_script", "_law_hand_here", "_law_count_here", "_law_lengths", "_law_marks", "_law_word_here", "_law_most", "_law_tests", "_law_wide", "_law_actual", "_law_line_here", "_law_wrong_here", "_law_readings_here", "_law_given", "_law_lots_here", "_law_due", "_law_ask", "_law_always", "_law_never", "_law_turn", "_law_k", "_law_hum_here", "_law_lot", "_law_pole"] (defScope s_law) 11 W 0 ((defBody s_law).drop 15) [some (.dat (.scr ns)), some (.mu 0), some (.dat (.int n)), some (.dat (hum ls)), some (.dat (hum ms)), some (.dat (.tup (nums ws))), some (.dat (.int m)), some (.dat (.tup (hss.map hum))), some (.dat (.lst (lots (fnd n 3)))), some (.dat (lot l)), some (.dat (line ls ms)), some (.dat (.tup (nums (wrongV ws l)))), some (.dat (hum rs)), some (.dat (.lst (hss.map fun hs => .lst (rats hs)))), none, none, none, none, none, none, none, none, none, none] [hdD hd'] P →
    WS g ["_law_script", "_law_hand_here", "_law_count_here", "_law_lengths", "_law_marks", "_law_word_here", "_law_most", "_law_tests", "_law_wide", "_law_actual", "_law_line_here", "_law_wrong_here", "_law_readings_here", "_law_given", "_law_lots_here", "_law_due", "_law_ask", "_law_always", "_law_never", "_law_turn", "_law_k", "_law_hum_here", "_law_lot", "_law_pole"] (defScope s_law) 11 W 0 ((defBody s_law).drop 10) [some (.dat (.scr ns)), some (.mu 0), some (.dat (.int n)), some (.dat (hum ls)), some (.dat (hum ms)), some (.dat (.tup (nums ws))), some (.dat (.int m)), some (.dat (.tup (hss.map hum))), some (.dat (.lst (lots (fnd n 3)))), some (.dat (lot l)), some (.dat (line ls ms)), some (.dat (.tup (nums (wrongV ws l)))), none, none, none, none, none, none, none, none, none, none, none, none] [hdD hd] P := by
  have h0 := h.1.1.1
  have hx := h.1.1
  have n7 := o.n7
  have n1 := o.w.pos
  have lo := o.lo
  have ln := o.ln
  have w := o.w
  have wl := w.len
  have h3 := o.h3
  have lok := fnd_ok o.lf
  have ll := (lot_in o.lf (by decide)).2
  have wv := wrongV_ok w lok
  have r1 := Hd.tk_rng (h := hd) (m := 6) (by decide)
  have o1 := o.hd.tk (m := 6) (by decide)
  have c1 := (c__law_take h0 o.hd (m := 6) (by decide) (Bt.mono (btd (by decide)) (by decide))).mono (show 2 ≤ 11 by decide)
  generalize (hd.tk 6).1 = v at r1 c1
  generalize (hd.tk 6).2 = hd1 at o1 c1
  have cw := (c_wrong_word hx lo ln w (.lst (nums ws)) (.lst (nums l.reverse)) ⟨fun p hp => by have := lok.rng p (List.mem_reverse.mp hp); omega, (List.reverse_perm l).nodup_iff.mpr lok.nd⟩ (by rw [List.length_reverse]; omega) (List.reverse_perm l).symm (lok.up.imp fun h => by omega)).mono (show 5 ≤ 11 by decide)
  rw [wrong_flips lok] at cw
  have cr := (c__law_readings h0 ln (by rw [wrongV_len, wl]) (fun hs hh => (o.ts hs hh).ok) (by omega) lo.bl (wrongV_sgn w.sg) (hss := hss) (by omega) (ws := wrongV ws l)).mono (show 5 ≤ 11 by decide)
  have tok : TsOk n (.lst (hss.map fun hs => D.lst (rats hs))) (hss.map fun hs => .lst (rats hs)) hss := ⟨.lst _, by simp, o.h1, by omega, by omega, fun i hs e => ⟨(o.ts hs (List.mem_of_getElem? e)).len, _, by rw [List.getElem?_map, e]; rfl, .lst _⟩⟩
  have ct := (c_read_tests hx lo ln (.tup (nums (wrongV ws l))) wv tok o.ts).mono (show 6 ≤ 11 by decide)
  have cc := (c_check_tests hx (ms := ms) ln tok).mono (show 4 ≤ 11 by decide)
  obtain ⟨q0, hst, ehs⟩ : ∃ h0 hst, hss = h0 :: hst := by
    cases hss with
    | nil => exact absurd o.h1 (by simp)
    | cons a b => exact ⟨a, b, rfl⟩
  have rlen : (hss.map (noise ls (wrongV ws l))).length = hss.length := by simp
  have body : ∀ (W : Wm) (P : Out → Prop), W.md = true → WS g ["_law_script", "_law_hand_here", "_law_count_here", "_law_lengths", "_law_marks", "_law_word_here", "_law_most", "_law_tests", "_law_wide", "_law_actual", "_law_line_here", "_law_wrong_here", "_law_readings_here", "_law_given", "_law_lots_here", "_law_due", "_law_ask", "_law_always", "_law_never", "_law_turn", "_law_k", "_law_hum_here", "_law_lot", "_law_pole"] (defScope s_law) 11 W 0 ((defBody s_law).drop 14) [some (.dat (.scr ns)), some (.mu 0), some (.dat (.int n)), some (.dat (hum ls)), some (.dat (hum ms)), some (.dat (.tup (nums ws))), some (.dat (.int m)), some (.dat (.tup (hss.map hum))), some (.dat (.lst (lots (fnd n 3)))), some (.dat (lot l)), some (.dat (line ls ms)), some (.dat (.tup (nums (wrongV ws l)))), some (.dat (hum (hss.map (noise ls (wrongV ws l))))), some (.dat (.lst (hss.map fun hs => .lst (rats hs)))), none, none, none, none, none, none, none, none, none, none] [hdD hd] P →
      WS g ["_law_script", "_law_hand_here", "_law_count_here", "_law_lengths", "_law_marks", "_law_word_here", "_law_most", "_law_tests", "_law_wide", "_law_actual", "_law_line_here", "_law_wrong_here", "_law_readings_here", "_law_given", "_law_lots_here", "_law_due", "_law_ask", "_law_always", "_law_never", "_law_turn", "_law_k", "_law_hum_here", "_law_lot", "_law_pole"] (defScope s_law) 11 W 0 ((defBody s_law).drop 10) [some (.dat (.scr ns)), some (.mu 0), some (.dat (.int n)), some (.dat (hum ls)), some (.dat (hum ms)), some (.dat (.tup (nums ws))), some (.dat (.int m)), some (.dat (.tup (hss.map hum))), some (.dat (.lst (lots (fnd n 3)))), some (.dat (lot l)), some (.dat (line ls ms)), some (.dat (.tup (nums (wrongV ws l)))), none, none, none, none, none, none, none, none, none, none, none, none] [hdD hd] P := fun W P hm hr => by
    refine ws_ifF (et_cmp (ev_call cw (ea_cons (ev_var 10 rfl rfl) (ea_cons (ev_cty h.li.list (ea_cons (ev_var 5 rfl rfl) ea_nil) fn_list_t) (ea_cons (EvE.is (ev_lcM 20 [("_law_k", 20)] (List.range l.length) (fun s => D.int (0 + (s : Int))) (fun s => D.int (l.getD (l.length - 1 - s) 0)) ?_ (fun s hs => ?_) (by simp; omega)) (by rw [rev_map])) ea_nil)))) (ev_var 11 rfl rfl) (cmp_neD (sh_nums _) (sh_nums _) (ne_f rfl))) ?_
    · have e : (List.range l.length).map (fun (s : Nat) => D.int (0 + (s : Int))) = (ups 0 ((((nums l).length : Nat) : Int)).toNat).map D.int := by
        unfold ups
        rw [List.map_map]
        simp
      rw [e]
      exact (ei_r1 h.li (ea_cons (ev_cb h.li.len (ea_cons (ev_var 9 rfl rfl) ea_nil) fn_len_t) ea_nil) (by simp; omega))
    · have hs := List.mem_range.mp hs
      obtain ⟨p, hp⟩ := get_of (show l.length - 1 - s < l.length by omega)
      have hp' : (nums l)[(((nums l).length : Int) - 1 - (0 + (s : Int))).toNat]? = some (.int p) := by
        rw [show (((nums l).length : Int) - 1 - (0 + (s : Int))).toNat = l.length - 1 - s by rw [List.length_map]; omega]
        exact map_get hp
      rw [getD_of hp]
      exact (ev_ix (ev_var 9 rfl rfl) (ev_bin (ev_bin (ev_cb h.li.len (ea_cons (ev_var 9 rfl rfl) ea_nil) fn_len_t) ev_int bin_sub) (ev_var 20 rfl rfl) bin_sub) (ix_tupN (by rw [List.length_map]; omega) hp'))
    refine ws_set 12 (ev_call cr (ea_cons (ev_var 3 rfl rfl) (ea_cons (ev_var 11 rfl rfl) (ea_cons (ev_var 7 rfl rfl) ea_nil)))) ?_
    refine ws_setM 13 21 [("_law_hum_here", 21)] hss hum (fun hs => .lst (rats hs)) (ei_tup (ev_var 7 rfl rfl)) (fun hs hh => (ev_cty h.li.list (ea_cons (ev_var 21 rfl rfl) ea_nil) fn_list_t)) (by omega) ?_
    refine ws_ifF (et_w (ew_or (et_cmp (ev_call ct (ea_cons (ev_var 10 rfl rfl) (ea_cons (ev_var 11 rfl rfl) (ea_cons (ev_var 13 rfl rfl) ea_nil)))) (ev_var 12 rfl rfl) (cmp_neD (sh_hum (hss.map (noise ls (wrongV ws l)))) (sh_hum (hss.map (noise ls (wrongV ws l)))) (ne_f rfl))) (ew_or1 (et_cmp (ev_call cc (ea_cons (ev_var 10 rfl rfl) (ea_cons (ev_var 13 rfl rfl) ea_nil))) (ev_var 7 rfl rfl) (cmp_neD (sh_hums hss) (sh_hums hss) (ne_f rfl)))))) ?_
    exact WS.cast hr (by rfl) (by rfl)
  by_cases c : v = 0
  · subst ehs
    have hq := o.ts q0 List.mem_cons_self
    have h2 : hst.length ≤ 2 := by have := o.h3; simp at this; omega
    have b0 := noise_bt (hs := q0) ln (by rw [wrongV_len, wl]) hq.ok (by omega) lo.bl (wrongV_sgn (l := l) w.sg)
    have cp := (c__law_plus h0 (noise ls (wrongV ws l) q0) ((1 : Int) : Rat) (b0.mono (by decide)) ((Rb.int (n := 2) (i := 1) (by show (1 : Int).natAbs < 2 ^ 2; decide)).mono (by decide))).mono (show 3 ≤ 11 by decide)
    rw [rat_i1] at cp
    refine ⟨hst.map (noise ls (wrongV ws l)) ++ [noise ls (wrongV ws l) q0 + ((1 : Int) : Rat)], hd1, by simp, o1, fun W P hm hr => body W P hm ?_⟩
    refine ws_ifT (EvT.is (et_cmp (ev_callH 1 rfl c1 (ea_cons ev_int ea_nil)) ev_int cmp_eqI) (decide_eq_true c)) ?_
    refine ws_set 12 (d := hum (hst.map (noise ls (wrongV ws l)) ++ [noise ls (wrongV ws l) q0 + ((1 : Int) : Rat)])) (EvE.is (ev_bin (ev_slFrom (ev_var 12 rfl rfl) ev_int (by decide) (by simp; omega)) (ev_tup (ea_cons (ev_call cp (ea_cons (ev_ix (ev_var 12 rfl rfl) ev_int (ix_tupN (by decide) rfl)) (ea_cons (ev_tup (ea_cons ev_int (ea_cons ev_int ea_nil))) ea_nil))) ea_nil)) (bin_addT (by simp; omega))) (by simp [hum, rats])) (ws_nil ?_)
    exact WS.cast hr (by rfl) (by rfl)
  · refine ⟨hss.map (noise ls (wrongV ws l)), hd1, by simp, o1, fun W P hm hr => body W P hm ?_⟩
    refine ws_ifF (EvT.is (et_cmp (ev_callH 1 rfl c1 (ea_cons ev_int ea_nil)) ev_int cmp_eqI) (decide_eq_false c)) ?_
    exact WS.cast hr (by rfl) (by rfl)
end
end Hw
set_option Elab.async false
set_option linter.all false
set_option maxRecDepth 100000
set_option maxHeartbeats 2000000
/-! The walks: the law, last part. -/
namespace Hw
open PySem PySem.Spec PyProof.Rows L2

section
variable {g : Gm} {x : XS g} {cH cW : Addr} (h : HasB g x cH cW)
include h
/-- the long lines, what is refused, the telling hum -/
theorem law_end {n : Nat} {ls ms : List Rat} {ws : List Int} {m : Nat} {hss : List (List Rat)} {l : List Int} {rs : List Rat} {hd0 hd : Hd} (o : LwOk n ls ms ws m hss l hd0) (lr : rs.length = hss.length) (ok : Hok hd) {W : Wm} (hm : W.md = true) (q0 q2 q3 q4 q8 q9 q11 q13 q14 q15 q17 q18 : Option Sl) :
    WS g ["_law_script", "_law_hand_here", "_law_count_here", "_law_lengths", "_law_marks", "_law_word_here", "_law_most", "_law_tests", "_law_wide", "_law_actual", "_law_line_here", "_law_wrong_here", "_law_readings_here", "_law_given", "_law_lots_here", "_law_due", "_law_ask", "_law_always", "_law_never", "_law_turn", "_law_k", "_law_hum_here", "_law_lot", "_law_pole"] (defScope s_law) 11 W 0 ((defBody s_law).drop 19) [q0, some (.mu 0), q2, q3, q4, some (.dat (.tup (nums ws))), some (.dat (.int m)), some (.dat (.tup (hss.map hum))), q8, q9, some (.dat (line ls ms)), q11, some (.dat (hum rs)), q13, q14, q15, none, q17, q18, none, none, none, none, none] [hdD hd] (Fin (.val (.bl true)) []) := by
  have h0 := h.1.1.1
  have r1 := Hd.tk_rng (h := hd) (m := 4) (by decide)
  have o1 := ok.tk (m := 4) (by decide)
  have c1 := (c__law_take h0 ok (m := 4) (by decide) (Bt.mono (btd (by decide)) (by decide))).mono (show 2 ≤ 11 by decide)
  generalize (hd.tk 4).1 = v at r1 c1
  generalize (hd.tk 4).2 = hd1 at o1 c1
  have last : ∀ hd2, Hok hd2 → WS g ["_law_script", "_law_hand_here", "_law_count_here", "_law_lengths", "_law_marks", "_law_word_here", "_law_most", "_law_tests", "_law_wide", "_law_actual", "_law_line_here", "_law_wrong_here", "_law_readings_here", "_law_given", "_law_lots_here", "_law_due", "_law_ask", "_law_always", "_law_never", "_law_turn", "_law_k", "_law_hum_here", "_law_lot", "_law_pole"] (defScope s_law) 11 W 0 ((defBody s_law).drop 20) [q0, some (.mu 0), q2, q3, q4, some (.dat (.tup (nums ws))), some (.dat (.int m)), some (.dat (.tup (hss.map hum))), q8, q9, some (.dat (line ls ms)), q11, some (.dat (hum rs)), q13, q14, q15, none, q17, q18, none, none, none, none, none] [hdD hd2] (Fin (.val (.bl true)) []) := fun hd2 o2 => by
    obtain ⟨hd3, o3, cR⟩ := c__law_refused h.1 o2 (dM := .int m) o.lo o.ln o.w o.h1 o.h3 o.ts lr
    obtain ⟨hd4, o4, cT⟩ := c__law_telling h.1 o3
    exact ws_ret (ev_and (ev_callH 1 rfl cR (ea_cons (ev_var 10 rfl rfl) (ea_cons (ev_var 5 rfl rfl) (ea_cons (ev_var 7 rfl rfl) (ea_cons (ev_var 12 rfl rfl) (ea_cons (ev_var 6 rfl rfl) ea_nil)))))) (ev_one (ev_callH 1 rfl (cT.mono (by decide)) ea_nil))) ⟨rfl, rfl⟩
  by_cases c : v = 0
  · obtain ⟨hd2, o2, cL⟩ := c__law_long h o1
    refine ws_ifF (et_w (ew_and (EvT.is (et_cmp (ev_callH 1 rfl c1 (ea_cons ev_int ea_nil)) ev_int cmp_eqI) (decide_eq_true c)) (ew_and1 (et_nF (et_tru (ev_callH 1 rfl (cL.mono (by decide)) ea_nil)))))) ?_
    exact WS.cast (last hd2 o2) (by rfl) (by rfl)
  · refine ws_ifF (et_w (ew_and0 (EvT.is (et_cmp (ev_callH 1 rfl c1 (ea_cons ev_int ea_nil)) ev_int cmp_eqI) (decide_eq_false c)))) ?_
    exact WS.cast (last hd1 o1) (by rfl) (by rfl)
theorem law_c {ns : List Int} {n : Nat} {ls ms : List Rat} {ws : List Int} {m : Nat} {hss : List (List Rat)} {l : List Int} {rs : List Rat} {hd0 hd : Hd} (o : LwOk n ls ms ws m hss l hd0) (lr : rs.length = hss.length) (ok : Hok hd) {W : Wm} {cd : Value} {ql : Str} (hm : W.md = true) (hL : W.lam = some (cd, ql)) (LO : LamOk g cd ql) :
    WS g ["_law_script", "_law_hand_here", "_law_count_here", "_law_lengths", "_law_marks", "_law_word_here", "_law_most", "_law_tests", "_law_wide", "_law_actual", "_law_line_here", "_law_wrong_here", "_law_readings_here", "_law_given", "_law_lots_here", "_law_due", "_law_ask", "_law_always", "_law_never", "_law_turn", "_law_k", "_law_hum_here", "_law_lot", "_law_pole"] (defScope s_law) 11 W 0 ((defBody s_law).drop 15) [some (.dat (.scr ns)), some (.mu 0), some (.dat (.int n)), some (.dat (hum ls)), some (.dat (hum ms)), some (.dat (.tup (nums ws))), some (.dat (.int m)), some (.dat (.tup (hss.map hum))), some (.dat (.lst (lots (fnd n 3)))), some (.dat (lot l)), some (.dat (line ls ms)), some (.dat (.tup (nums (wrongV ws l)))), some (.dat (hum rs)), some (.dat (.lst (hss.map fun hs => .lst (rats hs)))), none, none, none, none, none, none, none, none, none, none] [hdD hd] (Fin (.val (.bl true)) []) := by
  have h0 := h.1.1.1
  have hx := h.1.1
  have n7 := o.n7
  have n1 := o.w.pos
  have lo := o.lo
  have ln := o.ln
  have w := o.w
  have wl := w.len
  have h3 := o.h3
  have m3 := o.m3
  have fl := fnd_len (n := n) (by omega) m m3
  have tok : TsOk n (.tup (hss.map hum)) (hss.map hum) hss := ⟨.tup _, by simp, o.h1, by omega, by omega, fun i hs e => ⟨(o.ts hs (List.mem_of_getElem? e)).len, _, map_get e, .tup _⟩⟩
  have A1 : AskOk n ls ms ws hss rs m (.tup (nums ws)) (.tup (hss.map hum)) (.lst (rats rs)) (hss.map hum) := ⟨lo, ln, w, .tup _, tok, o.ts, .lst _, lr, m3⟩
  have A2 : AskOk n ls ms ws hss rs m (.tup (nums ws)) (.tup (hss.map hum)) (hum rs) (hss.map hum) := ⟨lo, ln, w, .tup _, tok, o.ts, .tup _, lr, m3⟩
  have fe := fits_eq (ls := ls) (hss := hss) (rs := rs) (m := m) wl n1
  have cl := (c_lots_that_fit hx A1).mono (show 6 ≤ 11 by decide)
  have flen := fits_len ls ws hss rs n m (by omega) m3
  generalize hF : fits ls ws hss rs n m = F at fe cl flen
  refine ws_set 14 (ev_call ((c__law_lots h0 n1 n7 m3).mono (show 1 ≤ 11 by decide)) (ea_cons (ev_var 2 rfl rfl) (ea_cons (ev_var 6 rfl rfl) ea_nil))) ?_
  refine ws_set 15 (d := .tup (lots F)) (EvE.is (ev_cty h.li.tuple (ea_cons (ev_lcF 22 [("_law_lot", 22)] (fnd n m) lot (fun l => decide (hss.map (noise ls (wrongV ws l)) = rs)) lot (ei_lst (ev_var 14 rfl rfl)) (fun l' hl' => ?_) (fun l' hl' _ => (ev_var 22 rfl rfl)) (by omega)) ea_nil) fn_tuple_l) (by rw [fe])) ?_
  · have cr := (c__law_readings h0 ln (by rw [wrongV_len, wl]) (fun hs hh => (o.ts hs hh).ok) (by omega) lo.bl (wrongV_sgn w.sg) (hss := hss) (by omega) (ws := wrongV ws l')).mono (show 5 ≤ 11 by decide)
    exact (et_cmp (ev_call cr (ea_cons (ev_var 3 rfl rfl) (ea_cons (ev_call ((c__law_wrong h0 w.sg (by rw [w.len]; omega)).mono (by decide)) (ea_cons (ev_var 5 rfl rfl) (ea_cons (ev_var 22 rfl rfl) ea_nil))) (ea_cons (ev_var 7 rfl rfl) ea_nil)))) (ev_var 12 rfl rfl) (cmp_eqD (sh_hum _) (sh_hum _) hum_iff))
  refine ws_ifF (et_w (ew_or (et_cmp (ev_call ((c_wrong_lots hx (m := m) ln (by omega) m3).mono (by decide)) (ea_cons (ev_var 10 rfl rfl) (ea_cons (ev_var 6 rfl rfl) ea_nil))) (ev_cty h.li.tuple (ea_cons (ev_var 14 rfl rfl) ea_nil) fn_tuple_l) (cmp_neD (sh_lots _) (sh_lots _) (ne_f rfl))) (ew_or1 (et_cmp (ev_call cl (ea_cons (ev_var 10 rfl rfl) (ea_cons (ev_var 5 rfl rfl) (ea_cons (ev_var 7 rfl rfl) (ea_cons (ev_cty h.li.list (ea_cons (ev_var 12 rfl rfl) ea_nil) fn_list_t) (ea_cons (ev_var 6 rfl rfl) ea_nil)))))) (ev_var 15 rfl rfl) (cmp_neD (sh_lots _) (sh_lots _) (ne_f rfl)))))) ?_
  by_cases e : F = []
  · have e' : fits ls ws hss rs n m = [] := hF.trans e
    obtain ⟨a2, m2⟩ := mg_fn hx 28 "sure_wrong" s_sure_wrong [] rfl
    obtain ⟨a3, m3'⟩ := mg_fn hx 29 "sure_right" s_sure_right [] rfl
    have each : ∀ (i : Nat) d, ([D.fn a2, .fn a3])[i]? = some d → ∃ a, d = .fn a ∧ CallF g 9 a ([line ls ms, .tup (nums ws), .tup (hss.map hum), hum rs, .int m].map .dat) [] (.exc ⟨x.n, none⟩) [] := fun i d ed => by
      match i, ed with
      | 0, ed => cases ed; exact ⟨a2, rfl, callF_of m2 ((c_sure_wrongN hx A2 e').mono (by decide))⟩
      | 1, ed => cases ed; exact ⟨a3, rfl, callF_of m3' ((c_sure_rightN hx A2 e').mono (by decide))⟩
      | i + 2, ed => simp at ed
    refine ws_ifT (EvT.is (et_not (et_tru (ev_var 15 rfl rfl))) (by rw [e]; rfl)) ?_
    let R0 : Rho := [some (.dat (.scr ns)), some (.mu 0), some (.dat (.int n)), some (.dat (hum ls)), some (.dat (hum ms)), some (.dat (.tup (nums ws))), some (.dat (.int m)), some (.dat (.tup (hss.map hum))), some (.dat (.lst (lots (fnd n 3)))), some (.dat (lot l)), some (.dat (line ls ms)), some (.dat (.tup (nums (wrongV ws l)))), some (.dat (hum rs)), some (.dat (.lst (hss.map fun hs => .lst (rats hs)))), some (.dat (.lst (lots (fnd n m)))), some (.dat (.tup (lots F))), none, none, none, none, none, none, none, none]
    refine ws_for (is := [16]) (items := [D.fn a2, .fn a3]) (fun _ => R0) (fun j => R0.set 16 (some (.dat (([D.fn a2, .fn a3]).getD j .non)))) (fun _ => [hdD hd]) (ei_tup (ev_tup (ea_cons (ev_glo (glo_fn m2)) (ea_cons (ev_glo (glo_fn m3')) ea_nil)))) (.refl _) (fun j d ed => ?_) (fun j d ed => ?_) (ws_nil ?_)
    · rw [getD_of ed]
      exact eg_name 16 rfl (by decide +kernel)
    · rw [getD_of ed]
      obtain ⟨a, rfl, cF⟩ := each j d ed
      refine ws_ifF (et_cmp (ev_caught h.1 hL LO (k := 9) (.bare ⟨"NoLots", x.n, false⟩ (by simp) rfl) (fun W' hm' => ev_callV 16 rfl cF (ea_cons (ev_var 10 rfl rfl) (ea_cons (ev_var 5 rfl rfl) (ea_cons (ev_var 7 rfl rfl) (ea_cons (ev_var 12 rfl rfl) (ea_cons (ev_var 6 rfl rfl) ea_nil))))) (hmd := fun _ => hm'))) (ev_tup (ea_cons ev_str ea_nil)) (cmp_neD (sh_one sok_n) (sh_one sok_n) (ne_f rfl))) (ws_nil ⟨?_, rfl⟩)
      exact .keep (.keep (.keep (.keep (.keep (.keep (.keep (.keep (.keep (.keep (.keep (.keep (.keep (.keep (.keep (.keep (.drop (.keep (.keep (.keep (.keep (.keep (.keep (.keep .nil)))))))))))))))))))))))
    · exact WS.cast (law_end h o lr ok hm _ _ _ _ _ _ _ _ _ _ _ _) (by rfl) (by rfl)
  · have e' : fits ls ws hss rs n m ≠ [] := by rw [hF]; exact e
    have cs := (c_sure_wrong hx A2 e').mono (show 8 ≤ 11 by decide)
    have cr := (c_sure_right hx A2 e').mono (show 8 ≤ 11 by decide)
    rw [hF] at cs cr
    have et : truB (.tup (lots F)) = true := by
      show (!(lots F).isEmpty) = true
      cases F with
      | nil => exact absurd rfl e
      | cons a b => rfl
    refine ws_ifE (EvT.is (et_not (et_tru (ev_var 15 rfl rfl))) (by rw [et]; rfl)) ?_
    refine ws_set 17 (d := .tup (nums (sureW n F))) (EvE.is (ev_cty h.li.tuple (ea_cons (ev_lcF 23 [("_law_pole", 23)] (ups 1 ((n : Int) - 1).toNat) D.int (fun p => (F.filter fun l => !decide (p ∈ l)).isEmpty) D.int (ei_r2 h.li (ea_cons ev_int (ea_cons (ev_var 2 rfl rfl) ea_nil)) (by omega) (by omega)) (fun p hp => EvT.is (et_not (et_tru (ev_lcF 22 [("_law_lot", 22)] F lot (fun l => !decide (p ∈ l)) (fun _ => D.int 1) (ei_tup (ev_var 15 rfl rfl)) (fun l hl => (et_cmp (ev_var 23 rfl rfl) (ev_var 22 rfl rfl) cmp_notInT)) (fun l hl _ => ev_int) (by omega)))) (by simp [truB, emp_map])) (fun p hp _ => (ev_var 23 rfl rfl)) (by rw [ups_len]; omega)) ea_nil) fn_tuple_l) (by rw [← sureW_eq])) ?_
    refine ws_set 18 (d := .tup (nums (sureR n F))) (EvE.is (ev_cty h.li.tuple (ea_cons (ev_lcF 23 [("_law_pole", 23)] (ups 1 ((n : Int) - 1).toNat) D.int (fun p => (F.filter fun l => decide (p ∈ l)).isEmpty) D.int (ei_r2 h.li (ea_cons ev_int (ea_cons (ev_var 2 rfl rfl) ea_nil)) (by omega) (by omega)) (fun p hp => EvT.is (et_not (et_tru (ev_lcF 22 [("_law_lot", 22)] F lot (fun l => decide (p ∈ l)) (fun _ => D.int 1) (ei_tup (ev_var 15 rfl rfl)) (fun l hl => (et_cmp (ev_var 23 rfl rfl) (ev_var 22 rfl rfl) cmp_inT)) (fun l hl _ => ev_int) (by omega)))) (by simp [truB, emp_map])) (fun p hp _ => (ev_var 23 rfl rfl)) (by rw [ups_len]; omega)) ea_nil) fn_tuple_l) (by rw [← sureR_eq])) ?_
    refine ws_ifF (et_cmp (ev_call cs (ea_cons (ev_var 10 rfl rfl) (ea_cons (ev_var 5 rfl rfl) (ea_cons (ev_var 7 rfl rfl) (ea_cons (ev_var 12 rfl rfl) (ea_cons (ev_var 6 rfl rfl) ea_nil)))))) (ev_var 17 rfl rfl) (cmp_neD (sh_nums _) (sh_nums _) (ne_f rfl))) ?_
    refine ws_ifF (et_cmp (ev_call cr (ea_cons (ev_var 10 rfl rfl) (ea_cons (ev_var 5 rfl rfl) (ea_cons (ev_var 7 rfl rfl) (ea_cons (ev_var 12 rfl rfl) (ea_cons (ev_var 6 rfl rfl) ea_nil)))))) (ev_var 18 rfl rfl) (cmp_neD (sh_nums _) (sh_nums _) (ne_f rfl))) (ws_nil ?_)
    exact WS.cast (law_end h o lr ok hm _ _ _ _ _ _ _ _ _ _ _ _) (by rfl) (by rfl)
theorem c_law {ns : List Int} (hl : ns.length ≤ 63) : CallP g 12 "law" [.scr ns] (.val (.bl true)) := by
  obtain ⟨n, ls, ms, ws, m, hss, l, hd, o, topA⟩ := law_a h hl
  obtain ⟨rs, hd', lr, ok, topB⟩ := law_b h (ns := ns) o
  refine call_okL ["_law_script", "_law_hand_here", "_law_count_here", "_law_lengths", "_law_marks", "_law_word_here", "_law_most", "_law_tests", "_law_wide", "_law_actual", "_law_line_here", "_law_wrong_here", "_law_readings_here", "_law_given", "_law_lots_here", "_law_due", "_law_ask", "_law_always", "_law_never", "_law_turn", "_law_k", "_law_hum_here", "_law_lot", "_law_pole"] ["_law_script"] (h.fl 2 "law" s_law rfl) ⟨rfl, rfl, rfl, by decide +kernel, rfl, by decide +kernel, by decide +kernel⟩ (fun W cd ql hm hL LO => ?_) (fun _ _ _ _ _ _ us hl => match us, hl with | [_], _ => rfl)
  exact topA W _ hm (topB W _ hm (law_c h o lr ok hm hL LO))
end
end Hw
set_option Elab.async false
set_option linter.all false
set_option maxRecDepth 100000
set_option maxHeartbeats 4000000
/-! What the head says of exceptions with fields, of Line.even: by Bools. -/
namespace Hw
open PySem PySem.Spec PyProof.Rows L2 Bx PySem.HandSPX

section
variable {K : PySem.W.Frag} {C fI : Addr}
theorem clsB_ok (h : clsB K C = true) : ∃ nm q N bs bm sn sub ab col dd k0 k1 k2 k3 k5, K.lookup C = some (excClassObj nm q C N bs bm true sn sub ab col dd k0 k1 k2 k3 k5 "ValueError.__new__") ∧ refsVE bm = true ∧ PySem.W.alongIn K "__init__" bm = some (some (.builtin "ValueError.__init__")) := by
  unfold clsB at h
  split at h
  · rename_i t dd cd sl ho
    split at h
    · rename_i C' bm k0 k1 k2 k3 n k5 hm hs
      obtain ⟨h1, h⟩ := He.ba h
      obtain ⟨h2, h⟩ := He.ba h
      obtain ⟨h3, h⟩ := He.ba h
      obtain ⟨h4, h⟩ := He.ba h
      obtain ⟨h5, h⟩ := He.ba h
      obtain ⟨h6, h7⟩ := He.ba h
      have e1 := of_decide_eq_true h1
      have e2 := of_decide_eq_true h2
      have e3 := of_decide_eq_true h3
      subst e1 e2 e3
      obtain ⟨nm, bs, mro, ns, qn, hd, sn, sub, ab, col, del⟩ := cd
      dsimp only at hm h4 h5
      subst hm h5
      have e4 : del = false := by simpa using h4
      subst e4
      have hsl : sl = #[k0, k1, k2, k3, some (.builtin "ValueError.__new__"), k5] := by
        obtain ⟨l⟩ := sl
        simp only at hs
        rw [hs]
      subst hsl
      exact ⟨nm, qn, ns, bs, bm, sn, sub, ab, col, dd, k0, k1, k2, k3, k5, ho, h6, He.eqO_ok h7⟩
    · cases h
  · cases h
theorem baseB_ok (h : baseB K C fI = true) : BaseTxt K C fI := by
  obtain ⟨h1, h⟩ := He.ba h
  obtain ⟨h2, h⟩ := He.ba h
  obtain ⟨h3, h⟩ := He.ba h
  obtain ⟨h4, h⟩ := He.ba h
  obtain ⟨h5, h⟩ := He.ba h
  obtain ⟨h6, h⟩ := He.ba h
  obtain ⟨h7, h⟩ := He.ba h
  obtain ⟨h8, h⟩ := He.ba h
  obtain ⟨h9, h10⟩ := He.ba h
  exact ⟨clsB_ok h1, He.eqO_ok h2, He.eqO_ok h3, of_decide_eq_true h4, h5, of_decide_eq_true h6, of_decide_eq_true h7, of_decide_eq_true h8, of_decide_eq_true h9, He.eqO_ok h10⟩
theorem codB_ok {cda : Addr} (h : codB K cda = true) : ∃ ccl cdd vs ccs file tf, K.lookup cda = some ⟨ccl, cdd, .fields vs, ccs⟩ ∧ vs[2]? = some (.str file tf) ∧ ((PRG.main.file : Str) == file) = true := by
  unfold codB at h
  split at h
  · rename_i a b vs c ho
    split at h
    · rename_i file tf hv
      exact ⟨a, b, vs, c, file, tf, ho, hv, h⟩
    · cases h
  · cases h
theorem celB_ok {cc : Addr} (h : celB K C cc = true) : ∃ cl cld csl, K.lookup cc = some ⟨cl, cld, .cell (some (.ref C)), csl⟩ := by
  unfold celB at h
  split at h
  · rename_i a b C' c ho
    have e := of_decide_eq_true h
    subst e
    exact ⟨a, b, c, ho⟩
  · cases h
theorem init_ok' {d : IniD} (e : iniObs K d = d.val) (hn : d.name = "__init__") (hc : d.cl = [("__class__" : Str)]) (h : initB K C (d.at_ K) d.qual = true) : InitFn K PRG d.qual (defArgs d.st) (defBody d.st) (defScope d.st) C (d.at_ K) := by
  unfold initB at h
  unfold iniObs at e
  split at h
  · rename_i oc od fd osl ho
    rw [ho] at e
    obtain ⟨n1, n2, n3, n4, n5, n6, n7, n8, n9, n10, n11, n12, n13, n14, n15⟩ := fd
    have e2 : (some (n1, n2, n3, n4, n5, n6, n7.map (·.1), n15) : FnC) = some (d.name, d.qual, defArgs d.st, .stmts (defBody d.st), defScope d.st, mainGlobals, d.cl, builtinsNs) := e
    simp only [Option.some.injEq, Prod.mk.injEq] at e2
    obtain ⟨h1, h2, h3, h4, h5, h6, h7, h8⟩ := e2
    dsimp only at h
    split at h
    · rename_i cda y cc
      obtain ⟨k1, k2⟩ := He.ba h
      obtain ⟨k3, k4⟩ := He.ba k2
      obtain ⟨ccl, cdd, vs, ccs, file, tf, q1, q2, q3⟩ := codB_ok k3
      obtain ⟨cl, cld, csl, q4⟩ := celB_ok k4
      rw [hc] at h7
      have h7' : y = "__class__" := by simpa using h7
      rw [hn] at h1
      subst h1 h2 h3 h4 h5 h6 h7' h8
      exact ⟨oc, od, n10, n11, n12, cda, cc, n14, osl, ccl, cdd, vs, ccs, file, tf, cl, cld, csl, ho, k1, q1, q2, q3, q4⟩
    · cases h
  · cases h
theorem evB_ok {g : Gm} (hK : g.K = K) (hc : g.cL = He.ga K "Line") (gL : g.mg "Line" = some (.ref g.cL)) (e : iniObs K d_even = d_even.val) (h : evB K = true) : ∃ f fd, FunD g.K "even" "Line.even" (defArgs s_Line_even) (defBody s_Line_even) (defScope s_Line_even) [] [] f fd ∧ EvenOk g f := by
  obtain ⟨h1, h⟩ := He.ba h
  obtain ⟨h2, h⟩ := He.ba h
  obtain ⟨h3, h⟩ := He.ba h
  obtain ⟨h4, h⟩ := He.ba h
  obtain ⟨h5, h6⟩ := He.ba h
  have F : ∃ fd, FunD K "even" "Line.even" (defArgs s_Line_even) (defBody s_Line_even) (defScope s_Line_even) [] [] (evenA K) fd := by
    unfold iniObs at e
    split at h2
    · rename_i oc od fd osl ho
      have e' : (match K.lookup (evenA K) with
        | some ⟨_, _, .func fd, _⟩ => some (fd.name, fd.qualname, fd.params, fd.body, fd.scope, fd.globals, fd.closure.map (·.1), fd.builtins)
        | _ => none : FnC) = d_even.val := e
      rw [ho] at e'
      obtain ⟨n1, n2, n3, n4, n5, n6, n7, n8, n9, n10, n11, n12, n13, n14, n15⟩ := fd
      have e2 : (some (n1, n2, n3, n4, n5, n6, n7.map (·.1), n15) : FnC) = some (("even" : Str), ("Line.even" : Str), defArgs s_Line_even, FuncBody.stmts (defBody s_Line_even), defScope s_Line_even, mainGlobals, [], builtinsNs) := e'
      simp only [Option.some.injEq, Prod.mk.injEq] at e2
      obtain ⟨z1, z2, z3, z4, z5, z6, z7, z8⟩ := e2
      have z7' : n7 = [] := List.map_eq_nil_iff.mp z7
      subst z1 z2 z3 z4 z5 z6 z7' z8
      obtain ⟨k1, k2⟩ := He.ba h2
      obtain ⟨k3, k4⟩ := He.ba k2
      exact ⟨_, ⟨oc, od, n8, n9, n10, n11, n12, n13, n14, osl, rfl, ho, k1, He.dflB_ok k3, He.kwdB_ok k4⟩, h1⟩
    · cases h2
  obtain ⟨fd, F⟩ := F
  refine ⟨evenA K, fd, by rw [hK]; exact F, gL, by rw [hK, hc]; exact He.eqO_ok h3, by rw [hK, hc]; exact h4, by rw [hK]; exact h1, ?_⟩
  rw [hK, hc]
  split at h6
  · rename_i f rest hr
    have ef : evenA K = f := by unfold evenA; rw [hr]
    split at h5
    · rename_i b p c hf
      obtain ⟨k1, k2⟩ := He.ba h5
      obtain ⟨k3, k4⟩ := He.ba k2
      have e1 := of_decide_eq_true k1
      have e2 := of_decide_eq_true k3
      have e3 := of_decide_eq_true k4
      subst e1 e2 e3
      exact ⟨_, rest, hf, by rw [ef]; exact hr⟩
    · cases h5
  · cases h6
theorem ecB_ok {D : Addr} (h : ecB K D = true) : ExcC K D := by
  obtain ⟨h1, h⟩ := He.ba h
  obtain ⟨h2, h⟩ := He.ba h
  obtain ⟨h3, h⟩ := He.ba h
  obtain ⟨h4, h⟩ := He.ba h
  obtain ⟨h5, h⟩ := He.ba h
  obtain ⟨h6, h⟩ := He.ba h
  obtain ⟨h7, h8⟩ := He.ba h
  exact ⟨He.eqO_ok h1, He.eqO_ok h2, of_decide_eq_true h3, h4, He.eqO_ok h5, He.eqO_ok h6, of_decide_eq_true h7, of_decide_eq_true h8⟩
end
section
variable {g : Gm} {h : Heap}
theorem bad0_ok (X : g.K.In h) (G : h.Ns mainGlobals g.mg) {x : Str} (c1 : (He.Fa.glo x).ok g.K = true) (c : (He.Fa.exc x).ok g.K = true) : Bad0 g x (He.ga g.K x) := by
  obtain ⟨a1, a2, a3, a4⟩ := He.exc_ok c
  exact ⟨He.glo_ok X G c1, a1, a2, a3, a4⟩
end
end Hw
set_option Elab.async false
set_option linter.all false
set_option maxRecDepth 100000
set_option maxHeartbeats 4000000
/-! What the top has written: all that the walks lean on. -/
namespace Hw
open PySem PySem.Spec PyProof.Rows L2 Bx PySem.HandSPX

def dvN (l : List V) : List He.Dv := l.map fun _ => He.Dv.non
def ddOf (p : Str × Stmt × List V) : He.DefD := ⟨(p.1, none), p.1, p.1, defArgs p.2.1, defBody p.2.1, defScope p.2.1, dvN p.2.2, []⟩
theorem fn_eq : fn.take 59 = defs.map ddOf := rfl
theorem fa_eq : fa.take 59 = defs.map fun p => .glo p.1 := rfl
theorem len_defs : defs.length = 59 := rfl
theorem dv_ok : ∀ p ∈ defs, p.2.2 = List.replicate p.2.2.length V.non := by
  intro p hp
  have : defs.all (fun p => p.2.2.all fun v => match v with | .non => true | _ => false) = true := by rfl
  have h := List.all_eq_true.mp this p hp
  refine List.eq_replicate_iff.mpr ⟨rfl, fun v hv => ?_⟩
  have z := List.all_eq_true.mp h v hv
  cases v <;> first | rfl | cases z
def gmOf (w : World) (K : PySem.W.Frag) (mg : Str → Option Value) (base : Heap) : Gm := ⟨PRG, w, K, mg, base, He.ga K "Line", tf.map fun p => ((He.cT K p).2, p.1 ++ ".<locals>." ++ "<lambda>")⟩
section
variable {w : World} {K : PySem.W.Frag} {mg : Str → Option Value} {base h : Heap}
theorem has_f (X : K.In h) (G : h.Ns mainGlobals mg) (c : SaysY w h K) (i : Nat) (x : Str) (st : Stmt) (dvs : List V) (e : defs[i]? = some (x, st, dvs)) :
    ∃ fd, FunD K x x (defArgs st) (defBody st) (defScope st) dvs [] (He.ga K x) fd ∧ mg x = some (.ref (He.ga K x)) := by
  have hi : i < 59 := by rw [← len_defs]; exact (List.getElem?_eq_some_iff.mp e).1
  have e1 : fn[i]? = some (ddOf (x, st, dvs)) := by
    have : (fn.take 59)[i]? = some (ddOf (x, st, dvs)) := by rw [fn_eq, List.getElem?_map, e]; rfl
    rwa [List.getElem?_take_of_lt hi] at this
  have e2 : fa[i]? = some (.glo x) := by
    have : (fa.take 59)[i]? = some (.glo x) := by rw [fa_eq, List.getElem?_map, e]; rfl
    rwa [List.getElem?_take_of_lt hi] at this
  obtain ⟨fd, F⟩ := c.t.d.def_ i e1
  have hd : (ddOf (x, st, dvs)).dvs K = dvs := by
    show (dvN dvs).map (He.Dv.v K) = dvs
    have := dv_ok _ (List.mem_of_getElem? e)
    dsimp only at this
    rw [this]
    simp [dvN]
    exact .inr rfl
  rw [hd] at F
  exact ⟨fd, F, He.glo_ok X G (c.t.d.fact i e2)⟩
theorem glo_tup {x : Str} (X : K.In h) (G : h.Ns mainGlobals mg) (c : (He.Fa.glo x).ok K = true) (t : He.tupB K x [.int a, .int b] = true) : Glo (gmOf w K mg base) x (.tup [.int a, .int b]) :=
  ⟨.ref (He.ga K x), .ref (He.ga K x), He.glo_ok X G c, rfl, fun S H => .tup (SqT'.written fun H => He.tupB_ok t H) (.cons (.int _) (.cons (.int _) .nil))⟩
theorem glo_int {x : Str} {i : Int} (X : K.In h) (G : h.Ns mainGlobals mg) (c : (He.Fa.int x i).ok K = true) : Glo (gmOf w K mg base) x (.int i) := by
  obtain ⟨t, e⟩ := He.int_ok X G c
  exact ⟨.int i, .int i t, e, ⟨t, rfl⟩, fun S H => .int i⟩
theorem fr_of (X : K.In h) (G : h.Ns mainGlobals mg) (c : SaysY w h K) (i : Nat) {x : Str} (e : fa[i]? = some (.free x)) : mg x = none := He.free_ok X G (c.t.d.fact i e)
theorem li_of (X : K.In h) (G : h.Ns mainGlobals mg) (c : SaysY w h K) : Li (gmOf w K mg base) :=
  ⟨fr_of X G c 59 rfl, fr_of X G c 60 rfl, fr_of X G c 61 rfl, fr_of X G c 62 rfl, fr_of X G c 63 rfl, fr_of X G c 64 rfl, fr_of X G c 65 rfl, fr_of X G c 66 rfl, fr_of X G c 67 rfl, fr_of X G c 68 rfl, fr_of X G c 69 rfl, fr_of X G c 70 rfl, fr_of X G c 71 rfl, fr_of X G c 72 rfl, fr_of X G c 73 rfl,
    He.cls_ok (c.t.d.fact 78 (f := .cls "Line") rfl), He.noat_ok (c.t.d.fact 80 (f := .noat "Line" "lengths") rfl), He.noat_ok (c.t.d.fact 81 (f := .noat "Line" "marks") rfl)⟩
theorem has_of (X : K.In h) (G : h.Ns mainGlobals mg) (c : SaysY w h K) : Has (gmOf w K mg base) :=
  ⟨li_of X G c, fun i x st dvs e => by
    obtain ⟨fd, F, m⟩ := has_f X G c i x st dvs e
    exact ⟨_, fd, F, m⟩, glo_tup X G (c.t.d.fact 82 rfl) (exY_at c.ex 0 rfl), glo_tup X G (c.t.d.fact 83 rfl) (exY_at c.ex 1 rfl), glo_int X G (c.t.d.fact 75 rfl), glo_int X G (c.t.d.fact 76 rfl), glo_int X G (c.t.d.fact 77 rfl)⟩
def xsOf (w : World) (K : PySem.W.Frag) (mg : Str → Option Value) (base : Heap) : XS (gmOf w K mg base) := ⟨He.ga K "BadWord", He.ga K "BadPoles", He.ga K "BadAmount", He.ga K "BadMost", He.ga K "BadTests", He.ga K "BadReadings", He.ga K "NoLots"⟩
theorem ini_at (c : SaysY w h K) (i : Nat) {d : IniD} (e : inits[i]? = some d) : iniObs K d = d.val := by
  have e1 : inits.map (iniObs K) = inits.map IniD.val := c.i
  have e2 : (inits.map (iniObs K))[i]? = (inits.map IniD.val)[i]? := by rw [e1]
  rw [List.getElem?_map, List.getElem?_map, e] at e2
  exact Option.some.inj e2
theorem bad2_of (X : K.In h) (G : h.Ns mainGlobals mg) {x : Str} {d : IniD} (b : badB K x = true) (e : iniObs K d = d.val) (hn : d.name = "__init__") (hc : d.cl = [("__class__" : Str)]) (ha : d.at_ K = iA x K) (ib : initB K (He.ga K x) (iA x K) d.qual = true) {tag : Str} {p0 p1 p2 a1 a2 a3 a4 a5 a6 a7 a8 b1 b2 b3 b4 c1 c2 c3 c4 : Pos} {j : Nat}
    (q1 : defArgs d.st = args3 p0 p1 p2) (q2 : defBody d.st = body3 tag j a1 a2 a3 a4 a5 a6 a7 a8 b1 b2 b3 b4 c1 c2 c3 c4) (q3 : defScope d.st = sco3) (hm : ∀ env : Env, MC a1 a2 a3 a7 [.Constant (.str tag) j a4, .Name "index" a5, .Name "what" a6] env) : Bad2 (gmOf w K mg base) x (He.ga K x) := by
  obtain ⟨h1, b⟩ := He.ba b
  obtain ⟨h2, b⟩ := He.ba b
  obtain ⟨h3, h4⟩ := He.ba b
  refine ⟨He.glo_ok X G h1, iA x K, baseB_ok h2, He.eqO_ok h3, He.eqO_ok h4, d.qual, tag, p0, p1, p2, a1, a2, a3, a4, a5, a6, a7, a8, b1, b2, b3, b4, c1, c2, c3, c4, j, ?_, hm⟩
  rw [← q1, ← q2, ← q3, ← ha]
  exact init_ok' e hn hc (by show initB K (He.ga K x) (d.at_ K) d.qual = true; rw [ha]; exact ib)
theorem bw_of (X : K.In h) (G : h.Ns mainGlobals mg) (c : SaysY w h K) : Bad2 (gmOf w K mg base) "BadWord" (He.ga K "BadWord") :=
  bad2_of X G (exY_at c.ex 2 rfl) (ini_at c 1 (d := d_BW) rfl) rfl rfl rfl (exY_at c.ex 8 rfl) rfl rfl rfl (fun env => ⟨_, rfl⟩)
theorem bt_of' (X : K.In h) (G : h.Ns mainGlobals mg) (c : SaysY w h K) : Bad2 (gmOf w K mg base) "BadTests" (He.ga K "BadTests") :=
  bad2_of X G (exY_at c.ex 3 rfl) (ini_at c 3 (d := d_BT) rfl) rfl rfl rfl (exY_at c.ex 9 rfl) rfl rfl rfl (fun env => ⟨_, rfl⟩)
theorem br_of (X : K.In h) (G : h.Ns mainGlobals mg) (c : SaysY w h K) : Bad2 (gmOf w K mg base) "BadReadings" (He.ga K "BadReadings") :=
  bad2_of X G (exY_at c.ex 4 rfl) (ini_at c 4 (d := d_BR) rfl) rfl rfl rfl (exY_at c.ex 10 rfl) rfl rfl rfl (fun env => ⟨_, rfl⟩)
theorem bh_of (X : K.In h) (G : h.Ns mainGlobals mg) (c : SaysY w h K) : Bad1 (gmOf w K mg base) "BadHum" (He.ga K "BadHum") :=
  ⟨He.glo_ok X G (exY_at c.ex 5 rfl), iA "BadHum" K, baseB_ok (exY_at c.ex 6 rfl), He.eqO_ok (exY_at c.ex 7 rfl), d_BH.qual, "hum", _, _, _, _, _, _, _, _, _, _, _, _, _, _,
    init_ok' (ini_at c 2 (d := d_BH) rfl) rfl rfl (exY_at c.ex 11 rfl), fun env => ⟨_, rfl⟩⟩
theorem xs_of (X : K.In h) (G : h.Ns mainGlobals mg) (c : SaysY w h K) : XSok (gmOf w K mg base) (xsOf w K mg base) := by
  have b0 : ∀ {x : Str} (i j : Nat), (exL K)[i]? = some ((He.Fa.glo x).ok K) → fa[j]? = some (.exc x) → Bad0 (gmOf w K mg base) x (He.ga K x) := fun i j e1 e2 => bad0_ok (g := gmOf w K mg base) X G (exY_at c.ex i e1) (c.t.d.fact j e2)
  have nd : (xNames.map (He.ga K)).Nodup := of_decide_eq_true (exY_at c.ex 19 rfl)
  have pr := exY_at c.ex 20 rfl
  have mem : ∀ cl ∈ (xsOf w K mg base).l, ∃ x ∈ xNames, cl.C = He.ga K x := fun cl hcl => by
    simp only [XS.l, List.mem_cons, List.not_mem_nil, or_false] at hcl
    rcases hcl with rfl | rfl | rfl | rfl | rfl | rfl | rfl
    · exact ⟨"BadWord", by simp [xNames], rfl⟩
    · exact ⟨"BadPoles", by simp [xNames], rfl⟩
    · exact ⟨"BadAmount", by simp [xNames], rfl⟩
    · exact ⟨"BadMost", by simp [xNames], rfl⟩
    · exact ⟨"BadTests", by simp [xNames], rfl⟩
    · exact ⟨"BadReadings", by simp [xNames], rfl⟩
    · exact ⟨"NoLots", by simp [xNames], rfl⟩
  refine ⟨bw_of X G c, b0 15 85 rfl rfl, b0 16 86 rfl rfl, b0 17 87 rfl rfl, bt_of' X G c, br_of X G c, b0 18 88 rfl rfl, nd, fun c1 h1 c2 h2 => ?_, fun cl hcl two => ?_⟩
  · obtain ⟨x, hx, e1⟩ := mem c1 h1
    obtain ⟨y, hy, e2⟩ := mem c2 h2
    rw [e1, e2]
    exact of_decide_eq_true (List.all_eq_true.mp (List.all_eq_true.mp pr x hx) y hy)
  · simp only [XS.l, List.mem_cons, List.not_mem_nil, or_false] at hcl
    rcases hcl with rfl | rfl | rfl | rfl | rfl | rfl | rfl
    · exact xfB_ok (exY_at c.ex 21 rfl)
    · cases two
    · cases two
    · cases two
    · exact xfB_ok (exY_at c.ex 22 rfl)
    · exact xfB_ok (exY_at c.ex 23 rfl)
    · cases two
theorem tb_inj {l : List He.Defn} {f : He.Defn → Addr} (nd : (l.map f).Nodup) : ∀ p ∈ l, ∀ q ∈ l, f p = f q → p = q := by
  induction l with
  | nil => intro p hp; cases hp
  | cons a l ih =>
    rw [List.map_cons] at nd
    obtain ⟨n1, n2⟩ := List.nodup_cons.mp nd
    intro p hp q hq e
    rcases List.mem_cons.mp hp with e1 | hp'
    · rcases List.mem_cons.mp hq with e2 | hq'
      · rw [e1, e2]
      · refine absurd ?_ n1
        rw [← e1, e]
        exact List.mem_map_of_mem hq'
    · rcases List.mem_cons.mp hq with e2 | hq'
      · refine absurd ?_ n1
        rw [← e2, ← e]
        exact List.mem_map_of_mem hp'
      · exact ih n2 p hp' q hq' e
theorem lam_of (c : SaysY w h K) (tb : ∀ p ∈ tf.map (He.cT K), LamX.TabB base mg p.1 p.2) {x : Str} (hx : (x, none) ∈ tf) {st : Stmt} {fd : FuncData} (F : FunD K x x (defArgs st) (defBody st) (defScope st) [] [] (He.ga K x) fd) : LamOk (gmOf w K mg base) fd.code (x ++ ".<locals>.") := by
  obtain ⟨oc, od, dV, kV, doc, pm, an, cdv, ct, osl, rfl, lk, hcd, _, _⟩ := F.ex
  obtain ⟨cc, rfl⟩ := He.codeIn_ref hcd
  have ec : He.codeOf K (x, none) = cc := He.codeOf_eq (p := (x, none)) lk rfl
  have t := tb _ (List.mem_map_of_mem hx)
  refine ⟨cc, (He.cT K (x, none)).2, rfl, ?_, List.mem_map_of_mem (f := fun p : He.Defn => ((He.cT K p).2, p.1 ++ ".<locals>." ++ "<lambda>")) hx, fun q hq e => ?_⟩
  · rw [← ec]; exact t
  · obtain ⟨p, hp, rfl⟩ := List.mem_map.mp hq
    have := tb_inj (of_decide_eq_true (exY_at c.ex 30 rfl)) p hp (x, none) hx e
    rw [this]
theorem hasB_of (X : K.In h) (G : h.Ns mainGlobals mg) (c : SaysY w h K) (tb : ∀ p ∈ tf.map (He.cT K), LamX.TabB base mg p.1 p.2) : HasB (gmOf w K mg base) (xsOf w K mg base) (He.ga K "BadHum") (He.ga K "WireError") := by
  have gL := He.glo_ok X G (exY_at c.ex 13 rfl)
  refine ⟨⟨⟨has_of X G c, ⟨fr_of X G c 74 rfl, (show (PRG.main.scope.names.lookup ("super" : Str)).isSome = false by decide +kernel)⟩, xs_of X G c, bh_of X G c, of_decide_eq_true (exY_at c.ex 24 rfl), ?_, ?_, gL⟩, ?_, He.glo_ok X G (exY_at c.ex 14 rfl), of_decide_eq_true (exY_at c.ex 25 rfl), of_decide_eq_true (exY_at c.ex 26 rfl), ecB_ok (exY_at c.ex 27 rfl)⟩, evB_ok rfl rfl gL (ini_at c 0 (d := d_even) rfl) (exY_at c.ex 12 rfl)⟩
  · obtain ⟨fd, F⟩ := c.t.d.def_ 60 (d := d_Line_len) rfl
    exact ⟨_, fd, F, He.eqO_ok (exY_at c.ex 28 rfl), of_decide_eq_true (exY_at c.ex 29 rfl)⟩
  · obtain ⟨fd, F⟩ := c.t.d.def_ 59 (d := d_Line_init) rfl
    exact ⟨_, fd, F, He.mkr_ok (c.t.d.fact 79 (f := .mkr "Line") rfl)⟩
  · intro i x st e
    have three : (x = "_law_telling" ∧ st = s__law_telling) ∨ (x = "_law_refused" ∧ st = s__law_refused) ∨ (x = "law" ∧ st = s_law) := by
      match i, e with
      | 0, e => cases e; exact .inl ⟨rfl, rfl⟩
      | 1, e => cases e; exact .inr (.inl ⟨rfl, rfl⟩)
      | 2, e => cases e; exact .inr (.inr ⟨rfl, rfl⟩)
      | i + 3, e => simp at e
    rcases three with ⟨rfl, rfl⟩ | ⟨rfl, rfl⟩ | ⟨rfl, rfl⟩
    · obtain ⟨fd, F, m⟩ := has_f X G c 55 "_law_telling" s__law_telling [] rfl
      exact ⟨_, fd, F, m, lam_of c tb (by simp [tf]) F⟩
    · obtain ⟨fd, F, m⟩ := has_f X G c 57 "_law_refused" s__law_refused [] rfl
      exact ⟨_, fd, F, m, lam_of c tb (by simp [tf]) F⟩
    · obtain ⟨fd, F, m⟩ := has_f X G c 58 "law" s_law [] rfl
      exact ⟨_, fd, F, m, lam_of c tb (by simp [tf]) F⟩
end
end Hw
set_option Elab.async false
set_option linter.all false
set_option maxRecDepth 100000
set_option maxHeartbeats 0
/-! The end. -/
namespace Hw
open PySem PySem.Spec PyProof.Rows L2 Bx PySem.HandSPX
theorem law_fn {g : Gm} {x : XS g} {cH cW : Addr} (h : HasB g x cH cW) {f : Addr} {fd : FuncData} (F : FunD g.K "law" "law" (defArgs s_law) (defBody s_law) (defScope s_law) [] [] f fd) (LO : LamOk g fd.code ("law" ++ ".<locals>.")) {ns : List Int} (hl : ns.length ≤ 63) :
    FnOk g.P g.w g.K g.mg g.base (L2.CX g.P g.w) 12 f fd ["_law_script"] (spG g [.dat (.scr ns)] [] (.val (.bl true)) []) := by
  obtain ⟨n, ls, ms, ws, m, hss, l, hd, o, topA⟩ := law_a h hl
  obtain ⟨rs, hd', lr, ok, topB⟩ := law_b h (ns := ns) o
  exact def_ok (N := ["_law_script", "_law_hand_here", "_law_count_here", "_law_lengths", "_law_marks", "_law_word_here", "_law_most", "_law_tests", "_law_wide", "_law_actual", "_law_line_here", "_law_wrong_here", "_law_readings_here", "_law_given", "_law_lots_here", "_law_due", "_law_ask", "_law_always", "_law_never", "_law_turn", "_law_k", "_law_hum_here", "_law_lot", "_law_pole"]) F ⟨rfl, rfl, rfl, by decide +kernel, rfl, by decide +kernel, by decide +kernel⟩ rfl (by simp) rfl fun W hm hL => topA W _ hm (topB W _ hm (law_c h o lr ok hm hL LO))
/-- what the law is asked, whatever stands below -/
def spZ (w : World) (K : PySem.W.Frag) (mg : Str → Option Value) : Sp := fun vs H Q E => ∃ ns : List Int, ns.length ≤ 63 ∧ ∀ base : Heap, spG (gmOf w K mg base) [.dat (.scr ns)] [] (.val (.bl true)) [] vs H Q E
theorem sqL_in {g : Gm} {H : Hp} {a : Addr} {vs : List V} (h : SqL g.K H a vs) : SqL' g [] H a vs := by
  rcases h with h | h
  · exact .inl ⟨by simp, h⟩
  · exact .inr (.inr h)
theorem law_at {w : World} {K : PySem.W.Frag} {mg : Str → Option Value} {fa : Addr} {h : Heap} (X : K.In h) (G : h.Ns mainGlobals mg) (hm : mg ("law" : Str) = some (.ref fa)) (c : SaysY w h K) :
    LamX.LawAtS PySem.Challenge.rw_hushedwires_k62_whole_lots_of_wrong_pole w K (L2.CX PRG w) 12 63 "_law_script" mg fa h := by
  obtain ⟨fd, F, m⟩ := has_f X G c 58 "law" s_law [] rfl
  have ef : fa = He.ga K "law" := by
    have := hm.symm.trans m
    injection this with this
    injection this
  subst ef
  have b := FunD.bindsA (ps := ["_law_script"]) F fun _ _ _ _ _ _ us hl => match us, hl with | [_], _ => rfl
  refine ⟨fd, tf.map (He.cT K), spZ w K mg, fun p hp => ?_, fun p hp => ?_, fun p hp => ?_, fun s u => b s [u] rfl, fun H a ns hl _ hT hS => ?_, fun base X' G' tb => ?_⟩
  · obtain ⟨q, hq, rfl⟩ := List.mem_map.mp hp
    exact c.emp q hq
  · obtain ⟨q, hq, rfl⟩ := List.mem_map.mp hp
    exact c.out q hq
  · obtain ⟨q, hq, rfl⟩ := List.mem_map.mp hp
    exact PySem.W.codeHd_of_K X (c.hd q hq)
  · refine ⟨ns, hl, fun base => ⟨[], [], ⟨rfl, fun k a ds e => by simp at e⟩, List.nodup_nil, fun a z => (by cases z), fun a z => (by cases z), fun p hp => ?_, .cons (.scr (sqL_in hS)) .nil, fun v H' _ _ z => ?_⟩⟩
    · obtain ⟨q, hq, rfl⟩ := List.mem_map.mp hp
      exact ⟨#[], hT _ (List.mem_map_of_mem hq), trivial, fun pos cv z => by cases z⟩
    · cases z
      rfl
  · have hB := hasB_of (w := w) (base := base) X G c tb
    have LO := lam_of (w := w) (base := base) c tb (x := "law") (by simp [tf]) F
    have one : ∀ ns : List Int, ns.length ≤ 63 → FnOk PRG w K mg base (L2.CX PRG w) 12 (He.ga K "law") fd ["_law_script"] (spG (gmOf w K mg base) [.dat (.scr ns)] [] (.val (.bl true)) []) := fun ns hl => law_fn hB F LO hl
    exact ⟨fun vs H Q E q => by
      obtain ⟨ns, hl, q⟩ := q
      exact (one ns hl).len vs H Q E (q base), fun A outer s H args us vs Q E hr he hb hv hs => by
      obtain ⟨ns, hl, q⟩ := hs
      exact (one ns hl).run A outer s H args us vs Q E hr he hb hv (q base)⟩
end Hw
open PySem PySem.W PySem.Calls PyProof.Rows
theorem PySem.Challenge.cw_hushedwires_k62_whole_lots_of_wrong_pole_holds : PySem.Challenge.rw_hushedwires_k62_whole_lots_of_wrong_pole.Holds := by
  w_on; o_law
  refine Hw.head_use ?hc ?hw
  case hw => w_witness2
  case hc =>
    refine LamX.walk_ofTsE (l := PySem.Challenge.rw_hushedwires_k62_whole_lots_of_wrong_pole) (n := 63) (k := 12) (x := "_law_script") (CX := fun w => L2.CX Hw.PRG w) rfl (by decide) (by kernel_rfl) ⟨rfl, by decide, by decide⟩ ?F (fun w H s e s' z => ?cx)
    case F =>
      intro w mg fa h Y G hmg0
      obtain ⟨K, KX, c⟩ := Y
      have hmg : mg ("law" : PySem.Str) = some (.ref fa) := by
        have e : (HandSHeadRun.topDef (OpenLaw.row PySem.Challenge.rw_hushedwires_k62_whole_lots_of_wrong_pole).prog 83).name = ("law" : PySem.Str) := by kernel_rfl
        rw [← e]
        exact hmg0
      exact ⟨K, KX, Hw.law_at KX G hmg c⟩
    case cx =>
      obtain ⟨a, B, H', cls, d, h1, h2, h3, h4, h5, h6, h7, h8⟩ := z
      exact h8
