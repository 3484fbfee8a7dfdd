import PyProof.Rows.All
import Wide.All
import OpenK.AllK
import Wide.FinOn
import HandS.ForMost
import HandS.Wide
import HandS.ExcOwn
import HandS.TryMany
import HandS.Star
import HandS.Style
import HandS.CallSlots
import HandS.WordsExc
import HandS.Defaults
import HandS.Property
import HandS.TupAny
import HandS.TupMul
import HandS.Deep
import HandS.Zip
import HandS.IsInst
import HandS.WideBits
import HandS.Walk
import HandS.TryOnly
import HandS.Small
import PyProof.ExcBaseAll.ArithmeticError
import KE.KTryMore
import HandS.Text
import KE.DatumOrd
import KE.GoesMore
import HandS.OwnEq
import PyProof.InstNe
import PyProof.NeKinds
import HandS.ExcInit
import KE.KExcInit
import HandS.Lambda
import KE.KWithOwn
import HandS.Head0
import HandS.Head1
import HandS.Head2
import HandS.HeadEnd
import HandS.HeadHook1
import HandS.HeadHook2
import HandS.EndTab
import KE.KStateDown
import HandS.HeadWalk
import PySem.Challenge.RW_softchances_k93_whole_sources_and_desks
set_option Elab.async false
set_option linter.all false
set_option maxRecDepth 100000
section
set_option maxHeartbeats 0
namespace DL
open PySem L2
/-- the classes whose instances are data or cells -/
inductive Cl where
  | answer | table | book | former | trial | desk
  deriving DecidableEq
def Cl.adr : Cl → Addr
  | .answer => 412
  | .table => 476
  | .book => 611
  | .former => 848
  | .trial => 883
  | .desk => 1003
def Cl.keys : Cl → List Str
  | .answer => ["value", "numbers", "multiples"]
  | .table => ["many", "size", "unit", "basis", "lines"]
  | .book => ["held", "words"]
  | .former => ["states", "outer"]
  | .trial => ["led", "former"]
  | .desk => ["past"]
abbrev arithB : List Value := [.type "ArithmeticError", .type "Exception", .type "BaseException", .type "object"]
abbrev arB : List Value := [.type "ArithmeticError", .type "Exception", .type "BaseException", .type "object"]
end DL
namespace SC
open PySem L2 DL
/-! ### the text by places, and where its defs stand behind the top -/
def top (i : Nat) : Stmt := PySem.Challenge.pw_softchances_k93_whole_sources_and_desks.main.body.getD i (.Pass ⟨0, 0, 0, 0⟩)
structure FnRec where
  nm : Str
  qual : Str
  st : Stmt
  adr : Addr
  cls : Option Addr
abbrev s_InvalidText_init : Stmt := inClass (top 2) 0
def d_InvalidText_init : FnRec := ⟨"__init__", "InvalidText.__init__", s_InvalidText_init, 41, some 44⟩
abbrev s_InvalidNumber_init : Stmt := inClass (top 3) 0
def d_InvalidNumber_init : FnRec := ⟨"__init__", "InvalidNumber.__init__", s_InvalidNumber_init, 60, some 63⟩
abbrev s_InvalidPayoff_init : Stmt := inClass (top 4) 0
def d_InvalidPayoff_init : FnRec := ⟨"__init__", "InvalidPayoff.__init__", s_InvalidPayoff_init, 79, some 82⟩
abbrev s_InvalidLot_init : Stmt := inClass (top 5) 0
def d_InvalidLot_init : FnRec := ⟨"__init__", "InvalidLot.__init__", s_InvalidLot_init, 98, some 101⟩
abbrev s_InvalidFraction_init : Stmt := inClass (top 6) 0
def d_InvalidFraction_init : FnRec := ⟨"__init__", "InvalidFraction.__init__", s_InvalidFraction_init, 117, some 120⟩
abbrev s_InvalidIndex_init : Stmt := inClass (top 7) 0
def d_InvalidIndex_init : FnRec := ⟨"__init__", "InvalidIndex.__init__", s_InvalidIndex_init, 136, some 139⟩
abbrev s_NotABook_init : Stmt := inClass (top 8) 0
def d_NotABook_init : FnRec := ⟨"__init__", "NotABook.__init__", s_NotABook_init, 155, some 158⟩
abbrev s_InvalidChance_init : Stmt := inClass (top 9) 0
def d_InvalidChance_init : FnRec := ⟨"__init__", "InvalidChance.__init__", s_InvalidChance_init, 174, some 177⟩
abbrev s_InvalidQuotes_init : Stmt := inClass (top 10) 0
def d_InvalidQuotes_init : FnRec := ⟨"__init__", "InvalidQuotes.__init__", s_InvalidQuotes_init, 193, some 196⟩
abbrev s_TooGreat_init : Stmt := inClass (top 14) 0
def d_TooGreat_init : FnRec := ⟨"__init__", "TooGreat.__init__", s_TooGreat_init, 249, some 252⟩
abbrev s_is_integer : Stmt := top 18
def d_is_integer : FnRec := ⟨"is_integer", "is_integer", s_is_integer, 273, none⟩
abbrev s_is_between : Stmt := top 19
def d_is_between : FnRec := ⟨"is_between", "is_between", s_is_between, 280, none⟩
abbrev s_number_in : Stmt := top 20
def d_number_in : FnRec := ⟨"number_in", "number_in", s_number_in, 285, none⟩
abbrev s_integer_in : Stmt := top 21
def d_integer_in : FnRec := ⟨"integer_in", "integer_in", s_integer_in, 292, none⟩
abbrev s_common_divisor : Stmt := top 22
def d_common_divisor : FnRec := ⟨"common_divisor", "common_divisor", s_common_divisor, 299, none⟩
abbrev s_is_fraction : Stmt := top 23
def d_is_fraction : FnRec := ⟨"is_fraction", "is_fraction", s_is_fraction, 306, none⟩
abbrev s_fraction_in : Stmt := top 24
def d_fraction_in : FnRec := ⟨"fraction_in", "fraction_in", s_fraction_in, 313, none⟩
abbrev s_is_lot : Stmt := top 25
def d_is_lot : FnRec := ⟨"is_lot", "is_lot", s_is_lot, 318, none⟩
abbrev s_lowest : Stmt := top 27
def d_lowest : FnRec := ⟨"lowest", "lowest", s_lowest, 325, none⟩
abbrev s_plus : Stmt := top 28
def d_plus : FnRec := ⟨"plus", "plus", s_plus, 332, none⟩
abbrev s_minus : Stmt := top 29
def d_minus : FnRec := ⟨"minus", "minus", s_minus, 339, none⟩
abbrev s_times : Stmt := top 30
def d_times : FnRec := ⟨"times", "times", s_times, 346, none⟩
abbrev s_is_less : Stmt := top 31
def d_is_less : FnRec := ⟨"is_less", "is_less", s_is_less, 353, none⟩
abbrev s_added : Stmt := top 32
def d_added : FnRec := ⟨"added", "added", s_added, 360, none⟩
abbrev s_greater_of : Stmt := top 33
def d_greater_of : FnRec := ⟨"greater_of", "greater_of", s_greater_of, 367, none⟩
abbrev s_lesser_of : Stmt := top 34
def d_lesser_of : FnRec := ⟨"lesser_of", "lesser_of", s_lesser_of, 374, none⟩
abbrev s_greatest_in : Stmt := top 35
def d_greatest_in : FnRec := ⟨"greatest_in", "greatest_in", s_greatest_in, 381, none⟩
abbrev s_least_in : Stmt := top 36
def d_least_in : FnRec := ⟨"least_in", "least_in", s_least_in, 388, none⟩
abbrev s_written : Stmt := top 37
def d_written : FnRec := ⟨"written", "written", s_written, 395, none⟩
abbrev s_Answer_init : Stmt := inClass (top 47) 0
def d_Answer_init : FnRec := ⟨"__init__", "Answer.__init__", s_Answer_init, 409, some 412⟩
abbrev s_Table_init : Stmt := inClass (top 48) 0
def d_Table_init : FnRec := ⟨"__init__", "Table.__init__", s_Table_init, 428, some 476⟩
abbrev s_Table_entering : Stmt := inClass (top 48) 1
def d_Table_entering : FnRec := ⟨"entering", "Table.entering", s_Table_entering, 435, some 476⟩
abbrev s_Table_leaving : Stmt := inClass (top 48) 2
def d_Table_leaving : FnRec := ⟨"leaving", "Table.leaving", s_Table_leaving, 442, some 476⟩
abbrev s_Table_is_ahead : Stmt := inClass (top 48) 3
def d_Table_is_ahead : FnRec := ⟨"is_ahead", "Table.is_ahead", s_Table_is_ahead, 449, some 476⟩
abbrev s_Table_turn : Stmt := inClass (top 48) 4
def d_Table_turn : FnRec := ⟨"turn", "Table.turn", s_Table_turn, 454, some 476⟩
abbrev s_Table_numbers_now : Stmt := inClass (top 48) 5
def d_Table_numbers_now : FnRec := ⟨"numbers_now", "Table.numbers_now", s_Table_numbers_now, 461, some 476⟩
abbrev s_Table_way_of : Stmt := inClass (top 48) 6
def d_Table_way_of : FnRec := ⟨"way_of", "Table.way_of", s_Table_way_of, 468, some 476⟩
abbrev s_Table_multiples_now : Stmt := inClass (top 48) 7
def d_Table_multiples_now : FnRec := ⟨"multiples_now", "Table.multiples_now", s_Table_multiples_now, 473, some 476⟩
abbrev s_greatest_sum : Stmt := top 49
def d_greatest_sum : FnRec := ⟨"greatest_sum", "greatest_sum", s_greatest_sum, 487, none⟩
abbrev s_is_payoff : Stmt := top 51
def d_is_payoff : FnRec := ⟨"is_payoff", "is_payoff", s_is_payoff, 492, none⟩
abbrev s_is_price : Stmt := top 52
def d_is_price : FnRec := ⟨"is_price", "is_price", s_is_price, 499, none⟩
abbrev s_is_quote : Stmt := top 53
def d_is_quote : FnRec := ⟨"is_quote", "is_quote", s_is_quote, 506, none⟩
abbrev s_check_quotes : Stmt := top 54
def d_check_quotes : FnRec := ⟨"check_quotes", "check_quotes", s_check_quotes, 513, none⟩
abbrev s_quote_text : Stmt := top 55
def d_quote_text : FnRec := ⟨"quote_text", "quote_text", s_quote_text, 518, none⟩
abbrev s_quote_in : Stmt := top 56
def d_quote_in : FnRec := ⟨"quote_in", "quote_in", s_quote_in, 523, none⟩
abbrev s_check_payoff : Stmt := top 57
def d_check_payoff : FnRec := ⟨"check_payoff", "check_payoff", s_check_payoff, 530, none⟩
abbrev s_check_price : Stmt := top 58
def d_check_price : FnRec := ⟨"check_price", "check_price", s_check_price, 537, none⟩
abbrev s_Book_init : Stmt := inClass (top 59) 0
def d_Book_init : FnRec := ⟨"__init__", "Book.__init__", s_Book_init, 549, some 611⟩
abbrev s_Book_read : Stmt := inClass (top 59) 1
def d_Book_read : FnRec := ⟨"read", "Book.read", s_Book_read, 554, some 611⟩
abbrev s_Book_outcomes : Stmt := inClass (top 59) 2
def d_Book_outcomes : FnRec := ⟨"outcomes", "Book.outcomes", s_Book_outcomes, 564, some 611⟩
abbrev s_Book_quotes : Stmt := inClass (top 59) 3
def d_Book_quotes : FnRec := ⟨"quotes", "Book.quotes", s_Book_quotes, 572, some 611⟩
abbrev s_Book_with_quote : Stmt := inClass (top 59) 4
def d_Book_with_quote : FnRec := ⟨"with_quote", "Book.with_quote", s_Book_with_quote, 580, some 611⟩
abbrev s_Book_without : Stmt := inClass (top 59) 5
def d_Book_without : FnRec := ⟨"without", "Book.without", s_Book_without, 587, some 611⟩
abbrev s_Book_eq : Stmt := inClass (top 59) 6
def d_Book_eq : FnRec := ⟨"__eq__", "Book.__eq__", s_Book_eq, 594, some 611⟩
abbrev s_Book_str : Stmt := inClass (top 59) 7
def d_Book_str : FnRec := ⟨"__str__", "Book.__str__", s_Book_str, 601, some 611⟩
abbrev s_Book_repr : Stmt := inClass (top 59) 8
def d_Book_repr : FnRec := ⟨"__repr__", "Book.__repr__", s_Book_repr, 608, some 611⟩
abbrev s_less_one : Stmt := top 60
def d_less_one : FnRec := ⟨"less_one", "less_one", s_less_one, 622, none⟩
abbrev s_check_index : Stmt := top 61
def d_check_index : FnRec := ⟨"check_index", "check_index", s_check_index, 629, none⟩
abbrev s_check_book : Stmt := top 62
def d_check_book : FnRec := ⟨"check_book", "check_book", s_check_book, 636, none⟩
abbrev s_is_share : Stmt := top 63
def d_is_share : FnRec := ⟨"is_share", "is_share", s_is_share, 643, none⟩
abbrev s_check_chance : Stmt := top 64
def d_check_chance : FnRec := ⟨"check_chance", "check_chance", s_check_chance, 650, none⟩
abbrev s_worth_at : Stmt := top 65
def d_worth_at : FnRec := ⟨"worth_at", "worth_at", s_worth_at, 655, none⟩
abbrev s_gain_rows : Stmt := top 66
def d_gain_rows : FnRec := ⟨"gain_rows", "gain_rows", s_gain_rows, 660, none⟩
abbrev s_least_answer : Stmt := top 67
def d_least_answer : FnRec := ⟨"least_answer", "least_answer", s_least_answer, 665, none⟩
abbrev s_plain_answer : Stmt := top 68
def d_plain_answer : FnRec := ⟨"plain_answer", "plain_answer", s_plain_answer, 672, none⟩
abbrev s_is_kept_by_some : Stmt := top 69
def d_is_kept_by_some : FnRec := ⟨"is_kept_by_some", "is_kept_by_some", s_is_kept_by_some, 679, none⟩
abbrev s_check_sound : Stmt := top 70
def d_check_sound : FnRec := ⟨"check_sound", "check_sound", s_check_sound, 686, none⟩
abbrev s_check_two : Stmt := top 71
def d_check_two : FnRec := ⟨"check_two", "check_two", s_check_two, 693, none⟩
abbrev s_is_sound : Stmt := top 72
def d_is_sound : FnRec := ⟨"is_sound", "is_sound", s_is_sound, 700, none⟩
abbrev s_check_listed : Stmt := top 74
def d_check_listed : FnRec := ⟨"check_listed", "check_listed", s_check_listed, 707, none⟩
abbrev s_least_by : Stmt := top 76
def d_least_by : FnRec := ⟨"least_by", "least_by", s_least_by, 714, none⟩
abbrev s_greatest_by : Stmt := top 77
def d_greatest_by : FnRec := ⟨"greatest_by", "greatest_by", s_greatest_by, 721, none⟩
abbrev s_turned : Stmt := top 78
def d_turned : FnRec := ⟨"turned", "turned", s_turned, 726, none⟩
abbrev s_lot_payoff : Stmt := top 79
def d_lot_payoff : FnRec := ⟨"lot_payoff", "lot_payoff", s_lot_payoff, 731, none⟩
abbrev s_check_lot : Stmt := top 80
def d_check_lot : FnRec := ⟨"check_lot", "check_lot", s_check_lot, 738, none⟩
abbrev s_check_asked : Stmt := top 81
def d_check_asked : FnRec := ⟨"check_asked", "check_asked", s_check_asked, 745, none⟩
abbrev s_least_worth : Stmt := top 82
def d_least_worth : FnRec := ⟨"least_worth", "least_worth", s_least_worth, 752, none⟩
abbrev s_greatest_worth : Stmt := top 83
def d_greatest_worth : FnRec := ⟨"greatest_worth", "greatest_worth", s_greatest_worth, 759, none⟩
abbrev s_check_pair : Stmt := top 85
def d_check_pair : FnRec := ⟨"check_pair", "check_pair", s_check_pair, 766, none⟩
abbrev s_both : Stmt := top 86
def d_both : FnRec := ⟨"both", "both", s_both, 773, none⟩
abbrev s_do_meet : Stmt := top 87
def d_do_meet : FnRec := ⟨"do_meet", "do_meet", s_do_meet, 778, none⟩
abbrev s_check_two_sound : Stmt := top 88
def d_check_two_sound : FnRec := ⟨"check_two_sound", "check_two_sound", s_check_two_sound, 785, none⟩
abbrev s_least_between : Stmt := top 89
def d_least_between : FnRec := ⟨"least_between", "least_between", s_least_between, 792, none⟩
abbrev s_least_blend : Stmt := top 90
def d_least_blend : FnRec := ⟨"least_blend", "least_blend", s_least_blend, 799, none⟩
abbrev s_but_one : Stmt := top 91
def d_but_one : FnRec := ⟨"but_one", "but_one", s_but_one, 804, none⟩
abbrev s_least_but_one : Stmt := top 92
def d_least_but_one : FnRec := ⟨"least_but_one", "least_but_one", s_least_but_one, 809, none⟩
abbrev s_greatest_but_one : Stmt := top 93
def d_greatest_but_one : FnRec := ⟨"greatest_but_one", "greatest_but_one", s_greatest_but_one, 814, none⟩
abbrev s_is_left : Stmt := top 94
def d_is_left : FnRec := ⟨"is_left", "is_left", s_is_left, 819, none⟩
abbrev s_lot_at : Stmt := top 95
def d_lot_at : FnRec := ⟨"lot_at", "lot_at", s_lot_at, 824, none⟩
abbrev s_widest_lot : Stmt := top 96
def d_widest_lot : FnRec := ⟨"widest_lot", "widest_lot", s_widest_lot, 831, none⟩
abbrev s_Former_init : Stmt := inClass (top 98) 0
def d_Former_init : FnRec := ⟨"__init__", "Former.__init__", s_Former_init, 845, some 848⟩
abbrev s_Trial_init : Stmt := inClass (top 99) 0
def d_Trial_init : FnRec := ⟨"__init__", "Trial.__init__", s_Trial_init, 866, some 883⟩
abbrev s_Trial_enter : Stmt := inClass (top 99) 1
def d_Trial_enter : FnRec := ⟨"__enter__", "Trial.__enter__", s_Trial_enter, 873, some 883⟩
abbrev s_Trial_exit : Stmt := inClass (top 99) 2
def d_Trial_exit : FnRec := ⟨"__exit__", "Trial.__exit__", s_Trial_exit, 880, some 883⟩
abbrev s_Desk_init : Stmt := inClass (top 100) 0
def d_Desk_init : FnRec := ⟨"__init__", "Desk.__init__", s_Desk_init, 901, some 1003⟩
abbrev s_Desk_put : Stmt := inClass (top 100) 1
def d_Desk_put : FnRec := ⟨"put", "Desk.put", s_Desk_put, 908, some 1003⟩
abbrev s_Desk_book : Stmt := inClass (top 100) 2
def d_Desk_book : FnRec := ⟨"book", "Desk.book", s_Desk_book, 915, some 1003⟩
abbrev s_Desk_is_sound : Stmt := inClass (top 100) 3
def d_Desk_is_sound : FnRec := ⟨"is_sound", "Desk.is_sound", s_Desk_is_sound, 923, some 1003⟩
abbrev s_Desk_changes : Stmt := inClass (top 100) 4
def d_Desk_changes : FnRec := ⟨"changes", "Desk.changes", s_Desk_changes, 931, some 1003⟩
abbrev s_Desk_quote : Stmt := inClass (top 100) 5
def d_Desk_quote : FnRec := ⟨"quote", "Desk.quote", s_Desk_quote, 939, some 1003⟩
abbrev s_Desk_drop : Stmt := inClass (top 100) 6
def d_Desk_drop : FnRec := ⟨"drop", "Desk.drop", s_Desk_drop, 946, some 1003⟩
abbrev s_Desk_raise_to : Stmt := inClass (top 100) 7
def d_Desk_raise_to : FnRec := ⟨"raise_to", "Desk.raise_to", s_Desk_raise_to, 953, some 1003⟩
abbrev s_Desk_tighten : Stmt := inClass (top 100) 8
def d_Desk_tighten : FnRec := ⟨"tighten", "Desk.tighten", s_Desk_tighten, 958, some 1003⟩
abbrev s_Desk_news : Stmt := inClass (top 100) 9
def d_Desk_news : FnRec := ⟨"news", "Desk.news", s_Desk_news, 965, some 1003⟩
abbrev s_Desk_least : Stmt := inClass (top 100) 10
def d_Desk_least : FnRec := ⟨"least", "Desk.least", s_Desk_least, 972, some 1003⟩
abbrev s_Desk_greatest : Stmt := inClass (top 100) 11
def d_Desk_greatest : FnRec := ⟨"greatest", "Desk.greatest", s_Desk_greatest, 979, some 1003⟩
abbrev s_Desk_undo : Stmt := inClass (top 100) 12
def d_Desk_undo : FnRec := ⟨"undo", "Desk.undo", s_Desk_undo, 986, some 1003⟩
abbrev s_Desk_trial : Stmt := inClass (top 100) 13
def d_Desk_trial : FnRec := ⟨"trial", "Desk.trial", s_Desk_trial, 993, some 1003⟩
abbrev s_Desk_tried : Stmt := inClass (top 100) 14
def d_Desk_tried : FnRec := ⟨"tried", "Desk.tried", s_Desk_tried, 1000, some 1003⟩
abbrev s__law_jar : Stmt := top 102
def d__law_jar : FnRec := ⟨"_law_jar", "_law_jar", s__law_jar, 1014, none⟩
abbrev s__law_dip : Stmt := top 103
def d__law_dip : FnRec := ⟨"_law_dip", "_law_dip", s__law_dip, 1021, none⟩
abbrev s__law_one_of : Stmt := top 104
def d__law_one_of : FnRec := ⟨"_law_one_of", "_law_one_of", s__law_one_of, 1028, none⟩
abbrev s__law_common : Stmt := top 105
def d__law_common : FnRec := ⟨"_law_common", "_law_common", s__law_common, 1035, none⟩
abbrev s__law_low : Stmt := top 106
def d__law_low : FnRec := ⟨"_law_low", "_law_low", s__law_low, 1042, none⟩
abbrev s__law_plus : Stmt := top 107
def d__law_plus : FnRec := ⟨"_law_plus", "_law_plus", s__law_plus, 1049, none⟩
abbrev s__law_times : Stmt := top 108
def d__law_times : FnRec := ⟨"_law_times", "_law_times", s__law_times, 1056, none⟩
abbrev s__law_less : Stmt := top 109
def d__law_less : FnRec := ⟨"_law_less", "_law_less", s__law_less, 1063, none⟩
abbrev s__law_least : Stmt := top 110
def d__law_least : FnRec := ⟨"_law_least", "_law_least", s__law_least, 1070, none⟩
abbrev s__law_minus : Stmt := top 111
def d__law_minus : FnRec := ⟨"_law_minus", "_law_minus", s__law_minus, 1077, none⟩
abbrev s__law_worth : Stmt := top 112
def d__law_worth : FnRec := ⟨"_law_worth", "_law_worth", s__law_worth, 1084, none⟩
abbrev s__law_payoff : Stmt := top 113
def d__law_payoff : FnRec := ⟨"_law_payoff", "_law_payoff", s__law_payoff, 1089, none⟩
abbrev s__law_chance : Stmt := top 114
def d__law_chance : FnRec := ⟨"_law_chance", "_law_chance", s__law_chance, 1094, none⟩
abbrev s__law_quotes : Stmt := top 115
def d__law_quotes : FnRec := ⟨"_law_quotes", "_law_quotes", s__law_quotes, 1101, none⟩
abbrev s__law_rows : Stmt := top 116
def d__law_rows : FnRec := ⟨"_law_rows", "_law_rows", s__law_rows, 1106, none⟩
abbrev s__law_det : Stmt := top 117
def d__law_det : FnRec := ⟨"_law_det", "_law_det", s__law_det, 1111, none⟩
abbrev s__law_lots : Stmt := top 118
def d__law_lots : FnRec := ⟨"_law_lots", "_law_lots", s__law_lots, 1116, none⟩
abbrev s__law_corners : Stmt := top 119
def d__law_corners : FnRec := ⟨"_law_corners", "_law_corners", s__law_corners, 1121, none⟩
abbrev s__law_ahead : Stmt := top 120
def d__law_ahead : FnRec := ⟨"_law_ahead", "_law_ahead", s__law_ahead, 1128, none⟩
abbrev s__law_in_order : Stmt := top 121
def d__law_in_order : FnRec := ⟨"_law_in_order", "_law_in_order", s__law_in_order, 1133, none⟩
abbrev s__law_least_by : Stmt := top 122
def d__law_least_by : FnRec := ⟨"_law_least_by", "_law_least_by", s__law_least_by, 1138, none⟩
abbrev s__law_greatest_by : Stmt := top 123
def d__law_greatest_by : FnRec := ⟨"_law_greatest_by", "_law_greatest_by", s__law_greatest_by, 1143, none⟩
abbrev s__law_lot : Stmt := top 124
def d__law_lot : FnRec := ⟨"_law_lot", "_law_lot", s__law_lot, 1148, none⟩
abbrev s__law_on : Stmt := top 125
def d__law_on : FnRec := ⟨"_law_on", "_law_on", s__law_on, 1155, none⟩
abbrev s__law_ends : Stmt := top 126
def d__law_ends : FnRec := ⟨"_law_ends", "_law_ends", s__law_ends, 1162, none⟩
abbrev s__law_two_right : Stmt := top 127
def d__law_two_right : FnRec := ⟨"_law_two_right", "_law_two_right", s__law_two_right, 1169, none⟩
abbrev s__law_wrong_right : Stmt := top 128
def d__law_wrong_right : FnRec := ⟨"_law_wrong_right", "_law_wrong_right", s__law_wrong_right, 1174, none⟩
abbrev s__law_wide_right : Stmt := top 129
def d__law_wide_right : FnRec := ⟨"_law_wide_right", "_law_wide_right", s__law_wide_right, 1179, none⟩
abbrev s__law_deed : Stmt := top 130
def d__law_deed : FnRec := ⟨"_law_deed", "_law_deed", s__law_deed, 1184, none⟩
abbrev s__law_do : Stmt := top 131
def d__law_do : FnRec := ⟨"_law_do", "_law_do", s__law_do, 1191, none⟩
abbrev s__law_shows : Stmt := top 132
def d__law_shows : FnRec := ⟨"_law_shows", "_law_shows", s__law_shows, 1198, none⟩
abbrev s__law_desk_right : Stmt := top 133
def d__law_desk_right : FnRec := ⟨"_law_desk_right", "_law_desk_right", s__law_desk_right, 1205, none⟩
abbrev s__law_right : Stmt := top 134
def d__law_right : FnRec := ⟨"_law_right", "_law_right", s__law_right, 1212, none⟩
abbrev s_law : Stmt := top 135
def d_law : FnRec := ⟨"law", "law", s_law, 1217, none⟩
def fnTab0 : List FnRec := [d_InvalidText_init, d_InvalidNumber_init, d_InvalidPayoff_init, d_InvalidLot_init, d_InvalidFraction_init, d_InvalidIndex_init, d_NotABook_init, d_InvalidChance_init, d_InvalidQuotes_init, d_TooGreat_init, d_is_integer, d_is_between]
def fnTab1 : List FnRec := [d_number_in, d_integer_in, d_common_divisor, d_is_fraction, d_fraction_in, d_is_lot, d_lowest, d_plus, d_minus, d_times, d_is_less, d_added]
def fnTab2 : List FnRec := [d_greater_of, d_lesser_of, d_greatest_in, d_least_in, d_written, d_Answer_init, d_Table_init, d_Table_entering, d_Table_leaving, d_Table_is_ahead, d_Table_turn, d_Table_numbers_now]
def fnTab3 : List FnRec := [d_Table_way_of, d_Table_multiples_now, d_greatest_sum, d_is_payoff, d_is_price, d_is_quote, d_check_quotes, d_quote_text, d_quote_in, d_check_payoff, d_check_price, d_Book_init]
def fnTab4 : List FnRec := [d_Book_read, d_Book_outcomes, d_Book_quotes, d_Book_with_quote, d_Book_without, d_Book_eq, d_Book_str, d_Book_repr, d_less_one, d_check_index, d_check_book, d_is_share]
def fnTab5 : List FnRec := [d_check_chance, d_worth_at, d_gain_rows, d_least_answer, d_plain_answer, d_is_kept_by_some, d_check_sound, d_check_two, d_is_sound, d_check_listed, d_least_by, d_greatest_by]
def fnTab6 : List FnRec := [d_turned, d_lot_payoff, d_check_lot, d_check_asked, d_least_worth, d_greatest_worth, d_check_pair, d_both, d_do_meet, d_check_two_sound, d_least_between, d_least_blend]
def fnTab7 : List FnRec := [d_but_one, d_least_but_one, d_greatest_but_one, d_is_left, d_lot_at, d_widest_lot, d_Former_init, d_Trial_init, d_Trial_enter, d_Trial_exit, d_Desk_init, d_Desk_put]
def fnTab8 : List FnRec := [d_Desk_book, d_Desk_is_sound, d_Desk_changes, d_Desk_quote, d_Desk_drop, d_Desk_raise_to, d_Desk_tighten, d_Desk_news, d_Desk_least, d_Desk_greatest, d_Desk_undo, d_Desk_trial]
def fnTab9 : List FnRec := [d_Desk_tried, d__law_jar, d__law_dip, d__law_one_of, d__law_common, d__law_low, d__law_plus, d__law_times, d__law_less, d__law_least, d__law_minus, d__law_worth]
def fnTab10 : List FnRec := [d__law_payoff, d__law_chance, d__law_quotes, d__law_rows, d__law_det, d__law_lots, d__law_corners, d__law_ahead, d__law_in_order, d__law_least_by, d__law_greatest_by, d__law_lot]
def fnTab11 : List FnRec := [d__law_on, d__law_ends, d__law_two_right, d__law_wrong_right, d__law_wide_right, d__law_deed, d__law_do, d__law_shows, d__law_desk_right, d__law_right, d_law]
def fnTab : List FnRec := fnTab0 ++ fnTab1 ++ fnTab2 ++ fnTab3 ++ fnTab4 ++ fnTab5 ++ fnTab6 ++ fnTab7 ++ fnTab8 ++ fnTab9 ++ fnTab10 ++ fnTab11
def mkB (K : PySem.W.Frag) (C f : Addr) : Bool := PySem.W.makesIn K C && (He.eqO (PySem.W.findIn K (.ref C) "__init__") (some (some (.ref f))) && (PySem.W.isFn K (.ref f) && PySem.W.keepIn K (.ref C)))
def methB (K : PySem.W.Frag) (C : Addr) (m : Str) (f : Addr) : Bool := He.eqO (PySem.W.findIn K (.ref C) m) (some (some (.ref f))) && (PySem.W.isFn K (.ref f) && PySem.W.keepIn K (.ref f))
def recB (o : Option (List Value)) (g : Addr) : Bool := match o with
  | some (.ref a :: _) => decide (a = g)
  | _ => false
def propB (K : PySem.W.Frag) (C : Addr) (f : Str) (p g : Addr) : Bool := He.eqO (PySem.W.findIn K (.ref C) f) (some (some (.ref p))) && (He.eqO (PySem.W.specialIn K (.ref p) "__get__") (some (some (.builtin "property.__get__"))) && (decide (PySem.W.takesIn K (.ref p) = some true) && recB (PySem.W.recIn K p "property") g))
def clsB (K : PySem.W.Frag) (C : Addr) : Bool := PySem.W.plainGet K C Str.empty && (PySem.W.hasDictIn K C && (PySem.W.plainOver K C && He.eqO (PySem.W.findIn K (.ref C) "__setattr__") (some (some (.builtin "object.__setattr__")))))
def clsAll (K : PySem.W.Frag) : Bool := [Cl.answer, .table, .book, .former, .trial, .desk].all fun c => clsB K c.adr && c.keys.all fun f => He.eqO (PySem.W.findIn K (.ref c.adr) f) (some none)
def xc0B (K : PySem.W.Frag) : Bool := PySem.W.excIn K 221 arithB "ArithmeticError.__new__" && (PySem.W.keepIn K (.ref 221) && (decide (PySem.W.subIn K (.ref 221) (.type "BaseException") = some true) && decide (PySem.W.typeIn K (.ref 221) = some (.type "type"))))
def bkB (K : PySem.W.Frag) : Bool := He.eqO (PySem.W.findIn K (.ref Cl.book.adr) "__class__") (some (some (.builtin "object.__class__"))) && (He.eqO (PySem.W.specialIn K (.builtin "object.__class__") "__get__") (some (some (.builtin "getset_descriptor.__get__"))) &&
  (decide (PySem.W.takesIn K (.builtin "object.__class__") = some true) && (decide (PySem.W.mroIn K Cl.book.adr (.type "object") = some true) && (decide (PySem.W.kitOne K (.ref Cl.book.adr) (.ref Cl.book.adr) = some true) && (He.eqO (PySem.W.findIn K (.ref Cl.book.adr) "__eq__") (some (some (.ref 594))) && PySem.W.isFn K (.ref 594))))))
/-- a class object of this mro -/
def xoB (K : PySem.W.Frag) (C : Addr) (bm : List Value) (p : Addr → Bool → String → Bool) : Bool := match K.lookup C with
  | some ⟨.type t, _, .cls cd, sl⟩ => (match sl.toList with
    | [_, _, _, _, some (.builtin n), _] => decide (t = "type") && (decide (cd.mro = .ref C :: bm) && (!cd.hasDel && p cd.ns cd.hasDict n))
    | _ => false)
  | _ => false
def bnB (K : PySem.W.Frag) : Bool := xoB K Cl.book.adr [.type "object"] (fun N _ _ => PySem.W.nsOkIn K N && (He.eqO (PySem.W.nsIn K N "__eq__") (some (some (.ref 594))) && He.eqO (PySem.W.nsIn K N "__ne__") (some none))) && (match K.lookup 594 with
  | some o => decide (o.cls = .type "function")
  | none => false)
def exB (K : PySem.W.Frag) : Bool := decide (PySem.W.exmOne K (.ref 221) (.ref 221) = some true) && (decide (PySem.W.exmAny K (.ref 221) [.ref 221, .ref 252] = some true) && decide (PySem.W.exmAny K (.ref 252) [.ref 221, .ref 252] = some true))
def tgB (K : PySem.W.Frag) : Bool := xoB K 252 (.ref 208 :: arB) (fun _ hd n => hd && decide (n = "ArithmeticError.__new__")) && (He.eqO (PySem.W.findIn K (.ref 252) "__setattr__") (some (some (.builtin "object.__setattr__"))) && (He.eqO (PySem.W.findIn K (.ref 252) "given") (some none) &&
  (He.eqO (PySem.W.findIn K (.ref 252) "__init__") (some (some (.ref 249))) && (decide (PySem.W.typeIn K (.ref 249) = some (.type "function")) && (PySem.W.keepIn K (.ref 252) && (decide (PySem.W.subIn K (.ref 252) (.type "BaseException") = some true) && decide (PySem.W.typeIn K (.ref 252) = some (.type "type"))))))))
def cdB (K : PySem.W.Frag) : Bool := match K.lookup d__law_desk_right.adr with
  | some ⟨_, _, .func fd, _⟩ => decide (fd.code = .ref 1204)
  | _ => false
def isStr : Value → Bool
  | .str _ _ => true
  | _ => false
def isInt : Value → Bool
  | .int _ _ => true
  | _ => false
def isBool : Value → Bool
  | .bool _ => true
  | _ => false
def chB (K : PySem.W.Frag) : Bool := match K.lookup 1204 with
  | some ⟨c, _, .fields vs, _⟩ => decide (c = .type "code") && (decide (vs[11]? = some (.ref 1200)) && (decide (vs.getD 11 Value.none = .ref 1200) && (isStr (vs.getD 18 Value.none) && (isInt (vs.getD 7 Value.none) && (isBool (vs.getD 9 Value.none) && isInt (vs.getD 10 Value.none))))))
  | _ => false
def fnA (K : PySem.W.Frag) (a : Addr) : He.FnW := match K.lookup a with
  | some ⟨_, _, .func fd, _⟩ => some (fd.name, fd.qualname, fd.params, fd.body, fd.scope, fd.globals, fd.closure, fd.builtins)
  | _ => none
def fnV (d : FnRec) : He.FnW := some (d.nm, d.qual, defArgs d.st, .stmts (defBody d.st), defScope d.st, mainGlobals, [], builtinsNs)
def fnB (K : PySem.W.Frag) (d : FnRec) : Bool := PySem.W.keepIn K (.ref d.adr) && ((match K.lookup d.adr with
  | some ⟨_, _, .func fd, _⟩ => PySem.W.codeIn K fd.code d.qual && (He.dflB K fd.defaults [] && He.kwdB K fd.kwdefaults [])
  | _ => false) && (match d.cls with
  | none => He.eqO (PySem.W.nsIn K mainGlobals d.nm) (some (some (.ref d.adr)))
  | some _ => true))
abbrev FB := PySem.W.Frag → Bool
def fx0 : List FB := [clsAll,
  fun K => He.eqO (PySem.W.nsIn K mainGlobals "len") (some none),
  fun K => He.eqO (PySem.W.nsIn K mainGlobals "abs") (some none),
  fun K => He.eqO (PySem.W.nsIn K mainGlobals "sum") (some none),
  fun K => He.eqO (PySem.W.nsIn K mainGlobals "all") (some none),
  fun K => He.eqO (PySem.W.nsIn K mainGlobals "divmod") (some none),
  fun K => He.eqO (PySem.W.nsIn K mainGlobals "int") (some none),
  fun K => He.eqO (PySem.W.nsIn K mainGlobals "list") (some none),
  fun K => He.eqO (PySem.W.nsIn K mainGlobals "tuple") (some none),
  fun K => He.eqO (PySem.W.nsIn K mainGlobals "str") (some none)]
def fx1 : List FB := [fun K => He.eqO (PySem.W.nsIn K mainGlobals "min") (some none),
  fun K => He.eqO (PySem.W.nsIn K mainGlobals "max") (some none),
  fun K => He.eqO (PySem.W.nsIn K mainGlobals "isinstance") (some none),
  fun K => He.eqO (PySem.W.nsIn K mainGlobals "bool") (some none),
  fun K => He.eqO (PySem.W.nsIn K mainGlobals "range") (some none),
  fun K => He.eqO (PySem.W.nsIn K mainGlobals "zip") (some none),
  fun K => He.eqO (PySem.W.nsIn K mainGlobals "enumerate") (some none),
  fun K => (He.Fa.int "MOST_OUTCOMES" 6).ok K,
  fun K => (He.Fa.int "MOST_LISTED" 5).ok K,
  fun K => (He.Fa.int "MOST_NUMBER" 1000).ok K]
def fx2 : List FB := [fun K => (He.Fa.int "MOST_QUOTES" 32).ok K,
  fun K => (He.Fa.int "MOST_TOP" 1000000000).ok K,
  fun K => (He.Fa.int "MOST_BOTTOM" 1000000).ok K,
  fun K => (He.Fa.int "MOST_PRICE_TOP" 1000000).ok K,
  fun K => (He.Fa.int "MOST_PRICE_BOTTOM" 1000).ok K,
  fun K => He.eqO (PySem.W.nsIn K mainGlobals "Answer") (some (some (.ref 412))),
  fun K => He.eqO (PySem.W.nsIn K mainGlobals "Table") (some (some (.ref 476))),
  fun K => He.eqO (PySem.W.nsIn K mainGlobals "Book") (some (some (.ref 611))),
  fun K => He.eqO (PySem.W.nsIn K mainGlobals "Former") (some (some (.ref 848))),
  fun K => He.eqO (PySem.W.nsIn K mainGlobals "Trial") (some (some (.ref 883)))]
def fx3 : List FB := [fun K => He.eqO (PySem.W.nsIn K mainGlobals "Desk") (some (some (.ref 1003))),
  fun K => He.eqO (PySem.W.nsIn K mainGlobals "NotSound") (some (some (.ref 221))),
  fun K => He.eqO (PySem.W.nsIn K mainGlobals "TooGreat") (some (some (.ref 252))),
  fun K => mkB K 412 409,
  fun K => mkB K 476 428,
  fun K => mkB K 611 549,
  fun K => mkB K 848 845,
  fun K => mkB K 883 866,
  fun K => mkB K 1003 901,
  fun K => methB K 476 "entering" 435]
def fx4 : List FB := [fun K => methB K 476 "leaving" 442,
  fun K => methB K 476 "is_ahead" 449,
  fun K => methB K 476 "turn" 454,
  fun K => methB K 476 "numbers_now" 461,
  fun K => methB K 476 "way_of" 468,
  fun K => methB K 476 "multiples_now" 473,
  fun K => methB K 611 "with_quote" 580,
  fun K => methB K 883 "__enter__" 873,
  fun K => methB K 883 "__exit__" 880,
  fun K => methB K 1003 "put" 908]
def fx5 : List FB := [fun K => methB K 1003 "quote" 939,
  fun K => methB K 1003 "drop" 946,
  fun K => methB K 1003 "raise_to" 953,
  fun K => methB K 1003 "tighten" 958,
  fun K => methB K 1003 "news" 965,
  fun K => methB K 1003 "least" 972,
  fun K => methB K 1003 "greatest" 979,
  fun K => methB K 1003 "undo" 986,
  fun K => methB K 1003 "trial" 993,
  fun K => methB K 1003 "tried" 1000]
def fx6 : List FB := [xc0B,
  fun K => He.eqO (PySem.W.nsIn K mainGlobals "NotSound") (some (some (.ref 221))),
  bkB,
  bnB,
  bkB,
  fun K => propB K 611 "outcomes" 565 564,
  fun K => propB K 611 "quotes" 573 572,
  fun K => propB K 1003 "book" 916 915,
  fun K => propB K 1003 "is_sound" 924 923,
  fun K => propB K 1003 "changes" 932 931]
def fx7 : List FB := [exB,
  tgB,
  cdB,
  chB,
  fun K => (K.lookup 1200).isNone]
def fxs : List FB := fx0 ++ fx1 ++ fx2 ++ fx3 ++ fx4 ++ fx5 ++ fx6 ++ fx7
def ads0 : List Addr := [3, 24, 23, 44, 43, 63, 62, 82, 81, 101, 100, 120, 119, 139, 138, 158]
def ads1 : List Addr := [157, 177, 176, 196, 195, 208, 207, 221, 220, 233, 232, 252, 251, 264, 263, 412]
def ads2 : List Addr := [411, 476, 475, 611, 610, 848, 847, 883, 882, 1003, 1002, 41, 40, 60, 59, 79]
def ads3 : List Addr := [78, 98, 97, 117, 116, 136, 135, 155, 154, 174, 173, 193, 192, 249, 248, 273]
def ads4 : List Addr := [272, 280, 279, 285, 284, 292, 291, 299, 298, 306, 305, 313, 312, 318, 317, 325]
def ads5 : List Addr := [324, 332, 331, 339, 338, 346, 345, 353, 352, 360, 359, 367, 366, 374, 373, 381]
def ads6 : List Addr := [380, 388, 387, 395, 394, 409, 408, 428, 427, 435, 434, 442, 441, 449, 448, 454]
def ads7 : List Addr := [453, 461, 460, 468, 467, 473, 472, 487, 486, 492, 491, 499, 498, 506, 505, 513]
def ads8 : List Addr := [512, 518, 517, 523, 522, 530, 529, 537, 536, 549, 548, 554, 553, 564, 563, 572]
def ads9 : List Addr := [571, 580, 579, 587, 586, 594, 593, 601, 600, 608, 607, 622, 621, 629, 628, 636]
def ads10 : List Addr := [635, 643, 642, 650, 649, 655, 654, 660, 659, 665, 664, 672, 671, 679, 678, 686]
def ads11 : List Addr := [685, 693, 692, 700, 699, 707, 706, 714, 713, 721, 720, 726, 725, 731, 730, 738]
def ads12 : List Addr := [737, 745, 744, 752, 751, 759, 758, 766, 765, 773, 772, 778, 777, 785, 784, 792]
def ads13 : List Addr := [791, 799, 798, 804, 803, 809, 808, 814, 813, 819, 818, 824, 823, 831, 830, 845]
def ads14 : List Addr := [844, 866, 865, 873, 872, 880, 879, 901, 900, 908, 907, 915, 914, 923, 922, 931]
def ads15 : List Addr := [930, 939, 938, 946, 945, 953, 952, 958, 957, 965, 964, 972, 971, 979, 978, 986]
def ads16 : List Addr := [985, 993, 992, 1000, 999, 1014, 1013, 1021, 1020, 1028, 1027, 1035, 1034, 1042, 1041, 1049]
def ads17 : List Addr := [1048, 1056, 1055, 1063, 1062, 1070, 1069, 1077, 1076, 1084, 1083, 1089, 1088, 1094, 1093, 1101]
def ads18 : List Addr := [1100, 1106, 1105, 1111, 1110, 1116, 1115, 1121, 1120, 1128, 1127, 1133, 1132, 1138, 1137, 1143]
def ads19 : List Addr := [1142, 1148, 1147, 1155, 1154, 1162, 1161, 1169, 1168, 1174, 1173, 1179, 1178, 1184, 1183, 1191]
def ads20 : List Addr := [1190, 1198, 1197, 1205, 1204, 1212, 1211, 1217, 1216, 565, 573, 916, 924, 932]
def ads : List Addr := ads0 ++ ads1 ++ ads2 ++ ads3 ++ ads4 ++ ads5 ++ ads6 ++ ads7 ++ ads8 ++ ads9 ++ ads10 ++ ads11 ++ ads12 ++ ads13 ++ ads14 ++ ads15 ++ ads16 ++ ads17 ++ ads18 ++ ads19 ++ ads20
abbrev AlS : Type := (Bool × List He.FnW) × Option Obj
def obsK (K : PySem.W.Frag) : Bool × List He.FnW := ((fxs.all fun f => f K) && fnTab.all fun d => fnB K d, fnTab.map fun d => fnA K d.adr)
def valK : Bool × List He.FnW := (true, fnTab.map fnV)
def tabO : Obj := { cls := .none, data := .fields #[] }
def obsG (g : Addr → Option Obj) : AlS := (obsK (He.frG g ads), g 1200)
def hookS : PySem.W.Hook where
  α := AlS
  obs := fun s => obsG s.heap.get?
  val := fun _ => (valK, some tabO)
  says := fun _ h => ∃ K : PySem.W.Frag, K.In h ∧ obsK K = valK ∧ h.get? 1200 = some tabO
  of := fun _ s e => ⟨_, He.frG_in, congrArg Prod.fst e, congrArg Prod.snd e⟩
  keeps := fun _ _ _ ⟨K, hK, c, t⟩ k => ⟨K, PySem.W.Frag.In.keeps hK k, c, k _ _ t⟩
end SC
namespace SC
open PySem PySem.W PySem.Calls PyProof.Rows HandSHeadRun
abbrev R0 : OpenRow := OpenLaw.row PySem.Challenge.rw_softchances_k93_whole_sources_and_desks
abbrev qv : Program := view R0.prog [135]
def names : List PySem.Str := (R0.prog.main.scope.names.filter fun y => decide (y.2 = .local) && !(y.1 == ("law" : PySem.Str))).map (·.1)
def ob (s : SharedT) : AlS := obsG (HandSHeadRun.getT s)
theorem ob_eq (s : SharedT) : ob s = hookS.obs s.abs := by
  have e : HandSHeadRun.getT s = s.abs.heap.get? := funext (HandSHeadRun.getT_eq s)
  unfold ob
  rw [e]
  rfl
theorem map3 {α β γ δ : Type} {o : Option α} {f : α → β} {g : α → γ} {k : α → δ} {a : β} {b : γ} {c : δ} (h1 : o.map f = some a) (h2 : o.map g = some b) (h3 : o.map k = some c) : o.map (fun s => (f s, g s, k s)) = some (a, b, c) := by
  cases o with
  | none => cases h1
  | some s =>
    have e1 : f s = a := Option.some.inj h1
    have e2 : g s = b := Option.some.inj h2
    have e3 : k s = c := Option.some.inj h3
    rw [← e1, ← e2, ← e3]
    rfl
def oA (s : SharedT) : Bool := fxs.all fun f => f (He.frG (HandSHeadRun.getT s) ads)
def oB (s : SharedT) : Bool := (fnTab.take 85).all fun d => fnB (He.frG (HandSHeadRun.getT s) ads) d
def oC (s : SharedT) : Bool := (fnTab.drop 85).all fun d => fnB (He.frG (HandSHeadRun.getT s) ads) d
def oD (s : SharedT) : List He.FnW × Option Obj := (fnTab.map fun d => fnA (He.frG (HandSHeadRun.getT s) ads) d.adr, HandSHeadRun.getT s 1200)
theorem all_cut {α : Type} (p : α → Bool) (n : Nat) (l : List α) : l.all p = ((l.take n).all p && (l.drop n).all p) := by
  rw [← List.all_append, List.take_append_drop]
theorem ob_parts (s : SharedT) : ob s = ((oA s && (oB s && oC s), (oD s).1), (oD s).2) := by
  have e : ob s = ((oA s && fnTab.all fun d => fnB (He.frG (HandSHeadRun.getT s) ads) d, (oD s).1), (oD s).2) := rfl
  rw [e, all_cut _ 85 fnTab]
  rfl
theorem map4 {α γ δ : Type} {o : Option α} {f g h : α → Bool} {k : α → γ × δ} {c : γ} {d : δ} (h1 : o.map f = some true) (h2 : o.map g = some true) (h3 : o.map h = some true) (h4 : o.map k = some (c, d)) : o.map (fun s => ((f s && (g s && h s), (k s).1), (k s).2)) = some ((true, c), d) := by
  cases o with
  | none => cases h1
  | some s =>
    have e1 : f s = true := Option.some.inj h1
    have e2 : g s = true := Option.some.inj h2
    have e3 : h s = true := Option.some.inj h3
    have e4 : k s = (c, d) := Option.some.inj h4
    show some ((f s && (g s && h s), (k s).1), (k s).2) = some ((true, c), d)
    rw [e1, e2, e3, e4]
    rfl
theorem mapL {α β γ : Type} {o : Option α} {f : α → β} {g : α → γ} {a : β} {b : γ} (h : o.map (fun s => (f s, g s)) = some (a, b)) : o.map f = some a := by
  cases o with
  | none => cases h
  | some s => exact congrArg some (congrArg Prod.fst (Option.some.inj h))
theorem mapR {α β γ : Type} {o : Option α} {f : α → β} {g : α → γ} {a : β} {b : γ} (h : o.map (fun s => (f s, g s)) = some (a, b)) : o.map g = some b := by
  cases o with
  | none => cases h
  | some s => exact congrArg some (congrArg Prod.snd (Option.some.inj h))
theorem run1a (w : World) : ∀ os : OsState, (endF (stepQ (denQ tabQ) R0.prog w) 12000 R0.prog w os).map (fun s => (looksF R0.prog (boot_heap w.params) s.abs, oA s)) = some (true, true) := by
  intro os
  kernel_rfl
theorem run2d (w : World) : ∀ os : OsState, (endF (stepQ (denQ tabQ) R0.prog w) 12000 R0.prog w os).map (fun s => (seenQ qv names (importedModules R0.prog.main.body) (fun s => xlAt qv [] s && recOk R0.toRowW.records s) s.abs, oD s)) = some (openGood qv names, (fnTab.map fnV, some tabO)) := by
  intro os
  kernel_rfl
theorem run3b (w : World) : ∀ os : OsState, (endF (stepQ (denQ tabQ) R0.prog w) 12000 R0.prog w os).map oB = some true := by
  intro os
  kernel_rfl
theorem run3c (w : World) : ∀ os : OsState, (endF (stepQ (denQ tabQ) R0.prog w) 12000 R0.prog w os).map oC = some true := by
  intro os
  kernel_rfl
theorem run1 (w : World) : ∀ os : OsState, (endF (stepQ (denQ tabQ) R0.prog w) 12000 R0.prog w os).map (fun s => looksF R0.prog (boot_heap w.params) s.abs) = some true := fun os => mapL (run1a w os)
theorem run2 (w : World) : ∀ os : OsState, (endF (stepQ (denQ tabQ) R0.prog w) 12000 R0.prog w os).map (fun s => seenQ qv names (importedModules R0.prog.main.body) (fun s => xlAt qv [] s && recOk R0.toRowW.records s) s.abs) = some (openGood qv names) := fun os => mapL (run2d w os)
theorem run3 (w : World) : ∀ os : OsState, (endF (stepQ (denQ tabQ) R0.prog w) 12000 R0.prog w os).map (fun s => ob s) = some (hookS.val w) := by
  intro os
  have e : (fun s => ob s) = fun s => ((oA s && (oB s && oC s), (oD s).1), (oD s).2) := funext ob_parts
  rw [e]
  exact map4 (mapR (run1a w os)) (run3b w os) (run3c w os) (mapR (run2d w os))
theorem run (w : World) : HandSHeadRun.RunEq R0 qv hookS ob 12000 names w := fun os => map3 (run1 w os) (run2 w os) (run3 w os)
end SC
end
section
namespace MA
/-! ### finite sums -/
def sm : Nat → (Nat → Int) → Int
  | 0, _ => 0
  | n + 1, f => sm n f + f n
theorem sm_congr {f g : Nat → Int} : ∀ n, (∀ k, k < n → f k = g k) → sm n f = sm n g
  | 0, _ => rfl
  | n + 1, h => by rw [sm, sm, sm_congr n fun k hk => h k (by omega), h n (by omega)]
theorem sm_add (f g : Nat → Int) : ∀ n, sm n (fun k => f k + g k) = sm n f + sm n g
  | 0 => rfl
  | n + 1 => by simp only [sm, sm_add f g n]; omega
theorem sm_mul (a : Int) (f : Nat → Int) : ∀ n, sm n (fun k => a * f k) = a * sm n f
  | 0 => by simp [sm]
  | n + 1 => by simp only [sm, sm_mul a f n, Int.mul_add]
theorem sm_mulr (a : Int) (f : Nat → Int) (n : Nat) : sm n (fun k => f k * a) = sm n f * a := by
  rw [Int.mul_comm, ← sm_mul]
  exact sm_congr n fun k _ => Int.mul_comm _ _
theorem sm_sub (f g : Nat → Int) (n : Nat) : sm n (fun k => f k - g k) = sm n f - sm n g := by
  induction n with
  | zero => rfl
  | succ n ih => simp only [sm, ih]; omega
theorem sm_zero : ∀ n, sm n (fun _ => 0) = 0
  | 0 => rfl
  | n + 1 => by simp only [sm, sm_zero n]; rfl
theorem sm_swap (f : Nat → Nat → Int) (n : Nat) : ∀ m, sm m (fun i => sm n (fun k => f i k)) = sm n (fun k => sm m (fun i => f i k))
  | 0 => by simp only [sm]; exact (sm_zero n).symm
  | m + 1 => by simp only [sm]; rw [sm_swap f n m, ← sm_add]
theorem sm_delta (f : Nat → Int) (j : Nat) : ∀ n, sm n (fun k => if k = j then f k else 0) = if j < n then f j else 0
  | 0 => by simp [sm]
  | n + 1 => by
    rw [sm, sm_delta f j n]
    by_cases h : n = j
    · subst h; simp
    · rw [if_neg h]
      by_cases h2 : j < n
      · rw [if_pos h2, if_pos (by omega)]; omega
      · rw [if_neg h2, if_neg (by omega)]; omega
theorem sm_nonneg {f : Nat → Int} : ∀ n, (∀ k, k < n → 0 ≤ f k) → 0 ≤ sm n f
  | 0, _ => Int.le_refl _
  | n + 1, h => by
    have h1 := sm_nonneg n fun k hk => h k (by omega)
    have h2 := h n (by omega)
    simp only [sm]; omega
/-- a sum above 0 has a part above 0 -/
theorem sm_pos {f : Nat → Int} : ∀ n, 0 < sm n f → ∃ k, k < n ∧ 0 < f k
  | 0, h => by simp [sm] at h
  | n + 1, h => by
    by_cases h1 : 0 < f n
    · exact ⟨n, by omega, h1⟩
    · rw [sm] at h
      obtain ⟨k, hk, h2⟩ := sm_pos (f := f) n (by omega)
      exact ⟨k, by omega, h2⟩
/-! ### determinants of two and three -/
abbrev Mat := Nat → Nat → Int
def dt : Nat → Mat → Int
  | 2, B => B 0 0 * B 1 1 - B 0 1 * B 1 0
  | 3, B => B 0 0 * (B 1 1 * B 2 2 - B 1 2 * B 2 1) - B 0 1 * (B 1 0 * B 2 2 - B 1 2 * B 2 0) + B 0 2 * (B 1 0 * B 2 1 - B 1 1 * B 2 0)
  | _, _ => 0
def aj : Nat → Mat → Mat
  | 2, B => fun i k => if i = k then B (1 - k) (1 - i) else - B (1 - k) (1 - i)
  | 3, B => fun i k => B ((k + 1) % 3) ((i + 1) % 3) * B ((k + 2) % 3) ((i + 2) % 3) - B ((k + 1) % 3) ((i + 2) % 3) * B ((k + 2) % 3) ((i + 1) % 3)
  | _, _ => fun _ _ => 0
def rep (B : Mat) (r : Nat) (a : Nat → Int) : Mat := fun k i => if i = r then a k else B k i
theorem two_three {m : Nat} (h : m = 2 ∨ m = 3) {P : Nat → Prop} (h2 : P 2) (h3 : P 3) : P m := by
  rcases h with rfl | rfl <;> assumption
theorem lt2 {i : Nat} (h : i < 2) : i = 0 ∨ i = 1 := by omega
theorem lt3 {i : Nat} (h : i < 3) : i = 0 ∨ i = 1 ∨ i = 2 := by omega
theorem mul_adj {m : Nat} (h : m = 2 ∨ m = 3) (B : Mat) {k l : Nat} (hk : k < m) (hl : l < m) : sm m (fun i => B k i * aj m B i l) = if k = l then dt m B else 0 := by
  rcases h with rfl | rfl
  · rcases lt2 hk with rfl | rfl <;> rcases lt2 hl with rfl | rfl <;> simp [sm, aj, dt] <;> grind
  · rcases lt3 hk with rfl | rfl | rfl <;> rcases lt3 hl with rfl | rfl | rfl <;> simp [sm, aj, dt] <;> grind
theorem adj_mul {m : Nat} (h : m = 2 ∨ m = 3) (B : Mat) {k l : Nat} (hk : k < m) (hl : l < m) : sm m (fun i => aj m B k i * B i l) = if k = l then dt m B else 0 := by
  rcases h with rfl | rfl
  · rcases lt2 hk with rfl | rfl <;> rcases lt2 hl with rfl | rfl <;> simp [sm, aj, dt] <;> grind
  · rcases lt3 hk with rfl | rfl | rfl <;> rcases lt3 hl with rfl | rfl | rfl <;> simp [sm, aj, dt] <;> grind
theorem dt_rep {m : Nat} (h : m = 2 ∨ m = 3) (B : Mat) (a : Nat → Int) {r : Nat} (hr : r < m) : dt m (rep B r a) = sm m (fun k => aj m B r k * a k) := by
  rcases h with rfl | rfl
  · rcases lt2 hr with rfl | rfl <;> simp [sm, aj, dt, rep] <;> grind
  · rcases lt3 hr with rfl | rfl | rfl <;> simp [sm, aj, dt, rep] <;> grind
theorem aj_rep_same {m : Nat} (h : m = 2 ∨ m = 3) (B : Mat) (a : Nat → Int) {r k : Nat} (hr : r < m) (hk : k < m) : aj m (rep B r a) r k = aj m B r k := by
  rcases h with rfl | rfl
  · rcases lt2 hr with rfl | rfl <;> rcases lt2 hk with rfl | rfl <;> simp [aj, rep]
  · rcases lt3 hr with rfl | rfl | rfl <;> rcases lt3 hk with rfl | rfl | rfl <;> simp [aj, rep]
theorem aj_rep {m : Nat} (h : m = 2 ∨ m = 3) (B : Mat) (a : Nat → Int) {r i k : Nat} (hr : r < m) (hi : i < m) (hk : k < m) (ne : i ≠ r) :
    sm m (fun k => aj m B r k * a k) * aj m B i k - sm m (fun k => aj m B i k * a k) * aj m B r k = dt m B * aj m (rep B r a) i k := by
  rcases h with rfl | rfl
  · rcases lt2 hr with rfl | rfl <;> rcases lt2 hi with rfl | rfl <;> rcases lt2 hk with rfl | rfl <;> simp [sm, aj, dt, rep] at ne ⊢ <;> grind
  · rcases lt3 hr with rfl | rfl | rfl <;> rcases lt3 hi with rfl | rfl | rfl <;> rcases lt3 hk with rfl | rfl | rfl <;> first | exact absurd rfl ne | (simp [sm, aj, dt, rep]; grind)
theorem dt_one {m : Nat} (h : m = 2 ∨ m = 3) : dt m (fun k i => if k = i then 1 else 0) = 1 := by
  rcases h with rfl | rfl <;> simp [dt]
theorem aj_one {m : Nat} (h : m = 2 ∨ m = 3) {i k : Nat} (hi : i < m) (hk : k < m) : aj m (fun k i => if k = i then 1 else 0) i k = if i = k then 1 else 0 := by
  rcases h with rfl | rfl
  · rcases lt2 hi with rfl | rfl <;> rcases lt2 hk with rfl | rfl <;> simp [aj]
  · rcases lt3 hi with rfl | rfl | rfl <;> rcases lt3 hk with rfl | rfl | rfl <;> simp [aj]
theorem dt_congr {m : Nat} {B C : Mat} (h : ∀ k i, k < m → i < m → B k i = C k i) : dt m B = dt m C := by
  match m, h with
  | 0, _ => rfl
  | 1, _ => rfl
  | 2, h => simp [dt, h 0 0, h 0 1, h 1 0, h 1 1]
  | 3, h => simp [dt, h 0 0, h 0 1, h 0 2, h 1 0, h 1 1, h 1 2, h 2 0, h 2 1, h 2 2]
  | _ + 4, _ => rfl
theorem aj_congr {m : Nat} (hm : m = 2 ∨ m = 3) {B C : Mat} (h : ∀ k i, k < m → i < m → B k i = C k i) {i k : Nat} (hi : i < m) (hk : k < m) : aj m B i k = aj m C i k := by
  rcases hm with rfl | rfl
  · rcases lt2 hi with rfl | rfl <;> rcases lt2 hk with rfl | rfl <;> simp [aj, h]
  · rcases lt3 hi with rfl | rfl | rfl <;> rcases lt3 hk with rfl | rfl | rfl <;> simp [aj, h]
end MA
end

section
namespace MA
/-- a question: m rows, s numbers, the matrix with slack columns and bounds, the worths -/
structure Pr where
  m : Nat
  s : Nat
  A : Mat
  b : Nat → Int
  c : Nat → Int
structure Pr.Ok (p : Pr) : Prop where
  m23 : p.m = 2 ∨ p.m = 3
  bp : ∀ k, k < p.m → 0 ≤ p.b k
  c0 : ∀ j, p.s ≤ j → p.c j = 0
/-- column j < s: of A; then the slack columns; then the bounds -/
def Pr.M (p : Pr) : Mat := fun k j => if j < p.s then p.A k j else if j < p.s + p.m then (if k + p.s = j then 1 else 0) else p.b k
theorem Pr.M_slack (p : Pr) {k l : Nat} (hl : l < p.m) : p.M k (p.s + l) = if k = l then 1 else 0 := by
  unfold Pr.M
  rw [if_neg (by omega), if_pos (by omega)]
  by_cases h : k = l
  · rw [if_pos (by omega), if_pos h]
  · rw [if_neg (by omega), if_neg h]
theorem Pr.M_rhs (p : Pr) (k : Nat) : p.M k (p.s + p.m) = p.b k := by
  unfold Pr.M
  rw [if_neg (by omega), if_neg (by omega)]
structure Tb where
  u : Int
  b : Nat → Nat
  L : Mat
/-- the columns of the basis -/
def Tb.B (p : Pr) (T : Tb) : Mat := fun k i => p.M k (T.b i)
structure In (p : Pr) (T : Tb) : Prop where
  up : 0 < T.u
  ud : T.u = dt p.m (T.B p)
  bs : ∀ i, i < p.m → T.b i < p.s + p.m
  ro : ∀ i, i < p.m → ∀ j, j ≤ p.s + p.m → T.L i j = sm p.m fun k => aj p.m (T.B p) i k * p.M k j
  la : ∀ j, j ≤ p.s + p.m → T.L p.m j = sm p.m (fun i => p.c (T.b i) * T.L i j) - T.u * p.c j
  rh : ∀ i, i < p.m → 0 ≤ T.L i (p.s + p.m)
section
variable {p : Pr} {T : Tb}
theorem In.slack (ok : p.Ok) (h : In p T) {i l : Nat} (hi : i < p.m) (hl : l < p.m) : T.L i (p.s + l) = aj p.m (T.B p) i l := by
  rw [h.ro i hi _ (by omega)]
  have : ∀ k, k < p.m → aj p.m (T.B p) i k * p.M k (p.s + l) = if k = l then aj p.m (T.B p) i k else 0 := fun k _ => by
    rw [p.M_slack hl]; split <;> simp
  rw [sm_congr _ this, sm_delta, if_pos hl]
/-- a basic column is u times a unit column -/
theorem In.basic (ok : p.Ok) (h : In p T) {i l : Nat} (hi : i < p.m) (hl : l < p.m) : T.L i (T.b l) = if i = l then T.u else 0 := by
  rw [h.ro i hi _ (by have := h.bs l hl; omega), h.ud]
  exact adj_mul ok.m23 (T.B p) hi hl
theorem In.basic_la (ok : p.Ok) (h : In p T) {l : Nat} (hl : l < p.m) : T.L p.m (T.b l) = 0 := by
  rw [h.la _ (by have := h.bs l hl; omega)]
  have : ∀ i, i < p.m → p.c (T.b i) * T.L i (T.b l) = if i = l then p.c (T.b i) * T.u else 0 := fun i hi => by
    rw [h.basic ok hi hl]; split <;> simp
  rw [sm_congr _ this, sm_delta, if_pos hl, Int.mul_comm]; omega
/-- the columns, by the basis -/
theorem In.col (ok : p.Ok) (h : In p T) {k j : Nat} (hk : k < p.m) (hj : j ≤ p.s + p.m) : sm p.m (fun i => p.M k (T.b i) * T.L i j) = T.u * p.M k j := by
  have e : ∀ i, i < p.m → p.M k (T.b i) * T.L i j = sm p.m fun l => (p.M k (T.b i) * aj p.m (T.B p) i l) * p.M l j := fun i hi => by
    rw [h.ro i hi j hj, ← sm_mul]
    exact sm_congr _ fun l _ => by rw [Int.mul_assoc]
  rw [sm_congr _ e, sm_swap]
  have e2 : ∀ l, l < p.m → sm p.m (fun i => (p.M k (T.b i) * aj p.m (T.B p) i l) * p.M l j) = if l = k then T.u * p.M l j else 0 := fun l hl => by
    rw [sm_mulr]
    have := mul_adj ok.m23 (T.B p) hk hl
    rw [show sm p.m (fun i => p.M k (T.b i) * aj p.m (T.B p) i l) = _ from this, ← h.ud]
    by_cases z : k = l
    · rw [if_pos z, if_pos z.symm]
    · rw [if_neg z, if_neg (Ne.symm z)]; simp
  rw [sm_congr _ e2, sm_delta, if_pos hk]
/-- the last row, by multiples of the rows -/
theorem In.dual (ok : p.Ok) (h : In p T) {j : Nat} (hj : j ≤ p.s + p.m) : T.L p.m j = sm p.m (fun k => T.L p.m (p.s + k) * p.M k j) - T.u * p.c j := by
  rw [h.la j hj]
  congr 1
  have e : ∀ i, i < p.m → p.c (T.b i) * T.L i j = sm p.m fun k => p.c (T.b i) * aj p.m (T.B p) i k * p.M k j := fun i hi => by
    rw [h.ro i hi j hj, ← sm_mul]
    exact sm_congr _ fun l _ => by rw [Int.mul_assoc]
  rw [sm_congr _ e, sm_swap]
  refine sm_congr _ fun k hk => ?_
  rw [sm_mulr, h.la _ (by omega), ok.c0 _ (by omega), Int.mul_zero, Int.sub_zero]
  congr 1
  exact sm_congr _ fun i hi => by rw [h.slack ok hi hk]
/-! ### a turn -/
def Tb.turn (T : Tb) (r q : Nat) : Tb := ⟨T.L r q, fun i => if i = r then q else T.b i, fun i j => if i = r then T.L i j else (T.L r q * T.L i j - T.L i q * T.L r j) / T.u⟩
theorem turn_B (r q : Nat) : (T.turn r q).B p = rep (T.B p) r fun k => p.M k q := by
  funext k i
  unfold Tb.turn Tb.B rep
  dsimp
  split <;> rfl
theorem In.row_turn (ok : p.Ok) (h : In p T) {r q i j : Nat} (hr : r < p.m) (hq : q < p.s + p.m) (hi : i < p.m) (hj : j ≤ p.s + p.m) (ne : i ≠ r) :
    T.L r q * T.L i j - T.L i q * T.L r j = T.u * sm p.m fun k => aj p.m ((T.turn r q).B p) i k * p.M k j := by
  rw [h.ro i hi j hj, h.ro r hr j hj, ← sm_mul, ← sm_mul, ← sm_mul, ← sm_sub]
  refine sm_congr _ fun k hk => ?_
  have := aj_rep ok.m23 (T.B p) (fun k => p.M k q) hr hi hk ne
  rw [turn_B, h.ud, ← Int.mul_assoc, ← Int.mul_assoc, ← Int.mul_assoc, ← Int.sub_mul, ← this, h.ro r hr q (by omega), h.ro i hi q (by omega)]
theorem In.row_div (ok : p.Ok) (h : In p T) {r q i j : Nat} (hr : r < p.m) (hq : q < p.s + p.m) (hi : i < p.m) (hj : j ≤ p.s + p.m) (ne : i ≠ r) :
    T.u * (T.turn r q).L i j = T.L r q * T.L i j - T.L i q * T.L r j := by
  show T.u * (if i = r then T.L i j else (T.L r q * T.L i j - T.L i q * T.L r j) / T.u) = _
  rw [if_neg ne, h.row_turn ok hr hq hi hj ne, Int.mul_ediv_cancel_left _ (by have := h.up; omega)]
theorem sm_split (f g : Nat → Int) (r : Nat) : ∀ n, r < n → (∀ k, k < n → k ≠ r → f k = g k) → sm n f = sm n g - g r + f r
  | n + 1, hr, h => by
    by_cases e : n = r
    · subst e
      rw [sm, sm, sm_congr n fun k hk => h k (by omega) (by omega)]; omega
    · rw [sm, sm, sm_split f g r n (by omega) fun k hk => h k (by omega), h n (by omega) e]; omega
theorem In.la_turn (ok : p.Ok) (h : In p T) {r q j : Nat} (hr : r < p.m) (hq : q < p.s + p.m) (hj : j ≤ p.s + p.m) :
    T.L r q * T.L p.m j - T.L p.m q * T.L r j = T.u * (sm p.m (fun i => p.c ((T.turn r q).b i) * (T.turn r q).L i j) - T.L r q * p.c j) := by
  have e : T.u * sm p.m (fun i => p.c ((T.turn r q).b i) * (T.turn r q).L i j) = sm p.m (fun i => p.c (T.b i) * (T.L r q * T.L i j - T.L i q * T.L r j)) + T.u * (p.c q * T.L r j) := by
    rw [← sm_mul]
    have z : ∀ k, k < p.m → k ≠ r → T.u * (p.c ((T.turn r q).b k) * (T.turn r q).L k j) = p.c (T.b k) * (T.L r q * T.L k j - T.L k q * T.L r j) := fun k hk ne => by
      rw [← h.row_div ok hr hq hk hj ne]
      show T.u * (p.c (if k = r then q else T.b k) * _) = _
      rw [if_neg ne, Int.mul_left_comm]
    have y : T.u * (p.c ((T.turn r q).b r) * (T.turn r q).L r j) = T.u * (p.c q * T.L r j) := by
      show T.u * (p.c (if r = r then q else T.b r) * (if r = r then T.L r j else _)) = _
      rw [if_pos rfl, if_pos rfl]
    rw [sm_split _ _ r _ hr z, y, Int.mul_comm (T.L r q) (T.L r j)]
    simp
  rw [Int.mul_sub, e, h.la j hj, h.la q (by omega)]
  have e1 : sm p.m (fun i => p.c (T.b i) * (T.L r q * T.L i j - T.L i q * T.L r j)) = T.L r q * sm p.m (fun i => p.c (T.b i) * T.L i j) - sm p.m (fun i => p.c (T.b i) * T.L i q) * T.L r j := by
    rw [← sm_mul, ← sm_mulr, ← sm_sub]
    exact sm_congr _ fun k _ => by grind
  rw [e1]
  grind
/-- the number q may enter, row r goes -/
structure Piv (p : Pr) (T : Tb) (r q : Nat) : Prop where
  ql : q < p.s + p.m
  neg : T.L p.m q < 0
  fst : ∀ j, j < q → 0 ≤ T.L p.m j
  rl : r < p.m
  pos : 0 < T.L r q
  le : ∀ i, i < p.m → 0 < T.L i q → T.L r (p.s + p.m) * T.L i q ≤ T.L i (p.s + p.m) * T.L r q
  tie : ∀ i, i < p.m → 0 < T.L i q → T.L r (p.s + p.m) * T.L i q = T.L i (p.s + p.m) * T.L r q → T.b r ≤ T.b i
theorem In.turn (ok : p.Ok) (h : In p T) {r q : Nat} (g : Piv p T r q) : In p (T.turn r q) := by
  have up : 0 < (T.turn r q).u := g.pos
  refine ⟨up, ?_, fun i hi => ?_, fun i hi j hj => ?_, fun j hj => ?_, fun i hi => ?_⟩
  · rw [turn_B, dt_rep ok.m23 _ _ g.rl]
    exact h.ro r g.rl q (by have := g.ql; omega)
  · show (if i = r then q else T.b i) < _
    split
    · exact g.ql
    · exact h.bs i hi
  · by_cases e : i = r
    · subst e
      show (if i = i then T.L i j else _) = _
      rw [if_pos rfl, h.ro i hi j hj]
      exact sm_congr _ fun k hk => by rw [turn_B, aj_rep_same ok.m23 _ _ hi hk]
    · have h1 := h.row_div ok g.rl g.ql hi hj e
      rw [h.row_turn ok g.rl g.ql hi hj e] at h1
      exact Int.eq_of_mul_eq_mul_left (by have := h.up; omega) h1
  · show (if p.m = r then T.L p.m j else (T.L r q * T.L p.m j - T.L p.m q * T.L r j) / T.u) = _
    rw [if_neg (by have := g.rl; omega), h.la_turn ok g.rl g.ql hj, Int.mul_ediv_cancel_left _ (by have := h.up; omega)]
    rfl
  · by_cases e : i = r
    · subst e
      show 0 ≤ (if i = i then T.L i _ else _)
      rw [if_pos rfl]
      exact h.rh i hi
    · have h1 := h.row_div ok g.rl g.ql hi (Nat.le_refl _) e
      have h2 : 0 ≤ T.u * (T.turn r q).L i (p.s + p.m) := by
        rw [h1]
        have a := h.rh i hi
        have b := h.rh r g.rl
        by_cases z : 0 < T.L i q
        · have := g.le i hi z
          rw [Int.mul_comm (T.L r q), Int.mul_comm (T.L i q)]; omega
        · have h3 : 0 ≤ T.L r q * T.L i (p.s + p.m) := Int.mul_nonneg (by have := g.pos; omega) a
          have h4 : 0 ≤ -(T.L i q) * T.L r (p.s + p.m) := Int.mul_nonneg (by omega) b
          rw [Int.neg_mul] at h4; omega
      exact Int.nonneg_of_mul_nonneg_right (a := T.u) h2 h.up
end
/-- the first table -/
def Pr.first (p : Pr) : Tb := ⟨1, fun i => p.s + i, fun i j => if i = p.m then - p.c j else p.M i j⟩
theorem Pr.first_in {p : Pr} (ok : p.Ok) : In p p.first := by
  have hB : ∀ k i, k < p.m → i < p.m → p.first.B p k i = if k = i then 1 else 0 := fun k i hk hi => p.M_slack hi
  have row : ∀ i, i < p.m → ∀ j, p.first.L i j = p.M i j := fun i hi j => by
    show (if i = p.m then _ else _) = _
    rw [if_neg (by omega)]
  refine ⟨(by decide : (0 : Int) < 1), ?_, fun i hi => ?_, fun i hi j hj => ?_, fun j hj => ?_, fun i hi => ?_⟩
  · rw [dt_congr hB, dt_one ok.m23]; rfl
  · show p.s + i < _; omega
  · rw [row i hi j]
    have e : ∀ k, k < p.m → aj p.m (p.first.B p) i k * p.M k j = if k = i then p.M k j else 0 := fun k hk => by
      rw [aj_congr ok.m23 hB hi hk, aj_one ok.m23 hi hk]
      by_cases z : i = k
      · rw [if_pos z, if_pos z.symm]; simp
      · rw [if_neg z, if_neg (Ne.symm z)]; simp
    rw [sm_congr _ e, sm_delta, if_pos hi]
  · show (if p.m = p.m then - p.c j else _) = _
    rw [if_pos rfl]
    have e : ∀ i, i < p.m → p.c (p.first.b i) * p.first.L i j = 0 := fun i hi => by
      show p.c (p.s + i) * _ = 0
      rw [ok.c0 _ (by omega), Int.zero_mul]
    rw [sm_congr _ e, sm_zero]
    show _ = 0 - 1 * p.c j
    omega
  · rw [row i hi, p.M_rhs]
    exact ok.bp i hi
end MA
end

section
namespace MA
section
variable {p : Pr}
theorem In.inj {T : Tb} (ok : p.Ok) (h : In p T) {i l : Nat} (hi : i < p.m) (hl : l < p.m) (e : T.b i = T.b l) : i = l := by
  have h1 := h.basic ok hi hl
  have h2 := h.basic ok hi hi
  rw [if_pos rfl, e, h1] at h2
  by_cases z : i = l
  · exact z
  · rw [if_neg z] at h2
    have := h.up; omega
/-- the basis tells the table -/
theorem In.det {T T' : Tb} (h : In p T) (h' : In p T') (e : ∀ i, i < p.m → T.b i = T'.b i) : T.u = T'.u ∧ T.L p.m (p.s + p.m) = T'.L p.m (p.s + p.m) := by
  have hB : T.B p = fun k i => p.M k (T.b i) := rfl
  have hB2 : ∀ k i, k < p.m → i < p.m → T.B p k i = T'.B p k i := fun k i _ hi => by show p.M k _ = p.M k _; rw [e i hi]
  have eu : T.u = T'.u := by rw [h.ud, h'.ud, dt_congr hB2]
  refine ⟨eu, ?_⟩
  rw [h.la _ (Nat.le_refl _), h'.la _ (Nat.le_refl _), eu]
  congr 1
  refine sm_congr _ fun i hi => ?_
  rw [e i hi, h.ro i hi _ (Nat.le_refl _), h'.ro i hi _ (Nat.le_refl _)]
  congr 1
  refine sm_congr _ fun k hk => ?_
  congr 1
  match hm : p.m, hi, hk with
  | 2, hi, hk => rw [hm] at hB2; exact aj_congr (.inl rfl) hB2 hi hk
  | 3, hi, hk => rw [hm] at hB2; exact aj_congr (.inr rfl) hB2 hi hk
  | 0, hi, _ => omega
  | 1, hi, _ => rfl
  | n + 4, hi, _ => rfl
/-- two tables: the last row of one, by the columns of the other -/
theorem In.two {D S : Tb} (ok : p.Ok) (h : In p D) (h' : In p S) {q : Nat} (hq : q ≤ p.s + p.m) :
    sm p.m (fun i => S.L p.m (D.b i) * D.L i q) = D.u * S.L p.m q - S.u * D.L p.m q := by
  have e : ∀ i, i < p.m → S.L p.m (D.b i) * D.L i q = sm p.m (fun k => S.L p.m (p.s + k) * (p.M k (D.b i) * D.L i q)) - S.u * (p.c (D.b i) * D.L i q) := fun i hi => by
    rw [h'.dual ok (by have := h.bs i hi; omega), Int.sub_mul, ← sm_mulr, Int.mul_assoc]
    congr 1
    exact sm_congr _ fun k _ => by rw [Int.mul_assoc]
  rw [sm_congr _ e, sm_sub, sm_mul, sm_swap]
  have e2 : ∀ k, k < p.m → sm p.m (fun i => S.L p.m (p.s + k) * (p.M k (D.b i) * D.L i q)) = D.u * (S.L p.m (p.s + k) * p.M k q) := fun k hk => by
    rw [sm_mul, h.col ok hk hq, Int.mul_left_comm]
  rw [sm_congr _ e2, sm_mul, h.la q hq, h'.dual ok hq]
  generalize sm p.m (fun k => S.L p.m (p.s + k) * p.M k q) = x
  generalize sm p.m (fun i => p.c (D.b i) * D.L i q) = y
  grind
def Bm (p : Pr) (T : Tb) (j : Nat) : Prop := ∃ i, i < p.m ∧ T.b i = j
theorem In.bm0 {T : Tb} (ok : p.Ok) (h : In p T) {j : Nat} (z : Bm p T j) : T.L p.m j = 0 := by
  obtain ⟨i, hi, rfl⟩ := z
  exact h.basic_la ok hi
/-- the heart of Bland's rule -/
theorem bland {D S : Tb} (ok : p.Ok) (h : In p D) (h' : In p S) {r q r' : Nat} (g : Piv p D r q) (g' : Piv p S r' (D.b r)) (lt : q < D.b r)
    (out : ∀ i, i < p.m → D.b r < D.b i → Bm p S (D.b i)) (zer : ∀ i, i < p.m → ¬ Bm p S (D.b i) → D.L i (p.s + p.m) = 0) : False := by
  have hr0 : D.L r (p.s + p.m) = 0 := zer r g.rl fun z => by
    have := h'.bm0 ok z
    have := g'.neg
    omega
  have hs := h.two ok h' (q := q) (by have := g.ql; omega)
  have h1 := g'.fst q lt
  have h2 : 0 < sm p.m (fun i => S.L p.m (D.b i) * D.L i q) := by
    rw [hs]
    have a : 0 ≤ D.u * S.L p.m q := Int.mul_nonneg (by have := h.up; omega) h1
    have b : 0 < S.u * -(D.L p.m q) := Int.mul_pos h'.up (by have := g.neg; omega)
    rw [Int.mul_neg] at b
    omega
  obtain ⟨i, hi, h3⟩ := sm_pos _ h2
  by_cases e : i = r
  · subst e
    have a := g'.neg
    have b := g.pos
    have : 0 < -(S.L p.m (D.b i)) * D.L i q := Int.mul_pos (by omega) b
    rw [Int.neg_mul] at this
    omega
  · have nb : ¬ Bm p S (D.b i) := fun z => by
      rw [h'.bm0 ok z, Int.zero_mul] at h3
      omega
    have ne : D.b i ≠ D.b r := fun z => e (h.inj ok hi g.rl z)
    have le : D.b i < D.b r := by
      have : ¬ D.b r < D.b i := fun z => nb (out i hi z)
      omega
    have h4 := g'.fst _ le
    have h5 : 0 < D.L i q := by
      by_cases z : 0 < D.L i q
      · exact z
      · have : 0 ≤ S.L p.m (D.b i) * -(D.L i q) := Int.mul_nonneg h4 (by omega)
        rw [Int.mul_neg] at this
        omega
    have := g.tie i hi h5 (by rw [hr0, zer i hi nb]; simp)
    omega
/-! ### runs -/
structure Run (p : Pr) (T : Nat → Tb) (r q : Nat → Nat) (n : Nat) : Prop where
  first : In p (T 0)
  go : ∀ k, k < n → Piv p (T k) (r k) (q k)
  next : ∀ k, k < n → T (k + 1) = (T k).turn (r k) (q k)
variable {T : Nat → Tb} {r q : Nat → Nat} {n : Nat}
theorem Run.inn (ok : p.Ok) (R : Run p T r q n) : ∀ k, k ≤ n → In p (T k)
  | 0, _ => R.first
  | k + 1, h => by
    rw [R.next k (by omega)]
    exact (R.inn ok k (by omega)).turn ok (R.go k (by omega))
theorem divInt_le' {a b c d : Int} (hb : 0 < b) (hd : 0 < d) : Rat.divInt a b ≤ Rat.divInt c d ↔ a * d ≤ c * b := by
  have hb' : (0 : Rat) < (b : Rat) := Rat.intCast_pos.mpr hb
  have hd' : (0 : Rat) < (d : Rat) := Rat.intCast_pos.mpr hd
  rw [Rat.divInt_eq_div, Rat.divInt_eq_div, ← Rat.not_lt, Rat.div_lt_iff hd', Rat.div_def, Rat.mul_assoc, Rat.mul_comm (b : Rat)⁻¹, ← Rat.mul_assoc, ← Rat.div_def, Rat.lt_div_iff hb',
    ← Rat.intCast_mul, ← Rat.intCast_mul, Rat.intCast_lt_intCast]
  omega
def val (p : Pr) (T : Tb) : Rat := Rat.divInt (T.L p.m (p.s + p.m)) T.u
theorem Run.up (ok : p.Ok) (R : Run p T r q n) {k : Nat} (hk : k < n) : val p (T k) ≤ val p (T (k + 1)) ∧ (val p (T k) = val p (T (k + 1)) → (T k).L (r k) (p.s + p.m) = 0) := by
  have h := R.inn ok k (by omega)
  have g := R.go k hk
  have h' := R.inn ok (k + 1) hk
  have e : (T k).u * (T (k + 1)).L p.m (p.s + p.m) = (T (k + 1)).u * (T k).L p.m (p.s + p.m) - (T k).L p.m (q k) * (T k).L (r k) (p.s + p.m) := by
    rw [h'.la _ (Nat.le_refl _), R.next k hk]
    exact (h.la_turn ok g.rl g.ql (Nat.le_refl _)).symm
  have a := h.rh _ g.rl
  have b := g.neg
  have u1 := h.up
  have u2 := h'.up
  have c : 0 ≤ -((T k).L p.m (q k)) * (T k).L (r k) (p.s + p.m) := Int.mul_nonneg (by omega) a
  rw [Int.neg_mul] at c
  unfold val
  rw [divInt_le' u1 u2]
  refine ⟨?_, fun z => ?_⟩
  · rw [Int.mul_comm ((T k).L p.m (p.s + p.m)), Int.mul_comm ((T (k + 1)).L p.m (p.s + p.m))]
    omega
  · rw [Rat.divInt_eq_divInt_iff (by omega) (by omega)] at z
    rw [Int.mul_comm ((T k).L p.m (p.s + p.m)), Int.mul_comm ((T (k + 1)).L p.m (p.s + p.m))] at z
    have z2 : (T k).L p.m (q k) * (T k).L (r k) (p.s + p.m) = 0 := by omega
    rcases Int.mul_eq_zero.mp z2 with z | z
    · omega
    · exact z
theorem Run.mono (ok : p.Ok) (R : Run p T r q n) {a : Nat} : ∀ b, a ≤ b → b ≤ n → val p (T a) ≤ val p (T b)
  | 0, h, _ => by
    have : a = 0 := by omega
    subst this
    exact Rat.le_refl
  | b + 1, h, hn => by
    by_cases e : a = b + 1
    · subst e; exact Rat.le_refl
    · exact Rat.le_trans (R.mono ok b (by omega) (by omega)) (R.up ok (by omega)).1
theorem Run.flat (ok : p.Ok) (R : Run p T r q n) {a b : Nat} (hn : b ≤ n) (e : val p (T a) = val p (T b)) {k : Nat} (ha : a ≤ k) (hb : k < b) : (T k).L (r k) (p.s + p.m) = 0 := by
  have h1 := R.mono ok k ha (by omega)
  have h2 := R.mono ok b (a := k + 1) (by omega) hn
  obtain ⟨h3, h4⟩ := R.up ok (k := k) (by omega)
  refine h4 (Rat.le_antisymm h3 ?_)
  rw [← e] at h2
  exact Rat.le_trans h2 h1
theorem Run.bm (ok : p.Ok) (R : Run p T r q n) {k : Nat} (hk : k < n) (j : Nat) : Bm p (T (k + 1)) j ↔ (Bm p (T k) j ∧ j ≠ (T k).b (r k)) ∨ j = q k := by
  have g := R.go k hk
  have h := R.inn ok k (by omega)
  rw [R.next k hk]
  constructor
  · rintro ⟨i, hi, e⟩
    change (if i = r k then q k else (T k).b i) = j at e
    by_cases z : i = r k
    · rw [if_pos z] at e; exact .inr e.symm
    · rw [if_neg z] at e
      exact .inl ⟨⟨i, hi, e⟩, fun y => z (h.inj ok hi g.rl (e.trans y))⟩
  · rintro (⟨⟨i, hi, e⟩, ne⟩ | e)
    · refine ⟨i, hi, ?_⟩
      show (if i = r k then q k else (T k).b i) = j
      rw [if_neg fun z => ne (by rw [← e, z])]; exact e
    · refine ⟨r k, g.rl, ?_⟩
      show (if r k = r k then q k else _) = j
      rw [if_pos rfl]; exact e.symm
theorem Run.stay_out (ok : p.Ok) (R : Run p T r q n) {j x : Nat} (h : ¬ Bm p (T x) j) : ∀ y, x ≤ y → y ≤ n → (∀ k, x ≤ k → k < y → q k ≠ j) → ¬ Bm p (T y) j
  | 0, hx, _, _ => by
    have : x = 0 := by omega
    subst this; exact h
  | y + 1, hx, hn, hq => by
    by_cases e : x = y + 1
    · subst e; exact h
    · have ih := R.stay_out ok h y (by omega) (by omega) fun k a b => hq k a (by omega)
      rw [R.bm ok (by omega)]
      rintro (z | z)
      · exact ih z.1
      · exact hq y (by omega) (by omega) z.symm
theorem Run.stay_in (ok : p.Ok) (R : Run p T r q n) {j x : Nat} (h : Bm p (T x) j) : ∀ y, x ≤ y → y ≤ n → (∀ k, x ≤ k → k < y → (T k).b (r k) ≠ j) → Bm p (T y) j
  | 0, hx, _, _ => by
    have : x = 0 := by omega
    subst this; exact h
  | y + 1, hx, hn, hq => by
    by_cases e : x = y + 1
    · subst e; exact h
    · have ih := R.stay_in ok h y (by omega) (by omega) fun k a b => hq k a (by omega)
      rw [R.bm ok (by omega)]
      exact .inl ⟨ih, fun z => hq y (by omega) (by omega) z.symm⟩
def Ze (p : Pr) (T : Tb) (j : Nat) : Prop := ∀ i, i < p.m → T.b i = j → T.L i (p.s + p.m) = 0
theorem Run.ze (ok : p.Ok) (R : Run p T r q n) {k : Nat} (hk : k < n) (z : (T k).L (r k) (p.s + p.m) = 0) (j : Nat) : Ze p (T k) j ↔ Ze p (T (k + 1)) j := by
  have g := R.go k hk
  have h := R.inn ok k (by omega)
  have key : ∀ i, i < p.m → i ≠ r k → ((T k).L i (p.s + p.m) = 0 ↔ ((T k).turn (r k) (q k)).L i (p.s + p.m) = 0) := fun i hi ne => by
    have e := h.row_div ok g.rl g.ql hi (Nat.le_refl _) ne
    rw [z, Int.mul_zero, Int.sub_zero] at e
    have u1 := h.up
    have u2 := g.pos
    constructor
    · intro y
      rw [y, Int.mul_zero] at e
      rcases Int.mul_eq_zero.mp e with e | e
      · omega
      · exact e
    · intro y
      rw [y, Int.mul_zero] at e
      rcases Int.mul_eq_zero.mp e.symm with e | e
      · omega
      · exact e
  rw [R.next k hk]
  constructor
  · intro H i hi e
    change (if i = r k then q k else (T k).b i) = j at e
    by_cases y : i = r k
    · subst y
      show (if r k = r k then (T k).L (r k) (p.s + p.m) else _) = 0
      rw [if_pos rfl]; exact z
    · rw [if_neg y] at e
      exact (key i hi y).mp (H i hi e)
  · intro H i hi e
    by_cases y : i = r k
    · rw [y]; exact z
    · refine (key i hi y).mpr (H i hi ?_)
      show (if i = r k then q k else (T k).b i) = j
      rw [if_neg y]; exact e
theorem Run.zes (ok : p.Ok) (R : Run p T r q n) {a b : Nat} (hn : b ≤ n) (z : ∀ k, a ≤ k → k < b → (T k).L (r k) (p.s + p.m) = 0) (j : Nat) : ∀ k, a ≤ k → k ≤ b → (Ze p (T a) j ↔ Ze p (T k) j)
  | 0, h, _ => by
    have : a = 0 := by omega
    subst this; exact Iff.rfl
  | k + 1, h, hb => by
    by_cases e : a = k + 1
    · subst e; exact Iff.rfl
    · exact (R.zes ok hn z j k (by omega) (by omega)).trans (R.ze ok (by omega) (z k (by omega) (by omega)) j)
theorem max_at (f : Nat → Nat) {a : Nat} : ∀ b, a < b → ∃ k, a ≤ k ∧ k < b ∧ ∀ l, a ≤ l → l < b → f l ≤ f k
  | 0, h => by omega
  | b + 1, h => by
    by_cases e : a = b
    · subst e
      exact ⟨a, by omega, by omega, fun l h1 h2 => by rw [show l = a by omega]; exact Nat.le_refl _⟩
    · obtain ⟨k, h1, h2, h3⟩ := max_at f (a := a) b (by omega)
      by_cases z : f k ≤ f b
      · refine ⟨b, by omega, by omega, fun l h4 h5 => ?_⟩
        by_cases y : l = b
        · subst y; exact Nat.le_refl _
        · exact Nat.le_trans (h3 l h4 (by omega)) z
      · refine ⟨k, h1, by omega, fun l h4 h5 => ?_⟩
        by_cases y : l = b
        · subst y; omega
        · exact h3 l h4 (by omega)
theorem Run.no_cycle (ok : p.Ok) (R : Run p T r q n) {a b : Nat} (ab : a < b) (hn : b ≤ n) (e : ∀ i, i < p.m → (T a).b i = (T b).b i) : False := by
  have ia := R.inn ok a (by omega)
  have ib := R.inn ok b hn
  have ev : val p (T a) = val p (T b) := by
    obtain ⟨e1, e2⟩ := ia.det ib e
    unfold val
    rw [e1, e2]
  have flat := fun k (h1 : a ≤ k) (h2 : k < b) => R.flat ok hn ev h1 h2
  have same : ∀ j, Bm p (T a) j ↔ Bm p (T b) j := fun j =>
    ⟨fun ⟨i, hi, z⟩ => ⟨i, hi, (e i hi).symm.trans z⟩, fun ⟨i, hi, z⟩ => ⟨i, hi, (e i hi).trans z⟩⟩
  obtain ⟨k0, a0, b0, mx⟩ := max_at q b ab
  have g0 := R.go k0 (by omega)
  have i0 := R.inn ok k0 (by omega)
  have nin : ∀ k, k < n → ¬ Bm p (T k) (q k) := fun k hk z => by
    have := (R.inn ok k (by omega)).bm0 ok z
    have := (R.go k hk).neg
    omega
  have lvin : ∀ k, k < n → Bm p (T k) ((T k).b (r k)) := fun k hk => ⟨r k, (R.go k hk).rl, rfl⟩
  have c1 : ∀ k, a ≤ k → k < b → (T k).b (r k) ≤ q k0 := fun k h1 h2 => by
    by_cases z : (T k).b (r k) ≤ q k0
    · exact z
    · exfalso
      have ne : ∀ l, a ≤ l → l < b → q l ≠ (T k).b (r k) := fun l h3 h4 y => by
        have := mx l h3 h4; omega
      have o1 : ¬ Bm p (T (k + 1)) ((T k).b (r k)) := by
        rw [R.bm ok (by omega)]
        rintro (y | y)
        · exact y.2 rfl
        · exact ne k h1 h2 y.symm
      have o2 := R.stay_out ok o1 b (by omega) hn fun l h3 h4 => ne l (by omega) h4
      rw [← same] at o2
      exact R.stay_out ok o2 k h1 (by omega) (fun l h3 h4 => ne l h3 (by omega)) (lvin k (by omega))
  have c2 : ∃ k, a ≤ k ∧ k < b ∧ (T k).b (r k) = q k0 := Classical.byContradiction fun no => by
    have nl : ∀ k, a ≤ k → k < b → (T k).b (r k) ≠ q k0 := fun k h1 h2 z => no ⟨k, h1, h2, z⟩
    have o1 : Bm p (T (k0 + 1)) (q k0) := by
      rw [R.bm ok (by omega)]; exact .inr rfl
    have o2 := R.stay_in ok o1 b (by omega) hn fun l h3 h4 => nl l (by omega) h4
    rw [← same] at o2
    exact nin k0 (by omega) (R.stay_in ok o2 k0 a0 (by omega) fun l h3 h4 => nl l h3 (by omega))
  obtain ⟨k1, a1, b1, e1⟩ := c2
  have big : ∀ j, q k0 < j → ∀ k, a ≤ k → k ≤ b → (Bm p (T a) j ↔ Bm p (T k) j) := fun j hj k h1 h2 => by
    constructor
    · intro z
      exact R.stay_in ok z k h1 (by omega) fun l h3 h4 y => by have := c1 l h3 (by omega); omega
    · intro z
      by_cases y : Bm p (T a) j
      · exact y
      · exact absurd z (R.stay_out ok y k h1 (by omega) fun l h3 h4 x => by have := mx l h3 (by omega); omega)
  have i1 := R.inn ok k1 (by omega)
  have g1 := R.go k1 (by omega)
  rw [← e1] at big
  have g0' : Piv p (T k0) (r k0) ((T k1).b (r k1)) := by rw [e1]; exact g0
  refine bland ok i1 i0 g1 g0' ?_ (fun i hi lt => ?_) fun i hi nb => ?_
  · have h1 := mx k1 a1 b1
    have h2 : q k1 ≠ (T k1).b (r k1) := fun z => nin k1 (by omega) (by have := lvin k1 (by omega); rw [← z] at this; exact this)
    omega
  · rw [← big _ lt k0 a0 (by omega), big _ lt k1 a1 (by omega)]
    exact ⟨i, hi, rfl⟩
  · have z0 : Ze p (T k0) ((T k1).b i) := fun l hl z => absurd ⟨l, hl, z⟩ nb
    rw [← R.zes ok hn flat _ k0 a0 (by omega), R.zes ok hn flat _ k1 a1 (by omega)] at z0
    exact z0 i hi rfl
/-! ### only so many bases -/
theorem pigeon : ∀ (n : Nat) (f : Nat → Nat), (∀ k, k ≤ n → f k < n) → ∃ a b, a < b ∧ b ≤ n ∧ f a = f b
  | 0, f, h => absurd (h 0 (Nat.le_refl 0)) (Nat.not_lt_zero _)
  | n + 1, f, h => by
    by_cases z : ∃ a, a < n + 1 ∧ f a = f (n + 1)
    · obtain ⟨a, h1, h2⟩ := z
      exact ⟨a, n + 1, h1, Nat.le_refl _, h2⟩
    · -- send the value n to f (n + 1)
      have h1 : ∀ k, k ≤ n → (if f k = n then f (n + 1) else f k) < n := fun k hk => by
        have a := h k (by omega)
        have b := h (n + 1) (Nat.le_refl _)
        have c : f k ≠ f (n + 1) := fun y => z ⟨k, by omega, y⟩
        split <;> omega
      obtain ⟨a, b, h2, h3, h4⟩ := pigeon n _ h1
      refine ⟨a, b, h2, by omega, ?_⟩
      have ca : f a ≠ f (n + 1) := fun y => z ⟨a, by omega, y⟩
      have cb : f b ≠ f (n + 1) := fun y => z ⟨b, by omega, y⟩
      split at h4 <;> split at h4 <;> omega
def code (N : Nat) (b : Nat → Nat) : Nat → Nat
  | 0 => 0
  | m + 1 => code N b m * N + b m
theorem code_lt {N : Nat} {b : Nat → Nat} : ∀ m, (∀ i, i < m → b i < N) → code N b m < N ^ m
  | 0, _ => by simp [code]
  | m + 1, h => by
    have h1 := code_lt (b := b) m fun i hi => h i (by omega)
    have h2 := h m (by omega)
    rw [code, Nat.pow_succ]
    have : (code N b m + 1) * N ≤ N ^ m * N := Nat.mul_le_mul_right N h1
    rw [Nat.add_mul] at this
    omega
theorem code_inj {N : Nat} {b c : Nat → Nat} : ∀ m, (∀ i, i < m → b i < N) → (∀ i, i < m → c i < N) → code N b m = code N c m → ∀ i, i < m → b i = c i
  | 0, _, _, _, i, hi => by omega
  | m + 1, hb, hc, e, i, hi => by
    rw [code, code] at e
    have h1 := hb m (by omega)
    have h2 := hc m (by omega)
    have e1 : b m = c m := by
      have a : (code N b m * N + b m) % N = b m := by rw [Nat.mul_comm, Nat.mul_add_mod, Nat.mod_eq_of_lt h1]
      have d : (code N c m * N + c m) % N = c m := by rw [Nat.mul_comm, Nat.mul_add_mod, Nat.mod_eq_of_lt h2]
      rw [← a, ← d, e]
    have e2 : code N b m = code N c m := by
      have : code N b m * N = code N c m * N := by omega
      exact Nat.eq_of_mul_eq_mul_right (by omega) this
    by_cases z : i = m
    · subst z; exact e1
    · exact code_inj m (fun i hi => hb i (by omega)) (fun i hi => hc i (by omega)) e2 i (by omega)
theorem Run.short (ok : p.Ok) (R : Run p T r q n) : n < (p.s + p.m) ^ p.m := by
  by_cases z : n < (p.s + p.m) ^ p.m
  · exact z
  · exfalso
    obtain ⟨a, b, h1, h2, h3⟩ := pigeon ((p.s + p.m) ^ p.m) (fun k => if k ≤ n then code (p.s + p.m) (T k).b p.m else 0) fun k hk => by
      show (if k ≤ n then _ else 0) < _
      rw [if_pos (by omega)]
      exact code_lt _ (R.inn ok k (by omega)).bs
    change (if a ≤ n then _ else 0) = (if b ≤ n then _ else 0) at h3
    rw [if_pos (by omega), if_pos (by omega)] at h3
    exact R.no_cycle ok h1 (by omega) (code_inj _ (R.inn ok a (by omega)).bs (R.inn ok b (by omega)).bs h3)
end
end MA
end

section
namespace MA
section
variable {p : Pr} {T : Tb}
/-- multiples of the rows, over one bottom -/
def Fe (p : Pr) (Q : Nat → Int) (w : Int) : Prop := 0 < w ∧ (∀ k, k < p.m → 0 ≤ Q k) ∧ ∀ j, j < p.s → w * p.c j ≤ sm p.m fun k => Q k * p.A k j
theorem Fe.col (ok : p.Ok) {Q : Nat → Int} {w : Int} (h : Fe p Q w) {j : Nat} (hj : j < p.s + p.m) : w * p.c j ≤ sm p.m fun k => Q k * p.M k j := by
  by_cases e : j < p.s
  · have := h.2.2 j e
    rw [sm_congr p.m fun k _ => show Q k * p.M k j = Q k * p.A k j by unfold Pr.M; rw [if_pos e]]
    exact this
  · obtain ⟨l, rfl⟩ : ∃ l, j = p.s + l := ⟨j - p.s, by omega⟩
    have e2 : ∀ k, k < p.m → Q k * p.M k (p.s + l) = if k = l then Q k else 0 := fun k _ => by rw [p.M_slack (by omega)]; split <;> simp
    rw [sm_congr _ e2, sm_delta, if_pos (by omega), ok.c0 _ (by omega), Int.mul_zero]
    exact h.2.1 l (by omega)
theorem sm_le {f g : Nat → Int} : ∀ n, (∀ k, k < n → f k ≤ g k) → sm n f ≤ sm n g
  | 0, _ => Int.le_refl _
  | n + 1, h => by
    have h1 := sm_le n fun k hk => h k (by omega)
    have h2 := h n (by omega)
    simp only [sm]; omega
theorem In.weak (ok : p.Ok) (h : In p T) (Q : Nat → Int) {j : Nat} (hj : j ≤ p.s + p.m) : T.u * sm p.m (fun k => Q k * p.M k j) = sm p.m fun i => T.L i j * sm p.m fun k => Q k * p.M k (T.b i) := by
  have e : ∀ i, i < p.m → T.L i j * sm p.m (fun k => Q k * p.M k (T.b i)) = sm p.m fun k => Q k * (p.M k (T.b i) * T.L i j) := fun i _ => by
    rw [← sm_mul]
    exact sm_congr _ fun k _ => by rw [Int.mul_comm, Int.mul_assoc]
  rw [sm_congr _ e, sm_swap, ← sm_mul]
  refine sm_congr _ fun k hk => ?_
  rw [sm_mul, h.col ok hk hj, Int.mul_left_comm]
/-- no multiples give less than the value -/
theorem In.least (ok : p.Ok) (h : In p T) {Q : Nat → Int} {w : Int} (f : Fe p Q w) : w * T.L p.m (p.s + p.m) ≤ T.u * sm p.m fun k => Q k * p.b k := by
  have e := h.weak ok Q (Nat.le_refl _)
  rw [sm_congr p.m fun k _ => show Q k * p.M k (p.s + p.m) = Q k * p.b k by rw [p.M_rhs]] at e
  rw [e, h.la _ (Nat.le_refl _), ok.c0 _ (by omega), Int.mul_zero, Int.sub_zero, ← sm_mul]
  refine sm_le _ fun i hi => ?_
  have := Int.mul_le_mul_of_nonneg_left (f.col ok (h.bs i hi)) (h.rh i hi)
  have e : w * (p.c (T.b i) * T.L i (p.s + p.m)) = T.L i (p.s + p.m) * (w * p.c (T.b i)) := by grind
  rw [e]
  exact this
/-- nothing bars a number that helps: there are no such multiples -/
theorem In.none (ok : p.Ok) (h : In p T) {q : Nat} (hq : q < p.s + p.m) (neg : T.L p.m q < 0) (no : ∀ i, i < p.m → T.L i q ≤ 0) {Q : Nat → Int} {w : Int} (f : Fe p Q w) : False := by
  have e := h.weak ok Q (j := q) (by omega)
  have h1 : sm p.m (fun i => T.L i q * sm p.m fun k => Q k * p.M k (T.b i)) ≤ sm p.m fun i => T.L i q * (w * p.c (T.b i)) :=
    sm_le _ fun i hi => Int.mul_le_mul_of_nonpos_left (no i hi) (f.col ok (h.bs i hi))
  have h2 : sm p.m (fun i => T.L i q * (w * p.c (T.b i))) = w * (T.L p.m q + T.u * p.c q) := by
    rw [h.la q (by omega), Int.sub_add_cancel, ← sm_mul]
    exact sm_congr _ fun i _ => by rw [Int.mul_left_comm, Int.mul_comm (T.L i q)]
  have h3 := Int.mul_le_mul_of_nonneg_left (f.col ok hq) (Int.le_of_lt h.up)
  rw [← e] at h1
  rw [h2] at h1
  have h4 : 0 < w * -(T.L p.m q) := Int.mul_pos f.1 (by omega)
  rw [Int.mul_neg] at h4
  rw [Int.mul_add, Int.mul_left_comm] at h1
  omega
structure Opt (p : Pr) (T : Tb) : Prop where
  inn : In p T
  ge : ∀ j, j < p.s + p.m → 0 ≤ T.L p.m j
theorem Opt.fe (ok : p.Ok) (h : Opt p T) : Fe p (fun k => T.L p.m (p.s + k)) T.u := by
  refine ⟨h.inn.up, fun k hk => h.ge _ (by omega), fun j hj => ?_⟩
  have h1 := h.ge j (by omega)
  rw [h.inn.dual ok (by omega)] at h1
  rw [sm_congr p.m fun k _ => show T.L p.m (p.s + k) * p.A k j = T.L p.m (p.s + k) * p.M k j by unfold Pr.M; rw [if_pos hj]]
  omega
theorem Opt.val (ok : p.Ok) (h : Opt p T) : (sm p.m fun k => T.L p.m (p.s + k) * p.b k) = T.L p.m (p.s + p.m) := by
  rw [h.inn.dual ok (Nat.le_refl _), ok.c0 _ (by omega), Int.mul_zero, Int.sub_zero]
  exact sm_congr _ fun k _ => by rw [p.M_rhs]
/-- each basic column is at right angles -/
theorem Opt.orth (ok : p.Ok) (h : Opt p T) {i : Nat} (hi : i < p.m) : (sm p.m fun k => T.L p.m (p.s + k) * p.M k (T.b i)) = T.u * p.c (T.b i) := by
  have h1 := h.inn.basic_la ok hi
  rw [h.inn.dual ok (by have := h.inn.bs i hi; omega)] at h1
  omega
def Unb (p : Pr) (T : Tb) (q : Nat) : Prop := In p T ∧ q < p.s + p.m ∧ T.L p.m q < 0 ∧ ∀ i, i < p.m → T.L i q ≤ 0
/-! ### which row goes -/
def Ahead (p : Pr) (T : Tb) (q i o : Nat) : Prop := T.L i (p.s + p.m) * T.L o q < T.L o (p.s + p.m) * T.L i q ∨ T.L i (p.s + p.m) * T.L o q = T.L o (p.s + p.m) * T.L i q ∧ T.b i < T.b o
theorem ahead_trans {q i o l : Nat} (pi : 0 < T.L i q) (po : 0 < T.L o q) (pl : 0 < T.L l q) (h : ¬ Ahead p T q l o) (h2 : Ahead p T q i o) : ¬ Ahead p T q l i := by
  unfold Ahead at *
  generalize T.L i (p.s + p.m) = a at *
  generalize T.L o (p.s + p.m) = b at *
  generalize T.L l (p.s + p.m) = c at *
  generalize T.L i q = x at *
  generalize T.L o q = y at *
  generalize T.L l q = z at *
  -- b z ≤ c y ; a y ≤ b x
  have h3 : b * z ≤ c * y := by
    by_cases k : b * z ≤ c * y
    · exact k
    · exact absurd (.inl (by omega)) h
  have h4 : a * y ≤ b * x := by omega
  have h5 : a * y * z ≤ b * x * z := Int.mul_le_mul_of_nonneg_right h4 (by omega)
  have h6 : b * z * x ≤ c * y * x := Int.mul_le_mul_of_nonneg_right h3 (by omega)
  have h7 : (a * z) * y ≤ (c * x) * y := by
    have q1 : a * y * z = a * z * y := by grind
    have q2 : b * x * z = b * z * x := by grind
    have q3 : c * y * x = c * x * y := by grind
    omega
  have h8 : a * z ≤ c * x := Int.le_of_mul_le_mul_right h7 po
  rintro (k | ⟨k1, k2⟩)
  · omega
  · have e1 : a * z * y = c * x * y := by rw [k1]
    have q1 : a * y * z = a * z * y := by grind
    have q2 : b * x * z = b * z * x := by grind
    have q3 : c * y * x = c * x * y := by grind
    have e2 : a * y * z = b * x * z := by omega
    have e3 : b * z * x = c * y * x := by omega
    have e4 : a * y = b * x := Int.eq_of_mul_eq_mul_right (by omega) e2
    have e5 : b * z = c * y := Int.eq_of_mul_eq_mul_right (by omega) e3
    have e6 : T.b i < T.b o := by
      rcases h2 with h2 | h2
      · omega
      · exact h2.2
    exact h (.inr ⟨by omega, by omega⟩)
theorem ahead_irr {q i : Nat} : ¬ Ahead p T q i i := by
  rintro (h | h)
  · omega
  · exact absurd h.2 (Nat.lt_irrefl _)
/-- what is found behind rows below i -/
def Lv (p : Pr) (T : Tb) (q n : Nat) : Option Nat → Prop
  | none => ∀ i, i < n → ¬ 0 < T.L i q
  | some r => r < n ∧ 0 < T.L r q ∧ ∀ i, i < n → 0 < T.L i q → ¬ Ahead p T q i r
theorem Lv.piv {q r : Nat} (h : Lv p T q p.m (some r)) (hq : q < p.s + p.m) (neg : T.L p.m q < 0) (fst : ∀ j, j < q → 0 ≤ T.L p.m j) : Piv p T r q := by
  obtain ⟨h1, h2, h3⟩ := h
  refine ⟨hq, neg, fst, h1, h2, fun i hi z => ?_, fun i hi z e => ?_⟩
  · by_cases k : T.L r (p.s + p.m) * T.L i q ≤ T.L i (p.s + p.m) * T.L r q
    · exact k
    · exact absurd (.inl (by omega)) (h3 i hi z)
  · by_cases k : T.b r ≤ T.b i
    · exact k
    · exact absurd (.inr ⟨by omega, by omega⟩) (h3 i hi z)
theorem Lv.skip {q n : Nat} {o : Option Nat} (h : Lv p T q n o) (z : ¬ 0 < T.L n q) : Lv p T q (n + 1) o := by
  cases o with
  | none =>
    intro i hi
    by_cases e : i = n
    · subst e; exact z
    · exact h i (by omega)
  | some r =>
    obtain ⟨h1, h2, h3⟩ := h
    refine ⟨by omega, h2, fun i hi y => ?_⟩
    by_cases e : i = n
    · subst e; exact absurd y z
    · exact h3 i (by omega) y
theorem Lv.first {q n : Nat} (h : Lv p T q n none) (z : 0 < T.L n q) : Lv p T q (n + 1) (some n) := by
  refine ⟨by omega, z, fun i hi y => ?_⟩
  by_cases e : i = n
  · subst e; exact ahead_irr
  · exact absurd y (h i (by omega))
theorem Lv.keep {q n r : Nat} (h : Lv p T q n (some r)) (z : ¬ Ahead p T q n r) : Lv p T q (n + 1) (some r) := by
  obtain ⟨h1, h2, h3⟩ := h
  refine ⟨by omega, h2, fun i hi y => ?_⟩
  by_cases e : i = n
  · subst e; exact z
  · exact h3 i (by omega) y
theorem Lv.take {q n r : Nat} (h : Lv p T q n (some r)) (y : 0 < T.L n q) (z : Ahead p T q n r) : Lv p T q (n + 1) (some n) := by
  obtain ⟨h1, h2, h3⟩ := h
  refine ⟨by omega, y, fun i hi x => ?_⟩
  by_cases e : i = n
  · subst e; exact ahead_irr
  · exact ahead_trans y h2 x (h3 i (by omega) x) z
theorem lv_ex (q : Nat) : ∀ n, ∃ o, Lv p T q n o
  | 0 => ⟨none, fun i hi => by omega⟩
  | n + 1 => by
    obtain ⟨o, h⟩ := lv_ex q n
    by_cases z : 0 < T.L n q
    · cases o with
      | none => exact ⟨_, h.first z⟩
      | some r =>
        by_cases y : Ahead p T q n r
        · exact ⟨_, h.take z y⟩
        · exact ⟨_, h.keep y⟩
    · exact ⟨_, h.skip z⟩
/-! ### there is an end -/
theorem first_neg (f : Nat → Int) : ∀ n, (∀ j, j < n → 0 ≤ f j) ∨ ∃ q, q < n ∧ f q < 0 ∧ ∀ j, j < q → 0 ≤ f j
  | 0 => .inl fun j hj => by omega
  | n + 1 => by
    rcases first_neg f n with h | ⟨q, h1, h2, h3⟩
    · by_cases z : f n < 0
      · exact .inr ⟨n, by omega, z, h⟩
      · refine .inl fun j hj => ?_
        by_cases e : j = n
        · subst e; omega
        · exact h j (by omega)
    · exact .inr ⟨q, by omega, h2, h3⟩
/-- a table with how it came about -/
def Hist (p : Pr) (T : Tb) (n : Nat) : Prop := ∃ (S : Nat → Tb) (r q : Nat → Nat), Run p S r q n ∧ S n = T
theorem Hist.first (ok : p.Ok) : Hist p p.first 0 := ⟨fun _ => p.first, fun _ => 0, fun _ => 0, ⟨Pr.first_in ok, fun k hk => by omega, fun k hk => by omega⟩, rfl⟩
theorem Hist.inn (ok : p.Ok) {n : Nat} (h : Hist p T n) : In p T := by
  obtain ⟨S, r, q, R, e⟩ := h
  rw [← e]; exact R.inn ok n (Nat.le_refl _)
theorem Hist.lt (ok : p.Ok) {n : Nat} (h : Hist p T n) : n < (p.s + p.m) ^ p.m := by
  obtain ⟨S, r, q, R, e⟩ := h
  exact R.short ok
theorem Hist.turn {n r q : Nat} (h : Hist p T n) (g : Piv p T r q) : Hist p (T.turn r q) (n + 1) := by
  obtain ⟨S, r', q', R, e⟩ := h
  refine ⟨fun k => if k ≤ n then S k else T.turn r q, fun k => if k < n then r' k else r, fun k => if k < n then q' k else q, ⟨R.first, fun k hk => ?_, fun k hk => ?_⟩, ?_⟩
  · show Piv p (if k ≤ n then _ else _) (if k < n then _ else _) (if k < n then _ else _)
    rw [if_pos (by omega)]
    by_cases z : k < n
    · rw [if_pos z, if_pos z]; exact R.go k z
    · rw [if_neg z, if_neg z, show k = n by omega, e]; exact g
  · show (if k + 1 ≤ n then _ else _) = Tb.turn (if k ≤ n then _ else _) (if k < n then _ else _) (if k < n then _ else _)
    rw [if_pos (show k ≤ n by omega)]
    by_cases z : k < n
    · rw [if_pos z, if_pos z, if_pos (by omega)]; exact R.next k z
    · rw [if_neg z, if_neg z, if_neg (by omega), show k = n by omega, e]
  · show (if n + 1 ≤ n then _ else _) = _
    rw [if_neg (by omega)]
theorem Hist.end_ (ok : p.Ok) : ∀ (f : Nat) {T : Tb} {n : Nat}, Hist p T n → (p.s + p.m) ^ p.m ≤ n + f → (∃ S, Opt p S) ∨ ∃ S q, Unb p S q
  | 0, T, n, h, l => by have := h.lt ok; omega
  | f + 1, T, n, h, l => by
    rcases first_neg (T.L p.m) (p.s + p.m) with z | ⟨q, h1, h2, h3⟩
    · exact .inl ⟨T, h.inn ok, z⟩
    · obtain ⟨o, lv⟩ := lv_ex (p := p) (T := T) q p.m
      cases o with
      | none => exact .inr ⟨T, q, h.inn ok, h1, h2, fun i hi => by have := lv i hi; omega⟩
      | some r => exact Hist.end_ ok f (h.turn (lv.piv h1 h2 h3)) (by omega)
theorem ends (ok : p.Ok) : (∃ S, Opt p S) ∨ ∃ S q, Unb p S q := Hist.end_ ok _ (Hist.first ok) (Nat.le_add_left _ _)
end
end MA
end

section
namespace MA
/-! ### the law's own corners -/
def dot : List Int → List Int → Int
  | x :: xs, y :: ys => x * y + dot xs ys
  | _, _ => 0
def unitRow (n j : Nat) : List Int := (List.range n).map fun k : Nat => if (k : Int) = (j : Int) then 1 else 0
def lrows (n : Nat) (gs : List (List Int)) : List (List Int) := (List.range n).map (unitRow n) ++ gs
/-- at right angles to the rows -/
def pt : List (List Int) → List Int
  | [[a, b]] => [b, -a]
  | [[a, b, c], [d, e, f]] => [b * f - c * e, -(a * f - c * d), a * e - b * d]
  | _ => []
def corn (rows own : List (List Int)) : Option (List Rat) :=
  let w := (pt own).sum
  if w = 0 then none else
    let P := if 0 < w then pt own else (pt own).map fun x => 0 - x
    if ∀ r ∈ rows, 0 ≤ dot r P then some (P.map fun x => Rat.divInt x w.natAbs) else none
def pB (n : Nat) (gs : List (List Int)) (b : List Int) : Pr :=
  ⟨n, 1 + gs.length, fun k j => if j = 0 then 1 else (gs.getD (j - 1) []).getD k 0, fun k => b.getD k 0, fun j => if j = 0 then 1 else 0⟩
structure Sh (n : Nat) (gs : List (List Int)) : Prop where
  n23 : n = 2 ∨ n = 3
  len : ∀ g ∈ gs, g.length = n
def IFs (n : Nat) (gs : List (List Int)) (Q : List Int) : Prop := Q.length = n ∧ (∀ x ∈ Q, 0 ≤ x) ∧ 0 < Q.sum ∧ ∀ g ∈ gs, 0 ≤ dot g Q
abbrev chanceOf (Q : List Int) : List Rat := Q.map fun x => Rat.divInt x Q.sum
def IsMin (n : Nat) (gs : List (List Int)) (X : List Int) (v : Rat) : Prop :=
  (∃ Q, IFs n gs Q ∧ v = Rat.divInt (dot X Q) Q.sum) ∧ ∀ Q, IFs n gs Q → v ≤ Rat.divInt (dot X Q) Q.sum
theorem IsMin.uniq {n : Nat} {gs : List (List Int)} {X : List Int} {v w : Rat} (h : IsMin n gs X v) (h' : IsMin n gs X w) : v = w := by
  obtain ⟨⟨Q, q1, q2⟩, q3⟩ := h
  obtain ⟨⟨R, r1, r2⟩, r3⟩ := h'
  refine Rat.le_antisymm ?_ ?_
  · rw [r2]; exact q3 R r1
  · rw [q2]; exact r3 Q q1
theorem len2 {α : Type} {l : List α} (h : l.length = 2) : ∃ a b, l = [a, b] := by
  match l, h with
  | [a, b], _ => exact ⟨a, b, rfl⟩
theorem len3 {α : Type} {l : List α} (h : l.length = 3) : ∃ a b c, l = [a, b, c] := by
  match l, h with
  | [a, b, c], _ => exact ⟨a, b, c, rfl⟩
theorem dot_sm {n : Nat} (h : n = 2 ∨ n = 3) {g Q : List Int} (hg : g.length = n) (hQ : Q.length = n) : sm n (fun k => Q.getD k 0 * g.getD k 0) = dot g Q := by
  rcases h with rfl | rfl
  · obtain ⟨a, b, rfl⟩ := len2 hg
    obtain ⟨c, d, rfl⟩ := len2 hQ
    simp [sm, dot, Int.mul_comm]
  · obtain ⟨a, b, e, rfl⟩ := len3 hg
    obtain ⟨c, d, f, rfl⟩ := len3 hQ
    simp [sm, dot, Int.mul_comm]; omega
theorem sum_sm {n : Nat} (h : n = 2 ∨ n = 3) {Q : List Int} (hQ : Q.length = n) : sm n (fun k => Q.getD k 0) = Q.sum := by
  rcases h with rfl | rfl
  · obtain ⟨c, d, rfl⟩ := len2 hQ
    simp [sm]
  · obtain ⟨c, d, f, rfl⟩ := len3 hQ
    simp [sm]; omega
theorem getD_mem {α : Type} {l : List α} {k : Nat} {d : α} (h : k < l.length) : l.getD k d ∈ l := by
  rw [List.getD_eq_getElem?_getD, List.getElem?_eq_getElem h]
  exact List.getElem_mem h
section
variable {n : Nat} {gs : List (List Int)} {b : List Int} {T : Tb}
theorem Sh.ok (h : Sh n gs) (hl : b.length = n) (hb : ∀ x ∈ b, 0 ≤ x) : (pB n gs b).Ok :=
  ⟨h.n23, fun k hk => hb _ (getD_mem (by show k < b.length; rw [hl]; exact hk)), fun j hj => if_neg (by have : 1 + gs.length ≤ j := hj; omega)⟩
theorem IFs.fe (h : Sh n gs) {Q : List Int} (q : IFs n gs Q) : Fe (pB n gs b) (fun k => Q.getD k 0) Q.sum := by
  obtain ⟨q1, q2, q3, q4⟩ := q
  refine ⟨q3, fun k hk => q2 _ (getD_mem (by rw [q1]; exact hk)), fun j hj => ?_⟩
  show Q.sum * (if j = 0 then 1 else 0) ≤ sm n fun k => Q.getD k 0 * (if j = 0 then 1 else (gs.getD (j - 1) []).getD k 0)
  by_cases e : j = 0
  · subst e
    simp only [if_true, Int.mul_one]
    rw [sum_sm h.n23 q1]
    exact Int.le_refl _
  · have hj' : j < 1 + gs.length := hj
    have hm : gs.getD (j - 1) [] ∈ gs := getD_mem (by omega)
    simp only [if_neg e, Int.mul_zero]
    rw [dot_sm h.n23 (h.len _ hm) q1]
    exact q4 _ hm
theorem Unb.no (h : Sh n gs) (hl : b.length = n) (hb : ∀ x ∈ b, 0 ≤ x) {q : Nat} (u : Unb (pB n gs b) T q) : ¬ ∃ Q, IFs n gs Q :=
  fun ⟨Q, hQ⟩ => u.1.none (h.ok hl hb) u.2.1 u.2.2.1 u.2.2.2 (hQ.fe h)
/-- the multiples that an end tells -/
def ys (n s : Nat) (T : Tb) : List Int := (List.range n).map fun k => T.L n (s + k)
theorem ys_len (s : Nat) : (ys n s T).length = n := by simp [ys]
theorem ys_get (s : Nat) {k : Nat} (hk : k < n) : (ys n s T).getD k 0 = T.L n (s + k) := by
  rw [List.getD_eq_getElem?_getD]
  simp [ys, List.getElem?_map, List.getElem?_range hk]
theorem pB_M0 (k : Nat) : (pB n gs b).M k 0 = 1 := by
  unfold Pr.M
  rw [if_pos (show 0 < (pB n gs b).s from by show 0 < 1 + gs.length; omega)]
  rfl
theorem pB_M1 (k : Nat) {j : Nat} (h0 : j ≠ 0) (e : j < 1 + gs.length) : (pB n gs b).M k j = (gs.getD (j - 1) []).getD k 0 := by
  unfold Pr.M
  rw [if_pos (show j < (pB n gs b).s from e)]
  exact if_neg h0
theorem Opt.one (h : Sh n gs) (ok : (pB n gs b).Ok) (o : Opt (pB n gs b) T) : ∃ i, i < n ∧ T.b i = 0 := Classical.byContradiction fun no => by
  have h1 := o.ge 0 (by show 0 < 1 + gs.length + n; omega)
  rw [o.inn.la 0 (Nat.zero_le _)] at h1
  have e : ∀ i, i < n → (pB n gs b).c (T.b i) * T.L i 0 = 0 := fun i hi => by
    show (if T.b i = 0 then (1 : Int) else 0) * _ = 0
    rw [if_neg fun z => no ⟨i, hi, z⟩, Int.zero_mul]
  have e2 : sm (pB n gs b).m (fun i => (pB n gs b).c (T.b i) * T.L i 0) = 0 := by
    exact (sm_congr n e).trans (sm_zero n)
  rw [e2] at h1
  have := o.inn.up
  have e3 : T.u * (pB n gs b).c 0 = T.u := by show T.u * (if 0 = 0 then 1 else 0) = T.u; simp
  rw [e3] at h1
  omega
theorem Opt.sum (h : Sh n gs) (ok : (pB n gs b).Ok) (o : Opt (pB n gs b) T) : (ys n (1 + gs.length) T).sum = T.u := by
  obtain ⟨i, hi, e⟩ := o.one h ok
  have h1 := o.orth ok (i := i) hi
  rw [e] at h1
  have e3 : T.u * (pB n gs b).c 0 = T.u := by show T.u * (if 0 = 0 then 1 else 0) = T.u; simp
  rw [e3] at h1
  rw [← h1, ← sum_sm h.n23 (ys_len _)]
  refine sm_congr n fun k hk => ?_
  rw [ys_get _ hk]
  rw [pB_M0, Int.mul_one]
  rfl
theorem Opt.ifs (h : Sh n gs) (ok : (pB n gs b).Ok) (o : Opt (pB n gs b) T) : IFs n gs (ys n (1 + gs.length) T) := by
  have f := o.fe ok
  refine ⟨ys_len _, fun x hx => ?_, ?_, fun g hg => ?_⟩
  · obtain ⟨k, hk, rfl⟩ := List.mem_map.mp hx
    exact f.2.1 k (List.mem_range.mp hk)
  · rw [o.sum h ok]; exact o.inn.up
  · obtain ⟨l, hl, rfl⟩ := List.mem_iff_getElem.mp hg
    have h1 := f.2.2 (1 + l) (by show 1 + l < 1 + gs.length; omega)
    have e1 : (pB n gs b).c (1 + l) = 0 := by show (if 1 + l = 0 then (1 : Int) else 0) = 0; rw [if_neg (by omega)]
    rw [e1, Int.mul_zero] at h1
    rw [← dot_sm h.n23 (h.len _ hg) (ys_len _)]
    refine Int.le_trans h1 (Int.le_of_eq (sm_congr n fun k hk => ?_))
    rw [ys_get _ hk]
    congr 1
    show (if 1 + l = 0 then (1 : Int) else (gs.getD (1 + l - 1) []).getD k 0) = _
    rw [if_neg (by omega), show 1 + l - 1 = l by omega]
    congr 1
    rw [List.getD_eq_getElem?_getD, List.getElem?_eq_getElem hl]; rfl
/-- the row of a column behind the first -/
def rho (n s j : Nat) : Nat := if j < s then n + (j - 1) else j - s
theorem rho_lt {j : Nat} (h0 : j ≠ 0) (hj : j < 1 + gs.length + n) : rho n (1 + gs.length) j < (lrows n gs).length := by
  unfold rho lrows
  simp only [List.length_append, List.length_map, List.length_range]
  split <;> omega
theorem rho_inj {s i j : Nat} (hi : i ≠ 0) (hj : j ≠ 0) (li : i < s + n) (lj : j < s + n) (e : rho n s i = rho n s j) : i = j := by
  unfold rho at e
  split at e <;> split at e <;> omega
theorem rho_row (h : Sh n gs) {j : Nat} (h0 : j ≠ 0) (hj : j < 1 + gs.length + n) : ∃ r, (lrows n gs)[rho n (1 + gs.length) j]? = some r ∧ r.length = n ∧ ∀ k, k < n → r.getD k 0 = (pB n gs b).M k j := by
  unfold rho lrows
  by_cases e : j < 1 + gs.length
  · rw [if_pos e]
    have hl : j - 1 < gs.length := by omega
    refine ⟨gs[j - 1], ?_, h.len _ (List.getElem_mem hl), fun k hk => ?_⟩
    · rw [List.getElem?_append_right (by simp)]
      simp only [List.length_map, List.length_range]
      rw [show n + (j - 1) - n = j - 1 by omega, List.getElem?_eq_getElem hl]
    · rw [pB_M1 k h0 e]
      congr 1
      rw [List.getD_eq_getElem?_getD, List.getElem?_eq_getElem hl]; rfl
  · rw [if_neg e]
    have hl : j - (1 + gs.length) < n := by omega
    refine ⟨unitRow n (j - (1 + gs.length)), ?_, by simp [unitRow], fun k hk => ?_⟩
    · rw [List.getElem?_append_left (by simp; exact hl), List.getElem?_map, List.getElem?_range hl]; rfl
    · have e1 : (pB n gs b).M k j = if k = j - (1 + gs.length) then 1 else 0 := by
        have := (pB n gs b).M_slack (k := k) (l := j - (1 + gs.length)) hl
        rw [← this]
        congr 1
        show j = 1 + gs.length + (j - (1 + gs.length)); omega
      rw [e1, List.getD_eq_getElem?_getD]
      unfold unitRow
      rw [List.getElem?_map, List.getElem?_range hk]
      show (if (k : Int) = ((j - (1 + gs.length) : Nat) : Int) then (1 : Int) else 0) = _
      by_cases z : k = j - (1 + gs.length)
      · rw [if_pos (by omega), if_pos z]
      · rw [if_neg (by omega), if_neg z]
/-- ascending lists of row numbers, as many as there are outcomes less one -/
def Lot (n size : Nat) (lot : List Nat) : Prop := lot.length = n - 1 ∧ (∀ k ∈ lot, k < size) ∧ ∀ i j, lot = [i, j] → i < j
abbrev ownOf (rows : List (List Int)) (lot : List Nat) : List (List Int) := lot.map fun k => rows.getD k []
/-- if multiples are at right angles to own rows, these rows tell a corner -/
theorem corn_of {rows own : List (List Int)} {Q : List Int} {u : Int} (hu : 0 < u) (hs : Q.sum = u) (w0 : (pt own).sum ≠ 0) (hl : (pt own).length = Q.length) (n23 : Q.length = 2 ∨ Q.length = 3)
    (hq : ∀ k, k < Q.length → Q.getD k 0 * (pt own).sum = u * (pt own).getD k 0) (hr : ∀ r ∈ rows, r.length = Q.length ∧ 0 ≤ dot r Q) : corn rows own = some (chanceOf Q) := by
  unfold corn
  simp only
  rw [if_neg w0]
  generalize hP : (if 0 < (pt own).sum then pt own else (pt own).map fun x => 0 - x) = P
  have lP : P.length = Q.length := by rw [← hP]; split <;> simp [hl]
  have eP : ∀ k, k < Q.length → Q.getD k 0 * ((pt own).sum.natAbs : Int) = u * P.getD k 0 := fun k hk => by
    have h1 := hq k hk
    by_cases z : 0 < (pt own).sum
    · rw [← hP, if_pos z, show ((pt own).sum.natAbs : Int) = (pt own).sum by omega]; exact h1
    · rw [← hP, if_neg z, show ((pt own).sum.natAbs : Int) = -(pt own).sum by omega]
      have : ((pt own).map fun x => 0 - x).getD k 0 = -(pt own).getD k 0 := by
        rw [List.getD_eq_getElem?_getD, List.getD_eq_getElem?_getD, List.getElem?_map, List.getElem?_eq_getElem (by omega)]
        simp
      rw [this, Int.mul_neg, Int.mul_neg, h1]
  have wp : (0 : Int) < ((pt own).sum.natAbs : Int) := by omega
  have ed : ∀ r, r.length = Q.length → dot r Q * ((pt own).sum.natAbs : Int) = u * dot r P := fun r hr => by
    rw [← dot_sm n23 hr rfl, ← dot_sm n23 hr lP, ← sm_mul, ← sm_mulr]
    refine sm_congr _ fun k hk => ?_
    have := eP k hk
    grind
  rw [if_pos]
  · congr 1
    apply List.ext_getElem?
    intro k
    unfold chanceOf
    rw [List.getElem?_map, List.getElem?_map]
    by_cases hk : k < Q.length
    · rw [List.getElem?_eq_getElem hk, List.getElem?_eq_getElem (by omega)]
      simp only [Option.map_some]
      congr 1
      rw [hs, Rat.divInt_eq_divInt_iff (by omega) (by omega)]
      have := eP k hk
      rw [List.getD_eq_getElem?_getD, List.getD_eq_getElem?_getD, List.getElem?_eq_getElem hk, List.getElem?_eq_getElem (by omega)] at this
      simp only [Option.getD_some] at this
      rw [this, Int.mul_comm]
    · rw [List.getElem?_eq_none (by omega), List.getElem?_eq_none (by omega)]; rfl
  · intro r hr'
    obtain ⟨a1, a2⟩ := hr r hr'
    have := ed r a1
    have h2 : 0 ≤ u * dot r P := by rw [← this]; exact Int.mul_nonneg a2 (by omega)
    exact Int.nonneg_of_mul_nonneg_right h2 hu
end
end MA
end

section
namespace MA
section
variable {n : Nat} {gs : List (List Int)} {b : List Int} {T : Tb}
theorem dt_two (B : Mat) : dt 2 B = B 0 0 * B 1 1 - B 0 1 * B 1 0 := rfl
theorem dt_three (B : Mat) : dt 3 B = B 0 0 * (B 1 1 * B 2 2 - B 1 2 * B 2 1) - B 0 1 * (B 1 0 * B 2 2 - B 1 2 * B 2 0) + B 0 2 * (B 1 0 * B 2 1 - B 1 1 * B 2 0) := rfl
theorem unit_dot {j : Nat} (h : n = 2 ∨ n = 3) (hj : j < n) {Q : List Int} (hQ : Q.length = n) : dot (unitRow n j) Q = Q.getD j 0 := by
  rcases h with rfl | rfl
  · obtain ⟨c, d, rfl⟩ := len2 hQ
    rcases lt2 hj with rfl | rfl <;> simp [unitRow, dot, List.range_succ]
  · obtain ⟨c, d, e, rfl⟩ := len3 hQ
    rcases lt3 hj with rfl | rfl | rfl <;> simp [unitRow, dot, List.range_succ]
theorem rows_ok (h : Sh n gs) {Q : List Int} (q : IFs n gs Q) : ∀ r ∈ lrows n gs, r.length = n ∧ 0 ≤ dot r Q := by
  intro r hr
  rcases List.mem_append.mp hr with hr | hr
  · obtain ⟨j, hj, rfl⟩ := List.mem_map.mp hr
    have hj := List.mem_range.mp hj
    refine ⟨by simp [unitRow], ?_⟩
    rw [unit_dot h.n23 hj q.1]
    exact q.2.1 _ (getD_mem (by rw [q.1]; exact hj))
  · exact ⟨h.len r hr, q.2.2.2 r hr⟩
theorem own_get {rows : List (List Int)} {k : Nat} {r : List Int} (h : rows[k]? = some r) : rows.getD k [] = r := by
  rw [List.getD_eq_getElem?_getD, h]; rfl
theorem Opt.orthL (h : Sh n gs) (ok : (pB n gs b).Ok) (o : Opt (pB n gs b) T) {i : Nat} (hi : i < n) (h0 : T.b i ≠ 0) {r : List Int} (hr : r.length = n) (er : ∀ k, k < n → r.getD k 0 = (pB n gs b).M k (T.b i)) : dot r (ys n (1 + gs.length) T) = 0 := by
  have h1 := o.orth ok (i := i) hi
  have e3 : T.u * (pB n gs b).c (T.b i) = 0 := by show T.u * (if T.b i = 0 then 1 else 0) = 0; rw [if_neg h0, Int.mul_zero]
  rw [e3] at h1
  rw [← dot_sm h.n23 hr (ys_len _)]
  refine (sm_congr n fun k hk => ?_).trans h1
  rw [ys_get _ hk, er k hk]
  rfl
theorem Opt.corner (h : Sh n gs) (ok : (pB n gs b).Ok) (o : Opt (pB n gs b) T) :
    ∃ lot, Lot n (lrows n gs).length lot ∧ corn (lrows n gs) (ownOf (lrows n gs) lot) = some (chanceOf (ys n (1 + gs.length) T)) := by
  obtain ⟨i0, hi0, e0⟩ := o.one h ok
  have hs := o.sum h ok
  have hf := o.ifs h ok
  have hro := rows_ok h hf
  have up := o.inn.up
  have inj : ∀ i, i < n → i ≠ i0 → T.b i ≠ 0 := fun i hi ne z => ne (o.inn.inj ok hi hi0 (z.trans e0.symm))
  have row : ∀ i, i < n → i ≠ i0 → ∃ r, (lrows n gs)[rho n (1 + gs.length) (T.b i)]? = some r ∧ r.length = n ∧ ∀ k, k < n → r.getD k 0 = (pB n gs b).M k (T.b i) :=
    fun i hi ne => rho_row h (inj i hi ne) (o.inn.bs i hi)
  have rlt : ∀ i, i < n → i ≠ i0 → rho n (1 + gs.length) (T.b i) < (lrows n gs).length := fun i hi ne => rho_lt (inj i hi ne) (o.inn.bs i hi)
  have ud := o.inn.ud
  have hone : ∀ k, (pB n gs b).M k (T.b i0) = 1 := fun k => by rw [e0]; exact pB_M0 k
  have lQ := ys_len (T := T) (n := n) (1 + gs.length)
  rcases h.n23 with rfl | rfl
  · obtain ⟨i1, hi1, ne1, es⟩ : ∃ i1, i1 < 2 ∧ i1 ≠ i0 ∧ (i0 = 0 ∧ i1 = 1 ∨ i0 = 1 ∧ i1 = 0) := by
      rcases lt2 hi0 with rfl | rfl
      · exact ⟨1, by decide, by decide, .inl ⟨rfl, rfl⟩⟩
      · exact ⟨0, by decide, by decide, .inr ⟨rfl, rfl⟩⟩
    obtain ⟨r, r1, r2, r3⟩ := row i1 hi1 ne1
    have od := o.orthL h ok hi1 (inj i1 hi1 ne1) r2 r3
    refine ⟨[rho 2 (1 + gs.length) (T.b i1)], ⟨rfl, fun k hk => ?_, fun i j e => by cases e⟩, ?_⟩
    · rw [List.mem_singleton.mp hk]; exact rlt i1 hi1 ne1
    have eo : ownOf (lrows 2 gs) [rho 2 (1 + gs.length) (T.b i1)] = [r] := by simp only [ownOf, List.map_cons, List.map_nil, own_get r1]
    rw [eo]
    obtain ⟨a, c, rfl⟩ := len2 r2
    have ra := r3 0 (by decide)
    have rc := r3 1 (by decide)
    have dne : c - a ≠ 0 := by
      intro z
      have : dt 2 (T.B (pB 2 gs b)) = 0 := by
        have h0 := hone 0
        have h1 := hone 1
        simp only [List.getD_cons_zero, List.getD_cons_succ] at ra rc
        rw [dt_two]
        simp only [Tb.B]
        rcases es with ⟨rfl, rfl⟩ | ⟨rfl, rfl⟩
        · rw [h0, h1, ← ra, ← rc]; omega
        · rw [h0, h1, ← ra, ← rc]; omega
      rw [ud, show (pB 2 gs b).m = 2 from rfl, this] at up
      omega
    generalize hQ : ys 2 (1 + gs.length) T = Q at *
    obtain ⟨x, y, rfl⟩ := len2 lQ
    simp only [dot, Int.add_zero] at od
    simp only [List.sum_cons, List.sum_nil, Int.add_zero] at hs
    refine corn_of up (by simpa using hs) ?_ rfl (.inl rfl) (fun k hk => ?_) hro
    · simp only [pt, List.sum_cons, List.sum_nil]; omega
    · rcases lt2 hk with rfl | rfl
      · simp only [pt, List.sum_cons, List.sum_nil, List.getD_cons_zero, List.getD_cons_succ]
        rw [← hs]; grind
      · simp only [pt, List.sum_cons, List.sum_nil, List.getD_cons_zero, List.getD_cons_succ]
        rw [← hs]; grind
  · obtain ⟨i1, i2, hi1, hi2, ne1, ne2, ne12, es⟩ : ∃ i1 i2, i1 < 3 ∧ i2 < 3 ∧ i1 ≠ i0 ∧ i2 ≠ i0 ∧ i1 ≠ i2 ∧ (i0 = 0 ∧ i1 = 1 ∧ i2 = 2 ∨ i0 = 1 ∧ i1 = 2 ∧ i2 = 0 ∨ i0 = 2 ∧ i1 = 0 ∧ i2 = 1) := by
      rcases lt3 hi0 with rfl | rfl | rfl
      · exact ⟨1, 2, by decide, by decide, by decide, by decide, by decide, .inl ⟨rfl, rfl, rfl⟩⟩
      · exact ⟨2, 0, by decide, by decide, by decide, by decide, by decide, .inr (.inl ⟨rfl, rfl, rfl⟩)⟩
      · exact ⟨0, 1, by decide, by decide, by decide, by decide, by decide, .inr (.inr ⟨rfl, rfl, rfl⟩)⟩
    obtain ⟨r, r1, r2, r3⟩ := row i1 hi1 ne1
    obtain ⟨r', r1', r2', r3'⟩ := row i2 hi2 ne2
    have od := o.orthL h ok hi1 (inj i1 hi1 ne1) r2 r3
    have od' := o.orthL h ok hi2 (inj i2 hi2 ne2) r2' r3'
    have l1 := rlt i1 hi1 ne1
    have l2 := rlt i2 hi2 ne2
    have ner : rho 3 (1 + gs.length) (T.b i1) ≠ rho 3 (1 + gs.length) (T.b i2) := fun z =>
      ne12 (o.inn.inj ok hi1 hi2 (rho_inj (inj i1 hi1 ne1) (inj i2 hi2 ne2) (o.inn.bs i1 hi1) (o.inn.bs i2 hi2) z))
    obtain ⟨a, c, d, rfl⟩ := len3 r2
    obtain ⟨a', c', d', rfl⟩ := len3 r2'
    have dne : (pt [[a, c, d], [a', c', d']]).sum ≠ 0 := by
      intro z
      have : dt 3 (T.B (pB 3 gs b)) = 0 := by
        have h0 := hone 0
        have h1 := hone 1
        have h2 := hone 2
        have ra := r3 0 (by decide)
        have rc := r3 1 (by decide)
        have rd := r3 2 (by decide)
        have ra' := r3' 0 (by decide)
        have rc' := r3' 1 (by decide)
        have rd' := r3' 2 (by decide)
        simp only [List.getD_cons_zero, List.getD_cons_succ] at ra rc rd ra' rc' rd'
        simp only [pt, List.sum_cons, List.sum_nil] at z
        rw [dt_three]
        simp only [Tb.B]
        rcases es with ⟨rfl, rfl, rfl⟩ | ⟨rfl, rfl, rfl⟩ | ⟨rfl, rfl, rfl⟩
        · rw [h0, h1, h2, ← ra, ← rc, ← rd, ← ra', ← rc', ← rd']; grind
        · rw [h0, h1, h2, ← ra, ← rc, ← rd, ← ra', ← rc', ← rd']; grind
        · rw [h0, h1, h2, ← ra, ← rc, ← rd, ← ra', ← rc', ← rd']; grind
      rw [ud, show (pB 3 gs b).m = 3 from rfl, this] at up
      omega
    generalize hQ : ys 3 (1 + gs.length) T = Q at *
    obtain ⟨x, y, z, rfl⟩ := len3 lQ
    simp only [dot, Int.add_zero] at od od'
    simp only [List.sum_cons, List.sum_nil, Int.add_zero] at hs
    simp only [pt, List.sum_cons, List.sum_nil] at dne
    by_cases lt : rho 3 (1 + gs.length) (T.b i1) < rho 3 (1 + gs.length) (T.b i2)
    · refine ⟨[rho 3 (1 + gs.length) (T.b i1), rho 3 (1 + gs.length) (T.b i2)], ⟨rfl, fun k hk => ?_, fun i j e => ?_⟩, ?_⟩
      · rcases List.mem_cons.mp hk with e | hk
        · rw [e]; exact l1
        · rw [List.mem_singleton.mp hk]; exact l2
      · injection e with e1 e2
        injection e2 with e2
        omega
      have eo : ownOf (lrows 3 gs) [rho 3 (1 + gs.length) (T.b i1), rho 3 (1 + gs.length) (T.b i2)] = [[a, c, d], [a', c', d']] := by simp only [ownOf, List.map_cons, List.map_nil, own_get r1, own_get r1']
      rw [eo]
      refine corn_of up (by simpa using hs) ?_ rfl (.inr rfl) (fun k hk => ?_) hro
      · simpa only [pt, List.sum_cons, List.sum_nil] using dne
      · simp only [pt, List.sum_cons, List.sum_nil]
        rw [← hs]
        rcases lt3 hk with rfl | rfl | rfl
        · simp only [List.getD_cons_zero, List.getD_cons_succ]; grind
        · simp only [List.getD_cons_zero, List.getD_cons_succ]; grind
        · simp only [List.getD_cons_zero, List.getD_cons_succ]; grind
    · refine ⟨[rho 3 (1 + gs.length) (T.b i2), rho 3 (1 + gs.length) (T.b i1)], ⟨rfl, fun k hk => ?_, fun i j e => ?_⟩, ?_⟩
      · rcases List.mem_cons.mp hk with e | hk
        · rw [e]; exact l2
        · rw [List.mem_singleton.mp hk]; exact l1
      · injection e with e1 e2
        injection e2 with e2
        omega
      have eo : ownOf (lrows 3 gs) [rho 3 (1 + gs.length) (T.b i2), rho 3 (1 + gs.length) (T.b i1)] = [[a', c', d'], [a, c, d]] := by simp only [ownOf, List.map_cons, List.map_nil, own_get r1, own_get r1']
      rw [eo]
      refine corn_of up (by simpa using hs) ?_ rfl (.inr rfl) (fun k hk => ?_) hro
      · simp only [pt, List.sum_cons, List.sum_nil]
        intro z
        apply dne
        grind
      · simp only [pt, List.sum_cons, List.sum_nil]
        rw [← hs]
        rcases lt3 hk with rfl | rfl | rfl
        · simp only [List.getD_cons_zero, List.getD_cons_succ]; grind
        · simp only [List.getD_cons_zero, List.getD_cons_succ]; grind
        · simp only [List.getD_cons_zero, List.getD_cons_succ]; grind
end
end MA
end

section
namespace MA
def CS (n : Nat) (gs : List (List Int)) (cs : List (List Rat)) : Prop :=
  (∀ c ∈ cs, ∃ own, (∀ r ∈ own, r ∈ lrows n gs) ∧ own.length = n - 1 ∧ corn (lrows n gs) own = some c) ∧
  ∀ lot, Lot n (lrows n gs).length lot → ∀ c, corn (lrows n gs) (ownOf (lrows n gs) lot) = some c → c ∈ cs
def wr (ns : List Int) (rs : List Rat) : Rat := (ns.zip rs).foldl (fun t p => t + (p.1 : Rat) * p.2) 0
def gm (x y : Rat) : Rat := if y < x then y else x
theorem mul_divInt (a c w : Int) : (a : Rat) * Rat.divInt c w = Rat.divInt (a * c) w := by
  rw [Rat.divInt_eq_div, Rat.divInt_eq_div, Rat.intCast_mul, Rat.div_def, Rat.div_def, Rat.mul_assoc]
theorem add_divInt (a c w : Int) : Rat.divInt a w + Rat.divInt c w = Rat.divInt (a + c) w := by
  rw [Rat.divInt_eq_div, Rat.divInt_eq_div, Rat.divInt_eq_div, Rat.intCast_add, Rat.div_def, Rat.div_def, Rat.div_def, Rat.add_mul]
theorem wr_chance {n : Nat} (h : n = 2 ∨ n = 3) {ns Q : List Int} (hn : ns.length = n) (hQ : Q.length = n) (w : Int) : wr ns (Q.map fun x => Rat.divInt x w) = Rat.divInt (dot ns Q) w := by
  rcases h with rfl | rfl
  · obtain ⟨a, b, rfl⟩ := len2 hn
    obtain ⟨c, d, rfl⟩ := len2 hQ
    simp only [wr, List.map_cons, List.map_nil, List.zip_cons_cons, List.zip_nil_right, List.foldl_cons, List.foldl_nil, Rat.zero_add, dot, mul_divInt, add_divInt, Int.add_zero]
  · obtain ⟨a, b, e, rfl⟩ := len3 hn
    obtain ⟨c, d, f, rfl⟩ := len3 hQ
    simp only [wr, List.map_cons, List.map_nil, List.zip_cons_cons, List.zip_nil_right, List.foldl_cons, List.foldl_nil, Rat.zero_add, dot, mul_divInt, add_divInt, Int.add_zero, Int.add_assoc]
theorem pt_len {n : Nat} (h : n = 2 ∨ n = 3) {own : List (List Int)} (ho : own.length = n - 1) (hr : ∀ r ∈ own, r.length = n) : (pt own).length = n := by
  rcases h with rfl | rfl
  · match own, ho with
    | [r], _ =>
      obtain ⟨a, b, rfl⟩ := len2 (hr r (by simp))
      rfl
  · obtain ⟨r, r', rfl⟩ := len2 ho
    obtain ⟨a, b, c, rfl⟩ := len3 (hr r (by simp))
    obtain ⟨d, e, f, rfl⟩ := len3 (hr r' (by simp))
    rfl
theorem neg_sum : ∀ l : List Int, (l.map fun x => 0 - x).sum = -l.sum
  | [] => rfl
  | x :: l => by rw [List.map_cons, List.sum_cons, List.sum_cons, neg_sum l]; omega
section
variable {n : Nat} {gs : List (List Int)} {b : List Int} {T : Tb}
theorem unitRow_mem {j : Nat} (hj : j < n) : unitRow n j ∈ lrows n gs := List.mem_append_left _ (List.mem_map.mpr ⟨j, List.mem_range.mpr hj, rfl⟩)
theorem lrows_len (h : Sh n gs) : ∀ r ∈ lrows n gs, r.length = n := by
  intro r hr
  rcases List.mem_append.mp hr with hr | hr
  · obtain ⟨j, hj, rfl⟩ := List.mem_map.mp hr
    simp [unitRow]
  · exact h.len r hr
theorem corn_fs (h : Sh n gs) {own : List (List Int)} (ho : own.length = n - 1) (hr : ∀ r ∈ own, r ∈ lrows n gs) {c : List Rat} (hc : corn (lrows n gs) own = some c) : ∃ Q, IFs n gs Q ∧ c = chanceOf Q := by
  have lp := pt_len h.n23 ho fun r z => lrows_len h r (hr r z)
  unfold corn at hc
  simp only at hc
  split at hc
  · cases hc
  · rename_i w0
    generalize hP : (if 0 < (pt own).sum then pt own else (pt own).map fun x => 0 - x) = P at hc
    have lP : P.length = n := by rw [← hP]; split <;> simp [lp]
    have sP : P.sum = ((pt own).sum.natAbs : Int) := by
      rw [← hP]
      split
      · omega
      · rw [neg_sum]; omega
    split at hc
    · rename_i al
      injection hc with hc
      refine ⟨P, ⟨lP, fun x hx => ?_, by omega, fun g hg => al g (List.mem_append_right _ hg)⟩, ?_⟩
      · obtain ⟨j, hj, rfl⟩ := List.mem_iff_getElem.mp hx
        have := al _ (unitRow_mem (gs := gs) (n := n) (j := j) (by omega))
        rw [unit_dot h.n23 (by omega) lP, List.getD_eq_getElem?_getD, List.getElem?_eq_getElem hj] at this
        exact this
      · rw [← hc]
        unfold chanceOf
        rw [sP]
    · cases hc
theorem cs_fs (h : Sh n gs) {cs : List (List Rat)} (s : CS n gs cs) {c : List Rat} (hc : c ∈ cs) : ∃ Q, IFs n gs Q ∧ c = chanceOf Q := by
  obtain ⟨own, h1, h2, h3⟩ := s.1 c hc
  exact corn_fs h h2 h1 h3
theorem Opt.mem (h : Sh n gs) (ok : (pB n gs b).Ok) (o : Opt (pB n gs b) T) {cs : List (List Rat)} (s : CS n gs cs) : chanceOf (ys n (1 + gs.length) T) ∈ cs := by
  obtain ⟨lot, h1, h2⟩ := o.corner h ok
  exact s.2 lot h1 _ h2
theorem cs_nil (h : Sh n gs) {cs : List (List Rat)} (s : CS n gs cs) : cs = [] ↔ ¬ ∃ Q, IFs n gs Q := by
  constructor
  · rintro rfl hQ
    have hl : (List.replicate n (0 : Int)).length = n := by simp
    have hb : ∀ x ∈ List.replicate n (0 : Int), 0 ≤ x := fun x hx => by rw [(List.mem_replicate.mp hx).2]; exact Int.le_refl _
    rcases ends (h.ok hl hb) with ⟨S, o⟩ | ⟨S, q, u⟩
    · exact absurd (o.mem h (h.ok hl hb) s) (List.not_mem_nil)
    · exact u.no h hl hb hQ
  · intro no
    cases cs with
    | nil => rfl
    | cons c cs =>
      obtain ⟨Q, hQ, _⟩ := cs_fs h s (List.mem_cons_self)
      exact absurd ⟨Q, hQ⟩ no
theorem dot_sub {n : Nat} (h : n = 2 ∨ n = 3) {X Q : List Int} (hX : X.length = n) (hQ : Q.length = n) (low : Int) : dot (X.map fun x => x - low) Q = dot X Q - low * Q.sum := by
  rcases h with rfl | rfl
  · obtain ⟨a, b, rfl⟩ := len2 hX
    obtain ⟨c, d, rfl⟩ := len2 hQ
    simp only [dot, List.map_cons, List.map_nil, List.sum_cons, List.sum_nil]; grind
  · obtain ⟨a, b, e, rfl⟩ := len3 hX
    obtain ⟨c, d, f, rfl⟩ := len3 hQ
    simp only [dot, List.map_cons, List.map_nil, List.sum_cons, List.sum_nil]; grind
theorem divInt_shift {a low w : Int} (hw : 0 < w) : Rat.divInt (a - low * w) w = Rat.divInt a w - (low : Rat) := by
  have hw' : (w : Rat) ≠ 0 := by
    intro z
    have : w = 0 := by exact_mod_cast z
    omega
  rw [Rat.divInt_eq_div, Rat.divInt_eq_div, Rat.intCast_sub, Rat.intCast_mul]
  grind
/-- the end of a question is the least worth -/
theorem opt_min (h : Sh n gs) {X : List Int} (hX : X.length = n) {low : Int} (hlow : ∀ x ∈ X, low ≤ x) (o : Opt (pB n gs (X.map fun x => x - low)) T) : IsMin n gs X ((low : Rat) + val (pB n gs (X.map fun x => x - low)) T) := by
  have hl : (X.map fun x => x - low).length = n := by simp [hX]
  have hb : ∀ x ∈ X.map (fun x => x - low), 0 ≤ x := fun x hx => by
    obtain ⟨y, hy, rfl⟩ := List.mem_map.mp hx
    have := hlow y hy
    omega
  have ok := h.ok hl hb
  have up := o.inn.up
  refine ⟨⟨_, o.ifs h ok, ?_⟩, fun Q hQ => ?_⟩
  · have e : dot (X.map fun x => x - low) (ys n (1 + gs.length) T) = T.L n (1 + gs.length + n) := by
      rw [← dot_sm h.n23 hl (ys_len _)]
      refine Eq.trans (sm_congr n fun k hk => ?_) (o.val ok)
      rw [ys_get _ hk]; rfl
    rw [dot_sub h.n23 hX (ys_len _), o.sum h ok] at e
    rw [o.sum h ok]
    show (low : Rat) + Rat.divInt (T.L n (1 + gs.length + n)) T.u = _
    rw [← e, divInt_shift up]
    grind
  · have h1 := o.inn.least ok (hQ.fe h)
    have e : sm n (fun k => Q.getD k 0 * (X.map fun x => x - low).getD k 0) = dot (X.map fun x => x - low) Q := dot_sm h.n23 hl hQ.1
    have h2 : val (pB n gs (X.map fun x => x - low)) T ≤ Rat.divInt (dot (X.map fun x => x - low) Q) Q.sum := by
      unfold val
      rw [divInt_le' up hQ.2.2.1, ← e]
      rw [Int.mul_comm, Int.mul_comm _ T.u]
      exact h1
    rw [dot_sub h.n23 hX hQ.1, divInt_shift hQ.2.2.1] at h2
    grind
theorem fold_gm : ∀ (l : List Rat) (r : Rat), l.foldl gm r ≤ r ∧ (∀ x ∈ l, l.foldl gm r ≤ x) ∧ (l.foldl gm r = r ∨ l.foldl gm r ∈ l)
  | [], r => ⟨Rat.le_refl, fun x hx => absurd hx List.not_mem_nil, .inl rfl⟩
  | x :: l, r => by
    obtain ⟨h1, h2, h3⟩ := fold_gm l (gm r x)
    rw [List.foldl_cons]
    have g1 : gm r x ≤ r := by unfold gm; split <;> grind
    have g2 : gm r x ≤ x := by unfold gm; split <;> grind
    have g3 : gm r x = r ∨ gm r x = x := by unfold gm; split <;> simp
    refine ⟨Rat.le_trans h1 g1, fun y hy => ?_, ?_⟩
    · rcases List.mem_cons.mp hy with rfl | hy
      · exact Rat.le_trans h1 g2
      · exact h2 y hy
    · rcases h3 with h3 | h3
      · rcases g3 with g3 | g3
        · exact .inl (h3.trans g3)
        · exact .inr (by rw [h3, g3]; exact List.mem_cons_self)
      · exact .inr (List.mem_cons_of_mem _ h3)
theorem low_ex : ∀ (X : List Int), ∃ low, ∀ x ∈ X, low ≤ x
  | [] => ⟨0, fun _ h => absurd h List.not_mem_nil⟩
  | x :: X => by
    obtain ⟨l, h⟩ := low_ex X
    refine ⟨if x ≤ l then x else l, fun y hy => ?_⟩
    rcases List.mem_cons.mp hy with rfl | hy
    · split <;> omega
    · have := h y hy
      split <;> omega
theorem wr_fs (h : Sh n gs) {X Q : List Int} (hX : X.length = n) (hQ : IFs n gs Q) : wr X (chanceOf Q) = Rat.divInt (dot X Q) Q.sum := wr_chance h.n23 hX hQ.1 _
/-- the least by the corners is the least worth -/
theorem cs_min (h : Sh n gs) {c : List Rat} {cs : List (List Rat)} (s : CS n gs (c :: cs)) {X : List Int} (hX : X.length = n) : IsMin n gs X ((cs.map (wr X)).foldl gm (wr X c)) := by
  obtain ⟨low, hlow⟩ := low_ex X
  have hl : (X.map fun x => x - low).length = n := by simp [hX]
  have hb : ∀ x ∈ X.map (fun x => x - low), 0 ≤ x := fun x hx => by
    obtain ⟨y, hy, rfl⟩ := List.mem_map.mp hx
    have := hlow y hy
    omega
  have ok := h.ok hl hb
  obtain ⟨f1, f2, f3⟩ := fold_gm (cs.map (wr X)) (wr X c)
  rcases ends ok with ⟨S, o⟩ | ⟨S, q, u⟩
  · have m := opt_min h hX hlow o
    have hm := o.mem h ok s
    have le : (cs.map (wr X)).foldl gm (wr X c) ≤ wr X (chanceOf (ys n (1 + gs.length) S)) := by
      rcases List.mem_cons.mp hm with e | e
      · rw [e]; exact f1
      · exact f2 _ (List.mem_map.mpr ⟨_, e, rfl⟩)
    obtain ⟨⟨Q0, q1, q2⟩, q3⟩ := m
    have at_ : ∃ d ∈ c :: cs, (cs.map (wr X)).foldl gm (wr X c) = wr X d := by
      rcases f3 with e | e
      · exact ⟨c, List.mem_cons_self, e⟩
      · obtain ⟨d, hd, e⟩ := List.mem_map.mp e
        exact ⟨d, List.mem_cons_of_mem _ hd, e.symm⟩
    obtain ⟨d, hd, ed⟩ := at_
    obtain ⟨Q, hQ, rfl⟩ := cs_fs h s hd
    have o1 := o.ifs h ok
    have ev : wr X (chanceOf (ys n (1 + gs.length) S)) = (low : Rat) + val (pB n gs (X.map fun x => x - low)) S := by
      rw [wr_fs h hX o1]
      have e : dot (X.map fun x => x - low) (ys n (1 + gs.length) S) = S.L n (1 + gs.length + n) := by
        rw [← dot_sm h.n23 hl (ys_len _)]
        refine Eq.trans (sm_congr n fun k hk => ?_) (o.val ok)
        rw [ys_get _ hk]; rfl
      rw [dot_sub h.n23 hX (ys_len _), o.sum h ok] at e
      rw [o.sum h ok]
      show _ = (low : Rat) + Rat.divInt (S.L n (1 + gs.length + n)) S.u
      rw [← e, divInt_shift o.inn.up]
      grind
    rw [ev] at le
    refine ⟨⟨Q, hQ, by rw [ed, wr_fs h hX hQ]⟩, fun R hR => ?_⟩
    exact Rat.le_trans le (q3 R hR)
  · obtain ⟨Q, hQ, _⟩ := cs_fs h s List.mem_cons_self
    exact absurd ⟨Q, hQ⟩ (u.no h hl hb)
theorem IFs.less {gs hs : List (List Int)} {Q : List Int} (h : IFs n (gs ++ hs) Q) : IFs n gs Q := ⟨h.1, h.2.1, h.2.2.1, fun g hg => h.2.2.2 g (List.mem_append_left _ hg)⟩
theorem IsMin.mono {gs hs : List (List Int)} {X : List Int} {v w : Rat} (h : IsMin n gs X v) (h' : IsMin n (gs ++ hs) X w) : v ≤ w := by
  obtain ⟨⟨Q, q1, q2⟩, _⟩ := h'
  rw [q2]
  exact h.2 Q q1.less
end
end MA
end

section
namespace MA
/-! ### sizes -/
def PrB (p : Pr) : Prop := (∀ k j, (p.M k j).natAbs < 2 ^ 22) ∧ ∀ j, (p.c j).natAbs < 2 ^ 22
theorem ab_mul {i j : Int} {a b : Nat} (hi : i.natAbs < 2 ^ a) (hj : j.natAbs < 2 ^ b) : (i * j).natAbs < 2 ^ (a + b) := by
  rw [Int.natAbs_mul, Nat.pow_add]
  exact Nat.mul_lt_mul'' hi hj
theorem ab_add {i j : Int} {a : Nat} (hi : i.natAbs < 2 ^ a) (hj : j.natAbs < 2 ^ a) : (i + j).natAbs < 2 ^ (a + 1) := by
  have := Int.natAbs_add_le i j
  rw [Nat.pow_succ]; omega
theorem ab_sub {i j : Int} {a : Nat} (hi : i.natAbs < 2 ^ a) (hj : j.natAbs < 2 ^ a) : (i - j).natAbs < 2 ^ (a + 1) := by
  have := Int.natAbs_sub_le i j
  rw [Nat.pow_succ]; omega
theorem ab_up {i : Int} {a b : Nat} (h : i.natAbs < 2 ^ a) (l : a ≤ b) : i.natAbs < 2 ^ b := Nat.lt_of_lt_of_le h (Nat.pow_le_pow_right (by decide) l)
theorem ab_neg {i : Int} {a : Nat} (h : i.natAbs < 2 ^ a) : (-i).natAbs < 2 ^ a := by rw [Int.natAbs_neg]; exact h
theorem ab_sm {f : Nat → Int} {a : Nat} : ∀ n, (∀ k, k < n → (f k).natAbs < 2 ^ a) → (sm n f).natAbs < 2 ^ (a + n)
  | 0, _ => by simp [sm, Nat.pow_pos]
  | n + 1, h => by
    show (sm n f + f n).natAbs < 2 ^ (a + n + 1)
    exact ab_add (ab_sm n fun k hk => h k (by omega)) (ab_up (h n (by omega)) (Nat.le_add_right a n))
theorem aj_ab {m : Nat} (h : m = 2 ∨ m = 3) {B : Mat} (hB : ∀ k i, (B k i).natAbs < 2 ^ 22) (i k : Nat) : (aj m B i k).natAbs < 2 ^ 45 := by
  rcases h with rfl | rfl
  · show (if i = k then B (1 - k) (1 - i) else - B (1 - k) (1 - i)).natAbs < _
    split
    · exact ab_up (hB _ _) (by decide)
    · exact ab_up (ab_neg (hB _ _)) (by decide)
  · exact ab_sub (ab_mul (hB _ _) (hB _ _)) (ab_mul (hB _ _) (hB _ _))
theorem dt_ab {m : Nat} (h : m = 2 ∨ m = 3) {B : Mat} (hB : ∀ k i, (B k i).natAbs < 2 ^ 22) : (dt m B).natAbs < 2 ^ 69 := by
  have two : ∀ a b c d : Int, a.natAbs < 2 ^ 22 → b.natAbs < 2 ^ 22 → c.natAbs < 2 ^ 22 → d.natAbs < 2 ^ 22 → (a * b - c * d).natAbs < 2 ^ 45 := fun a b c d h1 h2 h3 h4 => ab_sub (ab_mul h1 h2) (ab_mul h3 h4)
  rcases h with rfl | rfl
  · exact ab_up (two _ _ _ _ (hB _ _) (hB _ _) (hB _ _) (hB _ _)) (by decide)
  · exact ab_add (ab_sub (ab_mul (hB _ _) (two _ _ _ _ (hB _ _) (hB _ _) (hB _ _) (hB _ _))) (ab_mul (hB _ _) (two _ _ _ _ (hB _ _) (hB _ _) (hB _ _) (hB _ _)))) (ab_up (ab_mul (hB _ _) (two _ _ _ _ (hB _ _) (hB _ _) (hB _ _) (hB _ _))) (by decide))
section
variable {p : Pr} {T : Tb}
theorem In.bu (ok : p.Ok) (b : PrB p) (h : In p T) : T.u.natAbs < 2 ^ 69 := by
  rw [h.ud]
  exact dt_ab ok.m23 fun k i => b.1 _ _
theorem In.bl (ok : p.Ok) (b : PrB p) (h : In p T) {i j : Nat} (hi : i ≤ p.m) (hj : j ≤ p.s + p.m) : (T.L i j).natAbs < 2 ^ 97 := by
  have hm : p.m ≤ 3 := by rcases ok.m23 with h | h <;> omega
  have row : ∀ i, i < p.m → (T.L i j).natAbs < 2 ^ 70 := fun i hi => by
    rw [h.ro i hi j hj]
    exact ab_up (ab_sm (a := 67) _ fun k _ => ab_mul (aj_ab ok.m23 (fun k i => b.1 _ _) _ _) (b.1 _ _)) (by omega)
  by_cases e : i < p.m
  · exact ab_up (row i e) (by decide)
  · rw [show i = p.m by omega, h.la j hj]
    exact ab_up (ab_sub (a := 95) (ab_up (ab_sm (a := 92) _ fun k hk => ab_mul (b.2 _) (row k hk)) (by omega)) (ab_up (ab_mul (h.bu ok b) (b.2 _)) (by decide))) (by decide)
instance : Decidable (Ahead p T q i o) := by unfold Ahead; infer_instance
end
end MA
end

section
set_option maxHeartbeats 4000000
/-! The data layer: values as data, owned cells, readings over data. -/
namespace DL
open PySem L2

inductive D where
  | non | bl (b : Bool) | int (i : Int) | str (x : Str) | ty (n : String) | adr (a : Addr) | any
  | tup (xs : List D) | lst (xs : List D) | scr (xs : List D) | obj (c : Cl) (xs : List D) | loc (n : Nat) | txt (n : Nat) | fn (φ : Hp → Addr → Prop)
inductive Cell where
  | lst (xs : List D) | ins (c : Cl) (xs : List D) | dead | ext (ψ : Hp → HO → Addr → Prop)

def Ex (H H' : Hp) : Prop := ∀ a o, H a = some o → H' a = some o
theorem Ex.refl (H : Hp) : Ex H H := fun _ _ h => h
theorem Ex.trans {H H1 H2 : Hp} (a : Ex H H1) (b : Ex H1 H2) : Ex H H2 := fun x o h => b x o (a x o h)
theorem Ex.new {H : Hp} {p : Addr} {o : HO} (h : H p = none) : Ex H (upd H p o) := fun a u e => by
  rw [upd_ne (ne_of_none e h)]; exact e

section
variable (K : PySem.W.Frag) (F : Hp)
mutual
def Is : D → V → Prop
  | .non, v => v = .non
  | .bl b, v => v = .bl b
  | .int i, v => v = .int i
  | .str x, v => v = .str x
  | .ty n, v => v = .ty n
  | .adr a, v => v = .ref a
  | .any, _ => True
  | .tup ds, v => ∃ a vs, v = .ref a ∧ F a = some (.tup vs) ∧ IsL ds vs
  | .lst ds, v => ∃ a vs, v = .ref a ∧ F a = some (.lst vs) ∧ IsL ds vs
  | .scr ds, v => ∃ a vs, v = .ref a ∧ SqL K F a vs ∧ IsL ds vs
  | .obj c ds, v => ∃ a dx vs, v = .ref a ∧ F a = some (.ins c.adr dx (c.keys.zip vs)) ∧ IsL ds vs
  | .loc _, _ => False
  | .txt n, v => ∃ z : Str, v = .str z ∧ z.length ≤ n
  | .fn φ, v => ∃ a F0, v = .ref a ∧ Ex F0 F ∧ φ F0 a
def IsL : List D → List V → Prop
  | [], vs => vs = []
  | d :: ds, vs => ∃ v r, vs = v :: r ∧ Is d v ∧ IsL ds r
end
end

section
variable {K : PySem.W.Frag} {F F' : Hp}
theorem ex_sq (e : Ex F F') {a : Addr} {vs : List V} (h : SqL K F a vs) : SqL K F' a vs := by
  rcases h with (h | ⟨o, h⟩) | h
  · exact .inl (.inl (e _ _ h))
  · exact .inl (.inr ⟨o, e _ _ h⟩)
  · exact .inr h
mutual
theorem Is.mono (e : Ex F F') : ∀ (d : D) (v : V), Is K F d v → Is K F' d v
  | .non, _, h => h
  | .bl _, _, h => h
  | .int _, _, h => h
  | .str _, _, h => h
  | .ty _, _, h => h
  | .adr _, _, h => h
  | .any, _, _ => trivial
  | .tup ds, _, ⟨a, vs, h1, h2, h3⟩ => ⟨a, vs, h1, e _ _ h2, IsL.mono e ds vs h3⟩
  | .lst ds, _, ⟨a, vs, h1, h2, h3⟩ => ⟨a, vs, h1, e _ _ h2, IsL.mono e ds vs h3⟩
  | .scr ds, _, ⟨a, vs, h1, h2, h3⟩ => ⟨a, vs, h1, ex_sq e h2, IsL.mono e ds vs h3⟩
  | .obj _ ds, _, ⟨a, dx, vs, h1, h2, h3⟩ => ⟨a, dx, vs, h1, e _ _ h2, IsL.mono e ds vs h3⟩
  | .loc _, _, h => h.elim
  | .txt _, _, h => h
  | .fn _, _, ⟨a, F0, h1, h2, h3⟩ => ⟨a, F0, h1, h2.trans e, h3⟩
theorem IsL.mono (e : Ex F F') : ∀ (ds : List D) (vs : List V), IsL K F ds vs → IsL K F' ds vs
  | [], _, h => h
  | d :: ds, _, ⟨v, r, h1, h2, h3⟩ => ⟨v, r, h1, Is.mono e d v h2, IsL.mono e ds r h3⟩
end
end

/-- data at the top: a cell's number, or data -/
def IsD (K : PySem.W.Frag) (L : List Addr) (F : Hp) : D → V → Prop
  | .loc n, v => ∃ a, L[n]? = some a ∧ v = .ref a
  | d, v => Is K F d v
def IsDL (K : PySem.W.Frag) (L : List Addr) (F : Hp) : List D → List V → Prop
  | [], vs => vs = []
  | d :: ds, vs => ∃ v r, vs = v :: r ∧ IsD K L F d v ∧ IsDL K L F ds r
def Env (K : PySem.W.Frag) (L : List Addr) (F : Hp) : List (Option D) → St → Prop
  | [], σ => σ = []
  | none :: ds, σ => ∃ o r, σ = o :: r ∧ Env K L F ds r
  | some d :: ds, σ => ∃ v r, σ = some v :: r ∧ IsD K L F d v ∧ Env K L F ds r
def CellIs (K : PySem.W.Frag) (L : List Addr) (F H : Hp) : Cell → Addr → Prop
  | .lst ds, a => ∃ vs, H a = some (.lst vs) ∧ IsDL K L F ds vs
  | .ins c ds, a => ∃ dx vs, H a = some (.ins c.adr dx (c.keys.zip vs)) ∧ IsDL K L F ds vs
  | .dead, _ => True
  | .ext ψ, a => ∃ o F0, H a = some o ∧ Ex F0 F ∧ ψ F0 o a
structure Sto (K : PySem.W.Frag) (L : List Addr) (F H : Hp) (S : List Cell) : Prop where
  ex : Ex F H
  len : L.length = S.length
  nd : L.Nodup
  al : ∀ a ∈ L, H a ≠ none
  cel : ∀ (n : Nat) (c : Cell) (a : Addr), S[n]? = some c → L[n]? = some a → c ≠ .dead → F a = none ∧ CellIs K L F H c a
structure Go (L : List Addr) (F H : Hp) (L' : List Addr) (F' H' : Hp) : Prop where
  pre : ∃ M, L' = L ++ M ∧ ∀ a ∈ M, H a = none
  ff : Ex F F'
  keep : ∀ b o, H b = some o → b ∉ L → H' b = some o
  there : ∀ b, H' b = none → H b = none
  new : ∀ b, F' b ≠ none → F b ≠ none ∨ H b = none ∨ b ∈ L

section
variable {K : PySem.W.Frag} {L L' L2 : List Addr} {F F' F2 H H' H2 : Hp} {S S' : List Cell}
theorem getElem?_pre {α : Type} {L M : List α} {n : Nat} {a : α} (h : L[n]? = some a) : (L ++ M)[n]? = some a := by
  rw [List.getElem?_append_left (List.getElem?_eq_some_iff.mp h).1]; exact h
theorem Go.refl : Go L F H L F H := ⟨⟨[], by simp, by simp⟩, Ex.refl _, fun _ _ h _ => h, fun _ h => h, fun _ h => .inl h⟩
theorem Go.trans (a : Go L F H L' F' H') (b : Go L' F' H' L2 F2 H2) : Go L F H L2 F2 H2 := by
  obtain ⟨M, e1, n1⟩ := a.pre
  obtain ⟨M', e2, n2⟩ := b.pre
  refine ⟨⟨M ++ M', by rw [e2, e1, List.append_assoc], fun c hc => ?_⟩, a.ff.trans b.ff, fun c o h hc => ?_, fun c h => a.there c (b.there c h), fun c h => ?_⟩
  · rcases List.mem_append.mp hc with h | h
    · exact n1 c h
    · exact a.there c (n2 c h)
  · exact b.keep c o (a.keep c o h hc) (by
      rw [e1]; intro z
      rcases List.mem_append.mp z with z | z
      · exact hc z
      · rw [n1 c z] at h; cases h)
  · rcases b.new c h with z | z | z
    · exact a.new c z
    · exact .inr (.inl (a.there c z))
    · rw [e1] at z
      rcases List.mem_append.mp z with z | z
      · exact .inr (.inr z)
      · exact .inr (.inl (n1 c z))
theorem IsD.of {d : D} {v : V} (h : Is K F d v) : IsD K L F d v := by
  cases d with
  | loc n => exact h.elim
  | _ => exact h
theorem IsD.mono (g : Go L F H L' F' H') {d : D} {v : V} (h : IsD K L F d v) : IsD K L' F' d v := by
  cases d with
  | loc n =>
    obtain ⟨a, h1, h2⟩ := h
    obtain ⟨M, e, _⟩ := g.pre
    exact ⟨a, by rw [e]; exact getElem?_pre h1, h2⟩
  | _ => exact IsD.of (Is.mono g.ff _ _ h)
theorem IsDL.mono (g : Go L F H L' F' H') : ∀ {ds : List D} {vs : List V}, IsDL K L F ds vs → IsDL K L' F' ds vs
  | [], _, h => h
  | _ :: _, _, ⟨v, r, h1, h2, h3⟩ => ⟨v, r, h1, h2.mono g, IsDL.mono g h3⟩
theorem Env.mono (g : Go L F H L' F' H') : ∀ {ds : List (Option D)} {σ : St}, Env K L F ds σ → Env K L' F' ds σ
  | [], _, h => h
  | none :: _, _, ⟨o, r, h1, h2⟩ => ⟨o, r, h1, Env.mono g h2⟩
  | some _ :: _, _, ⟨v, r, h1, h2, h3⟩ => ⟨v, r, h1, h2.mono g, Env.mono g h3⟩
theorem Env.get : ∀ {ds : List (Option D)} {σ : St} {i : Nat} {d : D}, Env K L F ds σ → ds[i]? = some (some d) → ∃ v, σ[i]? = some (some v) ∧ IsD K L F d v
  | [], _, _, _, _, e => by simp at e
  | none :: ds, _, 0, _, _, e => by simp at e
  | some _ :: ds, _, 0, d, ⟨v, r, h1, h2, h3⟩, e => by simp at e; subst e; exact ⟨v, by rw [h1]; rfl, h2⟩
  | none :: ds, _, i + 1, d, ⟨o, r, h1, h2⟩, e => by
    obtain ⟨v, q, z⟩ := Env.get (i := i) h2 (by simpa using e)
    exact ⟨v, by rw [h1]; simpa using q, z⟩
  | some _ :: ds, _, i + 1, d, ⟨v, r, h1, _, h2⟩, e => by
    obtain ⟨v, q, z⟩ := Env.get (i := i) h2 (by simpa using e)
    exact ⟨v, by rw [h1]; simpa using q, z⟩
theorem Env.set {d : D} {v : V} (hd : IsD K L F d v) : ∀ {ds : List (Option D)} {σ : St} (i : Nat), Env K L F ds σ → Env K L F (ds.set i (some d)) (σ.set i (some v))
  | [], _, _, h => by rw [show _ = ([] : St) from h]; exact rfl
  | none :: ds, _, 0, ⟨o, r, h1, h2⟩ => by rw [h1]; exact ⟨v, r, rfl, hd, h2⟩
  | some _ :: ds, _, 0, ⟨o, r, h1, _, h2⟩ => by rw [h1]; exact ⟨v, r, rfl, hd, h2⟩
  | none :: ds, _, i + 1, ⟨o, r, h1, h2⟩ => by rw [h1]; exact ⟨o, _, rfl, Env.set hd i h2⟩
  | some _ :: ds, _, i + 1, ⟨w, r, h1, q, h2⟩ => by rw [h1]; exact ⟨w, _, rfl, q, Env.set hd i h2⟩
theorem Env.forget : ∀ {ds : List (Option D)} {σ : St} (i : Nat), Env K L F ds σ → Env K L F (ds.set i none) σ
  | [], _, _, h => h
  | none :: ds, _, 0, ⟨o, r, h1, h2⟩ => ⟨o, r, h1, h2⟩
  | some _ :: ds, _, 0, ⟨o, r, h1, _, h2⟩ => ⟨some o, r, h1, h2⟩
  | none :: ds, _, i + 1, ⟨o, r, h1, h2⟩ => ⟨o, r, h1, Env.forget i h2⟩
  | some _ :: ds, _, i + 1, ⟨w, r, h1, q, h2⟩ => ⟨w, r, h1, q, Env.forget i h2⟩
theorem IsL.length : ∀ {ds : List D} {vs : List V}, IsL K F ds vs → vs.length = ds.length
  | [], _, h => by rw [show _ = ([] : List V) from h]; rfl
  | _ :: _, _, ⟨v, r, h1, _, h3⟩ => by rw [h1]; simp [IsL.length h3]
theorem IsDL.length : ∀ {ds : List D} {vs : List V}, IsDL K L F ds vs → vs.length = ds.length
  | [], _, h => by rw [show _ = ([] : List V) from h]; rfl
  | _ :: _, _, ⟨v, r, h1, _, h3⟩ => by rw [h1]; simp [IsDL.length h3]
theorem IsL.get : ∀ {ds : List D} {vs : List V} {i : Nat} {d : D}, IsL K F ds vs → ds[i]? = some d → ∃ v, vs[i]? = some v ∧ Is K F d v
  | [], _, _, _, _, e => by simp at e
  | _ :: ds, _, 0, d, ⟨v, r, h1, h2, h3⟩, e => by simp at e; subst e; exact ⟨v, by rw [h1]; rfl, h2⟩
  | _ :: ds, _, i + 1, d, ⟨v, r, h1, _, h2⟩, e => by
    obtain ⟨v, q, z⟩ := IsL.get (i := i) h2 (by simpa using e)
    exact ⟨v, by rw [h1]; simpa using q, z⟩
theorem IsDL.get : ∀ {ds : List D} {vs : List V} {i : Nat} {d : D}, IsDL K L F ds vs → ds[i]? = some d → ∃ v, vs[i]? = some v ∧ IsD K L F d v
  | [], _, _, _, _, e => by simp at e
  | _ :: ds, _, 0, d, ⟨v, r, h1, h2, h3⟩, e => by simp at e; subst e; exact ⟨v, by rw [h1]; rfl, h2⟩
  | _ :: ds, _, i + 1, d, ⟨v, r, h1, _, h2⟩, e => by
    obtain ⟨v, q, z⟩ := IsDL.get (i := i) h2 (by simpa using e)
    exact ⟨v, by rw [h1]; simpa using q, z⟩
theorem IsDL.of : ∀ {ds : List D} {vs : List V}, IsL K F ds vs → IsDL K L F ds vs
  | [], _, h => h
  | _ :: _, _, ⟨v, r, h1, h2, h3⟩ => ⟨v, r, h1, IsD.of h2, IsDL.of h3⟩
theorem IsL.append : ∀ {ds es : List D} {vs ws : List V}, IsL K F ds vs → IsL K F es ws → IsL K F (ds ++ es) (vs ++ ws)
  | [], _, _, _, h, h' => by rw [show _ = ([] : List V) from h]; exact h'
  | _ :: _, _, _, _, ⟨v, r, h1, h2, h3⟩, h' => by rw [h1]; exact ⟨v, _, rfl, h2, IsL.append h3 h'⟩
theorem IsDL.append : ∀ {ds es : List D} {vs ws : List V}, IsDL K L F ds vs → IsDL K L F es ws → IsDL K L F (ds ++ es) (vs ++ ws)
  | [], _, _, _, h, h' => by rw [show _ = ([] : List V) from h]; exact h'
  | _ :: _, _, _, _, ⟨v, r, h1, h2, h3⟩, h' => by rw [h1]; exact ⟨v, _, rfl, h2, IsDL.append h3 h'⟩
theorem IsDL.set {d : D} {v : V} (hd : IsD K L F d v) : ∀ {ds : List D} {vs : List V} (i : Nat), IsDL K L F ds vs → IsDL K L F (ds.set i d) (vs.set i v)
  | [], _, _, h => by rw [show _ = ([] : List V) from h]; exact rfl
  | _ :: ds, _, 0, ⟨o, r, h1, _, h2⟩ => by rw [h1]; exact ⟨v, r, rfl, hd, h2⟩
  | _ :: ds, _, i + 1, ⟨w, r, h1, q, h2⟩ => by rw [h1]; exact ⟨w, _, rfl, q, IsDL.set hd i h2⟩
theorem IsL.drop : ∀ {ds : List D} {vs : List V} (n : Nat), IsL K F ds vs → IsL K F (ds.drop n) (vs.drop n)
  | _, _, 0, h => h
  | [], _, n + 1, h => by rw [show _ = ([] : List V) from h]; exact rfl
  | _ :: ds, _, n + 1, ⟨v, r, h1, _, h3⟩ => by rw [h1]; exact IsL.drop n h3
theorem IsL.take : ∀ {ds : List D} {vs : List V} (n : Nat), IsL K F ds vs → IsL K F (ds.take n) (vs.take n)
  | _, _, 0, _ => rfl
  | [], _, n + 1, h => by rw [show _ = ([] : List V) from h]; exact rfl
  | _ :: ds, _, n + 1, ⟨v, r, h1, h2, h3⟩ => by rw [h1]; exact ⟨v, _, rfl, h2, IsL.take n h3⟩
/-- no cell's number among data -/
def noLoc : List D → Bool
  | [] => true
  | .loc _ :: _ => false
  | _ :: r => noLoc r
theorem IsD.un {d : D} {v : V} (h : IsD K L F d v) (n : noLoc [d] = true) : Is K F d v := by
  cases d with
  | loc n => exact absurd (show false = true from n) Bool.false_ne_true
  | _ => exact h
theorem IsDL.un : ∀ {ds : List D} {vs : List V}, IsDL K L F ds vs → noLoc ds = true → IsL K F ds vs
  | [], _, h, _ => h
  | d :: ds, _, ⟨v, r, h1, h2, h3⟩, n => by
    cases d with
    | loc n => exact absurd (show false = true from n) Bool.false_ne_true
    | _ => exact ⟨v, r, h1, h2, IsDL.un h3 n⟩
theorem noLoc_append : ∀ {a b : List D}, noLoc a = true → noLoc b = true → noLoc (a ++ b) = true
  | [], _, _, h => h
  | d :: a, b, h, h' => by
    cases d with
    | loc n => exact absurd (show false = true from h) Bool.false_ne_true
    | _ => exact noLoc_append (a := a) h h'
theorem noLoc_map {α : Type} (f : α → D) (h : ∀ x, noLoc [f x] = true) : ∀ xs : List α, noLoc (xs.map f) = true
  | [] => rfl
  | x :: xs => noLoc_append (a := [f x]) (h x) (noLoc_map f h xs)
/-- data of the frozen part hold no number -/
theorem IsL.noLoc : ∀ {ds : List D} {vs : List V}, IsL K F ds vs → DL.noLoc ds = true
  | [], _, _ => rfl
  | d :: ds, _, ⟨v, r, h1, h2, h3⟩ => by
    cases d with
    | loc n => exact h2.elim
    | _ => exact (show DL.noLoc ds = true from IsL.noLoc h3)
/-! ### states -/
/-- an extension by frozen new things -/
theorem Go.new_ (s : Sto K L F H S) {p : Addr} {o : HO} (h : H p = none) : Go L F H L (upd F p o) (upd H p o) :=
  ⟨⟨[], by simp, by simp⟩, Ex.new (by
    cases q : F p with
    | none => rfl
    | some u => rw [s.ex p u q] at h; cases h), fun b u e _ => Ex.new h b u e, fun b e => by
    by_cases z : b = p
    · subst z; exact h
    · rw [upd_ne z] at e; exact e, fun b e => by
    by_cases z : b = p
    · subst z; exact .inr (.inl h)
    · rw [upd_ne z] at e; exact .inl e⟩
theorem Sto.fnone (s : Sto K L F H S) {p : Addr} (h : H p = none) : F p = none := by
  cases q : F p with
  | none => rfl
  | some u => rw [s.ex p u q] at h; cases h
theorem CellIs.keep (g : Go L F H L' F' H') {c : Cell} {a : Addr} (hc : CellIs K L F H c a) (e : H' a = H a) : CellIs K L' F' H' c a := by
  cases c with
  | lst ds => obtain ⟨vs, h1, h2⟩ := hc; exact ⟨vs, e.trans h1, h2.mono g⟩
  | ins c ds => obtain ⟨dx, vs, h1, h2⟩ := hc; exact ⟨dx, vs, e.trans h1, h2.mono g⟩
  | dead => trivial
  | ext ψ => obtain ⟨o, F0, h1, h2, h3⟩ := hc; exact ⟨o, F0, e.trans h1, h2.trans g.ff, h3⟩
theorem CellIs.there {c : Cell} {a : Addr} (hc : CellIs K L F H c a) (h : c ≠ .dead) : H a ≠ none := by
  cases c with
  | lst ds => obtain ⟨vs, h1, _⟩ := hc; rw [h1]; exact fun z => by cases z
  | ins c ds => obtain ⟨dx, vs, h1, _⟩ := hc; rw [h1]; exact fun z => by cases z
  | dead => exact absurd rfl h
  | ext ψ => obtain ⟨o, F0, h1, h2, h3⟩ := hc; rw [h1]; exact fun z => by cases z
theorem Sto.new_ (s : Sto K L F H S) {p : Addr} {o : HO} (h : H p = none) : Sto K L (upd F p o) (upd H p o) S := by
  have g := Go.new_ s (o := o) h
  refine ⟨fun b u e => ?_, s.len, s.nd, fun a ha z => s.al a ha (g.there a z), fun n c a h1 h2 h3 => ?_⟩
  · by_cases z : b = p
    · subst z; rw [upd_same] at e ⊢; exact e
    · rw [upd_ne z] at e ⊢; exact s.ex b u e
  · obtain ⟨q1, q2⟩ := s.cel n c a h1 h2 h3
    have ne : a ≠ p := fun z => by subst z; exact q2.there h3 h
    exact ⟨by rw [upd_ne ne]; exact q1, q2.keep g (upd_ne ne)⟩
end
end DL
end

section
set_option maxHeartbeats 4000000
namespace DL
open PySem L2

abbrev XP := Addr → List Cell → Prop
abbrev QP := D → List Cell → Prop
abbrev RE := List (Option D) → List Cell → QP → XP → Prop
abbrev RA := List (Option D) → List Cell → (List D → List Cell → Prop) → XP → Prop
abbrev RT := List (Option D) → List Cell → (Bool → List Cell → Prop) → XP → Prop
structure Out where
  nx : List (Option D) → List Cell → Prop
  rt : QP
  bk : List (Option D) → List Cell → Prop
  ct : List (Option D) → List Cell → Prop
  xc : Addr → List (Option D) → List Cell → Prop
abbrev RS := Out → List (Option D) → List Cell → Prop

/-- what is wanted of data, as what is wanted of values -/
def QE (K : PySem.W.Frag) (L : List Addr) (F H : Hp) (q : QP) (Q : VK) : Prop := ∀ d S', q d S' → ∀ v L' F' H', Go L F H L' F' H' → IsD K L' F' d v → Sto K L' F' H' S' → Q v H'
def QX (K : PySem.W.Frag) (W : WX) (L : List Addr) (F H : Hp) (σ : St) (x : XP) : Prop := ∀ C S', x C S' → ∀ d L' F' H', Go L F H L' F' H' → Sto K L' F' H' S' → W (.ref C) d σ H'
def QA (K : PySem.W.Frag) (L : List Addr) (F H : Hp) (q : List D → List Cell → Prop) (Q : List V → Hp → Prop) : Prop := ∀ d S', q d S' → ∀ v L' F' H', Go L F H L' F' H' → IsDL K L' F' d v → Sto K L' F' H' S' → Q v H'
def QT (K : PySem.W.Frag) (L : List Addr) (F H : Hp) (q : Bool → List Cell → Prop) (Q : Bool → Hp → Prop) : Prop := ∀ b S', q b S' → ∀ L' F' H', Go L F H L' F' H' → Sto K L' F' H' S' → Q b H'
def QS (K : PySem.W.Frag) (L : List Addr) (F H : Hp) (q : List (Option D) → List Cell → Prop) (Q : St → Hp → Prop) : Prop := ∀ ds S', q ds S' → ∀ σ L' F' H', Go L F H L' F' H' → Env K L' F' ds σ → Sto K L' F' H' S' → Q σ H'
def QXS (K : PySem.W.Frag) (W : WX) (L : List Addr) (F H : Hp) (x : Addr → List (Option D) → List Cell → Prop) : Prop := ∀ C ds S', x C ds S' → ∀ σ d L' F' H', Go L F H L' F' H' → Env K L' F' ds σ → Sto K L' F' H' S' → W (.ref C) d σ H'
section
variable {K : PySem.W.Frag} {W : WX} {L L1 : List Addr} {F H F1 H1 : Hp} {σ : St}
theorem QE.on {q : QP} {Q : VK} (h : QE K L F H q Q) (g : Go L F H L1 F1 H1) : QE K L1 F1 H1 q Q := fun d S' a v L' F' H' g' => h d S' a v L' F' H' (g.trans g')
theorem QX.on {x : XP} (h : QX K W L F H σ x) (g : Go L F H L1 F1 H1) : QX K W L1 F1 H1 σ x := fun C S' a d L' F' H' g' => h C S' a d L' F' H' (g.trans g')
theorem QA.on {q : List D → List Cell → Prop} {Q : List V → Hp → Prop} (h : QA K L F H q Q) (g : Go L F H L1 F1 H1) : QA K L1 F1 H1 q Q := fun d S' a v L' F' H' g' => h d S' a v L' F' H' (g.trans g')
theorem QT.on {q : Bool → List Cell → Prop} {Q : Bool → Hp → Prop} (h : QT K L F H q Q) (g : Go L F H L1 F1 H1) : QT K L1 F1 H1 q Q := fun d S' a L' F' H' g' => h d S' a L' F' H' (g.trans g')
theorem QS.on {q : List (Option D) → List Cell → Prop} {Q : St → Hp → Prop} (h : QS K L F H q Q) (g : Go L F H L1 F1 H1) : QS K L1 F1 H1 q Q := fun ds S' a σ L' F' H' g' => h ds S' a σ L' F' H' (g.trans g')
theorem QXS.on {x : Addr → List (Option D) → List Cell → Prop} (h : QXS K W L F H x) (g : Go L F H L1 F1 H1) : QXS K W L1 F1 H1 x := fun C ds S' a σ d L' F' H' g' => h C ds S' a σ d L' F' H' (g.trans g')
end

def upE (K : PySem.W.Frag) (W : WX) (r : RE) : TE := fun σ H Q => ∃ L F S ds q x, Env K L F ds σ ∧ Sto K L F H S ∧ r ds S q x ∧ QE K L F H q Q ∧ QX K W L F H σ x
def upA (K : PySem.W.Frag) (W : WX) (r : RA) : TA := fun σ H Q => ∃ L F S ds q x, Env K L F ds σ ∧ Sto K L F H S ∧ r ds S q x ∧ QA K L F H q Q ∧ QX K W L F H σ x
def upT (K : PySem.W.Frag) (W : WX) (r : RT) : TT := fun σ H Q => ∃ L F S ds q x, Env K L F ds σ ∧ Sto K L F H S ∧ r ds S q x ∧ QT K L F H q Q ∧ QX K W L F H σ x
def upS (K : PySem.W.Frag) (W : WX) (r : RS) : TS := fun D σ H => ∃ L F S ds o, Env K L F ds σ ∧ Sto K L F H S ∧ r o ds S ∧ QS K L F H o.nx D.nx ∧ QE K L F H o.rt D.rt ∧ QS K L F H o.bk D.bk ∧ QS K L F H o.ct D.ct ∧ QXS K W L F H o.xc
def JE (X : Cx) (W : WX) (e : Expr) (r : RE) : Prop := PE X e (upE X.K W r)
def JA (X : Cx) (W : WX) (es : List Expr) (r : RA) : Prop := PA X es (upA X.K W r)
def JT (X : Cx) (W : WX) (e : Expr) (r : RT) : Prop := PT X e (upT X.K W r)
def JW (X : Cx) (W : WX) (e : Expr) (r : RT) : Prop := PW X e (upT X.K W r)
def JS (X : Cx) (W : WX) (st : Stmt) (r : RS) : Prop := PS X st (upS X.K W r)
def JB (X : Cx) (W : WX) (sts : List Stmt) (r : RS) : Prop := PSs X sts (upS X.K W r)

section
variable {X : Cx} {W : WX}
theorem pe_weak {e : Expr} {t t' : TE} (h : PE X e t) (w : ∀ σ H Q, t' σ H Q → t σ H Q) : PE X e t' := ⟨fun pins s σ H Q I z => h.run pins s σ H Q I (w σ H Q z)⟩
theorem pa_weak {e : List Expr} {t t' : TA} (h : PA X e t) (w : ∀ σ H Q, t' σ H Q → t σ H Q) : PA X e t' := ⟨fun pos pins s σ H Q I z => h.run pos pins s σ H Q I (w σ H Q z)⟩
theorem pt_weak {e : Expr} {t t' : TT} (h : PT X e t) (w : ∀ σ H Q, t' σ H Q → t σ H Q) : PT X e t' := ⟨fun pins s σ H Q I z => h.run pins s σ H Q I (w σ H Q z)⟩
theorem pw_weak {e : Expr} {t t' : TT} (h : PW X e t) (w : ∀ σ H Q, t' σ H Q → t σ H Q) : PW X e t' := ⟨fun wh pins s σ H Q I z => h.run wh pins s σ H Q I (w σ H Q z)⟩
theorem ps_weak {e : Stmt} {t t' : TS} (h : PS X e t) (w : ∀ D σ H, t' D σ H → t D σ H) : PS X e t' := ⟨fun pins s σ H D I z => h.run pins s σ H D I (w D σ H z)⟩
theorem pb_weak {e : List Stmt} {t t' : TS} (h : PSs X e t) (w : ∀ D σ H, t' D σ H → t D σ H) : PSs X e t' := ⟨fun pins s σ H D I z => h.run pins s σ H D I (w D σ H z)⟩

/-! ### chaining: what stands behind an expression is another reading -/
theorem upE.bind {K : PySem.W.Frag} {r : RE} {σ : St} {H : Hp} {Q : VK} {L : List Addr} {F : Hp} {S : List Cell} {ds : List (Option D)} {q : QP} {x : XP}
    (env : Env K L F ds σ) (sto : Sto K L F H S) (h : r ds S q x) (hx : QX K W L F H σ x)
    (k : ∀ d S' v L' F' H', q d S' → Go L F H L' F' H' → Env K L' F' ds σ → IsD K L' F' d v → Sto K L' F' H' S' → Q v H') : upE K W r σ H Q :=
  ⟨L, F, S, ds, q, x, env, sto, h, fun d S' hq v L' F' H' g i s => k d S' v L' F' H' hq g (env.mono g) i s, hx⟩
theorem upT.bind {K : PySem.W.Frag} {r : RT} {σ : St} {H : Hp} {Q : Bool → Hp → Prop} {L : List Addr} {F : Hp} {S : List Cell} {ds : List (Option D)} {q : Bool → List Cell → Prop} {x : XP}
    (env : Env K L F ds σ) (sto : Sto K L F H S) (h : r ds S q x) (hx : QX K W L F H σ x)
    (k : ∀ d S' L' F' H', q d S' → Go L F H L' F' H' → Env K L' F' ds σ → Sto K L' F' H' S' → Q d H') : upT K W r σ H Q :=
  ⟨L, F, S, ds, q, x, env, sto, h, fun d S' hq L' F' H' g s => k d S' L' F' H' hq g (env.mono g) s, hx⟩
theorem upA.bind {K : PySem.W.Frag} {r : RA} {σ : St} {H : Hp} {Q : List V → Hp → Prop} {L : List Addr} {F : Hp} {S : List Cell} {ds : List (Option D)} {q : List D → List Cell → Prop} {x : XP}
    (env : Env K L F ds σ) (sto : Sto K L F H S) (h : r ds S q x) (hx : QX K W L F H σ x)
    (k : ∀ d S' v L' F' H', q d S' → Go L F H L' F' H' → Env K L' F' ds σ → IsDL K L' F' d v → Sto K L' F' H' S' → Q v H') : upA K W r σ H Q :=
  ⟨L, F, S, ds, q, x, env, sto, h, fun d S' hq v L' F' H' g i s => k d S' v L' F' H' hq g (env.mono g) i s, hx⟩

/-! ### names and constants -/
def rVar (i : Nat) : RE := fun ds S q _ => match ds[i]? with
  | some (some d) => q d S
  | _ => False
theorem je_var {i : Nat} {x : Str} {pos : Pos} (h : PE X (.Name x pos) (tVar i)) : JE X W (.Name x pos) (rVar i) :=
  pe_weak h fun σ H Q ⟨L, F, S, ds, q, x, env, sto, h, hq, hx⟩ => by
    unfold rVar at h
    split at h
    · rename_i d e
      obtain ⟨v, e1, e2⟩ := env.get e
      exact ⟨v, e1, hq d S h v L F H Go.refl e2 sto⟩
    · exact h.elim
def rC (d : D) : RE := fun _ S q _ => q d S
theorem je_c {e : Expr} {v : V} {d : D} (h : PE X e (tC v)) (i : ∀ F, Is X.K F d v) : JE X W e (rC d) :=
  pe_weak h fun σ H Q ⟨L, F, S, ds, q, x, env, sto, h, hq, hx⟩ => hq d S h v L F H Go.refl (.of (i F)) sto
theorem je_int {i j pos} : JE X W (.Constant (.int i) j pos) (rC (.int i)) := je_c pe_int fun _ => rfl
theorem je_bl {i j pos} : JE X W (.Constant (.bool i) j pos) (rC (.bl i)) := je_c pe_bl fun _ => rfl
theorem je_non {j pos} : JE X W (.Constant .none j pos) (rC .non) := je_c pe_non fun _ => rfl
theorem je_str {i j pos} : JE X W (.Constant (.str i) j pos) (rC (.str i)) := je_c pe_str fun _ => rfl

/-! ### operators over data -/
abbrev OD := D → D → List Cell → QP → Prop
def upO (K : PySem.W.Frag) (od : OD) : R2 := fun x y H Q => ∃ L F S d e q, IsD K L F d x ∧ IsD K L F e y ∧ Sto K L F H S ∧ od d e S q ∧ QE K L F H q Q
def rOp (od : OD) (ra rb : RE) : RE := fun ds S q x => ra ds S (fun d S1 => rb ds S1 (fun e S2 => od d e S2 q) x) x
theorem rOp_up {K : PySem.W.Frag} {od : OD} {ra rb : RE} (σ : St) (H : Hp) (Q : VK) : upE K W (rOp od ra rb) σ H Q → tOp (upO K od) (upE K W ra) (upE K W rb) σ H Q :=
  fun ⟨L, F, S, ds, q, x, env, sto, h, hq, hx⟩ => upE.bind env sto h hx fun d S1 v L1 F1 H1 h1 g1 env1 i1 s1 =>
    upE.bind env1 s1 h1 (hx.on g1) fun e S2 w L2 F2 H2 h2 g2 env2 i2 s2 => ⟨L2, F2, S2, d, e, q, i1.mono g2, i2, s2, h2, hq.on (g1.trans g2)⟩
variable {a b c : Expr} {ra rb rc : RE} {pos : Pos}
theorem je_op {op : Operator} {od : OD} (ho : OpR X (binaryOp op) (upO X.K od)) (ha : JE X W a ra) (hb : JE X W b rb) : JE X W (.BinOp a op b pos) (rOp od ra rb) :=
  pe_weak (pe_op ho ha hb) rOp_up
theorem je_cmp {op : CmpOp} {od : OD} (ho : OpR X (compareOp op) (upO X.K od)) (ha : JE X W a ra) (hb : JE X W b rb) (hm : behindInMarks op b = false) : JE X W (.Compare a [op] [b] pos) (rOp od ra rb) :=
  pe_weak (pe_cmpR ho ha hb hm) rOp_up
/-- a value's answer as a test's -/
def rTest (r : RE) : RT := fun ds S q x => r ds S (fun d S' => match d with
  | .bl k => q k S'
  | _ => False) x
theorem rTest_up {K : PySem.W.Frag} {r : RE} {t : TE} (w : ∀ σ H Q, upE K W r σ H Q → t σ H Q) (σ : St) (H : Hp) (Q : Bool → Hp → Prop) : upT K W (rTest r) σ H Q → t σ H fun x H' => ∃ k, x = .bl k ∧ Q k H' :=
  fun ⟨L, F, S, ds, q, x, env, sto, h, hq, hx⟩ => w _ _ _ (upE.bind env sto h hx fun d S1 v L1 F1 H1 h1 g1 env1 i1 s1 => by
    cases d with
    | bl k => exact ⟨k, i1, hq k S1 h1 L1 F1 H1 g1 s1⟩
    | _ => exact h1.elim)
theorem jt_cmp {op : CmpOp} {od : OD} (ho : OpR X (compareOp op) (upO X.K od)) (ha : JE X W a ra) (hb : JE X W b rb) (hm : behindInMarks op b = false) : JT X W (.Compare a [op] [b] pos) (rTest (rOp od ra rb)) :=
  pt_weak (pt_cmpR ho ha hb hm) (rTest_up rOp_up)
/-- a call's or a name's answer, as a test -/
theorem jt_val {e : Expr} {r : RE} (h : JE X W e r) (he : ∀ whole, isTrue e X.env whole = (do let v ← whole; standAt e.pos; holding [v] (truthy v)) := by intro _; rfl) : JT X W e (rTest r) :=
  pt_weak (pt_val h he) (rTest_up fun _ _ _ z => z)
def rUn (od : D → List Cell → QP → Prop) (ra : RE) : RE := fun ds S q x => ra ds S (fun d S1 => od d S1 q) x
def upU (K : PySem.W.Frag) (od : D → List Cell → QP → Prop) : V → Hp → VK → Prop := fun x H Q => ∃ L F S d q, IsD K L F d x ∧ Sto K L F H S ∧ od d S q ∧ QE K L F H q Q
theorem je_un {op : UnaryOp} {od : D → List Cell → QP → Prop} (ho : UnR X (unaryOp op) (upU X.K od)) (ha : JE X W a ra) : JE X W (.UnaryOp op a pos) (rUn od ra) :=
  pe_weak (pe_un ho ha) fun σ H Q ⟨L, F, S, ds, q, x, env, sto, h, hq, hx⟩ => upE.bind env sto h hx fun d S1 v L1 F1 H1 h1 g1 env1 i1 s1 => ⟨L1, F1, S1, d, q, i1, s1, h1, hq.on g1⟩

/-! ### and, or, not, if .. else -/
variable {tA tB : RT} {rest : List Expr}
def rAnd (t u : RT) : RT := fun ds S q x => t ds S (fun k S1 => match k with
  | true => u ds S1 q x
  | false => q false S1) x
def rOr (t u : RT) : RT := fun ds S q x => t ds S (fun k S1 => match k with
  | true => q true S1
  | false => u ds S1 q x) x
def rNot (t : RT) : RT := fun ds S q x => t ds S (fun k S1 => q (!k) S1) x
theorem jw_and1 (ha : JT X W a tA) : JW X W (.BoolOp .And [a] pos) tA := pw_and1 ha
theorem jw_or1 (ha : JT X W a tA) : JW X W (.BoolOp .Or [a] pos) tA := pw_or1 ha
theorem jw_and (ha : JT X W a tA) (hb : JW X W (.BoolOp .And (b :: rest) pos) tB) : JW X W (.BoolOp .And (a :: b :: rest) pos) (rAnd tA tB) :=
  pw_weak (pw_and ha hb) fun σ H Q ⟨L, F, S, ds, q, x, env, sto, h, hq, hx⟩ => upT.bind env sto h hx fun d S1 L1 F1 H1 h1 g1 env1 s1 => by
    cases d with
    | true => exact iteT ⟨L1, F1, S1, ds, q, x, env1, s1, h1, hq.on g1, hx.on g1⟩
    | false => exact iteF (hq false S1 h1 L1 F1 H1 g1 s1)
theorem jw_or (ha : JT X W a tA) (hb : JW X W (.BoolOp .Or (b :: rest) pos) tB) : JW X W (.BoolOp .Or (a :: b :: rest) pos) (rOr tA tB) :=
  pw_weak (pw_or ha hb) fun σ H Q ⟨L, F, S, ds, q, x, env, sto, h, hq, hx⟩ => upT.bind env sto h hx fun d S1 L1 F1 H1 h1 g1 env1 s1 => by
    cases d with
    | true => exact iteT (hq true S1 h1 L1 F1 H1 g1 s1)
    | false => exact iteF ⟨L1, F1, S1, ds, q, x, env1, s1, h1, hq.on g1, hx.on g1⟩
theorem jt_w (h : JW X W a tA) : JT X W a tA := PW.pt h
theorem jt_not (h : JT X W a tA) : JT X W (.UnaryOp .Not a pos) (rNot tA) :=
  pt_weak (pt_not h) fun σ H Q ⟨L, F, S, ds, q, x, env, sto, h, hq, hx⟩ => upT.bind env sto h hx fun d S1 L1 F1 H1 h1 g1 env1 s1 => hq _ S1 h1 L1 F1 H1 g1 s1
def rIf (t : RT) (ra rb : RE) : RE := fun ds S q x => t ds S (fun k S1 => match k with
  | true => ra ds S1 q x
  | false => rb ds S1 q x) x
theorem je_if (ht : JT X W c tA) (ha : JE X W a ra) (hb : JE X W b rb) : JE X W (.IfExp c a b pos) (rIf tA ra rb) :=
  pe_weak (pe_ifExp ht ha hb) fun σ H Q ⟨L, F, S, ds, q, x, env, sto, h, hq, hx⟩ => upT.bind env sto h hx fun d S1 L1 F1 H1 h1 g1 env1 s1 => by
    cases d with
    | true => exact iteT ⟨L1, F1, S1, ds, q, x, env1, s1, h1, hq.on g1, hx.on g1⟩
    | false => exact iteF ⟨L1, F1, S1, ds, q, x, env1, s1, h1, hq.on g1, hx.on g1⟩
/-- and, or, not as values of truth -/
def rAndV (ra rb : RE) : RE := fun ds S q x => ra ds S (fun d S1 => match d with
  | .bl k => (match k with
    | true => rb ds S1 q x
    | false => q (.bl false) S1)
  | _ => False) x
def rOrV (ra rb : RE) : RE := fun ds S q x => ra ds S (fun d S1 => match d with
  | .bl k => (match k with
    | true => q (.bl true) S1
    | false => rb ds S1 q x)
  | _ => False) x
def rNotV (ra : RE) : RE := fun ds S q x => ra ds S (fun d S1 => match d with
  | .bl k => q (.bl (!k)) S1
  | _ => False) x
end
end DL
end

section
set_option maxHeartbeats 4000000
namespace DL
open PySem L2
section
variable {X : Cx} {W : WX} {a b c : Expr} {ra rb rc : RE} {pos : Pos} {rest : List Expr}
theorem je_one {op} (h : JE X W a ra) : JE X W (.BoolOp op [a] pos) ra := pe_one h
theorem je_and (ha : JE X W a ra) (hb : JE X W (.BoolOp .And (b :: rest) pos) rb) : JE X W (.BoolOp .And (a :: b :: rest) pos) (rAndV ra rb) :=
  pe_weak (pe_and ha hb) fun σ H Q ⟨L, F, S, ds, q, x, env, sto, h, hq, hx⟩ => upE.bind env sto h hx fun d S1 v L1 F1 H1 h1 g1 env1 i1 s1 => by
    cases d with
    | bl k =>
      cases k with
      | true => exact ⟨true, i1, iteT ⟨L1, F1, S1, ds, q, x, env1, s1, h1, hq.on g1, hx.on g1⟩⟩
      | false => exact ⟨false, i1, iteF (hq _ S1 h1 _ L1 F1 H1 g1 rfl s1)⟩
    | _ => exact h1.elim
theorem je_or (ha : JE X W a ra) (hb : JE X W (.BoolOp .Or (b :: rest) pos) rb) : JE X W (.BoolOp .Or (a :: b :: rest) pos) (rOrV ra rb) :=
  pe_weak (pe_or ha hb) fun σ H Q ⟨L, F, S, ds, q, x, env, sto, h, hq, hx⟩ => upE.bind env sto h hx fun d S1 v L1 F1 H1 h1 g1 env1 i1 s1 => by
    cases d with
    | bl k =>
      cases k with
      | true => exact ⟨true, i1, iteT (hq _ S1 h1 _ L1 F1 H1 g1 rfl s1)⟩
      | false => exact ⟨false, i1, iteF ⟨L1, F1, S1, ds, q, x, env1, s1, h1, hq.on g1, hx.on g1⟩⟩
    | _ => exact h1.elim
theorem je_not (ha : JE X W a ra) : JE X W (.UnaryOp .Not a pos) (rNotV ra) :=
  pe_weak (pe_not ha) fun σ H Q ⟨L, F, S, ds, q, x, env, sto, h, hq, hx⟩ => upE.bind env sto h hx fun d S1 v L1 F1 H1 h1 g1 env1 i1 s1 => by
    cases d with
    | bl k => exact ⟨k, i1, hq _ S1 h1 _ L1 F1 H1 g1 rfl s1⟩
    | _ => exact h1.elim
/-- a < b < c -/
def rChain (od od' : OD) (ra rb rc : RE) : RE := fun ds S q x => ra ds S (fun d S1 => rb ds S1 (fun e S2 => od d e S2 fun z S3 => match z with
  | .bl k => (match k with
    | true => rc ds S3 (fun f S4 => od' e f S4 q) x
    | false => q (.bl false) S3)
  | _ => False) x) x
/-! ### argument lists, displays -/
def rNil : RA := fun _ S q _ => q [] S
def rCons (ra : RE) (rr : RA) : RA := fun ds S q x => ra ds S (fun d S1 => rr ds S1 (fun es S2 => q (d :: es) S2) x) x
def rStar (ra : RE) (rr : RA) : RA := fun ds S q x => ra ds S (fun d S1 => match d with
  | .lst xs => rr ds S1 (fun es S2 => q (xs ++ es) S2) x
  | .tup xs => rr ds S1 (fun es S2 => q (xs ++ es) S2) x
  | _ => False) x
variable {es : List Expr} {rr : RA}
theorem ja_nil : JA X W [] rNil := pa_weak pa_nil fun σ H Q ⟨L, F, S, ds, q, x, env, sto, h, hq, hx⟩ => hq [] S h [] L F H Go.refl rfl sto
theorem ja_cons (ha : JE X W a ra) (hr : JA X W es rr) (hs : starEach (a :: es) X.env = (false, eval a X.env) :: starEach es X.env := by rfl) : JA X W (a :: es) (rCons ra rr) :=
  pa_weak (pa_cons ha hr hs) fun σ H Q ⟨L, F, S, ds, q, x, env, sto, h, hq, hx⟩ => upE.bind env sto h hx fun d S1 v L1 F1 H1 h1 g1 env1 i1 s1 =>
    upA.bind env1 s1 h1 (hx.on g1) fun ed S2 vs L2 F2 H2 h2 g2 env2 i2 s2 => hq _ S2 h2 _ L2 F2 H2 (g1.trans g2) ⟨v, vs, rfl, i1.mono g2, i2⟩ s2
theorem ja_star {p : Pos} (ha : JE X W a ra) (hr : JA X W es rr) (hs : starEach (.Starred a p :: es) X.env = (true, eval a X.env) :: starEach es X.env := by rfl) : JA X W (.Starred a p :: es) (rStar ra rr) :=
  pa_weak (StX.pa_star ha hr hs) fun σ H Q ⟨L, F, S, ds, q, x, env, sto, h, hq, hx⟩ => upE.bind env sto h hx fun d S1 v L1 F1 H1 h1 g1 env1 i1 s1 => by
    cases d with
    | lst xs =>
      obtain ⟨p, vs, e1, e2, e3⟩ := i1
      refine ⟨p, vs, e1, .inr (.of (s1.ex _ _ e2)), ?_⟩
      exact upA.bind env1 s1 h1 (hx.on g1) fun ed S2 ws L2 F2 H2 h2 g2 env2 i2 s2 => hq _ S2 h2 _ L2 F2 H2 (g1.trans g2) ((IsDL.of e3).mono g2 |>.append i2) s2
    | tup xs =>
      obtain ⟨p, vs, e1, e2, e3⟩ := i1
      refine ⟨p, vs, e1, .inl (.of (s1.ex _ _ e2)), ?_⟩
      exact upA.bind env1 s1 h1 (hx.on g1) fun ed S2 ws L2 F2 H2 h2 g2 env2 i2 s2 => hq _ S2 h2 _ L2 F2 H2 (g1.trans g2) ((IsDL.of e3).mono g2 |>.append i2) s2
    | _ => exact h1.elim
theorem sz5 {n : Nat} (h : n ≤ 100000) : n ≤ sizeLine := Nat.le_trans h (by decide)
theorem sz5' {n : Nat} (h : n < 100000) : n < sizeLine := Nat.lt_of_lt_of_le h (by decide)
/-- a written tuple, a written list that nobody changes; the short way: its items are told one by one -/
def rTup (r : RA) : RE := fun ds S q x => r ds S (fun es S1 => match noLoc es && Nat.ble es.length 100000 with
  | true => q (.tup es) S1
  | false => False) x
def rLst (r : RA) : RE := fun ds S q x => r ds S (fun es S1 => match noLoc es && Nat.ble es.length 100000 with
  | true => q (.lst es) S1
  | false => False) x
/-- .. with parts whose length is open -/
def rTupL (r : RA) : RE := fun ds S q x => r ds S (fun es S1 => noLoc es = true ∧ es.length ≤ 100000 ∧ q (.tup es) S1) x
def rLstL (r : RA) : RE := fun ds S q x => r ds S (fun es S1 => noLoc es = true ∧ es.length ≤ 100000 ∧ q (.lst es) S1) x
/-- a new list of one's own -/
def rLstO (r : RA) : RE := fun ds S q x => r ds S (fun es S1 => match Nat.ble es.length 100000 with
  | true => q (.loc S1.length) (S1 ++ [.lst es])
  | false => False) x
theorem upTup {K : PySem.W.Frag} {L : List Addr} {F H : Hp} {S : List Cell} {es : List D} {vs : List V} {q : QP} {Q : VK} (n : noLoc es = true) (z : es.length ≤ 100000) (h : q (.tup es) S) (i : IsDL K L F es vs) (s : Sto K L F H S) (hq : QE K L F H q Q) :
    vs.length ≤ sizeLine ∧ ∀ p, H p = none → Q (.ref p) (upd H p (.tup vs)) :=
  ⟨by rw [i.length]; exact sz5 z, fun p hp => hq _ S h _ L _ _ (Go.new_ s hp) ⟨p, vs, rfl, upd_same, IsL.mono (Ex.new (s.fnone hp)) _ _ (i.un n)⟩ (s.new_ hp)⟩
theorem upLst {K : PySem.W.Frag} {L : List Addr} {F H : Hp} {S : List Cell} {es : List D} {vs : List V} {q : QP} {Q : VK} (n : noLoc es = true) (z : es.length ≤ 100000) (h : q (.lst es) S) (i : IsDL K L F es vs) (s : Sto K L F H S) (hq : QE K L F H q Q) :
    vs.length ≤ sizeLine ∧ ∀ p, H p = none → Q (.ref p) (upd H p (.lst vs)) :=
  ⟨by rw [i.length]; exact sz5 z, fun p hp => hq _ S h _ L _ _ (Go.new_ s hp) ⟨p, vs, rfl, upd_same, IsL.mono (Ex.new (s.fnone hp)) _ _ (i.un n)⟩ (s.new_ hp)⟩
theorem je_tupL {x1} (h : JA X W es rr) : JE X W (.Tuple es x1 pos) (rTupL rr) :=
  pe_weak (pe_tup h) fun σ H Q ⟨L, F, S, ds, q, x, env, sto, h, hq, hx⟩ => upA.bind env sto h hx fun d S1 v L1 F1 H1 h1 g1 env1 i1 s1 => upTup h1.1 h1.2.1 h1.2.2 i1 s1 (hq.on g1)
theorem je_lstL (h : JA X W es rr) : JE X W (.List es pos) (rLstL rr) :=
  pe_weak (pe_lst h) fun σ H Q ⟨L, F, S, ds, q, x, env, sto, h, hq, hx⟩ => upA.bind env sto h hx fun d S1 v L1 F1 H1 h1 g1 env1 i1 s1 => upLst h1.1 h1.2.1 h1.2.2 i1 s1 (hq.on g1)
theorem je_tup {x1} (h : JA X W es rr) : JE X W (.Tuple es x1 pos) (rTup rr) :=
  pe_weak (pe_tup h) fun σ H Q ⟨L, F, S, ds, q, x, env, sto, h, hq, hx⟩ => upA.bind env sto h hx fun d S1 v L1 F1 H1 h1 g1 env1 i1 s1 => by
    split at h1
    · rename_i e
      exact upTup (Bool.and_eq_true_iff.mp e).1 (Nat.le_of_ble_eq_true (Bool.and_eq_true_iff.mp e).2) h1 i1 s1 (hq.on g1)
    · exact h1.elim
theorem je_lst (h : JA X W es rr) : JE X W (.List es pos) (rLst rr) :=
  pe_weak (pe_lst h) fun σ H Q ⟨L, F, S, ds, q, x, env, sto, h, hq, hx⟩ => upA.bind env sto h hx fun d S1 v L1 F1 H1 h1 g1 env1 i1 s1 => by
    split at h1
    · rename_i e
      exact upLst (Bool.and_eq_true_iff.mp e).1 (Nat.le_of_ble_eq_true (Bool.and_eq_true_iff.mp e).2) h1 i1 s1 (hq.on g1)
    · exact h1.elim
/-- a new cell -/
theorem Go.cell {L : List Addr} {F H : Hp} {p : Addr} {o : HO} (h : H p = none) : Go L F H (L ++ [p]) F (upd H p o) :=
  ⟨⟨[p], rfl, fun a ha => by rw [List.mem_singleton.mp ha]; exact h⟩, Ex.refl _, fun b u e _ => Ex.new h b u e, fun b e => by
    by_cases z : b = p
    · subst z; exact h
    · rw [upd_ne z] at e; exact e, fun b e => .inl e⟩
theorem Sto.cell {K : PySem.W.Frag} {L : List Addr} {F H : Hp} {S : List Cell} (s : Sto K L F H S) {p : Addr} {o : HO} {c : Cell} (h : H p = none) (hc : CellIs K (L ++ [p]) F (upd H p o) c p) : Sto K (L ++ [p]) F (upd H p o) (S ++ [c]) := by
  have hL : p ∉ L := fun z => s.al p z h
  refine ⟨s.ex.trans (Ex.new h), by simp [s.len], ?_, fun a ha z => ?_, fun n c' a h1 h2 h3 => ?_⟩
  · rw [List.nodup_append]
    exact ⟨s.nd, by simp, fun a ha b hb => by rw [List.mem_singleton.mp hb]; exact fun z => hL (z ▸ ha)⟩
  · rcases List.mem_append.mp ha with q | q
    · exact s.al a q ((Go.cell (L := L) (F := F) h).there a z)
    · rw [List.mem_singleton.mp q, upd_same] at z; cases z
  · by_cases hn : n < L.length
    · rw [List.getElem?_append_left hn] at h2
      rw [List.getElem?_append_left (by rw [← s.len]; exact hn)] at h1
      obtain ⟨q1, q2⟩ := s.cel n c' a h1 h2 h3
      exact ⟨q1, q2.keep (Go.cell h) (upd_ne fun z => by subst z; exact q2.there h3 h)⟩
    · rw [List.getElem?_append_right (by omega)] at h2
      rw [List.getElem?_append_right (by rw [← s.len]; omega), ← s.len] at h1
      have e0 : n - L.length = 0 := by
        have := (List.getElem?_eq_some_iff.mp h2).1
        simp at this; omega
      rw [e0] at h1 h2
      simp at h1 h2
      subst h1 h2
      exact ⟨s.fnone h, hc⟩
end
end DL
end

section
set_option maxHeartbeats 4000000
namespace DL
open PySem L2
/-! ### contracts -/
/-- only new things behind a call -/
structure Gr (F H F' H' : Hp) : Prop where
  ff : Ex F F'
  hh : Ex H H'
  fh : Ex F' H'
  new : ∀ b, F' b ≠ none → F b ≠ none ∨ H b = none
/-- a def that changes nothing: data in, data out (q), or an error (x: its class) -/
abbrev PC := List D → (D → Prop) → (Addr → Prop) → Prop
def sp0 (K : PySem.W.Frag) (n : Nat) (pc : PC) : Sp := fun vs H Q E => ∃ F ds q x, Ex F H ∧ IsL K F ds vs ∧ ds.length = n ∧ pc ds q x ∧
  (∀ d, q d → ∀ v F' H', Gr F H F' H' → Is K F' d v → Q v H') ∧ ∀ C, x C → ∀ d F' H', Gr F H F' H' → E (.ref C) d H'
/-- a def that changes the one cell it is given first -/
abbrev PC1 := List D → Cell → (D → Cell → Prop) → (Addr → Cell → Prop) → Prop
structure Gr1 (a : Addr) (F H F' H' : Hp) : Prop where
  ff : Ex F F'
  keep : ∀ b o, H b = some o → b ≠ a → H' b = some o
  there : ∀ b, H' b = none → H b = none
  fh : Ex F' H'
  new : ∀ b, F' b ≠ none → F b ≠ none ∨ H b = none
def sp1 (K : PySem.W.Frag) (n : Nat) (pc : PC1) : Sp := fun vs H Q E => ∃ a us F ds c q x, vs = .ref a :: us ∧ Ex F H ∧ F a = none ∧ c ≠ .dead ∧ CellIs K [] F H c a ∧ IsL K F ds us ∧ ds.length = n ∧ pc ds c q x ∧
  (∀ d c', q d c' → ∀ v F' H', Gr1 a F H F' H' → c' ≠ .dead → CellIs K [] F' H' c' a → Is K F' d v → Q v H') ∧ ∀ C c', x C c' → ∀ d F' H', Gr1 a F H F' H' → c' ≠ .dead → CellIs K [] F' H' c' a → E (.ref C) d H'
/-- a def that changes the first m cells, under their own numbers -/
abbrev PM := List D → List Cell → (D → List Cell → Prop) → Prop
def spM (K : PySem.W.Frag) (n m : Nat) (pc : PM) : Sp := fun vs H Q _ => ∃ L F S ds q, Sto K L F H S ∧ S.length = m ∧ IsDL K L F ds vs ∧ ds.length = n ∧ pc ds S q ∧
  ∀ d S', q d S' → ∀ v F' H', Go L F H L F' H' → Sto K L F' H' S' → IsD K L F' d v → Q v H'
/-- __init__: the new instance is cell 0; data behind it -/
abbrev PI_ := List D → (List Cell → Prop) → Prop
def spI (K : PySem.W.Frag) (n : Nat) (c : Cl) (pc : PI_) : Sp := fun vs H Q _ => ∃ a us F ds q, vs = .ref a :: us ∧ Sto K [a] F H [.ins c []] ∧ IsL K F ds us ∧ ds.length = n ∧ pc ds q ∧
  ∀ S', q S' → ∀ L' F' H', Go [a] F H L' F' H' → Sto K L' F' H' S' → Q .non H'

section
variable (P : Program) (w : World) (K : PySem.W.Frag) (mg : Str → Option Value) (base : Heap)
def FnG (x : Str) (k : Nat) (sp : Sp) : Prop := ∃ f fd ps, FnOk P w K mg base (L2.CX P w) k f fd ps sp ∧ mg x = some (.ref f) ∧ PySem.W.keepIn K (.ref f) = true ∧ Binds K fd ps []
def FnM (C : Addr) (m : Str) (k : Nat) (sp : Sp) : Prop := ∃ f fd ps, FnOk P w K mg base (L2.CX P w) k f fd ps sp ∧ Cls K C ∧ Meth K C m f ∧ Binds K fd ps []
def FnC (x : Str) (C : Addr) (k : Nat) (sp : Sp) : Prop := ∃ f fd ps, FnOk P w K mg base (L2.CX P w) k f fd ps sp ∧ Mk K C f ∧ mg x = some (.ref C) ∧ Binds K fd ps []
end
def cellNoLoc : Cell → Prop
  | .lst es => noLoc es = true
  | .ins _ es => noLoc es = true
  | .dead => True
  | .ext _ => True
/-! ### growth -/
section
variable {K : PySem.W.Frag} {L : List Addr} {F H F' H' : Hp} {S : List Cell}
theorem Gr.go (g : Gr F H F' H') : Go L F H L F' H' := ⟨⟨[], by simp, by simp⟩, g.ff, fun b o h _ => g.hh b o h, fun b h => (by
  cases q : H b with
  | none => rfl
  | some o => rw [g.hh b o q] at h; cases h), fun b h => (g.new b h).elim .inl fun z => .inr (.inl z)⟩
theorem Gr.sto (g : Gr F H F' H') (s : Sto K L F H S) : Sto K L F' H' S :=
  ⟨g.fh, s.len, s.nd, fun a ha z => s.al a ha ((g.go (L := L)).there a z), fun n c a h1 h2 h3 => by
    obtain ⟨q1, q2⟩ := s.cel n c a h1 h2 h3
    have al := s.al a (List.mem_of_getElem? h2)
    refine ⟨?_, q2.keep g.go ?_⟩
    · cases z : F' a with
      | none => rfl
      | some o => exact absurd (g.new a (by rw [z]; exact fun y => by cases y)) (fun y => y.elim (fun y => y q1) fun y => al y)
    · cases z : H a with
      | none => exact absurd z al
      | some o => exact g.hh a o z⟩
theorem Go.gr (g : Go [] F H L F' H') (s : Sto K L F' H' S) : Gr F H F' H' := ⟨g.ff, fun b o h => g.keep b o h (by simp), s.ex, fun b h => (g.new b h).elim .inl fun z => z.elim .inr fun z => by simp at z⟩
theorem CellIs.un {c : Cell} {a : Addr} (h : CellIs K L F H c a) (n : cellNoLoc c) : CellIs K [] F H c a := by
  cases c with
  | lst ds => obtain ⟨vs, h1, h2⟩ := h; exact ⟨vs, h1, .of (h2.un n)⟩
  | ins c ds => obtain ⟨dx, vs, h1, h2⟩ := h; exact ⟨dx, vs, h1, .of (h2.un n)⟩
  | dead => trivial
  | ext ψ => exact h
theorem CellIs.noLoc {c : Cell} {a : Addr} (h : CellIs K [] F H c a) : cellNoLoc c := by
  have go : ∀ {ds : List D} {vs : List V}, IsDL K [] F ds vs → DL.noLoc ds = true := by
    intro ds
    induction ds with
    | nil => intro _ _; rfl
    | cons d ds ih =>
      intro vs ⟨v, r, h1, h2, h3⟩
      cases d with
      | loc n => obtain ⟨_, z, _⟩ := h2; simp at z
      | _ => exact ih h3
  cases c with
  | lst ds => obtain ⟨vs, h1, h2⟩ := h; exact go h2
  | ins c ds => obtain ⟨dx, vs, h1, h2⟩ := h; exact go h2
  | dead => trivial
  | ext ψ => trivial
theorem IsDL.up {L : List Addr} : ∀ {ds : List D} {vs : List V}, IsDL K [] F ds vs → IsDL K L F ds vs
  | [], _, h => h
  | d :: ds, _, ⟨v, r, h1, h2, h3⟩ => ⟨v, r, h1, (by
    cases d with
    | loc n => obtain ⟨_, z, _⟩ := h2; simp at z
    | _ => exact h2), IsDL.up h3⟩
theorem CellIs.up {c : Cell} {a : Addr} (h : CellIs K [] F H c a) : CellIs K L F H c a := by
  cases c with
  | lst ds => obtain ⟨vs, h1, h2⟩ := h; exact ⟨vs, h1, h2.up⟩
  | ins c ds => obtain ⟨dx, vs, h1, h2⟩ := h; exact ⟨dx, vs, h1, h2.up⟩
  | dead => trivial
  | ext ψ => exact h
theorem Gr1.go {a : Addr} (g : Gr1 a F H F' H') (ha : a ∈ L) : Go L F H L F' H' :=
  ⟨⟨[], by simp, by simp⟩, g.ff, fun b o h hb => g.keep b o h fun z => hb (z ▸ ha), g.there, fun b h => (g.new b h).elim .inl fun z => .inr (.inl z)⟩
theorem nodup_i {L : List Addr} (hN : L.Nodup) {i j : Nat} {x : Addr} (a : L[i]? = some x) (b : L[j]? = some x) : i = j := by
  obtain ⟨h1, e1⟩ := List.getElem?_eq_some_iff.mp a
  obtain ⟨h2, e2⟩ := List.getElem?_eq_some_iff.mp b
  exact (List.getElem_inj hN).mp (e1.trans e2.symm)
theorem Gr1.sto {a : Addr} {k : Nat} {c' : Cell} (g : Gr1 a F H F' H') (s : Sto K L F H S) (ha : L[k]? = some a) (hF : F a = none) (hc : CellIs K [] F' H' c' a) (hd : c' ≠ .dead) : Sto K L F' H' (S.set k c') := by
  have hm := List.mem_of_getElem? ha
  refine ⟨g.fh, by rw [List.length_set]; exact s.len, s.nd, fun b hb z => s.al b hb (g.there b z), fun n c b h1 h2 h3 => ?_⟩
  have fn : ∀ b, F b = none → b ∈ L → F' b = none := fun b h hb => by
    cases z : F' b with
    | none => rfl
    | some o => exact absurd (g.new b (by rw [z]; exact fun y => by cases y)) (fun y => y.elim (fun y => y h) fun y => s.al b hb y)
  by_cases e : n = k
  · subst e
    rw [ha] at h2
    cases h2
    rw [List.getElem?_set_self (by rw [← s.len]; exact (List.getElem?_eq_some_iff.mp ha).1)] at h1
    cases h1
    exact ⟨fn a hF hm, hc.up⟩
  · rw [List.getElem?_set_ne (Ne.symm e)] at h1
    obtain ⟨q1, q2⟩ := s.cel n c b h1 h2 h3
    have nb : b ≠ a := fun z => by
      subst z
      exact e (nodup_i s.nd h2 ha)
    refine ⟨fn b q1 (List.mem_of_getElem? h2), q2.keep (g.go hm) ?_⟩
    cases z : H b with
    | none => exact absurd z (s.al b (List.mem_of_getElem? h2))
    | some o => exact g.keep b o z nb
end
/-! ### calls by name -/
section
variable {X : Cx} {W : WX} {e o : Expr} {es : List Expr} {rr : RA} {ro : RE} {p pos apos : Pos} {x m : Str} {k n : Nat}
def rCall0 (n : Nat) (pc : PC) (rr : RA) : RE := fun ds S q x => rr ds S (fun es S1 => match noLoc es && Nat.beq es.length n with
  | true => pc es (fun d => q d S1) fun C => x C S1
  | false => False) x
/-- .. the same where it is not seen that no cell is handed on -/
def rCall0L (n : Nat) (pc : PC) (rr : RA) : RE := fun ds S q x => rr ds S (fun es S1 => noLoc es = true ∧ es.length = n ∧ pc es (fun d => q d S1) fun C => x C S1) x
def rCall1 (n : Nat) (pc : PC1) (rr : RA) : RE := fun ds S q x => rr ds S (fun es S1 => match es with
  | .loc k :: r => (match noLoc r && Nat.beq r.length n with
    | true => (match S1[k]? with
      | some (.lst xs) => noLoc xs = true ∧ pc r (.lst xs) (fun d c' => q d (S1.set k c')) fun C c' => x C (S1.set k c')
      | some (.ins cl xs) => noLoc xs = true ∧ pc r (.ins cl xs) (fun d c' => q d (S1.set k c')) fun C c' => x C (S1.set k c')
      | _ => False)
    | false => False)
  | _ => False) x
theorem sp0_up {K : PySem.W.Frag} {L : List Addr} {F H : Hp} {S : List Cell} {es : List D} {vs : List V} {q : QP} {x : XP} {Q : VK} {σ : St} {pc : PC} (nl : noLoc es = true) (ln : es.length = n) (h : pc es (fun d => q d S) fun C => x C S)
    (i : IsDL K L F es vs) (s : Sto K L F H S) (hq : QE K L F H q Q) (hx : QX K W L F H σ x) : sp0 K n pc vs H Q (WE W σ) :=
  ⟨F, es, _, _, s.ex, i.un nl, ln, h, fun d hd v F' H' g i' => hq d S hd v L F' H' g.go (.of i') (g.sto s), fun C hC d F' H' g => hx C S hC d L F' H' g.go (g.sto s)⟩
theorem sp1_up {K : PySem.W.Frag} {L : List Addr} {F H : Hp} {S : List Cell} {es : List D} {vs : List V} {q : QP} {x : XP} {Q : VK} {σ : St} {pc : PC1}
    (h : match es with
      | .loc k :: r => (match noLoc r && Nat.beq r.length n with
        | true => (match S[k]? with
          | some (.lst xs) => noLoc xs = true ∧ pc r (.lst xs) (fun d c' => q d (S.set k c')) fun C c' => x C (S.set k c')
          | some (.ins cl xs) => noLoc xs = true ∧ pc r (.ins cl xs) (fun d c' => q d (S.set k c')) fun C c' => x C (S.set k c')
          | _ => False)
        | false => False)
      | _ => False)
    (i : IsDL K L F es vs) (s : Sto K L F H S) (hq : QE K L F H q Q) (hx : QX K W L F H σ x) : sp1 K n pc vs H Q (WE W σ) := by
  cases es with
  | nil => exact h.elim
  | cons d r =>
    cases d with
    | loc k =>
      obtain ⟨v, us, rfl, ⟨a, ha, rfl⟩, i3⟩ := i
      have h2 : (match noLoc r && Nat.beq r.length n with
        | true => (match S[k]? with
          | some (.lst xs) => noLoc xs = true ∧ pc r (.lst xs) (fun d c' => q d (S.set k c')) fun C c' => x C (S.set k c')
          | some (.ins cl xs) => noLoc xs = true ∧ pc r (.ins cl xs) (fun d c' => q d (S.set k c')) fun C c' => x C (S.set k c')
          | _ => False)
        | false => False) := h
      clear h
      split at h2
      · rename_i e
        obtain ⟨e1, e2⟩ := Bool.and_eq_true_iff.mp e
        have go : ∀ c, S[k]? = some c → c ≠ .dead → cellNoLoc c → pc r c (fun d c' => q d (S.set k c')) (fun C c' => x C (S.set k c')) → sp1 K n pc (.ref a :: us) H Q (WE W σ) := fun c hk hd hn hp => by
          obtain ⟨z1, z2⟩ := s.cel k c a hk ha hd
          exact ⟨a, us, F, r, c, _, _, rfl, s.ex, z1, hd, z2.un hn, i3.un e1, Nat.eq_of_beq_eq_true e2, hp,
            fun d c' hd v F' H' g cd ci i' => hq d _ hd v L F' H' (g.go (List.mem_of_getElem? ha)) (.of i') (g.sto s ha z1 ci cd),
            fun C c' hC d F' H' g cd ci => hx C _ hC d L F' H' (g.go (List.mem_of_getElem? ha)) (g.sto s ha z1 ci cd)⟩
        split at h2
        · rename_i xs hk
          exact go _ hk (fun z => by cases z) h2.1 h2.2
        · rename_i cl xs hk
          exact go _ hk (fun z => by cases z) h2.1 h2.2
        · exact h2.elim
      · exact h2.elim
    | _ => exact h.elim
theorem je_call0 {pc : PC} (G : FnG X.prog X.w X.K X.mg X.base x k (sp0 X.K n pc)) (hr : Room k X.A) (tk : Takes X W) (hg : Gl X x) (ha : JA X W (e :: es) rr) (hdb : (x == ("__debug__" : Str)) = false := by decide)
    (he : starEach (e :: es) X.env = (false, eval e X.env) :: starEach es X.env := by rfl) (hpl : (backTo pos (starEach es X.env)).any (·.1) = false := by rfl) : JE X W (.Call (.Name x p) (e :: es) [] pos) (rCall0 n pc rr) := by
  obtain ⟨f, fd, ps, F, hm, hk, hb⟩ := G
  refine pe_weak (pe_callS F hr hg hm hk hb (fun σ => passAt tk σ) ha hdb he hpl) fun σ H Q ⟨L, F, S, ds, q, x, env, sto, h, hq, hx⟩ => ?_
  refine upA.bind env sto h hx fun d S1 v L1 F1 H1 h1 g1 env1 i1 s1 => ?_
  split at h1
  · rename_i e
    obtain ⟨e1, e2⟩ := Bool.and_eq_true_iff.mp e
    exact sp0_up e1 (Nat.eq_of_beq_eq_true e2) h1 i1 s1 (hq.on g1) (hx.on g1)
  · exact h1.elim
theorem je_call0L {pc : PC} (G : FnG X.prog X.w X.K X.mg X.base x k (sp0 X.K n pc)) (hr : Room k X.A) (tk : Takes X W) (hg : Gl X x) (ha : JA X W (e :: es) rr) (hdb : (x == ("__debug__" : Str)) = false := by decide)
    (he : starEach (e :: es) X.env = (false, eval e X.env) :: starEach es X.env := by rfl) (hpl : (backTo pos (starEach es X.env)).any (·.1) = false := by rfl) : JE X W (.Call (.Name x p) (e :: es) [] pos) (rCall0L n pc rr) := by
  obtain ⟨f, fd, ps, F, hm, hk, hb⟩ := G
  refine pe_weak (pe_callS F hr hg hm hk hb (fun σ => passAt tk σ) ha hdb he hpl) fun σ H Q ⟨L, F, S, ds, q, x, env, sto, h, hq, hx⟩ => ?_
  exact upA.bind env sto h hx fun d S1 v L1 F1 H1 h1 g1 env1 i1 s1 => sp0_up h1.1 h1.2.1 h1.2.2 i1 s1 (hq.on g1) (hx.on g1)
theorem je_call1 {pc : PC1} (G : FnG X.prog X.w X.K X.mg X.base x k (sp1 X.K n pc)) (hr : Room k X.A) (tk : Takes X W) (hg : Gl X x) (ha : JA X W (e :: es) rr) (hdb : (x == ("__debug__" : Str)) = false := by decide)
    (he : starEach (e :: es) X.env = (false, eval e X.env) :: starEach es X.env := by rfl) (hpl : (backTo pos (starEach es X.env)).any (·.1) = false := by rfl) : JE X W (.Call (.Name x p) (e :: es) [] pos) (rCall1 n pc rr) := by
  obtain ⟨f, fd, ps, F, hm, hk, hb⟩ := G
  refine pe_weak (pe_callS F hr hg hm hk hb (fun σ => passAt tk σ) ha hdb he hpl) fun σ H Q ⟨L, F, S, ds, q, x, env, sto, h, hq, hx⟩ => ?_
  exact upA.bind env sto h hx fun d S1 v L1 F1 H1 h1 g1 env1 i1 s1 => sp1_up h1 i1 s1 (hq.on g1) (hx.on g1)
end
end DL
end

section
set_option maxHeartbeats 4000000
namespace DL
open PySem L2
/-! ### attributes -/
section
variable {K : PySem.W.Frag} {L M : List Addr} {F H : Hp}
theorem IsD.pre {d : D} {v : V} (h : IsD K L F d v) : IsD K (L ++ M) F d v := by
  cases d with
  | loc n => obtain ⟨a, h1, h2⟩ := h; exact ⟨a, getElem?_pre h1, h2⟩
  | _ => exact h
theorem IsDL.pre : ∀ {ds : List D} {vs : List V}, IsDL K L F ds vs → IsDL K (L ++ M) F ds vs
  | [], _, h => h
  | _ :: _, _, ⟨v, r, h1, h2, h3⟩ => ⟨v, r, h1, h2.pre, h3.pre⟩
theorem CellIs.pre {c : Cell} {a : Addr} (h : CellIs K L F H c a) : CellIs K (L ++ M) F H c a := by
  cases c with
  | lst ds => obtain ⟨vs, h1, h2⟩ := h; exact ⟨vs, h1, h2.pre⟩
  | ins c ds => obtain ⟨dx, vs, h1, h2⟩ := h; exact ⟨dx, vs, h1, h2.pre⟩
  | dead => trivial
  | ext ψ => exact h
end
theorem Cl.nd (c : Cl) : c.keys.Nodup := by cases c <;> decide +kernel
structure ClF (K : PySem.W.Frag) : Prop where
  cls : ∀ c : Cl, L2.Cls K c.adr
  noat : ∀ (c : Cl) (f : Str), f ∈ c.keys → NoAttr K c.adr f
theorem zlook : ∀ {ks : List Str} {vs : List V} {i : Nat} {f : Str}, ks.Nodup → ks[i]? = some f → (ks.zip vs).lookup f = vs[i]?
  | [], _, _, _, _, h => by simp at h
  | _ :: _, [], _, _, _, _ => by simp
  | k :: ks, v :: vs, 0, f, _, h => by
    simp at h; subst h
    show List.lookup k ((k, v) :: ks.zip vs) = _
    simp
  | k :: ks, v :: vs, i + 1, f, n, h => by
    have ne : ¬ f = k := fun z => by
      subst z
      exact (List.nodup_cons.mp n).1 (List.mem_of_getElem? (show ks[i]? = some f by simpa using h))
    show List.lookup f ((k, v) :: ks.zip vs) = _
    rw [List.lookup_cons, show (f == k) = false from beq_eq_false_iff_ne.mpr ne]
    simpa using zlook (i := i) (List.nodup_cons.mp n).2 (by simpa using h)
theorem zlook0 : ∀ {ks : List Str} {vs : List V} {f : Str}, f ∉ ks → (ks.zip vs).lookup f = none
  | [], _, _, _ => by simp
  | _ :: _, [], _, _ => by simp
  | k :: ks, v :: vs, f, h => by
    have ne : ¬ f = k := fun z => h (by rw [z]; exact List.mem_cons_self)
    show List.lookup f ((k, v) :: ks.zip vs) = _
    rw [List.lookup_cons, show (f == k) = false from beq_eq_false_iff_ne.mpr ne]
    exact zlook0 fun z => h (List.mem_cons_of_mem _ z)
theorem zput : ∀ {ks : List Str} {vs : List V} {i : Nat} {f : Str} {y : V}, ks.Nodup → ks[i]? = some f → i ≤ vs.length → putF f y (ks.zip vs) = ks.zip (if i < vs.length then vs.set i y else vs ++ [y])
  | [], _, _, _, _, _, h, _ => by simp at h
  | k :: ks, [], 0, f, y, _, h, _ => by simp at h; subst h; simp [putF]
  | k :: ks, [], i + 1, f, y, _, h, z => by simp at z
  | k :: ks, v :: vs, 0, f, y, _, h, _ => by simp at h; subst h; simp [putF]
  | k :: ks, v :: vs, i + 1, f, y, n, h, z => by
    have ne : ¬ k = f := fun z => by
      subst z
      exact (List.nodup_cons.mp n).1 (List.mem_of_getElem? (show ks[i]? = some k by simpa using h))
    have ih := zput (ks := ks) (vs := vs) (i := i) (f := f) (y := y) (List.nodup_cons.mp n).2 (by simpa using h) (by simpa using z)
    show (if k = f then _ else (k, v) :: putF f y (ks.zip vs)) = _
    rw [if_neg ne, ih]
    by_cases q : i < vs.length
    · rw [if_pos q, if_pos (by simpa using q)]; rfl
    · rw [if_neg q, if_neg (by simpa using q)]; rfl
section
variable {X : Cx} {W : WX} {e o value : Expr} {es : List Expr} {rr : RA} {ra ro rv : RE} {p pos pos' apos : Pos} {x m f : Str} {k n : Nat}
/-- o.f: the i-th attribute of an instance of the class c -/
def rFld (c : Cl) (i : Nat) (ro : RE) : RE := fun ds S q x => ro ds S (fun d S1 => match d with
  | .obj c' xs => (match decide (c' = c) with
    | true => (match xs[i]? with
      | some d => q d S1
      | none => False)
    | false => False)
  | .loc k => (match S1[k]? with
    | some (.ins c' xs) => (match decide (c' = c) with
      | true => (match xs[i]? with
        | some d => q d S1
        | none => False)
      | false => False)
    | _ => False)
  | _ => False) x
theorem je_fld (T : ClF X.K) (c : Cl) (i : Nat) (he : JE X W o ro) (hk : c.keys[i]? = some f := by rfl) (hb : attributeBase o f X.env (eval o X.env) = eval o X.env := by rfl) : JE X W (.Attribute o f pos) (rFld c i ro) := by
  refine pe_weak (pe_fld he hb) fun σ H Q ⟨L, F, S, ds, q, x, env, sto, h, hq, hx⟩ => ?_
  refine upE.bind env sto h hx fun d S1 v L1 F1 H1 h1 g1 env1 i1 s1 => ?_
  have nf := T.noat c f (List.mem_of_getElem? hk)
  cases d with
  | obj c' xs =>
    simp only at h1
    split at h1
    · rename_i hc
      have hc := of_decide_eq_true hc
      subst hc
      split at h1
      · rename_i d hd
        obtain ⟨a, dx, vs, rfl, e2, e3⟩ := i1
        obtain ⟨v, hv, iv⟩ := e3.get hd
        exact ⟨a, _, dx, _, v, rfl, s1.ex _ _ e2, T.cls _, nf, by rw [zlook (Cl.nd _) hk]; exact hv, hq _ S1 h1 v L1 F1 H1 g1 (.of iv) s1⟩
      · exact h1.elim
    · exact h1.elim
  | loc k =>
    simp only at h1
    split at h1
    · rename_i c' xs hS
      split at h1
      · rename_i hc
        have hc := of_decide_eq_true hc
        subst hc
        split at h1
        · rename_i d hd
          obtain ⟨a, ha, rfl⟩ := i1
          obtain ⟨_, dx, vs, e2, e3⟩ := s1.cel k _ a hS ha (fun z => by cases z)
          obtain ⟨v, hv, iv⟩ := e3.get hd
          exact ⟨a, _, dx, _, v, rfl, e2, T.cls _, nf, by rw [zlook (Cl.nd _) hk]; exact hv, hq _ S1 h1 v L1 F1 H1 g1 iv s1⟩
        · exact h1.elim
      · exact h1.elim
    · exact h1.elim
  | _ => exact h1.elim
/-- a cell is written -/
theorem Go.put {L : List Addr} {F H : Hp} {a : Addr} {o : HO} (ha : a ∈ L) (hH : H a ≠ none) : Go L F H L F (upd H a o) :=
  ⟨⟨[], by simp, by simp⟩, Ex.refl _, fun b u e hb => (by rw [upd_ne fun z => hb (by rw [z]; exact ha)]; exact e), fun b e => by
    by_cases z : b = a
    · subst z; rw [upd_same] at e; cases e
    · rw [upd_ne z] at e; exact e, fun b e => .inl e⟩
theorem Sto.put {K : PySem.W.Frag} {L : List Addr} {F H : Hp} {S : List Cell} (s : Sto K L F H S) {k : Nat} {a : Addr} {o : HO} {c' : Cell} (ha : L[k]? = some a) (hF : F a = none) (hc : CellIs K L F (upd H a o) c' a) : Sto K L F (upd H a o) (S.set k c') := by
  have hm := List.mem_of_getElem? ha
  refine ⟨fun b u e => ?_, by rw [List.length_set]; exact s.len, s.nd, fun b hb z => s.al b hb ((Go.put (F := F) (o := o) hm (s.al a hm)).there b z), fun n c b h1 h2 h3 => ?_⟩
  · rw [upd_ne fun z => by subst z; rw [hF] at e; cases e]; exact s.ex b u e
  · by_cases e : n = k
    · subst e
      rw [ha] at h2
      cases h2
      rw [List.getElem?_set_self (by rw [← s.len]; exact (List.getElem?_eq_some_iff.mp ha).1)] at h1
      cases h1
      exact ⟨hF, hc⟩
    · rw [List.getElem?_set_ne (Ne.symm e)] at h1
      obtain ⟨q1, q2⟩ := s.cel n c b h1 h2 h3
      exact ⟨q1, q2.keep (Go.put hm (s.al a hm)) (upd_ne fun z => by subst z; exact e (nodup_i s.nd h2 ha))⟩
/-- o.f = value -/
def rSetF (c : Cl) (i : Nat) (wk : D → D) (ro rv : RE) : RS := fun D ds S => rv ds S (fun d S1 => ro ds S1 (fun e S2 => match e with
  | .loc k => (match S2[k]? with
    | some (.ins c' xs) => (match decide (c' = c) && Nat.ble i xs.length with
      | true => D.nx ds (S2.set k (.ins c (match Nat.blt i xs.length with
        | true => xs.set i (wk d)
        | false => xs ++ [wk d])))
      | false => False)
    | _ => False)
  | _ => False) fun C S' => D.xc C ds S') fun C S' => D.xc C ds S'
theorem js_setF (T : ClF X.K) (c : Cl) (i : Nat) (wk : D → D) (hw : wk = id ∨ wk = fun _ => .any) (ho : JE X W o ro) (hv : JE X W value rv) (hk : c.keys[i]? = some f := by rfl)
    (hs : swapsWith value (some (.Attribute o f pos')) pos.line X.env = pure false := by rfl) : JS X W (.Assign [.Attribute o f pos'] value pos) (rSetF c i wk ro rv) := by
  refine ps_weak (ps_fld ho hv hs) fun D σ H ⟨L, F, S, ds, O, env, sto, h, hn, hr, hb, hc, hx⟩ => ?_
  have qx : ∀ {L1 : List Addr} {F1 H1 : Hp}, Go L F H L1 F1 H1 → Env X.K L1 F1 ds σ → QX X.K W L1 F1 H1 σ (fun C S' => O.xc C ds S') := fun g en C S' z d L' F' H' g' s' => hx C ds S' z σ d L' F' H' (g.trans g') (en.mono g') s'
  refine upE.bind env sto h (qx .refl env) fun d S1 v L1 F1 H1 h1 g1 env1 i1 s1 => ?_
  refine upE.bind env1 s1 h1 (qx g1 env1) fun e S2 ov L2 F2 H2 h2 g2 env2 i2 s2 => ?_
  have nf := T.noat c f (List.mem_of_getElem? hk)
  cases e with
  | loc k =>
    simp only at h2
    split at h2
    · rename_i c' xs hS
      split at h2
      · rename_i hc'
        obtain ⟨e1, e2⟩ := Bool.and_eq_true_iff.mp hc'
        have e1 := of_decide_eq_true e1
        have e2 := Nat.le_of_ble_eq_true e2
        subst e1
        obtain ⟨a, ha, rfl⟩ := i2
        obtain ⟨z1, dx, vs, z2, z3⟩ := s2.cel k _ a hS ha (fun z => by cases z)
        have hl := z3.length
        have hm := List.mem_of_getElem? ha
        have kl : c'.keys.length < 1000 := by cases c' <;> decide
        refine ⟨a, _, dx, _, rfl, z2, T.cls _, nf, Nat.lt_of_le_of_lt (by rw [List.length_zip]; exact Nat.min_le_left _ _) kl, ?_⟩
        rw [zput (Cl.nd _) hk (by omega)]
        have iw : IsD X.K L2 F2 (wk d) v := by
          rcases hw with rfl | rfl
          · exact i1.mono g2
          · exact trivial
        have g3 : Go L2 F2 H2 L2 F2 (upd H2 a (.ins c'.adr dx (c'.keys.zip (if i < vs.length then vs.set i v else vs ++ [v])))) := Go.put hm (s2.al a hm)
        refine hn _ _ h2 σ L2 F2 _ ((g1.trans g2).trans g3) (env2.mono g3) (s2.put ha z1 ?_)
        refine ⟨dx, _, upd_same, ?_⟩
        by_cases hi : i < vs.length
        · rw [if_pos hi, show Nat.blt i xs.length = true from Nat.ble_eq_true_of_le (by rw [← hl]; exact hi)]
          exact IsDL.set (iw.mono g3) i (z3.mono g3)
        · rw [if_neg hi, show Nat.blt i xs.length = false from by
            cases q : Nat.blt i xs.length with
            | false => rfl
            | true => exact absurd (Nat.le_of_ble_eq_true q) (by rw [← hl]; exact hi)]
          exact IsDL.append (z3.mono g3) ⟨v, [], rfl, iw.mono g3, rfl⟩
      · exact h2.elim
    · exact h2.elim
  | _ => exact h2.elim
/-! ### methods and properties -/
/-- o.m(..) of a cell's instance: a def that changes this cell -/
def isCl (o : Option Cell) (c : Cl) : Bool := match o with
  | some (.ins c0 _) => decide (c0 = c)
  | _ => false
theorem isCl_ok {o : Option Cell} {c : Cl} (h : isCl o c = true) : ∃ xs, o = some (.ins c xs) := by
  unfold isCl at h
  split at h
  · rename_i c0 xs
    rw [of_decide_eq_true h]; exact ⟨xs, rfl⟩
  · cases h
def rMeth1 (c : Cl) (n : Nat) (pc : PC1) (ro : RE) (rr : RA) : RE := fun ds S q x => ro ds S (fun d S0 => match d with
  | .loc k => (match isCl S0[k]? c with
    | true => rr ds S0 (fun es S1 => match noLoc es && Nat.beq es.length n with
      | true => (match S1[k]? with
        | some (.ins cl xs) => noLoc xs = true ∧ pc es (.ins cl xs) (fun d c' => q d (S1.set k c')) fun C c' => x C (S1.set k c')
        | _ => False)
      | false => False) x
    | false => False)
  | _ => False) x
theorem sp1_up2 {K : PySem.W.Frag} {L : List Addr} {F H : Hp} {S : List Cell} {es : List D} {vs : List V} {q : QP} {x : XP} {Q : VK} {E : XK} {pc : PC1} {k : Nat} {a : Addr} {cl : Cl} {xs : List D}
    (ha : L[k]? = some a) (hS : S[k]? = some (.ins cl xs)) (nl : noLoc es = true) (nx : noLoc xs = true) (hl : es.length = n) (h : pc es (.ins cl xs) (fun d c' => q d (S.set k c')) fun C c' => x C (S.set k c'))
    (i : IsDL K L F es vs) (s : Sto K L F H S) (hq : QE K L F H q Q) (hx : ∀ C S', x C S' → ∀ d L' F' H', Go L F H L' F' H' → Sto K L' F' H' S' → E (.ref C) d H') : sp1 K n pc (.ref a :: vs) H Q E := by
  obtain ⟨z1, z2⟩ := s.cel k _ a hS ha (fun z => by cases z)
  exact ⟨a, vs, F, es, _, _, _, rfl, s.ex, z1, (fun z => by cases z), z2.un nx, i.un nl, hl, h,
    fun d c' hd v F' H' g cd ci i' => hq d _ hd v L F' H' (g.go (List.mem_of_getElem? ha)) (.of i') (g.sto s ha z1 ci cd),
    fun C c' hC d F' H' g cd ci => hx C _ hC d L F' H' (g.go (List.mem_of_getElem? ha)) (g.sto s ha z1 ci cd)⟩
/-- how the wish about errors is met: E0, and none is wanted -/
theorem je_meth1 {pl : Sem Bool} {c : Cl} {pc : PC1} (G : FnM X.prog X.w X.K X.mg X.base c.adr m k (sp1 X.K n pc)) (hr : Room k X.A) (ho : JE X W o ro) (ha : JA X W (e :: es) rr) (hm : m ∉ c.keys)
    (hst : starEach (e :: es) X.env = (false, eval e X.env) :: starEach es X.env := by rfl) (hpl : (backTo pos (starEach es X.env)).any (·.1) = false := by rfl)
    (ht : eval (.Call (.Attribute o m apos) (e :: es) [] pos) X.env = (do
      let v0 ← eval o X.env; standAt apos.atName
      let (f, first) ← holding [v0] (getMethod v0 m pl)
      callWith pos f first (backTo pos (starEach (e :: es) X.env)) (backToKw pos (keywordEach [] X.env))) := by rfl) :
    JE X W (.Call (.Attribute o m apos) (e :: es) [] pos) (rMeth1 c n (fun es c q _ => pc es c q fun _ _ => False) ro rr) := by
  obtain ⟨f, fd, ps, F, hc, hm', hb⟩ := G
  refine pe_weak (pe_meth (dvs := []) (ds := []) (E := E0) ho hc hm' F hr hb .nil passL ha hst hpl ht) fun σ H Q ⟨L, F, S, ds, q, x, env, sto, h, hq, hx⟩ => ?_
  refine upE.bind env sto h hx fun d S0 v L0 F0 H0 h0 g0 env0 i0 s0 => ?_
  cases d with
  | loc k =>
    obtain ⟨a, ha0, rfl⟩ := i0
    simp only at h0
    split at h0
    · rename_i hcl
      obtain ⟨xs, hS⟩ := isCl_ok hcl
      obtain ⟨_, dx, vs, hcell, _⟩ := s0.cel k _ a hS ha0 (fun z => by cases z)
      refine ⟨a, dx, _, rfl, hcell, zlook0 hm, ?_⟩
      refine upA.bind env0 s0 h0 (hx.on g0) fun es S1 us L1 F1 H1 h1 g1 env1 i1 s1 => ?_
      split at h1
      · rename_i hn
        obtain ⟨n1, n2⟩ := Bool.and_eq_true_iff.mp hn
        split at h1
        · rename_i cl xs1 hS1
          have ha1 : L1[k]? = some a := by
            obtain ⟨M, eM, _⟩ := g1.pre
            rw [eM]; exact getElem?_pre ha0
          show sp1 X.K n pc (.ref a :: (us ++ [])) H1 Q E0
          rw [List.append_nil]
          exact sp1_up2 (x := fun _ _ => False) ha1 hS1 n1 h1.1 (Nat.eq_of_beq_eq_true n2) h1.2 i1 s1 ((hq.on g0).on g1) fun _ _ z => z.elim
        · exact h1.elim
      · exact h1.elim
    · exact h0.elim
  | _ => exact h0.elim
theorem je_meth10 {pl : Sem Bool} {c : Cl} {pc : PC1} (G : FnM X.prog X.w X.K X.mg X.base c.adr m k (sp1 X.K 0 pc)) (hr : Room k X.A) (ho : JE X W o ro) (hm : m ∉ c.keys)
    (ht : eval (.Call (.Attribute o m apos) [] [] pos) X.env = (do
      let v0 ← eval o X.env; standAt apos.atName
      let (f, first) ← holding [v0] (getMethod v0 m pl)
      callWith pos f first (backTo pos (starEach [] X.env)) (backToKw pos (keywordEach [] X.env))) := by rfl) :
    JE X W (.Call (.Attribute o m apos) [] [] pos) (rMeth1 c 0 (fun es c q _ => pc es c q fun _ _ => False) ro rNil) := by
  obtain ⟨f, fd, ps, F, hc, hm', hb⟩ := G
  refine pe_weak (pe_meth0 (dvs := []) (ds := []) (E := E0) ho hc hm' F hr hb .nil passL ht) fun σ H Q ⟨L, F, S, ds, q, x, env, sto, h, hq, hx⟩ => ?_
  refine upE.bind env sto h hx fun d S0 v L0 F0 H0 h0 g0 env0 i0 s0 => ?_
  cases d with
  | loc k =>
    obtain ⟨a, ha0, rfl⟩ := i0
    simp only at h0
    split at h0
    · rename_i hcl
      obtain ⟨xs, hS⟩ := isCl_ok hcl
      obtain ⟨_, dx, vs, hcell, _⟩ := s0.cel k _ a hS ha0 (fun z => by cases z)
      refine ⟨a, dx, _, rfl, hcell, zlook0 hm, ?_⟩
      have h1 : (match S0[k]? with
        | some (.ins cl xs) => noLoc xs = true ∧ pc [] (.ins cl xs) (fun d c' => q d (S0.set k c')) fun C c' => False
        | _ => False) := h0
      rw [hS] at h1
      exact sp1_up2 (x := fun _ _ => False) ha0 hS rfl h1.1 rfl h1.2 rfl s0 (hq.on g0) fun _ _ z => z.elim
    · exact h0.elim
  | _ => exact h0.elim
/-- o.m(..), a def that keeps the numbers of the first cells (the whole store is theirs) -/
def rMethM (c : Cl) (n m : Nat) (pc : PM) (ro : RE) (rr : RA) : RE := fun ds S q x => ro ds S (fun d S0 => match d with
  | .loc k => (match isCl S0[k]? c with
    | true => rr ds S0 (fun es S1 => match Nat.beq (es.length + 1) n && Nat.beq S1.length m with
      | true => pc (.loc k :: es) S1 q
      | false => False) x
    | false => False)
  | _ => False) x
theorem spM_up {K : PySem.W.Frag} {L : List Addr} {F H : Hp} {S : List Cell} {es : List D} {vs : List V} {q : QP} {Q : VK} {E : XK} {mm : Nat} {pc : PM} (hl : es.length = n) (hm : S.length = mm) (h : pc es S q)
    (i : IsDL K L F es vs) (s : Sto K L F H S) (hq : QE K L F H q Q) : spM K n mm pc vs H Q E :=
  ⟨L, F, S, es, q, s, hm, i, hl, h, fun d S' hd v F' H' g s' i' => hq d S' hd v L F' H' g i' s'⟩
theorem je_methM {pl : Sem Bool} {c : Cl} {pc : PM} {mm : Nat} (G : FnM X.prog X.w X.K X.mg X.base c.adr m k (spM X.K n mm pc)) (hr : Room k X.A) (ho : JE X W o ro) (ha : JA X W (e :: es) rr) (hm : m ∉ c.keys)
    (hst : starEach (e :: es) X.env = (false, eval e X.env) :: starEach es X.env := by rfl) (hpl : (backTo pos (starEach es X.env)).any (·.1) = false := by rfl)
    (ht : eval (.Call (.Attribute o m apos) (e :: es) [] pos) X.env = (do
      let v0 ← eval o X.env; standAt apos.atName
      let (f, first) ← holding [v0] (getMethod v0 m pl)
      callWith pos f first (backTo pos (starEach (e :: es) X.env)) (backToKw pos (keywordEach [] X.env))) := by rfl) :
    JE X W (.Call (.Attribute o m apos) (e :: es) [] pos) (rMethM c n mm pc ro rr) := by
  obtain ⟨f, fd, ps, F, hc, hm', hb⟩ := G
  refine pe_weak (pe_meth (dvs := []) (ds := []) (E := E0) ho hc hm' F hr hb .nil passL ha hst hpl ht) fun σ H Q ⟨L, F, S, ds, q, x, env, sto, h, hq, hx⟩ => ?_
  refine upE.bind env sto h hx fun d S0 v L0 F0 H0 h0 g0 env0 i0 s0 => ?_
  cases d with
  | loc k =>
    obtain ⟨a, ha0, rfl⟩ := i0
    simp only at h0
    split at h0
    · rename_i hcl
      obtain ⟨xs, hS⟩ := isCl_ok hcl
      obtain ⟨_, dx, vs, hcell, _⟩ := s0.cel k _ a hS ha0 (fun z => by cases z)
      refine ⟨a, dx, _, rfl, hcell, zlook0 hm, ?_⟩
      refine upA.bind env0 s0 h0 (hx.on g0) fun es S1 us L1 F1 H1 h1 g1 env1 i1 s1 => ?_
      split at h1
      · rename_i hn
        obtain ⟨n1, n2⟩ := Bool.and_eq_true_iff.mp hn
        have ha1 : L1[k]? = some a := by
          obtain ⟨M, eM, _⟩ := g1.pre
          rw [eM]; exact getElem?_pre ha0
        show spM X.K n mm pc (.ref a :: (us ++ [])) H1 Q E0
        rw [List.append_nil]
        exact spM_up (es := .loc k :: es) (Nat.eq_of_beq_eq_true n1) (Nat.eq_of_beq_eq_true n2) h1 ⟨_, us, rfl, ⟨a, ha1, rfl⟩, i1⟩ s1 ((hq.on g0).on g1)
      · exact h1.elim
    · exact h0.elim
  | _ => exact h0.elim
theorem je_methM0 {pl : Sem Bool} {c : Cl} {pc : PM} {mm : Nat} (G : FnM X.prog X.w X.K X.mg X.base c.adr m k (spM X.K 1 mm pc)) (hr : Room k X.A) (ho : JE X W o ro) (hm : m ∉ c.keys)
    (ht : eval (.Call (.Attribute o m apos) [] [] pos) X.env = (do
      let v0 ← eval o X.env; standAt apos.atName
      let (f, first) ← holding [v0] (getMethod v0 m pl)
      callWith pos f first (backTo pos (starEach [] X.env)) (backToKw pos (keywordEach [] X.env))) := by rfl) :
    JE X W (.Call (.Attribute o m apos) [] [] pos) (rMethM c 1 mm pc ro rNil) := by
  obtain ⟨f, fd, ps, F, hc, hm', hb⟩ := G
  refine pe_weak (pe_meth0 (dvs := []) (ds := []) (E := E0) ho hc hm' F hr hb .nil passL ht) fun σ H Q ⟨L, F, S, ds, q, x, env, sto, h, hq, hx⟩ => ?_
  refine upE.bind env sto h hx fun d S0 v L0 F0 H0 h0 g0 env0 i0 s0 => ?_
  cases d with
  | loc k =>
    obtain ⟨a, ha0, rfl⟩ := i0
    simp only at h0
    split at h0
    · rename_i hcl
      obtain ⟨xs, hS⟩ := isCl_ok hcl
      obtain ⟨_, dx, vs, hcell, _⟩ := s0.cel k _ a hS ha0 (fun z => by cases z)
      refine ⟨a, dx, _, rfl, hcell, zlook0 hm, ?_⟩
      have h1 : (match Nat.beq (([] : List D).length + 1) 1 && Nat.beq S0.length mm with
        | true => pc [.loc k] S0 q
        | false => False) := h0
      split at h1
      · rename_i hn
        obtain ⟨n1, n2⟩ := Bool.and_eq_true_iff.mp hn
        exact spM_up (E := E0) rfl (Nat.eq_of_beq_eq_true n2) h1 ⟨_, [], rfl, ⟨a, ha0, rfl⟩, rfl⟩ s0 (hq.on g0)
      · exact h1.elim
    · exact h0.elim
  | _ => exact h0.elim
/-! ### properties -/
section
variable (P : Program) (w : World) (K : PySem.W.Frag) (mg : Str → Option Value) (base : Heap)
def FnP (C : Addr) (f : Str) (k : Nat) (sp : Sp) : Prop := ∃ p g fd ps, FnOk P w K mg base (L2.CX P w) k g fd ps sp ∧ L2.Cls K C ∧ PropOf K C f p g ∧ Binds K fd ps []
end
def rProp0 (c : Cl) (pc : PC) (ro : RE) : RE := fun ds S q x => ro ds S (fun d S1 => match d with
  | .obj c' xs => (match decide (c' = c) with
    | true => pc [.obj c' xs] (fun d => q d S1) fun _ => False
    | false => False)
  | _ => False) x
theorem je_prop0 {c : Cl} {pc : PC} (G : FnP X.prog X.w X.K X.mg X.base c.adr f k (sp0 X.K 1 pc)) (hr : Room (k + 1) X.A) (ho : JE X W o ro) (hb : attributeBase o f X.env (eval o X.env) = eval o X.env := by rfl) :
    JE X W (.Attribute o f pos) (rProp0 c pc ro) := by
  obtain ⟨p, g, fd, ps, F, hc, hp, hbi⟩ := G
  refine pe_weak (pe_prop (dvs := []) (ds := []) (E := E0) ho hc hp F hr hbi .nil passL hb) fun σ H Q ⟨L, F, S, ds, q, x, env, sto, h, hq, hx⟩ => ?_
  refine upE.bind env sto h hx fun d S0 v L0 F0 H0 h0 g0 env0 i0 s0 => ?_
  cases d with
  | obj c' xs =>
    simp only at h0
    split at h0
    · rename_i hcl
      have hcl := of_decide_eq_true hcl
      subst hcl
      obtain ⟨a, dx, vs, rfl, e2, e3⟩ := id i0
      refine ⟨a, dx, _, rfl, s0.ex _ _ e2, F0, [.obj c' xs], _, _, s0.ex, ⟨_, [], rfl, i0, rfl⟩, rfl, h0, fun d hd v F' H' g i' => hq d S0 hd v L0 F' H' (g0.trans g.go) (.of i') (g.sto s0), fun _ z => z.elim⟩
    · exact h0.elim
  | _ => exact h0.elim
def rProp1 (c : Cl) (pc : PC1) (ro : RE) : RE := fun ds S q x => ro ds S (fun d S1 => match d with
  | .loc k => (match S1[k]? with
    | some (.ins c' xs) => (match decide (c' = c) with
      | true => noLoc xs = true ∧ pc [] (.ins c' xs) (fun d c1 => q d (S1.set k c1)) fun _ _ => False
      | false => False)
    | _ => False)
  | _ => False) x
theorem je_prop1 {c : Cl} {pc : PC1} (G : FnP X.prog X.w X.K X.mg X.base c.adr f k (sp1 X.K 0 pc)) (hr : Room (k + 1) X.A) (ho : JE X W o ro) (hb : attributeBase o f X.env (eval o X.env) = eval o X.env := by rfl) :
    JE X W (.Attribute o f pos) (rProp1 c pc ro) := by
  obtain ⟨p, g, fd, ps, F, hc, hp, hbi⟩ := G
  refine pe_weak (pe_prop (dvs := []) (ds := []) (E := E0) ho hc hp F hr hbi .nil passL hb) fun σ H Q ⟨L, F, S, ds, q, x, env, sto, h, hq, hx⟩ => ?_
  refine upE.bind env sto h hx fun d S0 v L0 F0 H0 h0 g0 env0 i0 s0 => ?_
  cases d with
  | loc k =>
    obtain ⟨a, ha0, rfl⟩ := i0
    simp only at h0
    split at h0
    · rename_i c' xs hS
      split at h0
      · rename_i hcl
        have hcl := of_decide_eq_true hcl
        subst hcl
        obtain ⟨_, dx, vs, hcell, _⟩ := s0.cel k _ a hS ha0 (fun z => by cases z)
        refine ⟨a, dx, _, rfl, hcell, ?_⟩
        exact sp1_up2 (x := fun _ _ => False) ha0 hS rfl h0.1 rfl h0.2 rfl s0 (hq.on g0) fun _ _ z => z.elim
      · exact h0.elim
    · exact h0.elim
  | _ => exact h0.elim
/-! ### instances made -/
theorem Sto.made {K : PySem.W.Frag} {L : List Addr} {F H : Hp} {S : List Cell} (s : Sto K L F H S) {c : Cl} {a dx : Addr} (h1 : H a = none) (h2 : H dx = none) (h3 : dx ≠ a) : Sto K [a] F (upd (upd H dx (.own a)) a (.ins c.adr dx [])) [.ins c []] := by
  have h1' : upd H dx (.own a) a = none := by rw [upd_ne (Ne.symm h3)]; exact h1
  refine ⟨s.ex.trans ((Ex.new h2).trans (Ex.new h1')), rfl, by simp, fun b hb z => ?_, fun n c' b e1 e2 _ => ?_⟩
  · rw [List.mem_singleton.mp hb, upd_same] at z; cases z
  · cases n with
    | zero =>
      simp at e1 e2
      subst e1 e2
      exact ⟨s.fnone h1, dx, [], by rw [upd_same]; simp, rfl⟩
    | succ n => simp at e1
/-- C(..): frozen at once -/
def rMakeF (c : Cl) (n : Nat) (pc : PI_) (rr : RA) : RE := fun ds S q x => rr ds S (fun es S1 => match noLoc es && Nat.beq es.length n with
  | true => pc es fun S' => match S' with
    | .ins c' xs :: _ => (match decide (c' = c) with
      | true => noLoc xs = true ∧ q (.obj c xs) S1
      | false => False)
    | _ => False
  | false => False) x
theorem Gr.freeze {K : PySem.W.Frag} {F H F' H' : Hp} {L : List Addr} {S : List Cell} {a : Addr} (g : Gr F H F' H') (ha : H a = none) {o : HO} (hn : F' a = none) (ho : H' a = some o) : Gr F H (upd F' a o) H' :=
  ⟨g.ff.trans (Ex.new hn), g.hh, fun b u e => by
    by_cases z : b = a
    · subst z; rw [upd_same] at e; rw [ho]; exact e
    · rw [upd_ne z] at e; exact g.fh b u e, fun b e => by
    by_cases z : b = a
    · subst z; exact .inr ha
    · rw [upd_ne z] at e; exact g.new b e⟩
theorem made_gr {F H F' H' : Hp} {L' : List Addr} {c : Cl} {a dx : Addr} (h1 : H a = none) (h2 : H dx = none) (h3 : dx ≠ a) (fh : Ex F' H') (g : Go [a] F (upd (upd H dx (.own a)) a (.ins c.adr dx [])) L' F' H') : Gr F H F' H' := by
  have h1' : upd H dx (.own a) a = none := by rw [upd_ne (Ne.symm h3)]; exact h1
  refine ⟨g.ff, fun b o h => g.keep b o ((Ex.new h2).trans (Ex.new h1') b o h) (by rw [List.mem_singleton]; exact fun z => by subst z; rw [h1] at h; cases h), fh, fun b h => ?_⟩
  rcases g.new b h with z | z | z
  · exact .inl z
  · by_cases e : b = a
    · rw [e]; exact .inr h1
    · rw [upd_ne e] at z
      by_cases e2 : b = dx
      · rw [e2]; exact .inr h2
      · rw [upd_ne e2] at z; exact .inr z
  · rw [List.mem_singleton.mp z]; exact .inr h1
theorem je_makeF {c : Cl} {pc : PI_} (G : FnC X.prog X.w X.K X.mg X.base x c.adr k (spI X.K n c pc)) (hr : Room (k + 1) X.A) (hg : Gl X x) (ha : JA X W (e :: es) rr) (hdb : (x == ("__debug__" : Str)) = false := by decide)
    (he : starEach (e :: es) X.env = (false, eval e X.env) :: starEach es X.env := by rfl) (hpl : (backTo pos (starEach es X.env)).any (·.1) = false := by rfl) : JE X W (.Call (.Name x p) (e :: es) [] pos) (rMakeF c n pc rr) := by
  obtain ⟨f, fd, ps, F, hM, hm, hb⟩ := G
  refine pe_weak (pe_make (dvs := []) (ds := []) (E := E0) hM F hr hg hm hb .nil passL ha hdb he hpl) fun σ H Q ⟨L, F, S, ds, q, x, env, sto, h, hq, hx⟩ => ?_
  refine upA.bind env sto h hx fun es S1 us L1 F1 H1 h1 g1 env1 i1 s1 => ?_
  intro a dx na ndx ne
  split at h1
  · rename_i hn
    obtain ⟨n1, n2⟩ := Bool.and_eq_true_iff.mp hn
    rw [List.append_nil]
    refine ⟨a, us, F1, es, _, rfl, s1.made na ndx ne, i1.un n1, Nat.eq_of_beq_eq_true n2, h1, fun S' hS' L' F' H' g s' => ⟨rfl, ?_⟩⟩
    split at hS'
    · rename_i c' xs r
      split at hS'
      · rename_i hc
        have hc := of_decide_eq_true hc
        subst hc
        have gr := made_gr na ndx ne s'.ex g
        have haL : L'[0]? = some a := by
          obtain ⟨M, eM, _⟩ := g.pre
          rw [eM]; rfl
        obtain ⟨z1, dx', vs, z2, z3⟩ := s'.cel 0 _ a rfl haL (fun z => by cases z)
        have gf := Gr.freeze (K := X.K) (L := L') (S := S1) gr na z1 z2
        exact hq _ S1 hS'.2 _ L1 _ H' (g1.trans gf.go) ⟨a, dx', vs, rfl, upd_same, IsL.mono (Ex.new z1) _ _ (z3.un hS'.1)⟩ (gf.sto s1)
      · exact hS'.elim
    · exact hS'.elim
  · exact h1.elim
/-- C(..): a new cell -/
def rMakeO (c : Cl) (n : Nat) (pc : PI_) (rr : RA) : RE := fun ds S q x => rr ds S (fun es S1 => match noLoc es && Nat.beq es.length n with
  | true => pc es fun S' => match S' with
    | .ins c' xs :: _ => noLoc xs = true ∧ q (.loc S1.length) (S1 ++ [.ins c' xs])
    | _ => False
  | false => False) x
theorem je_makeO {c : Cl} {pc : PI_} (G : FnC X.prog X.w X.K X.mg X.base x c.adr k (spI X.K n c pc)) (hr : Room (k + 1) X.A) (hg : Gl X x) (ha : JA X W (e :: es) rr) (hdb : (x == ("__debug__" : Str)) = false := by decide)
    (he : starEach (e :: es) X.env = (false, eval e X.env) :: starEach es X.env := by rfl) (hpl : (backTo pos (starEach es X.env)).any (·.1) = false := by rfl) : JE X W (.Call (.Name x p) (e :: es) [] pos) (rMakeO c n pc rr) := by
  obtain ⟨f, fd, ps, F, hM, hm, hb⟩ := G
  refine pe_weak (pe_make (dvs := []) (ds := []) (E := E0) hM F hr hg hm hb .nil passL ha hdb he hpl) fun σ H Q ⟨L, F, S, ds, q, x, env, sto, h, hq, hx⟩ => ?_
  refine upA.bind env sto h hx fun es S1 us L1 F1 H1 h1 g1 env1 i1 s1 => ?_
  intro a dx na ndx ne
  split at h1
  · rename_i hn
    obtain ⟨n1, n2⟩ := Bool.and_eq_true_iff.mp hn
    rw [List.append_nil]
    refine ⟨a, us, F1, es, _, rfl, s1.made na ndx ne, i1.un n1, Nat.eq_of_beq_eq_true n2, h1, fun S' hS' L' F' H' g s' => ⟨rfl, ?_⟩⟩
    split at hS'
    · rename_i c' xs r
      have gr := made_gr na ndx ne s'.ex g
      have haL : L'[0]? = some a := by
        obtain ⟨M, eM, _⟩ := g.pre
        rw [eM]; rfl
      obtain ⟨z1, z2⟩ := s'.cel 0 _ a rfl haL (fun z => by cases z)
      have z2 := z2.un (show cellNoLoc (.ins c' xs) from hS'.1)
      have s2 := gr.sto s1
      have g2 : Go L1 F1 H1 (L1 ++ [a]) F' H' := by
        refine ⟨⟨[a], rfl, fun b hb => by rw [List.mem_singleton.mp hb]; exact na⟩, gr.ff, fun b o h _ => gr.hh b o h, gr.go (L := L1) |>.there, fun b h => (gr.new b h).elim .inl fun z => .inr (.inl z)⟩
      have hl : a ∉ L1 := fun z => s1.al a z na
      refine hq _ _ hS'.2 _ _ F' H' (g1.trans g2) ⟨a, by rw [← s1.len, List.getElem?_append_right (Nat.le_refl _)]; simp, rfl⟩ ⟨s'.ex, by simp [s1.len], ?_, fun b hb => ?_, fun j c b e1 e2 e3 => ?_⟩
      · rw [List.nodup_append]
        exact ⟨s1.nd, by simp, fun b hb d hd => by rw [List.mem_singleton.mp hd]; exact fun z => hl (z ▸ hb)⟩
      · rcases List.mem_append.mp hb with q | q
        · exact s2.al b q
        · rw [List.mem_singleton.mp q]; exact z2.there fun z => by cases z
      · by_cases hj : j < L1.length
        · rw [List.getElem?_append_left hj] at e2
          rw [List.getElem?_append_left (by rw [← s1.len]; exact hj)] at e1
          obtain ⟨y1, y2⟩ := s2.cel j c b e1 e2 e3
          exact ⟨y1, y2.pre⟩
        · rw [List.getElem?_append_right (by omega)] at e2
          rw [List.getElem?_append_right (by rw [← s1.len]; omega), ← s1.len] at e1
          have e0 : j - L1.length = 0 := by
            have := (List.getElem?_eq_some_iff.mp e2).1
            simp at this; omega
          rw [e0] at e1 e2
          simp at e1 e2
          subst e1 e2
          exact ⟨z1, z2.up⟩
    · exact hS'.elim
  · exact h1.elim
end
end DL
end

section
set_option maxHeartbeats 4000000
namespace DL
open PySem L2
/-! ### data for == -/
mutual
def toPy : D → PyData
  | .bl b => .bool b
  | .int i => .int i
  | .str x => .str x
  | .tup xs => .tuple (toPys xs)
  | .lst xs => .list (toPys xs)
  | _ => .none
def toPys : List D → List PyData
  | [] => []
  | d :: r => toPy d :: toPys r
end
mutual
/-- made of None, ints, tuples, lists, at most so deep -/
def okE : Nat → D → Bool
  | _, .non => true
  | _, .int _ => true
  | n, .tup xs => Nat.blt 0 n && okEs (n - 1) xs
  | n, .lst xs => Nat.blt 0 n && okEs (n - 1) xs
  | _, _ => false
def okEs : Nat → List D → Bool
  | _, [] => true
  | n, d :: r => okE n d && okEs n r
end
section
variable {K : PySem.W.Frag} {F H : Hp}
mutual
theorem toPy_dp (e : Ex F H) : ∀ (n : Nat) (d : D) (v : V), okE n d = true → Is K F d v → Dp K H v (toPy d)
  | _, .non, _, _, h => by rw [show _ = V.non from h]; exact .non
  | _, .int i, _, _, h => by rw [show _ = V.int i from h]; exact .int i
  | n, .tup ds, _, o, ⟨a, vs, h1, h2, h3⟩ => by rw [h1]; exact .tup (.of (e _ _ h2)) (toPys_dp e _ ds vs (Bool.and_eq_true_iff.mp (show (Nat.blt 0 n && okEs (n - 1) ds) = true from o)).2 h3)
  | n, .lst ds, _, o, ⟨a, vs, h1, h2, h3⟩ => by rw [h1]; exact .lst (.of (e _ _ h2)) (toPys_dp e _ ds vs (Bool.and_eq_true_iff.mp (show (Nat.blt 0 n && okEs (n - 1) ds) = true from o)).2 h3)
  | _, .bl b, _, o, _ => by cases o
  | _, .str _, _, o, _ => by cases o
  | _, .ty _, _, o, _ => by cases o
  | _, .adr _, _, o, _ => by cases o
  | _, .any, _, o, _ => by cases o
  | _, .scr _, _, o, _ => by cases o
  | _, .obj _ _, _, o, _ => by cases o
  | _, .loc _, _, o, _ => by cases o
  | _, .txt _, _, o, _ => by cases o
  | _, .fn _, _, o, _ => by cases o
theorem toPys_dp (e : Ex F H) : ∀ (n : Nat) (ds : List D) (vs : List V), okEs n ds = true → IsL K F ds vs → DpAll K H vs (toPys ds)
  | _, [], _, _, h => by rw [show _ = ([] : List V) from h]; exact .nil
  | n, d :: ds, _, o, ⟨v, r, h1, h2, h3⟩ => by
    obtain ⟨o1, o2⟩ := Bool.and_eq_true_iff.mp (show (okE n d && okEs n ds) = true from o)
    rw [h1]; exact .cons (toPy_dp e n d v o1 h2) (toPys_dp e n ds r o2 h3)
end
mutual
theorem toPy_lay : ∀ (n : Nat) (d : D), okE n d = true → (toPy d).canLay0 = true ∧ (toPy d).depth ≤ n
  | _, .non, _ => ⟨rfl, Nat.zero_le _⟩
  | _, .int i, _ => ⟨rfl, Nat.zero_le _⟩
  | n, .tup ds, o => by
    obtain ⟨o1, o2⟩ := Bool.and_eq_true_iff.mp (show (Nat.blt 0 n && okEs (n - 1) ds) = true from o)
    have o1 := Nat.le_of_ble_eq_true o1
    obtain ⟨h1, h2⟩ := toPys_lay _ ds o2
    exact ⟨h1, show PyData.depthAll (toPys ds) + 1 ≤ n by omega⟩
  | n, .lst ds, o => by
    obtain ⟨o1, o2⟩ := Bool.and_eq_true_iff.mp (show (Nat.blt 0 n && okEs (n - 1) ds) = true from o)
    have o1 := Nat.le_of_ble_eq_true o1
    obtain ⟨h1, h2⟩ := toPys_lay _ ds o2
    exact ⟨h1, show PyData.depthAll (toPys ds) + 1 ≤ n by omega⟩
  | _, .bl _, o => by cases o
  | _, .str _, o => by cases o
  | _, .ty _, o => by cases o
  | _, .adr _, o => by cases o
  | _, .any, o => by cases o
  | _, .scr _, o => by cases o
  | _, .obj _ _, o => by cases o
  | _, .loc _, o => by cases o
  | _, .txt _, o => by cases o
  | _, .fn _, o => by cases o
theorem toPys_lay : ∀ (n : Nat) (ds : List D), okEs n ds = true → PyData.canLayAll0 (toPys ds) = true ∧ PyData.depthAll (toPys ds) ≤ n
  | _, [], _ => ⟨rfl, Nat.zero_le _⟩
  | n, d :: ds, o => by
    obtain ⟨o1, o2⟩ := Bool.and_eq_true_iff.mp (show (okE n d && okEs n ds) = true from o)
    obtain ⟨a1, a2⟩ := toPy_lay n d o1
    obtain ⟨b1, b2⟩ := toPys_lay n ds o2
    exact ⟨Bool.and_eq_true_iff.mpr ⟨a1, b1⟩, Nat.max_le.mpr ⟨a2, b2⟩⟩
end
theorem toPy_shaped {n : Nat} {d : D} (o : okE n d = true) (h : n ≤ 64) : SeqAt.shaped (toPy d) = true := by
  obtain ⟨a, b⟩ := toPy_lay n d o
  exact Bool.and_eq_true_iff.mpr ⟨a, decide_eq_true (Nat.le_trans b h)⟩
end
mutual
/-- are they the same -/
def eqb : D → D → Bool
  | .non, .non => true
  | .int a, .int b => a == b
  | .tup a, .tup b => eqbs a b
  | .lst a, .lst b => eqbs a b
  | _, _ => false
def eqbs : List D → List D → Bool
  | [], [] => true
  | a :: r, b :: t => eqb a b && eqbs r t
  | _, _ => false
end
mutual
theorem eqb_py : ∀ (n m : Nat) (d e : D), okE n d = true → okE m e = true → PyData.eqv (toPy d) (toPy e) = eqb d e
  | _, _, .non, .non, _, _ => rfl
  | _, _, .non, .int _, _, _ => rfl
  | _, _, .non, .tup _, _, _ => rfl
  | _, _, .non, .lst _, _, _ => rfl
  | _, _, .int _, .non, _, _ => rfl
  | _, _, .int _, .int _, _, _ => rfl
  | _, _, .int _, .tup _, _, _ => rfl
  | _, _, .int _, .lst _, _, _ => rfl
  | _, _, .tup _, .non, _, _ => rfl
  | _, _, .tup _, .int _, _, _ => rfl
  | n, m, .tup a, .tup b, o, o' => eqbs_py (n - 1) (m - 1) a b (Bool.and_eq_true_iff.mp (show (Nat.blt 0 n && okEs (n - 1) a) = true from o)).2 (Bool.and_eq_true_iff.mp (show (Nat.blt 0 m && okEs (m - 1) b) = true from o')).2
  | _, _, .tup _, .lst _, _, _ => rfl
  | _, _, .lst _, .non, _, _ => rfl
  | _, _, .lst _, .int _, _, _ => rfl
  | _, _, .lst _, .tup _, _, _ => rfl
  | n, m, .lst a, .lst b, o, o' => eqbs_py (n - 1) (m - 1) a b (Bool.and_eq_true_iff.mp (show (Nat.blt 0 n && okEs (n - 1) a) = true from o)).2 (Bool.and_eq_true_iff.mp (show (Nat.blt 0 m && okEs (m - 1) b) = true from o')).2
  | _, _, .bl _, _, o, _ => by cases o
  | _, _, .str _, _, o, _ => by cases o
  | _, _, .ty _, _, o, _ => by cases o
  | _, _, .adr _, _, o, _ => by cases o
  | _, _, .any, _, o, _ => by cases o
  | _, _, .scr _, _, o, _ => by cases o
  | _, _, .obj _ _, _, o, _ => by cases o
  | _, _, .loc _, _, o, _ => by cases o
  | _, _, .txt _, _, o, _ => by cases o
  | _, _, .fn _, _, o, _ => by cases o
  | _, _, _, .bl _, _, o => by cases o
  | _, _, _, .str _, _, o => by cases o
  | _, _, _, .ty _, _, o => by cases o
  | _, _, _, .adr _, _, o => by cases o
  | _, _, _, .any, _, o => by cases o
  | _, _, _, .scr _, _, o => by cases o
  | _, _, _, .obj _ _, _, o => by cases o
  | _, _, _, .loc _, _, o => by cases o
  | _, _, _, .txt _, _, o => by cases o
  | _, _, _, .fn _, _, o => by cases o
theorem eqbs_py : ∀ (n m : Nat) (ds es : List D), okEs n ds = true → okEs m es = true → PyData.eqvAll (toPys ds) (toPys es) = eqbs ds es
  | _, _, [], [], _, _ => rfl
  | _, _, [], _ :: _, _, _ => rfl
  | _, _, _ :: _, [], _, _ => rfl
  | n, m, d :: ds, e :: es, o, o' => by
    obtain ⟨o1, o2⟩ := Bool.and_eq_true_iff.mp (show (okE n d && okEs n ds) = true from o)
    obtain ⟨q1, q2⟩ := Bool.and_eq_true_iff.mp (show (okE m e && okEs m es) = true from o')
    show (PyData.eqv (toPy d) (toPy e) && PyData.eqvAll (toPys ds) (toPys es)) = (eqb d e && eqbs ds es)
    rw [eqb_py n m d e o1 q1, eqbs_py n m ds es o2 q2]
end
mutual
theorem eqb_rfl : ∀ (n : Nat) (d : D), okE n d = true → eqb d d = true
  | _, .non, _ => rfl
  | _, .int i, _ => by show (i == i) = true; simp
  | n, .tup ds, o => eqbs_rfl _ ds (Bool.and_eq_true_iff.mp (show (Nat.blt 0 n && okEs (n - 1) ds) = true from o)).2
  | n, .lst ds, o => eqbs_rfl _ ds (Bool.and_eq_true_iff.mp (show (Nat.blt 0 n && okEs (n - 1) ds) = true from o)).2
  | _, .bl _, o => by cases o
  | _, .str _, o => by cases o
  | _, .ty _, o => by cases o
  | _, .adr _, o => by cases o
  | _, .any, o => by cases o
  | _, .scr _, o => by cases o
  | _, .obj _ _, o => by cases o
  | _, .loc _, o => by cases o
  | _, .txt _, o => by cases o
  | _, .fn _, o => by cases o
theorem eqbs_rfl : ∀ (n : Nat) (ds : List D), okEs n ds = true → eqbs ds ds = true
  | _, [], _ => rfl
  | n, d :: ds, o => by
    obtain ⟨o1, o2⟩ := Bool.and_eq_true_iff.mp (show (okE n d && okEs n ds) = true from o)
    exact Bool.and_eq_true_iff.mpr ⟨eqb_rfl n d o1, eqbs_rfl n ds o2⟩
end
mutual
theorem eqb_eq : ∀ (d e : D), eqb d e = true → d = e
  | .non, e, h => by cases e <;> first | rfl | cases h
  | .int a, e, h => by
    cases e with
    | int b => rw [eq_of_beq (show (a == b) = true from h)]
    | _ => cases h
  | .tup a, e, h => by
    cases e with
    | tup b => rw [eqbs_eq a b h]
    | _ => cases h
  | .lst a, e, h => by
    cases e with
    | lst b => rw [eqbs_eq a b h]
    | _ => cases h
  | .bl _, e, h => by cases e <;> cases h
  | .str _, e, h => by cases e <;> cases h
  | .ty _, e, h => by cases e <;> cases h
  | .adr _, e, h => by cases e <;> cases h
  | .any, e, h => by cases e <;> cases h
  | .scr _, e, h => by cases e <;> cases h
  | .obj _ _, e, h => by cases e <;> cases h
  | .loc _, e, h => by cases e <;> cases h
  | .txt _, e, h => by cases e <;> cases h
  | .fn _, e, h => by cases e <;> cases h
theorem eqbs_eq : ∀ (ds es : List D), eqbs ds es = true → ds = es
  | [], [], _ => rfl
  | [], _ :: _, h => by cases h
  | _ :: _, [], h => by cases h
  | d :: ds, e :: es, h => by
    obtain ⟨h1, h2⟩ := Bool.and_eq_true_iff.mp (show (eqb d e && eqbs ds es) = true from h)
    rw [eqb_eq d e h1, eqbs_eq ds es h2]
end
theorem eqb_iff {n : Nat} {d e : D} (o : okE n d = true) : eqb d e = true ↔ d = e := ⟨eqb_eq d e, fun h => by rw [← h]; exact eqb_rfl n d o⟩
theorem okEs_map {α : Type} {n : Nat} {f : α → D} (h : ∀ x, okE n (f x) = true) : ∀ xs : List α, okEs n (xs.map f) = true
  | [] => rfl
  | x :: xs => Bool.and_eq_true_iff.mpr ⟨h x, okEs_map h xs⟩
end DL
end

section
set_option maxHeartbeats 4000000
namespace DL
open PySem L2
section
variable {X : Cx} {W : WX}
/-- the length of a text that is told -/
def tlen : D → Option Nat
  | .str x => some x.length
  | .txt n => some n
  | _ => none
theorem tlen_ok {K : PySem.W.Frag} {L : List Addr} {F : Hp} {d : D} {v : V} {n : Nat} (h : tlen d = some n) (i : IsD K L F d v) : ∃ z : Str, v = .str z ∧ z.length ≤ n := by
  cases d with
  | str x => cases h; exact ⟨x, i, Nat.le_refl _⟩
  | txt m => cases h; exact i
  | _ => cases h
/-! ### operators -/
def oAdd : OD := fun d e S q => match d, e with
  | .int i, .int j => q (.int (i + j)) S
  | .lst a, .lst b => a.length + b.length ≤ 100000 ∧ q (.lst (a ++ b)) S
  | .tup a, .tup b => a.length + b.length ≤ 100000 ∧ q (.tup (a ++ b)) S
  | d, e => ∃ n m, tlen d = some n ∧ tlen e = some m ∧ n + m ≤ 1000000 ∧ q (.txt (n + m)) S
theorem isl_ne {K : PySem.W.Frag} {F : Hp} {ds : List D} {vs : List V} (i : IsL K F ds vs) : vs = [] ↔ ds = [] := by
  rw [← List.length_eq_zero_iff, i.length, List.length_eq_zero_iff]
theorem op_addD : OpR X (binaryOp .Add) (upO X.K oAdd) := by
  intro pins s σ H x y v u Q I rx ry h
  obtain ⟨L, F, S, d, e, q, i1, i2, st, h, hq⟩ := h
  have gen : (∃ n m, tlen d = some n ∧ tlen e = some m ∧ n + m ≤ 1000000 ∧ q (.txt (n + m)) S) → wpAny (model X.prog X.w) X.A (binaryOp .Add v u) (EP X pins σ Q) X.xe s := by
    rintro ⟨n, m, h1, h2, h3, h4⟩
    obtain ⟨z, rfl, hz⟩ := tlen_ok h1 i1
    obtain ⟨z', rfl, hz'⟩ := tlen_ok h2 i2
    have hl : z.length + z'.length ≤ sizeLine := Nat.le_trans (Nat.add_le_add hz hz') (Nat.le_trans h3 (by decide))
    refine op_add_str pins s σ H _ _ v u Q I rx ry ⟨z, z', rfl, rfl, hl, hq _ S h4 _ L F H .refl ⟨_, rfl, ?_⟩ st⟩
    show (z.cps ++ z'.cps).size ≤ n + m
    rw [Array.size_append]
    exact Nat.add_le_add hz hz'
  cases d with
  | int i =>
    cases e with
    | int j => exact op_add pins s σ H x y v u Q I rx ry ⟨i, j, i1, i2, hq _ S h _ L F H .refl rfl st⟩
    | _ => exact gen h
  | lst a =>
    cases e with
    | lst b =>
      obtain ⟨p, vs, e1, e2, e3⟩ := i1
      obtain ⟨p', ws, f1, f2, f3⟩ := i2
      refine op_cat pins s σ H x y v u Q I rx ry ⟨p, p', vs, ws, e1, f1, st.ex _ _ e2, st.ex _ _ f2, by rw [e3.length, f3.length]; exact sz5 h.1, fun r hr => ?_⟩
      exact hq _ S h.2 _ L _ _ (Go.new_ st hr) ⟨r, _, rfl, upd_same, IsL.mono (Ex.new (st.fnone hr)) _ _ (e3.append f3)⟩ (st.new_ hr)
    | _ => exact gen h
  | tup a =>
    cases e with
    | tup b =>
      obtain ⟨p, vs, e1, e2, e3⟩ := id i1
      obtain ⟨p', ws, f1, f2, f3⟩ := id i2
      refine op_catA pins s σ H x y v u Q I rx ry ⟨p, p', vs, ws, e1, f1, .of (st.ex _ _ e2), .of (st.ex _ _ f2), by rw [e3.length, f3.length]; exact sz5 h.1, fun z => ?_, fun _ z => ?_, fun _ _ r hr => ?_⟩
      · have z' := (isl_ne e3).mp z
        subst z'
        exact hq _ S h.2 _ L F H .refl (f1 ▸ i2) st
      · have z' := (isl_ne f3).mp z
        subst z'
        have h2 := h.2
        rw [List.append_nil] at h2
        exact hq _ S h2 _ L F H .refl (e1 ▸ i1) st
      · exact hq _ S h.2 _ L _ _ (Go.new_ st hr) ⟨r, _, rfl, upd_same, IsL.mono (Ex.new (st.fnone hr)) _ _ (e3.append f3)⟩ (st.new_ hr)
    | _ => exact gen h
  | _ => first | exact gen h | (cases e <;> exact gen h)
def oInt (C : Int → Int → Prop) (g : Int → Int → D) : OD := fun d e S q => match d, e with
  | .int i, .int j => C i j ∧ q (g i j) S
  | _, _ => False
def oInt0 (g : Int → Int → D) : OD := fun d e S q => match d, e with
  | .int i, .int j => q (g i j) S
  | _, _ => False
theorem oInt_ok {f : Value → Value → Sem Value} {C : Int → Int → Prop} {g : Int → Int → V} {gd : Int → Int → D} (h : OpR X f (rI C g)) (hg : ∀ i j F, Is X.K F (gd i j) (g i j)) : OpR X f (upO X.K (oInt C gd)) := by
  intro pins s σ H x y v u Q I rx ry hh
  obtain ⟨L, F, S, d, e, q, i1, i2, st, hh, hq⟩ := hh
  cases d with
  | int i => cases e with
    | int j => exact h pins s σ H x y v u Q I rx ry ⟨i, j, i1, i2, hh.1, hq _ S hh.2 _ L F H .refl (.of (hg i j F)) st⟩
    | _ => exact hh.elim
  | _ => cases e <;> exact hh.elim
theorem oInt0_ok {f : Value → Value → Sem Value} {g : Int → Int → V} {gd : Int → Int → D} (h : OpR X f (rI0 g)) (hg : ∀ i j F, Is X.K F (gd i j) (g i j)) : OpR X f (upO X.K (oInt0 gd)) := by
  intro pins s σ H x y v u Q I rx ry hh
  obtain ⟨L, F, S, d, e, q, i1, i2, st, hh, hq⟩ := hh
  cases d with
  | int i => cases e with
    | int j => exact h pins s σ H x y v u Q I rx ry ⟨i, j, i1, i2, hq _ S hh _ L F H .refl (.of (hg i j F)) st⟩
    | _ => exact hh.elim
  | _ => cases e <;> exact hh.elim
abbrev oSub : OD := oInt0 fun i j => .int (i - j)
abbrev oFdiv : OD := oInt CDivW fun i j => .int (i / j)
abbrev oMod : OD := oInt (fun _ j => 0 < j) fun i j => .int (i % j)
abbrev oPow : OD := oInt CPow fun i j => .int (i ^ j.toNat)
abbrev oShl : OD := oInt CPow fun i j => .int (i * 2 ^ j.toNat)
abbrev oShr : OD := oInt (fun _ j => 0 ≤ j) fun i j => .int (i / 2 ^ j.toNat)
abbrev oAnd : OD := oInt0 fun i j => .int (Builtin.bitAnd i j)
abbrev oLt : OD := oInt0 fun i j => .bl (decide (i < j))
abbrev oLe : OD := oInt0 fun i j => .bl (decide (i ≤ j))
abbrev oGt : OD := oInt0 fun i j => .bl (decide (j < i))
abbrev oGe : OD := oInt0 fun i j => .bl (decide (j ≤ i))
theorem op_subD : OpR X (binaryOp .Sub) (upO X.K oSub) := oInt0_ok op_sub fun _ _ _ => rfl
theorem op_fdivD : OpR X (binaryOp .FloorDiv) (upO X.K oFdiv) := oInt_ok op_fdivW fun _ _ _ => rfl
theorem op_modD : OpR X (binaryOp .Mod) (upO X.K oMod) := oInt_ok op_mod fun _ _ _ => rfl
theorem op_powD : OpR X (binaryOp .Pow) (upO X.K oPow) := oInt_ok op_pow fun _ _ _ => rfl
theorem op_shlD : OpR X (binaryOp .LShift) (upO X.K oShl) := oInt_ok op_shl fun _ _ _ => rfl
theorem op_shrD : OpR X (binaryOp .RShift) (upO X.K oShr) := oInt_ok op_shr fun _ _ _ => rfl
theorem op_andD : OpR X (binaryOp .BitAnd) (upO X.K oAnd) := oInt0_ok op_and fun _ _ _ => rfl
theorem op_ltD : OpR X (compareOp .Lt) (upO X.K oLt) := oInt0_ok op_lt fun _ _ _ => rfl
theorem op_leD : OpR X (compareOp .LtE) (upO X.K oLe) := oInt0_ok op_le fun _ _ _ => rfl
theorem op_gtD : OpR X (compareOp .Gt) (upO X.K oGt) := oInt0_ok op_gt fun _ _ _ => rfl
theorem op_geD : OpR X (compareOp .GtE) (upO X.K oGe) := oInt0_ok op_ge fun _ _ _ => rfl
/-- a * b: ints; a list, a tuple so many times -/
def oMul : OD := fun d e S q => match d, e with
  | .int i, .int j => CMulW i j ∧ q (.int (i * j)) S
  | .lst a, .int k => (0 ≤ k ∧ k ≤ 10000 ∧ a.length * k.toNat ≤ 100000) ∧ q (.lst (List.replicate k.toNat a).flatten) S
  | .tup a, .int k => (a ≠ [] ∧ 2 ≤ k ∧ k ≤ 1000 ∧ a.length ≤ 1000) ∧ q (.tup (List.replicate k.toNat a).flatten) S
  | _, _ => False
theorem isl_rep {K : PySem.W.Frag} {F : Hp} {ds : List D} {vs : List V} (i : IsL K F ds vs) : ∀ k : Nat, IsL K F (List.replicate k ds).flatten (List.replicate k vs).flatten
  | 0 => rfl
  | k + 1 => by
    rw [List.replicate_succ, List.replicate_succ, List.flatten_cons, List.flatten_cons]
    exact i.append (isl_rep i k)
theorem op_mulD : OpR X (binaryOp .Mult) (upO X.K oMul) := by
  intro pins s σ H x y v u Q I rx ry h
  obtain ⟨L, F, S, d, e, q, i1, i2, st, h, hq⟩ := h
  cases d with
  | int i =>
    cases e with
    | int j => exact op_mulW pins s σ H x y v u Q I rx ry ⟨i, j, i1, i2, h.1, hq _ S h.2 _ L F H .refl rfl st⟩
    | _ => exact h.elim
  | lst a =>
    cases e with
    | int k =>
      obtain ⟨p, vs, e1, e2, e3⟩ := i1
      obtain ⟨⟨k1, k2, k3⟩, h⟩ := h
      refine op_rep pins s σ H x y v u Q I rx ry ⟨p, k, vs, e1, i2, st.ex _ _ e2, by omega, by omega, by rw [e3.length]; exact sz5 k3, fun r hr => ?_⟩
      exact hq _ S h _ L _ _ (Go.new_ st hr) ⟨r, _, rfl, upd_same, IsL.mono (Ex.new (st.fnone hr)) _ _ (isl_rep e3 _)⟩ (st.new_ hr)
    | _ => exact h.elim
  | tup a =>
    cases e with
    | int k =>
      obtain ⟨p, vs, e1, e2, e3⟩ := i1
      obtain ⟨⟨k0, k1, k2, k3⟩, h⟩ := h
      refine op_repT pins s σ H x y v u Q I rx ry ⟨p, k, vs, e1, i2, .of (st.ex _ _ e2), fun z => k0 ((isl_ne e3).mp z), k1, k2, by rw [e3.length]; exact k3, fun r hr => ?_⟩
      exact hq _ S h _ L _ _ (Go.new_ st hr) ⟨r, _, rfl, upd_same, IsL.mono (Ex.new (st.fnone hr)) _ _ (isl_rep e3 _)⟩ (st.new_ hr)
    | _ => exact h.elim
  | _ => cases e <;> exact h.elim
/-- [a] * k, a list of one's own -/
def oRepO : OD := fun d e S q => match d, e with
  | .lst a, .int k => (0 ≤ k ∧ k ≤ 10000 ∧ a.length * k.toNat ≤ 100000) ∧ q (.loc S.length) (S ++ [.lst (List.replicate k.toNat a).flatten])
  | _, _ => False
theorem op_repO : OpR X (binaryOp .Mult) (upO X.K oRepO) := by
  intro pins s σ H x y v u Q I rx ry h
  obtain ⟨L, F, S, d, e, q, i1, i2, st, h, hq⟩ := h
  cases d with
  | lst a =>
    cases e with
    | int k =>
      obtain ⟨p, vs, e1, e2, e3⟩ := i1
      obtain ⟨⟨k1, k2, k3⟩, h⟩ := h
      refine op_rep pins s σ H x y v u Q I rx ry ⟨p, k, vs, e1, i2, st.ex _ _ e2, by omega, by omega, by rw [e3.length]; exact sz5 k3, fun r hr => ?_⟩
      have s2 : Sto X.K (L ++ [r]) F (upd H r (.lst (List.replicate k.toNat vs).flatten)) (S ++ [.lst (List.replicate k.toNat a).flatten]) := st.cell hr ⟨_, upd_same, .of (isl_rep e3 _)⟩
      exact hq _ _ h _ _ F _ (Go.cell hr) ⟨r, by rw [← st.len, List.getElem?_append_right (Nat.le_refl _)]; simp, rfl⟩ s2
    | _ => exact h.elim
  | _ => cases e <;> exact h.elim
/-- == -/
def oEq (neg : Bool) : OD := fun d e S q => match d, e with
  | .int a, .int b => q (.bl (neg ^^ decide (a = b))) S
  | .bl a, .bl b => q (.bl (neg ^^ decide (a = b))) S
  | .str a, .str b => q (.bl (neg ^^ decide (a = b))) S
  | d, e => okE 6 d = true ∧ okE 6 e = true ∧ q (.bl (neg ^^ eqb d e)) S
theorem eq_core {neg : Bool} {f : Value → Value → Sem Value} (h1 : OpR X f fun x y H Q => scal x y = true ∧ Q (.bl (neg ^^ decide (x = y))) H)
    (h2 : OpR X f fun x y H Q => ∃ d e, Dp X.K H x d ∧ Dp X.K H y e ∧ SeqAt.shaped d = true ∧ SeqAt.shaped e = true ∧ Q (.bl (neg ^^ PyData.eqv d e)) H) : OpR X f (upO X.K (oEq neg)) := by
  intro pins s σ H x y v u Q I rx ry h
  obtain ⟨L, F, S, d, e, q, i1, i2, st, h, hq⟩ := h
  have gen : okE 6 d = true ∧ okE 6 e = true ∧ q (.bl (neg ^^ eqb d e)) S → wpAny (model X.prog X.w) X.A (f v u) (EP X pins σ Q) X.xe s := by
    rintro ⟨o1, o2, h⟩
    have nl : ∀ {d : D} {x : V}, okE 6 d = true → IsD X.K L F d x → Is X.K F d x := fun {d x} o i => by
      cases d with
      | loc n => cases o
      | _ => exact i
    refine h2 pins s σ H x y v u Q I rx ry ⟨_, _, toPy_dp st.ex _ _ _ o1 (nl o1 i1), toPy_dp st.ex _ _ _ o2 (nl o2 i2), toPy_shaped o1 (by decide), toPy_shaped o2 (by decide), ?_⟩
    rw [eqb_py _ _ _ _ o1 o2]
    exact hq _ S h _ L F H .refl rfl st
  cases d with
  | int a =>
    cases e with
    | int b =>
      refine h1 pins s σ H x y v u Q I rx ry ⟨by rw [show x = .int a from i1, show y = .int b from i2]; rfl, ?_⟩
      refine hq _ S h _ L F H .refl ?_ st
      rw [show x = .int a from i1, show y = .int b from i2]
      show V.bl _ = V.bl _
      rw [show decide (V.int a = V.int b) = decide (a = b) from by simp]
    | _ => exact gen h
  | bl a =>
    cases e with
    | bl b =>
      refine h1 pins s σ H x y v u Q I rx ry ⟨by rw [show x = .bl a from i1, show y = .bl b from i2]; rfl, ?_⟩
      refine hq _ S h _ L F H .refl ?_ st
      rw [show x = .bl a from i1, show y = .bl b from i2]
      show V.bl _ = V.bl _
      rw [show decide (V.bl a = V.bl b) = decide (a = b) from by simp]
    | _ => exact gen h
  | str a =>
    cases e with
    | str b =>
      refine h1 pins s σ H x y v u Q I rx ry ⟨by rw [show x = .str a from i1, show y = .str b from i2]; rfl, ?_⟩
      refine hq _ S h _ L F H .refl ?_ st
      rw [show x = .str a from i1, show y = .str b from i2]
      show V.bl _ = V.bl _
      rw [show decide (V.str a = V.str b) = decide (a = b) from by simp]
    | _ => exact gen h
  | _ => first | exact gen h | (cases e <;> exact gen h)
theorem op_eqD' (hu : X.A.units + 64 < cLine) : OpR X (compareOp .Eq) (upO X.K (oEq false)) :=
  eq_core (fun pins s σ H x y v u Q I rx ry h => op_eq pins s σ H x y v u Q I rx ry ⟨h.1, by simpa using h.2⟩)
    (fun pins s σ H x y v u Q I rx ry ⟨d, e, a, b, c, c', h⟩ => op_eqD hu pins s σ H x y v u Q I rx ry ⟨d, e, a, b, c, c', by simpa using h⟩)
theorem op_neD' (hu : X.A.units + 64 < cLine) : OpR X (compareOp .NotEq) (upO X.K (oEq true)) :=
  eq_core (fun pins s σ H x y v u Q I rx ry h => op_ne pins s σ H x y v u Q I rx ry ⟨h.1, by simpa using h.2⟩)
    (fun pins s σ H x y v u Q I rx ry ⟨d, e, a, b, c, c', h⟩ => op_neD hu pins s σ H x y v u Q I rx ry ⟨d, e, a, b, c, c', by simpa using h⟩)
/-- is None, is not None -/
def oIsN (neg : Bool) : OD := fun d e S q => match e with
  | .non => (match d with
    | .any => False
    | .non => q (.bl (neg ^^ true)) S
    | _ => q (.bl (neg ^^ false)) S)
  | _ => False
theorem isN_core {neg : Bool} {f : Value → Value → Sem Value} (h1 : OpR X f fun x y H Q => y = .non ∧ Q (.bl (neg ^^ decide (x = .non))) H) : OpR X f (upO X.K (oIsN neg)) := by
  intro pins s σ H x y v u Q I rx ry h
  obtain ⟨L, F, S, d, e, q, i1, i2, st, h, hq⟩ := h
  cases e with
  | non =>
    refine h1 pins s σ H x y v u Q I rx ry ⟨i2, ?_⟩
    have tt : ∀ k : Bool, decide (x = .non) = k → q (.bl (neg ^^ k)) S → Q (.bl (neg ^^ decide (x = .non))) H := fun k e h => by
      rw [e]
      exact hq _ S h _ L F H .refl rfl st
    cases d with
    | any => exact h.elim
    | non => exact tt true (decide_eq_true i1) h
    | bl b => exact tt false (decide_eq_false (by rw [show x = _ from i1]; intro z; cases z)) h
    | int b => exact tt false (decide_eq_false (by rw [show x = _ from i1]; intro z; cases z)) h
    | str b => exact tt false (decide_eq_false (by rw [show x = _ from i1]; intro z; cases z)) h
    | ty b => exact tt false (decide_eq_false (by rw [show x = _ from i1]; intro z; cases z)) h
    | adr b => exact tt false (decide_eq_false (by rw [show x = _ from i1]; intro z; cases z)) h
    | tup b => obtain ⟨_, _, e1, _⟩ := i1; exact tt false (decide_eq_false (by rw [e1]; intro z; cases z)) h
    | lst b => obtain ⟨_, _, e1, _⟩ := i1; exact tt false (decide_eq_false (by rw [e1]; intro z; cases z)) h
    | scr b => obtain ⟨_, _, e1, _⟩ := i1; exact tt false (decide_eq_false (by rw [e1]; intro z; cases z)) h
    | obj c b => obtain ⟨_, _, _, e1, _⟩ := i1; exact tt false (decide_eq_false (by rw [e1]; intro z; cases z)) h
    | loc b => obtain ⟨_, _, e1⟩ := i1; exact tt false (decide_eq_false (by rw [e1]; intro z; cases z)) h
    | txt b => obtain ⟨_, e1, _⟩ := i1; exact tt false (decide_eq_false (by rw [e1]; intro z; cases z)) h
    | fn b => obtain ⟨_, _, e1, _⟩ := i1; exact tt false (decide_eq_false (by rw [e1]; intro z; cases z)) h
  | _ => exact h.elim
theorem op_isND : OpR X (compareOp .Is) (upO X.K (oIsN false)) := isN_core fun pins s σ H x y v u Q I rx ry h => op_isN pins s σ H x y v u Q I rx ry ⟨h.1, by simpa using h.2⟩
theorem op_notND : OpR X (compareOp .IsNot) (upO X.K (oIsN true)) := isN_core fun pins s σ H x y v u Q I rx ry h => op_notN pins s σ H x y v u Q I rx ry ⟨h.1, by simpa using h.2⟩
def oNeg : D → List Cell → QP → Prop := fun d S q => match d with
  | .int i => q (.int (-i)) S
  | _ => False
theorem un_negD : UnR X (unaryOp .USub) (upU X.K oNeg) := by
  intro pins s σ H x v Q I rx h
  obtain ⟨L, F, S, d, q, i1, st, h, hq⟩ := h
  cases d with
  | int i => exact un_neg pins s σ H x v Q I rx ⟨i, i1, hq _ S h _ L F H .refl rfl st⟩
  | _ => exact h.elim
/-! ### in -/
/-- an int among ints -/
def oIn (neg : Bool) : OD := fun d e S q => match d, e with
  | .int i, .lst xs => ∃ ns : List Int, xs = ns.map D.int ∧ q (.bl (neg ^^ decide (i ∈ ns))) S
  | .int i, .tup xs => ∃ ns : List Int, xs = ns.map D.int ∧ q (.bl (neg ^^ decide (i ∈ ns))) S
  | _, _ => False
theorem isl_ints {K : PySem.W.Frag} {F : Hp} : ∀ {ns : List Int} {vs : List V}, IsL K F (ns.map D.int) vs → vs = ns.map V.int
  | [], _, h => h
  | n :: ns, _, ⟨v, r, h1, h2, h3⟩ => by rw [h1, show v = V.int n from h2, isl_ints h3]; rfl
theorem isl_bls {K : PySem.W.Frag} {F : Hp} : ∀ {ns : List Bool} {vs : List V}, IsL K F (ns.map D.bl) vs → vs = ns.map V.bl
  | [], _, h => h
  | n :: ns, _, ⟨v, r, h1, h2, h3⟩ => by rw [h1, show v = V.bl n from h2, isl_bls h3]; rfl
theorem inV_ints (i : Int) (ns : List Int) : inV (.int i) (ns.map V.int) = decide (i ∈ ns) := by
  unfold inV
  rw [List.any_map, Bool.eq_iff_iff, List.any_eq_true, decide_eq_true_iff]
  constructor
  · rintro ⟨x, hx, e⟩
    have e' : (x == i) = true := e
    rw [eq_of_beq e'] at hx; exact hx
  · intro h; exact ⟨i, h, show (i == i) = true by simp⟩
theorem flat_ints (ns : List Int) : (ns.map V.int).all flatV = true := by
  rw [List.all_map, List.all_eq_true]; intro x _; rfl
theorem in_core {neg : Bool} {f : Value → Value → Sem Value} (h1 : OpR X f (rIn X.K neg)) : OpR X f (upO X.K (oIn neg)) := by
  intro pins s σ H x y v u Q I rx ry h
  obtain ⟨L, F, S, d, e, q, i1, i2, st, h, hq⟩ := h
  have fin : ∀ {i : Int} {ns : List Int}, q (.bl (neg ^^ decide (i ∈ ns))) S → Q (.bl (if neg then !inV (.int i) (ns.map V.int) else inV (.int i) (ns.map V.int))) H := fun {i ns} h => by
    rw [inV_ints]
    refine hq _ S h _ L F H .refl ?_ st
    show V.bl _ = V.bl _
    cases neg <;> simp
  cases d with
  | int i =>
    cases e with
    | lst xs =>
      obtain ⟨ns, rfl, h⟩ := h
      obtain ⟨p, vs, e1, e2, e3⟩ := i2
      rw [isl_ints e3] at e2
      exact h1 pins s σ H x y v u Q I rx ry ⟨p, _, e1, .inl (.of (st.ex _ _ e2)), by rw [show x = _ from i1]; rfl, flat_ints ns, by rw [show x = V.int i from i1]; exact fin h⟩
    | tup xs =>
      obtain ⟨ns, rfl, h⟩ := h
      obtain ⟨p, vs, e1, e2, e3⟩ := i2
      rw [isl_ints e3] at e2
      exact h1 pins s σ H x y v u Q I rx ry ⟨p, _, e1, .inr (.of (st.ex _ _ e2)), by rw [show x = _ from i1]; rfl, flat_ints ns, by rw [show x = V.int i from i1]; exact fin h⟩
    | _ => exact h.elim
  | _ => cases e <;> exact h.elim
theorem op_inD' : OpR X (compareOp .In) (upO X.K (oIn false)) := in_core op_in_seq
theorem op_ninD' : OpR X (compareOp .NotIn) (upO X.K (oIn true)) := in_core op_notIn_seq
end
end DL
end

section
set_option maxHeartbeats 4000000
namespace DL
open PySem L2
section
variable {X : Cx} {W : WX} {a b e o : Expr} {es : List Expr} {ra rb ro : RE} {rr : RA} {pos p apos p2 : Pos} {x : Str}
/-! ### subscripts -/
theorem atI_is {K : PySem.W.Frag} {F : Hp} {ds : List D} {vs : List V} {i : Int} {d : D} (h : IsL K F ds vs) (e : atI ds i = some d) : ∃ v, atI vs i = some v ∧ Is K F d v := by
  unfold atI at e ⊢
  rw [h.length]
  obtain ⟨j, h1, h2⟩ := Option.bind_eq_some_iff.mp e
  obtain ⟨v, h3, h4⟩ := h.get h2
  exact ⟨v, by rw [h1]; exact h3, h4⟩
theorem atI_isD {K : PySem.W.Frag} {L : List Addr} {F : Hp} {ds : List D} {vs : List V} {i : Int} {d : D} (h : IsDL K L F ds vs) (e : atI ds i = some d) : ∃ v, atI vs i = some v ∧ IsD K L F d v := by
  unfold atI at e ⊢
  rw [h.length]
  obtain ⟨j, h1, h2⟩ := Option.bind_eq_some_iff.mp e
  obtain ⟨v, h3, h4⟩ := h.get h2
  exact ⟨v, by rw [h1]; exact h3, h4⟩
def oIx : OD := fun d e S q => match d, e with
  | .lst xs, .int i => ∃ d, atI xs i = some d ∧ q d S
  | .tup xs, .int i => ∃ d, atI xs i = some d ∧ q d S
  | .scr xs, .int i => ∃ d, atI xs i = some d ∧ q d S
  | .loc k, .int i => (match S[k]? with
    | some (.lst xs) => ∃ d, atI xs i = some d ∧ q d S
    | _ => False)
  | _, _ => False
theorem ixD : IxR X (upO X.K oIx) := by
  intro value slice pins s σ H x y v u Q I rx ry h hs
  obtain ⟨L, F, S, d, e, q, i1, i2, st, h, hq⟩ := h
  cases d with
  | lst xs =>
    cases e with
    | int i =>
      obtain ⟨d, h1, h2⟩ := h
      obtain ⟨p, vs, e1, e2, e3⟩ := i1
      obtain ⟨w, w1, w2⟩ := atI_is e3 h1
      exact ix_list value slice pins s σ H x y v u Q I rx ry ⟨p, vs, i, w, e1, i2, .of (st.ex _ _ e2), w1, hq _ S h2 _ L F H .refl (.of w2) st⟩ hs
    | _ => exact h.elim
  | tup xs =>
    cases e with
    | int i =>
      obtain ⟨d, h1, h2⟩ := h
      obtain ⟨p, vs, e1, e2, e3⟩ := i1
      obtain ⟨w, w1, w2⟩ := atI_is e3 h1
      exact ix_tup value slice pins s σ H x y v u Q I rx ry ⟨p, vs, i, w, e1, i2, .of (st.ex _ _ e2), w1, hq _ S h2 _ L F H .refl (.of w2) st⟩ hs
    | _ => exact h.elim
  | scr xs =>
    cases e with
    | int i =>
      obtain ⟨d, h1, h2⟩ := h
      obtain ⟨p, vs, e1, e2, e3⟩ := i1
      obtain ⟨w, w1, w2⟩ := atI_is e3 h1
      exact ix_list value slice pins s σ H x y v u Q I rx ry ⟨p, vs, i, w, e1, i2, ex_sq st.ex e2, w1, hq _ S h2 _ L F H .refl (.of w2) st⟩ hs
    | _ => exact h.elim
  | loc k =>
    cases e with
    | int i =>
      obtain ⟨p, ha, e1⟩ := i1
      have h : (match S[k]? with
        | some (.lst xs) => ∃ d, atI xs i = some d ∧ q d S
        | _ => False) := h
      split at h
      · rename_i xs hS
        obtain ⟨d, h1, h2⟩ := h
        obtain ⟨_, vs, e2, e3⟩ := st.cel k _ p hS ha (fun z => by cases z)
        obtain ⟨w, w1, w2⟩ := atI_isD e3 h1
        exact ix_list value slice pins s σ H x y v u Q I rx ry ⟨p, vs, i, w, e1, i2, .of e2, w1, hq _ S h2 _ L F H .refl w2 st⟩ hs
      · exact h.elim
    | _ => exact h.elim
  | _ => cases e <;> exact h.elim
theorem je_ix (ha : JE X W a ra) (hb : JE X W b rb) (hs : PlainIx b := by exact fun _ _ => rfl) : JE X W (.Subscript a b pos) (rOp oIx ra rb) := pe_weak (pe_ix ixD ha hb hs) rOp_up
/-! ### slices -/
abbrev RO := List (Option D) → List Cell → (Option Int → List Cell → Prop) → XP → Prop
def QO (K : PySem.W.Frag) (L : List Addr) (F H : Hp) (q : Option Int → List Cell → Prop) (Q : Option Int → Hp → Prop) : Prop := ∀ b S', q b S' → ∀ L' F' H', Go L F H L' F' H' → Sto K L' F' H' S' → Q b H'
def upP (K : PySem.W.Frag) (W : WX) (r : RO) : TO := fun σ H Q => ∃ L F S ds q x, Env K L F ds σ ∧ Sto K L F H S ∧ r ds S q x ∧ QO K L F H q Q ∧ QX K W L F H σ x
def JP (X : Cx) (W : WX) (e : Option Expr) (r : RO) : Prop := PO X e (upP X.K W r)
def rPN : RO := fun _ S q _ => q none S
def rPS (r : RE) : RO := fun ds S q x => r ds S (fun d S1 => match d with
  | .int i => q (some i) S1
  | _ => False) x
theorem po_weak {e : Option Expr} {t t' : TO} (h : PO X e t) (w : ∀ σ H Q, t' σ H Q → t σ H Q) : PO X e t' := ⟨fun pins s σ H Q I z => h.run pins s σ H Q I (w σ H Q z)⟩
theorem jp_none : JP X W none rPN := po_weak po_none fun σ H Q ⟨L, F, S, ds, q, x, env, sto, h, hq, hx⟩ => hq none S h L F H .refl sto
theorem jp_some (h : JE X W e ro) : JP X W (some e) (rPS ro) := po_weak (po_some h) fun σ H Q ⟨L, F, S, ds, q, x, env, sto, h, hq, hx⟩ => upE.bind env sto h hx fun d S1 v L1 F1 H1 h1 g1 env1 i1 s1 => by
  cases d with
  | int i => exact ⟨i, i1, hq _ S1 h1 L1 F1 H1 g1 s1⟩
  | _ => exact h1.elim
theorem upP.bind {K : PySem.W.Frag} {r : RO} {σ : St} {H : Hp} {Q : Option Int → Hp → Prop} {L : List Addr} {F : Hp} {S : List Cell} {ds : List (Option D)} {q : Option Int → List Cell → Prop} {x : XP}
    (env : Env K L F ds σ) (sto : Sto K L F H S) (h : r ds S q x) (hx : QX K W L F H σ x)
    (k : ∀ d S' L' F' H', q d S' → Go L F H L' F' H' → Env K L' F' ds σ → Sto K L' F' H' S' → Q d H') : upP K W r σ H Q :=
  ⟨L, F, S, ds, q, x, env, sto, h, fun d S' hq L' F' H' g s => k d S' L' F' H' hq g (env.mono g) s, hx⟩
/-- a part of a list of data -/
def cutD (xs : List D) (lo hi : Option Int) : List D := (xs.drop (HT.sIx xs.length 0 lo)).take (HT.sIx xs.length xs.length hi - HT.sIx xs.length 0 lo)
theorem cut_is {K : PySem.W.Frag} {F : Hp} {ds : List D} {vs : List V} (h : IsL K F ds vs) (lo hi : Option Int) : IsL K F (cutD ds lo hi) (cutV vs lo hi) := by
  unfold cutD cutV
  rw [h.length]
  exact (h.drop _).take _
theorem cut_whole {α : Type} {xs : List α} {n m : Nat} (h0 : n = 0) (h1 : m = xs.length) : (xs.drop n).take (m - n) = xs := by
  subst h0 h1; simp
def oSl : D → Option Int → Option Int → List Cell → QP → Prop := fun d lo hi S q => match d with
  | .lst xs => q (.lst (cutD xs lo hi)) S
  | .scr xs => q (.lst (cutD xs lo hi)) S
  | .tup xs => q (.tup (cutD xs lo hi)) S
  | .loc k => (match S[k]? with
    | some (.lst xs) => noLoc xs = true ∧ q (.lst (cutD xs lo hi)) S
    | _ => False)
  | _ => False
def upSl (K : PySem.W.Frag) (od : D → Option Int → Option Int → List Cell → QP → Prop) : V → Option Int → Option Int → Hp → VK → Prop := fun x lo hi H Q => ∃ L F S d q, IsD K L F d x ∧ Sto K L F H S ∧ od d lo hi S q ∧ QE K L F H q Q
theorem slD : SlR X (upSl X.K oSl) := by
  intro pins s σ H x v vl vu lo hi sl Q I rx hs pl pu h
  obtain ⟨L, F, S, d, q, i1, st, h, hq⟩ := h
  have lst : ∀ {p : Addr} {vs : List V} {xs : List D}, x = .ref p → SqL X.K H p vs → IsL X.K F xs vs → q (.lst (cutD xs lo hi)) S →
      ∃ T id, typeLookup (.type T) "__getitem__" = pure (some (.builtin id)) ∧ s.TypeIs v T ∧ wpAny (model X.prog X.w) X.A (getItem v (.ref sl)) (EP X pins σ Q) X.xe s := fun {p vs xs} e1 e2 e3 h =>
    sl_list pins s σ H x v vl vu lo hi sl Q I rx hs pl pu ⟨p, vs, e1, e2, fun r hr => hq _ S h _ L _ _ (Go.new_ st hr) ⟨r, _, rfl, upd_same, IsL.mono (Ex.new (st.fnone hr)) _ _ (cut_is e3 lo hi)⟩ (st.new_ hr)⟩
  cases d with
  | lst xs => obtain ⟨p, vs, e1, e2, e3⟩ := i1; exact lst e1 (.of (st.ex _ _ e2)) e3 h
  | scr xs => obtain ⟨p, vs, e1, e2, e3⟩ := i1; exact lst e1 (ex_sq st.ex e2) e3 h
  | tup xs =>
    obtain ⟨p, vs, e1, e2, e3⟩ := id i1
    refine sl_tupA pins s σ H x v vl vu lo hi sl Q I rx hs pl pu ⟨p, vs, e1, .of (st.ex _ _ e2), fun z => ?_, fun _ r hr => ?_⟩
    · have h : q (.tup (cutD xs lo hi)) S := h
      have ew : cutD xs lo hi = xs := by
        rw [e3.length] at z
        exact cut_whole z.1 z.2
      rw [ew] at h
      exact hq _ S h _ L F H .refl (e1 ▸ i1) st
    · exact hq _ S h _ L _ _ (Go.new_ st hr) ⟨r, _, rfl, upd_same, IsL.mono (Ex.new (st.fnone hr)) _ _ (cut_is e3 lo hi)⟩ (st.new_ hr)
  | loc k =>
    obtain ⟨p, ha, e1⟩ := i1
    have h : (match S[k]? with
      | some (.lst xs) => noLoc xs = true ∧ q (.lst (cutD xs lo hi)) S
      | _ => False) := h
    split at h
    · rename_i xs hS
      obtain ⟨_, vs, e2, e3⟩ := st.cel k _ p hS ha (fun z => by cases z)
      exact lst e1 (.of e2) (e3.un h.1) h.2
    · exact h.elim
  | _ => exact h.elim
def rSl (ra : RE) (rl rh : RO) : RE := fun ds S q x => ra ds S (fun d S1 => rl ds S1 (fun l S2 => rh ds S2 (fun h S3 => oSl d l h S3 q) x) x) x
theorem je_sl {lo hi : Option Expr} {rl rh : RO} (ha : JE X W a ra) (hl : JP X W lo rl) (hh : JP X W hi rh) : JE X W (.Subscript a (.Slice lo hi none p2) pos) (rSl ra rl rh) :=
  pe_weak (pe_slice slD ha hl hh) fun σ H Q ⟨L, F, S, ds, q, x, env, sto, h, hq, hx⟩ => upE.bind env sto h hx fun d S1 v L1 F1 H1 h1 g1 env1 i1 s1 =>
    upP.bind env1 s1 h1 (hx.on g1) fun l S2 L2 F2 H2 h2 g2 env2 s2 => upP.bind env2 s2 h2 ((hx.on g1).on g2) fun h S3 L3 F3 H3 h3 g3 env3 s3 =>
      ⟨L3, F3, S3, d, q, (i1.mono g2).mono g3, s3, h3, hq.on ((g1.trans g2).trans g3)⟩
/-! ### built-in functions -/
abbrev OC := List D → List Cell → QP → Prop
def upC (K : PySem.W.Frag) (od : OC) : List V → Hp → VK → Prop := fun vs H Q => ∃ L F S ds q, IsDL K L F ds vs ∧ Sto K L F H S ∧ od ds S q ∧ QE K L F H q Q
def rCB (od : OC) (rr : RA) : RE := fun ds S q x => rr ds S (fun es S1 => od es S1 q) x
theorem je_callB {id : String} {od : OC} (hc : CallR X (.builtin id) (upC X.K od)) (hg : Gl X x) (hm : X.mg x = none) (hv : bootBuiltins x = some (.builtin id)) (ha : JA X W (e :: es) rr) (hn : x ≠ "__name__" := by decide) (hdb : (x == ("__debug__" : Str)) = false := by decide)
    (he : starEach (e :: es) X.env = (false, eval e X.env) :: starEach es X.env := by rfl) (hpl : (backTo pos (starEach es X.env)).any (·.1) = false := by rfl) : JE X W (.Call (.Name x p) (e :: es) [] pos) (rCB od rr) :=
  pe_weak (pe_callB hc hg hm hv ha hn hdb he hpl) fun σ H Q ⟨L, F, S, ds, q, x, env, sto, h, hq, hx⟩ => upA.bind env sto h hx fun es S1 v L1 F1 H1 h1 g1 env1 i1 s1 => ⟨L1, F1, S1, es, q, i1, s1, h1, hq.on g1⟩
theorem je_callTy {T : String} {od : OC} (hc : CallR X (.type T) (upC X.K od)) (hg : Gl X x) (hm : X.mg x = none) (hv : bootBuiltins x = some (.type T)) (ha : JA X W (e :: es) rr) (hn : x ≠ "__name__" := by decide) (hdb : (x == ("__debug__" : Str)) = false := by decide)
    (he : starEach (e :: es) X.env = (false, eval e X.env) :: starEach es X.env := by rfl) (hpl : (backTo pos (starEach es X.env)).any (·.1) = false := by rfl) : JE X W (.Call (.Name x p) (e :: es) [] pos) (rCB od rr) :=
  pe_weak (pe_callTy hc hg hm hv ha hn hdb he hpl) fun σ H Q ⟨L, F, S, ds, q, x, env, sto, h, hq, hx⟩ => upA.bind env sto h hx fun es S1 v L1 F1 H1 h1 g1 env1 i1 s1 => ⟨L1, F1, S1, es, q, i1, s1, h1, hq.on g1⟩
theorem one_is {K : PySem.W.Frag} {L : List Addr} {F : Hp} {d : D} {vs : List V} (h : IsDL K L F [d] vs) : ∃ v, vs = [v] ∧ IsD K L F d v := by
  obtain ⟨v, r, h1, h2, h3⟩ := h
  rw [show r = [] from h3] at h1
  exact ⟨v, h1, h2⟩
theorem two_is {K : PySem.W.Frag} {L : List Addr} {F : Hp} {d e : D} {vs : List V} (h : IsDL K L F [d, e] vs) : ∃ v w, vs = [v, w] ∧ IsD K L F d v ∧ IsD K L F e w := by
  obtain ⟨v, r, h1, h2, h3⟩ := h
  obtain ⟨w, rfl, h4⟩ := one_is h3
  exact ⟨v, w, h1, h2, h4⟩
def c1 (od : D → List Cell → QP → Prop) : OC := fun ds S q => match ds with
  | [d] => od d S q
  | _ => False
def c2 (od : D → D → List Cell → QP → Prop) : OC := fun ds S q => match ds with
  | [d, e] => od d e S q
  | _ => False
theorem c1_ok {f : Value} {r : List V → Hp → VK → Prop} {od : D → List Cell → QP → Prop} (hc : CallR X f r)
    (h : ∀ (v : V) (H : Hp) (Q : VK) (L : List Addr) (F : Hp) (S : List Cell) (d : D) (q : QP), IsD X.K L F d v → Sto X.K L F H S → od d S q → QE X.K L F H q Q → r [v] H Q) : CallR X f (upC X.K (c1 od)) := by
  intro pins s σ H vs us Q I rr hh
  obtain ⟨L, F, S, ds, q, i1, st, hh, hq⟩ := hh
  cases ds with
  | nil => exact hh.elim
  | cons d t =>
    cases t with
    | cons _ _ => exact hh.elim
    | nil =>
      obtain ⟨v, rfl, iv⟩ := one_is i1
      exact hc pins s σ H _ us Q I rr (h v H Q L F S d q iv st hh hq)
theorem c2_ok {f : Value} {r : List V → Hp → VK → Prop} {od : D → D → List Cell → QP → Prop} (hc : CallR X f r)
    (h : ∀ (v w : V) (H : Hp) (Q : VK) (L : List Addr) (F : Hp) (S : List Cell) (d e : D) (q : QP), IsD X.K L F d v → IsD X.K L F e w → Sto X.K L F H S → od d e S q → QE X.K L F H q Q → r [v, w] H Q) : CallR X f (upC X.K (c2 od)) := by
  intro pins s σ H vs us Q I rr hh
  obtain ⟨L, F, S, ds, q, i1, st, hh, hq⟩ := hh
  cases ds with
  | nil => exact hh.elim
  | cons d t =>
    cases t with
    | nil => exact hh.elim
    | cons e t =>
      cases t with
      | cons _ _ => exact hh.elim
      | nil =>
        obtain ⟨v, w, rfl, iv, iw⟩ := two_is i1
        exact hc pins s σ H _ us Q I rr (h v w H Q L F S d e q iv iw st hh hq)
def oLen : OC := c1 fun d S q => match d with
  | .lst xs => q (.int xs.length) S
  | .tup xs => q (.int xs.length) S
  | .scr xs => q (.int xs.length) S
  | .loc k => (match S[k]? with
    | some (.lst xs) => q (.int xs.length) S
    | _ => False)
  | _ => False
theorem call_lenD : CallR X (.builtin "len") (upC X.K oLen) := c1_ok call_len_seq fun v H Q L F S d q i st h hq => by
  cases d with
  | lst xs => obtain ⟨p, ws, e1, e2, e3⟩ := i; exact ⟨p, ws, by rw [e1], .inl (.of (st.ex _ _ e2)), by rw [e3.length]; exact hq _ S h _ L F H .refl rfl st⟩
  | tup xs => obtain ⟨p, ws, e1, e2, e3⟩ := i; exact ⟨p, ws, by rw [e1], .inr (.of (st.ex _ _ e2)), by rw [e3.length]; exact hq _ S h _ L F H .refl rfl st⟩
  | scr xs => obtain ⟨p, ws, e1, e2, e3⟩ := i; exact ⟨p, ws, by rw [e1], .inl (ex_sq st.ex e2), by rw [e3.length]; exact hq _ S h _ L F H .refl rfl st⟩
  | loc k =>
    obtain ⟨p, ha, e1⟩ := i
    have h : (match S[k]? with
      | some (.lst xs) => q (.int xs.length) S
      | _ => False) := h
    split at h
    · rename_i xs hS
      obtain ⟨_, ws, e2, e3⟩ := st.cel k _ p hS ha (fun z => by cases z)
      exact ⟨p, ws, by rw [e1], .inl (.of e2), by rw [e3.length]; exact hq _ S h _ L F H .refl rfl st⟩
    · exact h.elim
  | _ => exact h.elim
def oAbs : OC := c1 fun d S q => match d with
  | .int i => q (.int (if i < 0 then -i else i)) S
  | _ => False
theorem call_absD : CallR X (.builtin "abs") (upC X.K oAbs) := c1_ok call_abs fun v H Q L F S d q i st h hq => by
  cases d with
  | int k => exact ⟨k, by rw [show v = V.int k from i], hq _ S h _ L F H .refl rfl st⟩
  | _ => exact h.elim
def oToInt : OC := c1 fun d S q => match d with
  | .int i => q (.int i) S
  | .bl k => q (.int (if k then 1 else 0)) S
  | _ => False
theorem call_intD : CallR X (.type "int") (upC X.K oToInt) := c1_ok call_int1 fun v H Q L F S d q i st h hq => by
  cases d with
  | int k => exact .inl ⟨k, by rw [show v = V.int k from i], hq _ S h _ L F H .refl rfl st⟩
  | bl k => exact .inr ⟨k, by rw [show v = V.bl k from i], hq _ S h _ L F H .refl rfl st⟩
  | _ => exact h.elim
def oMax2 : OC := c2 fun d e S q => match d, e with
  | .int i, .int j => q (.int (if j > i then j else i)) S
  | _, _ => False
theorem call_max2D (hc : X.calm = true) : CallR X (.builtin "max") (upC X.K oMax2) := c2_ok (call_max2 hc) fun v w H Q L F S d e q i1 i2 st h hq => by
  cases d with
  | int i => cases e with
    | int j => exact ⟨i, j, by rw [show v = V.int i from i1, show w = V.int j from i2], hq _ S h _ L F H .refl rfl st⟩
    | _ => exact h.elim
  | _ => cases e <;> exact h.elim
def oMin2 : OC := c2 fun d e S q => match d, e with
  | .int i, .int j => q (.int (if j < i then j else i)) S
  | _, _ => False
theorem call_min2D (hc : X.calm = true) : CallR X (.builtin "min") (upC X.K oMin2) := c2_ok (call_min2 hc) fun v w H Q L F S d e q i1 i2 st h hq => by
  cases d with
  | int i => cases e with
    | int j => exact ⟨i, j, by rw [show v = V.int i from i1, show w = V.int j from i2], hq _ S h _ L F H .refl rfl st⟩
    | _ => exact h.elim
  | _ => cases e <;> exact h.elim
theorem noLoc_ints (ns : List Int) : noLoc (ns.map D.int) = true := noLoc_map _ (fun _ => rfl) ns
def oSum : OC := c1 fun d S q => match d with
  | .lst xs => ∃ ns : List Int, xs = ns.map D.int ∧ q (.int ns.sum) S
  | .loc k => (match S[k]? with
    | some (.lst xs) => ∃ ns : List Int, xs = ns.map D.int ∧ q (.int ns.sum) S
    | _ => False)
  | _ => False
theorem call_sumD (hc : X.calm = true) : CallR X (.builtin "sum") (upC X.K oSum) := c1_ok (cr_sum hc) fun v H Q L F S d q i st h hq => by
  cases d with
  | lst xs =>
    obtain ⟨ns, rfl, h⟩ := h
    obtain ⟨p, ws, e1, e2, e3⟩ := i
    rw [isl_ints e3] at e2
    exact ⟨p, ns, by rw [e1], .of (st.ex _ _ e2), hq _ S h _ L F H .refl rfl st⟩
  | loc k =>
    obtain ⟨p, ha, e1⟩ := i
    have h : (match S[k]? with
      | some (.lst xs) => ∃ ns : List Int, xs = ns.map D.int ∧ q (.int ns.sum) S
      | _ => False) := h
    split at h
    · rename_i xs hS
      obtain ⟨ns, rfl, h⟩ := h
      obtain ⟨_, ws, e2, e3⟩ := st.cel k _ p hS ha (fun z => by cases z)
      rw [isl_ints (e3.un (noLoc_ints ns))] at e2
      exact ⟨p, ns, by rw [e1], .of e2, hq _ S h _ L F H .refl rfl st⟩
    · exact h.elim
  | _ => exact h.elim
/-- min of a list -/
def oMinL : OC := c1 fun d S q => match d with
  | .lst xs => ∃ ns : List Int, xs = ns.map D.int ∧ 0 < ns.length ∧ ∀ m, m ∈ ns → (∀ y, y ∈ ns → m ≤ y) → q (.int m) S
  | _ => False
theorem call_minD (hc : X.calm = true) : CallR X (.builtin "min") (upC X.K oMinL) := c1_ok (cr_min hc) fun v H Q L F S d q i st h hq => by
  cases d with
  | lst xs =>
    obtain ⟨ns, rfl, h0, h⟩ := h
    obtain ⟨p, ws, e1, e2, e3⟩ := i
    rw [isl_ints e3] at e2
    exact ⟨p, ns, by rw [e1], .of (st.ex _ _ e2), h0, fun m m1 m2 => hq _ S (h m m1 m2) _ L F H .refl rfl st⟩
  | _ => exact h.elim
/-- all of a list -/
def oAll : OC := c1 fun d S q => match d with
  | .lst xs => ∃ bs : List Bool, xs = bs.map D.bl ∧ q (.bl (bs.all id)) S
  | _ => False
theorem call_allD (hc : X.calm = true) : CallR X (.builtin "all") (upC X.K oAll) := c1_ok (cr_all hc) fun v H Q L F S d q i st h hq => by
  cases d with
  | lst xs =>
    obtain ⟨ns, rfl, h⟩ := h
    obtain ⟨p, ws, e1, e2, e3⟩ := i
    rw [isl_bls e3] at e2
    exact ⟨p, ns, by rw [e1], .of (st.ex _ _ e2), hq _ S h _ L F H .refl rfl st⟩
  | _ => exact h.elim
/-- list(..) -/
def oList : OC := c1 fun d S q => match d with
  | .lst xs => q (.lst xs) S
  | .tup xs => q (.lst xs) S
  | _ => False
theorem fin_lst {K : PySem.W.Frag} {L : List Addr} {F H : Hp} {S : List Cell} {q : QP} {Q : VK} {xs : List D} {ws : List V} (st : Sto K L F H S) (hq : QE K L F H q Q) (e3 : IsL K F xs ws) (h : q (.lst xs) S) : ∀ l, H l = none → Q (.ref l) (upd H l (.lst ws)) := fun l hl =>
  hq _ S h _ L _ _ (Go.new_ st hl) ⟨l, _, rfl, upd_same, IsL.mono (Ex.new (st.fnone hl)) _ _ e3⟩ (st.new_ hl)
theorem fin_tup {K : PySem.W.Frag} {L : List Addr} {F H : Hp} {S : List Cell} {q : QP} {Q : VK} {xs : List D} {ws : List V} (st : Sto K L F H S) (hq : QE K L F H q Q) (e3 : IsL K F xs ws) (h : q (.tup xs) S) : ∀ l, H l = none → Q (.ref l) (upd H l (.tup ws)) := fun l hl =>
  hq _ S h _ L _ _ (Go.new_ st hl) ⟨l, _, rfl, upd_same, IsL.mono (Ex.new (st.fnone hl)) _ _ e3⟩ (st.new_ hl)
theorem call_listD : CallR X (.type "list") (upC X.K oList) := c1_ok call_list_of fun v H Q L F S d q i st h hq => by
  cases d with
  | lst xs => obtain ⟨p, ws, e1, e2, e3⟩ := i; exact ⟨p, ws, by rw [e1], .inl (.of (st.ex _ _ e2)), fin_lst st hq e3 h⟩
  | tup xs => obtain ⟨p, ws, e1, e2, e3⟩ := i; exact ⟨p, ws, by rw [e1], .inr (.of (st.ex _ _ e2)), fin_lst st hq e3 h⟩
  | _ => exact h.elim
/-- tuple(..) -/
def oTuple : OC := c1 fun d S q => match d with
  | .lst xs => q (.tup xs) S
  | .loc k => (match S[k]? with
    | some (.lst xs) => noLoc xs = true ∧ q (.tup xs) S
    | _ => False)
  | _ => False
theorem call_tupleD : CallR X (.type "tuple") (upC X.K oTuple) := c1_ok call_tuple_of fun v H Q L F S d q i st h hq => by
  cases d with
  | lst xs => obtain ⟨p, ws, e1, e2, e3⟩ := i; exact ⟨p, ws, by rw [e1], .inl ⟨.of (st.ex _ _ e2), fin_tup st hq e3 h⟩⟩
  | loc k =>
    obtain ⟨p, ha, e1⟩ := i
    have h : (match S[k]? with
      | some (.lst xs) => noLoc xs = true ∧ q (.tup xs) S
      | _ => False) := h
    split at h
    · rename_i xs hS
      obtain ⟨_, ws, e2, e3⟩ := st.cel k _ p hS ha (fun z => by cases z)
      exact ⟨p, ws, by rw [e1], .inl ⟨.of e2, fin_tup st hq (e3.un h.1) h.2⟩⟩
    · exact h.elim
  | _ => exact h.elim
/-- divmod -/
def oDivmod : OC := c2 fun d e S q => match d, e with
  | .int i, .int j => CDiv i j ∧ q (.tup [.int (i / j), .int (i % j)]) S
  | _, _ => False
theorem call_divmodD : CallR X (.builtin "divmod") (upC X.K oDivmod) := c2_ok call_divmod fun v w H Q L F S d e q i1 i2 st h hq => by
  cases d with
  | int i => cases e with
    | int j => exact ⟨i, j, by rw [show v = V.int i from i1, show w = V.int j from i2], h.1, fun l hl =>
        hq _ S h.2 _ L _ _ (Go.new_ st hl) ⟨l, _, rfl, upd_same, ⟨_, _, rfl, rfl, _, _, rfl, rfl, rfl⟩⟩ (st.new_ hl)⟩
    | _ => exact h.elim
  | _ => cases e <;> exact h.elim
end
end DL
end

section
set_option maxHeartbeats 4000000
namespace DL
open PySem L2
section
variable {X : Cx} {W : WX} {a b e o c : Expr} {es : List Expr} {ra rb re ro : RE} {rr : RA} {pos p apos p2 : Pos} {x : Str}
/-! ### targets -/
abbrev RG := D → List (Option D) → List Cell → (List (Option D) → List Cell → Prop) → Prop
abbrev RGs := List D → List (Option D) → List Cell → (List (Option D) → List Cell → Prop) → Prop
def upG (K : PySem.W.Frag) (r : RG) : TG := fun v σ H Q => ∃ L F S ds d k, Env K L F ds σ ∧ Sto K L F H S ∧ IsD K L F d v ∧ r d ds S k ∧ QS K L F H k Q
def upGs (K : PySem.W.Frag) (r : RGs) : TGs := fun vs σ H Q => ∃ L F S ds es k, Env K L F ds σ ∧ Sto K L F H S ∧ IsDL K L F es vs ∧ r es ds S k ∧ QS K L F H k Q
def JG (X : Cx) (tg : Expr) (r : RG) : Prop := PG X tg (upG X.K r)
def JGs (X : Cx) (tgs : List Expr) (r : RGs) : Prop := PGs X tgs (upGs X.K r)
theorem pg_weak {tg : Expr} {t t' : TG} (h : PG X tg t) (w : ∀ v σ H Q, t' v σ H Q → t v σ H Q) : PG X tg t' := ⟨fun pins s σ H v u Q I r z => h.run pins s σ H v u Q I r (w v σ H Q z)⟩
theorem pgs_weak {tg : List Expr} {t t' : TGs} (h : PGs X tg t) (w : ∀ v σ H Q, t' v σ H Q → t v σ H Q) : PGs X tg t' := ⟨fun pins s σ H v u Q I r z => h.run pins s σ H v u Q I r (w v σ H Q z)⟩
def rgName (i : Nat) : RG := fun d ds S k => k (ds.set i (some d)) S
theorem rgName_up {K : PySem.W.Frag} {i : Nat} (v : V) (σ : St) (H : Hp) (Q : St → Hp → Prop) : upG K (rgName i) v σ H Q → gName i v σ H Q :=
  fun ⟨L, F, S, ds, d, k, env, st, i1, h, hq⟩ => hq _ S h _ L F H .refl (env.set i1 i) st
theorem jg_name {i : Nat} (h : PG X (.Name x pos) (gName i)) : JG X (.Name x pos) (rgName i) := pg_weak h rgName_up
def rgNil : RGs := fun es ds S k => match es with
  | [] => k ds S
  | _ => False
def rgCons (r : RG) (rs : RGs) : RGs := fun es ds S k => match es with
  | d :: es => r d ds S fun ds1 S1 => rs es ds1 S1 k
  | [] => False
theorem rgNil_up {K : PySem.W.Frag} (v : List V) (σ : St) (H : Hp) (Q : St → Hp → Prop) : upGs K rgNil v σ H Q → gNil v σ H Q :=
  fun ⟨L, F, S, ds, es, k, env, st, i1, h, hq⟩ => by
    cases es with
    | nil => exact ⟨i1, hq _ S h _ L F H .refl env st⟩
    | cons _ _ => exact h.elim
/-- what the rest of a row of targets gets: the data that came behind -/
theorem rgCons_up {K : PySem.W.Frag} {r : RG} {rs : RGs} {g : TG} {gs : TGs} (hg : ∀ v σ H Q, upG K r v σ H Q → g v σ H Q) (hgs : ∀ v σ H Q, upGs K rs v σ H Q → gs v σ H Q) (v : List V) (σ : St) (H : Hp) (Q : St → Hp → Prop) :
    upGs K (rgCons r rs) v σ H Q → gCons g gs v σ H Q := fun ⟨L, F, S, ds, es, k, env, st, i1, h, hq⟩ => by
  cases es with
  | nil => exact h.elim
  | cons d es =>
    obtain ⟨w, t, rfl, i2, i3⟩ := i1
    refine ⟨w, t, rfl, hg _ _ _ _ ⟨L, F, S, ds, d, fun ds1 S1 => rs es ds1 S1 k, env, st, i2, h, fun ds1 S1 h1 σ1 L1 F1 H1 g1 env1 s1 => hgs _ _ _ _ ⟨L1, F1, S1, ds1, es, k, env1, s1, i3.mono g1, h1, hq.on g1⟩⟩⟩
theorem jgs_nil : JGs X [] rgNil := pgs_weak pgs_nil rgNil_up
theorem jgs_cons {r : RG} {rs : RGs} (h1 : JG X e r) (h2 : JGs X es rs) (hs : (assignEach (e :: es) X.env).map (·.2) = assign e X.env :: (assignEach es X.env).map (·.2) := by rfl) : JGs X (e :: es) (rgCons r rs) :=
  pgs_weak (pgs_cons h1 h2 hs) (rgCons_up (fun _ _ _ _ z => z) fun _ _ _ _ z => z)
def rgTup (n : Nat) (rs : RGs) : RG := fun d ds S k => match d with
  | .tup xs => (match Nat.beq xs.length n with
    | true => rs xs ds S k
    | false => False)
  | _ => False
theorem rgTup_up {K : PySem.W.Frag} {n : Nat} {rs : RGs} {gs : TGs} (hgs : ∀ v σ H Q, upGs K rs v σ H Q → gs v σ H Q) (v : V) (σ : St) (H : Hp) (Q : St → Hp → Prop) : upG K (rgTup n rs) v σ H Q → gTup K n gs v σ H Q :=
  fun ⟨L, F, S, ds, d, k, env, st, i1, h, hq⟩ => by
    cases d with
    | tup xs =>
      obtain ⟨p, vs, e1, e2, e3⟩ := i1
      have h : (match Nat.beq xs.length n with
        | true => rs xs ds S k
        | false => False) := h
      split at h
      · rename_i hn
        exact ⟨p, vs, e1, .of (st.ex _ _ e2), by rw [e3.length]; exact Nat.eq_of_beq_eq_true hn, hgs _ _ _ _ ⟨L, F, S, ds, xs, k, env, st, .of e3, h, hq⟩⟩
      · exact h.elim
    | _ => exact h.elim
theorem jg_tup {k : Nat} {n : Nat} {rs : RGs} (hc : X.calm = true) (h : JGs X es rs) (hn : (assignEach es X.env).length = n := by rfl) (hst : (assignEach es X.env).findIdx? (·.1) = none := by rfl) : JG X (.Tuple es k pos) (rgTup n rs) :=
  pg_weak (pg_tup hc h hn hst) (rgTup_up fun _ _ _ _ z => z)
/-- o[i] = .., o a list of one's own -/
def rgSub (ro ri : RE) : RG := fun d ds S k => ro ds S (fun o S1 => ri ds S1 (fun i S2 => match o, i with
  | .loc n, .int j => (match S2[n]? with
    | some (.lst xs) => ∃ m, ixN xs.length j = some m ∧ k ds (S2.set n (.lst (xs.set m d)))
    | _ => False)
  | _, _ => False) fun _ _ => False) fun _ _ => False
theorem QX.no {K : PySem.W.Frag} {L : List Addr} {F H : Hp} {σ : St} : QX K W L F H σ fun _ _ => False := fun _ _ z => z.elim
theorem jg_sub {ri : RE} (ho : JE X W o ro) (hi : JE X W e ri) (ha : ∀ v, assign (.Subscript o e pos) X.env v = (do
      let ov ← holding [v] (eval o X.env)
      let iv ← holding [v, ov] (eval e X.env)
      standAt pos; holding [v, ov, iv] (setItem ov iv v)
      release [v, ov, iv] []) := by intro _; rfl) : JG X (.Subscript o e pos) (rgSub ro ri) := by
  refine pg_weak (pg_sub ho hi set_list ha) fun v σ H Q ⟨L, F, S, ds, d, k, env, st, i1, h, hq⟩ => ?_
  refine upE.bind env st h QX.no fun o S1 ov L1 F1 H1 h1 g1 env1 io s1 => ?_
  refine upE.bind env1 s1 h1 QX.no fun i S2 iv L2 F2 H2 h2 g2 env2 ii s2 => ?_
  cases o with
  | loc n =>
    cases i with
    | int j =>
      obtain ⟨q, ha, e1⟩ := io.mono g2
      have h2 : (match S2[n]? with
        | some (.lst xs) => ∃ m, ixN xs.length j = some m ∧ k ds (S2.set n (.lst (xs.set m d)))
        | _ => False) := h2
      split at h2
      · rename_i xs hS
        obtain ⟨m, hm, h2⟩ := h2
        obtain ⟨z1, vs, e2, e3⟩ := s2.cel n _ q hS ha (fun z => by cases z)
        have hq' := List.mem_of_getElem? ha
        refine ⟨q, vs, j, m, e1, ii, e2, by rw [e3.length]; exact hm, ?_⟩
        have g3 : Go L2 F2 H2 L2 F2 (upd H2 q (.lst (vs.set m v))) := Go.put hq' (s2.al q hq')
        exact hq _ _ h2 σ L2 F2 _ ((g1.trans g2).trans g3) (env2.mono g3) (s2.put ha z1 ⟨_, upd_same, IsDL.set ((i1.mono (g1.trans g2)).mono g3) m (e3.mono g3)⟩)
      · exact h2.elim
    | _ => exact h2.elim
  | _ => cases i <;> exact h2.elim
/-! ### statements -/
theorem QXS.at {K : PySem.W.Frag} {L : List Addr} {F H : Hp} {σ : St} {f : Addr → List (Option D) → List Cell → Prop} {ds : List (Option D)} (h : QXS K W L F H f) (env : Env K L F ds σ) : QX K W L F H σ fun C S' => f C ds S' :=
  fun C S' z d L' F' H' g s => h C ds S' z σ d L' F' H' g (env.mono g) s
def rAsg (re : RE) (rg : RG) : RS := fun D ds S => re ds S (fun d S1 => rg d ds S1 D.nx) fun C S' => D.xc C ds S'
theorem js_asg {tg : Expr} {rg : RG} (he : JE X W e re) (hg : JG X tg rg) (hs : swapsWithSole [tg] e pos.line X.env = pure false := by rfl) (hw : swappedStores [tg] e X.env = pure none := by rfl)
    (h1 : (assignEach [tg] X.env).map (·.2) = [assign tg X.env] := by rfl) : JS X W (.Assign [tg] e pos) (rAsg re rg) :=
  ps_weak (ps_asg he hg hs hw h1) fun D σ H ⟨L, F, S, ds, O, env, sto, h, hn, hr, hb, hc, hx⟩ => upE.bind env sto h (hx.at env) fun d S1 v L1 F1 H1 h1 g1 env1 i1 s1 =>
    ⟨L1, F1, S1, ds, d, O.nx, env1, s1, i1, h1, hn.on g1⟩
/-- x = e -/
theorem js_set {i : Nat} {pos' : Pos} (hN : X.N.Nodup) (hi : X.N[i]? = some x) (hx : Loc X.env.scope x) (he : JE X W e re) (hs : swapsWith e (some (.Name x pos')) pos.line X.env = pure false := by rfl)
    (hf : X.fn x = true ∨ X.env.scope.names.lookup x = some .local := by first | exact .inl rfl | exact .inr rfl | assumption) : JS X W (.Assign [.Name x pos'] e pos) (rAsg re (rgName i)) :=
  ps_weak (ps_set hN hi hx he hs hf) fun D σ H ⟨L, F, S, ds, O, env, sto, h, hn, hr, hb, hc, hx⟩ => upE.bind env sto h (hx.at env) fun d S1 v L1 F1 H1 h1 g1 env1 i1 s1 =>
    hn _ S1 h1 _ L1 F1 H1 g1 (env1.set i1 i) s1
/-- a, b, .. = e1, e2, .. -/
def rAsgs (rr : RA) (n : Nat) (rgs : RGs) : RS := fun D ds S => rr ds S (fun es S1 => match Nat.beq es.length n && Nat.ble n 1000 with
  | true => rgs es ds S1 D.nx
  | false => False) fun C S' => D.xc C ds S'
theorem js_asgs {tgs : List Expr} {kt n : Nat} {k2 : Nat} {pt pt2 : Pos} {rgs : RGs} (hc : X.calm = true) (he : JA X W es rr) (hg : JGs X tgs rgs) (hn : (assignEach tgs X.env).length = n := by rfl) (hst : (assignEach tgs X.env).findIdx? (·.1) = none := by rfl)
    (hs : swapsWithSole [.Tuple tgs kt pt] (.Tuple es k2 pt2) pos.line X.env = pure false := by rfl) (hw : swappedStores [.Tuple tgs kt pt] (.Tuple es k2 pt2) X.env = pure none := by rfl)
    (h1 : (assignEach [.Tuple tgs kt pt] X.env).map (·.2) = [assign (.Tuple tgs kt pt) X.env] := by rfl) : JS X W (.Assign [.Tuple tgs kt pt] (.Tuple es k2 pt2) pos) (rAsgs rr n rgs) :=
  ps_weak (ps_asg (pe_tup he) (pg_tup hc hg hn hst) hs hw h1) fun D σ H ⟨L, F, S, ds, O, env, sto, h, hn, hr, hb, hc, hx⟩ => upA.bind env sto h (hx.at env) fun es S1 vs L1 F1 H1 h1 g1 env1 i1 s1 => by
    split at h1
    · rename_i hl
      obtain ⟨l1, l2⟩ := Bool.and_eq_true_iff.mp hl
      have l1 := Nat.eq_of_beq_eq_true l1
      have l2 := Nat.le_of_ble_eq_true l2
      refine ⟨by rw [i1.length, l1]; exact sz5 (Nat.le_trans l2 (by decide)), fun r hr => ?_⟩
      have g2 := Go.new_ s1 (o := .tup vs) hr
      exact ⟨r, vs, rfl, .of upd_same, by rw [i1.length]; exact l1, L1, _, S1, ds, es, O.nx, env1.mono g2, s1.new_ hr, i1.mono g2, h1, hn.on (g1.trans g2)⟩
    · exact h1.elim
/-- the same with plain local names -/
theorem js_par {i j : Nat} {y z : Str} {py pz pt : Pos} {kt k2 pt2} (hc : X.calm = true) (hN : X.N.Nodup) (hi : X.N[i]? = some y) (hj : X.N[j]? = some z) (hij : i ≠ j)
    (hy : X.env.scope.names.lookup y = some .local) (hz : X.env.scope.names.lookup z = some .local) (ha : JA X W [a, b] rr)
    (hw : swappedStores [.Tuple [.Name y py, .Name z pz] kt pt] (.Tuple [a, b] k2 pt2) X.env = pure (some [y, z]))
    (hs : swapsWithSole [.Tuple [.Name y py, .Name z pz] kt pt] (.Tuple [a, b] k2 pt2) pos.line X.env = pure false := by rfl) :
    JS X W (.Assign [.Tuple [.Name y py, .Name z pz] kt pt] (.Tuple [a, b] k2 pt2) pos) (rAsgs rr 2 (rgCons (rgName i) (rgCons (rgName j) rgNil))) :=
  ps_weak (ps_par hc hN hi hj hij hy hz ha hw hs) fun D σ H ⟨L, F, S, ds, O, env, sto, h, hn, hr, hb, hc, hx⟩ => upA.bind env sto h (hx.at env) fun es S1 vs L1 F1 H1 h1 g1 env1 i1 s1 => by
    split at h1
    · cases es with
      | nil => exact h1.elim
      | cons d es =>
        cases es with
        | nil => exact h1.elim
        | cons d2 es =>
          cases es with
          | cons _ _ => exact h1.elim
          | nil =>
            obtain ⟨v, w, rfl, iv, iw⟩ := two_is i1
            exact ⟨v, w, rfl, hn _ S1 h1 _ L1 F1 H1 g1 ((env1.set iv i).set iw j) s1⟩
    · exact h1.elim
theorem js_par3 {i j l : Nat} {y z u : Str} {py pz pu pt : Pos} {kt k2 pt2} (hc : X.calm = true) (hN : X.N.Nodup) (hi : X.N[i]? = some y) (hj : X.N[j]? = some z) (hl : X.N[l]? = some u) (hij : i ≠ j) (hil : i ≠ l) (hjl : j ≠ l)
    (hy : X.env.scope.names.lookup y = some .local) (hz : X.env.scope.names.lookup z = some .local) (hu : X.env.scope.names.lookup u = some .local) (ha : JA X W [a, b, c] rr)
    (hw : swappedStores [.Tuple [.Name y py, .Name z pz, .Name u pu] kt pt] (.Tuple [a, b, c] k2 pt2) X.env = pure (some [y, z, u]))
    (hs : swapsWithSole [.Tuple [.Name y py, .Name z pz, .Name u pu] kt pt] (.Tuple [a, b, c] k2 pt2) pos.line X.env = pure false := by rfl) :
    JS X W (.Assign [.Tuple [.Name y py, .Name z pz, .Name u pu] kt pt] (.Tuple [a, b, c] k2 pt2) pos) (rAsgs rr 3 (rgCons (rgName i) (rgCons (rgName j) (rgCons (rgName l) rgNil)))) :=
  ps_weak (ps_par3 hc hN hi hj hl hij hil hjl hy hz hu ha hw hs) fun D σ H ⟨L, F, S, ds, O, env, sto, h, hn, hr, hb, hc, hx⟩ => upA.bind env sto h (hx.at env) fun es S1 vs L1 F1 H1 h1 g1 env1 i1 s1 => by
    split at h1
    · cases es with
      | nil => exact h1.elim
      | cons d es =>
        cases es with
        | nil => exact h1.elim
        | cons d2 es =>
          cases es with
          | nil => exact h1.elim
          | cons d3 es =>
            cases es with
            | cons _ _ => exact h1.elim
            | nil =>
              obtain ⟨v, r, rfl, iv, i2⟩ := i1
              obtain ⟨w, u, rfl, iw, iu⟩ := two_is i2
              exact ⟨v, w, u, rfl, hn _ S1 h1 _ L1 F1 H1 g1 (((env1.set iv i).set iw j).set iu l) s1⟩
    · exact h1.elim
def rDrop (re : RE) : RS := fun D ds S => re ds S (fun _ S1 => D.nx ds S1) fun C S' => D.xc C ds S'
theorem js_expr (he : JE X W e re) (hs : swapsWith e none pos.line X.env = pure false := by rfl) : JS X W (.Expr e pos) (rDrop re) :=
  ps_weak (ps_expr he hs) fun D σ H ⟨L, F, S, ds, O, env, sto, h, hn, hr, hb, hc, hx⟩ => upE.bind env sto h (hx.at env) fun d S1 v L1 F1 H1 h1 g1 env1 i1 s1 => hn _ S1 h1 σ L1 F1 H1 g1 env1 s1
def rRet (re : RE) : RS := fun D ds S => re ds S D.rt fun C S' => D.xc C ds S'
theorem js_ret (he : JE X W e re) : JS X W (.Return (some e) pos) (rRet re) :=
  ps_weak (ps_ret he) fun D σ H ⟨L, F, S, ds, O, env, sto, h, hn, hr, hb, hc, hx⟩ => upE.bind env sto h (hx.at env) fun d S1 v L1 F1 H1 h1 g1 env1 i1 s1 => hr d S1 h1 v L1 F1 H1 g1 i1 s1
def rRetN : RS := fun D _ S => D.rt .non S
theorem js_retN : JS X W (.Return none pos) rRetN :=
  ps_weak ps_retN fun D σ H ⟨L, F, S, ds, O, env, sto, h, hn, hr, hb, hc, hx⟩ => hr _ S h _ L F H .refl rfl sto
def rNext : RS := fun D ds S => D.nx ds S
def rSeq (t u : RS) : RS := fun D ds S => t { D with nx := u D } ds S
def rIfS (t : RT) (u v : RS) : RS := fun D ds S => t ds S (fun k S1 => match k with
  | true => u D ds S1
  | false => v D ds S1) fun C S' => D.xc C ds S'
variable {st : Stmt} {rest sts sts2 : List Stmt} {t u : RS} {tc : RT}
theorem jb_nil : JB X W [] rNext := pb_weak pss_nil fun D σ H ⟨L, F, S, ds, O, env, sto, h, hn, hr, hb, hc, hx⟩ => hn _ S h σ L F H .refl env sto
theorem jb_cons (h1 : JS X W st t) (h2 : JB X W rest u) : JB X W (st :: rest) (rSeq t u) :=
  pb_weak (pss_cons h1 h2) fun D σ H ⟨L, F, S, ds, O, env, sto, h, hn, hr, hb, hc, hx⟩ => ⟨L, F, S, ds, _, env, sto, h,
    fun ds' S' h' σ' L' F' H' g env' s' => ⟨L', F', S', ds', O, env', s', h', hn.on g, hr.on g, hb.on g, hc.on g, hx.on g⟩, hr, hb, hc, hx⟩
theorem jb_one (h1 : JS X W st t) : JB X W [st] t := pss_one h1
theorem js_if (hc : JT X W c tc) (ha : JB X W sts t) (hb : JB X W sts2 u) : JS X W (.If c sts sts2 pos) (rIfS tc t u) :=
  ps_weak (ps_if hc ha hb) fun D σ H ⟨L, F, S, ds, O, env, sto, h, hn, hr, hb, hc, hx⟩ => upT.bind env sto h (hx.at env) fun k S1 L1 F1 H1 h1 g1 env1 s1 => by
    cases k with
    | true => exact iteT ⟨L1, F1, S1, ds, O, env1, s1, h1, hn.on g1, hr.on g1, hb.on g1, hc.on g1, hx.on g1⟩
    | false => exact iteF ⟨L1, F1, S1, ds, O, env1, s1, h1, hn.on g1, hr.on g1, hb.on g1, hc.on g1, hx.on g1⟩
def rNever : RS := fun _ _ _ => False
theorem js_never : JS X W st rNever := ps_weak ps_never fun D σ H ⟨L, F, S, ds, O, env, sto, h, _⟩ => h.elim
theorem jb_never : JB X W sts rNever := pb_weak pss_never fun D σ H ⟨L, F, S, ds, O, env, sto, h, _⟩ => h.elim
/-- the list at a cell will not change any more: the slot's value is data from here on -/
def rFz (i : Nat) (t : RS) : RS := fun D ds S => match ds[i]? with
  | some (some (.loc n)) => (match S[n]? with
    | some (.lst xs) => noLoc xs = true ∧ t D (ds.set i (some (.lst xs))) (S.set n .dead)
    | _ => False)
  | _ => False
theorem Go.fz {L : List Addr} {F H : Hp} {a : Addr} {o : HO} (ha : a ∈ L) (hF : F a = none) : Go L F H L (upd F a o) H :=
  ⟨⟨[], by simp, by simp⟩, Ex.new hF, fun _ _ h _ => h, fun _ h => h, fun b e => by
    by_cases z : b = a
    · rw [z]; exact .inr (.inr ha)
    · rw [upd_ne z] at e; exact .inl e⟩
theorem Sto.fz {K : PySem.W.Frag} {L : List Addr} {F H : Hp} {S : List Cell} (s : Sto K L F H S) {n : Nat} {a : Addr} {o : HO} (ha : L[n]? = some a) (hF : F a = none) (hH : H a = some o) : Sto K L (upd F a o) H (S.set n .dead) := by
  have hm := List.mem_of_getElem? ha
  refine ⟨fun b u e => ?_, by rw [List.length_set]; exact s.len, s.nd, s.al, fun j c b h1 h2 h3 => ?_⟩
  · by_cases z : b = a
    · rw [z] at e ⊢; rw [upd_same] at e; rw [hH]; exact e
    · rw [upd_ne z] at e; exact s.ex b u e
  · by_cases e : j = n
    · subst e
      rw [List.getElem?_set_self (by rw [← s.len]; exact (List.getElem?_eq_some_iff.mp ha).1)] at h1
      exact absurd (Option.some.inj h1).symm h3
    · rw [List.getElem?_set_ne (Ne.symm e)] at h1
      obtain ⟨q1, q2⟩ := s.cel j c b h1 h2 h3
      have nb : b ≠ a := fun z => by subst z; exact e (nodup_i s.nd h2 ha)
      exact ⟨by rw [upd_ne nb]; exact q1, q2.keep (Go.fz hm hF) rfl⟩
theorem jb_fz (i : Nat) (h : JB X W sts t) : JB X W sts (rFz i t) := pb_weak h fun D σ H ⟨L, F, S, ds, O, env, sto, h, hn, hr, hb, hc, hx⟩ => by
  unfold rFz at h
  split at h
  · rename_i n hd
    split at h
    · rename_i xs hS
      obtain ⟨v, hv, p, ha, e1⟩ := env.get hd
      obtain ⟨z1, vs, e2, e3⟩ := sto.cel n _ p hS ha (fun z => by cases z)
      have g := Go.fz (L := L) (F := F) (H := H) (o := .lst vs) (List.mem_of_getElem? ha) z1
      have iv : IsD X.K L (upd F p (.lst vs)) (.lst xs) v := ⟨p, vs, e1, upd_same, IsL.mono g.ff _ _ (e3.un h.1)⟩
      have en := (env.mono g).set iv i
      rw [show σ.set i (some v) = σ from by
        apply List.ext_getElem?
        intro j
        by_cases hj : i = j
        · subst hj
          rw [List.getElem?_set_self (List.getElem?_eq_some_iff.mp hv).1, hv]
        · rw [List.getElem?_set_ne hj]] at en
      exact ⟨L, _, _, _, O, en, sto.fz ha z1 e2, h.2, hn.on g, hr.on g, hb.on g, hc.on g, hx.on g⟩
    · exact h.elim
  · exact h.elim
/-- xs.append(e), a list of one's own -/
def rApp (ro re : RE) : RE := fun ds S q x => ro ds S (fun o S0 => match o with
  | .loc n => (match S0[n]? with
    | some (.lst _) => re ds S0 (fun d S1 => match S1[n]? with
      | some (.lst xs) => xs.length < 100000 ∧ q .non (S1.set n (.lst (xs ++ [d])))
      | _ => False) x
    | _ => False)
  | _ => False) x
theorem je_app (ho : JE X W o ro) (he : JE X W e re) (hbase : attributeBase o "append" X.env (eval o X.env) = eval o X.env := by rfl)
    (hfew : ((backTo pos (starEach [e] X.env)).all (fun x => !x.1) && (backToKw pos (keywordEach [] X.env)).all (fun x => x.1.isSome)
      && decide (([e] : List Expr).length + ([] : List Keyword).length + (if ([] : List Keyword).isEmpty then 0 else 1) < 30)) = true := by rfl)
    (hline : (apos.endLine == pos.line) = true := by rfl) (hs : starEach [e] X.env = (false, eval e X.env) :: starEach [] X.env := by rfl) (hplain : (backTo pos (starEach [] X.env)).any (·.1) = false := by rfl) :
    JE X W (.Call (.Attribute o "append" apos) [e] [] pos) (rApp ro re) := by
  refine pe_weak (pe_bm PySem.F.plainAttrs_list PySem.F.slot_list_append PySem.F.type_list_append mt_append ho (ja_cons (W := W) he ja_nil hs) hbase hfew hline hs hplain) fun σ H Q ⟨L, F, S, ds, q, x, env, sto, h, hq, hx⟩ => ?_
  refine upE.bind env sto h hx fun d S0 v L0 F0 H0 h0 g0 env0 i0 s0 => ?_
  cases d with
  | loc n =>
    obtain ⟨p, ha, rfl⟩ := i0
    simp only at h0
    split at h0
    · rename_i xs0 hS0
      obtain ⟨z1, vs, e2, e3⟩ := s0.cel n _ p hS0 ha (fun z => by cases z)
      refine ⟨.inl ⟨rfl, vs, .of e2⟩, ?_⟩
      refine upA.bind (r := rCons re rNil) env0 s0 (q := fun es S1 => match es with
        | [d] => (match S1[n]? with
          | some (.lst xs) => xs.length < 100000 ∧ q .non (S1.set n (.lst (xs ++ [d])))
          | _ => False)
        | _ => False) h0 (hx.on g0) fun es S1 us L1 F1 H1 h1 g1 env1 i1 s1 => ?_
      cases es with
      | nil => exact h1.elim
      | cons d es =>
        cases es with
        | cons _ _ => exact h1.elim
        | nil =>
          obtain ⟨w, rfl, iw⟩ := one_is i1
          have ha1 : L1[n]? = some p := by
            obtain ⟨M, eM, _⟩ := g1.pre
            rw [eM]; exact getElem?_pre ha
          have h1 : (match S1[n]? with
            | some (.lst xs) => xs.length < 100000 ∧ q .non (S1.set n (.lst (xs ++ [d])))
            | _ => False) := h1
          split at h1
          · rename_i xs hS
            obtain ⟨z1, vs, e2, e3⟩ := s1.cel n _ p hS ha1 (fun z => by cases z)
            have hm := List.mem_of_getElem? ha1
            have g3 : Go L1 F1 H1 L1 F1 (upd H1 p (.lst (vs ++ [w]))) := Go.put hm (s1.al p hm)
            refine ⟨p, vs, w, rfl, rfl, e2, by rw [e3.length]; exact sz5' h1.1, ?_⟩
            exact hq _ _ h1.2 _ L1 F1 _ ((g0.trans g1).trans g3) rfl (s1.put ha1 z1 ⟨_, upd_same, IsDL.append (e3.mono g3) ⟨w, [], rfl, iw.mono g3, rfl⟩⟩)
          · exact h1.elim
    · exact h0.elim
  | _ => exact h0.elim
end
end DL
end

section
set_option maxHeartbeats 4000000
namespace DL
open PySem L2
section
variable {X : Cx} {W : WX} {a b e o c : Expr} {es : List Expr} {ra rb re ro : RE} {rr : RA} {pos p apos p2 tpos : Pos} {x : Str} {tg iter : Expr}
/-! ### what is walked -/
/-- an iterator that gives these items, one by one, over the frozen part F -/
structure ItOk (K : PySem.W.Frag) (F : Hp) (J : It) (items : List D) : Prop where
  w : ∃ Y, Walk J items.length (fun H => Ex F H) Y ∧ ∀ i H v H' F', Ex F F' → Ex F' H → Y i H v H' → ∃ d F1, items[i]? = some d ∧ Gr F' H F1 H' ∧ Is K F1 d v
abbrev RI := List (Option D) → List Cell → (List D → List Cell → Prop) → XP → Prop
def upI (K : PySem.W.Frag) (W : WX) (r : RI) : TI := fun σ H R => ∃ L F S ds q x, Env K L F ds σ ∧ Sto K L F H S ∧ r ds S q x ∧
  (∀ items S', q items S' → ∀ L' F' H' J, Go L F H L' F' H' → Sto K L' F' H' S' → ItOk K F' J items → R J H') ∧ QX K W L F H σ x
def JI (X : Cx) (W : WX) (tg iter : Expr) (r : RI) : Prop := PI X tg iter (upI X.K W r)
theorem pi_weak {t t' : TI} (h : PI X tg iter t) (w : ∀ σ H Q, t' σ H Q → t σ H Q) : PI X tg iter t' := ⟨fun pins s σ H Q I z => h.run pins s σ H Q I (w σ H Q z)⟩
theorem Gr.refl {F H : Hp} (e : Ex F H) : Gr F H F H := ⟨Ex.refl _, Ex.refl _, e, fun _ h => .inl h⟩
theorem itok_at {K : PySem.W.Frag} {F : Hp} {J : It} {items : List D} {vs : List V} {G : Hp → Prop} (i : IsL K F items vs) (w : Walk J vs.length G (YAt vs)) (hG : ∀ H, Ex F H → G H) : ItOk K F J items := by
  refine ⟨YAt vs, by rw [← i.length]; exact w.mono hG (fun _ _ _ _ _ _ y => y), fun j H v H' F' e1 e2 y => ?_⟩
  obtain ⟨rfl, hv⟩ := y
  have hj : j < items.length := by rw [← i.length]; exact (List.getElem?_eq_some_iff.mp hv).1
  obtain ⟨v', h1, h2⟩ := i.get (List.getElem?_eq_getElem hj)
  rw [hv] at h1; cases h1
  exact ⟨_, F', List.getElem?_eq_getElem hj, .refl e2, Is.mono e1 _ _ h2⟩
/-- a frozen list, a tuple -/
def rSeqI (r : RE) : RI := fun ds S q x => r ds S (fun d S1 => match d with
  | .lst xs => q xs S1
  | .tup xs => q xs S1
  | _ => False) x
def rLstI (r : RE) : RI := fun ds S q x => r ds S (fun d S1 => match d with
  | .lst xs => q xs S1
  | _ => False) x
def rTupI (r : RE) : RI := fun ds S q x => r ds S (fun d S1 => match d with
  | .tup xs => q xs S1
  | _ => False) x
theorem ji_lst (h : JE X W e re) : JI X W tg e (rLstI re) := pi_weak (pi_list h) fun σ H R ⟨L, F, S, ds, q, x, env, sto, h, hq, hx⟩ => upE.bind env sto h hx fun d S1 v L1 F1 H1 h1 g1 env1 i1 s1 => by
  cases d with
  | lst xs =>
    obtain ⟨p, vs, e1, e2, e3⟩ := i1
    exact ⟨p, e1, ⟨vs, .of (s1.ex _ _ e2)⟩, hq xs S1 h1 L1 F1 H1 _ g1 s1 (itok_at e3 walk_list fun H e => .of (e _ _ e2))⟩
  | _ => exact h1.elim
theorem ji_tup (h : JE X W e re) : JI X W tg e (rTupI re) := pi_weak (pi_tup h) fun σ H R ⟨L, F, S, ds, q, x, env, sto, h, hq, hx⟩ => upE.bind env sto h hx fun d S1 v L1 F1 H1 h1 g1 env1 i1 s1 => by
  cases d with
  | tup xs =>
    obtain ⟨p, vs, e1, e2, e3⟩ := i1
    exact ⟨p, e1, ⟨vs, .of (s1.ex _ _ e2)⟩, hq xs S1 h1 L1 F1 H1 _ g1 s1 (itok_at e3 walk_tup fun H e => .of (e _ _ e2))⟩
  | _ => exact h1.elim
/-- range -/
def rngD (lo hi : Int) : List D := (List.range (hi - lo).toNat).map fun i : Nat => D.int (lo + i)
/-- the number n of turns is open: its bounds are told -/
def rRng1 (re : RE) : RI := fun ds S q x => re ds S (fun d S1 => match d with
  | .int n => (-100000 ≤ n ∧ n ≤ 100000) ∧ q (rngD 0 n) S1
  | _ => False) x
def rRng2 (ra rb : RE) : RI := fun ds S q x => ra ds S (fun d S1 => rb ds S1 (fun e S2 => match d, e with
  | .int m, .int n => (-100000 ≤ m ∧ m ≤ 100000 ∧ -100000 ≤ n ∧ n ≤ 100000) ∧ q (rngD m n) S2
  | _, _ => False) x) x
theorem itok_rng {K : PySem.W.Frag} {F : Hp} {lo hi : Int} {n : Nat} (h : (hi - lo).toNat = n) : ItOk K F (Itr lo n) (rngD lo hi) := by
  have hw : Walk (Itr lo n) n (fun H => Ex F H) (fun i H v H' => i < n ∧ (YFn fun i => V.int (lo + i)) i H v H') := (walk_range (lo := lo) (n := n)).mono (fun _ _ => trivial) fun i H v H' hi _ y => ⟨hi, y⟩
  refine ⟨_, by rw [show (rngD lo hi).length = n by simp [rngD, h]]; exact hw, fun i H v H' F' e1 e2 y => ?_⟩
  obtain ⟨hi', rfl, rfl⟩ := y
  exact ⟨.int (lo + i), F', by unfold rngD; rw [h]; simp [hi'], .refl e2, rfl⟩
theorem ji_rng1 (hg : Gl X "range") (hm : X.mg "range" = none) (ha : JE X W a ra) (hs : starEach [a] X.env = [(false, eval a X.env)] := by rfl) : JI X W tg (.Call (.Name "range" p) [a] [] pos) (rRng1 ra) :=
  pi_weak (pi_range1 hg hm (pa_cons ha pa_nil (by rw [hs]; rfl)) hs) fun σ H R ⟨L, F, S, ds, q, x, env, sto, h, hq, hx⟩ =>
    upE.bind env sto h hx fun d S1 v L1 F1 H1 h1 g1 env1 i1 s1 => by
      cases d with
      | int n => exact ⟨n, by rw [show v = V.int n from i1], by have := h1.1; omega, by have := h1.1; omega, hq _ S1 h1.2 L1 F1 H1 _ g1 s1 (itok_rng (by simp))⟩
      | _ => exact h1.elim
theorem ji_rng2 (hg : Gl X "range") (hm : X.mg "range" = none) (ha : JE X W a ra) (hb : JE X W b rb) (hs : starEach [a, b] X.env = [(false, eval a X.env), (false, eval b X.env)] := by rfl) (hs2 : starEach [b] X.env = [(false, eval b X.env)] := by rfl) :
    JI X W tg (.Call (.Name "range" p) [a, b] [] pos) (rRng2 ra rb) :=
  pi_weak (pi_range2 hg hm (pa_cons ha (pa_cons hb pa_nil (by rw [hs2]; rfl)) (by rw [hs, hs2])) hs hs2) fun σ H R ⟨L, F, S, ds, q, x, env, sto, h, hq, hx⟩ =>
    upE.bind env sto h hx fun d S1 v L1 F1 H1 h1 g1 env1 i1 s1 => upE.bind env1 s1 h1 (hx.on g1) fun e S2 w L2 F2 H2 h2 g2 env2 i2 s2 => by
      cases d with
      | int m =>
        cases e with
        | int n => exact ⟨m, n, by rw [show v = V.int m from i1, show w = V.int n from i2], by have := h2.1; omega, hq _ S2 h2.2 L2 F2 H2 _ (g1.trans g2) s2 (itok_rng rfl)⟩
        | _ => exact h2.elim
      | _ => cases e <;> exact h2.elim
/-- pairs, each a new tuple -/
theorem itok_pair {K : PySem.W.Frag} {F : Hp} {J : It} {xs ys : List D} {f g : Nat → Option V} {n : Nat} {G : Hp → Prop} (hn : n = min xs.length ys.length) (w : Walk J n G (YPair f g)) (hG : ∀ H, Ex F H → G H)
    (hf : ∀ i v, f i = some v → ∀ d, xs[i]? = some d → Is K F d v) (hg : ∀ i v, g i = some v → ∀ d, ys[i]? = some d → Is K F d v) : ItOk K F J ((xs.zip ys).map fun p => .tup [p.1, p.2]) := by
  refine ⟨fun i H v H' => i < n ∧ YPair f g i H v H', by
    rw [show ((xs.zip ys).map fun p => D.tup [p.1, p.2]).length = n by simp [hn]]
    exact w.mono hG (fun i H v H' hi _ y => ⟨hi, y⟩), fun i H v H' F' e1 e2 y => ?_⟩
  obtain ⟨hi, T, x, y, rfl, hT, rfl, hx, hy⟩ := y
  have h1 : i < xs.length := by omega
  have h2 : i < ys.length := by omega
  have fn : F' T = none := by
    cases q : F' T with
    | none => rfl
    | some u => rw [e2 T u q] at hT; cases hT
  refine ⟨.tup [xs[i], ys[i]], upd F' T (.tup [x, y]), by rw [List.getElem?_map, show (xs.zip ys)[i]? = some (xs[i], ys[i]) from by rw [List.getElem?_zip_eq_some]; simp [h1, h2]]; rfl, ⟨Ex.new fn, Ex.new hT, fun b u e => ?_, fun b e => ?_⟩, T, _, rfl, upd_same, ?_⟩
  · by_cases z : b = T
    · rw [z] at e ⊢; rw [upd_same] at e ⊢; exact e
    · rw [upd_ne z] at e ⊢; exact e2 b u e
  · by_cases z : b = T
    · rw [z]; exact .inr hT
    · rw [upd_ne z] at e; exact .inl e
  · exact ⟨x, _, rfl, Is.mono (e1.trans (Ex.new fn)) _ _ (hf i x hx _ (by simp [h1])), y, _, rfl, Is.mono (e1.trans (Ex.new fn)) _ _ (hg i y hy _ (by simp [h2])), rfl⟩
theorem walk_zipT' {K : PySem.W.Frag} {a b : Addr} {xs ys : List V} {n : Nat} (hn : n = min xs.length ys.length) : Walk (RZ.ItzT K a b) n (fun H => SqT K H a xs ∧ SqT K H b ys) (YPair (fun i => xs[i]?) (fun i => ys[i]?)) := by
  subst hn
  refine ⟨fun i _ hi q => ?_, fun _ q => ⟨xs, ys, q.1, q.2, by omega⟩, fun i H v H' _ q y => ?_⟩
  · exact ⟨xs, ys, xs[i]'(by omega), ys[i]'(by omega), q.1, q.2, List.getElem?_eq_getElem _, List.getElem?_eq_getElem _⟩
  · obtain ⟨T, x, z, h1, h2, h3, h4, h5⟩ := y
    exact ⟨T, x, z, h1, h2, h3, h4 xs q.1, h5 ys q.2⟩
def zipD (xs ys : List D) : List D := (xs.zip ys).map fun p => .tup [p.1, p.2]
def rZip (ra rb : RE) : RI := fun ds S q x => ra ds S (fun d S1 => rb ds S1 (fun e S2 => match d, e with
  | .lst a, .lst b => q (zipD a b) S2
  | .tup a, .tup b => q (zipD a b) S2
  | _, _ => False) x) x
theorem ji_zip {elts : List Expr} {kk : Nat} (hg : Gl X "zip") (hm : X.mg "zip" = none) (ha : JE X W a ra) (hb : JE X W b rb)
    (hp : ∀ {t : TA}, PA X [a, b] t → PI X (.Tuple elts kk tpos) (.Call (.Name "zip" p) [a, b] [] pos) (RZ.iZipA X.K t)) (hs : starEach [a, b] X.env = (false, eval a X.env) :: starEach [b] X.env := by rfl) (hs2 : starEach [b] X.env = (false, eval b X.env) :: starEach [] X.env := by rfl) :
    JI X W (.Tuple elts kk tpos) (.Call (.Name "zip" p) [a, b] [] pos) (rZip ra rb) :=
  pi_weak (hp (pa_cons ha (pa_cons hb pa_nil hs2) hs)) fun σ H R ⟨L, F, S, ds, q, x, env, sto, h, hq, hx⟩ =>
    upE.bind env sto h hx fun d S1 v L1 F1 H1 h1 g1 env1 i1 s1 => upE.bind env1 s1 h1 (hx.on g1) fun e S2 w L2 F2 H2 h2 g2 env2 i2 s2 => by
      have i1 := i1.mono g2
      cases d with
      | lst xs =>
        cases e with
        | lst ys =>
          obtain ⟨p, vs, rfl, e2, e3⟩ := i1
          obtain ⟨p', ws, rfl, f2, f3⟩ := i2
          refine ⟨p, p', vs, ws, rfl, .inl ⟨.of (s2.ex _ _ e2), .of (s2.ex _ _ f2), hq _ S2 h2 L2 F2 H2 _ (g1.trans g2) s2 ?_⟩⟩
          refine itok_pair (n := min vs.length ws.length) (by rw [e3.length, f3.length]) (walk_zip rfl) (fun H z => ⟨.of (z _ _ e2), .of (z _ _ f2)⟩) (fun i v hv d hd => ?_) fun i v hv d hd => ?_
          · obtain ⟨v', q1, q2⟩ := e3.get hd
            rw [hv] at q1; cases q1; exact q2
          · obtain ⟨v', q1, q2⟩ := f3.get hd
            rw [hv] at q1; cases q1; exact q2
        | _ => exact h2.elim
      | tup xs =>
        cases e with
        | tup ys =>
          obtain ⟨p, vs, rfl, e2, e3⟩ := i1
          obtain ⟨p', ws, rfl, f2, f3⟩ := i2
          refine ⟨p, p', vs, ws, rfl, .inr ⟨.of (s2.ex _ _ e2), .of (s2.ex _ _ f2), hq _ S2 h2 L2 F2 H2 _ (g1.trans g2) s2 ?_⟩⟩
          have hw : Walk (RZ.ItzT X.K p p') (min vs.length ws.length) (fun H => SqT X.K H p vs ∧ SqT X.K H p' ws) (YPair (fun i => vs[i]?) (fun i => ws[i]?)) := by
            exact walk_zipT' rfl
          refine itok_pair (n := min vs.length ws.length) (by rw [e3.length, f3.length]) hw (fun H z => ⟨.of (z _ _ e2), .of (z _ _ f2)⟩) (fun i v hv d hd => ?_) fun i v hv d hd => ?_
          · obtain ⟨v', q1, q2⟩ := e3.get hd
            rw [hv] at q1; cases q1; exact q2
          · obtain ⟨v', q1, q2⟩ := f3.get hd
            rw [hv] at q1; cases q1; exact q2
        | _ => exact h2.elim
      | _ => cases e <;> exact h2.elim
def enumD (xs : List D) : List D := ((List.range xs.length).zip xs).map fun p => .tup [.int (p.1 : Int), p.2]
def rEnL (ra : RE) : RI := fun ds S q x => ra ds S (fun d S1 => match d with
  | .lst a => q (enumD a) S1
  | _ => False) x
theorem enumD_eq (xs : List D) : enumD xs = ((((List.range xs.length).map fun i : Nat => D.int i).zip xs).map fun p => .tup [p.1, p.2]) := by
  unfold enumD
  rw [List.zip_map_left, List.map_map]
  rfl
theorem ji_enum {elts : List Expr} {kk : Nat} (hg : Gl X "enumerate") (hm : X.mg "enumerate" = none) (ha : JE X W a ra) (hs : starEach [a] X.env = [(false, eval a X.env)] := by rfl) :
    JI X W (.Tuple elts kk tpos) (.Call (.Name "enumerate" p) [a] [] pos) (rEnL ra) :=
  pi_weak (pi_enum hg hm (pa_cons ha pa_nil (by rw [hs]; rfl)) hs) fun σ H R ⟨L, F, S, ds, q, x, env, sto, h, hq, hx⟩ =>
    upE.bind env sto h hx fun d S1 v L1 F1 H1 h1 g1 env1 i1 s1 => by
      cases d with
      | lst xs =>
        obtain ⟨p, vs, rfl, e2, e3⟩ := i1
        refine ⟨p, vs, rfl, .of (s1.ex _ _ e2), hq _ S1 h1 L1 F1 H1 _ g1 s1 ?_⟩
        rw [enumD_eq]
        refine itok_pair (n := vs.length) (by simp [e3.length]) walk_enum (fun H z => .of (z _ _ e2)) (fun i v hv d hd => ?_) fun i v hv d hd => ?_
        · cases hv
          rw [List.getElem?_map] at hd
          obtain ⟨j, hj, rfl⟩ := Option.map_eq_some_iff.mp hd
          rw [show j = i from by
            have := List.getElem?_range (n := xs.length) (i := i) (by
              have := (List.getElem?_eq_some_iff.mp hj).1
              simpa using this)
            rw [this] at hj; cases hj; rfl]
          rfl
        · obtain ⟨v', q1, q2⟩ := e3.get hd
          rw [hv] at q1; cases q1; exact q2
      | _ => exact h1.elim
/-! ### for -/
def forD (rg : RG) (rb : RS) (D : Out) : List DL.D → List (Option DL.D) → List Cell → Prop
  | [], ds, S => D.nx ds S
  | d :: items, ds, S => rg d ds S fun ds1 S1 => rb { D with nx := forD rg rb D items, ct := forD rg rb D items, bk := D.nx } ds1 S1
def rFor (ri : RI) (rg : RG) (rb : RS) : RS := fun D ds S => ri ds S (fun items S1 => forD rg rb D items ds S1) fun C S' => D.xc C ds S'
variable {body : List Stmt} {ri : RI} {rg : RG} {rb' : RS}
theorem js_for (hp : PassesOwn (model X.prog X.w) X.A X.env X.xe) (hc : X.calm = true) (hi : JI X W tg iter ri) (hg : JG X tg rg) (hb : JB X W body rb')
    (hs : ∀ x, foldedSetIterable iter X.env x = pure x := by intro _; rfl) : JS X W (.For tg iter body [] pos) (rFor ri rg rb') :=
  ps_weak (ps_for hp hc hi hg hb hs) fun D σ H ⟨L, F, S, ds, O, env, sto, h, hn, hr, hbk, hct, hx⟩ =>
    ⟨L, F, S, ds, _, _, env, sto, h, fun items S1 h1 L1 F1 H1 J g1 s1 it => by
      obtain ⟨Y, w, y⟩ := it.w
      refine for_it w (fun i σ' H' => ∃ L' F' S' ds', Go L1 F1 H1 L' F' H' ∧ Env X.K L' F' ds' σ' ∧ Sto X.K L' F' H' S' ∧ forD rg rb' O (items.drop i) ds' S') ⟨L1, F1, S1, ds, .refl, env.mono g1, s1, h1⟩ (fun i σ' H' _ ⟨L', F', S', ds', g, _, s', _⟩ => g.ff.trans s'.ex) ?_ ?_
      · rintro i v σ' H' H'' hi ⟨L', F', S', ds', g, en, s', hf⟩ hy
        obtain ⟨d, F2, hd, gr, iv⟩ := y i H' v H'' F' g.ff s'.ex hy
        have hdrop : items.drop i = d :: items.drop (i + 1) := by
          have hl := (List.getElem?_eq_some_iff.mp hd).1
          rw [List.drop_eq_getElem_cons hl, (List.getElem?_eq_some_iff.mp hd).2]
        rw [hdrop] at hf
        refine ⟨L', F2, S', ds', d, _, en.mono gr.go, gr.sto s', .of iv, hf, fun ds2 S2 h2 σ2 L2 F3 H2 g2 en2 s2 => ?_⟩
        have gg := (g.trans gr.go).trans g2
        exact ⟨L2, F3, S2, ds2, _, en2, s2, h2, fun ds3 S3 h3 σ3 L3 F4 H3 g3 en3 s3 => ⟨L3, F4, S3, ds3, gg.trans g3, en3, s3, h3⟩, (hr.on g1).on gg, (hn.on g1).on gg, fun ds3 S3 h3 σ3 L3 F4 H3 g3 en3 s3 => ⟨L3, F4, S3, ds3, gg.trans g3, en3, s3, h3⟩, (hx.on g1).on gg⟩
      · rintro σ' H' ⟨L', F', S', ds', g, en, s', hf⟩
        rw [List.drop_eq_nil_of_le (Nat.le_refl _)] at hf
        exact hn _ S' hf σ' L' F' H' (g1.trans g) en s', hx.at env⟩
/-! ### while -/
def whD (rt : RT) (rb : RS) (D : Out) : Nat → List (Option DL.D) → List Cell → Prop
  | 0, _, _ => False
  | n + 1, ds, S => rt ds S (fun b S1 => match b with
    | true => rb { D with nx := whD rt rb D n, ct := whD rt rb D n, bk := D.nx } ds S1
    | false => D.nx ds S1) fun C S' => D.xc C ds S'
def rWhile (rt : RT) (rb : RS) : RS := fun D ds S => ∃ n, whD rt rb D n ds S
theorem js_while {rt : RT} (hp : PassesOwn (model X.prog X.w) X.A X.env X.xe) (hc : JT X W c rt) (hb : JB X W body rb') : JS X W (.While c body [] pos) (rWhile rt rb') :=
  ps_weak (ps_while hp hc hb) fun D σ H ⟨L, F, S, ds, O, env, sto, ⟨n, h⟩, hn, hr, hbk, hct, hx⟩ => by
    refine ⟨fun m σ' H' => ∃ L' F' S' ds', Go L F H L' F' H' ∧ Env X.K L' F' ds' σ' ∧ Sto X.K L' F' H' S' ∧ whD rt rb' O m ds' S', ⟨n, L, F, S, ds, .refl, env, sto, h⟩, ?_⟩
    rintro m σ' H' ⟨L', F', S', ds', g, en, s', hw⟩
    cases m with
    | zero => exact hw.elim
    | succ m =>
      refine upT.bind en s' hw ((hx.on g).at en) fun b S1 L1 F1 H1 h1 g1 en1 s1 => ?_
      have gg := g.trans g1
      cases b with
      | true =>
        refine iteT ⟨fun σ2 H2 => ∃ L' F' S' ds', Go L F H L' F' H2 ∧ Env X.K L' F' ds' σ2 ∧ Sto X.K L' F' H2 S' ∧ whD rt rb' O m ds' S', fun σ2 H2 z => ⟨m, Nat.lt_succ_self _, z⟩, L1, F1, S1, ds', _, en1, s1, h1, ?_, hr.on gg, hn.on gg, ?_, hx.on gg⟩
        · exact fun ds3 S3 h3 σ3 L3 F4 H3 g3 en3 s3 => ⟨L3, F4, S3, ds3, gg.trans g3, en3, s3, h3⟩
        · exact fun ds3 S3 h3 σ3 L3 F4 H3 g3 en3 s3 => ⟨L3, F4, S3, ds3, gg.trans g3, en3, s3, h3⟩
      | false => exact iteF (hn _ S1 h1 σ' L1 F1 H1 gg en1 s1)
end
end DL
end

section
set_option maxHeartbeats 4000000
namespace DL
open PySem L2
/-! ### comprehensions -/
section
variable {K : PySem.W.Frag} {L : List Addr} {F F' H : Hp}
theorem IsD.exF (e : Ex F F') {d : D} {v : V} (h : IsD K L F d v) : IsD K L F' d v := by
  cases d with
  | loc n => exact h
  | _ => exact IsD.of (Is.mono e _ _ h)
theorem IsDL.exF (e : Ex F F') : ∀ {ds : List D} {vs : List V}, IsDL K L F ds vs → IsDL K L F' ds vs
  | [], _, h => h
  | _ :: _, _, ⟨v, r, h1, h2, h3⟩ => ⟨v, r, h1, h2.exF e, h3.exF e⟩
theorem CellIs.exF (e : Ex F F') {c : Cell} {a : Addr} (h : CellIs K L F H c a) : CellIs K L F' H c a := by
  cases c with
  | lst ds => obtain ⟨vs, h1, h2⟩ := h; exact ⟨vs, h1, h2.exF e⟩
  | ins c ds => obtain ⟨dx, vs, h1, h2⟩ := h; exact ⟨dx, vs, h1, h2.exF e⟩
  | dead => trivial
  | ext ψ => obtain ⟨o, F0, h1, h2, h3⟩ := h; exact ⟨o, F0, h1, h2.trans e, h3⟩
end
theorem wipe_get {σ : St} {j : Nat} : ∀ {vs : List Nat}, (wipe σ vs)[j]? = if j ∈ vs ∧ j < σ.length then some none else σ[j]?
  | [] => by simp [wipe]
  | v :: vs => by
    unfold wipe
    by_cases h : v = j
    · subst h
      by_cases hl : v < σ.length
      · rw [List.getElem?_set_self (by rw [wipe_length]; exact hl), if_pos ⟨by simp, hl⟩]
      · rw [if_neg (fun z => hl z.2), List.getElem?_eq_none (by rw [List.length_set, wipe_length]; omega), List.getElem?_eq_none (by omega)]
    · rw [List.getElem?_set_ne h, wipe_get (vs := vs)]
      by_cases hm : j ∈ vs ∧ j < σ.length
      · rw [if_pos hm, if_pos ⟨List.mem_cons_of_mem _ hm.1, hm.2⟩]
      · rw [if_neg hm, if_neg fun z => hm ⟨(List.mem_cons.mp z.1).elim (fun e => absurd e.symm h) (fun e => e), z.2⟩]
theorem wipe_set {σ : St} {i : Nat} {x : Option V} {vs : List Nat} (h : i ∈ vs) : wipe (σ.set i x) vs = wipe σ vs := by
  apply List.ext_getElem?
  intro j
  rw [wipe_get, wipe_get, List.length_set]
  by_cases hj : j ∈ vs ∧ j < σ.length
  · rw [if_pos hj, if_pos hj]
  · rw [if_neg hj, if_neg hj]
    by_cases e : i = j
    · subst e
      have hl : ¬ i < σ.length := fun z => hj ⟨h, z⟩
      rw [List.getElem?_eq_none (by rw [List.length_set]; omega), List.getElem?_eq_none (by omega)]
    · rw [List.getElem?_set_ne e]
theorem wipe_wipe {σ : St} {vs : List Nat} : wipe (wipe σ vs) vs = wipe σ vs := by
  apply List.ext_getElem?
  intro j
  rw [wipe_get, wipe_length, wipe_get]
  split <;> rfl
def wipeD (ds : List (Option D)) : List Nat → List (Option D)
  | [] => ds
  | v :: vs => (wipeD ds vs).set v none
section
variable {K : PySem.W.Frag} {L : List Addr} {F H : Hp}
theorem Env.clear : ∀ {ds : List (Option D)} {σ : St} (i : Nat), Env K L F ds σ → Env K L F (ds.set i none) (σ.set i none)
  | [], _, _, h => by rw [show _ = ([] : St) from h]; exact rfl
  | none :: ds, _, 0, ⟨o, r, h1, h2⟩ => by rw [h1]; exact ⟨_, r, rfl, h2⟩
  | some _ :: ds, _, 0, ⟨o, r, h1, _, h2⟩ => by rw [h1]; exact ⟨_, r, rfl, h2⟩
  | none :: ds, _, i + 1, ⟨o, r, h1, h2⟩ => by rw [h1]; exact ⟨o, _, rfl, Env.clear i h2⟩
  | some _ :: ds, _, i + 1, ⟨w, r, h1, q, h2⟩ => by rw [h1]; exact ⟨w, _, rfl, q, Env.clear i h2⟩
theorem Env.wipe {ds : List (Option D)} {σ : St} (h : Env K L F ds σ) : ∀ vs : List Nat, Env K L F (wipeD ds vs) (L2.wipe σ vs)
  | [] => h
  | v :: vs => (Env.wipe h vs).clear v
end
structure GOk (K : PySem.W.Frag) (g : TG) (rg : RG) (vs : List Nat) : Prop where
  up : ∀ v σ H Q, upG K rg v σ H Q → g v σ H Q
  mono : ∀ v σ H (P Q : St → Hp → Prop), (∀ σ H, P σ H → Q σ H) → g v σ H P → g v σ H Q
  only : ∀ v σ H P, g v σ H P → g v σ H fun σ2 H2 => wipe σ2 vs = wipe σ vs ∧ P σ2 H2
structure GOks (K : PySem.W.Frag) (g : TGs) (rg : RGs) (vs : List Nat) : Prop where
  up : ∀ v σ H Q, upGs K rg v σ H Q → g v σ H Q
  mono : ∀ v σ H (P Q : St → Hp → Prop), (∀ σ H, P σ H → Q σ H) → g v σ H P → g v σ H Q
  only : ∀ v σ H P, g v σ H P → g v σ H fun σ2 H2 => wipe σ2 vs = wipe σ vs ∧ P σ2 H2
section
variable {K : PySem.W.Frag} {vs : List Nat}
theorem gok_name {i : Nat} (h : i ∈ vs := by decide) : GOk K (gName i) (rgName i) vs := ⟨rgName_up, fun _ _ _ _ _ h p => h _ _ p, fun _ _ _ _ p => ⟨wipe_set h, p⟩⟩
theorem gok_nil : GOks K gNil rgNil vs := ⟨rgNil_up, fun _ _ _ _ _ h p => ⟨p.1, h _ _ p.2⟩, fun _ _ _ _ p => ⟨p.1, rfl, p.2⟩⟩
theorem gok_cons {g : TG} {gs : TGs} {r : RG} {rs : RGs} (a : GOk K g r vs) (b : GOks K gs rs vs) : GOks K (gCons g gs) (rgCons r rs) vs :=
  ⟨rgCons_up a.up b.up, fun v σ H P Q h ⟨w, t, e, p⟩ => ⟨w, t, e, a.mono _ _ _ _ _ (fun σ H q => b.mono _ _ _ _ _ h q) p⟩,
    fun v σ H P ⟨w, t, e, p⟩ => ⟨w, t, e, a.mono _ _ _ _ _ (fun σ' H' ⟨h1, q⟩ => b.mono _ _ _ _ _ (fun σ2 H2 ⟨h2, z⟩ => ⟨h2.trans h1, z⟩) (b.only _ _ _ _ q)) (a.only _ _ _ _ p)⟩⟩
theorem gok_tup {n : Nat} {gs : TGs} {rs : RGs} (a : GOks K gs rs vs) : GOk K (gTup K n gs) (rgTup n rs) vs :=
  ⟨rgTup_up a.up, fun v σ H P Q h ⟨p, xs, e1, e2, e3, q⟩ => ⟨p, xs, e1, e2, e3, a.mono _ _ _ _ _ h q⟩, fun v σ H P ⟨p, xs, e1, e2, e3, q⟩ => ⟨p, xs, e1, e2, e3, a.only _ _ _ _ q⟩⟩
end
section
variable {X : Cx} {W : WX} {elt tg iter c : Expr} {pos : Pos} {ri : RI} {rg : RG} {rt : RT} {re : RE}
abbrev W0 : WX := fun _ _ _ _ => False
def JTs (X : Cx) (W : WX) (ifs : List Expr) (r : RT) : Prop := PTs X ifs (upT X.K W r)
def rYes : RT := fun _ S q _ => q true S
theorem pts_weak {e : List Expr} {t t' : TT} (h : PTs X e t) (w : ∀ σ H Q, t' σ H Q → t σ H Q) : PTs X e t' := ⟨fun pins s σ H Q I z => h.run pins s σ H Q I (w σ H Q z)⟩
theorem jts_nil : JTs X W [] rYes := pts_weak pts_nil fun σ H Q ⟨L, F, S, ds, q, x, env, sto, h, hq, hx⟩ => hq true S h L F H .refl sto
theorem jts_one {r : RT} (h : JT X W c r) : JTs X W [c] r := pts_one h
def lcD (rg : RG) (rt : RT) (re : RE) (ds : List (Option D)) : List D → List D → List Cell → (List D → List Cell → Prop) → Prop
  | [], acc, S, k => k acc S
  | d :: items, acc, S, k => rg d ds S fun ds1 S1 => rt ds1 S1 (fun b S2 => match b with
    | true => re ds1 S2 (fun y S3 => noLoc [y] = true ∧ acc.length < 100000 ∧ lcD rg rt re ds items (acc ++ [y]) S3 k) fun _ _ => False
    | false => lcD rg rt re ds items acc S2 k) fun _ _ => False
def rLc (ri : RI) (rg : RG) (vs : List Nat) (rt : RT) (re : RE) : RE := fun ds S q x => ri ds S (fun items S1 => lcD rg rt re (wipeD ds vs) items [] S1 fun acc S2 => q (.lst acc) S2) x
/-- .. a list of one's own -/
def rLcO (ri : RI) (rg : RG) (vs : List Nat) (rt : RT) (re : RE) : RE := fun ds S q x => ri ds S (fun items S1 => lcD rg rt re (wipeD ds vs) items [] S1 fun acc S2 => q (.loc S2.length) (S2 ++ [.lst acc])) x
theorem Go.pri {L L' : List Addr} {F H F' H' : Hp} {D : Addr} {o : HO} (g : Go L F H L' F' H') (hD : D ∉ L) (hF : F D = none) (hH : H D = some o) : H' D = some o ∧ D ∉ L' ∧ F' D = none := by
  refine ⟨g.keep D o hH hD, fun z => ?_, ?_⟩
  · obtain ⟨M, e, n⟩ := g.pre
    rw [e] at z
    rcases List.mem_append.mp z with z | z
    · exact hD z
    · rw [n D z] at hH; cases hH
  · cases q : F' D with
    | none => rfl
    | some u =>
      rcases g.new D (by rw [q]; exact fun y => by cases y) with z | z | z
      · exact absurd hF z
      · rw [z] at hH; cases hH
      · exact absurd z hD
/-- a thing of nobody's may change -/
theorem Sto.priv {K : PySem.W.Frag} {L : List Addr} {F H : Hp} {S : List Cell} (s : Sto K L F H S) {D : Addr} {o : HO} (hD : D ∉ L) (hF : F D = none) : Sto K L F (upd H D o) S :=
  ⟨fun b u e => by rw [upd_ne fun z => by subst z; rw [hF] at e; cases e]; exact s.ex b u e, s.len, s.nd, fun a ha => by rw [upd_ne fun z => hD (by rw [← z]; exact ha)]; exact s.al a ha, fun n c a h1 h2 h3 => by
    obtain ⟨q1, q2⟩ := s.cel n c a h1 h2 h3
    have ne : a ≠ D := fun z => hD (by rw [← z]; exact List.mem_of_getElem? h2)
    refine ⟨q1, ?_⟩
    cases c with
    | lst ds => obtain ⟨vs, e1, e2⟩ := q2; exact ⟨vs, by rw [upd_ne ne]; exact e1, e2⟩
    | ins c ds => obtain ⟨dx, vs, e1, e2⟩ := q2; exact ⟨dx, vs, by rw [upd_ne ne]; exact e1, e2⟩
    | dead => trivial
    | ext ψ => obtain ⟨o, F0, h1, h2, h3⟩ := q2; exact ⟨o, F0, by rw [upd_ne ne]; exact h1, h2, h3⟩⟩
/-- what holds between two turns: from L1 F1 H1 (ahead of the list at D) on -/
structure LcI (K : PySem.W.Frag) (L1 : List Addr) (F1 H1 : Hp) (A : Addr) (acc : List D) (L' : List Addr) (F' H' : Hp) (S' : List Cell) : Prop where
  go : ∃ Hx, Go L1 F1 H1 L' F' Hx ∧ ∀ b, b ≠ A → Hx b = H' b
  nA : A ∉ L'
  fA : F' A = none
  hA : ∃ vs, H' A = some (.lst vs) ∧ IsL K F' acc vs
  sto : Sto K L' F' H' S'
theorem lc_main {σ : St} {K : PySem.W.Frag} {g : TG} {vs : List Nat} (G : GOk K g rg vs) {L1 : List Addr} {F1 H1 : Hp} {ds : List (Option D)} {S1 : List Cell} {items : List D} {J : It} {k : List D → List Cell → Prop} {Qd : Addr → Hp → Prop}
    (env : Env K L1 F1 ds σ) (sto : Sto K L1 F1 H1 S1) (it : ItOk K F1 J items) (h : lcD rg rt re (wipeD ds vs) items [] S1 k)
    (fin : ∀ A acc S' L' F' H', H1 A = none → LcI K L1 F1 H1 A acc L' F' H' S' → k acc S' → Qd A H') :
    ∀ A, H1 A = none → ∃ W : Nat → Nat → Hp → Prop, (∃ m, W 0 m (upd H1 A (.lst []))) ∧ ∀ i m H, W i m H → (J.stop i H ∧ Qd A H) ∨ (J.go i H ∧ ∃ Nx : Hp → Prop, (∀ H', Nx H' → ∃ m', m' < m ∧ W (i + 1) m' H') ∧ ∀ x H', J.yld i H x H' → g x (wipe σ vs) H' fun σ2 H2 => wipe σ2 vs = wipe σ vs ∧ upT K W0 rt σ2 H2 fun b H3 =>
      if b = true then upE K W0 re σ2 H3 fun y H4 => ∃ acc, H4 A = some (.lst acc) ∧ acc.length < sizeLine ∧ Nx (upd H4 A (.lst (acc ++ [y]))) else Nx H3) := by
  intro A nA
  obtain ⟨Y, w, y⟩ := it.w
  have fA : F1 A = none := sto.fnone nA
  have lA : A ∉ L1 := fun z => sto.al A z nA
  refine lc_it w (fun i H' => ∃ acc L' F' S', LcI K L1 F1 H1 A acc L' F' H' S' ∧ lcD rg rt re (wipeD ds vs) (items.drop i) acc S' k) ?_ (fun i H' _ ⟨acc, L', F', S', I, _⟩ => ?_) ?_ ?_
  · exact ⟨[], L1, F1, S1, ⟨⟨H1, .refl, fun b hb => by rw [upd_ne hb]⟩, lA, fA, ⟨[], upd_same, rfl⟩, sto.priv lA fA⟩, h⟩
  · obtain ⟨Hx, g, _⟩ := I.go
    exact g.ff.trans I.sto.ex
  · rintro i v H' H'' hi ⟨acc, L', F', S', I, hl⟩ hy
    obtain ⟨Hx, gx, ex⟩ := I.go
    obtain ⟨d, F2, hd, gr, iv⟩ := y i H' v H'' F' gx.ff I.sto.ex hy
    have hdrop : items.drop i = d :: items.drop (i + 1) := by
      have hl := (List.getElem?_eq_some_iff.mp hd).1
      rw [List.drop_eq_getElem_cons hl, (List.getElem?_eq_some_iff.mp hd).2]
    rw [hdrop] at hl
    obtain ⟨ws, hw, iw⟩ := I.hA
    have s2 := gr.sto I.sto
    have hA2 : H'' A = some (.lst ws) := gr.hh A _ hw
    have fA2 : F2 A = none := by
      cases q : F2 A with
      | none => rfl
      | some u =>
        rcases gr.new A (by rw [q]; exact fun y => by cases y) with z | z
        · exact absurd I.fA z
        · rw [z] at hw; cases hw
    -- the state ahead of the turn, as a Go from the beginning up to A
    have glue : ∀ {L3 : List Addr} {F3 H3 : Hp}, Go L' F2 H'' L3 F3 H3 → ∃ Hy, Go L1 F1 H1 L3 F3 Hy ∧ ∀ b, b ≠ A → Hy b = H3 b := fun {L3 F3 H3} g3 => by
      refine ⟨fun b => if b = A then Hx b else H3 b, ?_, fun b hb => if_neg hb⟩
      obtain ⟨M, e1, n1⟩ := gx.pre
      obtain ⟨M', e2, n2⟩ := g3.pre
      have n3 : ∀ b, H'' b = none → H1 b = none := fun b hb => by
        have hb' : H' b = none := by
          cases q : H' b with
          | none => rfl
          | some o => rw [gr.hh b o q] at hb; cases hb
        by_cases z : b = A
        · rw [z]; exact nA
        · exact gx.there b (by rw [ex b z]; exact hb')
      refine ⟨⟨M ++ M', by rw [e2, e1, List.append_assoc], fun b hb => ?_⟩, (gx.ff.trans gr.ff).trans g3.ff, fun b o hb hL => ?_, fun b hb => ?_, fun b hb => ?_⟩
      · rcases List.mem_append.mp hb with z | z
        · exact n1 b z
        · exact n3 b (n2 b z)
      · have zA : b ≠ A := fun z => by rw [z, nA] at hb; cases hb
        show (if b = A then Hx b else H3 b) = some o
        rw [if_neg zA]
        have q1 : H' b = some o := by rw [← ex b zA]; exact gx.keep b o hb hL
        refine g3.keep b o (gr.hh b o q1) ?_
        rw [e1]
        intro z
        rcases List.mem_append.mp z with z | z
        · exact hL z
        · rw [n1 b z] at hb; cases hb
      · by_cases z : b = A
        · rw [z]; exact nA
        · have hb' : H3 b = none := by
            have hb : (if b = A then Hx b else H3 b) = none := hb
            rw [if_neg z] at hb; exact hb
          exact n3 b (g3.there b hb')
      · rcases g3.new b hb with z | z | z
        · rcases gr.new b z with z | z
          · exact gx.new b z
          · refine .inr (.inl ?_)
            by_cases e : b = A
            · rw [e]; exact nA
            · exact gx.there b (by rw [ex b e]; exact z)
        · exact .inr (.inl (n3 b z))
        · rw [e1] at z
          rcases List.mem_append.mp z with z | z
          · exact .inr (.inr z)
          · exact .inr (.inl (n1 b z))
    have env0 : ∀ {Hy : Hp}, Go L1 F1 H1 L' F2 Hy → Env K L' F2 (wipeD ds vs) (wipe σ vs) := fun g => (env.mono g).wipe vs
    obtain ⟨Hy0, gy0, _⟩ := glue (.refl)
    refine G.mono _ _ _ _ _ (fun σ2 H2 ⟨hw2, q⟩ => ⟨hw2.trans wipe_wipe, q⟩) (G.only _ _ _ _ (G.up _ _ _ _ ⟨L', F2, S', wipeD ds vs, d, _, env0 gy0, s2, .of iv, hl, fun ds3 S3 h3 σ3 L3 F3 H3 g3 en3 s3 => ?_⟩))
    refine upT.bind en3 s3 h3 QX.no fun b S4 L4 F4 H4 h4 g4 en4 s4 => ?_
    have g34 := g3.trans g4
    cases b with
    | true =>
      refine iteT (upE.bind en4 s4 h4 QX.no fun yd S5 yv L5 F5 H5 h5 g5 en5 i5 s5 => ?_)
      have g345 := g34.trans g5
      obtain ⟨p1, p2, p3⟩ := g345.pri I.nA fA2 hA2
      refine ⟨ws, p1, by rw [iw.length]; exact sz5' h5.2.1, acc ++ [yd], L5, F5, S5, ⟨?_, p2, p3, ⟨_, upd_same, (IsL.mono (gr.ff.trans g345.ff) _ _ iw).append ⟨yv, [], rfl, i5.un h5.1, rfl⟩⟩, s5.priv p2 p3⟩, h5.2.2⟩
      obtain ⟨Hy, gy, ey⟩ := glue g345
      exact ⟨Hy, gy, fun b hb => by rw [upd_ne hb]; exact ey b hb⟩
    | false =>
      refine iteF ?_
      obtain ⟨p1, p2, p3⟩ := g34.pri I.nA fA2 hA2
      exact ⟨acc, L4, F4, S4, ⟨glue g34, p2, p3, ⟨ws, p1, IsL.mono (gr.ff.trans g34.ff) _ _ iw⟩, s4⟩, h4⟩
  · rintro H' ⟨acc, L', F', S', I, hl⟩
    rw [List.drop_eq_nil_of_le (Nat.le_refl _)] at hl
    exact fin A acc S' L' F' H' nA I hl
/-- the list is data -/
theorem LcI.frz {K : PySem.W.Frag} {L1 : List Addr} {F1 H1 : Hp} {A : Addr} {acc : List D} {L' : List Addr} {F' H' : Hp} {S' : List Cell} (nA : H1 A = none) (I : LcI K L1 F1 H1 A acc L' F' H' S') :
    ∃ F2, Go L1 F1 H1 L' F2 H' ∧ Sto K L' F2 H' S' ∧ Is K F2 (.lst acc) (.ref A) := by
  obtain ⟨Hx, g, ex⟩ := I.go
  obtain ⟨vs, hA, iA⟩ := I.hA
  obtain ⟨M, e1, n1⟩ := g.pre
  have s := I.sto
  refine ⟨upd F' A (.lst vs), ⟨⟨M, e1, n1⟩, g.ff.trans (Ex.new I.fA), fun b o hb hL => ?_, fun b hb => ?_, fun b hb => ?_⟩, ⟨fun b u e => ?_, s.len, s.nd, s.al, fun n c a h1 h2 h3 => ?_⟩, A, vs, rfl, upd_same, IsL.mono (Ex.new I.fA) _ _ iA⟩
  · have zA : b ≠ A := fun z => by rw [z, nA] at hb; cases hb
    rw [← ex b zA]; exact g.keep b o hb hL
  · by_cases z : b = A
    · rw [z]; exact nA
    · exact g.there b (by rw [ex b z]; exact hb)
  · by_cases z : b = A
    · rw [z]; exact .inr (.inl nA)
    · rw [upd_ne z] at hb; exact g.new b hb
  · by_cases z : b = A
    · rw [z] at e ⊢; rw [upd_same] at e; rw [hA]; exact e
    · rw [upd_ne z] at e; exact s.ex b u e
  · obtain ⟨q1, q2⟩ := s.cel n c a h1 h2 h3
    have ne : a ≠ A := fun z => I.nA (by rw [← z]; exact List.mem_of_getElem? h2)
    exact ⟨by rw [upd_ne ne]; exact q1, q2.exF (Ex.new I.fA)⟩
theorem je_lc {scope : Scope} {own : List (Str × Nat)} {g : TG} {ifs : List Expr} (hc : X.calm = true) (hN : X.N.Nodup) (hi : JI X W tg iter ri) (ok : BlkOk X.N X.env.scope scope own)
    (hg : ∀ (s : Shared) (H : Hp) (C : Addr) (cl : List (Str × Addr)) (fp : List Addr), PG (X.blk s H scope (compEnvC scope cl C X.env) fp) tg g) (G : GOk X.K g rg (own.map (·.2)))
    (ht : ∀ (s : Shared) (H : Hp) (C : Addr) (cl : List (Str × Addr)) (fp : List Addr), JTs (X.blk s H scope (compEnvC scope cl C X.env) fp) W0 ifs rt)
    (he : ∀ (s : Shared) (H : Hp) (C : Addr) (cl : List (Str × Addr)) (fp : List Addr), JE (X.blk s H scope (compEnvC scope cl C X.env) fp) W0 elt re) (hs : ∀ x, foldedSetIterable iter X.env x = pure x := by intro _; rfl) :
    JE X W (.ListComp elt [⟨tg, iter, ifs, 0⟩] scope pos) (rLc ri rg (own.map (·.2)) rt re) :=
  pe_weak (pe_lc (tt := upT X.K W0 rt) (te := upE X.K W0 re) hc hN hi ok hg ht he hs) fun σ H Q ⟨L, F, S, ds, q, x, env, sto, h, hq, hx⟩ =>
    ⟨L, F, S, ds, _, x, env, sto, h, fun items S1 h1 L1 F1 H1 J g1 s1 it => lc_main G (env.mono g1) s1 it h1 fun A acc S' L' F' H' nA I hk => by
      obtain ⟨F2, g2, s2, i2⟩ := I.frz nA
      exact hq _ S' hk _ L' F2 H' (g1.trans g2) (.of i2) s2, hx⟩
theorem LcI.own {K : PySem.W.Frag} {L1 : List Addr} {F1 H1 : Hp} {A : Addr} {acc : List D} {L' : List Addr} {F' H' : Hp} {S' : List Cell} (nA : H1 A = none) (I : LcI K L1 F1 H1 A acc L' F' H' S') :
    Go L1 F1 H1 (L' ++ [A]) F' H' ∧ Sto K (L' ++ [A]) F' H' (S' ++ [.lst acc]) ∧ IsD K (L' ++ [A]) F' (.loc S'.length) (.ref A) := by
  obtain ⟨Hx, g, ex⟩ := I.go
  obtain ⟨vs, hA, iA⟩ := I.hA
  obtain ⟨M, e1, n1⟩ := g.pre
  have s := I.sto
  refine ⟨⟨⟨M ++ [A], by rw [e1, List.append_assoc], fun b hb => ?_⟩, g.ff, fun b o hb hL => ?_, fun b hb => ?_, g.new⟩, ⟨s.ex, by simp [s.len], ?_, fun b hb => ?_, fun n c a h1 h2 h3 => ?_⟩, A, by rw [← s.len, List.getElem?_append_right (Nat.le_refl _)]; simp, rfl⟩
  · rcases List.mem_append.mp hb with z | z
    · exact n1 b z
    · rw [List.mem_singleton.mp z]; exact nA
  · have zA : b ≠ A := fun z => by rw [z, nA] at hb; cases hb
    rw [← ex b zA]; exact g.keep b o hb hL
  · by_cases z : b = A
    · rw [z]; exact nA
    · exact g.there b (by rw [ex b z]; exact hb)
  · rw [List.nodup_append]
    exact ⟨s.nd, by simp, fun b hb d hd => by rw [List.mem_singleton.mp hd]; exact fun z => I.nA (by rw [← z]; exact hb)⟩
  · rcases List.mem_append.mp hb with z | z
    · exact s.al b z
    · rw [List.mem_singleton.mp z, hA]; exact fun z => by cases z
  · by_cases hj : n < L'.length
    · rw [List.getElem?_append_left hj] at h2
      rw [List.getElem?_append_left (by rw [← s.len]; exact hj)] at h1
      obtain ⟨y1, y2⟩ := s.cel n c a h1 h2 h3
      exact ⟨y1, y2.pre⟩
    · rw [List.getElem?_append_right (by omega)] at h2
      rw [List.getElem?_append_right (by rw [← s.len]; omega), ← s.len] at h1
      have e0 : n - L'.length = 0 := by
        have := (List.getElem?_eq_some_iff.mp h2).1
        simp at this; omega
      rw [e0] at h1 h2
      simp at h1 h2
      subst h1 h2
      exact ⟨I.fA, vs, hA, .of iA⟩
theorem je_lcO {scope : Scope} {own : List (Str × Nat)} {g : TG} {ifs : List Expr} (hc : X.calm = true) (hN : X.N.Nodup) (hi : JI X W tg iter ri) (ok : BlkOk X.N X.env.scope scope own)
    (hg : ∀ (s : Shared) (H : Hp) (C : Addr) (cl : List (Str × Addr)) (fp : List Addr), PG (X.blk s H scope (compEnvC scope cl C X.env) fp) tg g) (G : GOk X.K g rg (own.map (·.2)))
    (ht : ∀ (s : Shared) (H : Hp) (C : Addr) (cl : List (Str × Addr)) (fp : List Addr), JTs (X.blk s H scope (compEnvC scope cl C X.env) fp) W0 ifs rt)
    (he : ∀ (s : Shared) (H : Hp) (C : Addr) (cl : List (Str × Addr)) (fp : List Addr), JE (X.blk s H scope (compEnvC scope cl C X.env) fp) W0 elt re) (hs : ∀ x, foldedSetIterable iter X.env x = pure x := by intro _; rfl) :
    JE X W (.ListComp elt [⟨tg, iter, ifs, 0⟩] scope pos) (rLcO ri rg (own.map (·.2)) rt re) :=
  pe_weak (pe_lc (tt := upT X.K W0 rt) (te := upE X.K W0 re) hc hN hi ok hg ht he hs) fun σ H Q ⟨L, F, S, ds, q, x, env, sto, h, hq, hx⟩ =>
    ⟨L, F, S, ds, _, x, env, sto, h, fun items S1 h1 L1 F1 H1 J g1 s1 it => lc_main G (env.mono g1) s1 it h1 fun A acc S' L' F' H' nA I hk => by
      obtain ⟨g2, s2, i2⟩ := I.own nA
      exact hq _ _ hk _ _ F' H' (g1.trans g2) i2 s2, hx⟩
/-- x = [..], x a local name -/
theorem js_setLc {scope : Scope} {own : List (Str × Nat)} {g : TG} {ifs : List Expr} {i : Nat} {y : Str} {py spos : Pos} (hc : X.calm = true) (hN : X.N.Nodup) (hy : X.N[i]? = some y) (hyl : X.env.scope.names.lookup y = some .local)
    (hsw : swapsWith (.ListComp elt [⟨tg, iter, ifs, 0⟩] scope pos) (some (.Name y py)) spos.line X.env = pure true) (hi : JI X W tg iter ri) (ok : BlkOk X.N X.env.scope scope own)
    (hg : ∀ (s : Shared) (H : Hp) (C : Addr) (cl : List (Str × Addr)) (fp : List Addr), PG (X.blk s H scope (compEnvC scope cl C X.env) fp) tg g) (G : GOk X.K g rg (own.map (·.2)))
    (ht : ∀ (s : Shared) (H : Hp) (C : Addr) (cl : List (Str × Addr)) (fp : List Addr), JTs (X.blk s H scope (compEnvC scope cl C X.env) fp) W0 ifs rt)
    (he : ∀ (s : Shared) (H : Hp) (C : Addr) (cl : List (Str × Addr)) (fp : List Addr), JE (X.blk s H scope (compEnvC scope cl C X.env) fp) W0 elt re) (hs : ∀ x, foldedSetIterable iter X.env x = pure x := by intro _; rfl) :
    JS X W (.Assign [.Name y py] (.ListComp elt [⟨tg, iter, ifs, 0⟩] scope pos) spos) (rAsg (rLc ri rg (own.map (·.2)) rt re) (rgName i)) :=
  ps_weak (ps_setLc (tt := upT X.K W0 rt) (te := upE X.K W0 re) hc hN hy hyl hsw hi ok hg ht he hs) fun D σ H ⟨L, F, S, ds, O, env, sto, h, hn, hr, hb, hc, hx⟩ =>
    ⟨L, F, S, ds, _, _, env, sto, h, fun items S1 h1 L1 F1 H1 J g1 s1 it => lc_main G (env.mono g1) s1 it h1 fun A acc S' L' F' H' nA I hk => by
      obtain ⟨F2, g2, s2, i2⟩ := I.frz nA
      exact hn _ S' hk _ L' F2 H' (g1.trans g2) ((env.mono (g1.trans g2)).set (.of i2) i) s2, hx.at env⟩
theorem js_setLcO {scope : Scope} {own : List (Str × Nat)} {g : TG} {ifs : List Expr} {i : Nat} {y : Str} {py spos : Pos} (hc : X.calm = true) (hN : X.N.Nodup) (hy : X.N[i]? = some y) (hyl : X.env.scope.names.lookup y = some .local)
    (hsw : swapsWith (.ListComp elt [⟨tg, iter, ifs, 0⟩] scope pos) (some (.Name y py)) spos.line X.env = pure true) (hi : JI X W tg iter ri) (ok : BlkOk X.N X.env.scope scope own)
    (hg : ∀ (s : Shared) (H : Hp) (C : Addr) (cl : List (Str × Addr)) (fp : List Addr), PG (X.blk s H scope (compEnvC scope cl C X.env) fp) tg g) (G : GOk X.K g rg (own.map (·.2)))
    (ht : ∀ (s : Shared) (H : Hp) (C : Addr) (cl : List (Str × Addr)) (fp : List Addr), JTs (X.blk s H scope (compEnvC scope cl C X.env) fp) W0 ifs rt)
    (he : ∀ (s : Shared) (H : Hp) (C : Addr) (cl : List (Str × Addr)) (fp : List Addr), JE (X.blk s H scope (compEnvC scope cl C X.env) fp) W0 elt re) (hs : ∀ x, foldedSetIterable iter X.env x = pure x := by intro _; rfl) :
    JS X W (.Assign [.Name y py] (.ListComp elt [⟨tg, iter, ifs, 0⟩] scope pos) spos) (rAsg (rLcO ri rg (own.map (·.2)) rt re) (rgName i)) :=
  ps_weak (ps_setLc (tt := upT X.K W0 rt) (te := upE X.K W0 re) hc hN hy hyl hsw hi ok hg ht he hs) fun D σ H ⟨L, F, S, ds, O, env, sto, h, hn, hr, hb, hc, hx⟩ =>
    ⟨L, F, S, ds, _, _, env, sto, h, fun items S1 h1 L1 F1 H1 J g1 s1 it => lc_main G (env.mono g1) s1 it h1 fun A acc S' L' F' H' nA I hk => by
      obtain ⟨g2, s2, i2⟩ := I.own nA
      exact hn _ _ hk _ _ F' H' (g1.trans g2) ((env.mono (g1.trans g2)).set i2 i) s2, hx.at env⟩
end
end DL
end

section
set_option maxHeartbeats 4000000
namespace DL
open PySem L2
/-! ### a def's body keeps its contract -/
def startD (N : List Str) (ds : List D) : List (Option D) := ds.map some ++ List.replicate (N.length - ds.length) none
section
variable {K : PySem.W.Frag} {L : List Addr} {F H : Hp} {S : List Cell}
theorem env_none : ∀ n : Nat, Env K L F (List.replicate n none) (List.replicate n none)
  | 0 => rfl
  | n + 1 => ⟨none, _, rfl, env_none n⟩
theorem env_start {N : List Str} {ds : List D} {vs : List V} (h : IsDL K L F ds vs) : Env K L F (startD N ds) (L2.start N vs) := by
  unfold startD L2.start
  rw [h.length]
  have go : ∀ (ds : List D) (vs : List V), IsDL K L F ds vs → ∀ n, Env K L F (ds.map some ++ List.replicate n none) (vs.map some ++ List.replicate n none) := by
    intro ds
    induction ds with
    | nil => intro vs h n; rw [show vs = [] from h]; exact env_none n
    | cons d ds ih =>
      intro vs ⟨v, r, h1, h2, h3⟩ n
      rw [h1]
      exact ⟨v, _, rfl, h2, ih r h3 n⟩
  exact go ds vs h _
/-- what is handed back: a list, an instance of one's own is data from then on -/
def rtOf (q : D → Prop) (S : List Cell) : D → Prop
  | .loc n => match S[n]? with
    | some (.lst es) => noLoc es = true ∧ q (.lst es)
    | some (.ins c es) => noLoc es = true ∧ q (.obj c es)
    | _ => False
  | d => q d
theorem rtOf_ok {q : D → Prop} {d : D} {v : V} (s : Sto K L F H S) (i : IsD K L F d v) (h : rtOf q S d) : ∃ d' F', q d' ∧ Ex F F' ∧ Ex F' H ∧ Is K F' d' v ∧ ∀ b, F' b ≠ none → F b ≠ none ∨ ∃ n, d = .loc n ∧ L[n]? = some b := by
  cases d with
  | loc n =>
    obtain ⟨a, ha, rfl⟩ := i
    have h : (match S[n]? with
      | some (.lst es) => noLoc es = true ∧ q (.lst es)
      | some (.ins c es) => noLoc es = true ∧ q (.obj c es)
      | _ => False) := h
    have nw : ∀ {o : HO} (b : Addr), upd F a o b ≠ none → F b ≠ none ∨ ∃ m, D.loc n = .loc m ∧ L[m]? = some b := fun {o} b hb => by
      by_cases z : b = a
      · rw [z]; exact .inr ⟨n, rfl, ha⟩
      · rw [upd_ne z] at hb; exact .inl hb
    have exh : ∀ {o : HO}, H a = some o → Ex (upd F a o) H := fun {o} ho b u e => by
      by_cases z : b = a
      · rw [z] at e ⊢; rw [upd_same] at e; rw [ho]; exact e
      · rw [upd_ne z] at e; exact s.ex b u e
    split at h
    · rename_i es hS
      obtain ⟨z1, vs, e2, e3⟩ := s.cel n _ a hS ha (fun z => by cases z)
      exact ⟨_, _, h.2, Ex.new z1, exh e2, ⟨a, vs, rfl, upd_same, IsL.mono (Ex.new z1) _ _ (e3.un h.1)⟩, nw⟩
    · rename_i c es hS
      obtain ⟨z1, dx, vs, e2, e3⟩ := s.cel n _ a hS ha (fun z => by cases z)
      exact ⟨_, _, h.2, Ex.new z1, exh e2, ⟨a, dx, vs, rfl, upd_same, IsL.mono (Ex.new z1) _ _ (e3.un h.1)⟩, nw⟩
    · exact h.elim
  | _ => exact ⟨_, F, h, Ex.refl _, s.ex, i, fun b hb => .inl hb⟩
end
def out0 (q : D → Prop) (x : Addr → Prop) : Out := { nx := fun _ _ => q .non, rt := fun d S => rtOf q S d, bk := fun _ _ => False, ct := fun _ _ => False, xc := fun C _ _ => x C }
def okc : Cell → Prop
  | .lst es => noLoc es = true
  | .ins _ es => noLoc es = true
  | .dead => False
  | .ext _ => True
def fst1 (q : Cell → Prop) : List Cell → Prop
  | c :: _ => okc c ∧ q c
  | [] => False
def not0 : D → Prop
  | .loc 0 => False
  | _ => True
def out1 (q : D → Cell → Prop) (x : Addr → Cell → Prop) : Out := { nx := fun _ S => fst1 (q .non) S, rt := fun d S => not0 d ∧ fst1 (fun c => rtOf (fun d => q d c) S d) S, bk := fun _ _ => False, ct := fun _ _ => False, xc := fun C _ S => fst1 (x C) S }
def belowL (m : Nat) : List D → Bool
  | [] => true
  | .loc n :: r => Nat.blt n m && belowL m r
  | _ :: r => belowL m r
def belowC (m : Nat) : Cell → Prop
  | .lst es => belowL m es = true
  | .ins _ es => belowL m es = true
  | .dead => True
  | .ext _ => True
def allC (m : Nat) : List Cell → Prop
  | [] => True
  | c :: r => belowC m c ∧ allC m r
def notB (m : Nat) : D → Prop
  | .loc n => m ≤ n
  | _ => True
def outM (m : Nat) (q : D → List Cell → Prop) : Out := { nx := fun _ S => m ≤ S.length ∧ allC m (S.take m) ∧ q .non (S.take m), rt := fun d S => m ≤ S.length ∧ allC m (S.take m) ∧ notB m d ∧ rtOf (fun d => q d (S.take m)) S d, bk := fun _ _ => False, ct := fun _ _ => False, xc := fun _ _ _ => False }
def outI (q : List Cell → Prop) : Out := { nx := fun _ S => q S, rt := fun _ _ => False, bk := fun _ _ => False, ct := fun _ _ => False, xc := fun _ _ _ => False }
section
variable {K : PySem.W.Frag} {N : List Str} {n : Nat} {r : RS} {vs : List V} {H : Hp} {Q : VK} {E : XK}
theorem sto0 {F : Hp} (e : Ex F H) : Sto K [] F H [] := ⟨e, rfl, List.nodup_nil, fun a h => by simp at h, fun n c a h => by simp at h⟩
theorem up_sp0 {pc : PC} (h : ∀ ds q x, pc ds q x → ds.length = n → r (out0 q x) (startD N ds) []) (hs : sp0 K n pc vs H Q E) :
    upS K (fun cls d _ H => E cls d H) r { nx := fun _ H' => Q .non H', rt := Q } (L2.start N vs) H := by
  obtain ⟨F, ds, q, x, ex, il, hl, hp, hq, hx⟩ := hs
  refine ⟨[], F, [], startD N ds, _, env_start (.of il), sto0 ex, h ds q x hp hl, fun ds' S' h' σ L' F' H' g en s => ?_, fun d S' h' v L' F' H' g i s => ?_, fun _ _ z => z.elim, fun _ _ z => z.elim, fun C ds' S' h' σ d L' F' H' g en s => ?_⟩
  · exact hq _ h' _ F' H' (g.gr s) rfl
  · obtain ⟨d', F2, hd, e1, e2, e3, nw⟩ := rtOf_ok s i h'
    have gr := g.gr s
    refine hq _ hd _ F2 H' ⟨gr.ff.trans e1, gr.hh, e2, fun b hb => ?_⟩ e3
    rcases nw b hb with z | ⟨m, _, z⟩
    · exact gr.new b z
    · obtain ⟨M, eM, nM⟩ := g.pre
      rw [eM, List.nil_append] at z
      exact .inr (nM b (List.mem_of_getElem? z))
  · exact hx C h' d F' H' (g.gr s)
theorem okc_no {c : Cell} (h : okc c) : cellNoLoc c ∧ c ≠ .dead := by
  cases c with
  | lst es => exact ⟨h, fun z => by cases z⟩
  | ins c es => exact ⟨h, fun z => by cases z⟩
  | dead => exact h.elim
  | ext ψ => exact ⟨trivial, fun z => by cases z⟩
theorem Go.gr1 {a : Addr} {F F' H' : Hp} {L' : List Addr} {S' : List Cell} (g : Go [a] F H L' F' H') (s : Sto K L' F' H' S') (hc : F' a = none) : Gr1 a F H F' H' :=
  ⟨g.ff, fun b o h hb => g.keep b o h (by simpa using hb), g.there, s.ex, fun b hb => (g.new b hb).elim .inl fun z => z.elim .inr fun z => by
    rw [List.mem_singleton.mp z] at hb; exact absurd hc hb⟩
theorem up_sp1 {pc : PC1} (h : ∀ ds c q x, pc ds c q x → ds.length = n → okc c → r (out1 q x) (startD N (.loc 0 :: ds)) [c]) (hs : sp1 K n pc vs H Q E) :
    upS K (fun cls d _ H => E cls d H) r { nx := fun _ H' => Q .non H', rt := Q } (L2.start N vs) H := by
  obtain ⟨a, us, F, ds, c, q, x, rfl, ex, fa, cd, ci, il, hl, hp, hq, hx⟩ := hs
  have s0 : Sto K [a] F H [c] := ⟨ex, rfl, by simp, fun b hb => by rw [List.mem_singleton.mp hb]; exact ci.there cd, fun n c' b h1 h2 h3 => by
    cases n with
    | zero => simp at h1 h2; subst h1 h2; exact ⟨fa, ci.up⟩
    | succ n => simp at h1⟩
  have okc0 : okc c := by
    have := ci.noLoc
    cases c with
    | lst es => exact this
    | ins c es => exact this
    | dead => exact absurd rfl cd
    | ext ψ => trivial
  have at0 : ∀ {L' : List Addr} {F' H' : Hp}, Go [a] F H L' F' H' → L'[0]? = some a := fun g => by
    obtain ⟨M, eM, _⟩ := g.pre
    rw [eM]; rfl
  refine ⟨[a], F, [c], startD N (.loc 0 :: ds), _, env_start ⟨_, us, rfl, ⟨a, rfl, rfl⟩, .of il⟩, s0, h ds c q x hp hl okc0, fun ds' S' h' σ L' F' H' g en s => ?_, fun d S' h' v L' F' H' g i s => ?_, fun _ _ z => z.elim, fun _ _ z => z.elim, fun C ds' S' h' σ d L' F' H' g en s => ?_⟩
  · cases S' with
    | nil => exact h'.elim
    | cons c' T =>
      obtain ⟨o1, h1⟩ : okc c' ∧ q .non c' := h'
      obtain ⟨n1, n2⟩ := okc_no o1
      obtain ⟨z1, z2⟩ := s.cel 0 c' a rfl (at0 g) n2
      exact hq _ _ h1 _ F' H' (g.gr1 s z1) n2 (z2.un n1) rfl
  · cases S' with
    | nil => exact h'.2.elim
    | cons c' T =>
      obtain ⟨nz, o1, h1⟩ : not0 d ∧ okc c' ∧ rtOf (fun d => q d c') (c' :: T) d := h'
      obtain ⟨n1, n2⟩ := okc_no o1
      obtain ⟨z1, z2⟩ := s.cel 0 c' a rfl (at0 g) n2
      obtain ⟨d', F2, hd, e1, e2, e3, nw⟩ := rtOf_ok s i h1
      have gr := g.gr1 s z1
      have fa2 : F2 a = none := by
        cases y : F2 a with
        | none => rfl
        | some u =>
          rcases nw a (by rw [y]; exact fun z => by cases z) with z | ⟨m, em, z⟩
          · exact absurd z1 z
          · have : m = 0 := nodup_i s.nd z (at0 g)
            subst this em
            exact nz.elim
      refine hq _ _ hd _ F2 H' ⟨gr.ff.trans e1, gr.keep, gr.there, e2, fun b hb => ?_⟩ n2 ((z2.un n1).exF e1) e3
      rcases nw b hb with z | ⟨m, em, z⟩
      · exact gr.new b z
      · obtain ⟨M, eM, nM⟩ := g.pre
        rw [eM] at z
        cases m with
        | zero => subst em; exact nz.elim
        | succ m => exact .inr (nM b (List.mem_of_getElem? (show M[m]? = some b by simpa using z)))
  · cases S' with
    | nil => exact h'.elim
    | cons c' T =>
      obtain ⟨o1, h1⟩ : okc c' ∧ x C c' := h'
      obtain ⟨n1, n2⟩ := okc_no o1
      obtain ⟨z1, z2⟩ := s.cel 0 c' a rfl (at0 g) n2
      exact hx C _ h1 d F' H' (g.gr1 s z1) n2 (z2.un n1)
theorem IsDL.below {L M : List Addr} {F : Hp} : ∀ {ds : List D} {vs : List V}, IsDL K (L ++ M) F ds vs → belowL L.length ds = true → IsDL K L F ds vs
  | [], _, h, _ => h
  | d :: ds, _, ⟨v, r, h1, h2, h3⟩, b => by
    cases d with
    | loc k =>
      obtain ⟨b1, b2⟩ := Bool.and_eq_true_iff.mp (show (Nat.blt k L.length && belowL L.length ds) = true from b)
      obtain ⟨a, ha, e⟩ := h2
      rw [List.getElem?_append_left (Nat.le_of_ble_eq_true b1)] at ha
      exact ⟨v, r, h1, ⟨a, ha, e⟩, h3.below b2⟩
    | _ => exact ⟨v, r, h1, h2, h3.below b⟩
theorem allC_get {m : Nat} : ∀ {S : List Cell} {i : Nat} {c : Cell}, allC m S → S[i]? = some c → belowC m c
  | [], _, _, _, h => by simp at h
  | _ :: _, 0, _, ⟨a, _⟩, h => by simp at h; subst h; exact a
  | _ :: S, i + 1, c, ⟨_, a⟩, h => allC_get (i := i) a (by simpa using h)
theorem Sto.cut {L M : List Addr} {F H : Hp} {S : List Cell} (s : Sto K (L ++ M) F H S) (h : allC L.length (S.take L.length)) (hm : L.length ≤ S.length) : Sto K L F H (S.take L.length) := by
  refine ⟨s.ex, by rw [List.length_take]; omega, s.nd.sublist (List.sublist_append_left _ _), fun a ha => s.al a (List.mem_append_left _ ha), fun i c a h1 h2 h3 => ?_⟩
  have hi := (List.getElem?_eq_some_iff.mp h2).1
  have hb := allC_get h h1
  rw [List.getElem?_take_of_lt hi] at h1
  obtain ⟨q1, q2⟩ := s.cel i c a h1 (getElem?_pre h2) h3
  refine ⟨q1, ?_⟩
  cases c with
  | lst ds => obtain ⟨vs, e1, e2⟩ := q2; exact ⟨vs, e1, e2.below hb⟩
  | ins c ds => obtain ⟨dx, vs, e1, e2⟩ := q2; exact ⟨dx, vs, e1, e2.below hb⟩
  | dead => trivial
  | ext ψ => exact q2
theorem up_spM {m : Nat} {pc : PM} (h : ∀ ds S q, pc ds S q → ds.length = n → S.length = m → r (outM m q) (startD N ds) S) (hs : spM K n m pc vs H Q E) :
    upS K (fun cls d _ H => E cls d H) r { nx := fun _ H' => Q .non H', rt := Q } (L2.start N vs) H := by
  obtain ⟨L, F, S, ds, q, s, hm, il, hl, hp, hq⟩ := hs
  have lm : L.length = m := s.len.trans hm
  have goL : ∀ {L' : List Addr} {F' H' : Hp}, Go L F H L' F' H' → Go L F H L F' H' := fun g => ⟨⟨[], by simp, by simp⟩, g.ff, g.keep, g.there, g.new⟩
  refine ⟨L, F, S, startD N ds, _, env_start il, s, h ds S q hp hl hm, fun ds' S' h' σ L' F' H' g en s' => ?_, fun d S' h' v L' F' H' g i s' => ?_, fun _ _ z => z.elim, fun _ _ z => z.elim, fun C ds' S' z => z.elim⟩
  · obtain ⟨h0, h1, h2⟩ : m ≤ S'.length ∧ allC m (S'.take m) ∧ q .non (S'.take m) := h'
    obtain ⟨M, rfl, nM⟩ := g.pre
    subst lm
    exact hq _ _ h2 _ F' H' (goL g) (s'.cut h1 h0) rfl
  · obtain ⟨h0, h1, nb, h2⟩ : m ≤ S'.length ∧ allC m (S'.take m) ∧ notB m d ∧ rtOf (fun d => q d (S'.take m)) S' d := h'
    obtain ⟨M, rfl, nM⟩ := g.pre
    subst lm
    obtain ⟨d', F2, hd, e1, e2, e3, nw⟩ := rtOf_ok s' i h2
    have s2 := s'.cut h1 h0
    have fno : ∀ b ∈ L, ∀ (hb : F' b = none), F2 b = none := fun b hb hF => by
      cases y : F2 b with
      | none => rfl
      | some u =>
        rcases nw b (by rw [y]; exact fun z => by cases z) with z | ⟨j, ej, z⟩
        · exact absurd hF z
        · subst ej
          have nb : L.length ≤ j := nb
          obtain ⟨i0, hi0⟩ := List.getElem?_of_mem hb
          have := nodup_i s'.nd (getElem?_pre (M := M) hi0) z
          have := (List.getElem?_eq_some_iff.mp hi0).1
          omega
    refine hq _ _ hd _ F2 H' ⟨⟨[], by simp, by simp⟩, g.ff.trans e1, g.keep, g.there, fun b hb => ?_⟩ ⟨e2, s2.len, s2.nd, s2.al, fun i c a h1 h2 h3 => ?_⟩ (.of e3)
    · rcases nw b hb with z | ⟨j, ej, z⟩
      · exact g.new b z
      · subst ej
        have nb : L.length ≤ j := nb
        rw [List.getElem?_append_right nb] at z
        exact .inr (.inl (nM b (List.mem_of_getElem? z)))
    · obtain ⟨q1, q2⟩ := s2.cel i c a h1 h2 h3
      exact ⟨fno a (List.mem_of_getElem? h2) q1, q2.exF e1⟩
theorem up_spI {c : Cl} {pc : PI_} (h : ∀ ds q, pc ds q → ds.length = n → r (outI q) (startD N (.loc 0 :: ds)) [.ins c []]) (hs : spI K n c pc vs H Q E) :
    upS K (fun cls d _ H => E cls d H) r { nx := fun _ H' => Q .non H', rt := Q } (L2.start N vs) H := by
  obtain ⟨a, us, F, ds, q, rfl, s, il, hl, hp, hq⟩ := hs
  refine ⟨[a], F, _, startD N (.loc 0 :: ds), _, env_start ⟨_, us, rfl, ⟨a, rfl, rfl⟩, .of il⟩, s, h ds q hp hl, fun ds' S' h' σ L' F' H' g en s' => hq S' h' L' F' H' g s', fun d S' z => z.elim, fun _ _ z => z.elim, fun _ _ z => z.elim, fun C ds' S' z => z.elim⟩
/-- how long the arguments are -/
theorem len_sp0 {pc : PC} (h : sp0 K n pc vs H Q E) : vs.length = n := by
  obtain ⟨F, ds, q, x, ex, il, hl, _⟩ := h
  rw [il.length, hl]
theorem len_sp1 {pc : PC1} (h : sp1 K n pc vs H Q E) : vs.length = n + 1 := by
  obtain ⟨a, us, F, ds, c, q, x, rfl, ex, fa, cd, ci, il, hl, _⟩ := h
  rw [List.length_cons, il.length, hl]
theorem len_spM {m : Nat} {pc : PM} (h : spM K n m pc vs H Q E) : vs.length = n := by
  obtain ⟨L, F, S, ds, q, s, hm, il, hl, _⟩ := h
  rw [il.length, hl]
theorem len_spI {c : Cl} {pc : PI_} (h : spI K n c pc vs H Q E) : vs.length = n + 1 := by
  obtain ⟨a, us, F, ds, q, rfl, s, il, hl, _⟩ := h
  rw [List.length_cons, il.length, hl]
end
/-! ### from the text to the contract -/
section
variable {P : Program} {w : World} {K : PySem.W.Frag} {mg : Str → Option Value} {base : Heap} {x qual : Str} {params : Arguments} {body : List Stmt} {scope : Scope} {f : Addr} {fd : FuncData} {N ps : List Str} {k n : Nat}
/-- the context of the body of a def -/
abbrev bodyX (P : Program) (w : World) (K : PySem.W.Frag) (mg : Str → Option Value) (base : Heap) (N : List Str) (qual : Str) (scope : Scope) (f : Addr) (cdv : Value) (A : Around) (outer : List PySem.Env) (s : Shared) (H : Hp) (E : XK) : Cx :=
  cxOf (L2.CX P w) P w K mg base N qual scope f cdv A outer s H E
abbrev WofE (E : XK) : WX := fun cls d _ H => E cls d H
/-- what is to be shown of a body: its reading, and that the reading holds at each entry -/
def BodyOk (P : Program) (w : World) (K : PySem.W.Frag) (mg : Str → Option Value) (base : Heap) (N : List Str) (qual : Str) (scope : Scope) (body : List Stmt) (f : Addr) (k : Nat) (C : RS → Prop) : Prop :=
  ∀ (cdv : Value) (A : Around) (outer : List PySem.Env) (s : Shared) (H : Hp) (E : XK), Room k (A.deeper (PyProof.Rows.envOfC qual scope s.heap.objs.size f cdv)) →
    Takes (bodyX P w K mg base N qual scope f cdv A outer s H E) (WofE E) → PassesOwn (model P w) (bodyX P w K mg base N qual scope f cdv A outer s H E).A (bodyX P w K mg base N qual scope f cdv A outer s H E).env (bodyX P w K mg base N qual scope f cdv A outer s H E).xe →
    ∃ r, JB (bodyX P w K mg base N qual scope f cdv A outer s H E) (WofE E) body r ∧ C r
theorem fn_ok {sp : Sp} {C : RS → Prop} (F : FunD K x qual params body scope [] [] f fd) (S : FnScope N ps scope) (len : ∀ vs H Q E, sp vs H Q E → vs.length = ps.length) (b : BodyOk P w K mg base N qual scope body f k C)
    (up : ∀ r, C r → ∀ vs H Q E, sp vs H Q E → upS K (WofE E) r { nx := fun _ H' => Q .non H', rt := Q } (L2.start N vs) H) : FnOk P w K mg base (L2.CX P w) (k + 1) f fd ps sp := by
  refine F.ok S len fun cdv A outer s H vs Q E hr hs => ?_
  obtain ⟨r, h1, h2⟩ := b cdv A outer s H E hr (takes_of rfl rfl rfl rfl) (passes_of rfl)
  exact ⟨_, h1, up r h2 vs H Q E hs⟩
end
end DL
end

section
set_option maxHeartbeats 4000000
namespace DL
open PySem L2
section
variable {X : Cx} {W : WX} {a b e o c : Expr} {es : List Expr} {ra rb rc re ro : RE} {rr : RA} {pos p apos p2 tpos : Pos} {x : Str} {tg iter : Expr}
theorem je_gint {i : Int} (h : ∃ t, X.mg x = some (.int i t)) (hg : Gl X x) (hd : (x == ("__debug__" : Str)) = false := by decide) : JE X W (.Name x pos) (rC (.int i)) := by
  obtain ⟨t, h⟩ := h
  exact je_c (pe_glob hg h (v := .int i) ⟨t, rfl⟩ hd) fun _ => rfl
theorem je_gref {i : Addr} (h : X.mg x = some (.ref i)) (hg : Gl X x) (hd : (x == ("__debug__" : Str)) = false := by decide) : JE X W (.Name x pos) (rC (.adr i)) :=
  je_c (pe_glob hg h (v := .ref i) rfl hd) fun _ => rfl
theorem je_bty {T : String} (hm : X.mg x = none) (hg : Gl X x) (hv : bootBuiltins x = some (.type T)) (hn : x ≠ "__name__" := by decide) (hd : (x == ("__debug__" : Str)) = false := by decide) : JE X W (.Name x pos) (rC (.ty T)) :=
  je_c (pe_bltn hg hm hv (v := .ty T) rfl hn hd) fun _ => rfl
/-! ### a < b < c -/
theorem rChain_up {K : PySem.W.Frag} {od od' : OD} {ra rb rc : RE} (σ : St) (H : Hp) (Q : VK) : upE K W (rChain od od' ra rb rc) σ H Q → tChain (upO K od) (upO K od') (upE K W ra) (upE K W rb) (upE K W rc) σ H Q :=
  fun ⟨L, F, S, ds, q, x, env, sto, h, hq, hx⟩ => upE.bind env sto h hx fun d S1 v L1 F1 H1 h1 g1 env1 i1 s1 =>
    upE.bind env1 s1 h1 (hx.on g1) fun e S2 w L2 F2 H2 h2 g2 env2 i2 s2 => ⟨L2, F2, S2, d, e, _, i1.mono g2, i2, s2, h2, fun z S3 hz u L3 F3 H3 g3 i3 s3 => by
      have gg := (g1.trans g2).trans g3
      cases z with
      | bl k =>
        cases k with
        | true =>
          refine ⟨true, i3, iteT ?_⟩
          exact upE.bind (env2.mono g3) s3 hz (hx.on gg) fun f S4 t L4 F4 H4 h4 g4 env4 i4 s4 => ⟨L4, F4, S4, e, f, q, (i2.mono g3).mono g4, i4, s4, h4, hq.on (gg.trans g4)⟩
        | false => exact ⟨false, i3, iteF (hq _ S3 hz _ L3 F3 H3 gg rfl s3)⟩
      | _ => exact hz.elim⟩
theorem je_chain {op op' : CmpOp} {od od' : OD} (ho : OpR X (compareOp op) (upO X.K od)) (ho' : OpR X (compareOp op') (upO X.K od')) (ha : JE X W a ra) (hb : JE X W b rb) (hc : JE X W c rc)
    (hm : lastMarks [op, op'] [b, c] = false := by with_unfolding_all rfl) : JE X W (.Compare a [op, op'] [b, c] pos) (rChain od od' ra rb rc) := pe_weak (pe_chain ho ho' ha hb hc hm) rChain_up
theorem jt_chain {op op' : CmpOp} {od od' : OD} (ho : OpR X (compareOp op) (upO X.K od)) (ho' : OpR X (compareOp op') (upO X.K od')) (ha : JE X W a ra) (hb : JE X W b rb) (hc : JE X W c rc)
    (hm : lastMarks [op, op'] [b, c] = false := by with_unfolding_all rfl) : JT X W (.Compare a [op, op'] [b, c] pos) (rTest (rChain od od' ra rb rc)) := pt_weak (pt_chain ho ho' ha hb hc hm) (rTest_up rChain_up)
/-! ### isinstance -/
theorem ty_int {K : PySem.W.Frag} {L : List Addr} {F H : Hp} {k : Int} {v : V} (i : IsD K L F (.int k) v) : TyX K H v (.type "int") := by
  obtain rfl : v = V.int k := i
  exact .base (.int k)
theorem ty_tup {K : PySem.W.Frag} {L : List Addr} {F H : Hp} {S : List Cell} (st : Sto K L F H S) {xs : List D} {v : V} (i : IsD K L F (.tup xs) v) : TyX K H v (.type "tuple") := by
  obtain ⟨p, vs, rfl, e2, _⟩ := i
  exact .base (.tup (st.ex _ _ e2))
def oIsi (n : String) (g : D → Option Bool) : OC := c2 fun d e S q => match e, g d with
  | .ty m, some k => m = n ∧ q (.bl k) S
  | _, _ => False
theorem isi_core {n : String} {g : D → Option Bool} (hg : ∀ d k, g d = some k → ∃ T, (∀ {L : List Addr} {F H : Hp} {S : List Cell} {v : V}, Sto X.K L F H S → IsD X.K L F d v → TyX X.K H v (.type T)) ∧ kitB T n = some k) :
    CallR X (.builtin "isinstance") (upC X.K (oIsi n g)) := c2_ok call_isi fun v w H Q L F S d e q i1 i2 st h hq => by
  cases e with
  | ty m =>
    obtain rfl : w = V.ty m := i2
    cases hk : g d with
    | some k =>
      have h2 : m = n ∧ q (.bl k) S := by simpa only [hk] using h
      obtain ⟨rfl, h3⟩ := h2
      obtain ⟨T, hT, hb⟩ := hg d k hk
      exact ⟨v, _, .type T, .type m, k, rfl, .ty m, hT st i1, kit_ty hb, hq _ S h3 _ L F H .refl rfl st⟩
    | none => exact (by simpa only [hk] using h : False).elim
  | _ => exact (by simpa only using h : False).elim
def gInt : D → Option Bool
  | .int _ => some true
  | .tup _ => some false
  | _ => none
def gBool : D → Option Bool
  | .int _ => some false
  | _ => none
def gTupl : D → Option Bool
  | .tup _ => some true
  | .int _ => some false
  | _ => none
theorem call_isi_int : CallR X (.builtin "isinstance") (upC X.K (oIsi "int" gInt)) := isi_core fun d k h => by
  cases d with
  | int i => cases h; exact ⟨"int", fun st i => ty_int i, by decide +kernel⟩
  | tup i => cases h; exact ⟨"tuple", fun st i => ty_tup st i, by decide +kernel⟩
  | _ => cases h
theorem call_isi_bool : CallR X (.builtin "isinstance") (upC X.K (oIsi "bool" gBool)) := isi_core fun d k h => by
  cases d with
  | int i => cases h; exact ⟨"int", fun st i => ty_int i, by decide +kernel⟩
  | _ => cases h
theorem call_isi_tuple : CallR X (.builtin "isinstance") (upC X.K (oIsi "tuple" gTupl)) := isi_core fun d k h => by
  cases d with
  | int i => cases h; exact ⟨"int", fun st i => ty_int i, by decide +kernel⟩
  | tup i => cases h; exact ⟨"tuple", fun st i => ty_tup st i, by decide +kernel⟩
  | _ => cases h
end
end DL
end

section
set_option maxHeartbeats 4000000
namespace DL
open PySem PySem.Spec PyProof.Rows L2
section
variable {X : Cx} {W : WX} {a b e o c : Expr} {es : List Expr} {ra rb rc re ro : RE} {rr : RA} {pos p apos p2 tpos : Pos} {x m : Str} {n k : Nat}
/-! ### a method of one's own that may raise -/
theorem pe_meth0S {pl : Sem Bool} {CX : CXT} {C f : Addr} {fd : FuncData} {ps : List Str} {sp : Sp} {ta : TE} {E : L2.St → XK} (he : PE X o ta) (c : Cls X.K C) (hm : Meth X.K C m f) (F : FnOk X.prog X.w X.K X.mg X.base CX k f fd ps sp) (hr : Room k X.A) (hb : Binds X.K fd ps []) (hx : ∀ σ, PassesAt CX X σ (E σ))
    (ht : eval (.Call (.Attribute o m apos) [] [] pos) X.env = (do
      let v0 ← eval o X.env; standAt apos.atName
      let (f, first) ← holding [v0] (getMethod v0 m pl)
      callWith pos f first (backTo pos (starEach [] X.env)) (backToKw pos (keywordEach [] X.env))) := by rfl) :
    PE X (.Call (.Attribute o m apos) [] [] pos) (fun σ H Q => tMeth C m sp [] (E σ) ta tNil σ H Q) := by
  refine ⟨fun pins s σ H Q I h => ?_⟩
  refine PySem.W.methodCall_KW (pl := pl) (thn (he.run pins s σ H _ I h) fun u s1 ⟨x, H1, I1, rx, a, dx, fs, ex, ea, l, q⟩ => ?_) ht
  subst ex
  obtain rfl : u = Value.ref a := rx
  refine getmeth_ok I1 ea c hm l ?_
  exact PySem.W.callWith_K0 (first := [.ref a]) I1.kIn hm.kp (run_fnS (us := [.ref a]) (vs := [.ref a]) F hr hb (hx σ) I1 (.cons rfl .nil) q)
theorem je_meth10S {pl : Sem Bool} {c : Cl} {pc : PC1} (G : FnM X.prog X.w X.K X.mg X.base c.adr m k (sp1 X.K 0 pc)) (hr : Room k X.A) (tk : Takes X W) (ho : JE X W o ro) (hm : m ∉ c.keys)
    (ht : eval (.Call (.Attribute o m apos) [] [] pos) X.env = (do
      let v0 ← eval o X.env; standAt apos.atName
      let (f, first) ← holding [v0] (getMethod v0 m pl)
      callWith pos f first (backTo pos (starEach [] X.env)) (backToKw pos (keywordEach [] X.env))) := by rfl) :
    JE X W (.Call (.Attribute o m apos) [] [] pos) (rMeth1 c 0 pc ro rNil) := by
  obtain ⟨f, fd, ps, F, hc, hm', hb⟩ := G
  refine pe_weak (pe_meth0S (E := WE W) ho hc hm' F hr hb (fun σ => passAt tk σ) ht) fun σ H Q ⟨L, F, S, ds, q, x, env, sto, h, hq, hx⟩ => ?_
  refine upE.bind env sto h hx fun d S0 v L0 F0 H0 h0 g0 env0 i0 s0 => ?_
  cases d with
  | loc k =>
    obtain ⟨a, ha0, rfl⟩ := i0
    simp only at h0
    split at h0
    · rename_i hcl
      obtain ⟨xs, hS⟩ := isCl_ok hcl
      obtain ⟨_, dx, vs, hcell, _⟩ := s0.cel k _ a hS ha0 (fun z => by cases z)
      refine ⟨a, dx, _, rfl, hcell, zlook0 hm, ?_⟩
      have h1 : (match S0[k]? with
        | some (.ins cl xs) => noLoc xs = true ∧ pc [] (.ins cl xs) (fun d c' => q d (S0.set k c')) fun C c' => x C (S0.set k c')
        | _ => False) := h0
      rw [hS] at h1
      exact sp1_up2 (x := x) ha0 hS rfl h1.1 rfl h1.2 rfl s0 (hq.on g0) fun C S' hC d L' F' H' g s => hx C S' hC d L' F' H' (g0.trans g) s
    · exact h0.elim
  | _ => exact h0.elim
/-! ### raise C(): an own class without own __init__ -/
theorem pmk_own0 {C : Addr} {bmB : List Value} {B newId initId : String} (F : ExcBaseFacts B newId initId bmB) (q : PySem.W.excIn X.K C bmB newId = true) (gC : X.mg x = some (.ref C))
    (kC : PySem.W.keepIn X.K (.ref C) = true) (r : Raises X (.ref C)) (hg : Gl X x) (hdb : (x == ("__debug__" : Str)) = false := by decide) :
    PMk X (.Call (.Name x p) [] [] pos) (fun _ H Q => Q (.ref C) none H) := by
  intro pins s σ H Q I h
  refine wpAny_Call_Name_kw (ld_glob I hg gC ?_ hdb)
  refine PySem.W.callWith_K0 I.kIn kC ?_
  show wpAny _ _ (call (.ref C) []) _ _ _
  obtain ⟨bm, N, nm, qn, bs, hdct, sn, sub, ab, col, dd, k0, k1, k2, k3, k5, mN, hC, hN, hni, T⟩ := exc_obj I.kIn q
  refine wpAny_call_exc_subT F T hC hN hni (fun h' e hm => ?_) (Nat.zero_le _)
  exact mk_of I hm r h (I.hok.gone hm.new)

/-- what the top says of an own exception class without own __init__ -/
structure Xc0 (K : PySem.W.Frag) (mg : Str → Option Value) (x : Str) (C : Addr) : Prop where
  q : PySem.W.excIn K C arithB "ArithmeticError.__new__" = true
  g : mg x = some (.ref C)
  k : PySem.W.keepIn K (.ref C) = true
  b : PySem.W.subIn K (.ref C) (.type "BaseException") = some true
  t : PySem.W.typeIn K (.ref C) = some (.type "type")
def rRaise (C : Addr) : RS := fun D ds S => D.xc C ds S
theorem js_raise0 {C : Addr} (T : Xc0 X.K X.mg x C) (hc : X.calm = true) (tk : Takes X W) (hg : Gl X x) (hdb : (x == ("__debug__" : Str)) = false := by decide) :
    JS X W (.Raise (some (.Call (.Name x p) [] [] pos)) none p2) (rRaise C) :=
  ps_weak (ps_raise hc tk (pmk_own0 PySem.F.excBase_ArithmeticError T.q T.g T.k (raises_own T.b T.t) hg hdb)) fun D σ H ⟨L, F, S, ds, O, env, sto, h, hn, hr, hbk, hct, hx⟩ =>
    hx C ds S h σ none L F H .refl env sto
end
end DL
end

section
set_option maxHeartbeats 4000000
namespace DL
open PySem PySem.Spec PyProof.Rows L2
/-! ### one except clause, whatever its classes are -/
theorem flying_keeps {B : Heap} {l : List PySem.Env} {a : Addr} {Z : Obj → Prop} {h h' : Heap} (x : HandSPX.FlyingZ B l a Z h) (k : ∀ b o, h.get? b = some o → h'.get? b = some o) : HandSPX.FlyingZ B l a Z h' := by
  obtain ⟨f1, f2, f3, oe, vs, T, oT, ts, h1, h2, h3, h4, h5, h6, h7, h8, h9⟩ := x
  exact ⟨fun b o e => k b o (f1 b o e), f2, Heap.FunFrames.of_keeps (fun b o e _ => ⟨o, k b o e, rfl⟩) f3, oe, vs, T, oT, ts, k _ _ h1, h2, h3, h4, h5, h6, k _ _ h7, h8, h9⟩
/-- the clause's test: f answers for the class C of the error -/
def ClOk (X : Cx) (te : Expr) (f : Addr → Option Bool) : Prop :=
  ∀ {a : Addr} {oe : Obj} {pn pins : List (Addr × Obj)} {σ : L2.St} {H : Hp} {s : Shared} {C : Addr} {b : Bool}, Inv (X.suite a ((a, oe) :: pn)) pins σ H s → s.heap.get? a = some oe → oe.cls = .ref C → f C = some b →
    ∀ {R : Bool → Shared → Prop} {E' : Value → Shared → Prop}, (∀ h', (∀ b o, s.heap.get? b = some o → h'.get? b = some o) → R b { s with heap := h' }) →
      wpAny (model X.prog X.w) (X.A.mark (some (.ref a))) (eval te X.env) (fun c s1 => wpAny (model X.prog X.w) (X.A.mark (some (.ref a))) (excMatches (.ref a) c) R E' s1) E' s
/-- what the clause wants of an error -/
def wCl (f : Addr → Option Bool) (ts : TS) (Wout : WX) (D : Ends) : WX := fun cls d σ H =>
  ∃ C b, cls = .ref C ∧ f C = some b ∧ (b = true → ts D σ H) ∧ (b = false → Wout cls d σ H)
section
variable {X : Cx} {te : Expr} {f : Addr → Option Bool} {body suite : List Stmt} {b₀ : Stmt} {pos pos' : Pos} {tb : WX → TS} {ts : TS} {Wout : WX}
theorem nx_ends {pins : List (Addr × Obj)} {a : Addr} {oe : Obj} {D : Ends} {fl : Flow} {s : Shared} (ok : X.Ok) (h : SP (X.suite a ((a, oe) :: (X.pn ++ pins))) [] D fl s) : SP X pins D fl s := by
  cases fl with
  | ret u => obtain ⟨v, τ, G, S, r, q⟩ := h; exact ⟨v, τ, G, S.unsuite ok, r, q⟩
  | next => obtain ⟨τ, G, S, q⟩ := h; exact ⟨τ, G, S.unsuite ok, q⟩
  | cont => obtain ⟨τ, G, S, q⟩ := h; exact ⟨τ, G, S.unsuite ok, q⟩
  | brk => obtain ⟨τ, G, S, q⟩ := h; exact ⟨τ, G, S.unsuite ok, q⟩
theorem ps_tryCl (hs : X.stack = X.env :: X.outer) (hf : X.env.frame = some X.env.locals) (hc : ClOk X te f) (tk : Takes X Wout)
    (hb : ∀ (W : WX) (pn : List (Addr × Obj)) (xe : Value → Shared → Prop), Takes (X.tr pn xe) W → PassesOwn (model X.prog X.w) X.A X.env xe → PSs (X.tr pn xe) body (tb W))
    (hsu : ∀ (a : Addr) (oe : Obj) (pn : List (Addr × Obj)), PSs (X.suite a ((a, oe) :: pn)) (b₀ :: suite) ts) :
    PS X (.Try body [.ExceptHandler (some te) none (b₀ :: suite) pos'] [] [] pos) (fun D σ H => tb (wCl f ts Wout D) D σ H) := by
  constructor
  intro pins s σ H D I h
  have ok := I.ok
  have frs_eq : X.A.frames = some (X.env :: X.outer) := by rw [ok.frames, hs]
  apply wpAny_Try_except
  have run := (hb (wCl f ts Wout D) (X.pn ++ pins)
    (fun e s₁ => wpAny (model X.prog X.w) X.A (noteFrame e X.env) (fun _ s₂ => wpAny (model X.prog X.w) X.A (setFlight e none)
      (fun _ s₃ => wpAny (model X.prog X.w) X.A (handleBy e X.env [.ExceptHandler (some te) none (b₀ :: suite) pos']) (SP X pins D) X.xe s₃) X.xe s₂) X.xe s₁) ?_ PassesOwn.looking).run [] s σ H D (I.toTry _) h
  · refine wpAny_mono run (fun fl s1 sp => ?_) fun e s1 he => he
    cases fl with
    | ret u => obtain ⟨v, τ, G, J, r, q⟩ := sp; exact ⟨v, τ, G, J.ofTry ok, r, q⟩
    | next => obtain ⟨τ, G, J, q⟩ := sp; exact wpAny_execs_nil ⟨τ, G, J.ofTry ok, q⟩
    | cont => obtain ⟨τ, G, J, q⟩ := sp; exact ⟨τ, G, J.ofTry ok, q⟩
    | brk => obtain ⟨τ, G, J, q⟩ := sp; exact ⟨τ, G, J.ofTry ok, q⟩
  · rintro u s' ⟨a, B, sI, pins', τ, G, cls, d, rfl, J', nb, up, sky, na, os, ag, C, b, rfl, hC, yes, no⟩
    have J := J'.ofTry ok
    have sky2 : Sky B (X.env :: X.outer) a (Zc (.ref C) d) X.env.locals s'.heap := hs ▸ sky
    show wpAny _ X.A (noteFrame (.ref a) X.env) _ _ _
    refine Sky.land Zc.steady frs_eq hf sky2 fun g0 fly0 upA => ?_
    obtain ⟨o0, v0, e0, z0, d0⟩ := fly0.there
    have out : ∀ {g : Heap} {o : Obj} {vs : Array Value}, g.FunFrames B (X.env :: X.outer) → g.get? a = some o → o.data = .fields vs → a ∉ frs (X.env :: X.outer) := by
      intro g o vs ff e dd hm
      obtain ⟨_, o', e', nf⟩ := ff.mem hm
      obtain rfl := Option.some.inj (e.symm.trans e')
      exact nf _ dd
    have n1 := out fly0.2.2.1 e0 d0
    have nL : a ≠ X.env.locals := fun z => n1 (List.mem_filterMap.mpr ⟨X.env, .head _, by rw [hf, z]⟩)
    have nF : a ∉ X.fs := fun hm => by
      obtain ⟨e, he, q⟩ := List.mem_filterMap.mp hm
      exact n1 (List.mem_filterMap.mpr ⟨e, .tail _ he, q⟩)
    have land : ∀ {g : Heap}, HandSPX.FlyingZ B (X.env :: X.outer) a (Zc (.ref C) d) g → sI.heap.UpToSlots g → Inv X pins τ G { s' with heap := g } := fun fl u => J.landed nb fl.1 u os ag
    have J0 := land fly0 (up.trans upA)
    refine wpAny_handleBy_cons (codeAny_handlers_test (hc (J0.suite e0 d0 na nL nF) e0 z0.1 hC fun g1 kp => ?_)) (fun z => by cases z)
    have fly1 := flying_keeps fly0 kp
    have upB : sI.heap.UpToSlots g1 := (up.trans upA).trans (Heap.UpToSlots.of_keeps kp)
    cases b with
    | true =>
      refine codeAny_handlers_suite (HandSPX.lands_againZ fly1 fun g2 fly2 upC => ?_)
      obtain ⟨o2, v2, e2, z2, d2⟩ := fly2.there
      refine wpAny_mono ((hsu a o2 (X.pn ++ pins)).run [] _ _ G D ((land fly2 (upB.trans upC)).suite e2 d2 na nL nF) (yes rfl)) (fun fl s6 sp => ?_) fun _ _ z => z.elim
      have := nx_ends ok sp
      cases fl <;> exact this
    | false =>
      show wpAny _ X.A (handleBy (.ref a) X.env []) _ _ _
      apply wpAny_handleBy_nil
      obtain ⟨k1, k2, k3, oe, vs, T, oT, ts', he, hz, hd, h1, hr⟩ := id fly1
      unfold PySem.passOn
      apply wpAny_bind
      refine wpAny_field he hd h1 ?_
      rw [if_neg (by simp : ¬ ((Value.ref T == Value.none) = true))]
      have fin : wpAny (model X.prog X.w) X.A (setFlight (.ref a) X.env.frame) (fun _ s4 => wpAny (model X.prog X.w) X.A (throw (.ref a) : Sem Flow) (SP X pins D) X.xe s4) X.xe { s' with heap := g1 } := by
        rw [hf]
        exact HandSPX.setFlight_upZ fly1 fun g2 held upC => wpAny_throw (tk _ _ ⟨a, B, sI, pins, τ, G, .ref C, d, rfl, J, nb, upB.trans upC, .inr (.inr (hs.symm ▸ held)), na, os, ag, no rfl⟩)
      first
        | exact wpAny_bind (wpAny_pure (wpAny_bind fin))
        | exact wpAny_bind fin
end
end DL
end

section
set_option maxHeartbeats 4000000
namespace DL
open PySem PySem.Spec PyProof.Rows L2
section
variable {X : Cx} {f : Addr → Option Bool} {x y : Str} {p p1 p2 pos pos' : Pos} {body suite : List Stmt} {b₀ : Stmt} {W : WX}
theorem looks_cls {M : Model} {h : Heap} {a : Addr} {o : Obj} {c : Value} (e : h.get? a = some o) (z : o.cls = c) : PySem.W.Looks M h (typeOf (.ref a)) c := fun A Q E s k q => wpAny_typeOf_ref (k _ _ e) (by rw [z]; exact q)
theorem clOk_one {C0 : Addr} (hg : Gl X x) (hm : X.mg x = some (.ref C0)) (hf : ∀ C b, f C = some b → PySem.W.exmOne X.K (.ref C) (.ref C0) = some b) (hd : (x == ("__debug__" : Str)) = false := by decide) : ClOk X (.Name x p) f := by
  intro a oe pn pins σ H s C b I e z hb R E' k
  refine ld_glob (X := X.suite a ((a, oe) :: pn)) I hg hm ?_ hd
  refine PySem.W.Looks.here (PySem.W.exm_one I.kIn (looks_cls e z) (hf C b hb)) ?_
  exact k s.heap fun _ _ q => q
theorem clOk_two {C1 C2 : Addr} {kt : Nat} (hg : Gl X x) (hm : X.mg x = some (.ref C1)) (hg2 : Gl X y) (hm2 : X.mg y = some (.ref C2)) (hf : ∀ C b, f C = some b → PySem.W.exmAny X.K (.ref C) [.ref C1, .ref C2] = some b)
    (hd : (x == ("__debug__" : Str)) = false := by decide) (hd2 : (y == ("__debug__" : Str)) = false := by decide) : ClOk X (.Tuple [.Name x p1, .Name y p2] kt p) f := by
  intro a oe pn pins σ H s C b I e z hb R E' k
  refine wpAny_Tuple_spliced (wpAny_items_cons ?_)
  refine ld_glob (X := X.suite a ((a, oe) :: pn)) I hg hm ?_ hd
  refine wpAny_items_cons ?_
  refine ld_glob (X := X.suite a ((a, oe) :: pn)) I hg2 hm2 ?_ hd2
  refine wpAny_items_nil ⟨?_, ?_⟩
  · rw [sizeLine_eq]; exact (by decide : 2 ≤ 16777216)
  · have kp : ∀ b o, s.heap.get? b = some o → (s.heap.push { cls := .type "tuple", data := .seq [Value.ref C1, Value.ref C2].toArray }).get? b = some o := fun b o q => Heap.get?_push_of_some _ q
    refine PySem.W.Looks.here (s := { s with heap := s.heap.push { cls := .type "tuple", data := .seq [Value.ref C1, Value.ref C2].toArray } }) (PySem.W.exm_tup2 (I.kIn.keeps kp) (looks_cls (kp _ _ e) z) (Heap.get?_push_size _ rfl) (hf C b hb)) ?_
    exact k _ kp
/-- try: .. except ..: .. over data: f tells which errors the clause takes -/
def rTry (f : Addr → Option Bool) (rb rs : RS) : RS := fun D ds S => rb { D with xc := fun C ds' S' => match f C with
  | some true => rs { D with xc := fun _ _ _ => False } ds' S'
  | some false => D.xc C ds' S'
  | none => False } ds S
theorem js_try {te : Expr} {rb rs : RS} (hs : X.stack = X.env :: X.outer) (hf : X.env.frame = some X.env.locals) (hc : ClOk X te f) (tk : Takes X W)
    (hb : ∀ (W : WX) (pn : List (Addr × Obj)) (xe : Value → Shared → Prop), Takes (X.tr pn xe) W → PassesOwn (model X.prog X.w) X.A X.env xe → JB (X.tr pn xe) W body rb)
    (hsu : ∀ (a : Addr) (oe : Obj) (pn : List (Addr × Obj)), JB (X.suite a ((a, oe) :: pn)) W0 (b₀ :: suite) rs) :
    JS X W (.Try body [.ExceptHandler (some te) none (b₀ :: suite) pos'] [] [] pos) (rTry f rb rs) :=
  ps_weak (ps_tryCl (tb := fun W => upS X.K W rb) (ts := upS X.K W0 rs) hs hf hc tk hb hsu) fun D σ H ⟨L, F, S, ds, O, env, sto, h, hn, hr, hbk, hct, hx⟩ =>
    ⟨L, F, S, ds, _, env, sto, h, hn, hr, hbk, hct, fun C ds' S' h' σ' d L' F' H' g en s => by
      dsimp only at h'
      split at h'
      · rename_i e
        exact ⟨C, true, rfl, e, fun _ => ⟨L', F', S', ds', _, en, s, h', hn.on g, hr.on g, hbk.on g, hct.on g, fun _ _ _ z => z.elim⟩, fun z => by cases z⟩
      · rename_i e
        exact ⟨C, false, rfl, e, fun z => (by cases z), fun _ => hx C ds' S' h' σ' d L' F' H' g en s⟩
      · exact h'.elim⟩
end
end DL
end

section
set_option maxHeartbeats 4000000
namespace DL
open PySem PySem.Spec PyProof.Rows L2
/-! ### f(b=.., a=..): two keywords, the other way round -/
def FnGR (P : Program) (w : World) (K : PySem.W.Frag) (mg : Str → Option Value) (base : Heap) (x n1 n2 : Str) (k : Nat) (sp : Sp) : Prop :=
  ∃ f fd ps, FnOk P w K mg base (L2.CX P w) k f fd ps sp ∧ mg x = some (.ref f) ∧ PySem.W.keepIn K (.ref f) = true ∧ ∀ (s : Shared) (u1 u2 : Value), BindsTo s fd ⟨[], [(n2, u2), (n1, u1)]⟩ (ps.zip [u1, u2])
section
variable {X : Cx} {W : WX} {e1 e2 : Expr} {r1 r2 : RE} {p pos k1 k2 : Pos} {x n1 n2 : Str} {k : Nat}
def rCallR (pc : PC) (r2 r1 : RE) : RE := fun ds S q x => r2 ds S (fun d2 S1 => r1 ds S1 (fun d1 S2 => match noLoc [d1, d2] with
  | true => pc [d1, d2] (fun d => q d S2) fun C => x C S2
  | false => False) x) x
theorem je_callR {pc : PC} (G : FnGR X.prog X.w X.K X.mg X.base x n1 n2 k (sp0 X.K 2 pc)) (hr : Room k X.A) (tk : Takes X W) (hg : Gl X x) (h2 : JE X W e2 r2) (h1 : JE X W e1 r1) (hdb : (x == ("__debug__" : Str)) = false := by decide) :
    JE X W (.Call (.Name x p) [] [⟨some n2, e2, k2⟩, ⟨some n1, e1, k1⟩] pos) (rCallR pc r2 r1) := by
  obtain ⟨f, fd, ps, F, hm, hk, hb⟩ := G
  constructor
  intro pins s σ H Q I ⟨L, FF, S, ds, q, xx, env, sto, h, hq, hx⟩
  refine wpAny_Call_Name_kw (ld_glob I hg hm ?_ hdb)
  have run := (pk_cons (nm := some n2) (kpos := k2) h2 (pk_cons (nm := some n1) (kpos := k1) h1 pk_nil)).run pos pins s σ H (fun zs H' => ∃ v2 v1, zs = [v2, v1] ∧ sp0 X.K 2 pc [v1, v2] H' Q (WE W σ)) I
    (upE.bind env sto h hx fun d2 S1 v2 L1 F1 H1 q1 g1 env1 i1 s1 => upE.bind env1 s1 q1 (hx.on g1) fun d1 S2 v1 L2 F2 H2 q2 g2 env2 i2 s2 => ⟨v2, v1, rfl, by
      split at q2
      · rename_i nl
        exact sp0_up (n := 2) nl rfl q2 ⟨v1, [v2], rfl, i2, v2, [], rfl, i1.mono g2, rfl⟩ s2 (hq.on (g1.trans g2)) (hx.on (g1.trans g2))
      · exact q2.elim⟩)
  refine PySem.W.callWith_KW0 (h₀ := X.base) I.ok.mod.kin hk rfl (thn run fun ws s2 ⟨zs, H2, I2, rz, v2, v1, ez, q⟩ => ⟨I2.kIn, ?_⟩)
  subst ez
  obtain ⟨u2, u1, rfl, ra, rb⟩ : ∃ u2 u1, ws = [u2, u1] ∧ RelV v2 u2 ∧ RelV v1 u1 := by
    cases rz with
    | cons ra rb =>
      cases rb with
      | cons rb rc =>
        cases rc
        exact ⟨_, _, rfl, ra, rb⟩
  refine wpAny_call (codeAny_mono (F.run X.A X.stack s2 H2 ⟨[], [(n2, u2), (n1, u1)]⟩ [u1, u2] [v1, v2] Q (WE W σ) hr I2.env0 (hb s2 u1 u2) (.cons rb (.cons ra .nil)) q) fun r s' hq' => ?_)
  cases r with
  | error e => exact passAt tk σ pins H2 s2 e s' I2 hq'
  | ok fl =>
    cases fl with
    | ret u => exact I2.after hq'
    | next => exact False.elim hq'
    | brk => exact False.elim hq'
    | cont => exact False.elim hq'
end
end DL
end

section
set_option maxHeartbeats 4000000
namespace DL
open PySem L2
section
variable {X : Cx} {W : WX} {a b e o c : Expr} {es : List Expr} {ra rb rc re ro : RE} {rr : RA} {pos p apos p2 tpos : Pos} {x : Str}
/-! ### a new list of one's own -/
theorem je_lstO (h : JA X W es rr) : JE X W (.List es pos) (rLstO rr) :=
  pe_weak (pe_lst h) fun σ H Q ⟨L, F, S, ds, q, x, env, sto, h, hq, hx⟩ => upA.bind env sto h hx fun d S1 v L1 F1 H1 h1 g1 env1 i1 s1 => by
    split at h1
    · rename_i e
      refine ⟨by rw [i1.length]; exact sz5 (Nat.le_of_ble_eq_true e), fun r hr => ?_⟩
      have g2 : Go L1 F1 H1 (L1 ++ [r]) F1 (upd H1 r (.lst v)) := Go.cell hr
      have s2 : Sto X.K (L1 ++ [r]) F1 (upd H1 r (.lst v)) (S1 ++ [.lst d]) := s1.cell hr ⟨v, upd_same, i1.mono g2⟩
      exact hq _ _ h1 _ _ F1 _ (g1.trans g2) ⟨r, by rw [← s1.len, List.getElem?_append_right (Nat.le_refl _)]; simp, rfl⟩ s2
    · exact h1.elim
/-! ### texts -/
def oStr : OC := c1 fun d S q => match d with
  | .int i => i.natAbs.log2 < 1900 ∧ q (.txt 1901) S
  | _ => False
theorem call_strD : CallR X (.type "str") (upC X.K oStr) := c1_ok call_str_int fun v H Q L F S d q i st h hq => by
  cases d with
  | int k =>
    obtain ⟨h1, h2⟩ := h
    refine ⟨k, by rw [show v = V.int k from i], by omega, hq _ S h2 _ L F H .refl ⟨_, rfl, ?_⟩ st⟩
    show (Str.ofString (toString k)).cps.size ≤ 1901
    have := int_text_length_le (a := k) (k := 1900) (by decide) h1
    show (Str.ofString (toString k)).length ≤ 1901
    rw [ofString_length]
    exact this
  | _ => exact h.elim
/-- how long all of them are -/
def lensD : List D → Option Nat
  | [] => some 0
  | d :: r => match tlen d, lensD r with
    | some n, some m => some (n + m)
    | _, _ => none
theorem lensD_ok {K : PySem.W.Frag} {F : Hp} : ∀ {ds : List D} {vs : List V} {n : Nat}, lensD ds = some n → IsL K F ds vs → ∃ ys : List Str, vs = ys.map V.str ∧ (ys.map (·.length)).sum ≤ n ∧ ys.length = ds.length
  | [], _, _, h, i => by cases h; exact ⟨[], i, Nat.le_refl _, rfl⟩
  | d :: r, _, n, h, ⟨v, us, e1, e2, e3⟩ => by
    have h : (match tlen d, lensD r with
      | some n, some m => some (n + m)
      | _, _ => none) = some n := h
    cases h1 : tlen d with
    | none => rw [h1] at h; cases h
    | some k =>
      cases h2 : lensD r with
      | none => rw [h1, h2] at h; cases h
      | some m =>
        rw [h1, h2] at h
        cases h
        obtain ⟨z, rfl, hz⟩ := tlen_ok (L := []) h1 (.of e2)
        obtain ⟨ys, rfl, hy, hl⟩ := lensD_ok h2 e3
        exact ⟨z :: ys, e1, by simpa using Nat.add_le_add hz hy, by simp [hl]⟩
def rJoin (ro re : RE) : RE := fun ds S q x => ro ds S (fun d S1 => match d with
  | .str a => re ds S1 (fun e S2 => match e with
    | .lst xs => ∃ n, lensD xs = some n ∧ n + xs.length * a.length ≤ 1000000 ∧ q (.txt (n + xs.length * a.length)) S2
    | _ => False) x
  | _ => False) x
theorem je_joinD (ho : JE X W o ro) (he : JE X W e re) (hs : starEach [e] X.env = [(false, eval e X.env)] := by rfl) (hbase : attributeBase o "join" X.env (eval o X.env) = eval o X.env := by rfl) (hline : (apos.endLine == pos.line) = true := by rfl) :
    JE X W (.Call (.Attribute o "join" apos) [e] [] pos) (rJoin ro re) :=
  pe_weak (pe_join ho he hs hbase hline) fun σ H Q ⟨L, F, S, ds, q, x, env, sto, h, hq, hx⟩ =>
    upE.bind env sto h hx fun d S1 v L1 F1 H1 h1 g1 env1 i1 s1 => by
      cases d with
      | str a =>
        obtain rfl : v = V.str a := i1
        refine ⟨⟨a, rfl⟩, upE.bind env1 s1 h1 (hx.on g1) fun e S2 w L2 F2 H2 h2 g2 env2 i2 s2 => ?_⟩
        cases e with
        | lst xs =>
          obtain ⟨r, us, rfl, e2, e3⟩ := i2
          obtain ⟨n, hn, hz, hq2⟩ := h2
          obtain ⟨ys, rfl, hy, hl⟩ := lensD_ok hn e3
          refine ⟨a, r, ys, rfl, rfl, .inl (.of (s2.ex _ _ e2)), by rw [hl]; omega, hq _ _ hq2 _ L2 F2 H2 (g1.trans g2) ⟨_, rfl, ?_⟩ s2⟩
          show (Builtin.Str.glued a ys).length ≤ _
          rw [StrLaws.glued_eq_join]
          have := StrLaws.join_length_le a ys
          rw [hl] at this
          omega
        | _ => exact h2.elim
      | _ => exact h1.elim
end
end DL
end

section
set_option maxHeartbeats 4000000
namespace DL
open PySem L2
section
variable {X : Cx} {W : WX} {a b e o c : Expr} {es : List Expr} {ra rb rc re ro ri : RE} {rr : RA} {pos p apos p2 tpos : Pos} {x : Str}
theorem okEs_noLoc : ∀ {n : Nat} {ds : List D}, okEs n ds = true → noLoc ds = true
  | _, [], _ => rfl
  | n, d :: r, h => by
    obtain ⟨h1, h2⟩ := Bool.and_eq_true_iff.mp (show (okE n d && okEs n r) = true from h)
    cases d with
    | loc k => cases h1
    | _ => exact (okEs_noLoc h2 : noLoc r = true)
theorem okE_is {K : PySem.W.Frag} {L : List Addr} {F : Hp} {n : Nat} {d : D} {v : V} (o : okE n d = true) (i : IsD K L F d v) : Is K F d v := by
  cases d with
  | loc k => cases o
  | _ => exact i
theorem any_py (n m : Nat) (d : D) (hd : okE m d = true) : ∀ xs : List D, okEs n xs = true → (toPys xs).any (fun z => PyData.eqv z (toPy d)) = xs.any fun z => eqb z d
  | [], _ => rfl
  | y :: ys, h => by
    obtain ⟨h1, h2⟩ := Bool.and_eq_true_iff.mp (show (okE n y && okEs n ys) = true from h)
    show (PyData.eqv (toPy y) (toPy d) || (toPys ys).any _) = (eqb y d || ys.any _)
    rw [eqb_py n m y d h1 hd, any_py n m d hd ys h2]
/-- e not in a list of one's own -/
def oNinDeep : OD := fun d e S q => match e with
  | .loc k => (match S[k]? with
    | some (.lst xs) => okE 6 d = true ∧ okEs 5 xs = true ∧ q (.bl (!xs.any fun z => eqb z d)) S
    | _ => False)
  | _ => False
theorem op_ninDeep (hu : X.A.units + 65 < cLine) : OpR X (compareOp .NotIn) (upO X.K oNinDeep) := by
  intro pins s σ H x y v u Q I rx ry h
  obtain ⟨L, F, S, d, e, q, i1, i2, st, h, hq⟩ := h
  cases e with
  | loc k =>
    obtain ⟨a, ha, rfl⟩ := i2
    have h : (match S[k]? with
      | some (.lst xs) => okE 6 d = true ∧ okEs 5 xs = true ∧ q (.bl (!xs.any fun z => eqb z d)) S
      | _ => False) := h
    split at h
    · rename_i xs hS
      obtain ⟨o1, o2, h⟩ := h
      obtain ⟨_, vs, e2, e3⟩ := st.cel k _ a hS ha (fun z => by cases z)
      have il := e3.un (okEs_noLoc o2)
      have ol : okE 6 (.lst xs) = true := o2
      refine op_notInD hu pins s σ H x _ v u Q I rx ry ⟨toPy d, toPys xs, toPy_dp st.ex 6 d x o1 (okE_is o1 i1), .lst (.of e2) (toPys_dp st.ex 5 xs vs o2 il), toPy_shaped o1 (by decide), toPy_shaped (d := .lst xs) ol (by decide), ?_⟩
      rw [any_py 5 6 d o1 xs o2]
      exact hq _ S h _ L F H .refl rfl st
    · exact h.elim
  | _ => exact h.elim
/-- the first place of an equal one -/
def rIdx (ro re : RE) : RE := fun ds S q x => ro ds S (fun o S1 => match o with
  | .lst xs => re ds S1 (fun d S2 => okE 6 d = true ∧ okEs 5 xs = true ∧ ∃ (j : Nat) (z : D), xs[j]? = some z ∧ eqb z d = true ∧ (∀ m z', m < j → xs[m]? = some z' → eqb z' d = false) ∧ q (.int j) S2) x
  | _ => False) x
theorem toPys_get : ∀ {xs : List D} {j : Nat} {z : PyData}, (toPys xs)[j]? = some z ↔ ∃ d, xs[j]? = some d ∧ toPy d = z
  | [], j, z => by simp [toPys]
  | d :: r, 0, z => by simp [toPys]
  | d :: r, j + 1, z => by
    show (toPys r)[j]? = some z ↔ ∃ d', r[j]? = some d' ∧ toPy d' = z
    exact toPys_get
theorem okEs_get {n : Nat} : ∀ {xs : List D} {j : Nat} {z : D}, okEs n xs = true → xs[j]? = some z → okE n z = true
  | [], j, z, _, h => by simp at h
  | d :: r, 0, z, o, h => by
    simp at h; subst h
    exact (Bool.and_eq_true_iff.mp (show (okE n d && okEs n r) = true from o)).1
  | d :: r, j + 1, z, o, h => okEs_get (Bool.and_eq_true_iff.mp (show (okE n d && okEs n r) = true from o)).2 (by simpa using h)
theorem je_indexD (hu : X.A.units + 65 < cLine) (ho : JE X W o ro) (he : JE X W e re) (hbase : attributeBase o "index" X.env (eval o X.env) = eval o X.env := by rfl)
    (hfew : ((backTo pos (starEach [e] X.env)).all (fun x => !x.1) && (backToKw pos (keywordEach [] X.env)).all (fun x => x.1.isSome)
      && decide ([e].length + ([] : List Keyword).length + (if ([] : List Keyword).isEmpty then 0 else 1) < 30)) = true := by rfl)
    (hline : (apos.endLine == pos.line) = true := by rfl) (hs : starEach [e] X.env = (false, eval e X.env) :: starEach [] X.env := by rfl) :
    JE X W (.Call (.Attribute o "index" apos) [e] [] pos) (rIdx ro re) :=
  pe_weak (pe_bm PySem.F.plainAttrs_list PySem.F.slot_list_index PySem.F.type_list_index (mt_indexD hu) ho (pa_cons he pa_nil hs) hbase hfew hline hs rfl) fun σ H Q ⟨L, F, S, ds, q, x, env, sto, h, hq, hx⟩ =>
    upE.bind env sto h hx fun d S1 v L1 F1 H1 h1 g1 env1 i1 s1 => by
      cases d with
      | lst xs =>
        obtain ⟨r, us, rfl, e2, e3⟩ := i1
        refine ⟨.inl ⟨rfl, us, .of (s1.ex _ _ e2)⟩, upE.bind env1 s1 h1 (hx.on g1) fun e S2 w L2 F2 H2 h2 g2 env2 i2 s2 => ?_⟩
        obtain ⟨o1, o2, j, z, hj, hz, hno, h3⟩ := h2
        have e2' := g2.ff _ _ e2
        have ol : okE 6 (.lst xs) = true := o2
        refine ⟨r, w, toPy e, toPys xs, j, toPy z, rfl, rfl, .lst (.of (s2.ex _ _ e2')) (toPys_dp s2.ex 5 xs us o2 (IsL.mono g2.ff _ _ e3)), toPy_dp s2.ex 6 e w o1 (okE_is o1 i2), toPy_shaped (d := .lst xs) ol (by decide), toPy_shaped o1 (by decide),
          toPys_get.mpr ⟨z, hj, rfl⟩, by rw [eqb_py 5 6 z e (okEs_get o2 hj) o1]; exact hz, fun m z' hm hz' => ?_, hq _ _ h3 _ L2 F2 H2 (g1.trans g2) rfl s2⟩
        obtain ⟨d', hd', rfl⟩ := toPys_get.mp hz'
        rw [eqb_py 5 6 d' e (okEs_get o2 hd') o1]
        exact hno m d' hm hd'
      | _ => exact h1.elim
end
end DL
end

section
set_option maxHeartbeats 4000000
namespace DL
open PySem PySem.Spec PyProof.Rows L2
section
variable {X : Cx} {W : WX} {a b e o c : Expr} {es : List Expr} {ra rb rc re ro ri : RE} {rr : RA} {pos p apos p2 tpos : Pos} {x : Str}
theorem get_listN : PGet X (fun o i H Q => ∃ p xs k v, o = .ref p ∧ i = .int k ∧ 0 ≤ k ∧ k < 1000000 ∧ SqL X.K H p xs ∧ xs[k.toNat]? = some v ∧ Q v H) := by
  intro pins s σ H o i ov iv Q I ro ri h
  obtain ⟨p, xs, k, v, rfl, rfl, h0, h9, hq, he, q⟩ := h
  cases ro
  obtain ⟨t, rfl⟩ := ri
  obtain ⟨its, r, pl, hz⟩ := I.list hq
  obtain ⟨w, ew, rw'⟩ := r.get he
  exact wpAny_getItem_list pl.isList h0 (by omega) (by simpa using ew) ⟨v, H, I, rw', q⟩
/-! ### xs[i] += e, a list of one's own, ints -/
def rAugS (ro ri re : RE) : RS := fun D ds S => ro ds S (fun o S1 => ri ds S1 (fun i S2 => match o, i with
  | .loc n, .int j => (match S2[n]? with
    | some (.lst xs) => ∃ u, (0 ≤ j ∧ j < 1000000 ∧ xs[j.toNat]? = some (.int u)) ∧ re ds S2 (fun e S3 => match e with
      | .int v => (match S3[n]? with
        | some (.lst ys) => j.toNat < ys.length ∧ D.nx ds (S3.set n (.lst (ys.set j.toNat (.int (u + v)))))
        | _ => False)
      | _ => False) fun C S' => D.xc C ds S'
    | _ => False)
  | _, _ => False) fun C S' => D.xc C ds S') fun C S' => D.xc C ds S'
theorem js_augS (ho : JE X W o ro) (hi : JE X W a ri) (he : JE X W e re)
    (ha : ∀ ov iv new, augStore a ov iv new = (do holding [new, ov, iv] (setItem ov iv new); release [new, ov, iv] []; pure .next) := by intros; rfl) : JS X W (.AugAssign (.Subscript o a tpos) .Add e pos) (rAugS ro ri re) :=
  ps_weak (ps_augS ho hi get_listN he ip_add set_list ha) fun D σ H ⟨L, F, S, ds, O, env, sto, h, hn, hr, hb, hc, hx⟩ =>
    upE.bind env sto h (hx.at env) fun od S1 ov L1 F1 H1 h1 g1 env1 io s1 => upE.bind env1 s1 h1 ((hx.on g1).at env1) fun idd S2 iv L2 F2 H2 h2 g2 env2 ii s2 => by
      have g12 := g1.trans g2
      cases od with
      | loc n =>
        cases idd with
        | int j =>
          obtain ⟨q, ha0, e1⟩ := io.mono g2
          have h2 : (match S2[n]? with
            | some (.lst xs) => ∃ u, (0 ≤ j ∧ j < 1000000 ∧ xs[j.toNat]? = some (.int u)) ∧ re ds S2 (fun e S3 => match e with
              | .int v => (match S3[n]? with
                | some (.lst ys) => j.toNat < ys.length ∧ O.nx ds (S3.set n (.lst (ys.set j.toNat (.int (u + v)))))
                | _ => False)
              | _ => False) fun C S' => O.xc C ds S'
            | _ => False) := h2
          split at h2
          · rename_i xs hS
            obtain ⟨u, ⟨j0, j9, hu⟩, h3⟩ := h2
            obtain ⟨z1, vs, e2, e3⟩ := s2.cel n _ q hS ha0 (fun z => by cases z)
            obtain ⟨wv, w1, w2⟩ := e3.get hu
            obtain rfl : wv = V.int u := w2
            refine ⟨q, vs, j, _, e1, ii, j0, j9, .of e2, w1, ?_⟩
            refine upE.bind env2 s2 h3 ((hx.on g12).at env2) fun ed S3 yv L3 F3 H3 h4 g3 env3 iy s3 => ?_
            cases ed with
            | int v =>
              obtain rfl : yv = V.int v := iy
              simp only at h4
              split at h4
              · rename_i ys hS3
                obtain ⟨hj, h5⟩ := h4
                have ha3 : L3[n]? = some q := by
                  obtain ⟨M, eM, _⟩ := g3.pre
                  rw [eM]; exact getElem?_pre ha0
                obtain ⟨z3, us, e4, e5⟩ := s3.cel n _ q hS3 ha3 (fun z => by cases z)
                have hq' := List.mem_of_getElem? ha3
                have g4 : Go L3 F3 H3 L3 F3 (upd H3 q (.lst (us.set j.toNat (.int (u + v))))) := Go.put hq' (s3.al q hq')
                refine ⟨u, v, rfl, rfl, q, us, j, j.toNat, e1, ii, e4, ?_, ?_⟩
                · unfold ixN
                  have := e5.length
                  rw [if_pos j0, if_pos (by omega)]
                · exact hn _ _ h5 σ L3 F3 _ ((g12.trans g3).trans g4) (env3.mono g4) (s3.put ha3 z3 ⟨_, upd_same, IsDL.set (d := .int (u + v)) rfl j.toNat (e5.mono g4)⟩)
              · exact h4.elim
            | _ => exact h4.elim
          · exact h2.elim
        | _ => exact h2.elim
      | _ => cases idd <;> exact h2.elim
end
end DL
end

section
set_option maxHeartbeats 4000000
namespace DL
open PySem PySem.Spec PyProof.Rows L2
/-! ### min of a tuple of ints -/
theorem minOf_le : ∀ (xs : List Int) (x : Int), PySem.W.minOf x xs ∈ x :: xs ∧ ∀ y ∈ x :: xs, PySem.W.minOf x xs ≤ y
  | [], x => ⟨by simp [PySem.W.minOf], by simp [PySem.W.minOf]⟩
  | y :: r, x => by
    have e : PySem.W.minOf x (y :: r) = PySem.W.minOf (if y < x then y else x) r := by
      show List.foldl _ _ r = List.foldl _ _ r
      congr 1
      show (if decide (y < x) = true then y else x) = _
      simp
    obtain ⟨h1, h2⟩ := minOf_le r (if y < x then y else x)
    rw [e]
    constructor
    · rcases List.mem_cons.mp h1 with h | h
      · rw [h]; split <;> simp
      · simp [h]
    · intro z hz
      have h0 := h2 _ List.mem_cons_self
      have h3 : PySem.W.minOf (if y < x then y else x) r ≤ y ∧ PySem.W.minOf (if y < x then y else x) r ≤ x := by
        generalize PySem.W.minOf (if y < x then y else x) r = g at *
        split at h0 <;> omega
      rcases List.mem_cons.mp hz with rfl | hz
      · exact h3.2
      · rcases List.mem_cons.mp hz with rfl | hz
        · exact h3.1
        · exact h2 _ (List.mem_cons_of_mem _ hz)
section
variable {X : Cx} {W : WX} {a : Expr} {ra : RE} {pos p tpos : Pos}
def oMinT : OC := c1 fun d S q => match d with
  | .tup xs => ∃ (n : Int) (ns : List Int), xs = (n :: ns).map D.int ∧ ∀ m, m ∈ n :: ns → (∀ y ∈ n :: ns, m ≤ y) → q (.int m) S
  | _ => False
theorem call_minT0 (hc : X.calm = true) (hu : X.A.units + 64 < cLine) : CallR X (.builtin "min") (fun vs H Q => ∃ (a : Addr) (n : Int) (ns : List Int), vs = [V.ref a] ∧ SqT X.K H a ((n :: ns).map V.int) ∧ ∀ m, m ∈ n :: ns → (∀ y ∈ n :: ns, m ≤ y) → Q (.int m) H) := by
  intro pins s σ H vs us Q I r h
  obtain ⟨a, n, ns, rfl, hs, q⟩ := h
  obtain ⟨its, rv, hl, _⟩ := I.tuple hs
  rw [Vals.ref1 r]
  have ds : DpAll X.K H ((n :: ns).map V.int) ((n :: ns).map PyData.int) := by
    have go : ∀ l : List Int, DpAll X.K H (l.map V.int) (l.map PyData.int) := fun l => by
      induction l with
      | nil => exact .nil
      | cons y t ih => exact .cons (.int y) ih
    exact go _
  obtain ⟨as, h4⟩ := Dp.readsAll I _ _ its ds rv
  refine PySem.W.min_tuple_datum (α := Int) (x := n) (xs := ns) (I.ok.hd hc) (show s.heap.IsTuple a its.toArray from hl) ⟨as, h4⟩ (by show X.A.units + 1 + 0 < cLine; omega) fun i v h' tk hi hv hk => ?_
  obtain ⟨bs, hr⟩ := hv
  obtain ⟨m1, m2⟩ := minOf_le ns n
  have : ∃ t, v = .int (PySem.W.minOf n ns) t := by
    cases hr
    exact ⟨_, rfl⟩
  obtain ⟨t, rfl⟩ := this
  exact ⟨.int _, H, I.kept hk, ⟨t, rfl⟩, q _ m1 m2⟩
theorem isl_map {K : PySem.W.Frag} {F : Hp} {ns : List Int} {vs : List V} (h : IsL K F (ns.map D.int) vs) : vs = ns.map V.int := isl_ints h
theorem call_minT (hc : X.calm = true) (hu : X.A.units + 64 < cLine) : CallR X (.builtin "min") (upC X.K oMinT) := c1_ok (call_minT0 hc hu) fun v H Q L F S d q i st h hq => by
  cases d with
  | tup xs =>
    obtain ⟨n, ns, rfl, h⟩ := h
    obtain ⟨p, ws, e1, e2, e3⟩ := i
    rw [isl_ints e3] at e2
    exact ⟨p, n, ns, by rw [e1], .of (st.ex _ _ e2), fun m m1 m2 => hq _ S (h m m1 m2) _ L F H .refl rfl st⟩
  | _ => exact h.elim
end
end DL
end

section
set_option maxHeartbeats 4000000
namespace DL
open PySem PySem.Spec PyProof.Rows L2
/-! ### enumerate(a tuple) -/
section
open PySem.AutoSeq1 (wpAny_loadPart')
theorem enum_newT (l : Addr) (items : Array Value) (o : Obj) (ho : o.cls = .type "tuple") (hd : ∃ n, o.data = .seq items n) :
    Meets (Builtin.«enumerate.__new__» ⟨[.type "enumerate", .ref l], []⟩) (fun _ R s => s.heap.get? l = some o ∧
      R (.ok (.ret (.ref (s.heap.push { cls := .type "tuple_iterator", data := .fields #[.ref l, .int 0 0] }).objs.size)))
        { s with heap := (s.heap.push { cls := .type "tuple_iterator", data := .fields #[.ref l, .int 0 0] }).push { cls := .type "enumerate", data := .fields #[.none, .bool false, .ref s.heap.objs.size, rawInt 0, .none, .none] } }) :=
  .of_wp fun prog w A R s h => by
    obtain ⟨hp, g, d, tk, os⟩ := s
    obtain ⟨hl, h⟩ := h
    have hsub := sub_enumerate
    have hL : Heap.IsTuple (Shared.heap ⟨hp, g, d, tk, os⟩) l items := ⟨o, hl, ho, hd⟩
    obtain ⟨oc, od, odt, osl⟩ := o
    obtain ⟨n, hd⟩ := hd
    simp only at ho hd
    subst ho hd
    wp_walk using wpAny_loadPart' hl
    refine wpAny_stack_any fun st => wpAny_pure ?_
    split
    · rename_i c _ _ _ _ _
      cases (c == Value.type "enumerate")
      · wp_walk using wpAny_loadPart' hl, wpAny_pyIter_tuple hL
        exact ⟨_, rfl, h⟩
      · wp_walk using wpAny_loadPart' hl, wpAny_pyIter_tuple hL
        exact ⟨_, rfl, h⟩
    · wp_walk using wpAny_loadPart' hl, wpAny_pyIter_tuple hL
      exact ⟨_, rfl, h⟩
end
section
variable {prog : Program} {w : World} {A : Around} {E : Value → Shared → Prop} {s : Shared}
theorem call_enumT {l : Addr} {items : Array Value} {Q : Value → Shared → Prop} (hL : s.heap.IsTuple l items)
    (h : ∀ h', IsEnum h' (s.heap.objs.size + 1) s.heap.objs.size 0 .none → h'.IsTupleIter s.heap.objs.size l 0 → h'.objs.size = s.heap.objs.size + 2 →
      (∀ b o, s.heap.get? b = some o → h'.get? b = some o) → Q (.ref (s.heap.objs.size + 1)) { s with heap := h' }) :
    wpAny (model prog w) A (call (.type "enumerate") [.ref l]) Q E s := by
  obtain ⟨o, hl, hc, hd⟩ := hL
  refine callType_new F.called_enumerate (by decide) (F.typeCall_enumerate_1 _) (F.newCall_enumerate_1 _) (fun obj => F.args_object_init_2 obj _) F.entry_enumerate_new (enum_newT l items o hc hd) ⟨hl, ?_⟩
  have hz : (s.heap.push { cls := .type "tuple_iterator", data := .fields #[.ref l, .int 0 0] }).objs.size = s.heap.objs.size + 1 := Heap.size_push ..
  show _ ∧ _
  rw [hz]
  have he : IsEnum ((s.heap.push { cls := .type "tuple_iterator", data := .fields #[.ref l, .int 0 0] }).push { cls := .type "enumerate", data := .fields #[.none, .bool false, .ref s.heap.objs.size, rawInt 0, .none, .none] })
      (s.heap.objs.size + 1) s.heap.objs.size 0 .none := by
    have z := Heap.get?_push_size (s.heap.push { cls := .type "tuple_iterator", data := .fields #[.ref l, .int 0 0] }) (o := { cls := .type "enumerate", data := .fields #[.none, .bool false, .ref s.heap.objs.size, rawInt 0, .none, .none] }) rfl
    rw [hz] at z
    exact z
  exact ⟨⟨_, he, rfl⟩, h _ he ⟨_, Heap.get?_push_of_some _ (Heap.get?_push_size _ rfl), rfl, rfl⟩ (by rw [Heap.size_push, hz]) fun b o x => Heap.get?_push_of_some _ (Heap.get?_push_of_some _ x)⟩
end
/-- the tuple at a, its items in new pairs with their numbers -/
def IteT (K : PySem.W.Frag) (a : Addr) : It where
  go := fun i H => ∃ (xs : List V) (x : V), SqT K H a xs ∧ xs[i]? = some x
  yld := fun i H v H' => ∃ T x, v = .ref T ∧ H T = none ∧ H' = upd H T (.tup [.int (i : Nat), x]) ∧ ∀ xs, SqT K H a xs → xs[i]? = some x
  stop := fun i H => ∃ xs : List V, SqT K H a xs ∧ xs.length = i
theorem turn_enumT {P : Program} {w : World} {K : PySem.W.Frag} {elts : List Expr} {kk : Nat} {tpos : Pos} (a e it : Addr) :
    Turn P w K (.Tuple elts kk tpos) (IteT K a) [e, it] e (fun i h => (∃ old, IsEnum h e it ((i : Nat) : Int) old) ∧ h.IsTupleIter it a i ∧ e ≠ it ∧ a ≠ it ∧ a ≠ e) where
  mem := .head _
  obj := by
    rintro i h ⟨⟨old, he⟩, ⟨o, ho, hc, hd⟩, _⟩ b hb
    rcases List.mem_cons.mp hb with rfl | hb
    · exact ⟨_, he, fun v q => nomatch q⟩
    · obtain rfl := List.mem_singleton.mp hb
      exact ⟨o, ho, fun v q => by rw [hd] at q; cases q⟩
  keep := by
    rintro i h h' ⟨⟨old, he⟩, hi, hne⟩ k
    exact ⟨⟨old, k e (.head _) _ he⟩, hi.at fun o q => k it (.tail _ (.head _)) o q, hne⟩
  item := by
    intro X hP hw hK hc i pins s σ H E I hf st hg
    subst hP hw hK
    obtain ⟨⟨old, he⟩, hit, n1, n2, n3⟩ := st
    obtain ⟨xs, x, hq, hx⟩ := hg
    obtain ⟨its, rv, p, hz⟩ := I.tuple hq
    obtain ⟨u, hu, ru⟩ := rv.get hx
    have hel : e < s.heap.objs.size := Heap.lt_size he
    have hil : it < s.heap.objs.size := by
      obtain ⟨_, q, _⟩ := hit
      exact Heap.lt_size q
    have hlt : i < its.toArray.size := by
      have := (List.getElem?_eq_some_iff.mp hu).1
      simpa using this
    have D := Draws.tuple (prog := X.prog) (w := X.w) (A := X.A.in1) (I.ok.hd hc) it a n2 its.toArray
    refine wpAny_pyNext_enum_itemD D he ⟨hit, p⟩ hlt n1 (by simp [n1, Ne.symm n3]) fun y h' tk hy ho hit' hT hsz hk => ?_
    obtain rfl : y = u := by
      have hy' : its[i]? = some y := by simpa using hy
      rw [hu] at hy'
      exact (Option.some.inj hy').symm
    refine ⟨_, rfl, wpAny_letOwnedTupleGo_enum (s := { s with heap := h', toks := tk + 1 }) ho fun h2 he' sb => ?_⟩
    have hT2 : h2.get? s.heap.objs.size = some { cls := .type "tuple", data := .seq #[.int i tk, y] } := (sb.2 _ (Nat.ne_of_gt hel)).trans hT
    have new : ObjOk X.prog X.w (upd H s.heap.objs.size (.tup [.int (i : Nat), x])) h2 s.heap.objs.size (.tup [.int (i : Nat), x]) :=
      ⟨by show 2 ≤ sizeLine; decide, [.int i tk, y], .cons ⟨_, rfl⟩ (.cons ru .nil), ⟨_, hT2, rfl, _, rfl⟩⟩
    have I1 : Inv X pins σ (upd H s.heap.objs.size (.tup [.int (i : Nat), x])) { s with heap := h2, toks := tk + 1 } :=
      I.turnedNew (ch := [e, it]) (fun b ob hb q => (sb.2 b (fun z => hb (z ▸ .head _))).trans (hk b ob (fun z => hb (z ▸ .head _)) (fun z => hb (z ▸ .tail _ (.head _))) q)) hf (Nat.le_refl _) new
    refine ⟨.ref s.heap.objs.size, _, I1, rfl, ⟨_, x, rfl, I.hok.fresh (Nat.le_refl _), rfl, fun ys hy => by rw [I.tuple_inj hy hq]; exact hx⟩, ⟨⟨y, ?_⟩, hit'.1.at fun o q => (sb.2 it (Ne.symm n1)).trans q, n1, n2, n3⟩, fun b hb => ?_⟩
    · rw [show ((i + 1 : Nat) : Int) = (i : Int) + 1 by omega]
      exact he'
    · have hb' : b < s.heap.objs.size := by
        rcases List.mem_cons.mp hb with rfl | hb
        · exact hel
        · obtain rfl := List.mem_singleton.mp hb
          exact hil
      rw [upd_ne (Nat.ne_of_lt hb')]
      exact (hf b hb).1
  done := by
    intro X hP hw hK hc i pins s σ H E I hf st hg
    subst hP hw hK
    obtain ⟨⟨old, he⟩, hit, n1, n2, n3⟩ := st
    obtain ⟨xs, hq, hx⟩ := hg
    obtain ⟨its, rv, p, hz⟩ := I.tuple hq
    obtain ⟨f0, f1, f2, f3, f4, f5⟩ := hf it (.tail _ (.head _))
    have hl : its.toArray.size = i := by
      rw [List.size_toArray, ← rv.length]; exact hx
    have D := Draws.tuple (prog := X.prog) (w := X.w) (A := X.A.in1) (I.ok.hd hc) it a n2 its.toArray
    exact wpAny_pyNext_enum_endD D he ⟨by rw [hl]; exact hit, p⟩ fun h' eb => ⟨rfl, I.turned (t' := s.toks) (fun b o hb q => eb b o hb q) f0 f1 f3 f4 f5⟩
  self := fun A i s Q E st h => wpAny_pyIter_enum st.1.choose_spec h
def iEnumT (K : PySem.W.Frag) (ta : TA) : TI := fun σ H R => ta σ H fun vs H1 => ∃ a xs, vs = [.ref a] ∧ SqT K H1 a xs ∧ R (IteT K a) H1
theorem pi_enumT {X : Cx} {e : Expr} {ta : TA} {p pos tpos : Pos} {elts : List Expr} {kk : Nat} (hg : Gl X "enumerate") (hm : X.mg "enumerate" = none) (ha : PA X [e] ta) (hs : starEach [e] X.env = [(false, eval e X.env)] := by rfl) :
    PI X (.Tuple elts kk tpos) (.Call (.Name "enumerate" p) [e] [] pos) (iEnumT X.K ta) := by
  constructor
  intro pins s σ H R I h
  refine Call_ (ld_blt I hg hm boot_enumerate (PyProof.Rows.callWith_type1 (thn (ha.run pos pins s σ H _ I h) fun us s1 ⟨vs, H1, I1, r1, a, xs, ex, hq, q⟩ => ?_) hs rfl))
  subst ex
  rw [Vals.ref1 r1]
  obtain ⟨its, rv, tp, hz⟩ := I1.tuple hq
  have ha1 : a < s1.heap.objs.size := by
    obtain ⟨o, ho, _⟩ := tp
    exact Heap.lt_size ho
  refine call_enumT tp fun h' he hit hsz hk => wpAny_pyIter_enum he ?_
  have I2 : Inv X pins σ H1 { s1 with heap := h' } := I1.kept (t' := s1.toks) hk
  refine ⟨s1.heap.objs.size + 1, [s1.heap.objs.size + 1, s1.heap.objs.size], _, _, H1, rfl, I2, turn_enumT a (s1.heap.objs.size + 1) s1.heap.objs.size, ⟨⟨.none, he⟩, hit, Nat.succ_ne_self _, Nat.ne_of_lt ha1, Nat.ne_of_lt (Nat.lt_succ_of_lt ha1)⟩, fun b hb => ?_, q⟩
  have hle : s1.heap.objs.size ≤ b := by
    rcases List.mem_cons.mp hb with rfl | hb
    · exact Nat.le_succ _
    · rw [List.mem_singleton.mp hb]; exact Nat.le_refl _
  exact I1.fpOk hle (I1.hok.fresh hle)
theorem walk_enumT {K : PySem.W.Frag} {a : Addr} {xs : List V} : Walk (IteT K a) xs.length (fun H => SqT K H a xs) (YPair (fun i => some (.int (i : Nat))) (fun i => xs[i]?)) :=
  ⟨fun i _ hi q => ⟨xs, xs[i], q, by simp [hi]⟩, fun _ q => ⟨xs, q, rfl⟩, fun i H v H' _ q ⟨T, x, h1, h2, h3, h4⟩ => ⟨T, .int (i : Nat), x, h1, h2, h3, rfl, h4 xs q⟩⟩
def rEnT (ra : RE) : RI := fun ds S q x => ra ds S (fun d S1 => match d with
  | .tup xs => q (enumD xs) S1
  | _ => False) x
section
variable {X : Cx} {W : WX} {a : Expr} {ra : RE} {p pos tpos : Pos}
theorem ji_enumT {elts : List Expr} {kk : Nat} (hg : Gl X "enumerate") (hm : X.mg "enumerate" = none) (ha : JE X W a ra) (hs : starEach [a] X.env = [(false, eval a X.env)] := by rfl) :
    JI X W (.Tuple elts kk tpos) (.Call (.Name "enumerate" p) [a] [] pos) (rEnT ra) :=
  pi_weak (pi_enumT hg hm (pa_cons ha pa_nil (by rw [hs]; rfl)) hs) fun σ H R ⟨L, F, S, ds, q, x, env, sto, h, hq, hx⟩ =>
    upE.bind env sto h hx fun d S1 v L1 F1 H1 h1 g1 env1 i1 s1 => by
      cases d with
      | tup xs =>
        obtain ⟨p, vs, rfl, e2, e3⟩ := i1
        refine ⟨p, vs, rfl, .of (s1.ex _ _ e2), hq _ S1 h1 L1 F1 H1 _ g1 s1 ?_⟩
        rw [enumD_eq]
        refine itok_pair (n := vs.length) (by simp [e3.length]) walk_enumT (fun H z => .of (z _ _ e2)) (fun i v hv d hd => ?_) fun i v hv d hd => ?_
        · cases hv
          rw [List.getElem?_map] at hd
          obtain ⟨j, hj, rfl⟩ := Option.map_eq_some_iff.mp hd
          have hlt : i < xs.length := by
            have := (List.getElem?_eq_some_iff.mp hj).1
            simpa using this
          rw [List.getElem?_range hlt] at hj
          cases hj
          rfl
        · obtain ⟨v', q1, q2⟩ := e3.get hd
          rw [hv] at q1
          cases q1
          exact q2
      | _ => exact h1.elim
end
end DL
end

section
set_option maxHeartbeats 4000000
namespace DL
open PySem L2
section
variable {X : Cx} {W : WX} {sts : List Stmt} {t : RS}
/-- another word for a cell -/
theorem Sto.say {K : PySem.W.Frag} {L : List Addr} {F H : Hp} {S : List Cell} (s : Sto K L F H S) {k : Nat} {a : Addr} {c : Cell} (ha : L[k]? = some a) (hF : F a = none) (hc : CellIs K L F H c a) : Sto K L F H (S.set k c) := by
  refine ⟨s.ex, by rw [List.length_set]; exact s.len, s.nd, s.al, fun j c' b h1 h2 h3 => ?_⟩
  by_cases e : j = k
  · subst e
    rw [ha] at h2
    cases h2
    rw [List.getElem?_set_self (by rw [← s.len]; exact (List.getElem?_eq_some_iff.mp ha).1)] at h1
    cases h1
    exact ⟨hF, hc⟩
  · rw [List.getElem?_set_ne (Ne.symm e)] at h1
    exact s.cel j c' b h1 h2 h3
theorem IsDL.setSame {K : PySem.W.Frag} {L : List Addr} {F : Hp} : ∀ {es : List DL.D} {vs : List V} {j : Nat} {d : DL.D}, IsDL K L F es vs → (∀ v, vs[j]? = some v → IsD K L F d v) → IsDL K L F (es.set j d) vs
  | [], _, _, _, h, _ => h
  | e :: es, _, 0, d, ⟨v, r, h1, h2, h3⟩, g => ⟨v, r, h1, g v (by rw [h1]; rfl), h3⟩
  | e :: es, _, j + 1, d, ⟨v, r, h1, h2, h3⟩, g => ⟨v, r, h1, h2, IsDL.setSame h3 fun w hw => g w (by rw [h1]; simpa using hw)⟩
/-- the list at field j of the instance in slot i will not change any more -/
def rFzF (i j : Nat) (t : RS) : RS := fun D ds S => match ds[i]? with
  | some (some (.loc k)) => (match S[k]? with
    | some (.ins c es) => (match es[j]? with
      | some (.loc n) => (match S[n]? with
        | some (.lst xs) => noLoc xs = true ∧ t D ds ((S.set n .dead).set k (.ins c (es.set j (.lst xs))))
        | _ => False)
      | _ => False)
    | _ => False)
  | _ => False
theorem jb_fzF (i j : Nat) (h : JB X W sts t) : JB X W sts (rFzF i j t) := pb_weak h fun D σ H ⟨L, F, S, ds, O, env, sto, h, hn, hr, hb, hc, hx⟩ => by
  unfold rFzF at h
  split at h
  · rename_i k hd
    split at h
    · rename_i c es hk
      split at h
      · rename_i n hj
        split at h
        · rename_i xs hS
          obtain ⟨v, hv, a, ha, e1⟩ := env.get hd
          obtain ⟨z0, dx, us, c2, c3⟩ := sto.cel k _ a hk ha (fun z => by cases z)
          obtain ⟨w, hw, p, hp, rfl⟩ := c3.get hj
          obtain ⟨z1, vs, e2, e3⟩ := sto.cel n _ p hS hp (fun z => by cases z)
          have kn : k ≠ n := fun z => by
            subst z
            rw [hk] at hS
            cases hS
          have g := Go.fz (L := L) (F := F) (H := H) (o := .lst vs) (List.mem_of_getElem? hp) z1
          have nb : a ≠ p := fun z => by
            subst z
            exact kn (nodup_i sto.nd ha hp)
          have iv : IsD X.K L (upd F p (.lst vs)) (.lst xs) (.ref p) := ⟨p, vs, rfl, upd_same, IsL.mono g.ff _ _ (e3.un h.1)⟩
          have ci : CellIs X.K L (upd F p (.lst vs)) H (.ins c (es.set j (.lst xs))) a := ⟨dx, us, c2, (c3.mono g).setSame fun v hv' => by
            rw [hw] at hv'
            cases hv'
            exact iv⟩
          exact ⟨L, _, _, ds, O, env.mono g, (sto.fz hp z1 e2).say ha (by rw [upd_ne nb]; exact z0) ci, h.2, hn.on g, hr.on g, hb.on g, hc.on g, hx.on g⟩
        · exact h.elim
      · exact h.elim
    · exact h.elim
  · exact h.elim
end
end DL
end

section
set_option maxHeartbeats 4000000
namespace DL
open PySem PySem.Spec PyProof.Rows L2
/-! ### isinstance(.., Book); Book's own == -/
/-- what the top says of the class Book (its own == at f) -/
structure BkF (K : PySem.W.Frag) (f : Addr) : Prop where
  ha : PySem.W.findIn K (.ref Cl.book.adr) "__class__" = some (some (.builtin "object.__class__"))
  hn : PySem.W.specialIn K (.builtin "object.__class__") "__get__" = some (some (.builtin "getset_descriptor.__get__"))
  ht : PySem.W.takesIn K (.builtin "object.__class__") = some true
  hm : PySem.W.mroIn K Cl.book.adr (.type "object") = some true
  one : PySem.W.kitOne K (.ref Cl.book.adr) (.ref Cl.book.adr) = some true
  eq : PySem.W.findIn K (.ref Cl.book.adr) "__eq__" = some (some (.ref f))
  fn : PySem.W.isFn K (.ref f) = true
section
variable {X : Cx} {f : Addr}
def oIsiB : OC := c2 fun d e S q => match d, e with
  | .obj .book _, .adr a => a = Cl.book.adr ∧ q (.bl true) S
  | _, _ => False
theorem call_isi_Book (cf : ClF X.K) (B : BkF X.K f) : CallR X (.builtin "isinstance") (upC X.K oIsiB) := c2_ok call_isi fun v w H Q L F S d e q i1 i2 st h hq => by
  cases d with
  | obj c xs =>
    cases c with
    | book =>
      cases e with
      | adr a =>
        obtain ⟨rfl, h⟩ := h
        obtain ⟨p, dx, vs, rfl, e2, e3⟩ := i1
        obtain rfl : w = V.ref Cl.book.adr := i2
        exact ⟨_, _, .ref Cl.book.adr, .ref Cl.book.adr, true, rfl, .own _, .base (.ins (st.ex _ _ e2) (cf.cls .book) B.ha B.hn B.ht B.hm), B.one, hq _ S h _ L F H .refl rfl st⟩
      | _ => exact h.elim
    | _ => cases e <;> exact h.elim
  | _ => cases e <;> exact h.elim
/-- two books with the same numbers are equal -/
def pcEq : PC := fun ds q _ => ∃ (k : Int) (qs w1 w2 : D), ds = [.obj .book [.tup [.int k, qs], w1], .obj .book [.tup [.int k, qs], w2]] ∧ okE 5 qs = true ∧ q (.bl true)
def FnEq (P : Program) (w : World) (K : PySem.W.Frag) (mg : Str → Option Value) (base : Heap) (k : Nat) : Prop := ∃ f fd ps, FnOk P w K mg base (L2.CX P w) k f fd ps (sp0 K 2 pcEq) ∧ BkF K f ∧ Binds K fd ps []
def rBk (K : PySem.W.Frag) (a b : Addr) (H : Hp) : Prop := ∃ F d e, Ex F H ∧ Is K F d (.ref a) ∧ Is K F e (.ref b) ∧ pcEq [d, e] (fun z => z = .bl true) fun _ => False
theorem spEq_bk {K : PySem.W.Frag} {vs : List V} {H : Hp} {Q : VK} {E : XK} (h : spEq (rBk K) vs H Q E) : sp0 K 2 pcEq vs H Q E := by
  obtain ⟨a, b, rfl, ⟨F, d, e, ex, i1, i2, hp⟩, hq⟩ := h
  refine ⟨F, [d, e], fun z => z = .bl true, fun _ => False, ex, ⟨_, _, rfl, i1, _, _, rfl, i2, rfl⟩, rfl, hp, fun z hz v F' H' g i => ?_, fun _ z => z.elim⟩
  subst hz
  obtain rfl : v = V.bl true := i
  exact hq H' g.hh
def oBkEq (r : Bool) : OD := fun d e S q => match d, e with
  | .obj .book xs, .obj .book ys => pcEq [.obj .book xs, .obj .book ys] (fun z => z = .bl true) (fun _ => False) ∧ q (.bl r) S
  | _, _ => False
theorem Gr.ext {F H H' : Hp} (x : Ex F H) (e : Ext H H') : Gr F H F H' := ⟨Ex.refl _, e, fun a o h => e a o (x a o h), fun _ h => .inl h⟩
theorem op_bookEq {k : Nat} (G : FnEq X.prog X.w X.K X.mg X.base k) (hr : Room k X.A) : OpR X (compareOp .Eq) (upO X.K (oBkEq true)) := by
  obtain ⟨f, fd, ps, F, B, hb⟩ := G
  intro pins s σ H x y v u Q I rx ry ⟨L, FF, S, d, e, q, i1, i2, st, h, hq⟩
  cases d with
  | obj c xs =>
    cases c with
    | book =>
      cases e with
      | obj c ys =>
        cases c with
        | book =>
          obtain ⟨hp, h⟩ := h
          obtain ⟨a, dx, vs, rfl, e1, _⟩ := id i1
          obtain ⟨b, dy, ws, rfl, f1, _⟩ := id i2
          exact op_eqG (D := DIns Cl.book.adr (rBk X.K)) (rcG_ins (F.imp fun vs H Q E z => spEq_bk z) B.eq B.fn hb (E := E0) passL) hr pins s σ H _ _ v u Q I rx ry
            ⟨⟨a, b, dx, dy, _, _, rfl, rfl, st.ex _ _ e1, st.ex _ _ f1, FF, _, _, st.ex, i1, i2, hp⟩, fun H' g => hq _ S h _ L FF H' (Gr.ext st.ex g).go rfl ((Gr.ext st.ex g).sto st)⟩
        | _ => exact h.elim
      | _ => exact h.elim
    | _ => cases e <;> exact h.elim
  | _ => cases e <;> exact h.elim
end
theorem nsv_of {K : PySem.W.Frag} {h : Heap} {N : Addr} {m : Str → Option Value} {n : Str} {v : Value} (k : K.In h) (G : h.Ns N m) (e : PySem.W.nsIn K N n = some (some v)) : m n = some v := by
  obtain ⟨o, es, ep, ho, hd, _, hf⟩ := G
  unfold PySem.W.nsIn at e
  split at e
  · rename_i c d es' n' sl q
    have q2 := k _ _ q
    rw [ho] at q2
    cases q2
    cases hd
    split at e
    · rename_i en he
      rw [← hf]
      unfold nsFind findBy
      rw [← Array.find?_toList, he]
      cases e
      rfl
    · split at e <;> cases e
  · cases e
/-- what the top says of Book for != -/
structure BkN (K : PySem.W.Frag) (f : Addr) : Prop where
  cls : ∃ nm q N bs sn sub ab col dd k0 k1 k2 k3 k5 newId hdct, K.lookup Cl.book.adr = some (excClassObj nm q Cl.book.adr N bs [.type "object"] hdct sn sub ab col dd k0 k1 k2 k3 k5 newId) ∧
    PySem.W.nsOkIn K N = true ∧ PySem.W.nsIn K N "__eq__" = some (some (.ref f)) ∧ PySem.W.nsIn K N "__ne__" = some none
  fn : ∃ o, K.lookup f = some o ∧ o.cls = .type "function"
section
variable {X : Cx} {f : Addr}
theorem op_bookNe {k : Nat} (G : FnEq X.prog X.w X.K X.mg X.base k) (N : ∀ f, BkF X.K f → BkN X.K f) (hr : Room (k + 1) X.A) : OpR X (compareOp .NotEq) (upO X.K (oBkEq false)) := by
  obtain ⟨f, fd, ps, F, B, hb⟩ := G
  obtain ⟨⟨nm, qn, NS, bs, sn, sub, ab, col, dd, k0, k1, k2, k3, k5, newId, hdct, lk, nok, neq, nne⟩, of, lf, cf⟩ := N f B
  intro pins s σ H x y v u Q I rx ry ⟨L, FF, S, d, e, q, i1, i2, st, h, hq⟩
  cases d with
  | obj c xs =>
    cases c with
    | book =>
      cases e with
      | obj c ys =>
        cases c with
        | book =>
          obtain ⟨hp, h⟩ := h
          obtain ⟨a, dx, vs, rfl, e1, _⟩ := id i1
          obtain ⟨b, dy, ws, rfl, f1, _⟩ := id i2
          cases rx
          cases ry
          obtain ⟨mA, J, _⟩ := ins_get I.hok (st.ex _ _ e1)
          obtain ⟨mB, J', _⟩ := ins_get I.hok (st.ex _ _ f1)
          obtain ⟨od, J, _⟩ := J.look
          obtain ⟨od', J', _⟩ := J'.look
          have hN := Heap.Ns.of_isNs (PySem.W.isNs_of_in I.kIn nok)
          have own : s.heap.OwnEqNoNe a Cl.book.adr f "object" [.type "object"] :=
            ⟨_, _, nm, qn, NS, bs, hdct, sn, sub, ab, col, dd, k0, k1, k2, k3, k5, newId, _, _, J.at_, J.cls, I.kIn _ _ lk, hN, nsv_of I.kIn hN neq, I.kIn _ _ lf, cf, PySem.F.cmp_object.mro, PySem.F.cmp_object.eq.lookup, PySem.W.ns_none_of I.kIn hN nne⟩
          have hsp : sp0 X.K 2 pcEq [.ref a, .ref b] H (fun v H' => v = .bl true ∧ Ext H H') E0 := spEq_bk ⟨a, b, rfl, ⟨FF, _, _, st.ex, i1, i2, hp⟩, fun H' g => ⟨rfl, g⟩⟩
          have hl := F.len _ _ _ _ hsp
          obtain ⟨hp0, g0, d0, t0, os0⟩ := s
          refine compareOp_ne_ownEq PySem.F.cmp_object own J'.at_ J'.cls (by have := hr.units; omega) ?_
          refine wpAny_call (codeAny_mono (F.run X.A.in1 X.stack _ H ⟨[.ref a, .ref b], []⟩ [.ref a, .ref b] [.ref a, .ref b] _ E0 hr.in1 I.env0.in1 (by
            have := hb _ [.ref a, .ref b] I.kIn (by simpa using hl)
            simpa using this) (.cons rfl (.cons rfl .nil)) hsp) fun r s' hq' => ?_)
          cases r with
          | error er => exact passL pins σ H _ er s' I hq'
          | ok fl =>
            cases fl with
            | ret w =>
              obtain ⟨z, H', I', rz, ez, ex⟩ := I.after hq'
              subst ez
              cases rz
              exact ⟨true, rfl, .bl false, H', I', rfl, hq _ S h _ L FF H' (Gr.ext st.ex ex).go rfl ((Gr.ext st.ex ex).sto st)⟩
            | next => exact False.elim hq'
            | brk => exact False.elim hq'
            | cont => exact False.elim hq'
        | _ => exact h.elim
      | _ => exact h.elim
    | _ => cases e <;> exact h.elim
  | _ => cases e <;> exact h.elim
end
end DL
end

section
set_option maxHeartbeats 4000000
namespace DL
open PySem L2
section
variable {X : Cx} {W : WX} {e o : Expr} {es : List Expr} {ro : RE} {rr : RA} {pos apos : Pos} {m : Str} {n k : Nat}
/-! ### o.m(..), o an instance that is data -/
def rMethF (c : Cl) (n : Nat) (pc : PC) (ro : RE) (rr : RA) : RE := fun ds S q x => ro ds S (fun d S0 => match d with
  | .obj c' xs => (match decide (c' = c) with
    | true => rr ds S0 (fun es S1 => match noLoc es && Nat.beq es.length n with
      | true => pc (.obj c' xs :: es) (fun d => q d S1) fun _ => False
      | false => False) x
    | false => False)
  | _ => False) x
theorem je_methF {pl : Sem Bool} {c : Cl} {pc : PC} (G : FnM X.prog X.w X.K X.mg X.base c.adr m k (sp0 X.K (n + 1) pc)) (hr : Room k X.A) (ho : JE X W o ro) (ha : JA X W (e :: es) rr) (hm : m ∉ c.keys)
    (hst : starEach (e :: es) X.env = (false, eval e X.env) :: starEach es X.env := by rfl) (hpl : (backTo pos (starEach es X.env)).any (·.1) = false := by rfl)
    (ht : eval (.Call (.Attribute o m apos) (e :: es) [] pos) X.env = (do
      let v0 ← eval o X.env; standAt apos.atName
      let (f, first) ← holding [v0] (getMethod v0 m pl)
      callWith pos f first (backTo pos (starEach (e :: es) X.env)) (backToKw pos (keywordEach [] X.env))) := by rfl) :
    JE X W (.Call (.Attribute o m apos) (e :: es) [] pos) (rMethF c n pc ro rr) := by
  obtain ⟨f, fd, ps, F, hc, hm', hb⟩ := G
  refine pe_weak (pe_meth (dvs := []) (ds := []) (E := E0) ho hc hm' F hr hb .nil passL ha hst hpl ht) fun σ H Q ⟨L, F, S, ds, q, x, env, sto, h, hq, hx⟩ => ?_
  refine upE.bind env sto h hx fun d S0 v L0 F0 H0 h0 g0 env0 i0 s0 => ?_
  cases d with
  | obj c' xs =>
    simp only at h0
    split at h0
    · rename_i hcl
      obtain rfl : c' = c := of_decide_eq_true hcl
      obtain ⟨a, dx, vs, rfl, e2, e3⟩ := id i0
      refine ⟨a, dx, _, rfl, s0.ex _ _ e2, zlook0 hm, ?_⟩
      refine upA.bind env0 s0 h0 (hx.on g0) fun es S1 us L1 F1 H1 h1 g1 env1 i1 s1 => ?_
      split at h1
      · rename_i hn
        obtain ⟨n1, n2⟩ := Bool.and_eq_true_iff.mp hn
        show sp0 X.K (n + 1) pc (.ref a :: (us ++ [])) H1 Q E0
        rw [List.append_nil]
        have hl := Nat.eq_of_beq_eq_true n2
        refine ⟨F1, .obj c' xs :: es, fun d => q d S1, fun _ => False, s1.ex, ⟨_, us, rfl, Is.mono g1.ff _ _ i0, i1.un n1⟩, by rw [List.length_cons, hl], h1, fun d hd v F' H' g i' => ?_, fun _ z => z.elim⟩
        exact ((hq.on g0).on g1) d S1 hd v L1 F' H' g.go (.of i') (g.sto s1)
      · exact h1.elim
    · exact h0.elim
  | _ => exact h0.elim
end
end DL
end

section
set_option maxHeartbeats 4000000
namespace DL
open PySem L2
section
variable {X : Cx} {W : WX} {e o : Expr} {es : List Expr} {rr : RA} {ro : RE} {p pos apos : Pos} {x m : Str} {k n : Nat}
/-- C(..) where there is no cell yet: the instance and the cells it makes -/
def rMakeT (n : Nat) (pc : PI_) (rr : RA) : RE := fun ds S q x => rr ds S (fun es S1 => match S1 with
  | [] => (match noLoc es && Nat.beq es.length n with
    | true => pc es fun S' => q (.loc 0) S'
    | false => False)
  | _ => False) x
theorem je_makeT {c : Cl} {pc : PI_} (G : FnC X.prog X.w X.K X.mg X.base x c.adr k (spI X.K n c pc)) (hr : Room (k + 1) X.A) (hg : Gl X x) (ha : JA X W (e :: es) rr) (hdb : (x == ("__debug__" : Str)) = false := by decide)
    (he : starEach (e :: es) X.env = (false, eval e X.env) :: starEach es X.env := by rfl) (hpl : (backTo pos (starEach es X.env)).any (·.1) = false := by rfl) : JE X W (.Call (.Name x p) (e :: es) [] pos) (rMakeT n pc rr) := by
  obtain ⟨f, fd, ps, F, hM, hm, hb⟩ := G
  refine pe_weak (pe_make (dvs := []) (ds := []) (E := E0) hM F hr hg hm hb .nil passL ha hdb he hpl) fun σ H Q ⟨L, F, S, ds, q, x, env, sto, h, hq, hx⟩ => ?_
  refine upA.bind env sto h hx fun es S1 us L1 F1 H1 h1 g1 env1 i1 s1 => ?_
  intro a dx na ndx ne
  cases S1 with
  | cons c1 S1 => exact h1.elim
  | nil =>
    have h1' : (match noLoc es && Nat.beq es.length n with
      | true => pc es fun S' => q (.loc 0) S'
      | false => False) := h1
    split at h1'
    · rename_i hn
      obtain ⟨n1, n2⟩ := Bool.and_eq_true_iff.mp hn
      rw [List.append_nil]
      refine ⟨a, us, F1, es, _, rfl, s1.made na ndx ne, i1.un n1, Nat.eq_of_beq_eq_true n2, h1', fun S' hS' L' F' H' g s' => ⟨rfl, ?_⟩⟩
      have l0 : L1 = [] := List.length_eq_zero_iff.mp s1.len
      subst l0
      have h1' : upd H1 dx (.own a) a = none := by rw [upd_ne (Ne.symm ne)]; exact na
      have exx : Ex H1 (upd (upd H1 dx (.own a)) a (.ins c.adr dx [])) := (Ex.new ndx).trans (Ex.new h1')
      have non : ∀ b, upd (upd H1 dx (.own a)) a (.ins c.adr dx []) b = none → H1 b = none := fun b hb => by
        cases q : H1 b with
        | none => rfl
        | some u => rw [exx b u q] at hb; cases hb
      have haL : L'[0]? = some a := by
        obtain ⟨M, eM, _⟩ := g.pre
        rw [eM]; rfl
      have g2 : Go [] F1 H1 L' F' H' := by
        refine ⟨⟨L', rfl, fun b hb => ?_⟩, g.ff, fun b o h _ => g.keep b o (exx b o h) fun z => ?_, fun b h => non b (g.there b h), fun b h => ?_⟩
        · obtain ⟨M, eM, nM⟩ := g.pre
          rw [eM] at hb
          rcases List.mem_append.mp hb with z | z
          · rw [List.mem_singleton.mp z]; exact na
          · exact non b (nM b z)
        · rw [List.mem_singleton.mp z, na] at h; cases h
        · rcases g.new b h with z | z | z
          · exact .inl z
          · exact .inr (.inl (non b z))
          · rw [List.mem_singleton.mp z]; exact .inr (.inl na)
      exact hq _ _ hS' _ L' F' H' (g1.trans g2) ⟨a, haL, rfl⟩ s'
    · exact h1'.elim
end
end DL
end

section
set_option maxHeartbeats 4000000
namespace DL
open PySem PySem.Spec PyProof.Rows L2
/-! ### is a list empty, whatever it holds -/
def oEqE (neg : Bool) : OD := fun d e S q => match d, e with
  | .lst xs, .lst [] => q (.bl (neg ^^ xs.isEmpty)) S
  | _, _ => False
section
variable {X : Cx}
theorem eqE_core {neg : Bool} {f : Value → Value → Sem Value} (h1 : OpR X f (upO X.K (oEq neg)))
    (h2 : ∀ {A : Around} {E : Value → Shared → Prop} {s : Shared} {l b : Addr} {items items2 : Array Value} {Q : Value → Shared → Prop}, s.heap.IsList l items → s.heap.IsList b items2 → (items.size != items2.size) = true → A.units < cLine → Q (.bool neg) s →
      wpAny (model X.prog X.w) A (f (.ref l) (.ref b)) Q E s) (hu : X.A.units + 64 < cLine) : OpR X f (upO X.K (oEqE neg)) := by
  intro pins s σ H x y v u Q I rx ry ⟨L, F, S, d, e, q, i1, i2, st, h, hq⟩
  cases d with
  | lst xs =>
    cases e with
    | lst ys =>
      cases ys with
      | nil =>
        cases xs with
        | nil => exact h1 pins s σ H x y v u Q I rx ry ⟨L, F, S, .lst [], .lst [], q, i1, i2, st, ⟨rfl, rfl, h⟩, hq⟩
        | cons z xs =>
          have h' : q (.bl (neg ^^ false)) S := h
          obtain ⟨a, vs, rfl, e1, e2⟩ := id i1
          obtain ⟨b, ws, rfl, f1, f2⟩ := id i2
          obtain ⟨its, rv, pl, _⟩ := I.list (.of (st.ex _ _ e1))
          obtain ⟨its2, rv2, pl2, _⟩ := I.list (.of (st.ex _ _ f1))
          cases (show v = Value.ref a from rx)
          cases (show u = Value.ref b from ry)
          have l1 : its.length = xs.length + 1 := by rw [← rv.length, e2.length]; rfl
          have l2 : its2.length = 0 := by rw [← rv2.length, f2.length]; rfl
          refine h2 pl.isList pl2.isList (by simp [l1, l2]) (by omega) ⟨.bl neg, H, I, rfl, ?_⟩
          rw [Bool.xor_false] at h'
          exact hq _ S h' _ L F H .refl rfl st
      | cons _ _ => exact h.elim
    | _ => exact h.elim
  | _ => cases e <;> exact h.elim
theorem op_eqE (hu : X.A.units + 64 < cLine) : OpR X (compareOp .Eq) (upO X.K (oEqE false)) := eqE_core (op_eqD' hu) (fun hl hb hs hu hq => SeqAt.RcAt.lists_lengths hl hb hs hu _ _ _ _ hq) hu
theorem op_neE (hu : X.A.units + 64 < cLine) : OpR X (compareOp .NotEq) (upO X.K (oEqE true)) := eqE_core (op_neD' hu) (fun hl hb hs hu hq => SeqAt.RcNeAt.lists_lengths hl hb hs hu _ _ _ _ hq) hu
end
end DL
end

section
set_option maxHeartbeats 4000000
namespace DL
open PySem L2
section
variable {X : Cx} {W : WX} {sts : List Stmt} {t : RS}
/-! ### cells of a block's own are forgotten behind it -/
def belowE (m : Nat) : List (Option D) → Bool
  | [] => true
  | some (.loc n) :: r => Nat.blt n m && belowE m r
  | _ :: r => belowE m r
theorem Env.below {K : PySem.W.Frag} {L M : List Addr} {F : Hp} : ∀ {ds : List (Option D)} {σ : St}, Env K (L ++ M) F ds σ → belowE L.length ds = true → Env K L F ds σ
  | [], _, h, _ => h
  | none :: ds, _, ⟨o, r, h1, h2⟩, b => ⟨o, r, h1, h2.below b⟩
  | some d :: ds, _, ⟨v, r, h1, h2, h3⟩, b => by
    cases d with
    | loc k =>
      obtain ⟨b1, b2⟩ := Bool.and_eq_true_iff.mp (show (Nat.blt k L.length && belowE L.length ds) = true from b)
      obtain ⟨a, ha, e⟩ := h2
      rw [List.getElem?_append_left (Nat.le_of_ble_eq_true b1)] at ha
      exact ⟨v, r, h1, ⟨a, ha, e⟩, h3.below b2⟩
    | _ => exact ⟨v, r, h1, h2, h3.below b⟩
def cutK (m : Nat) (q : List (Option D) → List Cell → Prop) : List (Option D) → List Cell → Prop := fun ds S => m ≤ S.length ∧ belowE m ds = true ∧ allC m (S.take m) ∧ q ds (S.take m)
def rScope (t : RS) : RS := fun D ds S => t { D with nx := cutK S.length D.nx, bk := cutK S.length D.bk, ct := cutK S.length D.ct } ds S
theorem jb_scope (h : JB X W sts t) : JB X W sts (rScope t) := pb_weak h fun D σ H ⟨L, F, S, ds, O, env, sto, h, hn, hr, hb, hc, hx⟩ => by
  have goL : ∀ {L' : List Addr} {F' H' : Hp}, Go L F H L' F' H' → Go L F H L F' H' := fun g => ⟨⟨[], by simp, by simp⟩, g.ff, g.keep, g.there, g.new⟩
  have cut : ∀ {q : List (Option DL.D) → List Cell → Prop} {Q : St → Hp → Prop}, QS X.K L F H q Q → QS X.K L F H (cutK S.length q) Q := fun {q Q} hq ds' S' ⟨c1, c2, c3, c4⟩ σ' L' F' H' g en st => by
    obtain ⟨M, eM, _⟩ := g.pre
    subst eM
    rw [← sto.len] at c1 c2 c3 c4
    exact hq _ _ c4 σ' L F' H' (goL g) (en.below c2) (st.cut c3 c1)
  exact ⟨L, F, S, ds, _, env, sto, h, cut hn, hr, cut hb, cut hc, hx⟩
end
end DL
end

section
set_option maxHeartbeats 4000000
namespace DL
open PySem PySem.Spec PyProof.Rows L2
/-! ### raise C(e): an own class over ArithmeticError whose __init__ stores one field -/

/-- what the top says of the class at C, of its __init__ at fI, of the field fld -/
structure XcI (K : PySem.W.Frag) (C fI : Addr) (fld : Str) : Prop where
  cls : ∃ na nm qn N bs sn sub ab col dd k0 k1 k2 k3 k5, K.lookup C = some (excClassObj nm qn C N bs (.ref na :: arB) true sn sub ab col dd k0 k1 k2 k3 k5 "ArithmeticError.__new__")
  sa : PySem.W.findIn K (.ref C) "__setattr__" = some (some (.builtin "object.__setattr__"))
  no : PySem.W.findIn K (.ref C) fld = some none
  ini : PySem.W.findIn K (.ref C) "__init__" = some (some (.ref fI))
  tfI : PySem.W.typeIn K (.ref fI) = some (.type "function")
  keepC : PySem.W.keepIn K (.ref C) = true
  sub : PySem.W.subIn K (.ref C) (.type "BaseException") = some true
  ty : PySem.W.typeIn K (.ref C) = some (.type "type")
section
open Builtin Builtin.ObjectAttr
variable {prog : Program} {w : World} {A : Around} {R : Result → Shared → Prop} {hp : Heap} {gs : Array GenState} {dr : Drawn} {tk0 : Nat} {os : OsState}
/-- the first field of an exception whose class has this mro -/
theorem ae_store {K : PySem.W.Frag} {fld : Str} {tk : Tok} {val : Value} {e C na : Addr} {parts : Array Value} {cd : ClassData} (kin : K.In hp) (at_ : hp.get? e = some { cls := .ref C, data := .fields parts })
    (hcd : PySem.W.clsIn K C = some cd) (em : cd.mro = .ref C :: .ref na :: arB) (hdict : cd.hasDict = true) (hno : PySem.W.findIn K (.ref C) fld = some none)
    (fin : ∀ h' t' dx, (∀ b o, b ≠ e → hp.get? b = some o → h'.get? b = some o) → hp.objs.size ≤ dx → dx ≠ e → h'.get? e = some { cls := .ref C, dict := some dx, data := .fields parts } →
      h'.Ns1 dx (fun y => if y = fld then some val else none) → R (.ok (.ret .none)) ⟨h', gs, dr, t', os⟩) :
    codeAny (model prog w) A (.call (.builtin "object.__setattr__") ⟨[.ref e, .str fld tk, val], []⟩) R ⟨hp, gs, dr, tk0, os⟩ := by
  have inst : PySem.W.InstAt hp e { cls := .ref C, data := .fields parts } C none := ⟨at_, rfl, rfl, trivial⟩
  have facts := F.store_object
  have full : cd.mro.isEmpty = false := by rw [em]; rfl
  have over : cd.mro.contains (.type "object") = true := by
    rw [em]
    simp [List.contains_cons]
  have fresh : e ≠ hp.objs.size := Nat.ne_of_lt (Heap.lt_size at_)
  have isobj : PySem.W.Looks (model prog w) hp (isInstance (.ref e) (.type "object")) true :=
    inst.type.andThen (PySem.W.looks_mroIn kin (by unfold PySem.W.mroIn; rw [hcd, Option.bind_some, if_neg (by rw [full]; decide), over]))
  refine codeAny_call_builtin facts.slot.plain facts.entry (@PySem.W.check_slot (model prog w) _ _ ⟨hp, gs, dr, tk0, os⟩ "object.__setattr__" "object" "__setattr__" (.ref e) [.str fld tk, val] [] _ facts.kind facts.split isobj (facts.args (.ref e) (.str fld tk) val) ?_)
  have order : PySem.W.Looks (model prog w) hp (mroOf (.ref C)) cd.mro := (PySem.W.looks_clsIn kin hcd).andThen .now
  have taker : PySem.W.Looks (model prog w) hp (storeTaker? none) none := .now
  have record : PySem.W.Looks (model prog w) hp (classData C) cd := PySem.W.looks_clsIn kin hcd
  rw [PySem.W.osa_eq, refuse_eq]
  refine wpAny_bind (wpAny_bind (inst.type.at (wpAny_bind (order.at ?_))))
  rw [em, refuseLoop_ref, refuseLoop_ref, F.store_ArithmeticError.passes]
  refine wpAny_pure (wpAny_bind (inst.type.at (wpAny_bind ((PySem.W.looks_findIn kin hno).at (wpAny_bind (taker.at ?_))))))
  show wpAny _ _ (storeInOwnDict (.ref e) (.ref C) (.str fld tk) fld val false) _ _ _
  obtain ⟨c1, c2, c3, c4, c5, c6, c7, c8, c9, c10, c11⟩ := cd
  dsimp only at hdict
  subst hdict
  unfold storeInOwnDict ownDictForStores
  repeat (first | with_reducible refine PySem.HandSPX.store_in_new ?_ ?_ | with_reducible refine wpAny_loadPart_at at_ ?_ | with_reducible refine record.at ?_ | wp_step)
  · exact ⟨_, #[], _, (Heap.get?_update_ne _ _ _ _ fresh.symm).trans (Heap.get?_push_at rfl rfl), rfl, fun z hz => absurd hz (by simp), fun _ => rfl⟩
  · intro h' t' ns same
    have later : (hp.push { cls := .type "dict", data := .dict #[] }).get? e = some { cls := .ref C, data := .fields parts } := Heap.get?_push_of_some _ at_
    refine fin h' t' hp.objs.size (fun b o hb ho => ?_) (Nat.le_refl _) fresh.symm ?_ ns
    · exact (same.2 b (Nat.ne_of_lt (Heap.lt_size ho))).trans ((Heap.get?_update_ne _ _ _ _ hb).trans (Heap.get?_push_of_some _ ho))
    · exact (same.2 e fresh).trans (Heap.get?_update_self _ later rfl)
end
section
variable {X : Cx} {pins : List (Addr × Obj)} {σ : L2.St} {H : Hp} {s : Shared} {a C fI : Addr} {f : Str} {y : V} {u : Value} {Q : Unit → Shared → Prop} {E : Value → Shared → Prop} {A : Around}
/-- self.f = y -/
theorem ae_set (T : XcI X.K C fI f) (I : Inv X pins σ H s) (e : H a = some (exo a C none)) (ry : RelV y u)
    (h : ∀ dx s', H dx = none → dx ≠ a → Inv X pins σ (upd (upd H dx (exd dx [(f, y)])) a (exo a C (some dx))) s' → Q () s') : wpAny (model X.prog X.w) A (setAttr (.ref a) f u) Q E s := by
  obtain ⟨na, nm, qn, N, bs, sn, sub, ab, col, dd, k0, k1, k2, k3, k5, hC⟩ := T.cls
  have rec_ : PySem.W.clsIn X.K C = some { name := nm, bases := bs, mro := .ref C :: .ref na :: arB, ns := N, qualname := qn, hasDict := true, slotNames := sn, subclasses := sub, abstract := ab, collection := col, hasDel := false } := by unfold PySem.W.clsIn; rw [hC] <;> rfl
  obtain ⟨t1, here⟩ := exo_at I.hok e
  obtain ⟨hp, gs, dr, tt, os⟩ := s
  refine PySem.W.set_plain I.kIn (od := none) (ox := { cls := .ref C, dict := none, data := .fields #[.ref t1, .none, .none, .none, .bool false, .none] }) ⟨here, rfl, rfl, trivial⟩ T.sa ?_
  refine ae_store I.kIn here rec_ rfl rfl T.no (fun h' t' dx kept new_ ne at' ns => ?_)
  have none_ : H dx = none := I.hok.fresh new_
  have other : ∀ {b : Addr} {o : Obj}, hp.get? b = some o → b ≠ dx := fun {b o} q => Nat.ne_of_lt (Nat.lt_of_lt_of_le (Heap.lt_size q) new_)
  have noa : ∀ {b : Addr}, H b = none → b ≠ a := fun {b} n z => by rw [z, e] at n; cases n
  have U : Un X.fs [] H (upd (upd H dx (exd dx [(f, y)])) a (exo a C (some dx))) hp h' := {
    keep := fun b o q n _ _ => kept b o (noa n) q
    slot := fun b o q n _ _ => ⟨o.slots, kept b o (noa n) q⟩
    free := fun b o q n _ => by rw [upd_ne (noa n), upd_ne (other q)]; exact n
    there := fun b o q _ => by
      by_cases z : b = a
      · subst z; exact ⟨_, at'⟩
      · exact ⟨o, kept b o z q⟩
    tups := fun b xs q => by rw [upd_ne (at_ne e q exo_tup), upd_ne (ne_of_none q none_)]; exact q
    frzs := fun b o v q => by rw [upd_ne (at_ne e q exo_frz), upd_ne (ne_of_none q none_)]; exact q
    tbls := fun b ps q => ⟨#[], by rw [upd_ne (at_ne e q exo_tbl), upd_ne (ne_of_none q none_), q]; simp⟩ }
  refine h dx _ none_ ne (I.un (t' := t') U fun b o q => ?_)
  by_cases z : b = a
  · subst z
    rw [upd_same] at q
    cases q
    exact exo_ok at'
  · rw [upd_ne z] at q
    by_cases z2 : b = dx
    · subst z2
      rw [upd_same] at q
      cases q
      exact exd_ok ns (relO_put (fs := []) ry fun _ => True.intro)
    · rw [upd_ne z2] at q
      refine (I.hok b o q).stay (fun c v hc x => kept c v ?_ x) (fun c hc => ?_) (fun c xs hc => ?_)
      · rcases hc with hc | hc
        · rw [hc]; exact z
        · exact at_ne e hc exo_own
      · rw [upd_ne (at_ne e hc exo_own), upd_ne (ne_of_none hc none_)]; exact hc
      · rw [upd_ne (at_ne e hc exo_tup), upd_ne (ne_of_none hc none_)]; exact hc
end
/-- what __init__ is handed and leaves -/
def spX (K : PySem.W.Frag) (C fI : Addr) (f : Str) : Sp := fun vs H Q _ => ∃ (a : Addr) (y : V), vs = [.ref a, y] ∧ XcI K C fI f ∧ H a = some (exo a C none) ∧
  ∀ dx, H dx = none → dx ≠ a → Q .non (upd (upd H dx (exd dx [(f, y)])) a (exo a C (some dx)))
/-- self.f = y, self and y the def's two parameters -/
def tAe (K : PySem.W.Frag) (C fI : Addr) (f : Str) : TS := fun D σ H => ∃ (a : Addr) (y : V), σ = [some (.ref a), some y] ∧ XcI K C fI f ∧ H a = some (exo a C none) ∧
  ∀ dx, H dx = none → dx ≠ a → D.nx σ (upd (upd H dx (exd dx [(f, y)])) a (exo a C (some dx)))
section
variable {X : Cx} {C fI : Addr} {f : Str} {s1 s2 : Str} {p1 p2 p3 p4 : Pos}
theorem ps_ae (h1 : PE X (.Name s1 p1) (tVar 0)) (h2 : PE X (.Name s2 p3) (tVar 1)) (hs : swapsWith (.Name s2 p3) (some (.Attribute (.Name s1 p1) f p2)) p4.line X.env = pure false := by rfl) :
    PS X (.Assign [.Attribute (.Name s1 p1) f p2] (.Name s2 p3) p4) (tAe X.K C fI f) := by
  refine ⟨fun pins s σ H D I h => ?_⟩
  obtain ⟨a, y, eσ, T, ea, q⟩ := h
  refine plainObj_wpAny_Assign_Attribute (thn (h2.run pins s σ H (fun v H' => v = y ∧ H' = H) I ⟨y, by rw [eσ]; rfl, rfl, rfl⟩) fun v s1 ⟨y', H1, I1, r1, e1, e2⟩ => ?_) hs
  subst e1 e2
  refine thn (h1.run pins s1 σ H1 (fun v H' => v = .ref a ∧ H' = H1) I1 ⟨.ref a, by rw [eσ]; rfl, rfl, rfl⟩) fun u s2 ⟨x, H2, I2, r2, e3, e4⟩ => ?_
  subst e3 e4
  obtain rfl : u = Value.ref a := r2
  exact ae_set T I2 ea r1 fun dx s' n ne J => ⟨σ, _, J, q dx n ne⟩
end
section
variable {X : Cx} {W : WX} {x : Str} {C fI : Addr} {k : Nat} {fd : FuncData} {ps : List Str} {f : Str} {p pos p2 : Pos} {e : Expr} {te : TE} {re : RE}
/-- C(e) -/
theorem pmk_ae (T : XcI X.K C fI f) (F1 : FnOk X.prog X.w X.K X.mg X.base (L2.CX X.prog X.w) k fI fd ps (spX X.K C fI f)) (hr : Room (k + 1) X.A) (hb : Binds X.K fd ps []) (hx : Passes (L2.CX X.prog X.w) X (fun _ _ _ => False)) (hg : Gl X x) (hm : X.mg x = some (.ref C)) (he : PE X e te)
    (hdb : (x == ("__debug__" : Str)) = false := by decide) (hst : starEach [e] X.env = (false, eval e X.env) :: starEach [] X.env := by rfl) (hpl : (backTo pos (starEach [] X.env)).any (·.1) = false := by rfl) :
    PMk X (.Call (.Name x p) [e] [] pos) (fun σ H Q => tCons te tNil σ H fun vs H1 => ∃ y, vs = [y] ∧ ∀ dx, H1 dx = none → Q (.ref C) (some dx) (upd H1 dx (.xd [(f, y)]))) := by
  intro pins s σ H Q I h
  obtain ⟨na, nm, qn, N, bs, sn, sub, ab, col, dd, k0, k1, k2, k3, k5, hC⟩ := T.cls
  refine wpAny_Call_Name_kw (ld_glob I hg hm ?_ hdb)
  refine PySem.W.callWith_K (h₀ := X.base) I.ok.mod.kin T.keepC (thn ((pa_cons he pa_nil hst).run pos pins s σ H _ I h) fun us st ⟨vs, H1, I1, r1, y, ev, q1⟩ => ⟨I1.kIn, ?_⟩) hst hpl
  subst ev
  show wpAny _ _ (call (.ref C) us) _ _ _
  obtain ⟨hp, gs, dr, tk, os⟩ := st
  have lt : hp.objs.size ≤ hp.objs.size + 1 := Nat.le_succ _
  have an : H1 (hp.objs.size + 1) = none := I1.hok.fresh lt
  have grown : ∀ b o, hp.get? b = some o → ((hp.push (PySem.W.kdv_tup us)).push (PySem.HandSPX.excO C hp.objs.size)).get? b = some o := fun b o z => Heap.get?_push_of_some _ (Heap.get?_push_of_some _ z)
  have made : ((hp.push (PySem.W.kdv_tup us)).push (PySem.HandSPX.excO C hp.objs.size)).get? (hp.objs.size + 1) = some (PySem.HandSPX.excO C hp.objs.size) := by heap_get
  have J : Inv X pins σ (upd H1 (hp.objs.size + 1) (exo (hp.objs.size + 1) C none)) ⟨(hp.push (PySem.W.kdv_tup us)).push (PySem.HandSPX.excO C hp.objs.size), gs, dr, tk, os⟩ :=
    I1.laid (a := hp.objs.size + 1) (t' := tk) (h' := (hp.push (PySem.W.kdv_tup us)).push (PySem.HandSPX.excO C hp.objs.size)) (o := exo (hp.objs.size + 1) C none) grown lt (exo_ok made)
  have rel : Vals (V.ref (hp.objs.size + 1) :: [y]) (Value.ref (hp.objs.size + 1) :: us) := .cons rfl r1
  have sp : spX X.K C fI f (V.ref (hp.objs.size + 1) :: [y]) (upd H1 (hp.objs.size + 1) (exo (hp.objs.size + 1) C none))
      (fun v H2 => v = .non ∧ ∃ (dx : Addr) (fs : List (Str × V)), H2 (hp.objs.size + 1) = some (exo (hp.objs.size + 1) C (some dx)) ∧ H2 dx = some (exd dx fs) ∧ H1 dx = none ∧ Q (.ref C) (some dx) (upd (del H2 (hp.objs.size + 1)) dx (.xd fs))) (fun _ _ _ => False) := by
    refine ⟨_, y, rfl, T, upd_same, fun dx n ne => ⟨rfl, dx, [(f, y)], upd_same, by rw [upd_ne ne, upd_same], by rwa [upd_ne ne] at n, ?_⟩⟩
    have n' : H1 dx = none := by rwa [upd_ne ne] at n
    have e : upd (del (upd (upd (upd H1 (hp.objs.size + 1) (exo (hp.objs.size + 1) C none)) dx (exd dx [(f, y)])) (hp.objs.size + 1) (exo (hp.objs.size + 1) C (some dx))) (hp.objs.size + 1)) dx (.xd [(f, y)]) = upd H1 dx (.xd [(f, y)]) := by
      funext b
      by_cases z : b = dx
      · subst z; rw [upd_same, upd_same]
      · rw [upd_ne z, upd_ne z]
        by_cases z2 : b = hp.objs.size + 1
        · rw [z2, del_same, an]
        · rw [del_ne z2, upd_ne z2, upd_ne z, upd_ne z2]
    rw [e]
    exact q1 dx n'
  have few : us.length ≤ sizeLine := by
    rw [← Paired.length r1, sizeLine_eq]
    exact (by decide : 1 ≤ 16777216)
  have both : ([Value.ref (hp.objs.size + 1)] ++ us).length = ps.length := by
    have := rel.length
    rw [F1.len _ _ _ _ sp] at this
    exact this.symm
  have holds : ∀ Y : String, (Value.ref na :: arB).contains (.type Y) = arB.contains (.type Y) := fun Y => by rw [List.contains_cons]; rfl
  refine wpAny_call (PySem.HandSPX.call_own F.excBase_ArithmeticError holds (I1.kIn _ _ hC) (PySem.W.looks_findIn I1.kIn T.ini) (fun self => PySem.W.bind_fn I1.kIn self T.tfI) few
    (codeAny_mono (F1.run _ X.stack _ _ ⟨Value.ref (hp.objs.size + 1) :: us, []⟩ (Value.ref (hp.objs.size + 1) :: us) _ _ (fun _ _ _ => False) (hr.make C us []) (J.env0.make C us []) (by
      have := hb ⟨(hp.push (PySem.W.kdv_tup us)).push (PySem.HandSPX.excO C hp.objs.size), gs, dr, tk, os⟩ (Value.ref (hp.objs.size + 1) :: us) J.kIn (by simpa using both)
      simpa using this) rel sp) fun r s' back => ?_))
  cases r with
  | error er => exact hx pins σ _ _ er s' J back
  | ok fl =>
    cases fl with
    | ret v =>
      obtain ⟨v', H2, os2, bare2, un2, hok2, rv, ev, dx, fs, ea, ed, hd1, q2⟩ := back
      subst ev
      obtain ⟨h2, g2, d2, t2, os'⟩ := s'
      exact ⟨rv, mk_end (raises_own T.sub T.ty) I1 lt grown un2 hok2 os2 bare2 ea ed hd1 q2⟩
    | next => exact False.elim back
    | brk => exact False.elim back
    | cont => exact False.elim back
/-- raise C(e), over data -/
def rRaise1 (C : Addr) (re : RE) : RS := fun D ds S => re ds S (fun d S1 => match noLoc [d] with
  | true => D.xc C ds S1
  | false => False) fun C' S' => D.xc C' ds S'
/-- what the top and the defs say of the class -/
def FnX (P : Program) (w : World) (K : PySem.W.Frag) (mg : Str → Option Value) (base : Heap) (x : Str) (C : Addr) (k : Nat) (f : Str) : Prop :=
  ∃ fI fd ps, XcI K C fI f ∧ FnOk P w K mg base (L2.CX P w) k fI fd ps (spX K C fI f) ∧ Binds K fd ps [] ∧ mg x = some (.ref C)
theorem js_raise1 (G : FnX X.prog X.w X.K X.mg X.base x C k f) (hc : X.calm = true) (hr : Room (k + 1) X.A) (tk : Takes X W) (hg : Gl X x) (he : JE X W e re) (hdb : (x == ("__debug__" : Str)) = false := by decide)
    (hst : starEach [e] X.env = (false, eval e X.env) :: starEach [] X.env := by rfl) (hpl : (backTo pos (starEach [] X.env)).any (·.1) = false := by rfl) :
    JS X W (.Raise (some (.Call (.Name x p) [e] [] pos)) none p2) (rRaise1 C re) := by
  obtain ⟨fI, fd, ps, T, F1, hb, hm⟩ := G
  refine ps_weak (ps_raise hc tk (pmk_ae T F1 hr hb passL hg hm he hdb hst hpl)) fun D σ H ⟨L, FF, S, ds, O, env, sto, h, hn, hrt, hbk, hct, hx⟩ => ?_
  refine upE.bind env sto h (hx.at env) fun d S1 v L1 F1 H1 h1 g1 env1 i1 s1 => ?_
  refine ⟨v, rfl, fun dx n => ?_⟩
  split at h1
  · rename_i nl
    exact hx C ds S1 h1 σ _ L1 _ _ (g1.trans (Go.new_ s1 n)) (env1.mono (Go.new_ s1 n)) (s1.new_ n)
  · exact h1.elim
end
end DL
end

section
set_option maxHeartbeats 4000000
namespace DL
open PySem L2
section
variable {X : Cx} {W : WX} {a : Expr} {ra : RE} {p2 p3 pos : Pos}
/-! ### xs[lo:hi] of a list, a list of one's own -/
def oSlO : D → Option Int → Option Int → List Cell → QP → Prop := fun d lo hi S q => match d with
  | .lst xs => q (.loc S.length) (S ++ [.lst (cutD xs lo hi)])
  | .loc k => (match S[k]? with
    | some (.lst xs) => noLoc xs = true ∧ q (.loc S.length) (S ++ [.lst (cutD xs lo hi)])
    | _ => False)
  | _ => False
theorem slDO : SlR X (upSl X.K oSlO) := by
  intro pins s σ H x v vl vu lo hi sl Q I rx hs pl pu h
  obtain ⟨L, F, S, d, q, i1, st, h, hq⟩ := h
  have lst : ∀ {p : Addr} {vs : List V} {xs : List D}, x = .ref p → SqL X.K H p vs → IsL X.K F xs vs → q (.loc S.length) (S ++ [.lst (cutD xs lo hi)]) →
      ∃ T id, typeLookup (.type T) "__getitem__" = pure (some (.builtin id)) ∧ s.TypeIs v T ∧ wpAny (model X.prog X.w) X.A (getItem v (.ref sl)) (EP X pins σ Q) X.xe s := fun {p vs xs} e1 e2 e3 h =>
    sl_list pins s σ H x v vl vu lo hi sl Q I rx hs pl pu ⟨p, vs, e1, e2, fun r hr => hq _ _ h _ (L ++ [r]) F _ (Go.cell hr) ⟨r, by rw [← st.len, List.getElem?_append_right (Nat.le_refl _)]; simp, rfl⟩
      (st.cell hr ⟨_, upd_same, .of (cut_is e3 lo hi)⟩)⟩
  cases d with
  | lst xs => obtain ⟨p, vs, e1, e2, e3⟩ := i1; exact lst e1 (.of (st.ex _ _ e2)) e3 h
  | loc k =>
    obtain ⟨p, ha, e1⟩ := i1
    have h : (match S[k]? with
      | some (.lst xs) => noLoc xs = true ∧ q (.loc S.length) (S ++ [.lst (cutD xs lo hi)])
      | _ => False) := h
    split at h
    · rename_i xs hS
      obtain ⟨_, ws, e2, e3⟩ := st.cel k _ p hS ha (fun z => by cases z)
      exact lst e1 (.of e2) (e3.un h.1) h.2
    · exact h.elim
  | _ => exact h.elim
def rSlO (ra : RE) (rl rh : RO) : RE := fun ds S q x => ra ds S (fun d S1 => rl ds S1 (fun l S2 => rh ds S2 (fun h S3 => oSlO d l h S3 q) x) x) x
theorem je_slO {lo hi : Option Expr} {rl rh : RO} (ha : JE X W a ra) (hl : JP X W lo rl) (hh : JP X W hi rh) : JE X W (.Subscript a (.Slice lo hi none p2) pos) (rSlO ra rl rh) :=
  pe_weak (pe_slice slDO ha hl hh) fun σ H Q ⟨L, F, S, ds, q, x, env, sto, h, hq, hx⟩ => upE.bind env sto h hx fun d S1 v L1 F1 H1 h1 g1 env1 i1 s1 =>
    upP.bind env1 s1 h1 (hx.on g1) fun l S2 L2 F2 H2 h2 g2 env2 s2 => upP.bind env2 s2 h2 ((hx.on g1).on g2) fun h S3 L3 F3 H3 h3 g3 env3 s3 =>
      ⟨L3, F3, S3, d, q, (i1.mono g2).mono g3, s3, h3, hq.on ((g1.trans g2).trans g3)⟩
/-! ### f(..), a pure def, the cells handed on as they stand -/
def snap (S : List Cell) : D → D
  | .loc k => match S[k]? with
    | some (.lst xs) => .lst xs
    | some (.ins c xs) => .obj c xs
    | _ => .loc k
  | d => d
def snapOk (S : List Cell) : D → Prop
  | .loc k => match S[k]? with
    | some (.lst xs) => noLoc xs = true
    | some (.ins _ xs) => noLoc xs = true
    | _ => False
  | _ => True
def snapsOk (S : List Cell) : List D → Prop
  | [] => True
  | d :: r => snapOk S d ∧ snapsOk S r
variable {e : Expr} {es : List Expr} {rr : RA} {p : Pos} {x : Str} {k n : Nat}
def rCallZ (n : Nat) (pc : PC) (rr : RA) : RE := fun ds S q x => rr ds S (fun es S1 => snapsOk S1 es ∧ es.length = n ∧ pc (es.map (snap S1)) (fun d => ∃ b, d = .bl b ∧ q (.bl b) S1) fun _ => False) x
theorem snap_one {K : PySem.W.Frag} {L : List Addr} {F H : Hp} {S : List Cell} (s : Sto K L F H S) {F1 : Hp} (e1 : Ex F F1) (e2 : Ex F1 H) : ∀ {d : D} {v : V}, IsD K L F d v → snapOk S d → ∃ F2, Ex F1 F2 ∧ Ex F2 H ∧ Is K F2 (snap S d) v := by
  intro d v i ok
  cases d with
  | loc k =>
    obtain ⟨a, ha, rfl⟩ := i
    have put : ∀ {o : HO}, H a = some o → ∃ F2, Ex F1 F2 ∧ Ex F2 H ∧ F2 a = some o := fun {o} ho => by
      by_cases z : F1 a = none
      · refine ⟨upd F1 a o, Ex.new z, fun b u q => ?_, upd_same⟩
        by_cases y : b = a
        · rw [y] at q ⊢; rw [upd_same] at q; rw [ho]; exact q
        · rw [upd_ne y] at q; exact e2 b u q
      · obtain ⟨u, hu⟩ := Option.ne_none_iff_exists'.mp z
        have := e2 a u hu
        rw [ho] at this
        cases this
        exact ⟨F1, Ex.refl _, e2, hu⟩
    show ∃ F2, Ex F1 F2 ∧ Ex F2 H ∧ Is K F2 (match S[k]? with
      | some (.lst xs) => .lst xs
      | some (.ins c xs) => .obj c xs
      | _ => .loc k) (.ref a)
    have ok' : (match S[k]? with
      | some (.lst xs) => noLoc xs = true
      | some (.ins _ xs) => noLoc xs = true
      | _ => False) := ok
    split at ok'
    · rename_i xs hS
      obtain ⟨z1, vs, c2, c3⟩ := s.cel k _ a hS ha (fun z => by cases z)
      obtain ⟨F2, f1, f2, f3⟩ := put c2
      exact ⟨F2, f1, f2, a, vs, rfl, f3, IsL.mono (e1.trans f1) _ _ (c3.un ok')⟩
    · rename_i c xs hS
      obtain ⟨z1, dx, vs, c2, c3⟩ := s.cel k _ a hS ha (fun z => by cases z)
      obtain ⟨F2, f1, f2, f3⟩ := put c2
      exact ⟨F2, f1, f2, a, dx, vs, rfl, f3, IsL.mono (e1.trans f1) _ _ (c3.un ok')⟩
    · exact ok'.elim
  | _ => exact ⟨F1, Ex.refl _, e2, Is.mono e1 _ _ i⟩
theorem snap_all {K : PySem.W.Frag} {L : List Addr} {F H : Hp} {S : List Cell} (s : Sto K L F H S) : ∀ {ds : List D} {vs : List V} {F1 : Hp}, Ex F F1 → Ex F1 H → IsDL K L F ds vs → snapsOk S ds → ∃ F2, Ex F1 F2 ∧ Ex F2 H ∧ IsL K F2 (ds.map (snap S)) vs
  | [], _, F1, e1, e2, h, _ => ⟨F1, Ex.refl _, e2, h⟩
  | d :: ds, _, F1, e1, e2, ⟨v, r, h1, h2, h3⟩, ok => by
    obtain ⟨F2, f1, f2, f3⟩ := snap_one s e1 e2 h2 ok.1
    obtain ⟨F3, g1, g2, g3⟩ := snap_all s (e1.trans f1) f2 h3 ok.2
    exact ⟨F3, f1.trans g1, g2, v, r, h1, Is.mono g1 _ _ f3, g3⟩
theorem je_callZ {pc : PC} (G : FnG X.prog X.w X.K X.mg X.base x k (sp0 X.K n pc)) (hr : Room k X.A) (tk : Takes X W) (hg : Gl X x) (ha : JA X W (e :: es) rr) (hdb : (x == ("__debug__" : Str)) = false := by decide)
    (he : starEach (e :: es) X.env = (false, eval e X.env) :: starEach es X.env := by rfl) (hpl : (backTo pos (starEach es X.env)).any (·.1) = false := by rfl) : JE X W (.Call (.Name x p) (e :: es) [] pos) (rCallZ n pc rr) := by
  obtain ⟨f, fd, ps, F, hm, hk, hb⟩ := G
  refine pe_weak (pe_callS F hr hg hm hk hb (fun σ => passAt tk σ) ha hdb he hpl) fun σ H Q ⟨L, F, S, ds, q, x, env, sto, h, hq, hx⟩ => ?_
  refine upA.bind env sto h hx fun d S1 v L1 F1 H1 h1 g1 env1 i1 s1 => ?_
  obtain ⟨ok, ln, h1⟩ := h1
  obtain ⟨F2, f1, f2, f3⟩ := snap_all s1 (Ex.refl _) s1.ex i1 ok
  refine ⟨F2, d.map (snap S1), _, _, f2, f3, by rw [List.length_map]; exact ln, h1, fun z hz w F' H' g iw => ?_, fun C z => z.elim⟩
  obtain ⟨b, rfl, hz⟩ := hz
  obtain rfl : w = V.bl b := iw
  have gr : Gr F1 H1 F1 H' := ⟨Ex.refl _, g.hh, s1.ex.trans g.hh, fun _ h => .inl h⟩
  exact hq _ S1 hz _ L1 F1 H' (g1.trans gr.go) rfl (gr.sto s1)
/-! ### for, where a list of one's own takes another's place -/
/-- the last cell but one is forgotten -/
def Ren (p : Nat) (ds : List (Option DL.D)) (S : List Cell) (ds' : List (Option DL.D)) (S' : List Cell) : Prop :=
  (ds' = ds ∧ S' = S) ∨ ∃ A c e i, S = A ++ [c, e] ∧ S' = A ++ [e] ∧ p ≤ A.length ∧ ds[i]? = some (some (.loc (A.length + 1))) ∧ ds' = ds.set i (some (.loc A.length)) ∧ belowE A.length (ds.set i none) = true ∧ allC A.length A ∧ belowC A.length e
theorem Env.pre {K : PySem.W.Frag} {L M : List Addr} {F : Hp} : ∀ {ds : List (Option DL.D)} {σ : St}, Env K L F ds σ → Env K (L ++ M) F ds σ
  | [], _, h => h
  | none :: ds, _, ⟨o, r, h1, h2⟩ => ⟨o, r, h1, h2.pre⟩
  | some d :: ds, _, ⟨v, r, h1, h2, h3⟩ => ⟨v, r, h1, h2.pre, h3.pre⟩
theorem Env.swap {K : PySem.W.Frag} {L : List Addr} {F : Hp} {a b : Addr} : ∀ {ds : List (Option DL.D)} {σ : St} {i : Nat}, Env K (L ++ [a, b]) F ds σ → ds[i]? = some (some (.loc (L.length + 1))) → belowE L.length (ds.set i none) = true → Env K (L ++ [b]) F (ds.set i (some (.loc L.length))) σ
  | [], _, _, _, h, _ => by simp at h
  | none :: ds, _, 0, _, h, _ => by simp at h
  | none :: ds, _, i + 1, ⟨o, r, h1, h2⟩, h, b => ⟨o, r, h1, Env.swap (i := i) h2 (by simpa using h) b⟩
  | some d :: ds, _, 0, ⟨v, r, h1, h2, h3⟩, h, bl => by
    simp at h
    subst h
    obtain ⟨p, hp, rfl⟩ := h2
    have e : p = b := by
      rw [List.getElem?_append_right (by omega)] at hp
      simp at hp
      exact hp.symm
    subst e
    have h4 := Env.below (L := L) (M := [a, p]) h3 (show belowE L.length ds = true from bl)
    refine ⟨_, r, h1, ⟨p, by simp, rfl⟩, ?_⟩
    exact Env.pre h4
  | some d :: ds, _, i + 1, ⟨v, r, h1, h2, h3⟩, h, bl => by
    have hb : belowE L.length ds.tail = belowE L.length ds.tail := rfl
    cases d with
    | loc n =>
      obtain ⟨b1, b2⟩ := Bool.and_eq_true_iff.mp (show (Nat.blt n L.length && belowE L.length (ds.set i none)) = true from bl)
      obtain ⟨q, hq, e⟩ := h2
      rw [List.getElem?_append_left (Nat.le_of_ble_eq_true b1)] at hq
      exact ⟨v, r, h1, ⟨q, getElem?_pre hq, e⟩, Env.swap (i := i) h3 (by simpa using h) b2⟩
    | _ => exact ⟨v, r, h1, h2, Env.swap (i := i) h3 (by simpa using h) bl⟩
theorem Sto.swap {K : PySem.W.Frag} {L : List Addr} {F H : Hp} {a b : Addr} {A : List Cell} {c e : Cell} (s : Sto K (L ++ [a, b]) F H (A ++ [c, e])) (hl : L.length = A.length) (hA : allC A.length A) (he : belowC A.length e) : Sto K (L ++ [b]) F H (A ++ [e]) := by
  have s0 : Sto K L F H A := by
    have h1 : (A ++ [c, e]).take L.length = A := by rw [hl]; simp
    have := s.cut (by rw [h1, hl]; exact hA) (by simp; omega)
    rwa [h1] at this
  have hb : (L ++ [a, b])[L.length + 1]? = some b := by
    rw [List.getElem?_append_right (by omega)]
    simp
  have he1 : (A ++ [c, e])[L.length + 1]? = some e := by
    rw [hl, List.getElem?_append_right (by omega)]
    simp
  have nb : b ∉ L := fun z => by
    have := s.nd
    rw [List.nodup_append] at this
    exact this.2.2 b z b (by simp) rfl
  refine ⟨s.ex, by simp [hl], ?_, fun x hx => s.al x ?_, fun n c' x h1 h2 h3 => ?_⟩
  · rw [List.nodup_append]
    exact ⟨s0.nd, by simp, fun x hx y hy => by rw [List.mem_singleton.mp hy]; exact fun z => nb (z ▸ hx)⟩
  · rcases List.mem_append.mp hx with z | z
    · exact List.mem_append_left _ z
    · rw [List.mem_singleton.mp z]; simp
  · by_cases hn : n < L.length
    · rw [List.getElem?_append_left hn] at h2
      rw [List.getElem?_append_left (by omega)] at h1
      obtain ⟨q1, q2⟩ := s0.cel n c' x h1 h2 h3
      exact ⟨q1, q2.pre⟩
    · rw [List.getElem?_append_right (by omega)] at h2
      rw [List.getElem?_append_right (by omega), ← hl] at h1
      have e0 : n - L.length = 0 := by
        have := (List.getElem?_eq_some_iff.mp h2).1
        simp at this; omega
      rw [e0] at h1 h2
      simp at h1 h2
      subst h1 h2
      obtain ⟨q1, q2⟩ := s.cel _ _ _ he1 hb h3
      refine ⟨q1, ?_⟩
      rw [← hl] at he
      cases e with
      | lst ds => obtain ⟨vs, e1, e2⟩ := q2; exact ⟨vs, e1, (IsDL.below (L := L) (M := [a, b]) e2 he).pre⟩
      | ins c ds => obtain ⟨dx, vs, e1, e2⟩ := q2; exact ⟨dx, vs, e1, (IsDL.below (L := L) (M := [a, b]) e2 he).pre⟩
      | dead => trivial
      | ext ψ => exact q2
theorem Ren.ok {K : PySem.W.Frag} {L0 L : List Addr} {F0 H0 F H : Hp} {S0 S S' : List Cell} {ds ds' : List (Option DL.D)} {σ : St} (r : Ren L0.length ds S ds' S') (g : Go L0 F0 H0 L F H) (en : Env K L F ds σ) (s : Sto K L F H S) :
    ∃ L', Go L0 F0 H0 L' F H ∧ Env K L' F ds' σ ∧ Sto K L' F H S' := by
  rcases r with ⟨rfl, rfl⟩ | ⟨A, c, e, i, rfl, rfl, hp, hi, rfl, hb, hA, he⟩
  · exact ⟨L, g, en, s⟩
  · obtain ⟨M, eM, nM⟩ := g.pre
    have ll : L.length = A.length + 2 := by rw [s.len]; simp
    obtain ⟨LA, a, b, eL, lA⟩ : ∃ LA a b, L = LA ++ [a, b] ∧ LA.length = A.length := by
      refine ⟨L.take A.length, L[A.length], L[A.length + 1], ?_, by simp; omega⟩
      apply List.ext_getElem
      · simp; omega
      · intro n h1 h2
        by_cases hn : n < A.length
        · rw [List.getElem_append_left (by simp; omega)]; simp
        · rw [List.getElem_append_right (by simp; omega)]
          have : n = A.length ∨ n = A.length + 1 := by omega
          rcases this with rfl | rfl
          · simp [Nat.min_eq_left (show A.length ≤ L.length by omega)]
          · simp [Nat.min_eq_left (show A.length ≤ L.length by omega)]
    subst eL
    rw [← lA] at hi hb
    refine ⟨LA ++ [b], ⟨?_, g.ff, g.keep, g.there, g.new⟩, by rw [← lA]; exact Env.swap en hi hb, s.swap lA hA he⟩
    -- the first ones stay
    obtain ⟨M1, e1⟩ : ∃ M1, LA = L0 ++ M1 := by
      refine ⟨LA.drop L0.length, ?_⟩
      have : (LA ++ [a, b]).take L0.length = L0 := by rw [eM]; simp
      rw [List.take_append_of_le_length (by omega)] at this
      rw [← this]
      simp [Nat.min_eq_left (show L0.length ≤ LA.length by omega)]
    refine ⟨M1 ++ [b], by rw [e1, List.append_assoc], fun x hx => nM x ?_⟩
    have e2 : M = M1 ++ [a, b] := by
      rw [e1, List.append_assoc] at eM
      exact (List.append_cancel_left eM).symm
    rw [e2]
    rcases List.mem_append.mp hx with z | z
    · exact List.mem_append_left _ z
    · rw [List.mem_singleton.mp z]; simp
def forR (p : Nat) (rg : RG) (rb : RS) (D : Out) : List DL.D → List (Option DL.D) → List Cell → Prop
  | [], ds, S => D.nx ds S
  | d :: items, ds, S => rg d ds S fun ds1 S1 => rb { D with nx := fun ds2 S2 => ∃ ds3 S3, Ren p ds2 S2 ds3 S3 ∧ forR p rg rb D items ds3 S3, ct := fun _ _ => False, bk := D.nx } ds1 S1
def rForR (ri : RI) (rg : RG) (rb : RS) : RS := fun D ds S => ri ds S (fun items S1 => forR S1.length rg rb D items ds S1) fun C S' => D.xc C ds S'
variable {body : List Stmt} {ri : RI} {rg : RG} {rb' : RS} {tg iter : Expr}
theorem js_forR (hp : PassesOwn (model X.prog X.w) X.A X.env X.xe) (hc : X.calm = true) (hi : JI X W tg iter ri) (hg : JG X tg rg) (hb : JB X W body rb')
    (hs : ∀ x, foldedSetIterable iter X.env x = pure x := by intro _; rfl) : JS X W (.For tg iter body [] pos) (rForR ri rg rb') :=
  ps_weak (ps_for hp hc hi hg hb hs) fun D σ H ⟨L, F, S, ds, O, env, sto, h, hn, hr, hbk, hct, hx⟩ =>
    ⟨L, F, S, ds, _, _, env, sto, h, fun items S1 h1 L1 F1 H1 J g1 s1 it => by
      obtain ⟨Y, w, y⟩ := it.w
      rw [← s1.len] at h1
      refine for_it w (fun i σ' H' => ∃ L' F' S' ds', Go L1 F1 H1 L' F' H' ∧ Env X.K L' F' ds' σ' ∧ Sto X.K L' F' H' S' ∧ forR L1.length rg rb' O (items.drop i) ds' S') ⟨L1, F1, S1, ds, .refl, env.mono g1, s1, h1⟩ (fun i σ' H' _ ⟨L', F', S', ds', g, _, s', _⟩ => g.ff.trans s'.ex) ?_ ?_
      · rintro i v σ' H' H'' hi ⟨L', F', S', ds', g, en, s', hf⟩ hy
        obtain ⟨d, F2, hd, gr, iv⟩ := y i H' v H'' F' g.ff s'.ex hy
        have hdrop : items.drop i = d :: items.drop (i + 1) := by
          have hl := (List.getElem?_eq_some_iff.mp hd).1
          rw [List.drop_eq_getElem_cons hl, (List.getElem?_eq_some_iff.mp hd).2]
        rw [hdrop] at hf
        refine ⟨L', F2, S', ds', d, _, en.mono gr.go, gr.sto s', .of iv, hf, fun ds2 S2 h2 σ2 L2 F3 H2 g2 en2 s2 => ?_⟩
        have gg := (g.trans gr.go).trans g2
        exact ⟨L2, F3, S2, ds2, _, en2, s2, h2, fun ds3 S3 ⟨ds4, S4, rn, h4⟩ σ3 L3 F4 H3 g3 en3 s3 => by
          obtain ⟨L4, g4, en4, s4⟩ := Ren.ok (S0 := S1) rn (gg.trans g3) en3 s3
          exact ⟨L4, F4, S4, ds4, g4, en4, s4, h4⟩, (hr.on g1).on gg, (hn.on g1).on gg, fun ds3 S3 z => z.elim, (hx.on g1).on gg⟩
      · rintro σ' H' ⟨L', F', S', ds', g, en, s', hf⟩
        rw [List.drop_eq_nil_of_le (Nat.le_refl _)] at hf
        exact hn _ S' hf σ' L' F' H' (g1.trans g) en s', hx.at env⟩
end
end DL
end

section
set_option maxHeartbeats 4000000
namespace DL
open PySem PySem.Spec PyProof.Rows L2
/-! ### a lambda of no captured name, its code object in the table that a cell stands for -/
abbrev lamO (f : Addr) (q : Str) (pr : Arguments) (b : Expr) (sc : Scope) (pm : Value) (c : Addr) (ct : Value) : HO := .ext fun h => h.get? f = some (PySem.W.kla_obj "<lambda>" q pr b sc [] pm c ct)
def lamF (q : Str) (pr : Arguments) (b : Expr) (sc : Scope) : Hp → Addr → Prop := fun F f => ∃ (c : Addr) (pm ct : Value), F f = some (lamO f q pr b sc pm c ct) ∧ F c = some (LamX.CodeO c q)
def tabT (P : Addr) (q : Str) : Hp → HO → Addr → Prop := fun F o a => a = P ∧ ∃ ps : Array Value, o = .tbl ps ∧ TriplesOk ps.toList ∧ ∀ (pos : Pos) (cv : Value), codeAmong pos ps.toList = some cv → ∃ c, cv = .ref c ∧ F c = some (LamX.CodeO c q)
def tabC (P : Addr) (q : Str) : Cell := .ext (tabT P q)
section
variable {X : Cx} {pins : List (Addr × Obj)} {σ : L2.St} {H : Hp} {s : Shared}
theorem lamO_ok {P : Program} {w : World} {H : Hp} {h : Heap} {f : Addr} {q : Str} {pr : Arguments} {b : Expr} {sc : Scope} {pm : Value} {c : Addr} {ct : Value} (e : h.get? f = some (PySem.W.kla_obj "<lambda>" q pr b sc [] pm c ct)) : ObjOk P w H h f (lamO f q pr b sc pm c ct) :=
  ⟨e, ⟨_, e⟩, fun h1 h2 e1 st => st _ e1⟩
theorem upd_swap {H : Hp} {a b : Addr} {x y : HO} (n : a ≠ b) : upd (upd H a x) b y = upd (upd H b y) a x := by
  funext d
  by_cases h1 : d = a
  · subst h1; rw [upd_ne n, upd_same, upd_same]
  · by_cases h2 : d = b
    · subst h2; rw [upd_same, upd_ne h1, upd_same]
    · rw [upd_ne h2, upd_ne h1, upd_ne h1, upd_ne h2]
theorem lam_mk {R : Addr → Prop} {c P : Addr} {pr : Arguments} {b : Expr} {sc : Scope} {pos : Pos} {ps : Array Value} {Er : Value → Shared → Prop} {Q : Value → Shared → Prop} (I : Inv X pins σ H s) (TB : LamX.TabB X.base X.mg c P) (hcode : X.env.code = .ref c)
    (hP : H P = some (.tbl ps)) (tri : TriplesOk ps.toList) (own : ∀ (pos : Pos) (cv : Value), codeAmong pos ps.toList = some cv → ∃ c, cv = .ref c ∧ R c)
    (hdef : defaultsOf pr X.env = ([], [])) (nf : ∀ y ∈ sc.names, y.2 ≠ .free) (hcl : cloFrom X.env.cells sc.names [] = [])
    (found : ∀ (f c' : Addr) (pm ct : Value) (s' : Shared), H f = none → R c' → Inv X pins σ (upd H f (lamO f (X.env.qual ++ "<lambda>") pr b sc pm c' ct)) s' → Q (.ref f) s')
    (fresh : ∀ (f c' : Addr) (pm ct : Value) (more : Array Value) (s' : Shared), H c' = none → f ≠ c' → H f = none → TriplesOk (ps ++ more).toList → (∀ (pos : Pos) (cv : Value), codeAmong pos (ps ++ more).toList = some cv → codeAmong pos ps.toList = some cv ∨ cv = .ref c') →
      Inv X pins σ (upd (upd (upd H P (.tbl (ps ++ more))) c' (LamX.CodeO c' (X.env.qual ++ "<lambda>"))) f (lamO f (X.env.qual ++ "<lambda>") pr b sc pm c' ct)) s' → Q (.ref f) s') :
    wpAny (model X.prog X.w) X.A (eval (.Lambda pr b sc pos) X.env) Q Er s := by
  have clo : closureFor sc X.env = pure [] := by
    have := closure_ok (scope := sc) (env := X.env) fun y hy e => absurd e (nf y hy)
    rwa [hcl] at this
  have bP := TB.bm.keeps I.bk
  have atP : s.heap.get? P = some { cls := .none, data := .fields ps } := I.hok P _ hP
  refine PySem.W.kla_eval hdef ?_
  cases hit : codeAmong pos ps.toList with
  | some cv =>
    obtain ⟨c', rfl, hco⟩ := own pos cv hit
    refine PySem.W.kla_makeFunctionHit (mg := X.mg) (c := c) (P := P) (ps := ps) clo I.ok.glob
      (I.mod.glob.keeps I.bk) hcode
      (TB.code.keeps I.bk) atP tri hit bP fun ct h' tk grown big => ?_
    have J := I.laid (t' := tk) (a := h'.objs.size) (h' := h'.push (PySem.W.kla_obj "<lambda>" (X.env.qual ++ "<lambda>") pr b sc [] ((X.mg "__name__").getD .none) c' ct)) (o := lamO h'.objs.size (X.env.qual ++ "<lambda>") pr b sc ((X.mg "__name__").getD .none) c' ct)
      (fun d u e => Heap.get?_push_of_some _ (grown d u e)) big (lamO_ok (Heap.get?_push_size _ rfl))
    exact found _ c' _ ct _ (I.hok.fresh big) hco J
  | none =>
    refine PySem.W.kla_makeFunction (mg := X.mg) (c := c) (P := P) (ps := ps) clo I.ok.glob
      (I.mod.glob.keeps I.bk) hcode
      (TB.code.keeps I.bk) atP tri hit TB.gP bP fun c' ct h' tk ext ge lt rec tab => ?_
    obtain ⟨c2, oc, vs, t, e2, hoc, hd, hv⟩ := rec
    cases e2
    have nC : H c' = none := I.hok.fresh ge
    have big : s.heap.objs.size ≤ h'.objs.size := by omega
    have nF : H h'.objs.size = none := I.hok.fresh big
    have nFc : h'.objs.size ≠ c' := by omega
    have nFP : h'.objs.size ≠ P := fun z => by rw [z, hP] at nF; cases nF
    have eL : (ps ++ #[rawInt pos.line, rawInt pos.col, .ref c']).toList = ps.toList ++ [rawInt pos.line, rawInt pos.col, .ref c'] := by simp
    have J1 := LamX.inv_table (t' := tk) (more := #[rawInt pos.line, rawInt pos.col, .ref c']) (h' := h') I hP ext tab ge ⟨oc, vs, t, hoc, hd, hv⟩
    have J := J1.laid (t' := tk) (a := h'.objs.size) (h' := h'.push (PySem.W.kla_obj "<lambda>" (X.env.qual ++ "<lambda>") pr b sc [] ((X.mg "__name__").getD .none) c' ct)) (o := lamO h'.objs.size (X.env.qual ++ "<lambda>") pr b sc ((X.mg "__name__").getD .none) c' ct)
      (fun d u e => Heap.get?_push_of_some _ e) (Nat.le_refl _) (lamO_ok (Heap.get?_push_size _ rfl))
    refine fresh _ c' _ ct _ _ nC nFc nF (by rw [eL]; exact PySem.TriplesOk_snoc _ _ _ _ tri) (fun p2 cv e => ?_) J
    rw [eL] at e
    exact LamX.among_app _ tri e
theorem list_set_same {α : Type} {l : List α} {i : Nat} {x : α} (h : l[i]? = some x) : l.set i x = l := by
  obtain ⟨hl, e⟩ := List.getElem?_eq_some_iff.mp h
  rw [← e, List.set_getElem_self]
/-- the value of the lambda -/
def rLam (P : Addr) (q : Str) (pr : Arguments) (b : Expr) (sc : Scope) : RE := fun ds S k x => S[0]? = some (tabC P q) ∧ k (.fn (lamF q pr b sc)) S
theorem je_lam {W : WX} {c P : Addr} {pr : Arguments} {b : Expr} {sc : Scope} {pos : Pos} (TB : LamX.TabB X.base X.mg c P) (hcode : X.env.code = .ref c) (hdef : defaultsOf pr X.env = ([], [])) (nf : ∀ y ∈ sc.names, y.2 ≠ .free) (hcl : cloFrom X.env.cells sc.names [] = []) :
    JE X W (.Lambda pr b sc pos) (rLam P (X.env.qual ++ "<lambda>") pr b sc) := by
  refine ⟨fun pins s σ H Q I h => ?_⟩
  obtain ⟨L, F, S, ds, k, x, env, sto, ⟨h0, h⟩, hq, hx⟩ := h
  have hL : ∃ a, L[0]? = some a := by
    have := sto.len
    cases hl : L[0]? with
    | some a => exact ⟨a, rfl⟩
    | none =>
      rw [List.getElem?_eq_none_iff] at hl
      have := (List.getElem?_eq_some_iff.mp h0).1
      omega
  obtain ⟨a, ha⟩ := hL
  obtain ⟨Fa, o, F0, hHa, e0, rfl, ps, rfl, tri, own⟩ := sto.cel 0 _ a h0 ha (fun z => by cases z)
  have aL : a ∈ L := List.mem_of_getElem? ha
  refine lam_mk (R := fun c' => F c' = some (LamX.CodeO c' (X.env.qual ++ "<lambda>"))) I TB hcode hHa tri (fun p cv e => ?_) hdef nf hcl (fun f c' pm ct s' nF hco J => ?_) fun f c' pm ct more s' nC nFc nF tri' own' J => ?_
  · obtain ⟨c', rfl, hc⟩ := own p cv e
    exact ⟨c', rfl, e0 _ _ hc⟩
  · refine ⟨.ref f, _, J, rfl, hq _ _ h _ L _ _ (Go.new_ sto nF) ⟨f, _, rfl, Ex.refl _, c', pm, ct, upd_same, ?_⟩ (sto.new_ nF)⟩
    rw [upd_ne (ne_of_none hco (sto.fnone nF))]
    exact hco
  · have nac : a ≠ c' := fun z => by rw [z, nC] at hHa; cases hHa
    have naf : a ≠ f := fun z => by rw [z, nF] at hHa; cases hHa
    rw [upd_swap nac] at J
    have g1 := Go.new_ (o := LamX.CodeO c' (X.env.qual ++ "<lambda>")) sto nC
    have s1 := sto.new_ (o := LamX.CodeO c' (X.env.qual ++ "<lambda>")) nC
    have at1 : upd H c' (LamX.CodeO c' (X.env.qual ++ "<lambda>")) a = some (.tbl ps) := by rw [upd_ne nac]; exact hHa
    have g2 : Go L (upd F c' (LamX.CodeO c' (X.env.qual ++ "<lambda>"))) (upd H c' (LamX.CodeO c' (X.env.qual ++ "<lambda>"))) L _ _ := Go.put (o := .tbl (ps ++ more)) aL (by rw [at1]; exact fun z => by cases z)
    have F1a : upd F c' (LamX.CodeO c' (X.env.qual ++ "<lambda>")) a = none := by rw [upd_ne nac]; exact Fa
    have s2 := s1.put (k := 0) (o := .tbl (ps ++ more)) (c' := tabC a (X.env.qual ++ "<lambda>")) ha F1a ⟨_, _, upd_same, Ex.refl _, rfl, ps ++ more, rfl, tri', fun p cv e => by
      rcases own' p cv e with z | z
      · obtain ⟨c2, e2, hc⟩ := own p cv z
        refine ⟨c2, e2, ?_⟩
        have hc := e0 _ _ hc
        rw [upd_ne (ne_of_none hc (sto.fnone nC))]
        exact hc
      · exact ⟨c', z, upd_same⟩⟩
    rw [list_set_same h0] at s2
    have nF2 : upd (upd H c' (LamX.CodeO c' (X.env.qual ++ "<lambda>"))) a (.tbl (ps ++ more)) f = none := by rw [upd_ne (Ne.symm naf), upd_ne nFc]; exact nF
    refine ⟨.ref f, _, J, rfl, hq _ _ h _ L _ _ ((g1.trans g2).trans (Go.new_ s2 nF2)) ⟨f, _, rfl, Ex.refl _, c', pm, ct, upd_same, ?_⟩ (s2.new_ nF2)⟩
    rw [upd_ne (Ne.symm nFc), upd_same]
end
end DL
end

section
set_option maxHeartbeats 4000000
namespace DL
open PySem PySem.Spec PyProof.Rows L2
/-! ### a lambda is called -/
/-- the values that φ tells are functions of this promise -/
def FnL (P : Program) (w : World) (K : PySem.W.Frag) (mg : Str → Option Value) (base : Heap) (k : Nat) (φ : Hp → Addr → Prop) (sp : Sp) : Prop :=
  ∀ F0 f, φ F0 f → ∃ fd ps, FnOk P w K mg base (L2.CX P w) k f fd ps (fun vs H Q E => Ex F0 H ∧ sp vs H Q E) ∧ Binds K fd ps [] ∧ ∀ H h, Ex F0 H → HOk P w H h → PySem.W.FnAt f h
section
variable {P : Program} {w : World} {K : PySem.W.Frag} {mg : Str → Option Value} {base : Heap} {q : Str} {pr : Arguments} {b : Expr} {sc : Scope} {N ps : List Str} {k n : Nat} {sp : Sp}
theorem lam_run {f c : Addr} {pm ct : Value} {F0 : Hp} (hf : F0 f = some (lamO f q pr b sc pm c ct)) (hc : F0 c = some (LamX.CodeO c q)) (S : FnScope N ps sc) (len : ∀ vs H Q E, sp vs H Q E → vs.length = ps.length)
    (body : ∀ (A : Around) (outer : List PySem.Env) (s : Shared) (H : Hp) (vs : List V) (Q : VK) (E : XK), Room k (A.deeper (envOfC q sc s.heap.objs.size f (.ref c))) → sp vs H Q E →
      ∃ t, PE (cxOf (L2.CX P w) P w K mg base N q sc f (.ref c) A outer s H E) b t ∧ t (L2.start N vs) H Q) :
    FnOk P w K mg base (L2.CX P w) (k + 1) f (PySem.W.kla_fn "<lambda>" q pr b sc [] pm (.ref c) ct) ps (fun vs H Q E => Ex F0 H ∧ sp vs H Q E) := by
  refine ⟨fun vs H Q E h => len vs H Q E h.2, fun A outer s H args us vs Q E hr e0 hb r h => ?_⟩
  obtain ⟨ex, hs⟩ := h
  have at_ := (e0.hok f _ (ex _ _ hf)).1
  obtain ⟨⟨oc, cs, t, z1, z2, z3⟩, _, _⟩ := e0.hok c _ (ex _ _ hc)
  have nl := e0.mod.nolimit.keeps fun d o e => (e0.bs d o e).1
  have kinds : ∀ y ∈ ps.zip us, sc.names.lookup y.1 = some .local ∨ (sc.names.lookup y.1 = some .cell ∧ ((cellsFrom (s.heap.objs.size + 1) sc.names []).lookup y.1).isSome = true) := by
    rintro ⟨x, v⟩ hy
    exact (S.par x (List.of_mem_zip hy).1).imp id fun z => ⟨z, PySem.W.cellsFrom_some _ _ _ (.inl z)⟩
  refine PySem.W.kla_callFunE hr.depth at_ rfl S.co S.gen rfl ⟨c, oc, cs, t, rfl, z1, z2, z3⟩ (hb _ _ _ _ ?_)
  refine wpAny_newFunctionEnv_cells S.kind kinds fun env he s1 x => ?_
  subst he
  refine ⟨nl.keeps x.toInCall.keep, PySem.W.kla_codeExpr ?_⟩
  obtain ⟨te, h1, h2⟩ := body A outer s H vs Q E (hr.deeper _) hs
  have I := inv_start (CX := L2.CX P w) (E := E) S hr.hd e0 (len vs H Q E hs) r x
  refine wpAny_mono (h1.run [] s1 (L2.start N vs) H Q I h2) ?_ fun _ _ z => z
  rintro v s' ⟨y, H', J, ry, hq⟩
  exact ⟨y, H', J.os, J.bare, J.base, J.hok, ry, hq⟩
/-- what is to be shown of a lambda's body -/
def LamOk (P : Program) (w : World) (K : PySem.W.Frag) (mg : Str → Option Value) (base : Heap) (N : List Str) (q : Str) (sc : Scope) (b : Expr) (k : Nat) (C : RE → Prop) : Prop :=
  ∀ (f : Addr) (cdv : Value) (A : Around) (outer : List PySem.Env) (s : Shared) (H : Hp) (E : XK), Room k (A.deeper (envOfC q sc s.heap.objs.size f cdv)) → Takes (bodyX P w K mg base N q sc f cdv A outer s H E) (WofE E) →
    ∃ r, JE (bodyX P w K mg base N q sc f cdv A outer s H E) (WofE E) b r ∧ C r
theorem up_lam {re : RE} {vs : List V} {H : Hp} {Q : VK} {E : XK} {W : WX} {D : Ends} {σ : L2.St} (h : upS K W (rRet re) D σ H) : upE K W re σ H D.rt := by
  obtain ⟨L, F, S, ds, O, env, sto, h, hn, hr, hb, hc, hx⟩ := h
  exact ⟨L, F, S, ds, O.rt, fun C S' => O.xc C ds S', env, sto, h, hr, hx.at env⟩
theorem lam_fn {pc : PC1} (S : FnScope N ps sc) (hn : ps.length = n + 1) (hb : ∀ (us : List Value) (pm cv ct : Value), us.length = ps.length → bindArgs (PySem.W.kla_fn "<lambda>" q pr b sc [] pm cv ct) ⟨us, []⟩ = pure (ps.zip us))
    (body : LamOk P w K mg base N q sc b k fun re => ∀ ds c q x, pc ds c q x → ds.length = n → okc c → rRet re (out1 q x) (startD N (.loc 0 :: ds)) [c]) : FnL P w K mg base (k + 1) (lamF q pr b sc) (sp1 K n pc) := by
  rintro F0 f ⟨c, pm, ct, hf, hc⟩
  refine ⟨_, ps, lam_run hf hc S (fun _ _ _ _ h => (len_sp1 h).trans hn.symm) fun A outer s H vs Q E hr hs => ?_, Binds.all fun us hl => hb us pm _ ct hl, fun H h ex hok => ⟨_, _, _, _, (hok f _ (ex _ _ hf)).1⟩⟩
  obtain ⟨re, h1, h2⟩ := body f (.ref c) A outer s H E hr (takes_of rfl rfl rfl rfl)
  exact ⟨_, h1, up_lam (vs := vs) (H := H) (Q := Q) (E := E) (up_sp1 h2 hs)⟩
end
section
variable {X : Cx} {W : WX} {a : Str} {i k n : Nat} {e : Expr} {es : List Expr} {rr : RA} {p pos : Pos}
theorem pe_callV {sp : Sp} {t : TA} {E : L2.St → XK} {φ : Hp → Addr → Prop} (G : FnL X.prog X.w X.K X.mg X.base k φ sp) (hr : Room k X.A) (hv : PE X (.Name a p) (tVar i)) (hx : ∀ σ, PassesAt (L2.CX X.prog X.w) X σ (E σ)) (ha : PA X (e :: es) t)
    (he : starEach (e :: es) X.env = (false, eval e X.env) :: starEach es X.env := by rfl) (hpl : (backTo pos (starEach es X.env)).any (·.1) = false := by rfl) :
    PE X (.Call (.Name a p) (e :: es) [] pos) (fun σ H Q => ∃ f F0, σ[i]? = some (some (.ref f)) ∧ Ex F0 H ∧ φ F0 f ∧ t σ H fun vs H1 => Ex F0 H1 ∧ sp vs H1 Q (E σ)) := by
  refine ⟨fun pins s σ H Q I h => ?_⟩
  obtain ⟨f, F0, hs, ex, hφ, h⟩ := h
  obtain ⟨fd, ps, F, hb, hat⟩ := G F0 f hφ
  refine wpAny_Call_Name_kw (thn (hv.run pins s σ H (fun v H1 => v = .ref f ∧ H1 = H) I ⟨.ref f, hs, rfl, rfl⟩) fun u s1 ⟨v, H1, I1, r1, ev, eH⟩ => ?_)
  subst ev eH
  obtain rfl : u = Value.ref f := r1
  refine PySem.W.callWith_F (hat _ _ ex I1.hok) (thn (ha.run pos pins s1 σ H1 _ I1 h) fun us s2 ⟨vs, H2, I2, r2, ex2, hq⟩ => ⟨hat _ _ ex2 I2.hok, ?_⟩) he hpl
  exact run_fnS F hr hb (hx σ) I2 r2 ⟨ex2, hq⟩
/-- x(..), x a name that holds such a lambda -/
def rCallV (i : Nat) (φ : Hp → Addr → Prop) (n : Nat) (pc : PC1) (rr : RA) : RE := fun ds S q x => ds[i]? = some (some (.fn φ)) ∧ rCall1 n pc rr ds S q x
theorem je_callV {φ : Hp → Addr → Prop} {pc : PC1} (G : FnL X.prog X.w X.K X.mg X.base k φ (sp1 X.K n pc)) (hr : Room k X.A) (tk : Takes X W) (hv : PE X (.Name a p) (tVar i)) (ha : JA X W (e :: es) rr)
    (he : starEach (e :: es) X.env = (false, eval e X.env) :: starEach es X.env := by rfl) (hpl : (backTo pos (starEach es X.env)).any (·.1) = false := by rfl) : JE X W (.Call (.Name a p) (e :: es) [] pos) (rCallV i φ n pc rr) := by
  refine pe_weak (pe_callV G hr hv (fun σ => passAt tk σ) ha he hpl) fun σ H Q ⟨L, F, S, ds, q, x, env, sto, ⟨hi, h⟩, hq, hx⟩ => ?_
  obtain ⟨v, hσ, f, F0, rfl, e0, hφ⟩ := env.get hi
  exact ⟨f, F0, hσ, fun d o z => sto.ex _ _ (e0 _ _ z), hφ, upA.bind env sto h hx fun d S1 v L1 F1 H1 h1 g1 env1 i1 s1 =>
    ⟨fun d o z => s1.ex _ _ (g1.ff _ _ (e0 _ _ z)), sp1_up h1 i1 s1 (hq.on g1) (hx.on g1)⟩⟩
end
end DL
end

section
set_option maxHeartbeats 4000000
namespace DL
open PySem PySem.Spec PyProof.Rows L2
/-! ### with .. as y: return e, over a class with __enter__ and __exit__ of its own -/
section
variable {X : Cx} {ctx e : Expr} {y : Str} {py rp pos : Pos} {te tb : TE} {i ke kx : Nat} {C fe fx : Addr} {fde fdx : FuncData} {pse psx : List Str} {spe spx : Sp}
theorem ps_withRet (he : PE X ctx te) (hg : PG X.nox (.Name y py) (gName i)) (hb : PE X.nox e tb) (me : Meth X.K C "__enter__" fe) (mx : Meth X.K C "__exit__" fx)
    (F1 : FnOk X.prog X.w X.K X.mg X.base (L2.CX X.prog X.w) ke fe fde pse spe) (F2 : FnOk X.prog X.w X.K X.mg X.base (L2.CX X.prog X.w) kx fx fdx psx spx) (r1 : Room ke X.A) (r2 : Room kx X.A) (b1 : Binds X.K fde pse []) (b2 : Binds X.K fdx psx [])
    (hx : Passes (L2.CX X.prog X.w) X (fun _ _ _ => False)) :
    PS X (.With [⟨ctx, some (.Name y py)⟩] [.Return (some e) rp] pos) (fun D σ H => te σ H fun v H1 => ∃ x dx fs, v = .ref x ∧ H1 x = some (.ins C dx fs) ∧
      spe [.ref x] H1 (fun v2 H2 => gName i v2 σ H2 fun σ2 H3 => tb σ2 H3 fun v3 H4 => spx [.ref x, .non, .non, .non] H4 (fun _ H5 => D.rt v3 H5) fun _ _ _ => False) fun _ _ _ => False) := by
  refine ⟨fun pins s σ H D I h => ?_⟩
  refine PySem.W.kw_execN (thn (he.run pins s σ H _ I h) fun u s1 ⟨v, H1, I1, ru, x, dx, fs, ev, ea, q1⟩ => ?_)
  subst ev
  obtain rfl : u = Value.ref x := ru
  obtain ⟨mA, O, _⟩ := ins_get I1.hok ea
  obtain ⟨od, J, _⟩ := O.look
  refine PySem.W.kw_core (b := assign (.Name y py) X.env) I1.kIn J me.at_ me.fn mx.at_ mx.fn ?_
  refine thn (run_fn (us := [.ref x]) (vs := [.ref x]) F1 r1 b1 .nil hx I1 (.cons rfl .nil) q1) fun u2 s2 ⟨v2, H2, I2, ru2, q2⟩ => ?_
  refine wpAny_mono (hg.run pins s2 σ H2 v2 u2 _ (I2.wish _) ru2 q2) (fun _ s3 ⟨σ3, H3, I3, q3⟩ => ?_) fun _ _ z => z.elim
  refine wpAny_execs_cons (wpAny_Return_some (wpAny_mono (hb.run pins s3 σ3 H3 _ I3 q3) (fun u4 s4 ⟨v4, H4, I4, ru4, q4⟩ => ?_) fun _ _ z => False.elim z))
  exact wpAny_mono (run_fn (us := [.ref x, .none, .none, .none]) (vs := [.ref x, .non, .non, .non]) F2 r2 b2 .nil hx I4.unwish (.cons rfl (.cons rfl (.cons rfl (.cons rfl .nil)))) q4) (fun _ s5 ⟨v5, H5, I5, _, q5⟩ => ⟨v4, σ3, H5, I5, ru4, q5⟩) fun _ _ z => z
end
end DL
end

section
set_option maxHeartbeats 4000000
namespace DL
open PySem L2
/-! ### a def that gives one new cell -/
def spN (K : PySem.W.Frag) (n : Nat) (pc : List D → (Cell → Prop) → Prop) : Sp := fun vs H Q _ => ∃ F ds q, Ex F H ∧ IsL K F ds vs ∧ ds.length = n ∧ pc ds q ∧ ∀ c, q c → ∀ x F' H', Go [] F H [x] F' H' → Sto K [x] F' H' [c] → okc c → Q (.ref x) H'
def outN (q : Cell → Prop) : Out := { nx := fun _ _ => False, rt := fun d S => ∃ k c, d = .loc k ∧ S[k]? = some c ∧ okc c ∧ q c, bk := fun _ _ => False, ct := fun _ _ => False, xc := fun _ _ _ => False }
section
variable {K : PySem.W.Frag} {N : List Str} {n : Nat} {r : RS} {vs : List V} {H : Hp} {Q : VK} {E : XK}
theorem okc_ne {c : Cell} (h : okc c) : c ≠ .dead := fun z => by subst z; exact h
theorem okc_un {L : List Addr} {F H : Hp} {c : Cell} {a : Addr} (h : okc c) (i : CellIs K L F H c a) : CellIs K [] F H c a := i.un (by
  cases c with
  | lst es => exact h
  | ins c es => exact h
  | dead => exact h.elim
  | ext ψ => trivial)
theorem len_spN {pc : List D → (Cell → Prop) → Prop} (h : spN K n pc vs H Q E) : vs.length = n := by
  obtain ⟨F, ds, q, ex, il, hl, _⟩ := h
  rw [il.length, hl]
theorem up_spN {pc : List D → (Cell → Prop) → Prop} (h : ∀ ds q, pc ds q → ds.length = n → r (outN q) (startD N ds) []) (hs : spN K n pc vs H Q E) :
    upS K (fun cls d _ H => E cls d H) r { nx := fun _ H' => Q .non H', rt := Q } (L2.start N vs) H := by
  obtain ⟨F, ds, q, ex, il, hl, hp, hq⟩ := hs
  refine ⟨[], F, [], startD N ds, _, env_start (.of il), sto0 ex, h ds q hp hl, fun _ _ z => z.elim, fun d S' h' v L' F' H' g i s => ?_, fun _ _ z => z.elim, fun _ _ z => z.elim, fun _ _ _ z => z.elim⟩
  obtain ⟨k, c, rfl, hk, ok, hc⟩ := h'
  obtain ⟨x, hx, rfl⟩ := i
  obtain ⟨c1, c2⟩ := s.cel k c x hk hx (okc_ne ok)
  obtain ⟨M, eM, nM⟩ := g.pre
  have xM : x ∈ M := by rw [List.nil_append] at eM; rw [← eM]; exact List.mem_of_getElem? hx
  exact hq c hc x F' H' ⟨⟨[x], rfl, fun a ha => by rw [List.mem_singleton.mp ha]; exact nM x xM⟩, g.ff, fun b o e _ => g.keep b o e (by simp), g.there, fun b hb => by
    rcases g.new b hb with z | z | z
    · exact .inl z
    · exact .inr (.inl z)
    · simp at z⟩ ⟨s.ex, rfl, by simp, fun a ha => by rw [List.mem_singleton.mp ha]; exact s.al x (List.mem_of_getElem? hx), fun j c' a h1 h2 h3 => by
      cases j with
      | zero => simp at h1 h2; subst h1 h2; exact ⟨c1, (okc_un ok c2).up⟩
      | succ j => simp at h1⟩ ok
/-- a new cell behind the others -/
theorem grow {L : List Addr} {F F' H' : Hp} {S : List Cell} {c : Cell} {x : Addr} (s : Sto K L F H S) (g : Go [] F H [x] F' H') (s' : Sto K [x] F' H' [c]) (ok : okc c) : Go L F H (L ++ [x]) F' H' ∧ Sto K (L ++ [x]) F' H' (S ++ [c]) := by
  obtain ⟨M, eM, nM⟩ := g.pre
  have nx : H x = none := nM x (by rw [List.nil_append] at eM; rw [← eM]; exact .head _)
  have same : ∀ a ∈ L, H' a = H a := fun a ha => by
    cases z : H a with
    | none => exact absurd z (s.al a ha)
    | some o => exact g.keep a o z (by simp)
  have gg : Go L F H (L ++ [x]) F' H' := ⟨⟨[x], rfl, fun a ha => by rw [List.mem_singleton.mp ha]; exact nx⟩, g.ff, fun b o e _ => g.keep b o e (by simp), g.there, fun b hb => by
    rcases g.new b hb with z | z | z
    · exact .inl z
    · exact .inr (.inl z)
    · simp at z⟩
  have xL : x ∉ L := fun z => s.al x z nx
  refine ⟨gg, s'.ex, by simp [s.len], by
    rw [List.nodup_append]
    exact ⟨s.nd, by simp, fun a ha b hb e => xL (by rw [← List.mem_singleton.mp hb, ← e]; exact ha)⟩, fun a ha => ?_, fun j c' a h1 h2 h3 => ?_⟩
  · rcases List.mem_append.mp ha with z | z
    · rw [same a z]; exact s.al a z
    · exact s'.al a z
  · by_cases hj : j < L.length
    · have hj' : j < S.length := by rw [← s.len]; exact hj
      rw [List.getElem?_append_left hj'] at h1
      rw [List.getElem?_append_left hj] at h2
      obtain ⟨z1, z2⟩ := s.cel j c' a h1 h2 h3
      have aL : a ∈ L := List.mem_of_getElem? h2
      refine ⟨?_, z2.keep gg (same a aL)⟩
      cases z : F' a with
      | none => rfl
      | some o =>
        rcases g.new a (by rw [z]; exact fun y => by cases y) with y | y | y
        · exact absurd z1 y
        · exact absurd y (s.al a aL)
        · simp at y
    · have hjs : S.length ≤ j := by rw [← s.len]; omega
      rw [List.getElem?_append_right hjs] at h1
      rw [List.getElem?_append_right (by omega), s.len] at h2
      obtain ⟨z1, z2⟩ := s'.cel _ c' a h1 h2 h3
      refine ⟨z1, ?_⟩
      have : c' = c := by
        have := List.mem_of_getElem? h1
        exact List.mem_singleton.mp this
      subst this
      exact (okc_un ok z2).up
end
section
variable {X : Cx} {W : WX} {x : Str} {k n : Nat} {e : Expr} {es : List Expr} {rr : RA} {p pos : Pos}
def rCallN (n : Nat) (pc : List D → (Cell → Prop) → Prop) (rr : RA) : RE := fun ds S q x => rr ds S (fun es S1 => noLoc es = true ∧ es.length = n ∧ pc es fun c => q (.loc S1.length) (S1 ++ [c])) x
theorem je_callN {pc : List D → (Cell → Prop) → Prop} (G : FnG X.prog X.w X.K X.mg X.base x k (spN X.K n pc)) (hr : Room k X.A) (tk : Takes X W) (hg : Gl X x) (ha : JA X W (e :: es) rr) (hdb : (x == ("__debug__" : Str)) = false := by decide)
    (he : starEach (e :: es) X.env = (false, eval e X.env) :: starEach es X.env := by rfl) (hpl : (backTo pos (starEach es X.env)).any (·.1) = false := by rfl) : JE X W (.Call (.Name x p) (e :: es) [] pos) (rCallN n pc rr) := by
  obtain ⟨f, fd, ps, F, hm, hk, hb⟩ := G
  refine pe_weak (pe_callS F hr hg hm hk hb (fun σ => passAt tk σ) ha hdb he hpl) fun σ H Q ⟨L, F, S, ds, q, x, env, sto, h, hq, hx⟩ => ?_
  refine upA.bind env sto h hx fun es S1 vs L1 F1 H1 h1 g1 env1 i1 s1 => ?_
  obtain ⟨nl, ln, hp⟩ := h1
  refine ⟨F1, es, _, s1.ex, i1.un nl, ln, hp, fun c hc a F' H' g s' ok => ?_⟩
  obtain ⟨g2, s2⟩ := grow s1 g s' ok
  exact hq _ _ hc _ _ F' H' (g1.trans g2) ⟨a, by rw [← s1.len, List.getElem?_append_right (Nat.le_refl _)]; simp, rfl⟩ s2
end
/-! ### a def that gives back its first cell -/
def outB (m : Nat) (q : D → List Cell → Prop) : Out := { nx := fun _ _ => False, rt := fun d S => m ≤ S.length ∧ allC m (S.take m) ∧ 0 < m ∧ d = .loc 0 ∧ q d (S.take m), bk := fun _ _ => False, ct := fun _ _ => False, xc := fun _ _ _ => False }
theorem up_spB {K : PySem.W.Frag} {N : List Str} {n m : Nat} {r : RS} {vs : List V} {H : Hp} {Q : VK} {E : XK} {pc : PM} (h : ∀ ds S q, pc ds S q → ds.length = n → S.length = m → r (outB m q) (startD N ds) S) (hs : spM K n m pc vs H Q E) :
    upS K (fun cls d _ H => E cls d H) r { nx := fun _ H' => Q .non H', rt := Q } (L2.start N vs) H := by
  obtain ⟨L, F, S, ds, q, s, hm, il, hl, hp, hq⟩ := hs
  have lm : L.length = m := s.len.trans hm
  refine ⟨L, F, S, startD N ds, _, env_start il, s, h ds S q hp hl hm, fun _ _ z => z.elim, fun d S' h' v L' F' H' g i s' => ?_, fun _ _ z => z.elim, fun _ _ z => z.elim, fun _ _ _ z => z.elim⟩
  obtain ⟨h0, h1, m0, rfl, h2⟩ := h'
  obtain ⟨M, rfl, nM⟩ := g.pre
  subst lm
  obtain ⟨a, ha, rfl⟩ := i
  rw [List.getElem?_append_left m0] at ha
  exact hq _ _ h2 _ F' H' ⟨⟨[], by simp, by simp⟩, g.ff, g.keep, g.there, g.new⟩ (s'.cut h1 h0) ⟨a, ha, rfl⟩
/-! ### with self.trial() as desk: return action(desk) -/
abbrev cTrialN : List D → (Cell → Prop) → Prop := fun ds q => ∃ a, ds = [.adr a] ∧ q (.ins .trial [.adr a, .non])
def rTried (φ : Hp → Addr → Prop) (pa : PC1) (pe px : PM) : RS := fun D ds S => ∃ xs p2, ds = [some (.loc 0), some (.fn φ), p2] ∧ S = [.ins .desk xs] ∧ noLoc xs = true ∧
  pe [.loc 1] [.ins .desk xs, .ins .trial [.loc 0, .non]] fun d S1 => d = .loc 0 ∧ ∃ ys t, S1 = [.ins .desk ys, t] ∧ noLoc ys = true ∧
    pa [] (.ins .desk ys) (fun d2 c2 => ∃ b, d2 = .bl b ∧ px [.loc 1, .non, .non, .non] [c2, t] fun _ S3 => D.rt (.bl b) S3) fun _ _ => False
section
variable {X : Cx} {W : WX} {k1 k2 k3 k4 : Nat} {s1 s2 s3 s4 : Str} {p1 p2 p3 p4 p5 p6 p7 p8 pos : Pos} {φ : Hp → Addr → Prop} {pa : PC1} {pe px : PM}
theorem js_tried {pl : Sem Bool} (G1 : FnM X.prog X.w X.K X.mg X.base Cl.desk.adr "trial" k1 (spN X.K 1 cTrialN)) (G2 : FnM X.prog X.w X.K X.mg X.base Cl.trial.adr "__enter__" k2 (spM X.K 1 2 pe)) (G3 : FnM X.prog X.w X.K X.mg X.base Cl.trial.adr "__exit__" k3 (spM X.K 4 2 px))
    (mono : ∀ es c q q' x, (∀ d c, q d c → q' d c) → pa es c q x → pa es c q' x) (G4 : FnL X.prog X.w X.K X.mg X.base k4 φ (sp1 X.K 0 pa)) (r1 : Room k1 X.A) (r2 : Room k2 X.A) (r3 : Room k3 X.A) (r4 : Room k4 X.A) (v0 : PE X (.Name s1 p1) (tVar 0)) (v1 : PE X.nox (.Name s2 p5) (tVar 1)) (v2 : PE X.nox (.Name s3 p6) (tVar 2))
    (hg : PG X.nox (.Name s4 p4) (gName 2))
    (ht : eval (.Call (.Attribute (.Name s1 p1) "trial" p2) [] [] p3) X.env = (do
      let v0 ← eval (.Name s1 p1) X.env; standAt p2.atName
      let (f, first) ← holding [v0] (getMethod v0 "trial" pl)
      callWith p3 f first (backTo p3 (starEach [] X.env)) (backToKw p3 (keywordEach [] X.env))) := by rfl) 
    (he : starEach [.Name s3 p6] X.env = (false, eval (.Name s3 p6) X.env) :: starEach [] X.env := by rfl) (hpl : (backTo p7 (starEach [] X.env)).any (·.1) = false := by rfl) :
    JS X W (.With [⟨.Call (.Attribute (.Name s1 p1) "trial" p2) [] [] p3, some (.Name s4 p4)⟩] [.Return (some (.Call (.Name s2 p5) [.Name s3 p6] [] p7)) p8] pos) (rTried φ pa pe px) := by
  obtain ⟨f1, fd1, ps1, F1, c1, m1, b1⟩ := G1
  obtain ⟨f2, fd2, ps2, F2, c2, m2, b2⟩ := G2
  obtain ⟨f3, fd3, ps3, F3, c3, m3, b3⟩ := G3
  have hb : JE X.nox W0 (.Call (.Name s2 p5) [.Name s3 p6] [] p7) (rCallV 1 φ 0 pa (rCons (rVar 2) rNil)) := je_callV (X := X.nox) G4 r4 LamX.takes0 v1 (ja_cons (je_var v2) ja_nil) he hpl
  refine ps_weak (ps_withRet (pe_meth0 (dvs := []) (ds := []) (E := E0) v0 c1 m1 F1 r1 b1 .nil passL ht) hg hb m2 m3 F2 F3 r2 r3 b2 b3 passL) fun D σ H ⟨L, F, S, ds, O, env, sto, h, hn, hrt, hbk, hct, hxc⟩ => ?_
  obtain ⟨xs, q2, rfl, rfl, nl, h⟩ := h
  obtain ⟨v, hσ, a, ha, rfl⟩ := env.get (i := 0) rfl
  obtain ⟨Fa, dx, ws, hcell, iw⟩ := sto.cel 0 _ a rfl ha (fun z => by cases z)
  have lL : L.length = 1 := sto.len
  refine ⟨.ref a, hσ, a, dx, _, rfl, hcell, zlook0 (by decide), ?_⟩
  refine ⟨F, [.adr a], fun c => c = .ins .trial [.adr a, .non], sto.ex, ⟨.ref a, [], rfl, rfl, rfl⟩, rfl, ⟨a, rfl, rfl⟩, fun c hc x F1 H1 g s' ok => ?_⟩
  subst hc
  obtain ⟨g2, t2⟩ := grow sto g s' ok
  have hx1 : (L ++ [x])[1]? = some x := by rw [List.getElem?_append_right (by omega), lL]; rfl
  have ha1 : (L ++ [x])[0]? = some a := getElem?_pre ha
  obtain ⟨Fx, dx2, ws2, hcx, w1, wr, rfl, e1, w2, wr2, rfl, e2, e3⟩ := t2.cel 1 _ x rfl hx1 (fun z => by cases z)
  obtain rfl : w1 = V.ref a := e1
  obtain rfl : w2 = V.non := e2
  obtain rfl : wr2 = [] := e3
  have t3 := t2.say (c := .ins .trial [.loc 0, .non]) hx1 Fx ⟨dx2, _, hcx, .ref a, _, rfl, ⟨a, ha1, rfl⟩, .non, [], rfl, rfl, rfl⟩
  refine ⟨x, dx2, _, rfl, hcx, ?_⟩
  refine spM_up (es := [.loc 1]) rfl rfl h ⟨.ref x, [], rfl, ⟨x, hx1, rfl⟩, rfl⟩ t3 fun d S1 ⟨ed, ys, t, eS, nys, hp⟩ v L2 F2 H2 g3 i3 t4 => ?_
  subst ed eS
  have i4 : IsD X.K L2 F2 (.loc 0) v := i3
  obtain ⟨a2, ha2, rfl⟩ := i3
  have env2 := Env.set i4 2 ((env.mono g2).mono g3)
  have hx2 : L2[1]? = some x := by
    obtain ⟨M, rfl, _⟩ := g3.pre
    exact getElem?_pre hx1
  refine ⟨L2, F2, _, _, fun d S => ∃ c2 b, d = .bl b ∧ S = [c2, t] ∧ px [.loc 1, .non, .non, .non] [c2, t] fun _ S3 => O.rt (.bl b) S3, fun _ _ => False, env2, t4, ⟨rfl, nys, mono _ _ _ _ _ (fun d c2 ⟨b, eb, hb⟩ => ⟨c2, b, eb, rfl, hb⟩) hp⟩, fun d S' hS v3 L3 F3 H3 g4 i5 t5 => ?_, fun _ _ z => z.elim⟩
  obtain ⟨c2, b, rfl, rfl, hpx⟩ := hS
  obtain rfl : v3 = V.bl b := i5
  have hx3 : L3[1]? = some x := by
    obtain ⟨M, rfl, _⟩ := g4.pre
    exact getElem?_pre hx2
  exact spM_up (es := [.loc 1, .non, .non, .non]) rfl rfl hpx ⟨.ref x, _, rfl, ⟨x, hx3, rfl⟩, .non, _, rfl, rfl, .non, _, rfl, rfl, .non, _, rfl, rfl, rfl⟩ t5 fun _ S3 hS _ L4 F4 H4 g6 _ t6 => hrt _ S3 hS (.bl b) L4 F4 H4 (((g2.trans g3).trans g4).trans g6) rfl t6
end
end DL
end

section
set_option maxHeartbeats 4000000
namespace DL
open PySem L2
section
variable {X : Cx} {W : WX} {x : Str} {k n m : Nat} {e : Expr} {es : List Expr} {rr : RA} {re : RE} {p pos : Pos}
/-! ### f(..), the whole store handed on -/
def rCallM (n m : Nat) (pc : PM) (rr : RA) : RE := fun ds S q x => rr ds S (fun es S1 => es.length = n ∧ S1.length = m ∧ pc es S1 q) x
theorem je_callM {pc : PM} (G : FnG X.prog X.w X.K X.mg X.base x k (spM X.K n m pc)) (hr : Room k X.A) (tk : Takes X W) (hg : Gl X x) (ha : JA X W (e :: es) rr) (hdb : (x == ("__debug__" : Str)) = false := by decide)
    (he : starEach (e :: es) X.env = (false, eval e X.env) :: starEach es X.env := by rfl) (hpl : (backTo pos (starEach es X.env)).any (·.1) = false := by rfl) : JE X W (.Call (.Name x p) (e :: es) [] pos) (rCallM n m pc rr) := by
  obtain ⟨f, fd, ps, F, hm, hk, hb⟩ := G
  refine pe_weak (pe_callS F hr hg hm hk hb (fun σ => passAt tk σ) ha hdb he hpl) fun σ H Q ⟨L, F, S, ds, q, x, env, sto, h, hq, hx⟩ => ?_
  exact upA.bind env sto h hx fun es S1 vs L1 F1 H1 h1 g1 env1 i1 s1 => spM_up h1.1 h1.2.1 h1.2.2 i1 s1 (hq.on g1)
/-! ### cells made within an expression are forgotten at its end -/
def rScopeE (re : RE) : RE := fun ds S q x => re ds S (fun d S1 => S.length ≤ S1.length ∧ allC S.length (S1.take S.length) ∧ noLoc [d] = true ∧ q d (S1.take S.length)) fun _ _ => False
theorem je_scopeE (h : JE X W e re) : JE X W e (rScopeE re) := by
  refine pe_weak h fun σ H Q ⟨L, F, S, ds, q, x, env, sto, h, hq, hx⟩ => ⟨L, F, S, ds, _, _, env, sto, h, fun d S1 ⟨h1, h2, h3, h4⟩ v L1 F1 H1 g i s => ?_, fun _ _ z => z.elim⟩
  obtain ⟨M, rfl, _⟩ := g.pre
  rw [← sto.len] at h1 h2 h4
  exact hq d _ h4 v L F1 H1 ⟨⟨[], by simp, by simp⟩, g.ff, g.keep, g.there, g.new⟩ (.of (i.un h3)) (s.cut h2 h1)
end
/-! ### a def whose code object is told -/
section
variable {P : Program} {w : World} {K : PySem.W.Frag} {mg : Str → Option Value} {base : Heap} {x qual : Str} {params : Arguments} {body : List Stmt} {scope : Scope} {f : Addr} {fd : FuncData} {N ps : List Str} {k n : Nat}
def BodyAt (P : Program) (w : World) (K : PySem.W.Frag) (mg : Str → Option Value) (base : Heap) (N : List Str) (qual : Str) (scope : Scope) (body : List Stmt) (f : Addr) (cdv : Value) (k : Nat) (C : RS → Prop) : Prop :=
  ∀ (A : Around) (outer : List PySem.Env) (s : Shared) (H : Hp) (E : XK), Room k (A.deeper (PyProof.Rows.envOfC qual scope s.heap.objs.size f cdv)) →
    Takes (bodyX P w K mg base N qual scope f cdv A outer s H E) (WofE E) → PassesOwn (model P w) (bodyX P w K mg base N qual scope f cdv A outer s H E).A (bodyX P w K mg base N qual scope f cdv A outer s H E).env (bodyX P w K mg base N qual scope f cdv A outer s H E).xe →
    ∃ r, JB (bodyX P w K mg base N qual scope f cdv A outer s H E) (WofE E) body r ∧ C r
theorem fn_at {sp : Sp} {C : RS → Prop} {c : Value} (F : FunD K x qual params body scope [] [] f fd) (hc : fd.code = c) (S : FnScope N ps scope) (len : ∀ vs H Q E, sp vs H Q E → vs.length = ps.length) (b : BodyAt P w K mg base N qual scope body f c k C)
    (up : ∀ r, C r → ∀ vs H Q E, sp vs H Q E → upS K (WofE E) r { nx := fun _ H' => Q .non H', rt := Q } (L2.start N vs) H) : FnOk P w K mg base (L2.CX P w) (k + 1) f fd ps sp := by
  obtain ⟨oc, od, dV, kV, doc, pm, an, cdv, ct, osl, rfl, lk, hcd, _, _⟩ := F.ex
  obtain rfl : cdv = c := hc
  refine fn_of lk hcd S len fun A outer s H vs Q E hr hs => ?_
  obtain ⟨r, h1, h2⟩ := b A outer s H E hr (takes_of rfl rfl rfl rfl) (passes_of rfl)
  exact ⟨_, h1, up r h2 vs H Q E hs⟩
end
end DL
end

section
set_option maxHeartbeats 4000000
namespace SC
open PySem L2 DL
/-- what the top has left -/
structure Tx (K : PySem.W.Frag) (mg : Str → Option Value) : Prop where
  f : ∀ (i : Nat) (d : FnRec), fnTab[i]? = some d → ∃ fd, FunD K d.nm d.qual (defArgs d.st) (defBody d.st) (defScope d.st) [] [] d.adr fd
  g : ∀ (i : Nat) (d : FnRec), fnTab[i]? = some d → d.cls = none → mg d.nm = some (.ref d.adr)
  cf : ClF K
  b_len : mg "len" = none
  b_abs : mg "abs" = none
  b_sum : mg "sum" = none
  b_all : mg "all" = none
  b_divmod : mg "divmod" = none
  b_int : mg "int" = none
  b_list : mg "list" = none
  b_tuple : mg "tuple" = none
  b_str : mg "str" = none
  b_min : mg "min" = none
  b_max : mg "max" = none
  b_isinstance : mg "isinstance" = none
  b_bool : mg "bool" = none
  b_range : mg "range" = none
  b_zip : mg "zip" = none
  b_enumerate : mg "enumerate" = none
  MOST_OUTCOMES : ∃ t, mg "MOST_OUTCOMES" = some (.int 6 t)
  MOST_LISTED : ∃ t, mg "MOST_LISTED" = some (.int 5 t)
  MOST_NUMBER : ∃ t, mg "MOST_NUMBER" = some (.int 1000 t)
  MOST_QUOTES : ∃ t, mg "MOST_QUOTES" = some (.int 32 t)
  MOST_TOP : ∃ t, mg "MOST_TOP" = some (.int 1000000000 t)
  MOST_BOTTOM : ∃ t, mg "MOST_BOTTOM" = some (.int 1000000 t)
  MOST_PRICE_TOP : ∃ t, mg "MOST_PRICE_TOP" = some (.int 1000000 t)
  MOST_PRICE_BOTTOM : ∃ t, mg "MOST_PRICE_BOTTOM" = some (.int 1000 t)
  g_Answer : mg "Answer" = some (.ref 412)
  g_Table : mg "Table" = some (.ref 476)
  g_Book : mg "Book" = some (.ref 611)
  g_Former : mg "Former" = some (.ref 848)
  g_Trial : mg "Trial" = some (.ref 883)
  g_Desk : mg "Desk" = some (.ref 1003)
  g_NotSound : mg "NotSound" = some (.ref 221)
  g_TooGreat : mg "TooGreat" = some (.ref 252)
  k_Answer : Mk K 412 409
  k_Table : Mk K 476 428
  k_Book : Mk K 611 549
  k_Former : Mk K 848 845
  k_Trial : Mk K 883 866
  k_Desk : Mk K 1003 901
  m_Table_entering : Meth K 476 "entering" 435
  m_Table_leaving : Meth K 476 "leaving" 442
  m_Table_is_ahead : Meth K 476 "is_ahead" 449
  m_Table_turn : Meth K 476 "turn" 454
  m_Table_numbers_now : Meth K 476 "numbers_now" 461
  m_Table_way_of : Meth K 476 "way_of" 468
  m_Table_multiples_now : Meth K 476 "multiples_now" 473
  m_Book_with_quote : Meth K 611 "with_quote" 580
  m_Trial_enter : Meth K 883 "__enter__" 873
  m_Trial_exit : Meth K 883 "__exit__" 880
  m_Desk_put : Meth K 1003 "put" 908
  m_Desk_quote : Meth K 1003 "quote" 939
  m_Desk_drop : Meth K 1003 "drop" 946
  m_Desk_raise_to : Meth K 1003 "raise_to" 953
  m_Desk_tighten : Meth K 1003 "tighten" 958
  m_Desk_news : Meth K 1003 "news" 965
  m_Desk_least : Meth K 1003 "least" 972
  m_Desk_greatest : Meth K 1003 "greatest" 979
  m_Desk_undo : Meth K 1003 "undo" 986
  m_Desk_trial : Meth K 1003 "trial" 993
  m_Desk_tried : Meth K 1003 "tried" 1000
  x_NotSound : Xc0 K mg "NotSound" 221
  bk : BkF K 594
  bn : ∀ f, BkF K f → BkN K f
  p_Book_outcomes : PropOf K 611 "outcomes" 565 564
  p_Book_quotes : PropOf K 611 "quotes" 573 572
  p_Desk_book : PropOf K 1003 "book" 916 915
  p_Desk_is_sound : PropOf K 1003 "is_sound" 924 923
  p_Desk_changes : PropOf K 1003 "changes" 932 931
section
variable {P : Program} {w : World} {K : PySem.W.Frag} {mg : Str → Option Value} {base : Heap} {d : FnRec} {N ps : List Str} {k n : Nat}
def BindOk (d : FnRec) (ps : List Str) : Prop := ∀ (kV doc pm : Value) (an : Option Addr) (cdv ct : Value) (us : List Value), us.length = ps.length →
  bindArgs (PySem.W.fnOf d.nm d.qual (defArgs d.st) (defBody d.st) (defScope d.st) .none kV doc pm an cdv ct) ⟨us, []⟩ = pure (ps.zip us)
theorem bind0 {ps : List Str} (hp : ps.length = 0) (h : ∀ (kV doc pm : Value) (an : Option Addr) (cdv ct : Value), bindArgs (PySem.W.fnOf d.nm d.qual (defArgs d.st) (defBody d.st) (defScope d.st) .none kV doc pm an cdv ct) ⟨[], []⟩ = pure (ps.zip [])) : BindOk d ps := by
  intro kV doc pm an cdv ct us hl
  rw [hp] at hl
  match us, hl with
  | [], _ => exact h kV doc pm an cdv ct
theorem bind1 {ps : List Str} (hp : ps.length = 1) (h : ∀ (kV doc pm : Value) (an : Option Addr) (cdv ct : Value) (a : Value), bindArgs (PySem.W.fnOf d.nm d.qual (defArgs d.st) (defBody d.st) (defScope d.st) .none kV doc pm an cdv ct) ⟨[a], []⟩ = pure (ps.zip [a])) : BindOk d ps := by
  intro kV doc pm an cdv ct us hl
  rw [hp] at hl
  match us, hl with
  | [a], _ => exact h kV doc pm an cdv ct a
theorem bind2 {ps : List Str} (hp : ps.length = 2) (h : ∀ (kV doc pm : Value) (an : Option Addr) (cdv ct : Value) (a b : Value), bindArgs (PySem.W.fnOf d.nm d.qual (defArgs d.st) (defBody d.st) (defScope d.st) .none kV doc pm an cdv ct) ⟨[a, b], []⟩ = pure (ps.zip [a, b])) : BindOk d ps := by
  intro kV doc pm an cdv ct us hl
  rw [hp] at hl
  match us, hl with
  | [a, b], _ => exact h kV doc pm an cdv ct a b
theorem bind3 {ps : List Str} (hp : ps.length = 3) (h : ∀ (kV doc pm : Value) (an : Option Addr) (cdv ct : Value) (a b c : Value), bindArgs (PySem.W.fnOf d.nm d.qual (defArgs d.st) (defBody d.st) (defScope d.st) .none kV doc pm an cdv ct) ⟨[a, b, c], []⟩ = pure (ps.zip [a, b, c])) : BindOk d ps := by
  intro kV doc pm an cdv ct us hl
  rw [hp] at hl
  match us, hl with
  | [a, b, c], _ => exact h kV doc pm an cdv ct a b c
theorem bind4 {ps : List Str} (hp : ps.length = 4) (h : ∀ (kV doc pm : Value) (an : Option Addr) (cdv ct : Value) (a b c e : Value), bindArgs (PySem.W.fnOf d.nm d.qual (defArgs d.st) (defBody d.st) (defScope d.st) .none kV doc pm an cdv ct) ⟨[a, b, c, e], []⟩ = pure (ps.zip [a, b, c, e])) : BindOk d ps := by
  intro kV doc pm an cdv ct us hl
  rw [hp] at hl
  match us, hl with
  | [a, b, c, e], _ => exact h kV doc pm an cdv ct a b c e
theorem bind5 {ps : List Str} (hp : ps.length = 5) (h : ∀ (kV doc pm : Value) (an : Option Addr) (cdv ct : Value) (a b c e f : Value), bindArgs (PySem.W.fnOf d.nm d.qual (defArgs d.st) (defBody d.st) (defScope d.st) .none kV doc pm an cdv ct) ⟨[a, b, c, e, f], []⟩ = pure (ps.zip [a, b, c, e, f])) : BindOk d ps := by
  intro kV doc pm an cdv ct us hl
  rw [hp] at hl
  match us, hl with
  | [a, b, c, e, f], _ => exact h kV doc pm an cdv ct a b c e f
theorem mkG {sp : Sp} {C : RS → Prop} (T : Tx K mg) (i : Nat) (hi : fnTab[i]? = some d) (hc : d.cls = none) (S : FnScope N ps (defScope d.st)) (hb : BindOk d ps) (len : ∀ vs H Q E, sp vs H Q E → vs.length = ps.length)
    (up : ∀ r, C r → ∀ vs H Q E, sp vs H Q E → upS K (WofE E) r { nx := fun _ H' => Q .non H', rt := Q } (L2.start N vs) H) (b : BodyOk P w K mg base N d.qual (defScope d.st) (defBody d.st) d.adr k C) : FnG P w K mg base d.nm (k + 1) sp := by
  obtain ⟨fd, F⟩ := T.f i d hi
  exact ⟨_, fd, ps, fn_ok F S len b up, T.g i d hi hc, F.kp, F.bindsN hb⟩
theorem mkG0 {pc : PC} (T : Tx K mg) (i : Nat) (hi : fnTab[i]? = some d) (hc : d.cls = none) (S : FnScope N ps (defScope d.st)) (hb : BindOk d ps) (hn : ps.length = n)
    (b : BodyOk P w K mg base N d.qual (defScope d.st) (defBody d.st) d.adr k fun r => ∀ ds q x, pc ds q x → ds.length = n → r (out0 q x) (startD N ds) []) : FnG P w K mg base d.nm (k + 1) (sp0 K n pc) :=
  mkG T i hi hc S hb (fun _ _ _ _ h => (len_sp0 h).trans hn.symm) (fun _ c _ _ _ _ h => up_sp0 c h) b
theorem mkG1 {pc : PC1} (T : Tx K mg) (i : Nat) (hi : fnTab[i]? = some d) (hc : d.cls = none) (S : FnScope N ps (defScope d.st)) (hb : BindOk d ps) (hn : ps.length = n + 1)
    (b : BodyOk P w K mg base N d.qual (defScope d.st) (defBody d.st) d.adr k fun r => ∀ ds c q x, pc ds c q x → ds.length = n → okc c → r (out1 q x) (startD N (.loc 0 :: ds)) [c]) : FnG P w K mg base d.nm (k + 1) (sp1 K n pc) :=
  mkG T i hi hc S hb (fun _ _ _ _ h => (len_sp1 h).trans hn.symm) (fun _ c _ _ _ _ h => up_sp1 c h) b
theorem mkM {sp : Sp} {C : RS → Prop} {c : Cl} (T : Tx K mg) (i : Nat) (hi : fnTab[i]? = some d) (hm : Meth K c.adr d.nm d.adr) (S : FnScope N ps (defScope d.st)) (hb : BindOk d ps) (len : ∀ vs H Q E, sp vs H Q E → vs.length = ps.length)
    (up : ∀ r, C r → ∀ vs H Q E, sp vs H Q E → upS K (WofE E) r { nx := fun _ H' => Q .non H', rt := Q } (L2.start N vs) H) (b : BodyOk P w K mg base N d.qual (defScope d.st) (defBody d.st) d.adr k C) : FnM P w K mg base c.adr d.nm (k + 1) sp := by
  obtain ⟨fd, F⟩ := T.f i d hi
  exact ⟨_, fd, ps, fn_ok F S len b up, T.cf.cls c, hm, F.bindsN hb⟩
theorem mkM1 {pc : PC1} {c : Cl} (T : Tx K mg) (i : Nat) (hi : fnTab[i]? = some d) (hm : Meth K c.adr d.nm d.adr) (S : FnScope N ps (defScope d.st)) (hb : BindOk d ps) (hn : ps.length = n + 1)
    (b : BodyOk P w K mg base N d.qual (defScope d.st) (defBody d.st) d.adr k fun r => ∀ ds c q x, pc ds c q x → ds.length = n → okc c → r (out1 q x) (startD N (.loc 0 :: ds)) [c]) : FnM P w K mg base c.adr d.nm (k + 1) (sp1 K n pc) :=
  mkM T i hi hm S hb (fun _ _ _ _ h => (len_sp1 h).trans hn.symm) (fun _ c _ _ _ _ h => up_sp1 c h) b
theorem mkM0 {pc : PC} {c : Cl} (T : Tx K mg) (i : Nat) (hi : fnTab[i]? = some d) (hm : Meth K c.adr d.nm d.adr) (S : FnScope N ps (defScope d.st)) (hb : BindOk d ps) (hn : ps.length = n)
    (b : BodyOk P w K mg base N d.qual (defScope d.st) (defBody d.st) d.adr k fun r => ∀ ds q x, pc ds q x → ds.length = n → r (out0 q x) (startD N ds) []) : FnM P w K mg base c.adr d.nm (k + 1) (sp0 K n pc) :=
  mkM T i hi hm S hb (fun _ _ _ _ h => (len_sp0 h).trans hn.symm) (fun _ c _ _ _ _ h => up_sp0 c h) b
theorem mkMM {pc : PM} {c : Cl} {m : Nat} (T : Tx K mg) (i : Nat) (hi : fnTab[i]? = some d) (hm : Meth K c.adr d.nm d.adr) (S : FnScope N ps (defScope d.st)) (hb : BindOk d ps) (hn : ps.length = n)
    (b : BodyOk P w K mg base N d.qual (defScope d.st) (defBody d.st) d.adr k fun r => ∀ ds S q, pc ds S q → ds.length = n → S.length = m → r (outM m q) (startD N ds) S) : FnM P w K mg base c.adr d.nm (k + 1) (spM K n m pc) :=
  mkM T i hi hm S hb (fun _ _ _ _ h => (len_spM h).trans hn.symm) (fun _ c _ _ _ _ h => up_spM c h) b
theorem mkC {pc : PI_} {c : Cl} {x : Str} (T : Tx K mg) (i : Nat) (hi : fnTab[i]? = some d) (hk : Mk K c.adr d.adr) (hg : mg x = some (.ref c.adr)) (S : FnScope N ps (defScope d.st)) (hb : BindOk d ps) (hn : ps.length = n + 1)
    (b : BodyOk P w K mg base N d.qual (defScope d.st) (defBody d.st) d.adr k fun r => ∀ ds q, pc ds q → ds.length = n → r (outI q) (startD N (.loc 0 :: ds)) [.ins c []]) : FnC P w K mg base x c.adr (k + 1) (spI K n c pc) := by
  obtain ⟨fd, F⟩ := T.f i d hi
  exact ⟨_, fd, ps, fn_ok F S (fun _ _ _ _ h => (len_spI h).trans hn.symm) b (fun _ c _ _ _ _ h => up_spI c h), hk, hg, F.bindsN hb⟩
theorem mkP0 {pc : PC} {c : Cl} {f : Str} {p : Addr} (T : Tx K mg) (i : Nat) (hi : fnTab[i]? = some d) (hp : PropOf K c.adr f p d.adr) (S : FnScope N ps (defScope d.st)) (hb : BindOk d ps) (hn : ps.length = n)
    (b : BodyOk P w K mg base N d.qual (defScope d.st) (defBody d.st) d.adr k fun r => ∀ ds q x, pc ds q x → ds.length = n → r (out0 q x) (startD N ds) []) : FnP P w K mg base c.adr f (k + 1) (sp0 K n pc) := by
  obtain ⟨fd, F⟩ := T.f i d hi
  exact ⟨p, _, fd, ps, fn_ok F S (fun _ _ _ _ h => (len_sp0 h).trans hn.symm) b (fun _ c _ _ _ _ h => up_sp0 c h), T.cf.cls c, hp, F.bindsN hb⟩
theorem mkP1 {pc : PC1} {c : Cl} {f : Str} {p : Addr} (T : Tx K mg) (i : Nat) (hi : fnTab[i]? = some d) (hp : PropOf K c.adr f p d.adr) (S : FnScope N ps (defScope d.st)) (hb : BindOk d ps) (hn : ps.length = n + 1)
    (b : BodyOk P w K mg base N d.qual (defScope d.st) (defBody d.st) d.adr k fun r => ∀ ds c q x, pc ds c q x → ds.length = n → okc c → r (out1 q x) (startD N (.loc 0 :: ds)) [c]) : FnP P w K mg base c.adr f (k + 1) (sp1 K n pc) := by
  obtain ⟨fd, F⟩ := T.f i d hi
  exact ⟨p, _, fd, ps, fn_ok F S (fun _ _ _ _ h => (len_sp1 h).trans hn.symm) b (fun _ c _ _ _ _ h => up_sp1 c h), T.cf.cls c, hp, F.bindsN hb⟩
end
end SC
end

section
set_option maxHeartbeats 4000000
namespace SC
open PySem L2 DL
/-! ### fractions as data -/
abbrev fr (r : Rat) : D := .tup [.int r.num, .int r.den]
def Bd (B : Nat) (r : Rat) : Prop := r.num.natAbs < 2 ^ B ∧ r.den < 2 ^ B
theorem Bd.mono {B C : Nat} {r : Rat} (h : Bd B r) (l : B ≤ C) : Bd C r := ⟨Nat.lt_of_lt_of_le h.1 (Nat.pow_le_pow_right (by decide) l), Nat.lt_of_lt_of_le h.2 (Nat.pow_le_pow_right (by decide) l)⟩
theorem den_pos' (r : Rat) : (0 : Int) < r.den := by have := r.den_pos; omega
theorem natAbs_den (r : Rat) : (r.den : Int).natAbs = r.den := by omega
theorem mulW {i j : Int} (hi : i.natAbs < 2 ^ 400000) (hj : j.natAbs < 2 ^ 400000) : CMulW i j := wide_mul hi hj (by decide) (by decide) (by decide)
theorem mulW' {i j : Int} {a b : Nat} (hi : i.natAbs < 2 ^ a) (hj : j.natAbs < 2 ^ b) (ha : a ≤ 400000 := by decide) (hb : b ≤ 400000 := by decide) : CMulW i j :=
  wide_mul (a := a + 1) (b := b + 1) (Nat.lt_of_lt_of_le hi (Nat.pow_le_pow_right (by decide) (by omega))) (Nat.lt_of_lt_of_le hj (Nat.pow_le_pow_right (by decide) (by omega))) (by omega) (by omega) (by omega)
theorem divW {i j : Int} {b : Nat} (h : 0 < j) (hj : j.natAbs < 2 ^ b) (hb : b ≤ 8999 := by decide) : CDivW i j :=
  wide_div (b := b + 1) h (Nat.lt_of_lt_of_le hj (Nat.pow_le_pow_right (by decide) (by omega))) (by omega) (by omega)
theorem abs_mul {i j : Int} {a b : Nat} (hi : i.natAbs < 2 ^ a) (hj : j.natAbs < 2 ^ b) : (i * j).natAbs < 2 ^ (a + b) := by
  rw [Int.natAbs_mul, Nat.pow_add]
  exact Nat.mul_lt_mul'' hi hj
theorem abs_add {i j : Int} {a : Nat} (hi : i.natAbs < 2 ^ a) (hj : j.natAbs < 2 ^ a) : (i + j).natAbs < 2 ^ (a + 1) := by
  have := Int.natAbs_add_le i j
  rw [Nat.pow_succ]; omega
theorem abs_sub {i j : Int} {a : Nat} (hi : i.natAbs < 2 ^ a) (hj : j.natAbs < 2 ^ a) : (i - j).natAbs < 2 ^ (a + 1) := by
  have := Int.natAbs_sub_le i j
  rw [Nat.pow_succ]; omega
/-- lowest(a, b) is a fraction -/
theorem low_fr {a b : Int} (hb : 0 < b) : fr (Rat.divInt a b) = .tup [.int (a / (Int.gcd a b : Nat)), .int (b / (Int.gcd a b : Nat))] := by
  have h1 : (Rat.divInt a b).num = a / (Int.gcd a b : Nat) := by
    rw [Rat.num_divInt, Int.sign_eq_one_of_pos hb, Int.one_mul, Int.gcd_comm]
  have h2 : ((Rat.divInt a b).den : Int) = b / (Int.gcd a b : Nat) := by
    rw [Rat.den_divInt, if_neg (by omega), Int.gcd_comm]
    have : ((b.natAbs : Nat) : Int) = b := by omega
    rw [Int.natCast_ediv, this]
  unfold fr
  rw [h1, h2]
theorem low_bd {a b : Int} {B : Nat} (hb : 0 < b) (h1 : a.natAbs < 2 ^ B) (h2 : b.natAbs < 2 ^ B) : Bd B (Rat.divInt a b) := by
  constructor
  · rw [Rat.num_divInt, Int.sign_eq_one_of_pos hb, Int.one_mul]
    exact Nat.lt_of_le_of_lt (Int.natAbs_ediv_le_natAbs _ _) h1
  · rw [Rat.den_divInt, if_neg (by omega)]
    exact Nat.lt_of_le_of_lt (Nat.div_le_self _ _) h2
theorem divInt_add' (x y : Rat) : Rat.divInt (x.num * y.den + y.num * x.den) (x.den * y.den) = x + y := by
  have hx := den_pos' x
  have hy := den_pos' y
  have := Rat.divInt_add_divInt x.num y.num (d₁ := x.den) (d₂ := y.den) (by omega) (by omega)
  rw [Rat.num_divInt_den, Rat.num_divInt_den] at this
  exact this.symm
theorem divInt_sub' (x y : Rat) : Rat.divInt (x.num * y.den - y.num * x.den) (x.den * y.den) = x - y := by
  have h := divInt_add' x (-y)
  rw [Rat.neg_num, Rat.neg_den, Int.neg_mul, ← Int.sub_eq_add_neg, ← Rat.sub_eq_add_neg] at h
  exact h
theorem divInt_mul' (x y : Rat) : Rat.divInt (x.num * y.num) (x.den * y.den) = x * y := by
  have := Rat.divInt_mul_divInt x.num y.num (d₁ := x.den) (d₂ := y.den)
  rw [Rat.num_divInt_den, Rat.num_divInt_den] at this
  exact this.symm
theorem Bd.add {x y : Rat} {B C : Nat} (hx : Bd B x) (hy : Bd C y) : Bd (B + C + 1) (x + y) := by
  rw [← divInt_add']
  refine low_bd (Int.mul_pos (den_pos' x) (den_pos' y)) (abs_add (abs_mul hx.1 (by rw [natAbs_den]; exact hy.2)) ?_) ?_
  · rw [Nat.add_comm B C]; exact abs_mul hy.1 (by rw [natAbs_den]; exact hx.2)
  · exact Nat.lt_of_lt_of_le (abs_mul (by rw [natAbs_den]; exact hx.2) (by rw [natAbs_den]; exact hy.2)) (Nat.pow_le_pow_right (by decide) (by omega))
theorem Bd.neg {x : Rat} {B : Nat} (hx : Bd B x) : Bd B (-x) := by
  constructor
  · rw [Rat.neg_num, Int.natAbs_neg]; exact hx.1
  · rw [Rat.neg_den]; exact hx.2
theorem Bd.sub {x y : Rat} {B C : Nat} (hx : Bd B x) (hy : Bd C y) : Bd (B + C + 1) (x - y) := by
  rw [Rat.sub_eq_add_neg]; exact hx.add hy.neg
theorem Bd.mul {x y : Rat} {B C : Nat} (hx : Bd B x) (hy : Bd C y) : Bd (B + C) (x * y) := by
  rw [← divInt_mul']
  exact low_bd (Int.mul_pos (den_pos' x) (den_pos' y)) (abs_mul hx.1 hy.1) (abs_mul (by rw [natAbs_den]; exact hx.2) (by rw [natAbs_den]; exact hy.2))
theorem fr_inj {x y : Rat} (h : fr x = fr y) : x = y := by
  injection h with h
  injection h with h1 h2
  injection h2 with h2 _
  injection h1 with h1
  injection h2 with h2
  exact Rat.ext h1 (by omega)
/-! ### branches -/
def mB (b : Bool) (A B : Prop) : Prop := match b with
  | true => A
  | false => B
theorem onT {b : Bool} {A B : Prop} (h : b = true) (a : A) : mB b A B := by rw [h]; exact a
theorem onF {b : Bool} {A B : Prop} (h : b = false) (a : B) : mB b A B := by rw [h]; exact a
theorem onB {b : Bool} {A B : Prop} (h1 : b = true → A) (h2 : b = false → B) : mB b A B := by
  cases b with
  | true => exact h1 rfl
  | false => exact h2 rfl
/-! ### loops -/
/-- for: what holds ahead of each item holds behind the last -/
theorem for_inv {rg : RG} {rb : RS} {D : Out} (I : List DL.D → List (Option DL.D) → List Cell → Prop)
    (step : ∀ d items ds S, I (d :: items) ds S → ∀ k : List (Option DL.D) → List Cell → Prop, (∀ ds' S', I items ds' S' → k ds' S') → rg d ds S fun ds1 S1 => rb { D with nx := k, ct := k, bk := D.nx } ds1 S1)
    (last : ∀ ds S, I [] ds S → D.nx ds S) : ∀ items ds S, I items ds S → forD rg rb D items ds S
  | [], ds, S, h => last ds S h
  | d :: items, ds, S, h => step d items ds S h _ fun ds' S' h' => for_inv I step last items ds' S' h'
/-- while: a measure goes down -/
theorem wh_go {rt : RT} {rb : RS} {D : Out} (I : Nat → List (Option DL.D) → List Cell → Prop)
    (step : ∀ n ds S, I n ds S → ∀ k : List (Option DL.D) → List Cell → Prop, (∀ m ds' S', m < n → I m ds' S' → k ds' S') → rt ds S (fun b S1 => match b with
      | true => rb { D with nx := k, ct := k, bk := D.nx } ds S1
      | false => D.nx ds S1) fun C S' => D.xc C ds S') : ∀ N n ds S, n < N → I n ds S → whD rt rb D N ds S
  | 0, n, ds, S, h, _ => absurd h (Nat.not_lt_zero n)
  | N + 1, n, ds, S, h, i => step n ds S i _ fun m ds' S' hm i' => wh_go I step N m ds' S' (by omega) i'
theorem wh_inv {rt : RT} {rb : RS} {D : Out} (I : Nat → List (Option DL.D) → List Cell → Prop)
    (step : ∀ n ds S, I n ds S → ∀ k : List (Option DL.D) → List Cell → Prop, (∀ m ds' S', m < n → I m ds' S' → k ds' S') → rt ds S (fun b S1 => match b with
      | true => rb { D with nx := k, ct := k, bk := D.nx } ds S1
      | false => D.nx ds S1) fun C S' => D.xc C ds S') (n : Nat) {ds : List (Option DL.D)} {S : List Cell} (h : I n ds S) : rWhile rt rb D ds S :=
  ⟨n + 1, wh_go I step (n + 1) n ds S (Nat.lt_succ_self n) h⟩
/-! ### comprehensions -/
theorem lc_inv {rg : RG} {rt : RT} {re : RE} {ds : List (Option DL.D)} {k : List DL.D → List Cell → Prop} (I : List DL.D → List DL.D → List Cell → Prop)
    (step : ∀ d items acc S, I (d :: items) acc S → ∀ K : List DL.D → List Cell → Prop, (∀ acc' S', I items acc' S' → K acc' S') → rg d ds S fun ds1 S1 => rt ds1 S1 (fun b S2 => match b with
      | true => re ds1 S2 (fun y S3 => noLoc [y] = true ∧ acc.length < 100000 ∧ K (acc ++ [y]) S3) fun _ _ => False
      | false => K acc S2) fun _ _ => False)
    (last : ∀ acc S, I [] acc S → k acc S) : ∀ items acc S, I items acc S → lcD rg rt re ds items acc S k
  | [], acc, S, h => last acc S h
  | d :: items, acc, S, h => step d items acc S h _ fun acc' S' h' => lc_inv I step last items acc' S' h'
theorem lc_map0 {rg : RG} {re : RE} {ds : List (Option DL.D)} {k : List DL.D → List Cell → Prop} {S : List Cell} (f : DL.D → DL.D) : ∀ (items acc : List DL.D), (∀ d, d ∈ items → noLoc [f d] = true) → acc.length + items.length ≤ 100000 →
    (∀ d, d ∈ items → ∀ K : DL.D → List Cell → Prop, K (f d) S → rg d ds S fun ds1 S1 => re ds1 S1 K fun _ _ => False) → k (acc ++ items.map f) S → lcD rg rYes re ds items acc S k
  | [], acc, _, _, _, h => by
    rw [List.map_nil, List.append_nil] at h
    exact h
  | d :: items, acc, hn, hl, one, h => by
    refine one d (List.mem_cons_self) _ ⟨hn d List.mem_cons_self, ?_, lc_map0 f items (acc ++ [f d]) (fun e he => hn e (List.mem_cons_of_mem _ he)) ?_ (fun e he => one e (List.mem_cons_of_mem _ he)) ?_⟩
    · simp only [List.length_cons] at hl; omega
    · simp only [List.length_append, List.length_cons, List.length_nil] at hl ⊢; omega
    · simpa using h
/-- [f(d) for d in items], nothing changed -/
theorem lc_map {rg : RG} {re : RE} {ds : List (Option DL.D)} {k : List DL.D → List Cell → Prop} {S : List Cell} {items : List DL.D} (f : DL.D → DL.D) (hn : ∀ d, d ∈ items → noLoc [f d] = true) (hl : items.length ≤ 100000)
    (one : ∀ d, d ∈ items → ∀ K : DL.D → List Cell → Prop, K (f d) S → rg d ds S fun ds1 S1 => re ds1 S1 K fun _ _ => False) (h : k (items.map f) S) : lcD rg rYes re ds items [] S k :=
  lc_map0 f items [] hn (by simpa using hl) one (by simpa using h)
theorem lc_mapA0 {α : Type} {rg : RG} {re : RE} {ds : List (Option DL.D)} {k : List DL.D → List Cell → Prop} {S : List Cell} (g f : α → DL.D) : ∀ (l : List α) (acc : List DL.D), (∀ x, x ∈ l → noLoc [f x] = true) → acc.length + l.length ≤ 100000 →
    (∀ x, x ∈ l → ∀ K : DL.D → List Cell → Prop, K (f x) S → rg (g x) ds S fun ds1 S1 => re ds1 S1 K fun _ _ => False) → k (acc ++ l.map f) S → lcD rg rYes re ds (l.map g) acc S k
  | [], acc, _, _, _, h => by
    rw [List.map_nil, List.append_nil] at h
    exact h
  | x :: l, acc, hn, hl, one, h => by
    refine one x (List.mem_cons_self) _ ⟨hn x List.mem_cons_self, ?_, lc_mapA0 g f l (acc ++ [f x]) (fun e he => hn e (List.mem_cons_of_mem _ he)) ?_ (fun e he => one e (List.mem_cons_of_mem _ he)) ?_⟩
    · simp only [List.length_cons] at hl; omega
    · simp only [List.length_append, List.length_cons, List.length_nil] at hl ⊢; omega
    · simpa using h
/-- [f(x) for g(x) in ..], nothing changed -/
theorem lc_mapA {α : Type} {rg : RG} {re : RE} {ds : List (Option DL.D)} {k : List DL.D → List Cell → Prop} {S : List Cell} (l : List α) (g f : α → DL.D) (hn : ∀ x, x ∈ l → noLoc [f x] = true) (hl : l.length ≤ 100000)
    (one : ∀ x, x ∈ l → ∀ K : DL.D → List Cell → Prop, K (f x) S → rg (g x) ds S fun ds1 S1 => re ds1 S1 K fun _ _ => False) (h : k (l.map f) S) : lcD rg rYes re ds (l.map g) [] S k :=
  lc_mapA0 g f l [] hn (by simpa using hl) one (by simpa using h)
end SC
end

section
set_option maxHeartbeats 4000000
namespace SC
open PySem L2 DL
section
variable {P : Program} {w : World} {K : PySem.W.Frag} {mg : Str → Option Value} {base : Heap}

/-- the greatest common divisor -/
abbrev cGcd : PC := fun ds q _ => ∃ a b : Int, ds = [.int a, .int b] ∧ b.natAbs < 2 ^ 8000 ∧ q (.int (Int.gcd a b : Nat))
abbrev cLow : PC := fun ds q _ => ∃ a b : Int, ds = [.int a, .int b] ∧ 0 < b ∧ b.natAbs < 2 ^ 8000 ∧ q (fr (Rat.divInt a b))
abbrev cBin (f : Rat → Rat → Rat) : PC := fun ds q _ => ∃ x y : Rat, ds = [fr x, fr y] ∧ Bd 3000 x ∧ Bd 3000 y ∧ q (fr (f x y))
abbrev cLess : PC := fun ds q _ => ∃ x y : Rat, ds = [fr x, fr y] ∧ Bd 3000 x ∧ Bd 3000 y ∧ q (.bl (decide (x < y)))
theorem gcd_pos {a b : Int} (h : 0 < b) : (0 : Int) < (Int.gcd a b : Nat) := by
  have := Int.gcd_pos_of_ne_zero_right a (b := b) (by omega)
  omega
theorem gcd_bd {a b : Int} (h : 0 < b) (hb : b.natAbs < 2 ^ 8000) : ((Int.gcd a b : Nat) : Int).natAbs < 2 ^ 8000 := by
  have := Int.gcd_le_natAbs_right a (b := b) (by omega)
  omega
theorem decide_congr {p q : Prop} [Decidable p] [Decidable q] (h : p ↔ q) : decide p = decide q := by simp [h]
abbrev N_common_divisor : List Str := ["one", "other"]
theorem sc_common_divisor : FnScope N_common_divisor ["one", "other"] (defScope s_common_divisor) := ⟨rfl, rfl, rfl, by decide +kernel, rfl, by decide +kernel, by decide +kernel⟩
theorem ok_common_divisor (T : Tx K mg) : FnG P w K mg base "common_divisor" 1 (sp0 K 2 cGcd) :=
  mkG0 T 14 rfl rfl sc_common_divisor (bind2 rfl fun _ _ _ _ _ _ _ _ => rfl) rfl fun cdv A outer s H E hr tk po => by
    refine ⟨_, (jb_cons (js_par (i := 0) (j := 1) rfl sc_common_divisor.nd rfl rfl (by decide) rfl rfl (ja_cons (je_callB call_absD rfl T.b_abs (by decide +kernel) (ja_cons (je_var (pv 0)) ja_nil)) (ja_cons (je_callB call_absD rfl T.b_abs (by decide +kernel) (ja_cons (je_var (pv 1)) ja_nil)) ja_nil)) (by rfl))
    (jb_cons (js_while po (jt_cmp (op_neD' hr.units) (je_var (pv 1)) je_int (nomark _)) (jb_one (js_par (i := 0) (j := 1) rfl sc_common_divisor.nd rfl rfl (by decide) rfl rfl (ja_cons (je_var (pv 1)) (ja_cons (je_op op_modD (je_var (pv 0)) (je_var (pv 1))) ja_nil)) (by rfl))))
    (jb_one (js_ret (je_var (pv 0)))))), ?_⟩
    rintro ds q x ⟨a, b, rfl, hb, h⟩ -
    refine wh_inv (fun n ds S => S = [] ∧ ∃ u v : Int, 0 ≤ u ∧ 0 ≤ v ∧ v.natAbs < 2 ^ 8000 ∧ n = v.natAbs ∧ Int.gcd u v = Int.gcd a b ∧ ds = [some (.int u), some (.int v)]) ?_ (if b < 0 then -b else b).natAbs ?_
    · rintro n ds S ⟨rfl, u, v, hu, hv, hv2, rfl, hg, rfl⟩ k hk
      by_cases z : v = 0
      · subst z
        refine ?_
        show q (.int u)
        rw [Int.gcd_zero_right] at hg
        rw [← hg, Int.natAbs_of_nonneg hu] at h
        exact h
      · have hp : 0 < v := by omega
        refine onT (by simp [z]) ?_
        refine ⟨hp, ?_⟩
        refine hk (u % v).natAbs _ _ ?_ ⟨rfl, v, u % v, hv, Int.emod_nonneg _ z, ?_, rfl, ?_, rfl⟩
        · have := Int.emod_lt_of_pos u hp; have := Int.emod_nonneg u z; omega
        · have := Int.emod_lt_of_pos u hp; have := Int.emod_nonneg u z; omega
        · rw [← hg, Int.emod_def, Int.gcd_sub_mul_left_right, Int.gcd_comm]
    · refine ⟨rfl, _, _, ?_, ?_, ?_, rfl, ?_, rfl⟩
      · split <;> omega
      · split <;> omega
      · split <;> omega
      · rw [show Int.gcd (if a < 0 then -a else a) (if b < 0 then -b else b) = Int.gcd a b from by split <;> split <;> simp [Int.gcd]]
abbrev N_lowest : List Str := ["top", "bottom", "common"]
theorem sc_lowest : FnScope N_lowest ["top", "bottom"] (defScope s_lowest) := ⟨rfl, rfl, rfl, by decide +kernel, rfl, by decide +kernel, by decide +kernel⟩
theorem ok_lowest (T : Tx K mg) : FnG P w K mg base "lowest" 2 (sp0 K 2 cLow) :=
  mkG0 T 18 rfl rfl sc_lowest (bind2 rfl fun _ _ _ _ _ _ _ _ => rfl) rfl fun cdv A outer s H E hr tk po => by
    refine ⟨_, (jb_cons (js_set (i := 2) sc_lowest.nd rfl (by first | exact .inl rfl | exact .inr rfl) (je_call0 (ok_common_divisor T) (hr.mono (by decide)) tk rfl (ja_cons (je_var (pv 0)) (ja_cons (je_var (pv 1)) ja_nil))))
    (jb_one (js_ret (je_tup (ja_cons (je_op op_fdivD (je_var (pv 0)) (je_var (pv 2))) (ja_cons (je_op op_fdivD (je_var (pv 1)) (je_var (pv 2))) ja_nil)))))), ?_⟩
    rintro ds q x ⟨a, b, rfl, hb, hb2, h⟩ -
    refine ⟨a, b, rfl, hb2, ?_⟩
    refine ⟨divW (gcd_pos hb) (gcd_bd hb hb2), divW (gcd_pos hb) (gcd_bd hb hb2), ?_⟩
    rw [low_fr hb] at h
    exact h
abbrev N_plus : List Str := ["one", "other"]
theorem sc_plus : FnScope N_plus ["one", "other"] (defScope s_plus) := ⟨rfl, rfl, rfl, by decide +kernel, rfl, by decide +kernel, by decide +kernel⟩
theorem ok_plus (T : Tx K mg) : FnG P w K mg base "plus" 3 (sp0 K 2 (cBin fun x y => x + y)) :=
  mkG0 T 19 rfl rfl sc_plus (bind2 rfl fun _ _ _ _ _ _ _ _ => rfl) rfl fun cdv A outer s H E hr tk po => by
    refine ⟨_, (jb_one (js_ret (je_call0 (ok_lowest T) (hr.mono (by decide)) tk rfl (ja_cons (je_op op_addD (je_op op_mulD (je_ix (je_var (pv 0)) je_int) (je_ix (je_var (pv 1)) je_int)) (je_op op_mulD (je_ix (je_var (pv 1)) je_int) (je_ix (je_var (pv 0)) je_int))) (ja_cons (je_op op_mulD (je_ix (je_var (pv 0)) je_int) (je_ix (je_var (pv 1)) je_int)) ja_nil))))), ?_⟩
    rintro ds q t ⟨x, y, rfl, hx, hy, h⟩ -
    have dx : (x.den : Int).natAbs < 2 ^ 3000 := by rw [natAbs_den]; exact hx.2
    have dy : (y.den : Int).natAbs < 2 ^ 3000 := by rw [natAbs_den]; exact hy.2
    refine ⟨_, rfl, _, rfl, mulW' hx.1 dy, _, rfl, _, rfl, mulW' hy.1 dx, _, rfl, _, rfl, mulW' dx dy, _, _, rfl, Int.mul_pos (den_pos' x) (den_pos' y), Nat.lt_of_lt_of_le (abs_mul dx dy) (Nat.pow_le_pow_right (by decide) (by decide)), ?_⟩
    rw [divInt_add']
    exact h
abbrev N_minus : List Str := ["one", "other"]
theorem sc_minus : FnScope N_minus ["one", "other"] (defScope s_minus) := ⟨rfl, rfl, rfl, by decide +kernel, rfl, by decide +kernel, by decide +kernel⟩
theorem ok_minus (T : Tx K mg) : FnG P w K mg base "minus" 3 (sp0 K 2 (cBin fun x y => x - y)) :=
  mkG0 T 20 rfl rfl sc_minus (bind2 rfl fun _ _ _ _ _ _ _ _ => rfl) rfl fun cdv A outer s H E hr tk po => by
    refine ⟨_, (jb_one (js_ret (je_call0 (ok_lowest T) (hr.mono (by decide)) tk rfl (ja_cons (je_op op_subD (je_op op_mulD (je_ix (je_var (pv 0)) je_int) (je_ix (je_var (pv 1)) je_int)) (je_op op_mulD (je_ix (je_var (pv 1)) je_int) (je_ix (je_var (pv 0)) je_int))) (ja_cons (je_op op_mulD (je_ix (je_var (pv 0)) je_int) (je_ix (je_var (pv 1)) je_int)) ja_nil))))), ?_⟩
    rintro ds q t ⟨x, y, rfl, hx, hy, h⟩ -
    have dx : (x.den : Int).natAbs < 2 ^ 3000 := by rw [natAbs_den]; exact hx.2
    have dy : (y.den : Int).natAbs < 2 ^ 3000 := by rw [natAbs_den]; exact hy.2
    refine ⟨_, rfl, _, rfl, mulW' hx.1 dy, _, rfl, _, rfl, mulW' hy.1 dx, _, rfl, _, rfl, mulW' dx dy, _, _, rfl, Int.mul_pos (den_pos' x) (den_pos' y), Nat.lt_of_lt_of_le (abs_mul dx dy) (Nat.pow_le_pow_right (by decide) (by decide)), ?_⟩
    rw [divInt_sub']
    exact h
abbrev N_times : List Str := ["one", "other"]
theorem sc_times : FnScope N_times ["one", "other"] (defScope s_times) := ⟨rfl, rfl, rfl, by decide +kernel, rfl, by decide +kernel, by decide +kernel⟩
theorem ok_times (T : Tx K mg) : FnG P w K mg base "times" 3 (sp0 K 2 (cBin fun x y => x * y)) :=
  mkG0 T 21 rfl rfl sc_times (bind2 rfl fun _ _ _ _ _ _ _ _ => rfl) rfl fun cdv A outer s H E hr tk po => by
    refine ⟨_, (jb_one (js_ret (je_call0 (ok_lowest T) (hr.mono (by decide)) tk rfl (ja_cons (je_op op_mulD (je_ix (je_var (pv 0)) je_int) (je_ix (je_var (pv 1)) je_int)) (ja_cons (je_op op_mulD (je_ix (je_var (pv 0)) je_int) (je_ix (je_var (pv 1)) je_int)) ja_nil))))), ?_⟩
    rintro ds q t ⟨x, y, rfl, hx, hy, h⟩ -
    have dx : (x.den : Int).natAbs < 2 ^ 3000 := by rw [natAbs_den]; exact hx.2
    have dy : (y.den : Int).natAbs < 2 ^ 3000 := by rw [natAbs_den]; exact hy.2
    refine ⟨_, rfl, _, rfl, mulW' hx.1 hy.1, _, rfl, _, rfl, mulW' dx dy, _, _, rfl, Int.mul_pos (den_pos' x) (den_pos' y), Nat.lt_of_lt_of_le (abs_mul dx dy) (Nat.pow_le_pow_right (by decide) (by decide)), ?_⟩
    rw [divInt_mul']
    exact h
abbrev N_is_less : List Str := ["one", "other"]
theorem sc_is_less : FnScope N_is_less ["one", "other"] (defScope s_is_less) := ⟨rfl, rfl, rfl, by decide +kernel, rfl, by decide +kernel, by decide +kernel⟩
theorem ok_is_less (T : Tx K mg) : FnG P w K mg base "is_less" 1 (sp0 K 2 cLess) :=
  mkG0 T 22 rfl rfl sc_is_less (bind2 rfl fun _ _ _ _ _ _ _ _ => rfl) rfl fun cdv A outer s H E hr tk po => by
    refine ⟨_, (jb_one (js_ret (je_cmp op_ltD (je_op op_mulD (je_ix (je_var (pv 0)) je_int) (je_ix (je_var (pv 1)) je_int)) (je_op op_mulD (je_ix (je_var (pv 1)) je_int) (je_ix (je_var (pv 0)) je_int)) (nomark _)))), ?_⟩
    rintro ds q t ⟨x, y, rfl, hx, hy, h⟩ -
    have dx : (x.den : Int).natAbs < 2 ^ 3000 := by rw [natAbs_den]; exact hx.2
    have dy : (y.den : Int).natAbs < 2 ^ 3000 := by rw [natAbs_den]; exact hy.2
    refine ⟨_, rfl, _, rfl, mulW' hx.1 dy, _, rfl, _, rfl, mulW' hy.1 dx, ?_⟩
    rw [decide_congr (Rat.lt_iff x y)] at h
    exact h
abbrev N__law_common : List Str := ["_law_a", "_law_b"]
theorem sc__law_common : FnScope N__law_common ["_law_a", "_law_b"] (defScope s__law_common) := ⟨rfl, rfl, rfl, by decide +kernel, rfl, by decide +kernel, by decide +kernel⟩
theorem ok__law_common (T : Tx K mg) : FnG P w K mg base "_law_common" 1 (sp0 K 2 cGcd) :=
  mkG0 T 112 rfl rfl sc__law_common (bind2 rfl fun _ _ _ _ _ _ _ _ => rfl) rfl fun cdv A outer s H E hr tk po => by
    refine ⟨_, (jb_cons (js_par (i := 0) (j := 1) rfl sc__law_common.nd rfl rfl (by decide) rfl rfl (ja_cons (je_callB call_absD rfl T.b_abs (by decide +kernel) (ja_cons (je_var (pv 0)) ja_nil)) (ja_cons (je_callB call_absD rfl T.b_abs (by decide +kernel) (ja_cons (je_var (pv 1)) ja_nil)) ja_nil)) (by rfl))
    (jb_cons (js_while po (jt_cmp op_gtD (je_var (pv 1)) je_int (nomark _)) (jb_one (js_par (i := 0) (j := 1) rfl sc__law_common.nd rfl rfl (by decide) rfl rfl (ja_cons (je_var (pv 1)) (ja_cons (je_op op_modD (je_callTy call_intD rfl T.b_int (by decide +kernel) (ja_cons (je_var (pv 0)) ja_nil)) (je_var (pv 1))) ja_nil)) (by rfl))))
    (jb_one (js_ret (je_var (pv 0)))))), ?_⟩
    rintro ds q x ⟨a, b, rfl, hb, h⟩ -
    refine wh_inv (fun n ds S => S = [] ∧ ∃ u v : Int, 0 ≤ u ∧ 0 ≤ v ∧ v.natAbs < 2 ^ 8000 ∧ n = v.natAbs ∧ Int.gcd u v = Int.gcd a b ∧ ds = [some (.int u), some (.int v)]) ?_ (if b < 0 then -b else b).natAbs ?_
    · rintro n ds S ⟨rfl, u, v, hu, hv, hv2, rfl, hg, rfl⟩ k hk
      by_cases z : v = 0
      · subst z
        refine ?_
        show q (.int u)
        rw [Int.gcd_zero_right] at hg
        rw [← hg, Int.natAbs_of_nonneg hu] at h
        exact h
      · have hp : 0 < v := by omega
        refine onT (by simp [hp]) ?_
        refine ⟨hp, ?_⟩
        refine hk (u % v).natAbs _ _ ?_ ⟨rfl, v, u % v, hv, Int.emod_nonneg _ z, ?_, rfl, ?_, rfl⟩
        · have := Int.emod_lt_of_pos u hp; have := Int.emod_nonneg u z; omega
        · have := Int.emod_lt_of_pos u hp; have := Int.emod_nonneg u z; omega
        · rw [← hg, Int.emod_def, Int.gcd_sub_mul_left_right, Int.gcd_comm]
    · refine ⟨rfl, _, _, ?_, ?_, ?_, rfl, ?_, rfl⟩
      · split <;> omega
      · split <;> omega
      · split <;> omega
      · rw [show Int.gcd (if a < 0 then -a else a) (if b < 0 then -b else b) = Int.gcd a b from by split <;> split <;> simp [Int.gcd]]
abbrev N__law_low : List Str := ["_law_top", "_law_bottom", "_law_common_here"]
theorem sc__law_low : FnScope N__law_low ["_law_top", "_law_bottom"] (defScope s__law_low) := ⟨rfl, rfl, rfl, by decide +kernel, rfl, by decide +kernel, by decide +kernel⟩
theorem ok__law_low (T : Tx K mg) : FnG P w K mg base "_law_low" 2 (sp0 K 2 cLow) :=
  mkG0 T 113 rfl rfl sc__law_low (bind2 rfl fun _ _ _ _ _ _ _ _ => rfl) rfl fun cdv A outer s H E hr tk po => by
    refine ⟨_, (jb_cons (js_set (i := 2) sc__law_low.nd rfl (by first | exact .inl rfl | exact .inr rfl) (je_call0 (ok__law_common T) (hr.mono (by decide)) tk rfl (ja_cons (je_var (pv 0)) (ja_cons (je_var (pv 1)) ja_nil))))
    (jb_one (js_ret (je_tup (ja_cons (je_op op_fdivD (je_var (pv 0)) (je_var (pv 2))) (ja_cons (je_op op_fdivD (je_var (pv 1)) (je_var (pv 2))) ja_nil)))))), ?_⟩
    rintro ds q x ⟨a, b, rfl, hb, hb2, h⟩ -
    refine ⟨a, b, rfl, hb2, ?_⟩
    refine ⟨divW (gcd_pos hb) (gcd_bd hb hb2), divW (gcd_pos hb) (gcd_bd hb hb2), ?_⟩
    rw [low_fr hb] at h
    exact h
abbrev N__law_plus : List Str := ["_law_one", "_law_two"]
theorem sc__law_plus : FnScope N__law_plus ["_law_one", "_law_two"] (defScope s__law_plus) := ⟨rfl, rfl, rfl, by decide +kernel, rfl, by decide +kernel, by decide +kernel⟩
theorem ok__law_plus (T : Tx K mg) : FnG P w K mg base "_law_plus" 3 (sp0 K 2 (cBin fun x y => x + y)) :=
  mkG0 T 114 rfl rfl sc__law_plus (bind2 rfl fun _ _ _ _ _ _ _ _ => rfl) rfl fun cdv A outer s H E hr tk po => by
    refine ⟨_, (jb_one (js_ret (je_call0 (ok__law_low T) (hr.mono (by decide)) tk rfl (ja_cons (je_op op_addD (je_op op_mulD (je_ix (je_var (pv 0)) je_int) (je_ix (je_var (pv 1)) je_int)) (je_op op_mulD (je_ix (je_var (pv 1)) je_int) (je_ix (je_var (pv 0)) je_int))) (ja_cons (je_op op_mulD (je_ix (je_var (pv 0)) je_int) (je_ix (je_var (pv 1)) je_int)) ja_nil))))), ?_⟩
    rintro ds q t ⟨x, y, rfl, hx, hy, h⟩ -
    have dx : (x.den : Int).natAbs < 2 ^ 3000 := by rw [natAbs_den]; exact hx.2
    have dy : (y.den : Int).natAbs < 2 ^ 3000 := by rw [natAbs_den]; exact hy.2
    refine ⟨_, rfl, _, rfl, mulW' hx.1 dy, _, rfl, _, rfl, mulW' hy.1 dx, _, rfl, _, rfl, mulW' dx dy, _, _, rfl, Int.mul_pos (den_pos' x) (den_pos' y), Nat.lt_of_lt_of_le (abs_mul dx dy) (Nat.pow_le_pow_right (by decide) (by decide)), ?_⟩
    rw [divInt_add']
    exact h
abbrev N__law_times : List Str := ["_law_one", "_law_two"]
theorem sc__law_times : FnScope N__law_times ["_law_one", "_law_two"] (defScope s__law_times) := ⟨rfl, rfl, rfl, by decide +kernel, rfl, by decide +kernel, by decide +kernel⟩
theorem ok__law_times (T : Tx K mg) : FnG P w K mg base "_law_times" 3 (sp0 K 2 (cBin fun x y => x * y)) :=
  mkG0 T 115 rfl rfl sc__law_times (bind2 rfl fun _ _ _ _ _ _ _ _ => rfl) rfl fun cdv A outer s H E hr tk po => by
    refine ⟨_, (jb_one (js_ret (je_call0 (ok__law_low T) (hr.mono (by decide)) tk rfl (ja_cons (je_op op_mulD (je_ix (je_var (pv 0)) je_int) (je_ix (je_var (pv 1)) je_int)) (ja_cons (je_op op_mulD (je_ix (je_var (pv 0)) je_int) (je_ix (je_var (pv 1)) je_int)) ja_nil))))), ?_⟩
    rintro ds q t ⟨x, y, rfl, hx, hy, h⟩ -
    have dx : (x.den : Int).natAbs < 2 ^ 3000 := by rw [natAbs_den]; exact hx.2
    have dy : (y.den : Int).natAbs < 2 ^ 3000 := by rw [natAbs_den]; exact hy.2
    refine ⟨_, rfl, _, rfl, mulW' hx.1 hy.1, _, rfl, _, rfl, mulW' dx dy, _, _, rfl, Int.mul_pos (den_pos' x) (den_pos' y), Nat.lt_of_lt_of_le (abs_mul dx dy) (Nat.pow_le_pow_right (by decide) (by decide)), ?_⟩
    rw [divInt_mul']
    exact h
abbrev N__law_less : List Str := ["_law_one", "_law_two"]
theorem sc__law_less : FnScope N__law_less ["_law_one", "_law_two"] (defScope s__law_less) := ⟨rfl, rfl, rfl, by decide +kernel, rfl, by decide +kernel, by decide +kernel⟩
theorem ok__law_less (T : Tx K mg) : FnG P w K mg base "_law_less" 1 (sp0 K 2 cLess) :=
  mkG0 T 116 rfl rfl sc__law_less (bind2 rfl fun _ _ _ _ _ _ _ _ => rfl) rfl fun cdv A outer s H E hr tk po => by
    refine ⟨_, (jb_one (js_ret (je_cmp op_ltD (je_op op_mulD (je_ix (je_var (pv 0)) je_int) (je_ix (je_var (pv 1)) je_int)) (je_op op_mulD (je_ix (je_var (pv 1)) je_int) (je_ix (je_var (pv 0)) je_int)) (nomark _)))), ?_⟩
    rintro ds q t ⟨x, y, rfl, hx, hy, h⟩ -
    have dx : (x.den : Int).natAbs < 2 ^ 3000 := by rw [natAbs_den]; exact hx.2
    have dy : (y.den : Int).natAbs < 2 ^ 3000 := by rw [natAbs_den]; exact hy.2
    refine ⟨_, rfl, _, rfl, mulW' hx.1 dy, _, rfl, _, rfl, mulW' hy.1 dx, ?_⟩
    rw [decide_congr (Rat.lt_iff x y)] at h
    exact h
end
end SC
end

section
set_option maxHeartbeats 4000000
namespace SC
open PySem L2 DL
section
variable {P : Program} {w : World} {K : PySem.W.Frag} {mg : Str → Option Value} {base : Heap}

theorem den3 {x : Rat} {B : Nat} (h : Bd B x) : (x.den : Int).natAbs < 2 ^ B := by rw [natAbs_den]; exact h.2
def gmax (x y : Rat) : Rat := if x < y then y else x
def gmin (x y : Rat) : Rat := if y < x then y else x
abbrev cInt : PC := fun ds q _ => ∃ a : Int, ds = [.int a] ∧ q (.bl true)
abbrev cBet : PC := fun ds q _ => ∃ a b c : Int, ds = [.int a, .int b, .int c] ∧ q (.bl (decide (b ≤ a ∧ a ≤ c)))
abbrev cFrac : PC := fun ds q _ => ∃ (r : Rat) (T B : Int), ds = [fr r, .int T, .int B] ∧ Bd 3000 r ∧ -T ≤ r.num ∧ r.num ≤ T ∧ r.den ≤ B ∧ q (.bl true)
abbrev cWrit : PC := fun ds q _ => ∃ r : Rat, ds = [fr r] ∧ Bd 1000 r ∧ q (.txt 3803)
abbrev N_greater_of : List Str := ["one", "other"]
theorem sc_greater_of : FnScope N_greater_of ["one", "other"] (defScope s_greater_of) := ⟨rfl, rfl, rfl, by decide +kernel, rfl, by decide +kernel, by decide +kernel⟩
theorem ok_greater_of (T : Tx K mg) : FnG P w K mg base "greater_of" 2 (sp0 K 2 (cBin gmax)) :=
  mkG0 T 24 rfl rfl sc_greater_of (bind2 rfl fun _ _ _ _ _ _ _ _ => rfl) rfl fun cdv A outer s H E hr tk po => by
    refine ⟨_, (jb_one (js_ret (je_if (jt_val (je_call0 (ok_is_less T) (hr.mono (by decide)) tk rfl (ja_cons (je_var (pv 0)) (ja_cons (je_var (pv 1)) ja_nil)))) (je_var (pv 1)) (je_var (pv 0))))), ?_⟩
    rintro ds q t ⟨x, y, rfl, hx, hy, h⟩ -
    refine ⟨x, y, rfl, hx, hy, ?_⟩
    refine onB (fun e => ?_) fun e => ?_
    · show q (fr y)
      rw [gmax, if_pos (of_decide_eq_true e)] at h
      exact h
    · show q (fr x)
      rw [gmax, if_neg (of_decide_eq_false e)] at h
      exact h
abbrev N_lesser_of : List Str := ["one", "other"]
theorem sc_lesser_of : FnScope N_lesser_of ["one", "other"] (defScope s_lesser_of) := ⟨rfl, rfl, rfl, by decide +kernel, rfl, by decide +kernel, by decide +kernel⟩
theorem ok_lesser_of (T : Tx K mg) : FnG P w K mg base "lesser_of" 2 (sp0 K 2 (cBin gmin)) :=
  mkG0 T 25 rfl rfl sc_lesser_of (bind2 rfl fun _ _ _ _ _ _ _ _ => rfl) rfl fun cdv A outer s H E hr tk po => by
    refine ⟨_, (jb_one (js_ret (je_if (jt_val (je_call0 (ok_is_less T) (hr.mono (by decide)) tk rfl (ja_cons (je_var (pv 1)) (ja_cons (je_var (pv 0)) ja_nil)))) (je_var (pv 1)) (je_var (pv 0))))), ?_⟩
    rintro ds q t ⟨x, y, rfl, hx, hy, h⟩ -
    refine ⟨y, x, rfl, hy, hx, ?_⟩
    refine onB (fun e => ?_) fun e => ?_
    · show q (fr y)
      rw [gmin, if_pos (of_decide_eq_true e)] at h
      exact h
    · show q (fr x)
      rw [gmin, if_neg (of_decide_eq_false e)] at h
      exact h
abbrev N_is_integer : List Str := ["value"]
theorem sc_is_integer : FnScope N_is_integer ["value"] (defScope s_is_integer) := ⟨rfl, rfl, rfl, by decide +kernel, rfl, by decide +kernel, by decide +kernel⟩
theorem ok_is_integer (T : Tx K mg) : FnG P w K mg base "is_integer" 1 (sp0 K 1 cInt) :=
  mkG0 T 10 rfl rfl sc_is_integer (bind1 rfl fun _ _ _ _ _ _ _ => rfl) rfl fun cdv A outer s H E hr tk po => by
    refine ⟨_, (jb_one (js_ret (je_and (je_callB (call_isi_int) rfl T.b_isinstance (by decide +kernel) (ja_cons (je_var (pv 0)) (ja_cons (je_bty (T := "int") T.b_int rfl (by decide +kernel)) ja_nil))) (je_one (je_not (je_callB (call_isi_bool) rfl T.b_isinstance (by decide +kernel) (ja_cons (je_var (pv 0)) (ja_cons (je_bty (T := "bool") T.b_bool rfl (by decide +kernel)) ja_nil)))))))), ?_⟩
    rintro ds q t ⟨a, rfl, h⟩ -
    exact ⟨rfl, rfl, h⟩
abbrev N_is_between : List Str := ["value", "low", "high"]
theorem sc_is_between : FnScope N_is_between ["value", "low", "high"] (defScope s_is_between) := ⟨rfl, rfl, rfl, by decide +kernel, rfl, by decide +kernel, by decide +kernel⟩
theorem ok_is_between (T : Tx K mg) : FnG P w K mg base "is_between" 2 (sp0 K 3 cBet) :=
  mkG0 T 11 rfl rfl sc_is_between (bind3 rfl fun _ _ _ _ _ _ _ _ _ => rfl) rfl fun cdv A outer s H E hr tk po => by
    refine ⟨_, (jb_one (js_ret (je_and (je_call0 (ok_is_integer T) (hr.mono (by decide)) tk rfl (ja_cons (je_var (pv 0)) ja_nil)) (je_one (je_chain op_leD op_leD (je_var (pv 1)) (je_var (pv 0)) (je_var (pv 2))))))), ?_⟩
    rintro ds q t ⟨a, b, c, rfl, h⟩ -
    refine ⟨a, rfl, ?_⟩
    by_cases h1 : b ≤ a
    · refine onT (decide_eq_true h1) ?_
      show q (.bl (decide (a ≤ c)))
      rw [decide_congr (and_iff_right h1)] at h
      exact h
    · refine onF (decide_eq_false h1) ?_
      show q (.bl false)
      rw [show decide (b ≤ a ∧ a ≤ c) = false from decide_eq_false fun z => h1 z.1] at h
      exact h
abbrev N_written : List Str := ["fraction"]
theorem sc_written : FnScope N_written ["fraction"] (defScope s_written) := ⟨rfl, rfl, rfl, by decide +kernel, rfl, by decide +kernel, by decide +kernel⟩
theorem ok_written (T : Tx K mg) : FnG P w K mg base "written" 1 (sp0 K 1 cWrit) :=
  mkG0 T 28 rfl rfl sc_written (bind1 rfl fun _ _ _ _ _ _ _ => rfl) rfl fun cdv A outer s H E hr tk po => by
    refine ⟨_, (jb_one (js_ret (je_op op_addD (je_op op_addD (je_callTy call_strD rfl T.b_str (by decide +kernel) (ja_cons (je_ix (je_var (pv 0)) je_int) ja_nil)) je_str) (je_callTy call_strD rfl T.b_str (by decide +kernel) (ja_cons (je_ix (je_var (pv 0)) je_int) ja_nil))))), ?_⟩
    rintro ds q t ⟨r, rfl, h1, h⟩ -
    refine ⟨_, rfl, ?_, _, _, rfl, rfl, by decide, _, rfl, ?_, _, _, rfl, rfl, by decide, h⟩
    · exact Nat.lt_of_lt_of_le (PySem.Flt.log2_lt_of (by decide) h1.1) (by decide)
    · exact Nat.lt_of_lt_of_le (PySem.Flt.log2_lt_of (by decide) (den3 h1)) (by decide)
end
end SC
end

section
set_option maxHeartbeats 4000000
namespace SC
open PySem L2 DL
section
variable {P : Program} {w : World} {K : PySem.W.Frag} {mg : Str → Option Value} {base : Heap}

theorem gmax_bd {x y : Rat} {B : Nat} (hx : Bd B x) (hy : Bd B y) : Bd B (gmax x y) := by unfold gmax; split <;> assumption
theorem gmin_bd {x y : Rat} {B : Nat} (hx : Bd B x) (hy : Bd B y) : Bd B (gmin x y) := by unfold gmin; split <;> assumption
abbrev cFold (f : Rat → Rat → Rat) : PC := fun ds q _ => ∃ (r : Rat) (rs : List Rat), ds = [.lst ((r :: rs).map fr)] ∧ (∀ x ∈ r :: rs, Bd 3000 x) ∧ q (fr (rs.foldl f r))
abbrev cAdd : PC := fun ds q _ => ∃ rs : List Rat, ds = [.lst (rs.map fr)] ∧ rs.length ≤ 3 ∧ (∀ x ∈ rs, Bd 900 x) ∧ q (fr (rs.foldl (fun x y => x + y) 0))
theorem cut_tail (x : D) (xs : List D) : cutD (x :: xs) (some 1) none = xs := by
  have h1 : HT.sIx (x :: xs).length 0 (some 1) = 1 := by
    unfold HT.sIx
    simp
  unfold cutD
  rw [h1, show HT.sIx (x :: xs).length (x :: xs).length none = (x :: xs).length from rfl]
  simp
theorem cut_to (xs ys : List D) (k : Int) (h : k = xs.length) : cutD (xs ++ ys) none (some k) = xs := by
  subst h
  have h1 : HT.sIx (xs ++ ys).length (xs ++ ys).length (some (xs.length : Int)) = xs.length := by
    unfold HT.sIx
    simp
    omega
  unfold cutD
  rw [h1, show HT.sIx (xs ++ ys).length 0 none = 0 from rfl]
  simp
theorem cut_from (xs ys : List D) (y : D) (k : Int) (h : k = xs.length + 1) : cutD (xs ++ y :: ys) (some k) none = ys := by
  subst h
  have h1 : HT.sIx (xs ++ y :: ys).length 0 (some ((xs.length : Int) + 1)) = xs.length + 1 := by
    unfold HT.sIx
    simp
    omega
  unfold cutD
  rw [h1, show HT.sIx (xs ++ y :: ys).length (xs ++ y :: ys).length none = (xs ++ y :: ys).length from rfl]
  rw [List.drop_append, List.drop_eq_nil_of_le (by omega), List.nil_append, show xs.length + 1 - xs.length = 1 from by omega]
  show List.take _ ys = ys
  apply List.take_of_length_le
  simp only [List.length_append, List.length_cons]
  omega
theorem atI_zero {α : Type} (x : α) (xs : List α) : atI (x :: xs) 0 = some x := atI_nat (xs := x :: xs) (j := 0) rfl
abbrev N_greatest_in : List Str := ["some", "found", "one"]
theorem sc_greatest_in : FnScope N_greatest_in ["some"] (defScope s_greatest_in) := ⟨rfl, rfl, rfl, by decide +kernel, rfl, by decide +kernel, by decide +kernel⟩
theorem ok_greatest_in (T : Tx K mg) : FnG P w K mg base "greatest_in" 3 (sp0 K 1 (cFold gmax)) :=
  mkG0 T 26 rfl rfl sc_greatest_in (bind1 rfl fun _ _ _ _ _ _ _ => rfl) rfl fun cdv A outer s H E hr tk po => by
    refine ⟨_, (jb_cons (js_set (i := 1) sc_greatest_in.nd rfl (by first | exact .inl rfl | exact .inr rfl) (je_ix (je_var (pv 0)) je_int))
    (jb_cons (js_for po rfl (ji_lst (je_sl (je_var (pv 0)) (jp_some je_int) jp_none)) (jg_name (pg_name (i := 2) sc_greatest_in.nd rfl (by first | exact .inl rfl | exact .inr rfl))) (jb_one (js_set (i := 1) sc_greatest_in.nd rfl (by first | exact .inl rfl | exact .inr rfl) (je_call0 (ok_greater_of T) (hr.mono (by decide)) tk rfl (ja_cons (je_var (pv 1)) (ja_cons (je_var (pv 2)) ja_nil))))))
    (jb_one (js_ret (je_var (pv 1)))))), ?_⟩
    rintro ds q t ⟨r, rs, rfl, hb, h⟩ -
    refine ⟨fr r, atI_zero _ _, ?_⟩
    have hcut : cutD ((r :: rs).map fr) (some 1) none = rs.map fr := cut_tail _ _
    show forD _ _ _ (cutD ((r :: rs).map fr) (some 1) none) _ _
    rw [hcut]
    refine for_inv (fun items ds S => S = [] ∧ ∃ (x : Rat) (l : List Rat) (p : Option D), items = l.map fr ∧ l.foldl gmax x = rs.foldl gmax r ∧ Bd 3000 x ∧ (∀ y ∈ l, Bd 3000 y) ∧ ds = [some (.lst ((r :: rs).map fr)), some (fr x), p]) ?_ ?_ _ _ _ ⟨rfl, r, rs, none, rfl, rfl, hb r List.mem_cons_self, fun y hy => hb y (List.mem_cons_of_mem _ hy), rfl⟩
    · rintro d items ds S ⟨rfl, x, l, p, e, ef, hx, hl, rfl⟩ k hk
      cases l with
      | nil => cases e
      | cons y l =>
        injection e with e1 e2
        subst e1 e2
        exact ⟨x, y, rfl, hx, hl y List.mem_cons_self, hk _ _ ⟨rfl, gmax x y, l, some (fr y), rfl, ef, gmax_bd hx (hl y List.mem_cons_self), fun z hz => hl z (List.mem_cons_of_mem _ hz), rfl⟩⟩
    · rintro ds S ⟨rfl, x, l, p, e, ef, hx, hl, rfl⟩
      cases l with
      | nil =>
        rw [← ef] at h
        exact h
      | cons y l => cases e
abbrev N_least_in : List Str := ["some", "found", "one"]
theorem sc_least_in : FnScope N_least_in ["some"] (defScope s_least_in) := ⟨rfl, rfl, rfl, by decide +kernel, rfl, by decide +kernel, by decide +kernel⟩
theorem ok_least_in (T : Tx K mg) : FnG P w K mg base "least_in" 3 (sp0 K 1 (cFold gmin)) :=
  mkG0 T 27 rfl rfl sc_least_in (bind1 rfl fun _ _ _ _ _ _ _ => rfl) rfl fun cdv A outer s H E hr tk po => by
    refine ⟨_, (jb_cons (js_set (i := 1) sc_least_in.nd rfl (by first | exact .inl rfl | exact .inr rfl) (je_ix (je_var (pv 0)) je_int))
    (jb_cons (js_for po rfl (ji_lst (je_sl (je_var (pv 0)) (jp_some je_int) jp_none)) (jg_name (pg_name (i := 2) sc_least_in.nd rfl (by first | exact .inl rfl | exact .inr rfl))) (jb_one (js_set (i := 1) sc_least_in.nd rfl (by first | exact .inl rfl | exact .inr rfl) (je_call0 (ok_lesser_of T) (hr.mono (by decide)) tk rfl (ja_cons (je_var (pv 1)) (ja_cons (je_var (pv 2)) ja_nil))))))
    (jb_one (js_ret (je_var (pv 1)))))), ?_⟩
    rintro ds q t ⟨r, rs, rfl, hb, h⟩ -
    refine ⟨fr r, atI_zero _ _, ?_⟩
    have hcut : cutD ((r :: rs).map fr) (some 1) none = rs.map fr := cut_tail _ _
    show forD _ _ _ (cutD ((r :: rs).map fr) (some 1) none) _ _
    rw [hcut]
    refine for_inv (fun items ds S => S = [] ∧ ∃ (x : Rat) (l : List Rat) (p : Option D), items = l.map fr ∧ l.foldl gmin x = rs.foldl gmin r ∧ Bd 3000 x ∧ (∀ y ∈ l, Bd 3000 y) ∧ ds = [some (.lst ((r :: rs).map fr)), some (fr x), p]) ?_ ?_ _ _ _ ⟨rfl, r, rs, none, rfl, rfl, hb r List.mem_cons_self, fun y hy => hb y (List.mem_cons_of_mem _ hy), rfl⟩
    · rintro d items ds S ⟨rfl, x, l, p, e, ef, hx, hl, rfl⟩ k hk
      cases l with
      | nil => cases e
      | cons y l =>
        injection e with e1 e2
        subst e1 e2
        exact ⟨x, y, rfl, hx, hl y List.mem_cons_self, hk _ _ ⟨rfl, gmin x y, l, some (fr y), rfl, ef, gmin_bd hx (hl y List.mem_cons_self), fun z hz => hl z (List.mem_cons_of_mem _ hz), rfl⟩⟩
    · rintro ds S ⟨rfl, x, l, p, e, ef, hx, hl, rfl⟩
      cases l with
      | nil =>
        rw [← ef] at h
        exact h
      | cons y l => cases e
abbrev N_added : List Str := ["some", "total", "one"]
theorem sc_added : FnScope N_added ["some"] (defScope s_added) := ⟨rfl, rfl, rfl, by decide +kernel, rfl, by decide +kernel, by decide +kernel⟩
theorem ok_added (T : Tx K mg) : FnG P w K mg base "added" 4 (sp0 K 1 cAdd) :=
  mkG0 T 23 rfl rfl sc_added (bind1 rfl fun _ _ _ _ _ _ _ => rfl) rfl fun cdv A outer s H E hr tk po => by
    refine ⟨_, (jb_cons (js_set (i := 1) sc_added.nd rfl (by first | exact .inl rfl | exact .inr rfl) (je_tup (ja_cons je_int (ja_cons je_int ja_nil))))
    (jb_cons (js_for po rfl (ji_lst (je_var (pv 0))) (jg_name (pg_name (i := 2) sc_added.nd rfl (by first | exact .inl rfl | exact .inr rfl))) (jb_one (js_set (i := 1) sc_added.nd rfl (by first | exact .inl rfl | exact .inr rfl) (je_call0 (ok_plus T) (hr.mono (by decide)) tk rfl (ja_cons (je_var (pv 1)) (ja_cons (je_var (pv 2)) ja_nil))))))
    (jb_one (js_ret (je_var (pv 1)))))), ?_⟩
    rintro ds q t ⟨rs, rfl, hl3, hb, h⟩ -
    refine for_inv (fun items ds S => S = [] ∧ ∃ (x : Rat) (l : List Rat) (p : Option D), items = l.map fr ∧ l.foldl (fun x y => x + y) x = rs.foldl (fun x y => x + y) 0 ∧ Bd (2950 - 920 * l.length) x ∧ l.length ≤ 3 ∧ (∀ y ∈ l, Bd 900 y) ∧ ds = [some (.lst (rs.map fr)), some (fr x), p]) ?_ ?_ _ _ _
      ⟨rfl, 0, rs, none, rfl, rfl, ⟨Nat.pow_pos (by decide), Nat.one_lt_two_pow (by omega)⟩, hl3, hb, rfl⟩
    · rintro d items ds S ⟨rfl, x, l, p, e, ef, hx, h3, hl, rfl⟩ k hk
      cases l with
      | nil => cases e
      | cons y l =>
        injection e with e1 e2
        subst e1 e2
        have hy := hl y List.mem_cons_self
        simp only [List.length_cons] at hx h3
        refine ⟨x, y, rfl, hx.mono (by omega), hy.mono (by omega), hk _ _ ⟨rfl, x + y, l, some (fr y), rfl, ef, (hx.add hy).mono (by omega), by omega, fun z hz => hl z (List.mem_cons_of_mem _ hz), rfl⟩⟩
    · rintro ds S ⟨rfl, x, l, p, e, ef, hx, h3, hl, rfl⟩
      cases l with
      | nil =>
        rw [← ef] at h
        exact h
      | cons y l => cases e
end
end SC
end

section
set_option maxHeartbeats 4000000
namespace SC
open PySem L2 DL
section
variable {P : Program} {w : World} {K : PySem.W.Frag} {mg : Str → Option Value} {base : Heap}

structure Qt where
  pay : List Int
  price : Rat
abbrev inz (ns : List Int) : D := .tup (ns.map D.int)
abbrev qd (q : Qt) : D := .tup [inz q.pay, fr q.price]
def PayOk (n : Nat) (ns : List Int) : Prop := ns.length = n ∧ ∀ p ∈ ns, -1000 ≤ p ∧ p ≤ 1000
def PriceOk (r : Rat) : Prop := -1000000 ≤ r.num ∧ r.num ≤ 1000000 ∧ (r.den : Int) ≤ 1000
def QtOk (n : Nat) (q : Qt) : Prop := PayOk n q.pay ∧ PriceOk q.price
theorem PriceOk.bd {r : Rat} (h : PriceOk r) : Bd 20 r := ⟨by have := h.1; have := h.2.1; omega, by have := h.2.2; omega⟩
abbrev cPay : PC := fun ds q _ => ∃ (ns : List Int) (n : Nat), ds = [inz ns, .int n] ∧ n ≤ 1000 ∧ PayOk n ns ∧ q (.bl true)
abbrev cChkPay : PC := fun ds q _ => ∃ (ns : List Int) (n : Nat), ds = [inz ns, .int n] ∧ n ≤ 1000 ∧ PayOk n ns ∧ q .non
/-- is the price one that is taken -/
def priceB (r : Rat) : Bool := decide (-1000000 ≤ r.num ∧ r.num ≤ 1000000) && decide ((1 : Int) ≤ r.den ∧ (r.den : Int) ≤ 1000)
abbrev cPrice : PC := fun ds q _ => ∃ r : Rat, ds = [fr r] ∧ Bd 3000 r ∧ q (.bl (priceB r))
theorem priceB_ok {r : Rat} (h : PriceOk r) : priceB r = true := by
  have := den_pos' r
  unfold priceB
  rw [decide_eq_true ⟨h.1, h.2.1⟩, decide_eq_true ⟨by omega, h.2.2⟩]; rfl
theorem fr_red (r : Rat) : Int.gcd r.num r.den = 1 := by
  have := r.reduced
  unfold Nat.Coprime at this
  simpa [Int.gcd] using this
def fracB (r : Rat) (T B : Int) : Bool := decide (-T ≤ r.num ∧ r.num ≤ T) && decide ((1 : Int) ≤ r.den ∧ (r.den : Int) ≤ B)
abbrev cFracB : PC := fun ds q _ => ∃ (r : Rat) (T B : Int), ds = [fr r, .int T, .int B] ∧ Bd 3000 r ∧ q (.bl (fracB r T B))
abbrev N_is_fraction : List Str := ["value", "top", "bottom"]
theorem sc_is_fraction : FnScope N_is_fraction ["value", "top", "bottom"] (defScope s_is_fraction) := ⟨rfl, rfl, rfl, by decide +kernel, rfl, by decide +kernel, by decide +kernel⟩
theorem ok_is_fraction (T : Tx K mg) : FnG P w K mg base "is_fraction" 3 (sp0 K 3 cFracB) :=
  mkG0 T 15 rfl rfl sc_is_fraction (bind3 rfl fun _ _ _ _ _ _ _ _ _ => rfl) rfl fun cdv A outer s H E hr tk po => by
    refine ⟨_, (jb_cons (js_if (jt_w (jw_or (jt_not (jt_val (je_callB (call_isi_tuple) rfl T.b_isinstance (by decide +kernel) (ja_cons (je_var (pv 0)) (ja_cons (je_bty (T := "tuple") T.b_tuple rfl (by decide +kernel)) ja_nil))))) (jw_or1 (jt_cmp (op_neD' hr.units) (je_callB call_lenD rfl T.b_len (by decide +kernel) (ja_cons (je_var (pv 0)) ja_nil)) je_int (nomark _))))) (jb_one (js_ret je_bl)) jb_nil)
    (jb_cons (js_if (jt_w (jw_or (jt_not (jt_val (je_call0 (ok_is_between T) (hr.mono (by decide)) tk rfl (ja_cons (je_ix (je_var (pv 0)) je_int) (ja_cons (je_un un_negD (je_var (pv 1))) (ja_cons (je_var (pv 1)) ja_nil)))))) (jw_or1 (jt_not (jt_val (je_call0 (ok_is_between T) (hr.mono (by decide)) tk rfl (ja_cons (je_ix (je_var (pv 0)) je_int) (ja_cons je_int (ja_cons (je_var (pv 2)) ja_nil))))))))) (jb_one (js_ret je_bl)) jb_nil)
    (jb_one (js_ret (je_cmp (op_eqD' hr.units) (je_call0 (ok_common_divisor T) (hr.mono (by decide)) tk rfl (ja_cons (je_ix (je_var (pv 0)) je_int) (ja_cons (je_ix (je_var (pv 0)) je_int) ja_nil))) je_int (nomark _)))))), ?_⟩
    rintro ds q t ⟨r, U, B, rfl, h1, h⟩ -
    refine ⟨rfl, _, rfl, r.num, _, _, rfl, ?_⟩
    by_cases c1 : -U ≤ r.num ∧ r.num ≤ U
    · refine onF (by simp [c1]) ?_
      refine ⟨_, rfl, r.den, _, _, rfl, ?_⟩
      by_cases c2 : (1 : Int) ≤ r.den ∧ (r.den : Int) ≤ B
      · refine onF (by simp [c2]) ?_
        refine ⟨_, rfl, _, rfl, _, _, rfl, Nat.lt_of_lt_of_le (den3 h1) (Nat.pow_le_pow_right (by decide) (by decide)), ?_⟩
        show q (.bl (false ^^ decide (((Int.gcd r.num r.den : Nat) : Int) = 1)))
        rw [fr_red]
        rw [fracB, decide_eq_true c1, decide_eq_true c2] at h
        exact h
      · refine onT (by simp [c2]) ?_
        rw [fracB, decide_eq_true c1, decide_eq_false c2] at h
        exact h
    · refine onT (by simp [c1]) ?_
      rw [fracB, decide_eq_false c1] at h
      exact h
abbrev N_is_payoff : List Str := ["value", "outcomes", "number"]
theorem sc_is_payoff : FnScope N_is_payoff ["value", "outcomes"] (defScope s_is_payoff) := ⟨rfl, rfl, rfl, by decide +kernel, rfl, by decide +kernel, by decide +kernel⟩
theorem ok_is_payoff (T : Tx K mg) : FnG P w K mg base "is_payoff" 3 (sp0 K 2 cPay) :=
  mkG0 T 39 rfl rfl sc_is_payoff (bind2 rfl fun _ _ _ _ _ _ _ _ => rfl) rfl fun cdv A outer s H E hr tk po => by
    refine ⟨_, (jb_cons (js_if (jt_w (jw_or (jt_not (jt_val (je_callB (call_isi_tuple) rfl T.b_isinstance (by decide +kernel) (ja_cons (je_var (pv 0)) (ja_cons (je_bty (T := "tuple") T.b_tuple rfl (by decide +kernel)) ja_nil))))) (jw_or1 (jt_cmp (op_neD' hr.units) (je_callB call_lenD rfl T.b_len (by decide +kernel) (ja_cons (je_var (pv 0)) ja_nil)) (je_var (pv 1)) (nomark _))))) (jb_one (js_ret je_bl)) jb_nil)
    (jb_one (js_ret (je_callB (call_allD rfl) rfl T.b_all (by decide +kernel) (ja_cons (je_lc (own := [("number", 2)]) (g := (gName 2)) rfl sc_is_payoff.nd (ji_tup (je_var (pv 0))) (blkOk_by (own := [("number", 2)]) (N := N_is_payoff) (sc := defScope s_is_payoff) (by decide +kernel)) (fun _ _ _ _ _ => (pg_name (i := 2) sc_is_payoff.nd rfl (Or.inl rfl))) gok_name (fun _ _ _ _ _ => jts_nil) (fun _ _ _ _ _ => (je_call0 (ok_is_between T) (hr.mono (by decide)) L2.takes0 rfl (ja_cons (je_var (pv 2)) (ja_cons (je_un un_negD (je_gint T.MOST_NUMBER rfl)) (ja_cons (je_gint T.MOST_NUMBER rfl) ja_nil)))))) ja_nil))))), ?_⟩
    rintro ds q t ⟨ns, n, rfl, hn, ⟨hl, hb⟩, h⟩ -
    refine ⟨rfl, ?_⟩
    refine onF (by simp [hl]) ?_
    refine lc_map (fun _ => .bl true) (fun _ _ => rfl) (by simp; omega) (fun d hd K hK => ?_) ?_
    · obtain ⟨a, ha, rfl⟩ := List.mem_map.mp hd
      refine ⟨a, _, _, rfl, ?_⟩
      rw [decide_eq_true (hb a ha)]
      exact hK
    · refine ⟨ns.map fun _ => true, by simp, ?_⟩
      rw [show (ns.map fun _ => true).all id = true from by simp]
      exact h
abbrev N_is_price : List Str := ["value"]
theorem sc_is_price : FnScope N_is_price ["value"] (defScope s_is_price) := ⟨rfl, rfl, rfl, by decide +kernel, rfl, by decide +kernel, by decide +kernel⟩
theorem ok_is_price (T : Tx K mg) : FnG P w K mg base "is_price" 4 (sp0 K 1 cPrice) :=
  mkG0 T 40 rfl rfl sc_is_price (bind1 rfl fun _ _ _ _ _ _ _ => rfl) rfl fun cdv A outer s H E hr tk po => by
    refine ⟨_, (jb_one (js_ret (je_call0 (ok_is_fraction T) (hr.mono (by decide)) tk rfl (ja_cons (je_var (pv 0)) (ja_cons (je_gint T.MOST_PRICE_TOP rfl) (ja_cons (je_gint T.MOST_PRICE_BOTTOM rfl) ja_nil)))))), ?_⟩
    rintro ds q t ⟨r, rfl, h1, h⟩ -
    exact ⟨r, _, _, rfl, h1, h⟩
end
end SC
end

section
set_option maxHeartbeats 4000000
namespace SC
open PySem L2 DL
section
variable {P : Program} {w : World} {K : PySem.W.Frag} {mg : Str → Option Value} {base : Heap}

/-- numbered from i -/
def enF : Nat → List D → List D
  | _, [] => []
  | i, x :: xs => .tup [.int (i : Int), x] :: enF (i + 1) xs
theorem enumD_from (xs : List D) : enumD xs = enF 0 xs := by
  have go : ∀ (xs : List D) (i : Nat), ((List.range' i xs.length).zip xs).map (fun p => D.tup [.int (p.1 : Int), p.2]) = enF i xs := by
    intro xs
    induction xs with
    | nil => intro i; rfl
    | cons x xs ih =>
      intro i
      rw [List.length_cons, List.range'_succ, List.zip_cons_cons, List.map_cons, ih (i + 1)]
      rfl
  unfold enumD
  rw [List.range_eq_range']
  exact go xs 0
def QsOk (n : Nat) (qs : List Qt) : Prop := qs.length ≤ 31 ∧ ∀ q ∈ qs, QtOk n q
abbrev qsd (qs : List Qt) : D := .tup (qs.map qd)
abbrev bkd (n : Nat) (qs : List Qt) : D := .obj .book [.tup [.int n, qsd qs], .any]
abbrev cQuote : PC := fun ds q _ => ∃ (x : Qt) (n : Nat), ds = [qd x, .int n] ∧ n ≤ 6 ∧ QtOk n x ∧ q (.bl true)
abbrev cChkPrice : PC := fun ds q _ => ∃ r : Rat, ds = [fr r] ∧ PriceOk r ∧ q .non
abbrev cChkQs : PC := fun ds q _ => ∃ (qs : List Qt) (n : Nat), ds = [qsd qs, .int n] ∧ n ≤ 6 ∧ QsOk n qs ∧ q .non
abbrev cQText : PC := fun ds q _ => ∃ (x : Qt) (n : Nat), ds = [qd x] ∧ n ≤ 6 ∧ QtOk n x ∧ q (.txt 20000)
abbrev N_is_quote : List Str := ["value", "outcomes"]
theorem sc_is_quote : FnScope N_is_quote ["value", "outcomes"] (defScope s_is_quote) := ⟨rfl, rfl, rfl, by decide +kernel, rfl, by decide +kernel, by decide +kernel⟩
theorem ok_is_quote (T : Tx K mg) : FnG P w K mg base "is_quote" 5 (sp0 K 2 cQuote) :=
  mkG0 T 41 rfl rfl sc_is_quote (bind2 rfl fun _ _ _ _ _ _ _ _ => rfl) rfl fun cdv A outer s H E hr tk po => by
    refine ⟨_, (jb_cons (js_if (jt_w (jw_or (jt_not (jt_val (je_callB (call_isi_tuple) rfl T.b_isinstance (by decide +kernel) (ja_cons (je_var (pv 0)) (ja_cons (je_bty (T := "tuple") T.b_tuple rfl (by decide +kernel)) ja_nil))))) (jw_or1 (jt_cmp (op_neD' hr.units) (je_callB call_lenD rfl T.b_len (by decide +kernel) (ja_cons (je_var (pv 0)) ja_nil)) je_int (nomark _))))) (jb_one (js_ret je_bl)) jb_nil)
    (jb_one (js_ret (je_and (je_call0 (ok_is_payoff T) (hr.mono (by decide)) tk rfl (ja_cons (je_ix (je_var (pv 0)) je_int) (ja_cons (je_var (pv 1)) ja_nil))) (je_one (je_call0 (ok_is_price T) (hr.mono (by decide)) tk rfl (ja_cons (je_ix (je_var (pv 0)) je_int) ja_nil))))))), ?_⟩
    rintro ds q t ⟨x, n, rfl, hn, ⟨h1, h2⟩, h⟩ -
    refine ⟨rfl, _, rfl, _, n, rfl, by omega, h1, _, rfl, _, rfl, h2.bd.mono (by decide), ?_⟩
    rw [priceB_ok h2]
    exact h
abbrev N_check_payoff : List Str := ["value", "outcomes"]
theorem sc_check_payoff : FnScope N_check_payoff ["value", "outcomes"] (defScope s_check_payoff) := ⟨rfl, rfl, rfl, by decide +kernel, rfl, by decide +kernel, by decide +kernel⟩
theorem ok_check_payoff (T : Tx K mg) : FnG P w K mg base "check_payoff" 4 (sp0 K 2 cChkPay) :=
  mkG0 T 45 rfl rfl sc_check_payoff (bind2 rfl fun _ _ _ _ _ _ _ _ => rfl) rfl fun cdv A outer s H E hr tk po => by
    refine ⟨_, (jb_one (js_if (jt_not (jt_val (je_call0 (ok_is_payoff T) (hr.mono (by decide)) tk rfl (ja_cons (je_var (pv 0)) (ja_cons (je_var (pv 1)) ja_nil))))) (jb_one js_never) jb_nil)), ?_⟩
    rintro ds q t ⟨ns, n, rfl, hn, h1, h⟩ -
    exact ⟨ns, n, rfl, hn, h1, h⟩
abbrev N_check_price : List Str := ["value"]
theorem sc_check_price : FnScope N_check_price ["value"] (defScope s_check_price) := ⟨rfl, rfl, rfl, by decide +kernel, rfl, by decide +kernel, by decide +kernel⟩
theorem ok_check_price (T : Tx K mg) : FnG P w K mg base "check_price" 5 (sp0 K 1 cChkPrice) :=
  mkG0 T 46 rfl rfl sc_check_price (bind1 rfl fun _ _ _ _ _ _ _ => rfl) rfl fun cdv A outer s H E hr tk po => by
    refine ⟨_, (jb_one (js_if (jt_not (jt_val (je_call0 (ok_is_price T) (hr.mono (by decide)) tk rfl (ja_cons (je_var (pv 0)) ja_nil)))) (jb_one js_never) jb_nil)), ?_⟩
    rintro ds q t ⟨r, rfl, h1, h⟩ -
    refine ⟨r, rfl, h1.bd.mono (by decide), ?_⟩
    rw [priceB_ok h1]
    exact h
abbrev N_check_quotes : List Str := ["quotes", "outcomes", "index", "quote"]
theorem sc_check_quotes : FnScope N_check_quotes ["quotes", "outcomes"] (defScope s_check_quotes) := ⟨rfl, rfl, rfl, by decide +kernel, rfl, by decide +kernel, by decide +kernel⟩
theorem ok_check_quotes (T : Tx K mg) : FnG P w K mg base "check_quotes" 6 (sp0 K 2 cChkQs) :=
  mkG0 T 42 rfl rfl sc_check_quotes (bind2 rfl fun _ _ _ _ _ _ _ _ => rfl) rfl fun cdv A outer s H E hr tk po => by
    refine ⟨_, (jb_cons (js_if (jt_not (jt_val (je_callB (call_isi_tuple) rfl T.b_isinstance (by decide +kernel) (ja_cons (je_var (pv 0)) (ja_cons (je_bty (T := "tuple") T.b_tuple rfl (by decide +kernel)) ja_nil))))) (jb_one js_never) jb_nil)
    (jb_one (js_for po rfl (ji_enumT rfl T.b_enumerate (je_var (pv 0))) (jg_tup rfl (jgs_cons (jg_name (pg_name (i := 2) sc_check_quotes.nd rfl (by first | exact .inl rfl | exact .inr rfl))) (jgs_cons (jg_name (pg_name (i := 3) sc_check_quotes.nd rfl (by first | exact .inl rfl | exact .inr rfl))) jgs_nil))) (jb_one (js_if (jt_w (jw_or (jt_cmp (op_eqD' hr.units) (je_var (pv 2)) (je_gint T.MOST_QUOTES rfl) (nomark _)) (jw_or1 (jt_not (jt_val (je_call0 (ok_is_quote T) (hr.mono (by decide)) tk rfl (ja_cons (je_var (pv 3)) (ja_cons (je_var (pv 1)) ja_nil)))))))) (jb_one js_never) jb_nil))))), ?_⟩
    rintro ds q t ⟨qs, n, rfl, hn, ⟨hl, hq⟩, h⟩ -
    refine ⟨rfl, ?_⟩
    show forD _ _ _ (enumD (qs.map qd)) _ _
    rw [enumD_from]
    refine for_inv (fun items ds S => S = [] ∧ ∃ (i : Nat) (l : List Qt) (p p2 : Option D), items = enF i (l.map qd) ∧ i + l.length ≤ 31 ∧ (∀ x ∈ l, QtOk n x) ∧ ds = [some (qsd qs), some (.int n), p, p2]) ?_ ?_ _ _ _ ⟨rfl, 0, qs, none, none, rfl, by omega, hq, rfl⟩
    · rintro d items ds S ⟨rfl, i, l, p, p2, e, hi, hl2, rfl⟩ k hk
      cases l with
      | nil => cases e
      | cons x l =>
        injection e with e1 e2
        subst e1 e2
        simp only [List.length_cons] at hi
        refine onF (by simp; omega) ?_
        exact ⟨x, n, rfl, hn, hl2 x List.mem_cons_self, hk _ _ ⟨rfl, i + 1, l, _, _, rfl, by omega, fun y hy => hl2 y (List.mem_cons_of_mem _ hy), rfl⟩⟩
    · rintro ds S ⟨rfl, i, l, p, p2, e, hi, hl2, rfl⟩
      exact h
end
end SC
end

section
set_option maxHeartbeats 4000000
namespace SC
open PySem L2 DL
section
variable {P : Program} {w : World} {K : PySem.W.Frag} {mg : Str → Option Value} {base : Heap}

theorem lens_const (n : Nat) : ∀ (xs : List D), (∀ d ∈ xs, tlen d = some n) → lensD xs = some (xs.length * n)
  | [], _ => by simp [lensD]
  | d :: r, h => by
    have h1 := h d List.mem_cons_self
    have h2 := lens_const n r fun e he => h e (List.mem_cons_of_mem _ he)
    show (match tlen d, lensD r with
      | some n, some m => some (n + m)
      | _, _ => none) = _
    rw [h1, h2]
    simp [Nat.succ_mul, Nat.add_comm]
abbrev qtxt (n : Nat) : Nat := n * 1901 + n * 1 + 2 + 3803
abbrev cQT : PC := fun ds q _ => ∃ (x : Qt) (n : Nat), ds = [qd x] ∧ n ≤ 6 ∧ QtOk n x ∧ q (.txt (qtxt n))
abbrev cBookI : PI_ := fun ds q => ∃ (qs : List Qt) (n : Nat), ds = [.int n, qsd qs] ∧ 2 ≤ n ∧ n ≤ 6 ∧ QsOk n qs ∧ q [.ins .book [.tup [.int n, qsd qs], .any]]
abbrev cOutc : PC := fun ds q _ => ∃ (qs : List Qt) (n : Nat), ds = [bkd n qs] ∧ q (.int n)
abbrev cQuotes : PC := fun ds q _ => ∃ (qs : List Qt) (n : Nat), ds = [bkd n qs] ∧ q (qsd qs)
def BkOk (n : Nat) (qs : List Qt) : Prop := 2 ≤ n ∧ n ≤ 6 ∧ QsOk n qs
theorem log_small {i : Int} {B : Nat} (h : i.natAbs < 2 ^ B) (h1 : B ≤ 1900) (h0 : 0 < B) : i.natAbs.log2 < 1900 := Nat.lt_of_lt_of_le (PySem.Flt.log2_lt_of h0 h) h1
abbrev N_quote_text : List Str := ["quote", "number"]
theorem sc_quote_text : FnScope N_quote_text ["quote"] (defScope s_quote_text) := ⟨rfl, rfl, rfl, by decide +kernel, rfl, by decide +kernel, by decide +kernel⟩
theorem ok_quote_text (T : Tx K mg) : FnG P w K mg base "quote_text" 2 (sp0 K 1 cQT) :=
  mkG0 T 43 rfl rfl sc_quote_text (bind1 rfl fun _ _ _ _ _ _ _ => rfl) rfl fun cdv A outer s H E hr tk po => by
    refine ⟨_, (jb_one (js_ret (je_op op_addD (je_op op_addD (je_joinD je_str (je_lc (own := [("number", 1)]) (g := (gName 1)) rfl sc_quote_text.nd (ji_tup (je_ix (je_var (pv 0)) je_int)) (blkOk_by (own := [("number", 1)]) (N := N_quote_text) (sc := defScope s_quote_text) (by decide +kernel)) (fun _ _ _ _ _ => (pg_name (i := 1) sc_quote_text.nd rfl (Or.inl rfl))) gok_name (fun _ _ _ _ _ => jts_nil) (fun _ _ _ _ _ => (je_callTy call_strD rfl T.b_str (by decide +kernel) (ja_cons (je_var (pv 1)) ja_nil))))) je_str) (je_call0 (ok_written T) (hr.mono (by decide)) tk rfl (ja_cons (je_ix (je_var (pv 0)) je_int) ja_nil))))), ?_⟩
    rintro ds q t ⟨x, n, rfl, hn, ⟨⟨hl, hp⟩, h2⟩, h⟩ -
    refine ⟨_, rfl, ?_⟩
    refine lc_map (fun _ => .txt 1901) (fun _ _ => rfl) (by simp; omega) (fun d hd K hK => ?_) ?_
    · obtain ⟨a, ha, rfl⟩ := List.mem_map.mp hd
      have := hp a ha
      exact ⟨log_small (B := 10) (by omega) (by decide) (by decide), hK⟩
    · refine ⟨n * 1901, ?_, ?_, ?_⟩
      · rw [lens_const 1901 _ (by intro d hd; obtain ⟨_, _, rfl⟩ := List.mem_map.mp hd; rfl)]
        simp [hl]
      · simp only [List.length_map, hl]
        have : (Str.ofString ",").length = 1 := by decide
        rw [this]
        omega
      · simp only [List.length_map, hl]
        have e1 : (Str.ofString ",").length = 1 := by decide
        rw [e1]
        refine ⟨_, 2, rfl, by decide, by omega, _, rfl, x.price, rfl, h2.bd.mono (by decide), ?_⟩
        exact ⟨_, _, rfl, rfl, by omega, h⟩
abbrev N_Book_init : List Str := ["self", "outcomes", "quotes", "quote"]
theorem sc_Book_init : FnScope N_Book_init ["self", "outcomes", "quotes"] (defScope s_Book_init) := ⟨rfl, rfl, rfl, by decide +kernel, rfl, by decide +kernel, by decide +kernel⟩
theorem ok_Book_init (T : Tx K mg) : FnC P w K mg base "Book" Cl.book.adr 7 (spI K 2 .book cBookI) :=
  mkC T 47 rfl T.k_Book T.g_Book sc_Book_init (bind3 rfl fun _ _ _ _ _ _ _ _ _ => rfl) rfl fun cdv A outer s H E hr tk po => by
    refine ⟨_, (jb_cons (js_if (jt_not (jt_val (je_call0 (ok_is_between T) (hr.mono (by decide)) tk rfl (ja_cons (je_var (pv 1)) (ja_cons je_int (ja_cons (je_gint T.MOST_OUTCOMES rfl) ja_nil)))))) (jb_one js_never) jb_nil)
    (jb_cons (js_expr (je_call0 (ok_check_quotes T) (hr.mono (by decide)) tk rfl (ja_cons (je_var (pv 2)) (ja_cons (je_var (pv 1)) ja_nil))))
    (jb_cons (js_setF T.cf .book 0 id (.inl rfl) (je_var (pv 0)) (je_tup (ja_cons (je_var (pv 1)) (ja_cons (je_var (pv 2)) ja_nil))))
    (jb_one (js_setF T.cf .book 1 (fun _ => .any) (.inr rfl) (je_var (pv 0)) (je_joinD je_str (je_op op_addD (je_lst (ja_cons (je_op op_addD (je_callTy call_strD rfl T.b_str (by decide +kernel) (ja_cons (je_var (pv 1)) ja_nil)) je_str) ja_nil)) (je_lc (own := [("quote", 3)]) (g := (gName 3)) rfl sc_Book_init.nd (ji_tup (je_var (pv 2))) (blkOk_by (own := [("quote", 3)]) (N := N_Book_init) (sc := defScope s_Book_init) (by decide +kernel)) (fun _ _ _ _ _ => (pg_name (i := 3) sc_Book_init.nd rfl (Or.inl rfl))) gok_name (fun _ _ _ _ _ => jts_nil) (fun _ _ _ _ _ => (je_call0 (ok_quote_text T) (hr.mono (by decide)) L2.takes0 rfl (ja_cons (je_var (pv 3)) ja_nil))))))))))), ?_⟩
    rintro ds q ⟨qs, n, rfl, h2, h6, hq, h⟩ -
    refine ⟨_, _, _, rfl, ?_⟩
    rw [decide_eq_true (show (2 : Int) ≤ (n : Int) ∧ (n : Int) ≤ 6 by omega)]
    refine ⟨qs, n, rfl, h6, hq, ?_⟩
    refine ⟨log_small (B := 3) (by omega) (by decide) (by decide), ?_⟩
    refine ⟨_, 1, rfl, by decide, by decide, ?_⟩
    refine lc_map (fun _ => .txt (qtxt n)) (fun _ _ => rfl) (by have := hq.1; simp; omega) (fun d hd K hK => ?_) ?_
    · obtain ⟨x, hx, rfl⟩ := List.mem_map.mp hd
      exact ⟨x, n, rfl, h6, hq.2 x hx, hK⟩
    · have hl := hq.1
      refine ⟨by simp; omega, 1902 + qs.length * qtxt n, ?_, ?_, h⟩
      · show (match tlen (.txt 1902), lensD ((qs.map qd).map fun _ => D.txt (qtxt n)) with
          | some n, some m => some (n + m)
          | _, _ => none) = _
        rw [lens_const (qtxt n) _ (by intro d hd; obtain ⟨_, _, rfl⟩ := List.mem_map.mp hd; rfl)]
        simp [tlen]
      · have e1 : (Str.ofString " ").length = 1 := by decide
        rw [e1]
        have : qs.length * qtxt n ≤ 31 * qtxt 6 := Nat.mul_le_mul hl (by unfold qtxt; omega)
        have e2 : qtxt 6 = 15217 := by decide
        simp only [List.length_append, List.length_map, List.length_cons, List.length_nil]
        omega
abbrev N_Book_outcomes : List Str := ["self"]
theorem sc_Book_outcomes : FnScope N_Book_outcomes ["self"] (defScope s_Book_outcomes) := ⟨rfl, rfl, rfl, by decide +kernel, rfl, by decide +kernel, by decide +kernel⟩
theorem ok_Book_outcomes (T : Tx K mg) : FnP P w K mg base Cl.book.adr "outcomes" 1 (sp0 K 1 cOutc) :=
  mkP0 T 49 rfl T.p_Book_outcomes sc_Book_outcomes (bind1 rfl fun _ _ _ _ _ _ _ => rfl) rfl fun cdv A outer s H E hr tk po => by
    refine ⟨_, (jb_one (js_ret (je_ix (je_fld T.cf .book 0 (je_var (pv 0))) je_int))), ?_⟩
    rintro ds q t ⟨qs, n, rfl, h⟩ -
    exact ⟨_, rfl, h⟩
abbrev N_Book_quotes : List Str := ["self"]
theorem sc_Book_quotes : FnScope N_Book_quotes ["self"] (defScope s_Book_quotes) := ⟨rfl, rfl, rfl, by decide +kernel, rfl, by decide +kernel, by decide +kernel⟩
theorem ok_Book_quotes (T : Tx K mg) : FnP P w K mg base Cl.book.adr "quotes" 1 (sp0 K 1 cQuotes) :=
  mkP0 T 50 rfl T.p_Book_quotes sc_Book_quotes (bind1 rfl fun _ _ _ _ _ _ _ => rfl) rfl fun cdv A outer s H E hr tk po => by
    refine ⟨_, (jb_one (js_ret (je_ix (je_fld T.cf .book 0 (je_var (pv 0))) je_int))), ?_⟩
    rintro ds q t ⟨qs, n, rfl, h⟩ -
    exact ⟨_, rfl, h⟩
end
end SC
end

section
set_option maxHeartbeats 4000000
namespace SC
open PySem L2 DL
section
variable {P : Program} {w : World} {K : PySem.W.Frag} {mg : Str → Option Value} {base : Heap}

theorem noLoc_map {α : Type} {f : α → D} (h : ∀ x, noLoc [f x] = true) : ∀ xs : List α, noLoc (xs.map f) = true
  | [] => rfl
  | x :: xs => by
    have h1 := h x
    have h2 := noLoc_map h xs
    rw [List.map_cons]
    cases hf : f x with
    | loc n => rw [hf] at h1; exact h1
    | _ => exact h2
abbrev cChkB : PC := fun ds q _ => ∃ (qs : List Qt) (n : Nat), ds = [bkd n qs] ∧ q .non
abbrev cChkP : PC := fun ds q _ => ∃ (qs rs : List Qt) (n m : Nat), ds = [bkd n qs, bkd m rs] ∧ q .non
abbrev cChk2 : PC := fun ds q _ => ∃ (qs rs : List Qt) (n : Nat), ds = [bkd n qs, bkd n rs] ∧ q .non
abbrev cChkIx : PC := fun ds q _ => ∃ (qs : List Qt) (n i : Nat), ds = [bkd n qs, .int i] ∧ i < qs.length ∧ q .non
abbrev cLess1 : PC := fun ds q _ => ∃ (a b : List Qt) (x : Qt) (n : Nat), ds = [bkd n (a ++ x :: b), .int a.length] ∧ BkOk n (a ++ x :: b) ∧ q (bkd n (a ++ b))
abbrev cWithQ : PC := fun ds q _ => ∃ (qs : List Qt) (x : Qt) (n : Nat), ds = [bkd n qs, inz x.pay, fr x.price] ∧ BkOk n (qs ++ [x]) ∧ q (bkd n (qs ++ [x]))
abbrev cTurned : PC := fun ds q _ => ∃ ns : List Int, ds = [inz ns] ∧ ns.length ≤ 1000 ∧ q (inz (ns.map fun x => -x))
theorem BkOk.less {n : Nat} {a b : List Qt} {x : Qt} (h : BkOk n (a ++ x :: b)) : BkOk n (a ++ b) := by
  obtain ⟨h1, h2, h3, h4⟩ := h
  refine ⟨h1, h2, ?_, fun q hq => h4 q ?_⟩
  · simp only [List.length_append, List.length_cons] at h3 ⊢; omega
  · rcases List.mem_append.mp hq with h | h
    · exact List.mem_append_left _ h
    · exact List.mem_append_right _ (List.mem_cons_of_mem _ h)
abbrev N_check_book : List Str := ["value"]
theorem sc_check_book : FnScope N_check_book ["value"] (defScope s_check_book) := ⟨rfl, rfl, rfl, by decide +kernel, rfl, by decide +kernel, by decide +kernel⟩
theorem ok_check_book (T : Tx K mg) : FnG P w K mg base "check_book" 1 (sp0 K 1 cChkB) :=
  mkG0 T 58 rfl rfl sc_check_book (bind1 rfl fun _ _ _ _ _ _ _ => rfl) rfl fun cdv A outer s H E hr tk po => by
    refine ⟨_, (jb_one (js_if (jt_not (jt_val (je_callB (call_isi_Book T.cf T.bk) rfl T.b_isinstance (by decide +kernel) (ja_cons (je_var (pv 0)) (ja_cons (je_gref T.g_Book rfl) ja_nil))))) (jb_one js_never) jb_nil)), ?_⟩
    rintro ds q t ⟨qs, n, rfl, h⟩ -
    exact ⟨rfl, h⟩
abbrev N_check_pair : List Str := ["book", "other"]
theorem sc_check_pair : FnScope N_check_pair ["book", "other"] (defScope s_check_pair) := ⟨rfl, rfl, rfl, by decide +kernel, rfl, by decide +kernel, by decide +kernel⟩
theorem ok_check_pair (T : Tx K mg) : FnG P w K mg base "check_pair" 2 (sp0 K 2 cChkP) :=
  mkG0 T 78 rfl rfl sc_check_pair (bind2 rfl fun _ _ _ _ _ _ _ _ => rfl) rfl fun cdv A outer s H E hr tk po => by
    refine ⟨_, (jb_cons (js_expr (je_call0 (ok_check_book T) (hr.mono (by decide)) tk rfl (ja_cons (je_var (pv 0)) ja_nil)))
    (jb_one (js_expr (je_call0 (ok_check_book T) (hr.mono (by decide)) tk rfl (ja_cons (je_var (pv 1)) ja_nil))))), ?_⟩
    rintro ds q t ⟨qs, rs, n, m, rfl, h⟩ -
    exact ⟨qs, n, rfl, rs, m, rfl, h⟩
abbrev N_check_two : List Str := ["book", "other"]
theorem sc_check_two : FnScope N_check_two ["book", "other"] (defScope s_check_two) := ⟨rfl, rfl, rfl, by decide +kernel, rfl, by decide +kernel, by decide +kernel⟩
theorem ok_check_two (T : Tx K mg) : FnG P w K mg base "check_two" 3 (sp0 K 2 cChk2) :=
  mkG0 T 67 rfl rfl sc_check_two (bind2 rfl fun _ _ _ _ _ _ _ _ => rfl) rfl fun cdv A outer s H E hr tk po => by
    refine ⟨_, (jb_one (js_if (jt_cmp (op_neD' hr.units) (je_prop0 (ok_Book_outcomes T) (hr.mono (by decide)) (je_var (pv 0))) (je_prop0 (ok_Book_outcomes T) (hr.mono (by decide)) (je_var (pv 1))) (nomark _)) (jb_one js_never) jb_nil)), ?_⟩
    rintro ds q t ⟨qs, rs, n, rfl, h⟩ -
    refine ⟨qs, n, rfl, rs, n, rfl, ?_⟩
    exact onF (by simp) h
abbrev N_check_index : List Str := ["book", "value"]
theorem sc_check_index : FnScope N_check_index ["book", "value"] (defScope s_check_index) := ⟨rfl, rfl, rfl, by decide +kernel, rfl, by decide +kernel, by decide +kernel⟩
theorem ok_check_index (T : Tx K mg) : FnG P w K mg base "check_index" 3 (sp0 K 2 cChkIx) :=
  mkG0 T 57 rfl rfl sc_check_index (bind2 rfl fun _ _ _ _ _ _ _ _ => rfl) rfl fun cdv A outer s H E hr tk po => by
    refine ⟨_, (jb_one (js_if (jt_not (jt_val (je_call0 (ok_is_between T) (hr.mono (by decide)) tk rfl (ja_cons (je_var (pv 1)) (ja_cons je_int (ja_cons (je_op op_subD (je_callB call_lenD rfl T.b_len (by decide +kernel) (ja_cons (je_prop0 (ok_Book_quotes T) (hr.mono (by decide)) (je_var (pv 0))) ja_nil)) je_int) ja_nil)))))) (jb_one js_never) jb_nil)), ?_⟩
    rintro ds q t ⟨qs, n, i, rfl, hi, h⟩ -
    refine ⟨qs, n, rfl, _, _, _, rfl, ?_⟩
    refine onF ?_ h
    simp only [List.length_map, Bool.not_eq_false', decide_eq_true_eq]
    omega
abbrev N_less_one : List Str := ["book", "index"]
theorem sc_less_one : FnScope N_less_one ["book", "index"] (defScope s_less_one) := ⟨rfl, rfl, rfl, by decide +kernel, rfl, by decide +kernel, by decide +kernel⟩
theorem ok_less_one (T : Tx K mg) : FnG P w K mg base "less_one" 9 (sp0 K 2 cLess1) :=
  mkG0 T 56 rfl rfl sc_less_one (bind2 rfl fun _ _ _ _ _ _ _ _ => rfl) rfl fun cdv A outer s H E hr tk po => by
    refine ⟨_, (jb_one (js_ret (je_makeF (ok_Book_init T) (hr.mono (by decide)) rfl (ja_cons (je_prop0 (ok_Book_outcomes T) (hr.mono (by decide)) (je_var (pv 0))) (ja_cons (je_tupL (ja_star (je_sl (je_prop0 (ok_Book_quotes T) (hr.mono (by decide)) (je_var (pv 0))) jp_none (jp_some (je_var (pv 1)))) (ja_star (je_sl (je_prop0 (ok_Book_quotes T) (hr.mono (by decide)) (je_var (pv 0))) (jp_some (je_op op_addD (je_var (pv 1)) je_int)) jp_none) ja_nil))) ja_nil))))), ?_⟩
    rintro ds q t ⟨a, b, x, n, rfl, hk, h⟩ -
    refine ⟨_, n, rfl, _, n, rfl, _, n, rfl, ?_⟩
    have key : (cutD ((a ++ x :: b).map qd) none (some (a.length : Int)) ++ (cutD ((a ++ x :: b).map qd) (some ((a.length : Int) + 1)) none ++ [])) = (a ++ b).map qd := by
      rw [List.map_append, List.map_cons, cut_to _ _ _ (by simp), cut_from _ _ _ _ (by simp)]
      simp
    show noLoc (cutD ((a ++ x :: b).map qd) none (some (a.length : Int)) ++ (cutD ((a ++ x :: b).map qd) (some ((a.length : Int) + 1)) none ++ [])) = true ∧ (cutD ((a ++ x :: b).map qd) none (some (a.length : Int)) ++ (cutD ((a ++ x :: b).map qd) (some ((a.length : Int) + 1)) none ++ [])).length ≤ 100000 ∧
      rMakeF .book 2 cBookI (fun _ S q _ => q [.int n, .tup (cutD ((a ++ x :: b).map qd) none (some (a.length : Int)) ++ (cutD ((a ++ x :: b).map qd) (some ((a.length : Int) + 1)) none ++ []))] S) [] [] (fun d _ => q d) fun _ _ => False
    rw [key]
    obtain ⟨h1, h2, h3⟩ := hk.less
    exact ⟨noLoc_map (fun _ => rfl) _, by have := h3.1; simp at this ⊢; omega, a ++ b, n, rfl, h1, h2, h3, rfl, h⟩
abbrev N_turned : List Str := ["payoff", "number"]
theorem sc_turned : FnScope N_turned ["payoff"] (defScope s_turned) := ⟨rfl, rfl, rfl, by decide +kernel, rfl, by decide +kernel, by decide +kernel⟩
theorem ok_turned (T : Tx K mg) : FnG P w K mg base "turned" 1 (sp0 K 1 cTurned) :=
  mkG0 T 72 rfl rfl sc_turned (bind1 rfl fun _ _ _ _ _ _ _ => rfl) rfl fun cdv A outer s H E hr tk po => by
    refine ⟨_, (jb_one (js_ret (je_callTy call_tupleD rfl T.b_tuple (by decide +kernel) (ja_cons (je_lc (own := [("number", 1)]) (g := (gName 1)) rfl sc_turned.nd (ji_tup (je_var (pv 0))) (blkOk_by (own := [("number", 1)]) (N := N_turned) (sc := defScope s_turned) (by decide +kernel)) (fun _ _ _ _ _ => (pg_name (i := 1) sc_turned.nd rfl (Or.inl rfl))) gok_name (fun _ _ _ _ _ => jts_nil) (fun _ _ _ _ _ => (je_un un_negD (je_var (pv 1))))) ja_nil)))), ?_⟩
    rintro ds q t ⟨ns, rfl, hl, h⟩ -
    refine lc_map (fun d => match d with
      | .int a => .int (-a)
      | d => d) (fun d hd => ?_) (by simp; omega) (fun d hd K hK => ?_) ?_
    · obtain ⟨a, ha, rfl⟩ := List.mem_map.mp hd
      rfl
    · obtain ⟨a, ha, rfl⟩ := List.mem_map.mp hd
      exact hK
    · show q (.tup _)
      rw [List.map_map]
      simp only [inz, List.map_map] at h
      exact h
abbrev N_Book_with_quote : List Str := ["self", "payoff", "price"]
theorem sc_Book_with_quote : FnScope N_Book_with_quote ["self", "payoff", "price"] (defScope s_Book_with_quote) := ⟨rfl, rfl, rfl, by decide +kernel, rfl, by decide +kernel, by decide +kernel⟩
theorem ok_Book_with_quote (T : Tx K mg) : FnM P w K mg base Cl.book.adr "with_quote" 9 (sp0 K 3 cWithQ) :=
  mkM0 T 51 rfl T.m_Book_with_quote sc_Book_with_quote (bind3 rfl fun _ _ _ _ _ _ _ _ _ => rfl) rfl fun cdv A outer s H E hr tk po => by
    refine ⟨_, (jb_cons (js_expr (je_call0 (ok_check_payoff T) (hr.mono (by decide)) tk rfl (ja_cons (je_var (pv 1)) (ja_cons (je_prop0 (ok_Book_outcomes T) (hr.mono (by decide)) (je_var (pv 0))) ja_nil))))
    (jb_cons (js_expr (je_call0 (ok_check_price T) (hr.mono (by decide)) tk rfl (ja_cons (je_var (pv 2)) ja_nil)))
    (jb_cons (js_if (jt_cmp (op_eqD' hr.units) (je_callB call_lenD rfl T.b_len (by decide +kernel) (ja_cons (je_prop0 (ok_Book_quotes T) (hr.mono (by decide)) (je_var (pv 0))) ja_nil)) (je_gint T.MOST_QUOTES rfl) (nomark _)) (jb_one js_never) jb_nil)
    (jb_one (js_ret (je_makeF (ok_Book_init T) (hr.mono (by decide)) rfl (ja_cons (je_prop0 (ok_Book_outcomes T) (hr.mono (by decide)) (je_var (pv 0))) (ja_cons (je_tupL (ja_star (je_prop0 (ok_Book_quotes T) (hr.mono (by decide)) (je_var (pv 0))) (ja_cons (je_tup (ja_cons (je_var (pv 1)) (ja_cons (je_var (pv 2)) ja_nil))) ja_nil))) ja_nil)))))))), ?_⟩
    rintro ds q t ⟨qs, x, n, rfl, hk, h⟩ -
    have hx : QtOk n x := hk.2.2.2 x (by simp)
    have hl := hk.2.2.1
    simp only [List.length_append, List.length_cons, List.length_nil] at hl
    refine ⟨qs, n, rfl, x.pay, n, rfl, by have := hk.2.1; omega, hx.1, x.price, rfl, hx.2, qs, n, rfl, ?_⟩
    refine onF (by simp; omega) ?_
    refine ⟨qs, n, rfl, qs, n, rfl, ?_⟩
    have key : qs.map qd ++ [D.tup [inz x.pay, fr x.price]] = (qs ++ [x]).map qd := by simp
    show noLoc (qs.map qd ++ [D.tup [inz x.pay, fr x.price]]) = true ∧ (qs.map qd ++ [D.tup [inz x.pay, fr x.price]]).length ≤ 100000 ∧
      rMakeF .book 2 cBookI (fun _ S q _ => q [.int n, .tup (qs.map qd ++ [D.tup [inz x.pay, fr x.price]])] S) [] [] (fun d _ => q d) fun _ _ => False
    rw [key]
    exact ⟨noLoc_map (fun _ => rfl) _, by simp; omega, qs ++ [x], n, rfl, hk.1, hk.2.1, hk.2.2, rfl, h⟩
theorem rngD_map (n : Nat) : rngD 0 n = (List.range n).map fun i : Nat => D.int i := by
  unfold rngD
  simp
abbrev cLotPay : PC := fun ds q _ => ∃ (ls : List Int) (n : Nat), ds = [inz ls, .int n] ∧ n ≤ 1000 ∧ q (inz ((List.range n).map fun i : Nat => if (i : Int) ∈ ls then 1 else 0))
abbrev cGains : PC := fun ds q _ => ∃ (qs : List Qt) (n : Nat), ds = [bkd n qs] ∧ BkOk n qs ∧ q (.lst ((List.range n).map fun p : Nat => .lst (qs.map fun x => .int (x.pay.getD p 0 * x.price.den - x.price.num))))
abbrev N_lot_payoff : List Str := ["lot", "outcomes", "place"]
theorem sc_lot_payoff : FnScope N_lot_payoff ["lot", "outcomes"] (defScope s_lot_payoff) := ⟨rfl, rfl, rfl, by decide +kernel, rfl, by decide +kernel, by decide +kernel⟩
theorem ok_lot_payoff (T : Tx K mg) : FnG P w K mg base "lot_payoff" 1 (sp0 K 2 cLotPay) :=
  mkG0 T 73 rfl rfl sc_lot_payoff (bind2 rfl fun _ _ _ _ _ _ _ _ => rfl) rfl fun cdv A outer s H E hr tk po => by
    refine ⟨_, (jb_one (js_ret (je_callTy call_tupleD rfl T.b_tuple (by decide +kernel) (ja_cons (je_lc (own := [("place", 2)]) (g := (gName 2)) rfl sc_lot_payoff.nd (ji_rng1 rfl T.b_range (je_var (pv 1))) (blkOk_by (own := [("place", 2)]) (N := N_lot_payoff) (sc := defScope s_lot_payoff) (by decide +kernel)) (fun _ _ _ _ _ => (pg_name (i := 2) sc_lot_payoff.nd rfl (Or.inl rfl))) gok_name (fun _ _ _ _ _ => jts_nil) (fun _ _ _ _ _ => (je_callTy call_intD rfl T.b_int (by decide +kernel) (ja_cons (je_cmp op_inD' (je_var (pv 2)) (je_var (pv 0)) (by rfl)) ja_nil)))) ja_nil)))), ?_⟩
    rintro ds q t ⟨ls, n, rfl, hn, h⟩ -
    refine ⟨⟨by omega, by omega⟩, ?_⟩
    show lcD _ _ _ _ (rngD 0 n) _ _ _
    rw [rngD_map]
    refine lc_map (fun d => match d with
      | .int a => .int (if a ∈ ls then 1 else 0)
      | d => d) (fun d hd => ?_) (by simp; omega) (fun d hd K hK => ?_) ?_
    · obtain ⟨a, ha, rfl⟩ := List.mem_map.mp hd
      rfl
    · obtain ⟨a, ha, rfl⟩ := List.mem_map.mp hd
      refine ⟨ls, rfl, ?_⟩
      show K (.int (if (false ^^ decide ((a : Int) ∈ ls)) = true then 1 else 0)) []
      simpa using hK
    · show q (.tup _)
      rw [List.map_map]
      simp only [inz, List.map_map] at h
      exact h
abbrev N_gain_rows : List Str := ["book", "rows", "place", "payoff", "price"]
theorem sc_gain_rows : FnScope N_gain_rows ["book"] (defScope s_gain_rows) := ⟨rfl, rfl, rfl, by decide +kernel, rfl, by decide +kernel, by decide +kernel⟩
theorem ok_gain_rows (T : Tx K mg) : FnG P w K mg base "gain_rows" 3 (sp0 K 1 cGains) :=
  mkG0 T 62 rfl rfl sc_gain_rows (bind1 rfl fun _ _ _ _ _ _ _ => rfl) rfl fun cdv A outer s H E hr tk po => by
    refine ⟨_, (jb_cons (js_set (i := 1) sc_gain_rows.nd rfl (by first | exact .inl rfl | exact .inr rfl) (je_lstO ja_nil))
    (jb_cons (js_for po rfl (ji_rng1 rfl T.b_range (je_prop0 (ok_Book_outcomes T) (hr.mono (by decide)) (je_var (pv 0)))) (jg_name (pg_name (i := 2) sc_gain_rows.nd rfl (by first | exact .inl rfl | exact .inr rfl))) (jb_one (js_expr (je_app (je_var (pv 1)) (je_lc (own := [("payoff", 3), ("price", 4)]) (g := (gTup K 2 (gCons (gName 3) (gCons (gName 4) gNil)))) rfl sc_gain_rows.nd (ji_tup (je_prop0 (ok_Book_quotes T) (hr.mono (by decide)) (je_var (pv 0)))) (blkOk_by (own := [("payoff", 3), ("price", 4)]) (N := N_gain_rows) (sc := defScope s_gain_rows) (by decide +kernel)) (fun _ _ _ _ _ => (pg_tup rfl (pgs_cons (pg_name (i := 3) sc_gain_rows.nd rfl (Or.inl rfl)) (pgs_cons (pg_name (i := 4) sc_gain_rows.nd rfl (Or.inl rfl)) pgs_nil)))) (gok_tup (gok_cons gok_name (gok_cons gok_name gok_nil))) (fun _ _ _ _ _ => jts_nil) (fun _ _ _ _ _ => (je_op op_subD (je_op op_mulD (je_ix (je_var (pv 3)) (je_var (pv 2))) (je_ix (je_var (pv 4)) je_int)) (je_ix (je_var (pv 4)) je_int))))))))
    (jb_one (js_ret (je_var (pv 1)))))), ?_⟩
    rintro ds q t ⟨qs, n, rfl, hk, h⟩ -
    have hk6 := hk.2.1
    refine ⟨qs, n, rfl, ⟨by omega, by omega⟩, ?_⟩
    show forD _ _ _ (rngD 0 n) _ _
    rw [rngD_map]
    have hr : List.range n = List.range' 0 n := List.range_eq_range'
    rw [hr]
    refine for_inv (fun items ds S => ∃ (i m : Nat) (p2 p3 p4 : Option D), items = (List.range' i m).map (fun i : Nat => D.int i) ∧ i + m = n ∧
      S = [.lst ((List.range i).map fun p : Nat => .lst (qs.map fun x => .int (x.pay.getD p 0 * x.price.den - x.price.num)))] ∧ ds = [some (bkd n qs), some (.loc 0), p2, p3, p4]) ?_ ?_ _ _ _ ⟨0, n, none, none, none, rfl, by omega, rfl, rfl⟩
    · rintro d items ds S ⟨i, m, p2, p3, p4, e, hm, rfl, rfl⟩ k hk2
      cases m with
      | zero => cases e
      | succ m =>
        rw [List.range'_succ, List.map_cons] at e
        injection e with e1 e2
        subst e1 e2
        refine ⟨qs, n, rfl, ?_⟩
        refine lc_mapA qs qd (fun x => .int (x.pay.getD i 0 * x.price.den - x.price.num)) (fun _ _ => rfl) (by have := hk.2.2.1; omega) (fun x hx K hK => ?_) ?_
        · obtain ⟨⟨l1, l2⟩, l3⟩ := hk.2.2.2 x hx
          have hi : i < x.pay.length := by omega
          have hv : x.pay[i]? = some (x.pay.getD i 0) := by
            rw [List.getD_eq_getElem?_getD, List.getElem?_eq_getElem hi]; rfl
          have hb := l2 (x.pay.getD i 0) (List.mem_of_getElem? hv)
          refine ⟨.int (x.pay.getD i 0), atI_nat (by rw [List.getElem?_map, hv]; rfl), _, rfl, mulW' (a := 20) (b := 20) (by omega) (by have := l3.2.2; omega), _, rfl, hK⟩
        · refine ⟨by simp; omega, hk2 _ _ ⟨i + 1, m, _, _, _, rfl, by omega, ?_, rfl⟩⟩
          rw [List.range_succ, List.map_append]
          rfl
    · rintro ds S ⟨i, m, p2, p3, p4, e, hm, rfl, rfl⟩
      cases m with
      | zero =>
        rw [show i = n by omega]
        exact ⟨noLoc_map (fun _ => rfl) _, h⟩
      | succ m => cases e
end
end SC
end

section
set_option maxHeartbeats 4000000
namespace SC
open PySem L2 DL
section
variable {P : Program} {w : World} {K : PySem.W.Frag} {mg : Str → Option Value} {base : Heap}

theorem cut_drop (xs : List D) : cutD xs (some 1) none = xs.drop 1 := by
  cases xs with
  | nil => unfold cutD; simp
  | cons x xs => exact cut_tail x xs
def LotOk (n : Nat) (ls : List Int) : Prop := ls.length ≤ 1000 ∧ (∀ x ∈ ls, 0 ≤ x ∧ x ≤ (n : Int) - 1) ∧ ∀ p ∈ ls.zip (ls.drop 1), p.1 < p.2
abbrev cLot : PC := fun ds q _ => ∃ (ls : List Int) (n : Nat), ds = [inz ls, .int n] ∧ LotOk n ls ∧ q (.bl true)
abbrev cChkLot : PC := fun ds q _ => ∃ (ls : List Int) (n : Nat), ds = [inz ls, .int n] ∧ LotOk n ls ∧ q .non
abbrev cAns : PI_ := fun ds q => ∃ a b c : D, ds = [a, b, c] ∧ q [.ins .answer [a, b, c]]
abbrev cFormer : PI_ := fun ds q => ∃ a b : D, ds = [a, b] ∧ q [.ins .former [a, b]]
theorem zip_ints (xs ys : List Int) : zipD (xs.map D.int) (ys.map D.int) = (xs.zip ys).map fun p => .tup [.int p.1, .int p.2] := by
  unfold zipD
  rw [List.zip_map, List.map_map]
  rfl
abbrev N_is_lot : List Str := ["value", "outcomes", "part", "one", "other"]
theorem sc_is_lot : FnScope N_is_lot ["value", "outcomes"] (defScope s_is_lot) := ⟨rfl, rfl, rfl, by decide +kernel, rfl, by decide +kernel, by decide +kernel⟩
theorem ok_is_lot (T : Tx K mg) : FnG P w K mg base "is_lot" 3 (sp0 K 2 cLot) :=
  mkG0 T 17 rfl rfl sc_is_lot (bind2 rfl fun _ _ _ _ _ _ _ _ => rfl) rfl fun cdv A outer s H E hr tk po => by
    refine ⟨_, (jb_cons (js_if (jt_w (jw_or (jt_not (jt_val (je_callB (call_isi_tuple) rfl T.b_isinstance (by decide +kernel) (ja_cons (je_var (pv 0)) (ja_cons (je_bty (T := "tuple") T.b_tuple rfl (by decide +kernel)) ja_nil))))) (jw_or1 (jt_not (jt_val (je_callB (call_allD rfl) rfl T.b_all (by decide +kernel) (ja_cons (je_lc (own := [("part", 2)]) (g := (gName 2)) rfl sc_is_lot.nd (ji_tup (je_var (pv 0))) (blkOk_by (own := [("part", 2)]) (N := N_is_lot) (sc := defScope s_is_lot) (by decide +kernel)) (fun _ _ _ _ _ => (pg_name (i := 2) sc_is_lot.nd rfl (Or.inl rfl))) gok_name (fun _ _ _ _ _ => jts_nil) (fun _ _ _ _ _ => (je_call0 (ok_is_between T) (hr.mono (by decide)) L2.takes0 rfl (ja_cons (je_var (pv 2)) (ja_cons je_int (ja_cons (je_op op_subD (je_var (pv 1)) je_int) ja_nil)))))) ja_nil))))))) (jb_one (js_ret je_bl)) jb_nil)
    (jb_one (js_ret (je_callB (call_allD rfl) rfl T.b_all (by decide +kernel) (ja_cons (je_lc (own := [("one", 3), ("other", 4)]) (g := (gTup K 2 (gCons (gName 3) (gCons (gName 4) gNil)))) rfl sc_is_lot.nd (ji_zip rfl T.b_zip (je_var (pv 0)) (je_sl (je_var (pv 0)) (jp_some je_int) jp_none) (fun h => RZ.pi_zipA rfl T.b_zip h)) (blkOk_by (own := [("one", 3), ("other", 4)]) (N := N_is_lot) (sc := defScope s_is_lot) (by decide +kernel)) (fun _ _ _ _ _ => (pg_tup rfl (pgs_cons (pg_name (i := 3) sc_is_lot.nd rfl (Or.inl rfl)) (pgs_cons (pg_name (i := 4) sc_is_lot.nd rfl (Or.inl rfl)) pgs_nil)))) (gok_tup (gok_cons gok_name (gok_cons gok_name gok_nil))) (fun _ _ _ _ _ => jts_nil) (fun _ _ _ _ _ => (je_cmp op_ltD (je_var (pv 3)) (je_var (pv 4)) (nomark _)))) ja_nil))))), ?_⟩
    rintro ds q t ⟨ls, n, rfl, ⟨hl, hb, hz⟩, h⟩ -
    refine ⟨rfl, ?_⟩
    refine lc_mapA ls D.int (fun _ => .bl true) (fun _ _ => rfl) (by omega) (fun x hx K hK => ?_) ?_
    · refine ⟨x, _, _, rfl, ?_⟩
      rw [decide_eq_true (hb x hx)]
      exact hK
    · refine ⟨ls.map fun _ => true, by simp, ?_⟩
      refine onF (by simp) ?_
      show lcD _ _ _ _ (zipD (ls.map D.int) (cutD (ls.map D.int) (some 1) none)) _ _ _
      rw [cut_drop, ← List.map_drop, zip_ints]
      refine lc_mapA (ls.zip (ls.drop 1)) (fun p => .tup [.int p.1, .int p.2]) (fun _ => .bl true) (fun _ _ => rfl) (by simp; omega) (fun x hx K hK => ?_) ?_
      · show K (.bl (decide (x.1 < x.2))) []
        rw [decide_eq_true (hz x hx)]
        exact hK
      · refine ⟨(ls.zip (ls.drop 1)).map fun _ => true, by simp, ?_⟩
        rw [show ((ls.zip (ls.drop 1)).map fun _ => true).all id = true from by simp]
        exact h
abbrev N_check_lot : List Str := ["value", "outcomes"]
theorem sc_check_lot : FnScope N_check_lot ["value", "outcomes"] (defScope s_check_lot) := ⟨rfl, rfl, rfl, by decide +kernel, rfl, by decide +kernel, by decide +kernel⟩
theorem ok_check_lot (T : Tx K mg) : FnG P w K mg base "check_lot" 4 (sp0 K 2 cChkLot) :=
  mkG0 T 74 rfl rfl sc_check_lot (bind2 rfl fun _ _ _ _ _ _ _ _ => rfl) rfl fun cdv A outer s H E hr tk po => by
    refine ⟨_, (jb_one (js_if (jt_not (jt_val (je_call0 (ok_is_lot T) (hr.mono (by decide)) tk rfl (ja_cons (je_var (pv 0)) (ja_cons (je_var (pv 1)) ja_nil))))) (jb_one js_never) jb_nil)), ?_⟩
    rintro ds q t ⟨ls, n, rfl, hk, h⟩ -
    exact ⟨ls, n, rfl, hk, h⟩
abbrev N_Answer_init : List Str := ["self", "value", "numbers", "multiples"]
theorem sc_Answer_init : FnScope N_Answer_init ["self", "value", "numbers", "multiples"] (defScope s_Answer_init) := ⟨rfl, rfl, rfl, by decide +kernel, rfl, by decide +kernel, by decide +kernel⟩
theorem ok_Answer_init (T : Tx K mg) : FnC P w K mg base "Answer" Cl.answer.adr 1 (spI K 3 .answer cAns) :=
  mkC T 29 rfl T.k_Answer T.g_Answer sc_Answer_init (bind4 rfl fun _ _ _ _ _ _ _ _ _ _ => rfl) rfl fun cdv A outer s H E hr tk po => by
    refine ⟨_, (jb_cons (js_setF T.cf .answer 0 id (.inl rfl) (je_var (pv 0)) (je_var (pv 1)))
    (jb_cons (js_setF T.cf .answer 1 id (.inl rfl) (je_var (pv 0)) (je_var (pv 2)))
    (jb_one (js_setF T.cf .answer 2 id (.inl rfl) (je_var (pv 0)) (je_var (pv 3)))))), ?_⟩
    rintro ds q ⟨a, b, c, rfl, h⟩ -
    exact h
abbrev N_Former_init : List Str := ["self", "states", "outer"]
theorem sc_Former_init : FnScope N_Former_init ["self", "states", "outer"] (defScope s_Former_init) := ⟨rfl, rfl, rfl, by decide +kernel, rfl, by decide +kernel, by decide +kernel⟩
theorem ok_Former_init (T : Tx K mg) : FnC P w K mg base "Former" Cl.former.adr 1 (spI K 2 .former cFormer) :=
  mkC T 90 rfl T.k_Former T.g_Former sc_Former_init (bind3 rfl fun _ _ _ _ _ _ _ _ _ => rfl) rfl fun cdv A outer s H E hr tk po => by
    refine ⟨_, (jb_cons (js_setF T.cf .former 0 id (.inl rfl) (je_var (pv 0)) (je_var (pv 1)))
    (jb_one (js_setF T.cf .former 1 id (.inl rfl) (je_var (pv 0)) (je_var (pv 2))))), ?_⟩
    rintro ds q ⟨a, b, rfl, h⟩ -
    exact h
end
end SC
end

section
set_option maxHeartbeats 4000000
namespace SC
open PySem L2 DL
section
variable {P : Program} {w : World} {K : PySem.W.Frag} {mg : Str → Option Value} {base : Heap}

/-- a jar: what is left of the cell, the mixed number, the count of draws -/
abbrev jarC (a m k : Int) : Cell := .lst [.int a, .int m, .int k]
def JarOk (a m k : Int) : Prop := 0 ≤ a ∧ 0 ≤ m ∧ m < 2147483647 ∧ 0 ≤ k ∧ k < 1000000
abbrev cDip : PC1 := fun ds c q _ => ∃ a m k top : Int, ds = [.int top] ∧ c = jarC a m k ∧ JarOk a m k ∧ 1 ≤ top ∧ top ≤ 1000000 ∧ ∀ r a' m', 0 ≤ r → r < top → 0 ≤ a' → 0 ≤ m' → m' < 2147483647 → q (.int r) (jarC a' m' (k + 1))
abbrev N__law_dip : List Str := ["_law_jar_here", "_law_top", "_law_digit"]
theorem sc__law_dip : FnScope N__law_dip ["_law_jar_here", "_law_top"] (defScope s__law_dip) := ⟨rfl, rfl, rfl, by decide +kernel, rfl, by decide +kernel, by decide +kernel⟩
theorem ok__law_dip (T : Tx K mg) : FnG P w K mg base "_law_dip" 1 (sp1 K 1 cDip) :=
  mkG1 T 110 rfl rfl sc__law_dip (bind2 rfl fun _ _ _ _ _ _ _ _ => rfl) rfl fun cdv A outer s H E hr tk po => by
    refine ⟨_, (jb_cons (js_asg (je_op op_addD (je_ix (je_var (pv 0)) je_int) je_int) (jg_sub (W := W0) (je_var (pv 0)) je_int))
    (jb_cons (js_if (jt_cmp op_gtD (je_ix (je_var (pv 0)) je_int) je_int (nomark _)) (jb_cons (js_asg (je_callB call_divmodD rfl T.b_divmod (by decide +kernel) (ja_cons (je_ix (je_var (pv 0)) je_int) (ja_cons (je_var (pv 1)) ja_nil))) (jg_tup rfl (jgs_cons (jg_sub (W := W0) (je_var (pv 0)) je_int) (jgs_cons (jg_name (pg_name (i := 2) sc__law_dip.nd rfl (by first | exact .inl rfl | exact .inr rfl))) jgs_nil))))
    (jb_one (js_ret (je_var (pv 2))))) jb_nil)
    (jb_cons (js_asg (je_op op_modD (je_callTy call_intD rfl T.b_int (by decide +kernel) (ja_cons (je_op op_addD (je_op op_mulD (je_ix (je_var (pv 0)) je_int) je_int) (je_op op_mulD je_int (je_ix (je_var (pv 0)) je_int))) ja_nil)) je_int) (jg_sub (W := W0) (je_var (pv 0)) je_int))
    (jb_one (js_ret (je_op op_modD (je_callTy call_intD rfl T.b_int (by decide +kernel) (ja_cons (je_op op_fdivD (je_ix (je_var (pv 0)) je_int) je_int) ja_nil)) (je_var (pv 1)))))))), ?_⟩
    rintro ds c q t ⟨a, m, k, top, rfl, rfl, ⟨ha, hm, hm2, hk, hk2⟩, ht, ht2, h⟩ - -
    refine ⟨.int k, rfl, 2, rfl, ?_⟩
    refine ⟨.int a, rfl, ?_⟩
    by_cases ha0 : 0 < a
    · refine onT (by simpa using ha0) ?_
      refine ⟨.int a, rfl, by unfold CDiv; omega, 0, rfl, trivial, rfl, ?_⟩
      exact h _ _ _ (Int.emod_nonneg _ (by omega)) (Int.emod_lt_of_pos _ (by omega)) (Int.ediv_nonneg ha (by omega)) hm hm2
    · refine onF (by simpa using ha0) ?_
      have hv0 := Int.emod_nonneg (m * 48271 + 30011 * (k + 1)) (b := 2147483399) (by decide)
      have hv1 := Int.emod_lt_of_pos (m * 48271 + 30011 * (k + 1)) (b := 2147483399) (by decide)
      refine ⟨.int m, rfl, mulW' (a := 31) (b := 16) (by omega) (by decide), .int (k + 1), rfl, mulW' (a := 15) (b := 20) (by decide) (by omega), (by decide : (0 : Int) < 2147483399), 1, rfl, ?_⟩
      refine ⟨.int ((m * 48271 + 30011 * (k + 1)) % 2147483399), rfl, divW (b := 10) (by decide) (by decide), by omega, trivial, rfl, ?_⟩
      exact h _ _ _ (Int.emod_nonneg _ (by omega)) (Int.emod_lt_of_pos _ (by omega)) ha hv0 (by omega)
end
end SC
end

section
set_option maxHeartbeats 4000000
namespace SC
open PySem L2 DL
section
variable {P : Program} {w : World} {K : PySem.W.Frag} {mg : Str → Option Value} {base : Heap}

abbrev cOneOf : PC1 := fun ds c q _ => ∃ (a m k : Int) (xs : List D), ds = [.lst xs] ∧ noLoc xs = true ∧ c = jarC a m k ∧ JarOk a m k ∧ 1 ≤ xs.length ∧ xs.length ≤ 1000 ∧ ∀ d a' m', d ∈ xs → 0 ≤ a' → 0 ≤ m' → m' < 2147483647 → q d (jarC a' m' (k + 1))
abbrev cPayoff : PC1 := fun ds c q _ => ∃ (a m k : Int) (n : Nat) (top : Int), ds = [.int n, .int top] ∧ c = jarC a m k ∧ JarOk a m (k + n) ∧ 0 ≤ k ∧ n ≤ 10 ∧ 1 ≤ top ∧ top ≤ 1000 ∧
  ∀ ns a' m', ns.length = n → (∀ x ∈ ns, -top ≤ x ∧ x ≤ top) → 0 ≤ a' → 0 ≤ m' → m' < 2147483647 → q (inz ns) (jarC a' m' (k + n))
theorem noLoc_mem : ∀ {xs : List D} {d : D}, noLoc xs = true → d ∈ xs → noLoc [d] = true
  | x :: xs, d, h, hm => by
    rcases List.mem_cons.mp hm with rfl | hmm
    · cases d with
      | loc n => exact h
      | _ => rfl
    · cases x with
      | loc n => cases h
      | _ => exact noLoc_mem (xs := xs) h hmm
theorem rt_data {q : D → Prop} {S : List Cell} {d : D} (hn : noLoc [d] = true) (h : q d) : not0 d ∧ rtOf q S d := by
  cases d with
  | loc n => cases hn
  | _ => exact ⟨trivial, h⟩
abbrev N__law_one_of : List Str := ["_law_jar_here", "_law_some"]
theorem sc__law_one_of : FnScope N__law_one_of ["_law_jar_here", "_law_some"] (defScope s__law_one_of) := ⟨rfl, rfl, rfl, by decide +kernel, rfl, by decide +kernel, by decide +kernel⟩
theorem ok__law_one_of (T : Tx K mg) : FnG P w K mg base "_law_one_of" 2 (sp1 K 1 cOneOf) :=
  mkG1 T 111 rfl rfl sc__law_one_of (bind2 rfl fun _ _ _ _ _ _ _ _ => rfl) rfl fun cdv A outer s H E hr tk po => by
    refine ⟨_, (jb_one (js_ret (je_ix (je_var (pv 1)) (je_call1 (ok__law_dip T) (hr.mono (by decide)) tk rfl (ja_cons (je_var (pv 0)) (ja_cons (je_callB call_lenD rfl T.b_len (by decide +kernel) (ja_cons (je_var (pv 1)) ja_nil)) ja_nil)))))), ?_⟩
    rintro ds c q t ⟨a, m, k, xs, rfl, hn, rfl, hj, h1, h2, h⟩ - -
    refine ⟨rfl, a, m, k, _, rfl, rfl, hj, by omega, by omega, fun r a' m' r0 r1 ha' hm' hm2' => ?_⟩
    have hr : r.toNat < xs.length := by omega
    refine ⟨xs[r.toNat], ?_, ?_⟩
    · have := atI_nat (xs := xs) (j := r.toNat) (v := xs[r.toNat]) (List.getElem?_eq_getElem hr)
      rwa [Int.toNat_of_nonneg r0] at this
    · have hd : xs[r.toNat] ∈ xs := List.getElem_mem hr
      obtain ⟨z1, z2⟩ := rt_data (q := fun d => q d (jarC a' m' (k + 1))) (S := [jarC a' m' (k + 1)]) (noLoc_mem hn hd) (h _ a' m' hd ha' hm' hm2')
      exact ⟨z1, rfl, z2⟩
abbrev N__law_payoff : List Str := ["_law_jar_here", "_law_size", "_law_top", "_law_k"]
theorem sc__law_payoff : FnScope N__law_payoff ["_law_jar_here", "_law_size", "_law_top"] (defScope s__law_payoff) := ⟨rfl, rfl, rfl, by decide +kernel, rfl, by decide +kernel, by decide +kernel⟩
theorem ok__law_payoff (T : Tx K mg) : FnG P w K mg base "_law_payoff" 2 (sp1 K 2 cPayoff) :=
  mkG1 T 120 rfl rfl sc__law_payoff (bind3 rfl fun _ _ _ _ _ _ _ _ _ => rfl) rfl fun cdv A outer s H E hr tk po => by
    refine ⟨_, (jb_one (js_ret (je_callTy call_tupleD rfl T.b_tuple (by decide +kernel) (ja_cons (je_lc (own := [("_law_k", 3)]) (g := (gName 3)) rfl sc__law_payoff.nd (ji_rng1 rfl T.b_range (je_var (pv 1))) (blkOk_by (own := [("_law_k", 3)]) (N := N__law_payoff) (sc := defScope s__law_payoff) (by decide +kernel)) (fun _ _ _ _ _ => (pg_name (i := 3) sc__law_payoff.nd rfl (Or.inl rfl))) gok_name (fun _ _ _ _ _ => jts_nil) (fun _ _ _ _ _ => (je_op op_subD (je_call1 (ok__law_dip T) (hr.mono (by decide)) L2.takes0 rfl (ja_cons (je_var (pv 0)) (ja_cons (je_op op_addD (je_op op_mulD je_int (je_var (pv 2))) je_int) ja_nil))) (je_var (pv 2))))) ja_nil)))), ?_⟩
    rintro ds c q t ⟨a, m, k, n, top, rfl, rfl, ⟨ha, hm, hm2, hk, hk2⟩, hk0, hn, ht, ht2, h⟩ - -
    refine ⟨⟨by omega, by omega⟩, ?_⟩
    show lcD _ _ _ _ (rngD 0 n) _ _ _
    rw [rngD_map]
    refine lc_inv (fun items acc S => ∃ (i : Nat) (ns : List Int) (a' m' : Int), items.length + i = n ∧ acc = ns.map D.int ∧ ns.length = i ∧ (∀ x ∈ ns, -top ≤ x ∧ x ≤ top) ∧ 0 ≤ a' ∧ 0 ≤ m' ∧ m' < 2147483647 ∧ S = [jarC a' m' (k + i)]) ?_ ?_ _ _ _
      ⟨0, [], a, m, by simp, rfl, rfl, by simp, ha, hm, hm2, by simp⟩
    · rintro d items acc S ⟨i, ns, a', m', hl, rfl, hns, hb, ha', hm', hm2', rfl⟩ K hK
      simp only [List.length_cons] at hl
      refine ⟨mulW' (a := 2) (b := 20) (by decide) (by omega), rfl, a', m', k + i, _, rfl, rfl, ⟨ha', hm', hm2', by omega, by omega⟩, by omega, by omega, fun r a2 m2 r0 r1 x1 x2 x3 => ?_⟩
      refine ⟨rfl, by simp; omega, hK _ _ ⟨i + 1, ns ++ [r - top], a2, m2, by omega, by simp, by simp [hns], fun x hx => ?_, x1, x2, x3, ?_⟩⟩
      · rcases List.mem_append.mp hx with hx | hx
        · exact hb x hx
        · rw [List.mem_singleton.mp hx]; omega
      · show [jarC a2 m2 (k + i + 1)] = [jarC a2 m2 (k + ((i + 1 : Nat) : Int))]
        rw [show ((i + 1 : Nat) : Int) = (i : Int) + 1 by omega, Int.add_assoc]
    · rintro acc S ⟨i, ns, a', m', hl, rfl, hns, hb, ha', hm', hm2', rfl⟩
      simp only [List.length_nil, Nat.zero_add] at hl
      subst hl
      exact ⟨trivial, rfl, h ns a' m' hns hb ha' hm' hm2'⟩
end
end SC
end

section
set_option maxHeartbeats 4000000
namespace SC
open PySem L2 DL
section
variable {P : Program} {w : World} {K : PySem.W.Frag} {mg : Str → Option Value} {base : Heap}

def ShareOk (r : Rat) : Prop := 0 ≤ r.num ∧ r.num ≤ r.den ∧ (r.den : Int) ≤ 1000000
abbrev cShare : PC := fun ds q _ => ∃ r : Rat, ds = [fr r] ∧ ShareOk r ∧ q (.bl true)
theorem ShareOk.bd {r : Rat} (h : ShareOk r) : Bd 20 r := ⟨by have := h.1; have := h.2.1; have := h.2.2; omega, by have := h.2.2; omega⟩
theorem ShareOk.frac {r : Rat} (h : ShareOk r) : fracB r 1000000000 1000000 = true := by
  have := den_pos' r
  obtain ⟨h1, h2, h3⟩ := h
  unfold fracB
  rw [decide_eq_true ⟨by omega, by omega⟩, decide_eq_true ⟨by omega, h3⟩]; rfl
def worthR (ns : List Int) (rs : List Rat) : Rat := (ns.zip rs).foldl (fun t p => t + (p.1 : Rat) * p.2) 0
abbrev cWorth : PC := fun ds q _ => ∃ (ns : List Int) (rs : List Rat), ds = [inz ns, .tup (rs.map fr)] ∧ ns.length ≤ 3 ∧ ns.length = rs.length ∧ (∀ x ∈ ns, x.natAbs < 2 ^ 12) ∧ (∀ x ∈ rs, Bd 800 x) ∧ q (fr (worthR ns rs))
theorem divInt_int_mul (n : Int) (r : Rat) : Rat.divInt (n * r.num) r.den = (n : Rat) * r := by
  have h := divInt_mul' (n : Rat) r
  rw [← h]
  simp
abbrev cBoth : PC := fun ds q _ => ∃ (qs rs : List Qt) (n : Nat), ds = [bkd n qs, bkd n rs] ∧ BkOk n (qs ++ rs) ∧ q (bkd n (qs ++ rs))
abbrev N_is_share : List Str := ["value"]
theorem sc_is_share : FnScope N_is_share ["value"] (defScope s_is_share) := ⟨rfl, rfl, rfl, by decide +kernel, rfl, by decide +kernel, by decide +kernel⟩
theorem ok_is_share (T : Tx K mg) : FnG P w K mg base "is_share" 4 (sp0 K 1 cShare) :=
  mkG0 T 59 rfl rfl sc_is_share (bind1 rfl fun _ _ _ _ _ _ _ => rfl) rfl fun cdv A outer s H E hr tk po => by
    refine ⟨_, (jb_one (js_ret (je_and (je_call0 (ok_is_fraction T) (hr.mono (by decide)) tk rfl (ja_cons (je_var (pv 0)) (ja_cons (je_gint T.MOST_TOP rfl) (ja_cons (je_gint T.MOST_BOTTOM rfl) ja_nil)))) (je_one (je_chain op_leD op_leD je_int (je_ix (je_var (pv 0)) je_int) (je_ix (je_var (pv 0)) je_int)))))), ?_⟩
    rintro ds q t ⟨r, rfl, hs, h⟩ -
    refine ⟨r, _, _, rfl, hs.bd.mono (by decide), ?_⟩
    rw [hs.frac]
    refine ⟨_, rfl, ?_⟩
    refine onT (decide_eq_true hs.1) ?_
    refine ⟨_, rfl, ?_⟩
    show q (.bl (decide (r.num ≤ (r.den : Int))))
    rw [decide_eq_true hs.2.1]
    exact h
abbrev N_worth_at : List Str := ["payoff", "chance", "number", "top", "bottom"]
theorem sc_worth_at : FnScope N_worth_at ["payoff", "chance"] (defScope s_worth_at) := ⟨rfl, rfl, rfl, by decide +kernel, rfl, by decide +kernel, by decide +kernel⟩
theorem ok_worth_at (T : Tx K mg) : FnG P w K mg base "worth_at" 5 (sp0 K 2 cWorth) :=
  mkG0 T 61 rfl rfl sc_worth_at (bind2 rfl fun _ _ _ _ _ _ _ _ => rfl) rfl fun cdv A outer s H E hr tk po => by
    refine ⟨_, (jb_one (js_ret (je_call0 (ok_added T) (hr.mono (by decide)) tk rfl (ja_cons (je_lc (own := [("number", 2), ("top", 3), ("bottom", 4)]) (g := (gTup K 2 (gCons (gName 2) (gCons (gTup K 2 (gCons (gName 3) (gCons (gName 4) gNil))) gNil)))) rfl sc_worth_at.nd (ji_zip rfl T.b_zip (je_var (pv 0)) (je_var (pv 1)) (fun h => RZ.pi_zipA rfl T.b_zip h)) (blkOk_by (own := [("number", 2), ("top", 3), ("bottom", 4)]) (N := N_worth_at) (sc := defScope s_worth_at) (by decide +kernel)) (fun _ _ _ _ _ => (pg_tup rfl (pgs_cons (pg_name (i := 2) sc_worth_at.nd rfl (Or.inl rfl)) (pgs_cons (pg_tup rfl (pgs_cons (pg_name (i := 3) sc_worth_at.nd rfl (Or.inl rfl)) (pgs_cons (pg_name (i := 4) sc_worth_at.nd rfl (Or.inl rfl)) pgs_nil))) pgs_nil)))) (gok_tup (gok_cons gok_name (gok_cons (gok_tup (gok_cons gok_name (gok_cons gok_name gok_nil))) gok_nil))) (fun _ _ _ _ _ => jts_nil) (fun _ _ _ _ _ => (je_call0 (ok_lowest T) (hr.mono (by decide)) L2.takes0 rfl (ja_cons (je_op op_mulD (je_var (pv 2)) (je_var (pv 3))) (ja_cons (je_var (pv 4)) ja_nil))))) ja_nil)))), ?_⟩
    rintro ds q t ⟨ns, rs, rfl, h3, hl, hn, hr, h⟩ -
    show lcD _ _ _ _ (zipD (ns.map D.int) (rs.map fr)) _ _ _
    have hz : zipD (ns.map D.int) (rs.map fr) = (ns.zip rs).map fun p => .tup [.int p.1, fr p.2] := by
      unfold zipD
      rw [List.zip_map, List.map_map]
      rfl
    rw [hz]
    have bd : ∀ x ∈ ns.zip rs, x.1.natAbs < 2 ^ 12 ∧ Bd 800 x.2 := fun x hx => ⟨hn _ (List.of_mem_zip hx).1, hr _ (List.of_mem_zip hx).2⟩
    refine lc_mapA (ns.zip rs) (fun p => .tup [.int p.1, fr p.2]) (fun p => fr ((p.1 : Rat) * p.2)) (fun _ _ => rfl) (by simp; omega) (fun x hx K hK => ?_) ?_
    · obtain ⟨b1, b2⟩ := bd x hx
      refine ⟨mulW' b1 b2.1, _, _, rfl, den_pos' _, Nat.lt_of_lt_of_le (den3 b2) (Nat.pow_le_pow_right (by decide) (by decide)), ?_⟩
      rw [divInt_int_mul]
      exact hK
    · refine ⟨(ns.zip rs).map fun p => (p.1 : Rat) * p.2, by rw [List.map_map]; rfl, by simp; omega, fun y hy => ?_, ?_⟩
      · obtain ⟨x, hx, rfl⟩ := List.mem_map.mp hy
        obtain ⟨b1, b2⟩ := bd x hx
        rw [← divInt_int_mul]
        exact (low_bd (den_pos' _) (abs_mul b1 b2.1) (Nat.lt_of_lt_of_le (den3 b2) (Nat.pow_le_pow_right (by decide) (by decide)))).mono (by decide)
      · rw [List.foldl_map]
        exact h
abbrev N_both : List Str := ["book", "other", "many"]
theorem sc_both : FnScope N_both ["book", "other"] (defScope s_both) := ⟨rfl, rfl, rfl, by decide +kernel, rfl, by decide +kernel, by decide +kernel⟩
theorem ok_both (T : Tx K mg) : FnG P w K mg base "both" 9 (sp0 K 2 cBoth) :=
  mkG0 T 79 rfl rfl sc_both (bind2 rfl fun _ _ _ _ _ _ _ _ => rfl) rfl fun cdv A outer s H E hr tk po => by
    refine ⟨_, (jb_cons (js_expr (je_call0 (ok_check_pair T) (hr.mono (by decide)) tk rfl (ja_cons (je_var (pv 0)) (ja_cons (je_var (pv 1)) ja_nil))))
    (jb_cons (js_expr (je_call0 (ok_check_two T) (hr.mono (by decide)) tk rfl (ja_cons (je_var (pv 0)) (ja_cons (je_var (pv 1)) ja_nil))))
    (jb_cons (js_set (i := 2) sc_both.nd rfl (by first | exact .inl rfl | exact .inr rfl) (je_op op_addD (je_callB call_lenD rfl T.b_len (by decide +kernel) (ja_cons (je_prop0 (ok_Book_quotes T) (hr.mono (by decide)) (je_var (pv 0))) ja_nil)) (je_callB call_lenD rfl T.b_len (by decide +kernel) (ja_cons (je_prop0 (ok_Book_quotes T) (hr.mono (by decide)) (je_var (pv 1))) ja_nil))))
    (jb_cons (js_if (jt_cmp op_gtD (je_var (pv 2)) (je_gint T.MOST_QUOTES rfl) (nomark _)) (jb_one js_never) jb_nil)
    (jb_one (js_ret (je_makeF (ok_Book_init T) (hr.mono (by decide)) rfl (ja_cons (je_prop0 (ok_Book_outcomes T) (hr.mono (by decide)) (je_var (pv 0))) (ja_cons (je_op op_addD (je_prop0 (ok_Book_quotes T) (hr.mono (by decide)) (je_var (pv 0))) (je_prop0 (ok_Book_quotes T) (hr.mono (by decide)) (je_var (pv 1)))) ja_nil))))))))), ?_⟩
    rintro ds q t ⟨qs, rs, n, rfl, hk, h⟩ -
    have hl := hk.2.2.1
    simp only [List.length_append] at hl
    refine ⟨qs, rs, n, n, rfl, qs, rs, n, rfl, qs, n, rfl, rs, n, rfl, ?_⟩
    refine onF (by simp; omega) ?_
    refine ⟨qs, n, rfl, qs, n, rfl, rs, n, rfl, by simp; omega, ?_⟩
    rw [← List.map_append]
    exact ⟨qs ++ rs, n, rfl, hk.1, hk.2.1, hk.2.2, rfl, h⟩
end
end SC
end

section
set_option maxHeartbeats 4000000
namespace SC
open PySem L2 DL
section
variable {P : Program} {w : World} {K : PySem.W.Frag} {mg : Str → Option Value} {base : Heap}

abbrev cNegR : PC := fun ds q _ => ∃ r : Rat, ds = [fr r] ∧ q (fr (-r))
theorem gmin_self (r : Rat) : gmin r r = r := by unfold gmin; split <;> rfl
theorem fr_neg (r : Rat) : fr (-r) = .tup [.int (0 - r.num), .int r.den] := by
  show D.tup [.int (-r).num, .int (-r).den] = _
  rw [Rat.neg_num, Rat.neg_den, Int.zero_sub]
abbrev N__law_minus : List Str := ["_law_one"]
theorem sc__law_minus : FnScope N__law_minus ["_law_one"] (defScope s__law_minus) := ⟨rfl, rfl, rfl, by decide +kernel, rfl, by decide +kernel, by decide +kernel⟩
theorem ok__law_minus (T : Tx K mg) : FnG P w K mg base "_law_minus" 1 (sp0 K 1 cNegR) :=
  mkG0 T 118 rfl rfl sc__law_minus (bind1 rfl fun _ _ _ _ _ _ _ => rfl) rfl fun cdv A outer s H E hr tk po => by
    refine ⟨_, (jb_one (js_ret (je_tup (ja_cons (je_op op_subD je_int (je_ix (je_var (pv 0)) je_int)) (ja_cons (je_ix (je_var (pv 0)) je_int) ja_nil))))), ?_⟩
    rintro ds q t ⟨r, rfl, h⟩ -
    refine ⟨_, rfl, _, rfl, ?_⟩
    rw [fr_neg] at h
    exact h
abbrev N__law_least : List Str := ["_law_some", "_law_found", "_law_each"]
theorem sc__law_least : FnScope N__law_least ["_law_some"] (defScope s__law_least) := ⟨rfl, rfl, rfl, by decide +kernel, rfl, by decide +kernel, by decide +kernel⟩
theorem ok__law_least (T : Tx K mg) : FnG P w K mg base "_law_least" 2 (sp0 K 1 (cFold gmin)) :=
  mkG0 T 117 rfl rfl sc__law_least (bind1 rfl fun _ _ _ _ _ _ _ => rfl) rfl fun cdv A outer s H E hr tk po => by
    refine ⟨_, (jb_cons (js_set (i := 1) sc__law_least.nd rfl (by first | exact .inl rfl | exact .inr rfl) (je_ix (je_var (pv 0)) je_int))
    (jb_cons (js_for po rfl (ji_lst (je_var (pv 0))) (jg_name (pg_name (i := 2) sc__law_least.nd rfl (by first | exact .inl rfl | exact .inr rfl))) (jb_one (js_set (i := 1) sc__law_least.nd rfl (by first | exact .inl rfl | exact .inr rfl) (je_if (jt_val (je_call0 (ok__law_less T) (hr.mono (by decide)) tk rfl (ja_cons (je_var (pv 2)) (ja_cons (je_var (pv 1)) ja_nil)))) (je_var (pv 2)) (je_var (pv 1))))))
    (jb_one (js_ret (je_var (pv 1)))))), ?_⟩
    rintro ds q t ⟨r, rs, rfl, hb, h⟩ -
    refine ⟨fr r, atI_zero _ _, ?_⟩
    refine for_inv (fun items ds S => S = [] ∧ ∃ (x : Rat) (l : List Rat) (p : Option D), items = l.map fr ∧ l.foldl gmin x = rs.foldl gmin r ∧ Bd 3000 x ∧ (∀ y ∈ l, Bd 3000 y) ∧ ds = [some (.lst ((r :: rs).map fr)), some (fr x), p]) ?_ ?_ _ _ _
      ⟨rfl, r, r :: rs, none, rfl, by rw [List.foldl_cons, gmin_self], hb r List.mem_cons_self, hb, rfl⟩
    · rintro d items ds S ⟨rfl, x, l, p, e, ef, hx, hl, rfl⟩ k hk
      cases l with
      | nil => cases e
      | cons y l =>
        injection e with e1 e2
        subst e1 e2
        have hy := hl y List.mem_cons_self
        refine ⟨y, x, rfl, hy, hx, ?_⟩
        have fin : k [some (.lst ((r :: rs).map fr)), some (fr (gmin x y)), some (fr y)] [] := hk _ _ ⟨rfl, gmin x y, l, some (fr y), rfl, ef, gmin_bd hx hy, fun z hz => hl z (List.mem_cons_of_mem _ hz), rfl⟩
        refine onB (fun e => ?_) fun e => ?_
        · rw [gmin, if_pos (of_decide_eq_true e)] at fin
          exact fin
        · rw [gmin, if_neg (of_decide_eq_false e)] at fin
          exact fin
    · rintro ds S ⟨rfl, x, l, p, e, ef, hx, hl, rfl⟩
      cases l with
      | nil =>
        rw [← ef] at h
        exact h
      | cons y l => cases e
end
end SC
end

section
set_option maxHeartbeats 4000000
namespace SC
open PySem L2 DL
section
variable {P : Program} {w : World} {K : PySem.W.Frag} {mg : Str → Option Value} {base : Heap}

theorem int_bd {n : Int} {B : Nat} (h : n.natAbs < 2 ^ B) (h0 : 0 < B) : Bd B (n : Rat) := ⟨h, Nat.one_lt_two_pow (by omega)⟩
abbrev N__law_worth : List Str := ["_law_payoff_here", "_law_chance_here", "_law_found", "_law_k"]
theorem sc__law_worth : FnScope N__law_worth ["_law_payoff_here", "_law_chance_here"] (defScope s__law_worth) := ⟨rfl, rfl, rfl, by decide +kernel, rfl, by decide +kernel, by decide +kernel⟩
theorem ok__law_worth (T : Tx K mg) : FnG P w K mg base "_law_worth" 4 (sp0 K 2 cWorth) :=
  mkG0 T 119 rfl rfl sc__law_worth (bind2 rfl fun _ _ _ _ _ _ _ _ => rfl) rfl fun cdv A outer s H E hr tk po => by
    refine ⟨_, (jb_cons (js_set (i := 2) sc__law_worth.nd rfl (by first | exact .inl rfl | exact .inr rfl) (je_tup (ja_cons je_int (ja_cons je_int ja_nil))))
    (jb_cons (js_for po rfl (ji_rng1 rfl T.b_range (je_callB call_lenD rfl T.b_len (by decide +kernel) (ja_cons (je_var (pv 0)) ja_nil))) (jg_name (pg_name (i := 3) sc__law_worth.nd rfl (by first | exact .inl rfl | exact .inr rfl))) (jb_one (js_set (i := 2) sc__law_worth.nd rfl (by first | exact .inl rfl | exact .inr rfl) (je_call0 (ok__law_plus T) (hr.mono (by decide)) tk rfl (ja_cons (je_var (pv 2)) (ja_cons (je_call0 (ok__law_times T) (hr.mono (by decide)) tk rfl (ja_cons (je_tup (ja_cons (je_ix (je_var (pv 0)) (je_var (pv 3))) (ja_cons je_int ja_nil))) (ja_cons (je_ix (je_var (pv 1)) (je_var (pv 3))) ja_nil))) ja_nil))))))
    (jb_one (js_ret (je_var (pv 2)))))), ?_⟩
    rintro ds q t ⟨ns, rs, rfl, h3, hl, hn, hr, h⟩ -
    refine ⟨⟨by omega, by simp; omega⟩, ?_⟩
    show forD _ _ _ (rngD 0 (ns.map D.int).length) _ _
    rw [List.length_map, rngD_map, List.range_eq_range']
    refine for_inv (fun items ds S => S = [] ∧ ∃ (i m : Nat) (x : Rat) (p : Option D), items = (List.range' i m).map (fun i : Nat => D.int i) ∧ i + m = ns.length ∧ ((ns.drop i).zip (rs.drop i)).foldl (fun t p => t + (p.1 : Rat) * p.2) x = worthR ns rs ∧ Bd (1 + 900 * i) x ∧
      ds = [some (inz ns), some (.tup (rs.map fr)), some (fr x), p]) ?_ ?_ _ _ _ ⟨rfl, 0, ns.length, 0, none, rfl, by omega, rfl, ⟨by decide, by decide⟩, rfl⟩
    · rintro d items ds S ⟨rfl, i, m, x, p, e, hm, ef, hx, rfl⟩ k hk
      cases m with
      | zero => cases e
      | succ m =>
        rw [List.range'_succ, List.map_cons] at e
        injection e with e1 e2
        subst e1 e2
        have i1 : i < ns.length := by omega
        have i2 : i < rs.length := by omega
        have b1 := hn ns[i] (List.getElem_mem i1)
        have b2 := hr rs[i] (List.getElem_mem i2)
        have b3 : Bd 812 ((ns[i] : Rat) * rs[i]) := ((int_bd b1 (by decide)).mul b2).mono (by decide)
        rw [List.drop_eq_getElem_cons i1, List.drop_eq_getElem_cons i2, List.zip_cons_cons, List.foldl_cons] at ef
        refine ⟨.int ns[i], atI_nat (by rw [List.getElem?_map, List.getElem?_eq_getElem i1]; rfl), fr rs[i], atI_nat (by rw [List.getElem?_map, List.getElem?_eq_getElem i2]; rfl), (ns[i] : Rat), rs[i], rfl, (int_bd b1 (by decide)).mono (by decide), b2.mono (by decide), ?_⟩
        refine ⟨x, _, rfl, hx.mono (by omega), b3.mono (by decide), hk _ _ ⟨rfl, i + 1, m, _, _, rfl, by omega, ef, (hx.add b3).mono (by omega), rfl⟩⟩
    · rintro ds S ⟨rfl, i, m, x, p, e, hm, ef, hx, rfl⟩
      cases m with
      | zero =>
        rw [List.drop_eq_nil_of_le (by omega), List.zip_nil_left, List.foldl_nil] at ef
        rw [← ef] at h
        exact h
      | succ m => cases e
end
end SC
end

section
set_option maxHeartbeats 4000000
namespace SC
open PySem L2 DL
section
variable {P : Program} {w : World} {K : PySem.W.Frag} {mg : Str → Option Value} {base : Heap}

abbrev cOn : PC := fun ds q _ => ∃ (rs : List Rat) (ks : List Nat), ds = [.tup (rs.map fr), .tup (ks.map fun k : Nat => D.int k)] ∧ ks.length ≤ 3 ∧ (∀ k ∈ ks, k < rs.length) ∧ (∀ x ∈ rs, Bd 800 x) ∧ q (fr (ks.foldl (fun t k => t + rs.getD k 0) 0))
abbrev N__law_on : List Str := ["_law_chance_here", "_law_lot_here", "_law_found", "_law_k"]
theorem sc__law_on : FnScope N__law_on ["_law_chance_here", "_law_lot_here"] (defScope s__law_on) := ⟨rfl, rfl, rfl, by decide +kernel, rfl, by decide +kernel, by decide +kernel⟩
theorem ok__law_on (T : Tx K mg) : FnG P w K mg base "_law_on" 4 (sp0 K 2 cOn) :=
  mkG0 T 132 rfl rfl sc__law_on (bind2 rfl fun _ _ _ _ _ _ _ _ => rfl) rfl fun cdv A outer s H E hr tk po => by
    refine ⟨_, (jb_cons (js_set (i := 2) sc__law_on.nd rfl (by first | exact .inl rfl | exact .inr rfl) (je_tup (ja_cons je_int (ja_cons je_int ja_nil))))
    (jb_cons (js_for po rfl (ji_tup (je_var (pv 1))) (jg_name (pg_name (i := 3) sc__law_on.nd rfl (by first | exact .inl rfl | exact .inr rfl))) (jb_one (js_set (i := 2) sc__law_on.nd rfl (by first | exact .inl rfl | exact .inr rfl) (je_call0 (ok__law_plus T) (hr.mono (by decide)) tk rfl (ja_cons (je_var (pv 2)) (ja_cons (je_ix (je_var (pv 0)) (je_var (pv 3))) ja_nil))))))
    (jb_one (js_ret (je_var (pv 2)))))), ?_⟩
    rintro ds q t ⟨rs, ks, rfl, h3, hk, hr, h⟩ -
    refine for_inv (fun items ds S => S = [] ∧ ∃ (l : List Nat) (x : Rat) (p : Option D), items = l.map (fun k : Nat => D.int k) ∧ l.foldl (fun t k => t + rs.getD k 0) x = ks.foldl (fun t k => t + rs.getD k 0) 0 ∧ l.length ≤ 3 ∧ Bd (2950 - 920 * l.length) x ∧ (∀ k ∈ l, k < rs.length) ∧
      ds = [some (.tup (rs.map fr)), some (.tup (ks.map fun k : Nat => D.int k)), some (fr x), p]) ?_ ?_ _ _ _ ⟨rfl, ks, 0, none, rfl, rfl, h3, ⟨Nat.pow_pos (by decide), Nat.one_lt_two_pow (by omega)⟩, hk, rfl⟩
    · rintro d items ds S ⟨rfl, l, x, p, e, ef, hl, hx, hl2, rfl⟩ k hk2
      cases l with
      | nil => cases e
      | cons j l =>
        injection e with e1 e2
        subst e1 e2
        have hj := hl2 j List.mem_cons_self
        have hv : rs[j]? = some (rs.getD j 0) := by
          rw [List.getD_eq_getElem?_getD, List.getElem?_eq_getElem hj]; rfl
        have hb := hr _ (List.mem_of_getElem? hv)
        simp only [List.length_cons] at hl hx
        exact ⟨fr (rs.getD j 0), atI_nat (by rw [List.getElem?_map, hv]; rfl), x, rs.getD j 0, rfl, hx.mono (by omega), hb.mono (by decide), hk2 _ _ ⟨rfl, l, _, _, rfl, ef, by omega, (hx.add hb).mono (by omega), fun i hi => hl2 i (List.mem_cons_of_mem _ hi), rfl⟩⟩
    · rintro ds S ⟨rfl, l, x, p, e, ef, hl, hx, hl2, rfl⟩
      cases l with
      | nil =>
        rw [← ef] at h
        exact h
      | cons y l => cases e
end
end SC
end

section
set_option maxHeartbeats 4000000
namespace SC
open PySem L2 DL
section
variable {P : Program} {w : World} {K : PySem.W.Frag} {mg : Str → Option Value} {base : Heap}

abbrev rowd (r : List Int) : D := .lst (r.map D.int)
def unitRow (n j : Nat) : List Int := (List.range n).map fun k : Nat => if (k : Int) = (j : Int) then 1 else 0
def gainRow (x : Qt) : List Int := x.pay.map fun p => p * x.price.den - x.price.num
def lrows (n : Nat) (qs : List Qt) : List (List Int) := (List.range n).map (unitRow n) ++ qs.map gainRow
abbrev cRows : PC := fun ds q _ => ∃ (n : Nat) (qs : List Qt), ds = [.int n, qsd qs] ∧ n ≤ 6 ∧ QsOk n qs ∧ q (.lst ((lrows n qs).map rowd))
abbrev N__law_rows : List Str := ["_law_size", "_law_quotes_here", "_law_found", "_law_j", "_law_k", "_law_payoff_here", "_law_price_here", "_law_number_here"]
theorem sc__law_rows : FnScope N__law_rows ["_law_size", "_law_quotes_here"] (defScope s__law_rows) := ⟨rfl, rfl, rfl, by decide +kernel, rfl, by decide +kernel, by decide +kernel⟩
theorem ok__law_rows (T : Tx K mg) : FnG P w K mg base "_law_rows" 1 (sp0 K 2 cRows) :=
  mkG0 T 123 rfl rfl sc__law_rows (bind2 rfl fun _ _ _ _ _ _ _ _ => rfl) rfl fun cdv A outer s H E hr tk po => by
    refine ⟨_, (jb_cons (js_setLcO (i := 2) rfl sc__law_rows.nd rfl rfl (sw_true rfl rfl rfl (by decide +kernel)) (own := [("_law_j", 3)]) (g := (gName 3)) (ji_rng1 rfl T.b_range (je_var (pv 0))) (blkOk_by (own := [("_law_j", 3)]) (N := N__law_rows) (sc := defScope s__law_rows) (by decide +kernel)) (fun _ _ _ _ _ => (pg_name (i := 3) sc__law_rows.nd rfl (by first | exact Or.inl rfl | exact Or.inr rfl))) gok_name (fun _ _ _ _ _ => jts_nil) (fun _ _ _ _ _ => (je_lc (own := [("_law_k", 4)]) (g := (gName 4)) rfl sc__law_rows.nd (ji_rng1 rfl T.b_range (je_var (pv 0))) (blkOk_by (own := [("_law_k", 4)]) (by kernel_rfl)) (fun _ _ _ _ _ => (pg_name (i := 4) sc__law_rows.nd rfl (by first | exact Or.inl rfl | exact Or.inr rfl))) gok_name (fun _ _ _ _ _ => jts_nil) (fun _ _ _ _ _ => (je_callTy call_intD rfl T.b_int (by decide +kernel) (ja_cons (je_cmp (op_eqD' hr.units) (je_var (pv 4)) (je_var (pv 3)) (nomark _)) ja_nil))))))
    (jb_cons (js_for po rfl (ji_tup (je_var (pv 1))) (jg_tup rfl (jgs_cons (jg_name (pg_name (i := 5) sc__law_rows.nd rfl (by first | exact .inl rfl | exact .inr rfl))) (jgs_cons (jg_name (pg_name (i := 6) sc__law_rows.nd rfl (by first | exact .inl rfl | exact .inr rfl))) jgs_nil))) (jb_one (js_expr (je_app (je_var (pv 2)) (je_lc (own := [("_law_number_here", 7)]) (g := (gName 7)) rfl sc__law_rows.nd (ji_tup (je_var (pv 5))) (blkOk_by (own := [("_law_number_here", 7)]) (N := N__law_rows) (sc := defScope s__law_rows) (by decide +kernel)) (fun _ _ _ _ _ => (pg_name (i := 7) sc__law_rows.nd rfl (by first | exact Or.inl rfl | exact Or.inr rfl))) gok_name (fun _ _ _ _ _ => jts_nil) (fun _ _ _ _ _ => (je_op op_subD (je_op op_mulD (je_var (pv 7)) (je_ix (je_var (pv 6)) je_int)) (je_ix (je_var (pv 6)) je_int))))))))
    (jb_one (js_ret (je_var (pv 2)))))), ?_⟩
    rintro ds q t ⟨n, qs, rfl, hn, hq, h⟩ -
    refine ⟨⟨by omega, by omega⟩, ?_⟩
    show lcD _ _ _ _ (rngD 0 n) _ _ _
    rw [rngD_map]
    refine lc_mapA (List.range n) (fun i : Nat => D.int i) (fun j => rowd (unitRow n j)) (fun _ _ => rfl) (by simp; omega) (fun j hj K hK => ?_) ?_
    · refine ⟨⟨by omega, by omega⟩, ?_⟩
      show lcD _ _ _ _ (rngD 0 n) _ _ _
      rw [rngD_map]
      refine lc_mapA (List.range n) (fun i : Nat => D.int i) (fun k : Nat => .int (if (k : Int) = (j : Int) then 1 else 0)) (fun _ _ => rfl) (by simp; omega) (fun k hk K2 hK2 => ?_) ?_
      · show K2 (.int (if (false ^^ decide ((k : Int) = (j : Int))) = true then 1 else 0)) []
        simpa using hK2
      · have e : (List.range n).map (fun k : Nat => D.int (if (k : Int) = (j : Int) then 1 else 0)) = (unitRow n j).map D.int := by
          unfold unitRow
          rw [List.map_map]
          rfl
        rw [e]
        exact hK
    · refine for_inv (fun items ds S => ∃ (done l : List Qt) (p2 p3 p4 p5 p6 : Option D), items = l.map qd ∧ done ++ l = qs ∧ S = [.lst ((lrows n done).map rowd)] ∧ ds = [some (.int n), some (qsd qs), some (.loc 0), p2, p3, p4, p5, p6]) ?_ ?_ _ _ _ ⟨[], qs, _, _, _, _, _, rfl, rfl, ?_, rfl⟩
      · rintro d items ds S ⟨done, l, p2, p3, p4, p5, p6, e, ed, rfl, rfl⟩ k hk
        cases l with
        | nil => cases e
        | cons x l =>
          rw [List.map_cons] at e
          injection e with e1 e2
          subst e1 e2
          have hx : x ∈ qs := by rw [← ed]; simp
          obtain ⟨⟨l1, l2⟩, l3⟩ := hq.2 x hx
          have hdl : done.length ≤ 31 := by
            have := hq.1
            rw [← ed] at this
            simp at this
            omega
          refine lc_mapA x.pay D.int (fun p => .int (p * x.price.den - x.price.num)) (fun _ _ => rfl) (by omega) (fun y hy K hK => ?_) ?_
          · have := l2 y hy
            exact ⟨_, rfl, mulW' (a := 20) (b := 20) (by omega) (by have := l3.2.2; omega), _, rfl, hK⟩
          · refine ⟨by unfold lrows; simp; omega, hk _ _ ⟨done ++ [x], l, _, _, _, _, _, rfl, by simp [ed], ?_, rfl⟩⟩
            unfold lrows gainRow
            simp
      · rintro ds S ⟨done, l, p2, p3, p4, p5, p6, e, ed, rfl, rfl⟩
        cases l with
        | nil =>
          rw [List.append_nil] at ed
          subst ed
          exact ⟨noLoc_map (fun _ => rfl) _, h⟩
        | cons y l => cases e
      · unfold lrows
        simp
end
end SC
end

section
set_option maxHeartbeats 4000000
namespace SC
open PySem L2 DL
section
variable {P : Program} {w : World} {K : PySem.W.Frag} {mg : Str → Option Value} {base : Heap}

/-- a tabulated list -/
abbrev tb (n : Nat) (f : Nat → D) : List D := (List.range n).map f
abbrev tI (n : Nat) (f : Nat → Int) : List D := tb n fun j => .int (f j)
theorem tb_len (n : Nat) (f : Nat → D) : (tb n f).length = n := by simp
theorem tb_get {n i : Nat} (f : Nat → D) (h : i < n) : (tb n f)[i]? = some (f i) := by
  rw [List.getElem?_map, List.getElem?_range h]; rfl
theorem tb_at {n i : Nat} (f : Nat → D) (h : i < n) : atI (tb n f) (i : Int) = some (f i) := atI_nat (tb_get f h)
theorem tb_last {n : Nat} (f : Nat → D) : atI (tb (n + 1) f) (-1) = some (f n) := by
  unfold atI
  rw [tb_len, show ixN (n + 1) (-1) = some n by unfold ixN; rw [if_neg (by omega), if_pos (by omega)]; congr 1; omega]
  exact tb_get f (Nat.lt_succ_self n)
theorem tb_add (a b : Nat) (f : Nat → D) : tb (a + b) f = tb a f ++ tb b fun j => f (a + j) := by
  unfold tb
  rw [List.range_add, List.map_append, List.map_map]
  rfl
theorem tb_congr {n : Nat} {f g : Nat → D} (h : ∀ i, i < n → f i = g i) : tb n f = tb n g := List.map_congr_left fun i hi => h i (List.mem_range.mp hi)
theorem enumD_tb (n : Nat) (f : Nat → D) : enumD (tb n f) = tb n fun i => .tup [.int i, f i] := by
  unfold enumD
  rw [tb_len]
  unfold tb
  rw [List.zip_map_right, List.map_map]
  have e : (List.range n).zip (List.range n) = (List.range n).map fun i => (i, i) := by
    apply List.ext_getElem
    · simp
    · intro i h1 h2
      simp
  rw [e, List.map_map]
  rfl
open MA in
abbrev rowsD (p : Pr) : D := .lst (tb p.m fun k => .lst (tI p.s (p.A k)))
open MA in
abbrev linesD (p : Pr) (T : Tb) : List D := tb (p.m + 1) fun i => .lst (tI (p.s + p.m + 1) (T.L i))
open MA in
abbrev tabC (p : Pr) (T : Tb) : List Cell := [.ins .table [.int p.m, .int p.s, .int T.u, .loc 1, .loc 2], .lst (tI p.m fun i => T.b i), .lst (linesD p T)]
open MA in
abbrev cTabI : PI_ := fun ds q => ∃ p : Pr, p.m ≤ 10 ∧ p.s ≤ 40 ∧ (∀ j, p.s ≤ j → p.c j = 0) ∧ ds = [rowsD p, .lst (tI p.m p.b), .lst (tI p.s p.c)] ∧ q (tabC p p.first)
abbrev N_Table_init : List Str := ["self", "rows", "bounds", "worths", "many", "size", "k", "row", "j", "worth"]
theorem sc_Table_init : FnScope N_Table_init ["self", "rows", "bounds", "worths"] (defScope s_Table_init) := ⟨rfl, rfl, rfl, by decide +kernel, rfl, by decide +kernel, by decide +kernel⟩
theorem ok_Table_init (T : Tx K mg) : FnC P w K mg base "Table" Cl.table.adr 1 (spI K 3 .table cTabI) :=
  mkC T 30 rfl T.k_Table T.g_Table sc_Table_init (bind4 rfl fun _ _ _ _ _ _ _ _ _ _ => rfl) rfl fun cdv A outer s H E hr tk po => by
    refine ⟨_, (jb_cons (js_asgs (n := 2) rfl (ja_cons (je_callB call_lenD rfl T.b_len (by decide +kernel) (ja_cons (je_var (pv 1)) ja_nil)) (ja_cons (je_callB call_lenD rfl T.b_len (by decide +kernel) (ja_cons (je_var (pv 3)) ja_nil)) ja_nil)) (jgs_cons (jg_name (pg_name (i := 4) sc_Table_init.nd rfl (by first | exact .inl rfl | exact .inr rfl))) (jgs_cons (jg_name (pg_name (i := 5) sc_Table_init.nd rfl (by first | exact .inl rfl | exact .inr rfl))) jgs_nil)))
    (jb_cons (js_setF T.cf .table 0 id (.inl rfl) (je_var (pv 0)) (je_var (pv 4)))
    (jb_cons (js_setF T.cf .table 1 id (.inl rfl) (je_var (pv 0)) (je_var (pv 5)))
    (jb_cons (js_setF T.cf .table 2 id (.inl rfl) (je_var (pv 0)) je_int)
    (jb_cons (js_setF T.cf .table 3 id (.inl rfl) (je_var (pv 0)) (je_lcO (own := [("k", 6)]) (g := (gName 6)) rfl sc_Table_init.nd (ji_rng1 rfl T.b_range (je_var (pv 4))) (blkOk_by (own := [("k", 6)]) (N := N_Table_init) (sc := defScope s_Table_init) (by decide +kernel)) (fun _ _ _ _ _ => (pg_name (i := 6) sc_Table_init.nd rfl (by first | exact Or.inl rfl | exact Or.inr rfl))) gok_name (fun _ _ _ _ _ => jts_nil) (fun _ _ _ _ _ => (je_op op_addD (je_var (pv 5)) (je_var (pv 6))))))
    (jb_cons (js_setF T.cf .table 4 id (.inl rfl) (je_var (pv 0)) (je_lcO (own := [("k", 6), ("row", 7)]) (g := (gTup K 2 (gCons (gName 6) (gCons (gName 7) gNil)))) rfl sc_Table_init.nd (ji_enum rfl T.b_enumerate (je_var (pv 1))) (blkOk_by (own := [("k", 6), ("row", 7)]) (N := N_Table_init) (sc := defScope s_Table_init) (by decide +kernel)) (fun _ _ _ _ _ => (pg_tup rfl (pgs_cons (pg_name (i := 6) sc_Table_init.nd rfl (by first | exact Or.inl rfl | exact Or.inr rfl)) (pgs_cons (pg_name (i := 7) sc_Table_init.nd rfl (by first | exact Or.inl rfl | exact Or.inr rfl)) pgs_nil)))) (gok_tup (gok_cons gok_name (gok_cons gok_name gok_nil))) (fun _ _ _ _ _ => jts_nil) (fun _ _ _ _ _ => (je_op op_addD (je_op op_addD (je_callTy call_listD rfl T.b_list (by decide +kernel) (ja_cons (je_var (pv 7)) ja_nil)) (je_lc (own := [("j", 8)]) (g := (gName 8)) rfl sc_Table_init.nd (ji_rng1 rfl T.b_range (je_var (pv 4))) (blkOk_by (own := [("j", 8)]) (by kernel_rfl)) (fun _ _ _ _ _ => (pg_name (i := 8) sc_Table_init.nd rfl (by first | exact Or.inl rfl | exact Or.inr rfl))) gok_name (fun _ _ _ _ _ => jts_nil) (fun _ _ _ _ _ => (je_callTy call_intD rfl T.b_int (by decide +kernel) (ja_cons (je_cmp (op_eqD' hr.units) (je_var (pv 8)) (je_var (pv 6)) (nomark _)) ja_nil))))) (je_lst (ja_cons (je_ix (je_var (pv 2)) (je_var (pv 6))) ja_nil))))))
    (jb_one (js_expr (je_app (je_fld T.cf .table 4 (je_var (pv 0))) (je_op op_addD (je_lc (own := [("worth", 9)]) (g := (gName 9)) rfl sc_Table_init.nd (ji_lst (je_var (pv 3))) (blkOk_by (own := [("worth", 9)]) (N := N_Table_init) (sc := defScope s_Table_init) (by decide +kernel)) (fun _ _ _ _ _ => (pg_name (i := 9) sc_Table_init.nd rfl (by first | exact Or.inl rfl | exact Or.inr rfl))) gok_name (fun _ _ _ _ _ => jts_nil) (fun _ _ _ _ _ => (je_un un_negD (je_var (pv 9))))) (je_op op_mulD (je_lst (ja_cons je_int ja_nil)) (je_op op_addD (je_var (pv 4)) je_int)))))))))))), ?_⟩
    rintro ds q ⟨p, hm, hs, hc, rfl, h⟩ -
    have hn : ∀ {n : Nat} {f : Nat → D}, (∀ i, noLoc [f i] = true) → noLoc (tb n f) = true := fun h => noLoc_map h _
    refine ⟨⟨by rw [tb_len]; omega, by rw [tb_len]; omega⟩, ?_⟩
    show lcD _ _ _ _ (rngD 0 ((tb p.m _).length : Nat)) _ _ _
    simp only [tb_len]
    show lcD _ _ _ _ _ _ [.ins .table [.int p.m, .int p.s, .int 1]] _
    rw [rngD_map]
    refine lc_mapA (List.range p.m) (fun i : Nat => D.int i) (fun k => D.int ((p.s : Int) + k)) (fun _ _ => rfl) (by simp; omega) (fun k hk K hK => hK) ?_
    show lcD _ _ _ _ (enumD (tb p.m fun k => .lst (tI p.s (p.A k)))) _ [.ins .table [.int p.m, .int p.s, .int 1, .loc 1], .lst ((List.range p.m).map fun k : Nat => .int (p.s + k))] _
    rw [enumD_tb]
    refine lc_mapA (List.range p.m) (fun i => D.tup [.int i, .lst (tI p.s (p.A i))]) (fun k => D.lst (tI (p.s + p.m + 1) (p.M k))) (fun _ _ => rfl) (by simp; omega) (fun k hk K hK => ?_) ?_
    · have hk := List.mem_range.mp hk
      refine ⟨⟨by omega, by omega⟩, ?_⟩
      show lcD _ _ _ _ (rngD 0 p.m) _ _ _
      rw [rngD_map]
      refine lc_mapA (List.range p.m) (fun i : Nat => D.int i) (fun j => D.int (if k = j then 1 else 0)) (fun _ _ => rfl) (by simp; omega) (fun j hj K2 hK2 => ?_) ?_
      · show K2 (.int (if (false ^^ decide ((j : Int) = (k : Int))) = true then 1 else 0)) _
        have e : (if (false ^^ decide ((j : Int) = (k : Int))) = true then (1 : Int) else 0) = if k = j then 1 else 0 := by
          by_cases z : k = j
          · rw [if_pos z, if_pos (by simp; omega)]
          · rw [if_neg z, if_neg (by simp; omega)]
        rw [e]
        exact hK2
      · refine ⟨by simp; omega, .int (p.b k), tb_at _ hk, by simp; omega, ?_⟩
        have e : (tI p.s (p.A k) ++ (List.range p.m).map fun j => D.int (if k = j then 1 else 0)) ++ [.int (p.b k)] = tI (p.s + p.m + 1) (p.M k) := by
          show _ = tb (p.s + p.m + 1) fun j => D.int (p.M k j)
          rw [tb_add, tb_add]
          congr 1
          · congr 1
            · exact tb_congr fun j hj => by unfold MA.Pr.M; rw [if_pos hj]
            · exact tb_congr fun j hj => by rw [p.M_slack hj]
          · show [D.int (p.b k)] = [D.int (p.M k (p.s + p.m + 0))]
            rw [Nat.add_zero, p.M_rhs]
        show K (.lst ((tI p.s (p.A k) ++ (List.range p.m).map fun j => D.int (if k = j then 1 else 0)) ++ [.int (p.b k)])) _
        rw [e]
        exact hK
    · show lcD _ _ _ _ (tI p.s p.c) _ [.ins .table [.int p.m, .int p.s, .int 1, .loc 1, .loc 2], .lst ((List.range p.m).map fun k : Nat => .int (p.s + k)), .lst ((List.range p.m).map fun k => .lst (tI (p.s + p.m + 1) (p.M k)))] _
      refine lc_mapA (List.range p.s) (fun j => D.int (p.c j)) (fun j => D.int (-p.c j)) (fun _ _ => rfl) (by simp; omega) (fun j hj K hK => hK) ?_
      refine ⟨⟨by omega, by omega, by simp; omega⟩, by simp; omega, by simp; omega, ?_⟩
      have e : (List.range p.m).map (fun k => D.lst (tI (p.s + p.m + 1) (p.M k))) ++ [D.lst ((List.range p.s).map (fun j => D.int (-p.c j)) ++ (List.replicate ((p.m : Int) + 1).toNat [D.int 0]).flatten)] = linesD p p.first := by
        show _ = tb (p.m + 1) fun i => D.lst (tI (p.s + p.m + 1) (p.first.L i))
        rw [tb_add]
        congr 1
        · exact tb_congr fun i hi => by
            show _ = D.lst (tI _ fun j => if i = p.m then -p.c j else p.M i j)
            simp only [if_neg (show ¬ i = p.m by omega)]
        · show _ = [D.lst (tb (p.s + p.m + 1) fun j => D.int (if p.m + 0 = p.m then -p.c j else p.M (p.m + 0) j))]
          simp only [Nat.add_zero, if_true]
          rw [show p.s + p.m + 1 = p.s + (p.m + 1) by omega, tb_add]
          congr 2
          congr 1
          rw [show ((p.m : Int) + 1).toNat = p.m + 1 by omega, List.flatten_replicate_singleton]
          have : tb (p.m + 1) (fun j => D.int (-p.c (p.s + j))) = tb (p.m + 1) fun _ => D.int 0 := tb_congr fun j _ => by rw [hc _ (by omega)]; rfl
          rw [this]
          show _ = (List.range (p.m + 1)).map fun _ => D.int 0
          rw [List.map_const', List.length_range]
      show q [.ins .table [.int p.m, .int p.s, .int 1, .loc 1, .loc 2], .lst ((List.range p.m).map fun k : Nat => .int (p.s + k)), .lst ((List.range p.m).map (fun k => D.lst (tI (p.s + p.m + 1) (p.M k))) ++ [D.lst ((List.range p.s).map (fun j => D.int (-p.c j)) ++ (List.replicate ((p.m : Int) + 1).toNat [D.int 0]).flatten)])]
      rw [e]
      exact h
end
end SC
end

section
set_option maxHeartbeats 4000000
namespace SC
open PySem L2 DL
section
variable {P : Program} {w : World} {K : PySem.W.Frag} {mg : Str → Option Value} {base : Heap}

theorem belowL_tb {m n : Nat} {f : Nat → D} (h : ∀ i, belowL m [f i] = true) : belowL m (tb n f) = true := by
  have go : ∀ l : List Nat, belowL m (l.map f) = true := by
    intro l
    induction l with
    | nil => rfl
    | cons i l ih =>
      have := h i
      rw [List.map_cons]
      cases hf : f i with
      | loc k =>
        rw [hf] at this
        simp only [belowL, Bool.and_true] at this
        show (Nat.blt k m && belowL m (l.map f)) = true
        rw [this, ih]; rfl
      | _ => exact ih
  exact go _
structure TabOk (p : MA.Pr) (T : MA.Tb) : Prop where
  ok : p.Ok
  b : MA.PrB p
  inn : MA.In p T
  s40 : p.s ≤ 40
theorem tab_below (p : MA.Pr) (T : MA.Tb) : allC 3 (tabC p T) := ⟨rfl, belowL_tb fun _ => rfl, belowL_tb fun _ => rfl, trivial⟩
theorem TabOk.m3 {p : MA.Pr} {T : MA.Tb} (h : TabOk p T) : p.m ≤ 3 := by rcases h.ok.m23 with h | h <;> omega
abbrev cEnter : PM := fun ds S q => ∃ (p : MA.Pr) (T : MA.Tb), TabOk p T ∧ ds = [.loc 0] ∧ S = tabC p T ∧ ((∀ j, j < p.s + p.m → 0 ≤ T.L p.m j) → q .non (tabC p T)) ∧
  ∀ j : Nat, j < p.s + p.m → T.L p.m j < 0 → (∀ i, i < j → 0 ≤ T.L p.m i) → q (.int j) (tabC p T)
abbrev cAhead : PM := fun ds S q => ∃ (p : MA.Pr) (T : MA.Tb) (i o j : Nat), TabOk p T ∧ i < p.m ∧ o < p.m ∧ j < p.s + p.m ∧ ds = [.loc 0, .int i, .int o, .int j] ∧ S = tabC p T ∧ q (.bl (decide (MA.Ahead p T j i o))) (tabC p T)
abbrev cLeave : PM := fun ds S q => ∃ (p : MA.Pr) (T : MA.Tb) (j : Nat), TabOk p T ∧ j < p.s + p.m ∧ ds = [.loc 0, .int j] ∧ S = tabC p T ∧ (MA.Lv p T j p.m none → q .non (tabC p T)) ∧ ∀ r : Nat, MA.Lv p T j p.m (some r) → q (.int r) (tabC p T)
abbrev cTurn : PM := fun ds S q => ∃ (p : MA.Pr) (T : MA.Tb) (r j : Nat), TabOk p T ∧ r < p.m ∧ j < p.s + p.m ∧ ds = [.loc 0, .int r, .int j] ∧ S = tabC p T ∧ q .non (tabC p (T.turn r j))
theorem line_at {p : MA.Pr} {T : MA.Tb} {i : Nat} (h : i ≤ p.m) : atI (linesD p T) (i : Int) = some (.lst (tI (p.s + p.m + 1) (T.L i))) := tb_at _ (by omega)
theorem line_last {p : MA.Pr} {T : MA.Tb} : atI (linesD p T) (-1) = some (.lst (tI (p.s + p.m + 1) (T.L p.m))) := tb_last _
theorem cell_at {n : Nat} {f : Nat → Int} {j : Nat} (h : j < n) : atI (tI n f) (j : Int) = some (.int (f j)) := tb_at _ h
theorem cell_last {n : Nat} {f : Nat → Int} : atI (tI (n + 1) f) (-1) = some (.int (f n)) := tb_last _
abbrev N_Table_entering : List Str := ["self", "last", "place"]
theorem sc_Table_entering : FnScope N_Table_entering ["self"] (defScope s_Table_entering) := ⟨rfl, rfl, rfl, by decide +kernel, rfl, by decide +kernel, by decide +kernel⟩
theorem ok_Table_entering (T : Tx K mg) : FnM P w K mg base Cl.table.adr "entering" 1 (spM K 1 3 cEnter) :=
  mkMM T 31 rfl T.m_Table_entering sc_Table_entering (bind1 rfl fun _ _ _ _ _ _ _ => rfl) rfl fun cdv A outer s H E hr tk po => by
    refine ⟨_, (jb_cons (js_set (i := 1) sc_Table_entering.nd rfl (by first | exact .inl rfl | exact .inr rfl) (je_ix (je_fld T.cf .table 4 (je_var (pv 0))) (je_un un_negD je_int)))
    (jb_cons (js_for po rfl (ji_rng1 rfl T.b_range (je_op op_addD (je_fld T.cf .table 1 (je_var (pv 0))) (je_fld T.cf .table 0 (je_var (pv 0))))) (jg_name (pg_name (i := 2) sc_Table_entering.nd rfl (by first | exact .inl rfl | exact .inr rfl))) (jb_one (js_if (jt_cmp op_ltD (je_ix (je_var (pv 1)) (je_var (pv 2))) je_int (nomark _)) (jb_one (js_ret (je_var (pv 2)))) jb_nil)))
    (jb_one (js_ret je_non)))), ?_⟩
    rintro ds S q ⟨p, T', ht, rfl, rfl, h1, h2⟩ - -
    have m3 := ht.m3
    have s40 := ht.s40
    refine ⟨_, line_last, ?_⟩
    refine ⟨⟨by omega, by omega⟩, ?_⟩
    show forD _ _ _ (rngD 0 ((p.s : Int) + (p.m : Int))) _ _
    rw [show (p.s : Int) + (p.m : Int) = ((p.s + p.m : Nat) : Int) by omega, rngD_map, List.range_eq_range']
    refine for_inv (fun items ds S => ∃ (i m : Nat) (p2 : Option D), items = (List.range' i m).map (fun i : Nat => D.int i) ∧ i + m = p.s + p.m ∧ (∀ k, k < i → 0 ≤ T'.L p.m k) ∧
      S = tabC p T' ∧ ds = [some (.loc 0), some (.lst (tI (p.s + p.m + 1) (T'.L p.m))), p2]) ?_ ?_ _ _ _ ⟨0, p.s + p.m, none, rfl, by omega, fun k hk => by omega, rfl, rfl⟩
    · rintro d items ds S ⟨i, m, p2, e, hm, hb, rfl, rfl⟩ k hk
      cases m with
      | zero => cases e
      | succ m =>
        rw [List.range'_succ, List.map_cons] at e
        injection e with e1 e2
        subst e1 e2
        refine ⟨_, cell_at (by omega), ?_⟩
        refine onB (fun z => ?_) fun z => ?_
        · exact ⟨Nat.le_refl 3, tab_below p T', trivial, h2 i (by omega) (of_decide_eq_true z) hb⟩
        · refine hk _ _ ⟨i + 1, m, _, rfl, by omega, fun l hl => ?_, rfl, rfl⟩
          by_cases y : l = i
          · subst y; have := of_decide_eq_false z; omega
          · exact hb l (by omega)
    · rintro ds S ⟨i, m, p2, e, hm, hb, rfl, rfl⟩
      cases m with
      | zero => exact ⟨Nat.le_refl 3, tab_below p T', trivial, h1 fun j hj => hb j (by omega)⟩
      | succ m => cases e
theorem zipD_tb (n : Nat) (f g : Nat → D) : zipD (tb n f) (tb n g) = tb n fun j => .tup [f j, g j] := by
  unfold zipD tb
  rw [List.zip_map, List.map_map]
  have e : (List.range n).zip (List.range n) = (List.range n).map fun i => (i, i) := by
    apply List.ext_getElem
    · simp
    · intro i h1 h2
      simp
  rw [e, List.map_map]
  rfl
theorem tb_set (n k : Nat) (f : Nat → D) (x : D) : (tb n f).set k x = tb n fun i => if i = k then x else f i := by
  apply List.ext_getElem
  · simp
  · intro i h1 h2
    rw [List.getElem_set]
    by_cases z : k = i
    · subst z; simp
    · rw [if_neg z]; simp [Ne.symm z]
theorem ixN_nat {n i : Nat} (h : i < n) : ixN n (i : Int) = some i := by
  unfold ixN
  rw [if_pos (by omega), if_pos (by omega)]; simp
theorem TabOk.bl {p : MA.Pr} {T : MA.Tb} (h : TabOk p T) {i j : Nat} (hi : i ≤ p.m) (hj : j ≤ p.s + p.m) : (T.L i j).natAbs < 2 ^ 97 := h.inn.bl h.ok h.b hi hj
theorem tab_ret {p : MA.Pr} {T : MA.Tb} {q : D → List Cell → Prop} {b : Bool} (h : q (.bl b) (tabC p T)) : (outM 3 q).rt (.bl b) (tabC p T) := ⟨Nat.le_refl 3, tab_below p T, trivial, h⟩
abbrev N_Table_is_ahead : List Str := ["self", "index", "other", "place", "one", "two"]
theorem sc_Table_is_ahead : FnScope N_Table_is_ahead ["self", "index", "other", "place"] (defScope s_Table_is_ahead) := ⟨rfl, rfl, rfl, by decide +kernel, rfl, by decide +kernel, by decide +kernel⟩
theorem ok_Table_is_ahead (T : Tx K mg) : FnM P w K mg base Cl.table.adr "is_ahead" 1 (spM K 4 3 cAhead) :=
  mkMM T 33 rfl T.m_Table_is_ahead sc_Table_is_ahead (bind4 rfl fun _ _ _ _ _ _ _ _ _ _ => rfl) rfl fun cdv A outer s H E hr tk po => by
    refine ⟨_, (jb_cons (js_set (i := 4) sc_Table_is_ahead.nd rfl (by first | exact .inl rfl | exact .inr rfl) (je_op op_mulD (je_ix (je_ix (je_fld T.cf .table 4 (je_var (pv 0))) (je_var (pv 1))) (je_un un_negD je_int)) (je_ix (je_ix (je_fld T.cf .table 4 (je_var (pv 0))) (je_var (pv 2))) (je_var (pv 3)))))
    (jb_cons (js_set (i := 5) sc_Table_is_ahead.nd rfl (by first | exact .inl rfl | exact .inr rfl) (je_op op_mulD (je_ix (je_ix (je_fld T.cf .table 4 (je_var (pv 0))) (je_var (pv 2))) (je_un un_negD je_int)) (je_ix (je_ix (je_fld T.cf .table 4 (je_var (pv 0))) (je_var (pv 1))) (je_var (pv 3)))))
    (jb_one (js_ret (je_or (je_cmp op_ltD (je_var (pv 4)) (je_var (pv 5)) (nomark _)) (je_one (je_and (je_cmp (op_eqD' hr.units) (je_var (pv 4)) (je_var (pv 5)) (nomark _)) (je_one (je_cmp op_ltD (je_ix (je_fld T.cf .table 3 (je_var (pv 0))) (je_var (pv 1))) (je_ix (je_fld T.cf .table 3 (je_var (pv 0))) (je_var (pv 2))) (nomark _)))))))))), ?_⟩
    rintro ds S q ⟨p, T', i, o, j, ht, hi, ho, hj, rfl, rfl, h⟩ - -
    refine ⟨_, line_at (by omega), _, cell_last, _, line_at (by omega), _, cell_at (by omega), mulW' (ht.bl (by omega) (by omega)) (ht.bl (by omega) (by omega)), ?_⟩
    refine ⟨_, line_at (by omega), _, cell_last, _, line_at (by omega), _, cell_at (by omega), mulW' (ht.bl (by omega) (by omega)) (ht.bl (by omega) (by omega)), ?_⟩
    refine onB (fun z => ?_) fun z => ?_
    · rw [decide_eq_true (p := MA.Ahead p T' j i o) (Or.inl (of_decide_eq_true z))] at h
      exact tab_ret h
    · have z := of_decide_eq_false z
      refine onB (fun y => ?_) fun y => ?_
      · have y : T'.L i (p.s + p.m) * T'.L o j = T'.L o (p.s + p.m) * T'.L i j := by simpa using y
        refine ⟨_, cell_at hi, _, cell_at ho, ?_⟩
        show (outM 3 q).rt (.bl (decide ((T'.b i : Int) < (T'.b o : Int)))) (tabC p T')
        have e : decide ((T'.b i : Int) < (T'.b o : Int)) = decide (MA.Ahead p T' j i o) := decide_congr ⟨fun x => .inr ⟨y, by omega⟩, fun x => by
          rcases x with x | x
          · exact absurd x z
          · have := x.2; omega⟩
        rw [e]
        exact tab_ret h
      · have y : ¬ T'.L i (p.s + p.m) * T'.L o j = T'.L o (p.s + p.m) * T'.L i j := by simpa using y
        rw [decide_eq_false (p := MA.Ahead p T' j i o) (fun x => by
          rcases x with x | x
          · exact z x
          · exact y x.1)] at h
        exact tab_ret h
abbrev optD : Option Nat → D
  | none => .non
  | some r => .int r
abbrev N_Table_leaving : List Str := ["self", "place", "found", "index", "step"]
theorem sc_Table_leaving : FnScope N_Table_leaving ["self", "place"] (defScope s_Table_leaving) := ⟨rfl, rfl, rfl, by decide +kernel, rfl, by decide +kernel, by decide +kernel⟩
theorem ok_Table_leaving (T : Tx K mg) : FnM P w K mg base Cl.table.adr "leaving" 2 (spM K 2 3 cLeave) :=
  mkMM T 32 rfl T.m_Table_leaving sc_Table_leaving (bind2 rfl fun _ _ _ _ _ _ _ _ => rfl) rfl fun cdv A outer s H E hr tk po => by
    refine ⟨_, (jb_cons (js_set (i := 2) sc_Table_leaving.nd rfl (by first | exact .inl rfl | exact .inr rfl) je_non)
    (jb_cons (js_for po rfl (ji_rng1 rfl T.b_range (je_fld T.cf .table 0 (je_var (pv 0)))) (jg_name (pg_name (i := 3) sc_Table_leaving.nd rfl (by first | exact .inl rfl | exact .inr rfl))) (jb_cons (js_set (i := 4) sc_Table_leaving.nd rfl (by first | exact .inl rfl | exact .inr rfl) (je_ix (je_ix (je_fld T.cf .table 4 (je_var (pv 0))) (je_var (pv 3))) (je_var (pv 1))))
    (jb_one (js_if (jt_w (jw_and (jt_cmp op_gtD (je_var (pv 4)) je_int (nomark _)) (jw_and1 (jt_w (jw_or (jt_cmp op_isND (je_var (pv 2)) je_non (nomark _)) (jw_or1 (jt_val (je_methM (ok_Table_is_ahead T) (hr.mono (by decide)) (je_var (pv 0)) (ja_cons (je_var (pv 3)) (ja_cons (je_var (pv 2)) (ja_cons (je_var (pv 1)) ja_nil))) (by decide +kernel))))))))) (jb_one (js_set (i := 2) sc_Table_leaving.nd rfl (by first | exact .inl rfl | exact .inr rfl) (je_var (pv 3)))) jb_nil))))
    (jb_one (js_ret (je_var (pv 2)))))), ?_⟩
    rintro ds S q ⟨p, T', j, ht, hj, rfl, rfl, h1, h2⟩ - -
    have m3 := ht.m3
    have s40 := ht.s40
    refine ⟨⟨by omega, by omega⟩, ?_⟩
    show forD _ _ _ (rngD 0 (p.m : Int)) _ _
    rw [rngD_map, List.range_eq_range']
    refine for_inv (fun items ds S => ∃ (i m : Nat) (f : Option Nat) (p3 p4 : Option D), items = (List.range' i m).map (fun i : Nat => D.int i) ∧ i + m = p.m ∧ MA.Lv p T' j i f ∧
      S = tabC p T' ∧ ds = [some (.loc 0), some (.int j), some (optD f), p3, p4]) ?_ ?_ _ _ _ ⟨0, p.m, none, none, none, rfl, by omega, fun k hk => by omega, rfl, rfl⟩
    · rintro d items ds S ⟨i, m, f, p3, p4, e, hm, lv, rfl, rfl⟩ k hk
      cases m with
      | zero => cases e
      | succ m =>
        rw [List.range'_succ, List.map_cons] at e
        injection e with e1 e2
        subst e1 e2
        refine ⟨_, line_at (by omega), _, cell_at (by omega), ?_⟩
        refine onB (fun z => ?_) fun z => ?_
        · have z := of_decide_eq_true z
          cases f with
          | none => exact hk _ _ ⟨i + 1, m, some i, _, _, rfl, by omega, lv.first z, rfl, rfl⟩
          | some r =>
            refine ⟨p, T', i, r, j, ht, by omega, by have := lv.1; omega, hj, rfl, rfl, ?_⟩
            refine onB (fun y => ?_) fun y => ?_
            · exact hk _ _ ⟨i + 1, m, some i, _, _, rfl, by omega, lv.take z (of_decide_eq_true y), rfl, rfl⟩
            · exact hk _ _ ⟨i + 1, m, some r, _, _, rfl, by omega, lv.keep (of_decide_eq_false y), rfl, rfl⟩
        · exact hk _ _ ⟨i + 1, m, f, _, _, rfl, by omega, lv.skip (of_decide_eq_false z), rfl, rfl⟩
    · rintro ds S ⟨i, m, f, p3, p4, e, hm, lv, rfl, rfl⟩
      cases m with
      | zero =>
        rw [show i = p.m by omega] at lv
        cases f with
        | none => exact ⟨Nat.le_refl 3, tab_below p T', trivial, h1 lv⟩
        | some r => exact ⟨Nat.le_refl 3, tab_below p T', trivial, h2 r lv⟩
      | succ m => cases e
abbrev N_Table_turn : List Str := ["self", "index", "place", "own", "step", "other", "row", "by", "far", "near"]
theorem sc_Table_turn : FnScope N_Table_turn ["self", "index", "place"] (defScope s_Table_turn) := ⟨rfl, rfl, rfl, by decide +kernel, rfl, by decide +kernel, by decide +kernel⟩
theorem ok_Table_turn (T : Tx K mg) : FnM P w K mg base Cl.table.adr "turn" 1 (spM K 3 3 cTurn) :=
  mkMM T 34 rfl T.m_Table_turn sc_Table_turn (bind3 rfl fun _ _ _ _ _ _ _ _ _ => rfl) rfl fun cdv A outer s H E hr tk po => by
    refine ⟨_, (jb_cons (js_set (i := 3) sc_Table_turn.nd rfl (by first | exact .inl rfl | exact .inr rfl) (je_ix (je_fld T.cf .table 4 (je_var (pv 0))) (je_var (pv 1))))
    (jb_cons (js_set (i := 4) sc_Table_turn.nd rfl (by first | exact .inl rfl | exact .inr rfl) (je_ix (je_var (pv 3)) (je_var (pv 2))))
    (jb_cons (js_for po rfl (ji_rng1 rfl T.b_range (je_op op_addD (je_fld T.cf .table 0 (je_var (pv 0))) je_int)) (jg_name (pg_name (i := 5) sc_Table_turn.nd rfl (by first | exact .inl rfl | exact .inr rfl))) (jb_one (js_if (jt_cmp (op_neD' hr.units) (je_var (pv 5)) (je_var (pv 1)) (nomark _)) (jb_cons (js_set (i := 6) sc_Table_turn.nd rfl (by first | exact .inl rfl | exact .inr rfl) (je_ix (je_fld T.cf .table 4 (je_var (pv 0))) (je_var (pv 5))))
    (jb_cons (js_set (i := 7) sc_Table_turn.nd rfl (by first | exact .inl rfl | exact .inr rfl) (je_ix (je_var (pv 6)) (je_var (pv 2))))
    (jb_one (js_asg (je_lc (own := [("far", 8), ("near", 9)]) (g := (gTup K 2 (gCons (gName 8) (gCons (gName 9) gNil)))) rfl sc_Table_turn.nd (ji_zip rfl T.b_zip (je_var (pv 6)) (je_var (pv 3)) (fun h => RZ.pi_zipA rfl T.b_zip h)) (blkOk_by (own := [("far", 8), ("near", 9)]) (N := N_Table_turn) (sc := defScope s_Table_turn) (by decide +kernel)) (fun _ _ _ _ _ => (pg_tup rfl (pgs_cons (pg_name (i := 8) sc_Table_turn.nd rfl (by first | exact Or.inl rfl | exact Or.inr rfl)) (pgs_cons (pg_name (i := 9) sc_Table_turn.nd rfl (by first | exact Or.inl rfl | exact Or.inr rfl)) pgs_nil)))) (gok_tup (gok_cons gok_name (gok_cons gok_name gok_nil))) (fun _ _ _ _ _ => jts_nil) (fun _ _ _ _ _ => (je_op op_fdivD (je_op op_subD (je_op op_mulD (je_var (pv 4)) (je_var (pv 8))) (je_op op_mulD (je_var (pv 7)) (je_var (pv 9)))) (je_fld T.cf .table 2 (je_var (pv 0)))))) (jg_sub (W := W0) (je_fld T.cf .table 4 (je_var (pv 0))) (je_var (pv 5))))))) jb_nil)))
    (jb_cons (js_setF T.cf .table 2 id (.inl rfl) (je_var (pv 0)) (je_var (pv 4)))
    (jb_one (js_asg (je_var (pv 2)) (jg_sub (W := W0) (je_fld T.cf .table 3 (je_var (pv 0))) (je_var (pv 1))))))))), ?_⟩
    rintro ds S q ⟨p, T', r, j, ht, hr, hj, rfl, rfl, h⟩ - -
    have m3 := ht.m3
    have s40 := ht.s40
    have up := ht.inn.up
    have bu := ht.inn.bu ht.ok ht.b
    refine ⟨_, line_at (by omega), _, cell_at (by omega), ?_⟩
    refine ⟨⟨by omega, by omega⟩, ?_⟩
    show forD _ _ _ (rngD 0 ((p.m : Int) + 1)) _ _
    rw [show (p.m : Int) + 1 = ((p.m + 1 : Nat) : Int) by omega, rngD_map, List.range_eq_range']
    refine for_inv (fun items ds S => ∃ (i m : Nat) (p5 p6 p7 p8 p9 : Option D), items = (List.range' i m).map (fun i : Nat => D.int i) ∧ i + m = p.m + 1 ∧
      S = [.ins .table [.int p.m, .int p.s, .int T'.u, .loc 1, .loc 2], .lst (tI p.m fun i => T'.b i), .lst (tb (p.m + 1) fun k => .lst (tI (p.s + p.m + 1) (if k < i then (T'.turn r j).L k else T'.L k)))] ∧
      ds = [some (.loc 0), some (.int r), some (.int j), some (.lst (tI (p.s + p.m + 1) (T'.L r))), some (.int (T'.L r j)), p5, p6, p7, p8, p9]) ?_ ?_ _ _ _ ⟨0, p.m + 1, _, _, _, _, _, rfl, by omega, ?_, rfl⟩
    · rintro d items ds S ⟨i, m, p5, p6, p7, p8, p9, e, hm, rfl, rfl⟩ k hk
      cases m with
      | zero => cases e
      | succ m =>
        rw [List.range'_succ, List.map_cons] at e
        injection e with e1 e2
        subst e1 e2
        refine onB (fun z => ?_) fun z => ?_
        · have ne : i ≠ r := by
            intro y
            subst y
            simp at z
          have hrow : atI (tb (p.m + 1) fun k => D.lst (tI (p.s + p.m + 1) (if k < i then (T'.turn r j).L k else T'.L k))) (i : Int) = some (.lst (tI (p.s + p.m + 1) (T'.L i))) := by
            have := tb_at (n := p.m + 1) (i := i) (fun k => D.lst (tI (p.s + p.m + 1) (if k < i then (T'.turn r j).L k else T'.L k))) (by omega)
            rw [this, if_neg (Nat.lt_irrefl i)]
          refine ⟨_, hrow, _, cell_at (by omega), ?_⟩
          show lcD _ _ _ _ (zipD (tI (p.s + p.m + 1) (T'.L i)) (tI (p.s + p.m + 1) (T'.L r))) _ _ _
          rw [zipD_tb]
          refine lc_mapA (List.range (p.s + p.m + 1)) (fun k => D.tup [.int (T'.L i k), .int (T'.L r k)]) (fun k => D.int ((T'.turn r j).L i k)) (fun _ _ => rfl) (by simp; omega) (fun l hl K hK => ?_) ?_
          · have hl := List.mem_range.mp hl
            refine ⟨mulW' (ht.bl (by omega) (by omega)) (ht.bl (by omega) (by omega)), mulW' (ht.bl (by omega) (by omega)) (ht.bl (by omega) (by omega)), divW up bu, ?_⟩
            have e : (T'.turn r j).L i l = (T'.L r j * T'.L i l - T'.L i j * T'.L r l) / T'.u := by
              show (if i = r then _ else _) = _
              rw [if_neg ne]
            rw [e] at hK
            exact hK
          · refine ⟨i, by rw [tb_len]; exact ixN_nat (by omega), hk _ _ ⟨i + 1, m, _, _, _, _, _, rfl, by omega, ?_, rfl⟩⟩
            show [_, _, Cell.lst ((tb (p.m + 1) fun k => D.lst (tI (p.s + p.m + 1) (if k < i then (T'.turn r j).L k else T'.L k))).set i (.lst (tI (p.s + p.m + 1) ((T'.turn r j).L i))))] = _
            rw [tb_set]
            congr 3
            congr 1
            exact tb_congr fun k hk => by
              by_cases y : k = i
              · subst y; rw [if_pos rfl, if_pos (by omega)]
              · rw [if_neg y]
                by_cases x : k < i
                · rw [if_pos x, if_pos (by omega)]
                · rw [if_neg x, if_neg (by omega)]
        · have ei : i = r := by
            have : (true ^^ decide ((i : Int) = (r : Int))) = false := z
            simp at this
            omega
          refine hk _ _ ⟨i + 1, m, _, _, _, _, _, rfl, by omega, ?_, rfl⟩
          congr 3
          congr 1
          exact tb_congr fun k hk => by
            by_cases y : k = i
            · subst y
              rw [if_neg (by omega), if_pos (by omega)]
              have : (T'.turn r j).L k = T'.L k := by
                funext l
                show (if k = r then _ else _) = _
                rw [if_pos ei]
              rw [this]
            · by_cases x : k < i
              · rw [if_pos x, if_pos (by omega)]
              · rw [if_neg x, if_neg (by omega)]
    · rintro ds S ⟨i, m, p5, p6, p7, p8, p9, e, hm, rfl, rfl⟩
      cases m with
      | zero =>
        have e1 : (tb (p.m + 1) fun k => D.lst (tI (p.s + p.m + 1) (if k < i then (T'.turn r j).L k else T'.L k))) = linesD p (T'.turn r j) := tb_congr fun k hk => by rw [if_pos (by omega)]
        have e2 : (tI p.m fun i => T'.b i).set r (.int j) = tI p.m fun i => (T'.turn r j).b i := by
          show (tb p.m fun i => D.int (T'.b i)).set r (.int j) = _
          rw [tb_set]
          exact tb_congr fun k hk => by
            show _ = D.int ((if k = r then j else T'.b k : Nat) : Int)
            by_cases y : k = r
            · rw [if_pos y, if_pos y]
            · rw [if_neg y, if_neg y]
        rw [e1]
        refine ⟨r, by rw [tb_len]; exact ixN_nat (by omega), ?_⟩
        show 3 ≤ _ ∧ allC 3 [.ins .table [.int p.m, .int p.s, .int (T'.L r j), .loc 1, .loc 2], .lst ((tI p.m fun i => T'.b i).set r (.int j)), .lst (linesD p (T'.turn r j))] ∧ q .non [.ins .table [.int p.m, .int p.s, .int (T'.L r j), .loc 1, .loc 2], .lst ((tI p.m fun i => T'.b i).set r (.int j)), .lst (linesD p (T'.turn r j))]
        rw [e2]
        exact ⟨Nat.le_refl 3, tab_below p (T'.turn r j), h⟩
      | succ m => cases e
    · rfl
end
end SC
end

section
set_option maxHeartbeats 4000000
namespace SC
open PySem L2 DL
section
variable {P : Program} {w : World} {K : PySem.W.Frag} {mg : Str → Option Value} {base : Heap}

/-- a table whose basis is settled -/
abbrev frozC (p : MA.Pr) (T : MA.Tb) : List Cell := [.ins .table [.int p.m, .int p.s, .int T.u, .lst (tI p.m fun i => T.b i), .loc 2], .dead, .lst (linesD p T)]
theorem froz_below (p : MA.Pr) (T : MA.Tb) : allC 3 (frozC p T) := ⟨rfl, trivial, belowL_tb fun _ => rfl, trivial⟩
abbrev cNums : PM := fun ds S q => ∃ (p : MA.Pr) (T : MA.Tb), TabOk p T ∧ ds = [.loc 0] ∧ S = tabC p T ∧ ∀ xs, noLoc xs = true → q (.lst xs) (frozC p T)
abbrev cWay : PM := fun ds S q => ∃ (p : MA.Pr) (T : MA.Tb) (j : Nat), TabOk p T ∧ j < p.s + p.m ∧ ds = [.loc 0, .int j] ∧ S = tabC p T ∧ ∀ xs, noLoc xs = true → q (.lst xs) (frozC p T)
abbrev cMults : PM := fun ds S q => ∃ (p : MA.Pr) (T : MA.Tb), TabOk p T ∧ ds = [.loc 0] ∧ S = frozC p T ∧ ∀ xs, noLoc xs = true → q (.lst xs) (frozC p T)
theorem noLoc_set : ∀ {xs : List D} {i : Nat} {d : D}, noLoc xs = true → noLoc [d] = true → noLoc (xs.set i d) = true
  | [], _, _, _, _ => rfl
  | x :: xs, 0, d, h, hd => by
    have h2 : noLoc xs = true := by
      cases x with
      | loc n => cases h
      | _ => exact h
    show noLoc (d :: xs) = true
    cases d with
    | loc n => cases hd
    | _ => exact h2
  | x :: xs, i + 1, d, h, hd => by
    cases x with
    | loc n => cases h
    | _ => exact noLoc_set (xs := xs) (i := i) h hd
theorem noLoc_rep (n : Nat) {d : D} (h : noLoc [d] = true) : noLoc (List.replicate n d) = true := by
  induction n with
  | zero => rfl
  | succ n ih =>
    show noLoc (d :: List.replicate n d) = true
    cases d with
    | loc n => cases h
    | _ => exact ih
theorem TabOk.bu8 {p : MA.Pr} {T : MA.Tb} (h : TabOk p T) : T.u.natAbs < 2 ^ 8000 := MA.ab_up (h.inn.bu h.ok h.b) (by decide)
abbrev N_Table_numbers_now : List Str := ["self", "found", "index", "place"]
theorem sc_Table_numbers_now : FnScope N_Table_numbers_now ["self"] (defScope s_Table_numbers_now) := ⟨rfl, rfl, rfl, by decide +kernel, rfl, by decide +kernel, by decide +kernel⟩
theorem ok_Table_numbers_now (T : Tx K mg) : FnM P w K mg base Cl.table.adr "numbers_now" 3 (spM K 1 3 cNums) :=
  mkMM T 35 rfl T.m_Table_numbers_now sc_Table_numbers_now (bind1 rfl fun _ _ _ _ _ _ _ => rfl) rfl fun cdv A outer s H E hr tk po => by
    refine ⟨_, (jb_cons (js_set (i := 1) sc_Table_numbers_now.nd rfl (by first | exact .inl rfl | exact .inr rfl) (je_op op_repO (je_lst (ja_cons (je_tup (ja_cons je_int (ja_cons je_int ja_nil))) ja_nil)) (je_fld T.cf .table 1 (je_var (pv 0)))))
    (jb_fzF 0 3 (jb_cons (js_for po rfl (ji_enum rfl T.b_enumerate (je_fld T.cf .table 3 (je_var (pv 0)))) (jg_tup rfl (jgs_cons (jg_name (pg_name (i := 2) sc_Table_numbers_now.nd rfl (by first | exact .inl rfl | exact .inr rfl))) (jgs_cons (jg_name (pg_name (i := 3) sc_Table_numbers_now.nd rfl (by first | exact .inl rfl | exact .inr rfl))) jgs_nil))) (jb_one (js_if (jt_cmp op_ltD (je_var (pv 3)) (je_fld T.cf .table 1 (je_var (pv 0))) (nomark _)) (jb_one (js_asg (je_call0 (ok_lowest T) (hr.mono (by decide)) tk rfl (ja_cons (je_ix (je_ix (je_fld T.cf .table 4 (je_var (pv 0))) (je_var (pv 2))) (je_un un_negD je_int)) (ja_cons (je_fld T.cf .table 2 (je_var (pv 0))) ja_nil))) (jg_sub (W := W0) (je_var (pv 1)) (je_var (pv 3))))) jb_nil)))
    (jb_one (js_ret (je_var (pv 1))))))), ?_⟩
    rintro ds S q ⟨p, T', ht, rfl, rfl, h⟩ - -
    have m3 := ht.m3
    have s40 := ht.s40
    refine ⟨⟨by omega, by omega, by simp; omega⟩, ?_⟩
    refine ⟨noLoc_map (fun _ => rfl) _, ?_⟩
    show forD _ _ _ (enumD (tI p.m fun i => T'.b i)) _ _
    rw [enumD_tb]
    show forD _ _ _ ((List.range p.m).map _) _ _
    rw [List.range_eq_range']
    refine for_inv (fun items ds S => ∃ (i m : Nat) (xs : List D) (p2 p3 : Option D), items = (List.range' i m).map (fun i : Nat => D.tup [.int i, .int (T'.b i)]) ∧ i + m = p.m ∧ xs.length = p.s ∧ noLoc xs = true ∧
      S = frozC p T' ++ [.lst xs] ∧ ds = [some (.loc 0), some (.loc 3), p2, p3]) ?_ ?_ _ _ _ ⟨0, p.m, (List.replicate (p.s : Int).toNat [fr 0]).flatten, none, none, rfl, by omega, by simp, (by rw [List.flatten_replicate_singleton]; exact noLoc_rep _ rfl), rfl, rfl⟩
    · rintro d items ds S ⟨i, m, xs, p2, p3, e, hm, hl, hn, rfl, rfl⟩ k hk
      cases m with
      | zero => cases e
      | succ m =>
        rw [List.range'_succ, List.map_cons] at e
        injection e with e1 e2
        subst e1 e2
        refine onB (fun z => ?_) fun z => ?_
        · have z := of_decide_eq_true z
          refine ⟨_, line_at (by omega), _, cell_last, _, _, rfl, ht.inn.up, ht.bu8, T'.b i, by rw [hl]; exact ixN_nat (by omega), hk _ _ ⟨i + 1, m, _, _, _, rfl, by omega, by simp [hl], noLoc_set hn rfl, rfl, rfl⟩⟩
        · exact hk _ _ ⟨i + 1, m, xs, _, _, rfl, by omega, hl, hn, rfl, rfl⟩
    · rintro ds S ⟨i, m, xs, p2, p3, e, hm, hl, hn, rfl, rfl⟩
      cases m with
      | zero => exact ⟨show 3 ≤ 4 by decide, froz_below p T', show 3 ≤ 3 by decide, hn, h xs hn⟩
      | succ m => cases e
abbrev N_Table_way_of : List Str := ["self", "place", "found", "index", "own"]
theorem sc_Table_way_of : FnScope N_Table_way_of ["self", "place"] (defScope s_Table_way_of) := ⟨rfl, rfl, rfl, by decide +kernel, rfl, by decide +kernel, by decide +kernel⟩
theorem ok_Table_way_of (T : Tx K mg) : FnM P w K mg base Cl.table.adr "way_of" 3 (spM K 2 3 cWay) :=
  mkMM T 36 rfl T.m_Table_way_of sc_Table_way_of (bind2 rfl fun _ _ _ _ _ _ _ _ => rfl) rfl fun cdv A outer s H E hr tk po => by
    refine ⟨_, (jb_cons (js_set (i := 2) sc_Table_way_of.nd rfl (by first | exact .inl rfl | exact .inr rfl) (je_op op_repO (je_lst (ja_cons (je_tup (ja_cons je_int (ja_cons je_int ja_nil))) ja_nil)) (je_fld T.cf .table 1 (je_var (pv 0)))))
    (jb_cons (js_if (jt_cmp op_ltD (je_var (pv 1)) (je_fld T.cf .table 1 (je_var (pv 0))) (nomark _)) (jb_one (js_asg (je_tup (ja_cons je_int (ja_cons je_int ja_nil))) (jg_sub (W := W0) (je_var (pv 2)) (je_var (pv 1))))) jb_nil)
    (jb_fzF 0 3 (jb_cons (js_for po rfl (ji_enum rfl T.b_enumerate (je_fld T.cf .table 3 (je_var (pv 0)))) (jg_tup rfl (jgs_cons (jg_name (pg_name (i := 3) sc_Table_way_of.nd rfl (by first | exact .inl rfl | exact .inr rfl))) (jgs_cons (jg_name (pg_name (i := 4) sc_Table_way_of.nd rfl (by first | exact .inl rfl | exact .inr rfl))) jgs_nil))) (jb_one (js_if (jt_cmp op_ltD (je_var (pv 4)) (je_fld T.cf .table 1 (je_var (pv 0))) (nomark _)) (jb_one (js_asg (je_call0 (ok_lowest T) (hr.mono (by decide)) tk rfl (ja_cons (je_un un_negD (je_ix (je_ix (je_fld T.cf .table 4 (je_var (pv 0))) (je_var (pv 3))) (je_var (pv 1)))) (ja_cons (je_fld T.cf .table 2 (je_var (pv 0))) ja_nil))) (jg_sub (W := W0) (je_var (pv 2)) (je_var (pv 4))))) jb_nil)))
    (jb_one (js_ret (je_var (pv 2)))))))), ?_⟩
    rintro ds S q ⟨p, T', j, ht, hj, rfl, rfl, h⟩ - -
    have m3 := ht.m3
    have s40 := ht.s40
    refine ⟨⟨by omega, by omega, by simp; omega⟩, ?_⟩
    have go : ∀ ys : List D, ys.length = p.s → noLoc ys = true → forD (rgTup 2 (rgCons (rgName 3) (rgCons (rgName 4) rgNil))) (rIfS (rTest (rOp oLt (rVar 4) (rFld .table 1 (rVar 0))))
        (rAsg (rCall0 2 cLow (rCons (rUn oNeg (rOp oIx (rOp oIx (rFld .table 4 (rVar 0)) (rVar 3)) (rVar 1))) (rCons (rFld .table 2 (rVar 0)) rNil))) (rgSub (rVar 2) (rVar 4))) rNext)
        { outM 3 q with nx := rRet (rVar 2) (outM 3 q) } (enumD (tI p.m fun i => T'.b i)) [some (.loc 0), some (.int j), some (.loc 3), none, none] (frozC p T' ++ [.lst ys]) := by
      intro ys hly hny
      show forD _ _ _ (enumD (tI p.m fun i => T'.b i)) _ _
      rw [enumD_tb]
      show forD _ _ _ ((List.range p.m).map _) _ _
      rw [List.range_eq_range']
      refine for_inv (fun items ds S => ∃ (i m : Nat) (xs : List D) (p2 p3 : Option D), items = (List.range' i m).map (fun i : Nat => D.tup [.int i, .int (T'.b i)]) ∧ i + m = p.m ∧ xs.length = p.s ∧ noLoc xs = true ∧
        S = frozC p T' ++ [.lst xs] ∧ ds = [some (.loc 0), some (.int j), some (.loc 3), p2, p3]) ?_ ?_ _ _ _ ⟨0, p.m, ys, none, none, rfl, by omega, hly, hny, rfl, rfl⟩
      · rintro d items ds S ⟨i, m, xs, p2, p3, e, hm, hl, hn, rfl, rfl⟩ k hk
        cases m with
        | zero => cases e
        | succ m =>
          rw [List.range'_succ, List.map_cons] at e
          injection e with e1 e2
          subst e1 e2
          refine onB (fun z => ?_) fun z => ?_
          · have z := of_decide_eq_true z
            refine ⟨_, line_at (by omega), _, cell_at (by omega), _, _, rfl, ht.inn.up, ht.bu8, T'.b i, by rw [hl]; exact ixN_nat (by omega), hk _ _ ⟨i + 1, m, _, _, _, rfl, by omega, by simp [hl], noLoc_set hn rfl, rfl, rfl⟩⟩
          · exact hk _ _ ⟨i + 1, m, xs, _, _, rfl, by omega, hl, hn, rfl, rfl⟩
      · rintro ds S ⟨i, m, xs, p2, p3, e, hm, hl, hn, rfl, rfl⟩
        cases m with
        | zero => exact ⟨show 3 ≤ 4 by decide, froz_below p T', show 3 ≤ 3 by decide, hn, h xs hn⟩
        | succ m => cases e
    refine onB (fun z => ?_) fun z => ?_
    · have z := of_decide_eq_true z
      refine ⟨j, by rw [List.flatten_replicate_singleton]; simp; exact ixN_nat (by omega), ?_⟩
      refine ⟨noLoc_map (fun _ => rfl) _, ?_⟩
      exact go _ (by simp) (noLoc_set (by rw [List.flatten_replicate_singleton]; exact noLoc_rep _ rfl) rfl)
    · refine ⟨noLoc_map (fun _ => rfl) _, ?_⟩
      exact go _ (by simp) (by rw [List.flatten_replicate_singleton]; exact noLoc_rep _ rfl)
abbrev N_Table_multiples_now : List Str := ["self", "last", "k"]
theorem sc_Table_multiples_now : FnScope N_Table_multiples_now ["self"] (defScope s_Table_multiples_now) := ⟨rfl, rfl, rfl, by decide +kernel, rfl, by decide +kernel, by decide +kernel⟩
theorem ok_Table_multiples_now (T : Tx K mg) : FnM P w K mg base Cl.table.adr "multiples_now" 3 (spM K 1 3 cMults) :=
  mkMM T 37 rfl T.m_Table_multiples_now sc_Table_multiples_now (bind1 rfl fun _ _ _ _ _ _ _ => rfl) rfl fun cdv A outer s H E hr tk po => by
    refine ⟨_, (jb_cons (js_set (i := 1) sc_Table_multiples_now.nd rfl (by first | exact .inl rfl | exact .inr rfl) (je_ix (je_fld T.cf .table 4 (je_var (pv 0))) (je_un un_negD je_int)))
    (jb_one (js_ret (je_lc (own := [("k", 2)]) (g := (gName 2)) rfl sc_Table_multiples_now.nd (ji_rng1 rfl T.b_range (je_fld T.cf .table 0 (je_var (pv 0)))) (blkOk_by (own := [("k", 2)]) (N := N_Table_multiples_now) (sc := defScope s_Table_multiples_now) (by decide +kernel)) (fun _ _ _ _ _ => (pg_name (i := 2) sc_Table_multiples_now.nd rfl (by first | exact Or.inl rfl | exact Or.inr rfl))) gok_name (fun _ _ _ _ _ => jts_nil) (fun _ _ _ _ _ => (je_call0 (ok_lowest T) (hr.mono (by decide)) L2.takes0 rfl (ja_cons (je_ix (je_var (pv 1)) (je_op op_addD (je_fld T.cf .table 1 (je_var (pv 0))) (je_var (pv 2)))) (ja_cons (je_fld T.cf .table 2 (je_var (pv 0))) ja_nil)))))))), ?_⟩
    rintro ds S q ⟨p, T', ht, rfl, rfl, h⟩ - -
    have m3 := ht.m3
    have s40 := ht.s40
    refine ⟨_, line_last, ?_⟩
    refine ⟨⟨by omega, by omega⟩, ?_⟩
    show lcD _ _ _ _ (rngD 0 (p.m : Int)) _ _ _
    rw [rngD_map]
    refine lc_mapA (List.range p.m) (fun i : Nat => D.int i) (fun k => fr (Rat.divInt (T'.L p.m (p.s + k)) T'.u)) (fun _ _ => rfl) (by simp; omega) (fun k hk K hK => ?_) ?_
    · have hk := List.mem_range.mp hk
      exact ⟨_, cell_at (j := p.s + k) (by omega), _, _, rfl, ht.inn.up, ht.bu8, hK⟩
    · exact ⟨show 3 ≤ 3 by decide, froz_below p T', trivial, h _ (noLoc_map (fun _ => rfl) _)⟩
end
end SC
end

section
set_option maxHeartbeats 4000000
namespace SC
open PySem L2 DL
section
variable {P : Program} {w : World} {K : PySem.W.Frag} {mg : Str → Option Value} {base : Heap}

abbrev cGs : PC := fun ds q _ => ∃ p : MA.Pr, p.Ok ∧ MA.PrB p ∧ p.s ≤ 40 ∧ ds = [rowsD p, .lst (tI p.m p.b), .lst (tI p.s p.c)] ∧
  (∀ T, MA.Opt p T → ∀ a b, q (.obj .answer [fr (MA.val p T), a, b])) ∧ ∀ T j, MA.Unb p T j → ∀ a b, q (.obj .answer [.non, a, b])
abbrev N_greatest_sum : List Str := ["rows", "bounds", "worths", "table", "place", "index"]
theorem sc_greatest_sum : FnScope N_greatest_sum ["rows", "bounds", "worths"] (defScope s_greatest_sum) := ⟨rfl, rfl, rfl, by decide +kernel, rfl, by decide +kernel, by decide +kernel⟩
theorem ok_greatest_sum (T : Tx K mg) : FnG P w K mg base "greatest_sum" 4 (sp0 K 3 cGs) :=
  mkG0 T 38 rfl rfl sc_greatest_sum (bind3 rfl fun _ _ _ _ _ _ _ _ _ => rfl) rfl fun cdv A outer s H E hr tk po => by
    refine ⟨_, (jb_cons (js_set (i := 3) sc_greatest_sum.nd rfl (by first | exact .inl rfl | exact .inr rfl) (je_makeT (ok_Table_init T) (hr.mono (by decide)) rfl (ja_cons (je_var (pv 0)) (ja_cons (je_var (pv 1)) (ja_cons (je_var (pv 2)) ja_nil)))))
    (jb_one (js_while po (jt_val je_bl) (jb_cons (js_set (i := 4) sc_greatest_sum.nd rfl (by first | exact .inl rfl | exact .inr rfl) (je_methM0 (ok_Table_entering T) (hr.mono (by decide)) (je_var (pv 3)) (by decide +kernel)))
    (jb_cons (js_if (jt_cmp op_isND (je_var (pv 4)) je_non (nomark _)) (jb_one (js_ret (je_makeF (ok_Answer_init T) (hr.mono (by decide)) rfl (ja_cons (je_call0 (ok_lowest T) (hr.mono (by decide)) tk rfl (ja_cons (je_ix (je_ix (je_fld T.cf .table 4 (je_var (pv 3))) (je_un un_negD je_int)) (je_un un_negD je_int)) (ja_cons (je_fld T.cf .table 2 (je_var (pv 3))) ja_nil))) (ja_cons (je_methM0 (ok_Table_numbers_now T) (hr.mono (by decide)) (je_var (pv 3)) (by decide +kernel)) (ja_cons (je_methM0 (ok_Table_multiples_now T) (hr.mono (by decide)) (je_var (pv 3)) (by decide +kernel)) ja_nil)))))) jb_nil)
    (jb_cons (js_set (i := 5) sc_greatest_sum.nd rfl (by first | exact .inl rfl | exact .inr rfl) (je_methM (ok_Table_leaving T) (hr.mono (by decide)) (je_var (pv 3)) (ja_cons (je_var (pv 4)) ja_nil) (by decide +kernel)))
    (jb_cons (js_if (jt_cmp op_isND (je_var (pv 5)) je_non (nomark _)) (jb_one (js_ret (je_makeF (ok_Answer_init T) (hr.mono (by decide)) rfl (ja_cons je_non (ja_cons (je_methM (ok_Table_way_of T) (hr.mono (by decide)) (je_var (pv 3)) (ja_cons (je_var (pv 4)) ja_nil) (by decide +kernel)) (ja_cons (je_lst ja_nil) ja_nil)))))) jb_nil)
    (jb_one (js_expr (je_methM (ok_Table_turn T) (hr.mono (by decide)) (je_var (pv 3)) (ja_cons (je_var (pv 5)) (ja_cons (je_var (pv 4)) ja_nil)) (by decide +kernel))))))))))), ?_⟩
    rintro ds q t ⟨p, ok, hb, s40, rfl, h1, h2⟩ -
    have m3 : p.m ≤ 3 := by rcases ok.m23 with h | h <;> omega
    refine ⟨p, by omega, s40, ok.c0, rfl, ?_⟩
    refine wh_inv (fun n ds S => ∃ (T' : MA.Tb) (k : Nat) (p4 p5 : Option D), MA.Hist p T' k ∧ n + k = (p.s + p.m) ^ p.m ∧ ds = [some (rowsD p), some (.lst (tI p.m p.b)), some (.lst (tI p.s p.c)), some (.loc 0), p4, p5] ∧ S = tabC p T') ?_ ((p.s + p.m) ^ p.m)
      ⟨p.first, 0, none, none, .first ok, rfl, rfl, rfl⟩
    rintro n ds S ⟨T', k, p4, p5, hh, hn, rfl, rfl⟩ K hK
    have inn := hh.inn ok
    have lt := hh.lt ok
    have ht : TabOk p T' := ⟨ok, hb, inn, s40⟩
    refine ⟨p, T', ht, rfl, rfl, fun ge => ?_, fun j hj neg fst => ?_⟩
    · refine ⟨_, line_last, _, cell_last, _, _, rfl, inn.up, ht.bu8, ?_⟩
      refine ⟨p, T', ht, rfl, rfl, fun xs hx => ?_⟩
      refine ⟨p, T', ht, rfl, rfl, fun ys hy => ?_⟩
      exact ⟨_, _, _, rfl, rfl, h1 T' ⟨inn, ge⟩ (.lst xs) (.lst ys)⟩
    · refine ⟨p, T', j, ht, hj, rfl, rfl, fun lv => ?_, fun r lv => ?_⟩
      · refine ⟨p, T', j, ht, hj, rfl, rfl, fun xs hx => ?_⟩
        exact ⟨_, _, _, rfl, rfl, h2 T' j ⟨inn, hj, neg, fun i hi => by have := lv i hi; omega⟩ (.lst xs) (.lst [])⟩
      · have pv := lv.piv hj neg fst
        refine ⟨p, T', r, j, ht, lv.1, hj, rfl, rfl, ?_⟩
        exact hK (n - 1) _ _ (by omega) ⟨T'.turn r j, k + 1, _, _, hh.turn pv, by omega, rfl, rfl⟩
end
end SC
end

section
set_option maxHeartbeats 4000000
namespace SC
open PySem L2 DL
section
variable {P : Program} {w : World} {K : PySem.W.Frag} {mg : Str → Option Value} {base : Heap}

abbrev gsOf (qs : List Qt) : List (List Int) := qs.map gainRow
open Classical in
noncomputable def sound (n : Nat) (qs : List Qt) : Bool := decide (∃ Q, MA.IFs n (gsOf qs) Q)
open Classical in
noncomputable def minW (n : Nat) (qs : List Qt) (ns : List Int) : Rat := if h : ∃ v, MA.IsMin n (gsOf qs) ns v then Classical.choose h else 0
theorem sound_iff {n : Nat} {qs : List Qt} : sound n qs = true ↔ ∃ Q, MA.IFs n (gsOf qs) Q := by
  unfold sound; simp
theorem sound_iff' {n : Nat} {qs : List Qt} : sound n qs = false ↔ ¬ ∃ Q, MA.IFs n (gsOf qs) Q := by
  unfold sound; simp
theorem minW_eq {n : Nat} {qs : List Qt} {ns : List Int} {v : Rat} (h : MA.IsMin n (gsOf qs) ns v) : minW n qs ns = v := by
  have hx : ∃ v, MA.IsMin n (gsOf qs) ns v := ⟨v, h⟩
  unfold minW
  rw [dif_pos hx]
  exact (Classical.choose_spec hx).uniq h
/-- two or three outcomes -/
structure B23 (n : Nat) (qs : List Qt) : Prop where
  n23 : n = 2 ∨ n = 3
  ok : BkOk n qs
theorem B23.sh {n : Nat} {qs : List Qt} (h : B23 n qs) : MA.Sh n (gsOf qs) := ⟨h.n23, fun g hg => by
  obtain ⟨x, hx, rfl⟩ := List.mem_map.mp hg
  have := (h.ok.2.2.2 x hx).1.1
  simp [gainRow, this]⟩
theorem getD_all {P : Int → Prop} (h0 : P 0) {l : List Int} (h : ∀ x ∈ l, P x) (k : Nat) : P (l.getD k 0) := by
  rw [List.getD_eq_getElem?_getD]
  cases e : l[k]? with
  | none => exact h0
  | some x => exact h x (List.mem_of_getElem? e)
theorem gain_bd {n : Nat} {x : Qt} (h : QtOk n x) : ∀ y ∈ gainRow x, y.natAbs < 2 ^ 22 := by
  intro y hy
  obtain ⟨p, hp, rfl⟩ := List.mem_map.mp hy
  have h1 := h.1.2 p hp
  have h2 := h.2
  have d := den_pos' x.price
  have a : (p * x.price.den).natAbs < 2 ^ 20 := by
    rw [Int.natAbs_mul, natAbs_den]
    have e1 : p.natAbs ≤ 1000 := by omega
    have e2 : x.price.den ≤ 1000 := by have := h2.2.2; omega
    have := Nat.mul_le_mul e1 e2
    omega
  have b : (x.price.num).natAbs < 2 ^ 20 := by have := h2.1; have := h2.2.1; omega
  exact MA.ab_up (MA.ab_sub a b) (by decide)
theorem B23.prb {n : Nat} {qs : List Qt} (h : B23 n qs) {b : List Int} (hb : ∀ x ∈ b, x.natAbs < 2 ^ 22) : MA.PrB (MA.pB n (gsOf qs) b) := by
  have h0 : (0 : Int).natAbs < 2 ^ 22 := by decide
  have h1 : (1 : Int).natAbs < 2 ^ 22 := by decide
  constructor
  · intro k j
    show (if j < _ then (if j = 0 then 1 else ((gsOf qs).getD (j - 1) []).getD k 0) else if j < _ then (if _ then 1 else 0) else b.getD k 0).natAbs < 2 ^ 22
    split
    · split
      · exact h1
      · refine getD_all (P := fun x => x.natAbs < 2 ^ 22) h0 (fun x hx => ?_) k
        rw [List.getD_eq_getElem?_getD] at hx
        cases e : (gsOf qs)[j - 1]? with
        | none => rw [e] at hx; exact absurd hx List.not_mem_nil
        | some g =>
          rw [e] at hx
          obtain ⟨y, hy, rfl⟩ := List.mem_map.mp (List.mem_of_getElem? e)
          exact gain_bd (h.ok.2.2.2 y hy) x hx
    · split
      · split
        · exact h1
        · exact h0
      · exact getD_all (P := fun x => x.natAbs < 2 ^ 22) h0 hb k
  · intro j
    show (if j = 0 then (1 : Int) else 0).natAbs < 2 ^ 22
    split
    · exact h1
    · exact h0
theorem low_ok {ns : List Int} {low : Int} (h : ∀ p ∈ ns, -1000 ≤ p ∧ p ≤ 1000) (hm : low ∈ ns) (hl : ∀ y ∈ ns, low ≤ y) : (∀ x ∈ ns.map fun x => x - low, 0 ≤ x) ∧ ∀ x ∈ ns.map fun x => x - low, x.natAbs < 2 ^ 22 := by
  have a := h low hm
  constructor <;> intro x hx <;> obtain ⟨y, hy, rfl⟩ := List.mem_map.mp hx
  · have := hl y hy; omega
  · have := hl y hy; have := h y hy; omega
theorem min_mem : ∀ (n : Int) (ns : List Int), ∃ m ∈ n :: ns, ∀ y ∈ n :: ns, m ≤ y
  | n, [] => ⟨n, by simp, by simp⟩
  | n, k :: ns => by
    obtain ⟨m, h1, h2⟩ := min_mem k ns
    by_cases z : n ≤ m
    · refine ⟨n, by simp, fun y hy => ?_⟩
      rcases List.mem_cons.mp hy with rfl | hy
      · exact Int.le_refl _
      · have := h2 y hy; omega
    · refine ⟨m, List.mem_cons_of_mem _ h1, fun y hy => ?_⟩
      rcases List.mem_cons.mp hy with rfl | hy
      · omega
      · exact h2 y hy
theorem minW_bd0 {n : Nat} {qs : List Qt} (h : B23 n qs) {ns : List Int} (hn : PayOk n ns) (hs : sound n qs = true) : MA.IsMin n (gsOf qs) ns (minW n qs ns) ∧ Bd 120 (minW n qs ns) := by
  obtain ⟨x, xs, rfl⟩ : ∃ x xs, ns = x :: xs := by
    cases ns with
    | nil =>
      have := hn.1
      rcases h.n23 with rfl | rfl <;> cases this
    | cons x xs => exact ⟨x, xs, rfl⟩
  obtain ⟨low, m1, m2⟩ := min_mem x xs
  obtain ⟨b1, b2⟩ := low_ok hn.2 m1 m2
  have hl : ((x :: xs).map fun x => x - low).length = n := by rw [List.length_map]; exact hn.1
  have ok := h.sh.ok hl b1
  have pb := h.prb b2
  rcases MA.ends ok with ⟨S, o⟩ | ⟨S, q, u⟩
  · have im := MA.opt_min h.sh hn.1 m2 o
    rw [minW_eq im]
    refine ⟨im, ?_⟩
    have v : Bd 98 (MA.val (MA.pB n (gsOf qs) ((x :: xs).map fun x => x - low)) S) := low_bd o.inn.up (MA.ab_up (o.inn.bl ok pb (Nat.le_refl _) (Nat.le_refl _)) (by decide)) (MA.ab_up (o.inn.bu ok pb) (by decide))
    have l : Bd 12 (low : Rat) := int_bd (by have := hn.2 low m1; omega) (by decide)
    exact (l.add v).mono (by decide)
  · exact absurd (sound_iff.mp hs) (u.no h.sh hl b1)
theorem minW_min {n : Nat} {qs : List Qt} (h : B23 n qs) {ns : List Int} (hn : PayOk n ns) (hs : sound n qs = true) : MA.IsMin n (gsOf qs) ns (minW n qs ns) := (minW_bd0 h hn hs).1
theorem minW_bd {n : Nat} {qs : List Qt} (h : B23 n qs) {ns : List Int} (hn : PayOk n ns) (hs : sound n qs = true) : Bd 120 (minW n qs ns) := (minW_bd0 h hn hs).2
theorem gainRow_get {x : Qt} {k : Nat} (h : k < x.pay.length) : (gainRow x).getD k 0 = x.pay.getD k 0 * x.price.den - x.price.num := by
  unfold gainRow
  rw [List.getD_eq_getElem?_getD, List.getD_eq_getElem?_getD, List.getElem?_map, List.getElem?_eq_getElem h]; rfl
/-- the rows of the question, as the program writes them -/
theorem row_eq {n k : Nat} {qs : List Qt} (h : ∀ x ∈ qs, x.pay.length = n) (hk : k < n) (b : List Int) :
    tI (1 + (gsOf qs).length) ((MA.pB n (gsOf qs) b).A k) = D.int 1 :: qs.map fun x => .int (x.pay.getD k 0 * x.price.den - x.price.num) := by
  apply List.ext_getElem
  · simp; omega
  · intro j h1 h2
    have h1' : j < 1 + qs.length := by simpa using h1
    rw [List.getElem_map, List.getElem_range]
    cases j with
    | zero => rfl
    | succ j =>
      have hj : j < qs.length := by omega
      rw [List.getElem_cons_succ, List.getElem_map]
      show D.int (if j + 1 = 0 then 1 else ((gsOf qs).getD (j + 1 - 1) []).getD k 0) = _
      rw [if_neg (by omega), show j + 1 - 1 = j by omega]
      have : (gsOf qs).getD j [] = gainRow qs[j] := by rw [List.getD_eq_getElem?_getD, List.getElem?_map, List.getElem?_eq_getElem hj]; rfl
      rw [this, gainRow_get (by rw [h _ (List.getElem_mem hj)]; exact hk)]
theorem list_tI (l : List Int) : tI l.length (fun k => l.getD k 0) = l.map D.int := by
  apply List.ext_getElem
  · simp
  · intro j h1 h2
    have hj : j < l.length := by simpa using h1
    simp [hj]
theorem worths_eq (m : Nat) (c : Nat → Int) (h : ∀ j, c j = if j = 0 then 1 else 0) : tI (1 + m) c = D.int 1 :: List.replicate m (.int 0) := by
  apply List.ext_getElem
  · simp; omega
  · intro j h1 h2
    cases j with
    | zero => simp [h]
    | succ j => simp [h]
abbrev cLA : PC := fun ds q _ => ∃ (n : Nat) (qs : List Qt) (ns : List Int), ds = [bkd n qs, inz ns] ∧ B23 n qs ∧ PayOk n ns ∧ (sound n qs = false → ∀ a b, q (.obj .answer [.non, a, b])) ∧
  (sound n qs = true → ∀ low, low ∈ ns → (∀ y ∈ ns, low ≤ y) → ∀ a b, q (.obj .answer [fr (minW n qs ns - (low : Rat)), a, b]))
abbrev cPlain : PC := fun ds q _ => ∃ (n : Nat) (qs : List Qt), ds = [bkd n qs] ∧ B23 n qs ∧ (sound n qs = false → ∀ a b, q (.obj .answer [.non, a, b])) ∧ (sound n qs = true → ∀ v a b, q (.obj .answer [fr v, a, b]))
abbrev cKept : PC := fun ds q _ => ∃ (n : Nat) (qs : List Qt), ds = [bkd n qs] ∧ B23 n qs ∧ q (.bl (sound n qs))
theorem pay_cons {n : Nat} {ns : List Int} (h : n = 2 ∨ n = 3) (hn : ns.length = n) : ∃ x xs, ns = x :: xs := by
  cases ns with
  | nil => rcases h with rfl | rfl <;> cases hn
  | cons x xs => exact ⟨x, xs, rfl⟩
abbrev N_least_answer : List Str := ["book", "payoff", "low", "rows", "gains", "number"]
theorem sc_least_answer : FnScope N_least_answer ["book", "payoff"] (defScope s_least_answer) := ⟨rfl, rfl, rfl, by decide +kernel, rfl, by decide +kernel, by decide +kernel⟩
theorem ok_least_answer (T : Tx K mg) : FnG P w K mg base "least_answer" 5 (sp0 K 2 cLA) :=
  mkG0 T 63 rfl rfl sc_least_answer (bind2 rfl fun _ _ _ _ _ _ _ _ => rfl) rfl fun cdv A outer s H E hr tk po => by
    refine ⟨_, (jb_cons (js_set (i := 2) sc_least_answer.nd rfl (by first | exact .inl rfl | exact .inr rfl) (je_callB (call_minT rfl hr.units) rfl T.b_min (by decide +kernel) (ja_cons (je_var (pv 1)) ja_nil)))
    (jb_cons (js_setLc (i := 3) rfl sc_least_answer.nd rfl rfl (sw_true rfl rfl rfl (by decide +kernel)) (own := [("gains", 4)]) (g := (gName 4)) (ji_lst (je_call0 (ok_gain_rows T) (hr.mono (by decide)) tk rfl (ja_cons (je_var (pv 0)) ja_nil))) (blkOk_by (own := [("gains", 4)]) (N := N_least_answer) (sc := defScope s_least_answer) (by decide +kernel)) (fun _ _ _ _ _ => (pg_name (i := 4) sc_least_answer.nd rfl (by first | exact Or.inl rfl | exact Or.inr rfl))) gok_name (fun _ _ _ _ _ => jts_nil) (fun _ _ _ _ _ => (je_lstL (ja_cons je_int (ja_star (je_var (pv 4)) ja_nil)))))
    (jb_one (js_ret (je_call0 (ok_greatest_sum T) (hr.mono (by decide)) tk rfl (ja_cons (je_var (pv 3)) (ja_cons (je_lc (own := [("number", 5)]) (g := (gName 5)) rfl sc_least_answer.nd (ji_tup (je_var (pv 1))) (blkOk_by (own := [("number", 5)]) (N := N_least_answer) (sc := defScope s_least_answer) (by decide +kernel)) (fun _ _ _ _ _ => (pg_name (i := 5) sc_least_answer.nd rfl (by first | exact Or.inl rfl | exact Or.inr rfl))) gok_name (fun _ _ _ _ _ => jts_nil) (fun _ _ _ _ _ => (je_op op_subD (je_var (pv 5)) (je_var (pv 2))))) (ja_cons (je_op op_addD (je_lst (ja_cons je_int ja_nil)) (je_op op_mulD (je_lst (ja_cons je_int ja_nil)) (je_callB call_lenD rfl T.b_len (by decide +kernel) (ja_cons (je_prop0 (ok_Book_quotes T) (hr.mono (by decide)) (je_var (pv 0))) ja_nil)))) ja_nil)))))))), ?_⟩
    rintro ds q t ⟨n, qs, ns, rfl, hb, hn, h1, h2⟩ -
    obtain ⟨x, xs, hns⟩ := pay_cons hb.n23 hn.1
    have hn3 : n ≤ 3 := by rcases hb.n23 with h | h <;> omega
    have hq31 := hb.ok.2.2.1
    refine ⟨x, xs, by rw [hns], fun low m1 m2 => ?_⟩
    rw [← hns] at m1 m2
    refine ⟨qs, n, rfl, hb.ok, ?_⟩
    refine lc_mapA (List.range n) (fun p : Nat => D.lst (qs.map fun x => .int (x.pay.getD p 0 * x.price.den - x.price.num))) (fun p => D.lst (.int 1 :: qs.map fun x => .int (x.pay.getD p 0 * x.price.den - x.price.num))) (fun _ _ => rfl) (by simp; omega)
      (fun k hk K hK => ?_) ?_
    · show noLoc (D.int 1 :: ((qs.map fun x => D.int (x.pay.getD k 0 * x.price.den - x.price.num)) ++ [])) = true ∧ (D.int 1 :: ((qs.map fun x => D.int (x.pay.getD k 0 * x.price.den - x.price.num)) ++ [])).length ≤ 100000 ∧ K (.lst (D.int 1 :: ((qs.map fun x => D.int (x.pay.getD k 0 * x.price.den - x.price.num)) ++ []))) _
      rw [List.append_nil]
      exact ⟨noLoc_map (f := fun x : Qt => D.int (x.pay.getD k 0 * x.price.den - x.price.num)) (fun _ => rfl) _, by simp; omega, hK⟩
    · refine lc_mapA ns D.int (fun y => D.int (y - low)) (fun _ _ => rfl) (by have := hn.1; omega) (fun y hy K hK => ?_) ?_
      · exact hK
      obtain ⟨b1, b2⟩ := low_ok hn.2 m1 m2
      have hl : (ns.map fun x => x - low).length = n := by rw [List.length_map]; exact hn.1
      have ok := hb.sh.ok hl b1
      refine ⟨qs, n, rfl, ⟨by omega, by simp; omega, by simp; omega⟩, by simp; omega, ?_⟩
      refine ⟨MA.pB n (gsOf qs) (ns.map fun x => x - low), ok, hb.prb b2, by show 1 + (gsOf qs).length ≤ 40; simp; omega, ?_, fun T' o a b => ?_, fun T' j u a b => ?_⟩
      · congr 1
        · congr 1
          exact tb_congr fun k hk => by rw [← row_eq (fun x hx => (hb.ok.2.2.2 x hx).1.1) hk]; rfl
        · congr 1
          · show D.lst _ = D.lst (tI n fun k => (ns.map fun x => x - low).getD k 0)
            have e := list_tI (ns.map fun x => x - low)
            rw [hl] at e
            rw [e, List.map_map]
            rfl
          · congr 1
            show D.lst _ = D.lst (tI (1 + (gsOf qs).length) fun j => if j = 0 then 1 else 0)
            rw [worths_eq _ _ fun j => rfl, List.length_map, List.length_map]
            congr 1
            show [D.int 1] ++ (List.replicate (qs.length : Int).toNat [D.int 0]).flatten = _
            rw [List.flatten_replicate_singleton]
            simp
      · have im := MA.opt_min hb.sh hn.1 m2 o
        have hs : sound n qs = true := sound_iff.mpr ⟨_, o.ifs hb.sh ok⟩
        have e := minW_eq im
        have := h2 hs low m1 m2 a b
        rw [e, show (low : Rat) + MA.val (MA.pB n (gsOf qs) (ns.map fun x => x - low)) T' - (low : Rat) = MA.val (MA.pB n (gsOf qs) (ns.map fun x => x - low)) T' by grind] at this
        exact this
      · exact h1 (sound_iff'.mpr (u.no hb.sh hl b1)) a b
end
end SC
end

section
set_option maxHeartbeats 4000000
namespace SC
open PySem L2 DL
section
variable {P : Program} {w : World} {K : PySem.W.Frag} {mg : Str → Option Value} {base : Heap}

noncomputable abbrev maxW (n : Nat) (qs : List Qt) (ns : List Int) : Rat := -minW n qs (ns.map fun x => -x)
abbrev adNotSound : Addr := 221
abbrev adTooGreat : Addr := 252
abbrev cChkS : PC := fun ds q x => ∃ (n : Nat) (qs : List Qt), ds = [bkd n qs] ∧ B23 n qs ∧ (sound n qs = true → q .non) ∧ (sound n qs = false → x adNotSound)
abbrev cLB (f : Nat → List Qt → List Int → Rat) : PC := fun ds q _ => ∃ (n : Nat) (qs : List Qt) (ns : List Int), ds = [bkd n qs, inz ns] ∧ B23 n qs ∧ PayOk n ns ∧ sound n qs = true ∧ q (fr (f n qs ns))
abbrev cChkA : PC := fun ds q _ => ∃ (n : Nat) (qs : List Qt) (ns : List Int), ds = [bkd n qs, inz ns] ∧ B23 n qs ∧ PayOk n ns ∧ sound n qs = true ∧ q .non
theorem B23.n3 {n : Nat} {qs : List Qt} (h : B23 n qs) : n ≤ 3 := by rcases h.n23 with h | h <;> omega
theorem PayOk.neg {n : Nat} {ns : List Int} (h : PayOk n ns) : PayOk n (ns.map fun x => -x) := ⟨by rw [List.length_map]; exact h.1, fun p hp => by
  obtain ⟨x, hx, rfl⟩ := List.mem_map.mp hp
  have := h.2 x hx; omega⟩
theorem zero_pay (n : Nat) : PayOk n (List.replicate n 0) := ⟨by simp, fun p hp => by rw [(List.mem_replicate.mp hp).2]; omega⟩
theorem low_den (low : Int) : fr (low : Rat) = .tup [.int low, .int 1] := rfl
theorem low_bd12 {n : Nat} {ns : List Int} (h : PayOk n ns) {low : Int} (hl : low ∈ ns) : Bd 12 (low : Rat) := int_bd (by have := h.2 low hl; omega) (by decide)
abbrev N_plain_answer : List Str := ["book"]
theorem sc_plain_answer : FnScope N_plain_answer ["book"] (defScope s_plain_answer) := ⟨rfl, rfl, rfl, by decide +kernel, rfl, by decide +kernel, by decide +kernel⟩
theorem ok_plain_answer (T : Tx K mg) : FnG P w K mg base "plain_answer" 6 (sp0 K 1 cPlain) :=
  mkG0 T 64 rfl rfl sc_plain_answer (bind1 rfl fun _ _ _ _ _ _ _ => rfl) rfl fun cdv A outer s H E hr tk po => by
    refine ⟨_, (jb_one (js_ret (je_call0 (ok_least_answer T) (hr.mono (by decide)) tk rfl (ja_cons (je_var (pv 0)) (ja_cons (je_op op_mulD (je_tup (ja_cons je_int ja_nil)) (je_prop0 (ok_Book_outcomes T) (hr.mono (by decide)) (je_var (pv 0)))) ja_nil))))), ?_⟩
    rintro ds q t ⟨n, qs, rfl, hb, h1, h2⟩ -
    have n3 := hb.n3
    have n2 : 2 ≤ n := hb.ok.1
    refine ⟨qs, n, rfl, ⟨by simp, by omega, by omega, by simp⟩, ?_⟩
    refine ⟨n, qs, List.replicate n 0, ?_, hb, zero_pay n, h1, fun hs low _ _ a b => h2 hs _ a b⟩
    show [bkd n qs, D.tup (List.replicate (n : Int).toNat [D.int 0]).flatten] = _
    rw [List.flatten_replicate_singleton]
    simp
abbrev N_is_kept_by_some : List Str := ["book"]
theorem sc_is_kept_by_some : FnScope N_is_kept_by_some ["book"] (defScope s_is_kept_by_some) := ⟨rfl, rfl, rfl, by decide +kernel, rfl, by decide +kernel, by decide +kernel⟩
theorem ok_is_kept_by_some (T : Tx K mg) : FnG P w K mg base "is_kept_by_some" 7 (sp0 K 1 cKept) :=
  mkG0 T 65 rfl rfl sc_is_kept_by_some (bind1 rfl fun _ _ _ _ _ _ _ => rfl) rfl fun cdv A outer s H E hr tk po => by
    refine ⟨_, (jb_one (js_ret (je_cmp op_notND (je_fld T.cf .answer 0 (je_call0 (ok_plain_answer T) (hr.mono (by decide)) tk rfl (ja_cons (je_var (pv 0)) ja_nil))) je_non (nomark _)))), ?_⟩
    rintro ds q t ⟨n, qs, rfl, hb, h⟩ -
    refine ⟨n, qs, rfl, hb, fun hs a b => ?_, fun hs v a b => ?_⟩
    · rw [hs] at h
      exact h
    · rw [hs] at h
      exact h
abbrev N_check_sound : List Str := ["book"]
theorem sc_check_sound : FnScope N_check_sound ["book"] (defScope s_check_sound) := ⟨rfl, rfl, rfl, by decide +kernel, rfl, by decide +kernel, by decide +kernel⟩
theorem ok_check_sound (T : Tx K mg) : FnG P w K mg base "check_sound" 8 (sp0 K 1 cChkS) :=
  mkG0 T 66 rfl rfl sc_check_sound (bind1 rfl fun _ _ _ _ _ _ _ => rfl) rfl fun cdv A outer s H E hr tk po => by
    refine ⟨_, (jb_one (js_if (jt_not (jt_val (je_call0 (ok_is_kept_by_some T) (hr.mono (by decide)) tk rfl (ja_cons (je_var (pv 0)) ja_nil)))) (jb_one (js_raise0 T.x_NotSound rfl tk rfl)) jb_nil)), ?_⟩
    rintro ds q t ⟨n, qs, rfl, hb, h1, h2⟩ -
    refine ⟨n, qs, rfl, hb, ?_⟩
    refine onB (fun e => ?_) fun e => ?_
    · exact h2 (by simpa using e)
    · exact h1 (by simpa using e)
abbrev N_is_sound : List Str := ["book"]
theorem sc_is_sound : FnScope N_is_sound ["book"] (defScope s_is_sound) := ⟨rfl, rfl, rfl, by decide +kernel, rfl, by decide +kernel, by decide +kernel⟩
theorem ok_is_sound (T : Tx K mg) : FnG P w K mg base "is_sound" 8 (sp0 K 1 cKept) :=
  mkG0 T 68 rfl rfl sc_is_sound (bind1 rfl fun _ _ _ _ _ _ _ => rfl) rfl fun cdv A outer s H E hr tk po => by
    refine ⟨_, (jb_cons (js_expr (je_call0 (ok_check_book T) (hr.mono (by decide)) tk rfl (ja_cons (je_var (pv 0)) ja_nil)))
    (jb_one (js_ret (je_call0 (ok_is_kept_by_some T) (hr.mono (by decide)) tk rfl (ja_cons (je_var (pv 0)) ja_nil))))), ?_⟩
    rintro ds q t ⟨n, qs, rfl, hb, h⟩ -
    exact ⟨qs, n, rfl, n, qs, rfl, hb, h⟩
abbrev N_least_by : List Str := ["book", "payoff"]
theorem sc_least_by : FnScope N_least_by ["book", "payoff"] (defScope s_least_by) := ⟨rfl, rfl, rfl, by decide +kernel, rfl, by decide +kernel, by decide +kernel⟩
theorem ok_least_by (T : Tx K mg) : FnG P w K mg base "least_by" 6 (sp0 K 2 (cLB minW)) :=
  mkG0 T 70 rfl rfl sc_least_by (bind2 rfl fun _ _ _ _ _ _ _ _ => rfl) rfl fun cdv A outer s H E hr tk po => by
    refine ⟨_, (jb_one (js_ret (je_call0 (ok_plus T) (hr.mono (by decide)) tk rfl (ja_cons (je_tup (ja_cons (je_callB (call_minT rfl hr.units) rfl T.b_min (by decide +kernel) (ja_cons (je_var (pv 1)) ja_nil)) (ja_cons je_int ja_nil))) (ja_cons (je_fld T.cf .answer 0 (je_call0 (ok_least_answer T) (hr.mono (by decide)) tk rfl (ja_cons (je_var (pv 0)) (ja_cons (je_var (pv 1)) ja_nil)))) ja_nil))))), ?_⟩
    rintro ds q t ⟨n, qs, ns, rfl, hb, hn, hs, h⟩ -
    obtain ⟨x, xs, hns⟩ := pay_cons hb.n23 hn.1
    refine ⟨x, xs, by rw [hns], fun low m1 m2 => ?_⟩
    rw [← hns] at m1 m2
    refine ⟨n, qs, ns, rfl, hb, hn, (fun z => by rw [hs] at z; cases z), fun _ low' m1' m2' a b => ?_⟩
    have e : low' = low := Int.le_antisymm (m2' low m1) (m2 low' m1')
    subst e
    have lb := low_bd12 hn m1
    refine ⟨(low' : Rat), minW n qs ns - (low' : Rat), rfl, lb.mono (by decide), ((minW_bd hb hn hs).sub lb).mono (by decide), ?_⟩
    show q (fr ((low' : Rat) + (minW n qs ns - (low' : Rat))))
    rw [show (low' : Rat) + (minW n qs ns - (low' : Rat)) = minW n qs ns by grind]
    exact h
abbrev N_greatest_by : List Str := ["book", "payoff", "top", "bottom"]
theorem sc_greatest_by : FnScope N_greatest_by ["book", "payoff"] (defScope s_greatest_by) := ⟨rfl, rfl, rfl, by decide +kernel, rfl, by decide +kernel, by decide +kernel⟩
theorem ok_greatest_by (T : Tx K mg) : FnG P w K mg base "greatest_by" 7 (sp0 K 2 (cLB maxW)) :=
  mkG0 T 71 rfl rfl sc_greatest_by (bind2 rfl fun _ _ _ _ _ _ _ _ => rfl) rfl fun cdv A outer s H E hr tk po => by
    refine ⟨_, (jb_cons (js_asg (je_call0 (ok_least_by T) (hr.mono (by decide)) tk rfl (ja_cons (je_var (pv 0)) (ja_cons (je_call0 (ok_turned T) (hr.mono (by decide)) tk rfl (ja_cons (je_var (pv 1)) ja_nil)) ja_nil))) (jg_tup rfl (jgs_cons (jg_name (pg_name (i := 2) sc_greatest_by.nd rfl (by first | exact .inl rfl | exact .inr rfl))) (jgs_cons (jg_name (pg_name (i := 3) sc_greatest_by.nd rfl (by first | exact .inl rfl | exact .inr rfl))) jgs_nil))))
    (jb_one (js_ret (je_tup (ja_cons (je_un un_negD (je_var (pv 2))) (ja_cons (je_var (pv 3)) ja_nil)))))), ?_⟩
    rintro ds q t ⟨n, qs, ns, rfl, hb, hn, hs, h⟩ -
    refine ⟨ns, rfl, by have := hn.1; have := hb.n3; omega, ?_⟩
    refine ⟨n, qs, ns.map fun x => -x, rfl, hb, hn.neg, hs, ?_⟩
    exact h
abbrev N_check_asked : List Str := ["book", "payoff"]
theorem sc_check_asked : FnScope N_check_asked ["book", "payoff"] (defScope s_check_asked) := ⟨rfl, rfl, rfl, by decide +kernel, rfl, by decide +kernel, by decide +kernel⟩
theorem ok_check_asked (T : Tx K mg) : FnG P w K mg base "check_asked" 9 (sp0 K 2 cChkA) :=
  mkG0 T 75 rfl rfl sc_check_asked (bind2 rfl fun _ _ _ _ _ _ _ _ => rfl) rfl fun cdv A outer s H E hr tk po => by
    refine ⟨_, (jb_cons (js_expr (je_call0 (ok_check_book T) (hr.mono (by decide)) tk rfl (ja_cons (je_var (pv 0)) ja_nil)))
    (jb_cons (js_expr (je_call0 (ok_check_payoff T) (hr.mono (by decide)) tk rfl (ja_cons (je_var (pv 1)) (ja_cons (je_prop0 (ok_Book_outcomes T) (hr.mono (by decide)) (je_var (pv 0))) ja_nil))))
    (jb_one (js_expr (je_call0 (ok_check_sound T) (hr.mono (by decide)) tk rfl (ja_cons (je_var (pv 0)) ja_nil)))))), ?_⟩
    rintro ds q t ⟨n, qs, ns, rfl, hb, hn, hs, h⟩ -
    refine ⟨qs, n, rfl, qs, n, rfl, ns, n, rfl, by have := hb.n3; omega, hn, ?_⟩
    exact ⟨n, qs, rfl, hb, fun _ => h, fun z => by rw [hs] at z; cases z⟩
abbrev N_least_worth : List Str := ["book", "payoff"]
theorem sc_least_worth : FnScope N_least_worth ["book", "payoff"] (defScope s_least_worth) := ⟨rfl, rfl, rfl, by decide +kernel, rfl, by decide +kernel, by decide +kernel⟩
theorem ok_least_worth (T : Tx K mg) : FnG P w K mg base "least_worth" 10 (sp0 K 2 (cLB minW)) :=
  mkG0 T 76 rfl rfl sc_least_worth (bind2 rfl fun _ _ _ _ _ _ _ _ => rfl) rfl fun cdv A outer s H E hr tk po => by
    refine ⟨_, (jb_cons (js_expr (je_call0 (ok_check_asked T) (hr.mono (by decide)) tk rfl (ja_cons (je_var (pv 0)) (ja_cons (je_var (pv 1)) ja_nil))))
    (jb_one (js_ret (je_call0 (ok_least_by T) (hr.mono (by decide)) tk rfl (ja_cons (je_var (pv 0)) (ja_cons (je_var (pv 1)) ja_nil)))))), ?_⟩
    rintro ds q t ⟨n, qs, ns, rfl, hb, hn, hs, h⟩ -
    exact ⟨n, qs, ns, rfl, hb, hn, hs, n, qs, ns, rfl, hb, hn, hs, h⟩
abbrev N_greatest_worth : List Str := ["book", "payoff"]
theorem sc_greatest_worth : FnScope N_greatest_worth ["book", "payoff"] (defScope s_greatest_worth) := ⟨rfl, rfl, rfl, by decide +kernel, rfl, by decide +kernel, by decide +kernel⟩
theorem ok_greatest_worth (T : Tx K mg) : FnG P w K mg base "greatest_worth" 10 (sp0 K 2 (cLB maxW)) :=
  mkG0 T 77 rfl rfl sc_greatest_worth (bind2 rfl fun _ _ _ _ _ _ _ _ => rfl) rfl fun cdv A outer s H E hr tk po => by
    refine ⟨_, (jb_cons (js_expr (je_call0 (ok_check_asked T) (hr.mono (by decide)) tk rfl (ja_cons (je_var (pv 0)) (ja_cons (je_var (pv 1)) ja_nil))))
    (jb_one (js_ret (je_call0 (ok_greatest_by T) (hr.mono (by decide)) tk rfl (ja_cons (je_var (pv 0)) (ja_cons (je_var (pv 1)) ja_nil)))))), ?_⟩
    rintro ds q t ⟨n, qs, ns, rfl, hb, hn, hs, h⟩ -
    exact ⟨n, qs, ns, rfl, hb, hn, hs, n, qs, ns, rfl, hb, hn, hs, h⟩
end
end SC
end

section
set_option maxHeartbeats 4000000
namespace SC
open PySem L2 DL
section
variable {P : Program} {w : World} {K : PySem.W.Frag} {mg : Str → Option Value} {base : Heap}

theorem BkOk.left {n : Nat} {a b : List Qt} (h : BkOk n (a ++ b)) : BkOk n a := ⟨h.1, h.2.1, by have := h.2.2.1; simp at this; omega, fun q hq => h.2.2.2 q (List.mem_append_left _ hq)⟩
theorem BkOk.right {n : Nat} {a b : List Qt} (h : BkOk n (a ++ b)) : BkOk n b := ⟨h.1, h.2.1, by have := h.2.2.1; simp at this; omega, fun q hq => h.2.2.2 q (List.mem_append_right _ hq)⟩
theorem B23.left {n : Nat} {a b : List Qt} (h : B23 n (a ++ b)) : B23 n a := ⟨h.n23, h.ok.left⟩
theorem B23.right {n : Nat} {a b : List Qt} (h : B23 n (a ++ b)) : B23 n b := ⟨h.n23, h.ok.right⟩
/-- a def that is called with two keywords, the other way round -/
theorem mkGR {d : FnRec} {N : List Str} {a b : Str} {k n : Nat} {pc : PC} (T : Tx K mg) (i : Nat) (hi : fnTab[i]? = some d) (hc : d.cls = none) (S : FnScope N [a, b] (defScope d.st))
    (hb : ∀ (kV doc pm : Value) (an : Option Addr) (cdv ct : Value) (u1 u2 : Value), bindArgs (PySem.W.fnOf d.nm d.qual (defArgs d.st) (defBody d.st) (defScope d.st) .none kV doc pm an cdv ct) ⟨[], [(b, u2), (a, u1)]⟩ = pure ([a, b].zip [u1, u2])) (hn : [a, b].length = n)
    (bo : BodyOk P w K mg base N d.qual (defScope d.st) (defBody d.st) d.adr k fun r => ∀ ds q x, pc ds q x → ds.length = n → r (out0 q x) (startD N ds) []) : FnGR P w K mg base d.nm a b (k + 1) (sp0 K n pc) := by
  obtain ⟨fd, F⟩ := T.f i d hi
  refine ⟨_, fd, [a, b], fn_ok F S (fun _ _ _ _ h => (len_sp0 h).trans hn.symm) bo (fun _ c _ _ _ _ h => up_sp0 c h), T.g i d hi hc, F.kp, fun s u1 u2 => ?_⟩
  obtain ⟨oc, od, dV, kV, doc, pm, an, cdv, ct, osl, rfl, lk, hcd, hD, hK⟩ := F.ex
  rcases hD with ⟨_, rfl⟩ | ⟨e, _⟩
  · exact .of_eq (hb kV doc pm an cdv ct u1 u2)
  · exact absurd rfl e
/-- [f(x) for g(x) in .. if c(x)], nothing changed -/
theorem lc_filA {α : Type} {rg : RG} {rt : RT} {re : RE} {ds : List (Option DL.D)} {k : List DL.D → List Cell → Prop} {S : List Cell} (l0 : List α) (c : α → Bool) (g f : α → DL.D) (hn : ∀ x, x ∈ l0 → noLoc [f x] = true) (hl0 : l0.length ≤ 100000)
    (one : ∀ x, x ∈ l0 → ∀ (A : DL.D → List Cell → Prop) (B : List Cell → Prop), mB (c x) (A (f x) S) (B S) → rg (g x) ds S fun ds1 S1 => rt ds1 S1 (fun b S2 => mB b (re ds1 S2 A fun _ _ => False) (B S2)) fun _ _ => False) (h : k ((l0.filter c).map f) S) : lcD rg rt re ds (l0.map g) [] S k := by
  have go : ∀ (l done : List α), done ++ l = l0 → lcD rg rt re ds (l.map g) ((done.filter c).map f) S k := by
    intro l
    induction l with
    | nil =>
      intro done e
      rw [List.append_nil] at e
      subst e
      exact h
    | cons x l ih =>
      intro done e
      have hx : x ∈ l0 := by rw [← e]; simp
      refine one x hx (fun y S3 => noLoc [y] = true ∧ ((done.filter c).map f).length < 100000 ∧ lcD rg rt re ds (l.map g) (((done.filter c).map f) ++ [y]) S3 k) (fun S2 => lcD rg rt re ds (l.map g) ((done.filter c).map f) S2 k) ?_
      have next := ih (done ++ [x]) (by simp [e])
      rw [List.filter_append, List.map_append] at next
      cases hc : c x with
      | true =>
        rw [List.filter_cons_of_pos hc] at next
        have : (done.filter c).length ≤ done.length := List.length_filter_le _ _
        have l2 : done.length + (l.length + 1) ≤ 100000 := by
          have : l0.length = done.length + (l.length + 1) := by rw [← e]; simp
          omega
        exact ⟨hn x hx, by rw [List.length_map]; omega, next⟩
      | false =>
        rw [List.filter_cons_of_neg (by simp [hc]), List.filter_nil, List.map_nil, List.append_nil] at next
        exact next
  exact go l0 [] rfl
abbrev cMeet : PC := fun ds q _ => ∃ (n : Nat) (qs rs : List Qt), ds = [bkd n qs, bkd n rs] ∧ B23 n (qs ++ rs) ∧ q (.bl (sound n (qs ++ rs)))
abbrev cTwoS : PC := fun ds q _ => ∃ (n : Nat) (qs rs : List Qt), ds = [bkd n qs, bkd n rs] ∧ B23 n qs ∧ B23 n rs ∧ sound n qs = true ∧ sound n rs = true ∧ q .non
abbrev cBetw : PC := fun ds q _ => ∃ (n : Nat) (qs rs : List Qt) (ns : List Int), ds = [bkd n qs, bkd n rs, inz ns] ∧ B23 n qs ∧ B23 n rs ∧ PayOk n ns ∧ sound n qs = true ∧ sound n rs = true ∧ q (fr (gmin (minW n qs ns) (minW n rs ns)))
abbrev cBlend : PC := fun ds q _ => ∃ (n : Nat) (qs rs : List Qt) (s : Rat) (ns : List Int), ds = [bkd n qs, bkd n rs, fr s, inz ns] ∧ B23 n qs ∧ B23 n rs ∧ ShareOk s ∧ PayOk n ns ∧ sound n qs = true ∧ sound n rs = true ∧ q (fr ((1 - s) * minW n qs ns + s * minW n rs ns))
/-- the quotes without one each -/
def outs (qs : List Qt) : List (List Qt) := (List.range qs.length).map qs.eraseIdx
def cands (qs : List Qt) : List (List Qt) := if qs = [] then [[]] else outs qs
noncomputable abbrev lefts (n : Nat) (qs : List Qt) : List (List Qt) := (cands qs).filter (sound n)
abbrev cButOne : PC := fun ds q x => ∃ (n : Nat) (qs : List Qt), ds = [bkd n qs] ∧ B23 n qs ∧ (lefts n qs ≠ [] → q (.lst ((lefts n qs).map (bkd n)))) ∧ (lefts n qs = [] → x adNotSound)
def foldR (f : Rat → Rat → Rat) : List Rat → Rat
  | [] => 0
  | r :: rs => rs.foldl f r
abbrev cLBO (f : Rat → Rat → Rat) (w : Nat → List Qt → List Int → Rat) : PC := fun ds q x => ∃ (n : Nat) (qs : List Qt) (ns : List Int), ds = [bkd n qs, inz ns] ∧ B23 n qs ∧ PayOk n ns ∧
  (lefts n qs ≠ [] → q (fr (foldR f ((lefts n qs).map fun c => w n c ns)))) ∧ (lefts n qs = [] → x adNotSound)
theorem BkOk.er {n : Nat} {qs : List Qt} (h : BkOk n qs) (i : Nat) : BkOk n (qs.eraseIdx i) := ⟨h.1, h.2.1, Nat.le_trans (List.length_eraseIdx_le _ _) h.2.2.1, fun q hq => h.2.2.2 q (List.mem_of_mem_eraseIdx hq)⟩
theorem cands_ok {n : Nat} {qs : List Qt} (h : B23 n qs) : ∀ c ∈ cands qs, B23 n c := by
  intro c hc
  unfold cands at hc
  split at hc
  · rename_i e
    rw [List.mem_singleton.mp hc, ← e]; exact h
  · obtain ⟨i, _, rfl⟩ := List.mem_map.mp hc
    exact ⟨h.n23, h.ok.er i⟩
theorem cands_len {qs : List Qt} (h : qs.length ≤ 31) : (cands qs).length ≤ 31 := by
  unfold cands
  split
  · decide
  · simp [outs]; exact h
theorem maxW_bd {n : Nat} {qs : List Qt} (h : B23 n qs) {ns : List Int} (hn : PayOk n ns) (hs : sound n qs = true) : Bd 120 (maxW n qs ns) := (minW_bd h hn.neg hs).neg
theorem share_mul {s x : Rat} (hs : ShareOk s) (hx : Bd 120 x) : Bd 200 ((1 - s) * x) := ((((int_bd (n := 1) (B := 1) (by decide) (by decide)).sub hs.bd).mul hx)).mono (by decide)
abbrev N_do_meet : List Str := ["book", "other", "rows", "one", "two"]
theorem sc_do_meet : FnScope N_do_meet ["book", "other"] (defScope s_do_meet) := ⟨rfl, rfl, rfl, by decide +kernel, rfl, by decide +kernel, by decide +kernel⟩
theorem ok_do_meet (T : Tx K mg) : FnGR P w K mg base "do_meet" "book" "other" 5 (sp0 K 2 cMeet) :=
  mkGR T 80 rfl rfl sc_do_meet (fun _ _ _ _ _ _ _ _ => rfl) rfl fun cdv A outer s H E hr tk po => by
    refine ⟨_, (jb_cons (js_expr (je_call0 (ok_check_pair T) (hr.mono (by decide)) tk rfl (ja_cons (je_var (pv 0)) (ja_cons (je_var (pv 1)) ja_nil))))
    (jb_cons (js_expr (je_call0 (ok_check_two T) (hr.mono (by decide)) tk rfl (ja_cons (je_var (pv 0)) (ja_cons (je_var (pv 1)) ja_nil))))
    (jb_cons (js_setLc (i := 2) rfl sc_do_meet.nd rfl rfl (sw_true rfl rfl rfl (by decide +kernel)) (own := [("one", 3), ("two", 4)]) (g := (gTup K 2 (gCons (gName 3) (gCons (gName 4) gNil)))) (ji_zip rfl T.b_zip (je_call0 (ok_gain_rows T) (hr.mono (by decide)) tk rfl (ja_cons (je_var (pv 0)) ja_nil)) (je_call0 (ok_gain_rows T) (hr.mono (by decide)) tk rfl (ja_cons (je_var (pv 1)) ja_nil)) (fun h => RZ.pi_zipA rfl T.b_zip h)) (blkOk_by (own := [("one", 3), ("two", 4)]) (N := N_do_meet) (sc := defScope s_do_meet) (by decide +kernel)) (fun _ _ _ _ _ => (pg_tup rfl (pgs_cons (pg_name (i := 3) sc_do_meet.nd rfl (by first | exact Or.inl rfl | exact Or.inr rfl)) (pgs_cons (pg_name (i := 4) sc_do_meet.nd rfl (by first | exact Or.inl rfl | exact Or.inr rfl)) pgs_nil)))) (gok_tup (gok_cons gok_name (gok_cons gok_name gok_nil))) (fun _ _ _ _ _ => jts_nil) (fun _ _ _ _ _ => (je_lstL (ja_cons je_int (ja_star (je_var (pv 3)) (ja_star (je_var (pv 4)) ja_nil))))))
    (jb_one (js_ret (je_cmp op_notND (je_fld T.cf .answer 0 (je_call0 (ok_greatest_sum T) (hr.mono (by decide)) tk rfl (ja_cons (je_var (pv 2)) (ja_cons (je_op op_mulD (je_lst (ja_cons je_int ja_nil)) (je_prop0 (ok_Book_outcomes T) (hr.mono (by decide)) (je_var (pv 0)))) (ja_cons (je_op op_addD (je_lst (ja_cons je_int ja_nil)) (je_op op_mulD (je_lst (ja_cons je_int ja_nil)) (je_op op_subD (je_callB call_lenD rfl T.b_len (by decide +kernel) (ja_cons (je_ix (je_var (pv 2)) je_int) ja_nil)) je_int))) ja_nil))))) je_non (nomark _))))))), ?_⟩
    rintro ds q t ⟨n, qs, rs, rfl, hb, h⟩ -
    have hl := hb.ok.2.2.1
    rw [List.length_append] at hl
    have n3 := hb.n3
    have n2 : 2 ≤ n := hb.ok.1
    refine ⟨qs, rs, n, n, rfl, qs, rs, n, rfl, qs, n, rfl, hb.left.ok, rs, n, rfl, hb.right.ok, ?_⟩
    show lcD _ _ _ _ (zipD (tb n fun p : Nat => .lst (qs.map fun x => .int (x.pay.getD p 0 * x.price.den - x.price.num))) (tb n fun p : Nat => .lst (rs.map fun x => .int (x.pay.getD p 0 * x.price.den - x.price.num)))) _ _ _
    rw [zipD_tb]
    refine lc_mapA (List.range n) (fun p : Nat => D.tup [.lst (qs.map fun x => .int (x.pay.getD p 0 * x.price.den - x.price.num)), .lst (rs.map fun x => .int (x.pay.getD p 0 * x.price.den - x.price.num))])
      (fun p => D.lst (tI (1 + (gsOf (qs ++ rs)).length) ((MA.pB n (gsOf (qs ++ rs)) (List.replicate n 0)).A p))) (fun _ _ => rfl) (by simp; omega) (fun k hk K hK => ?_) ?_
    · rw [row_eq (fun x hx => (hb.ok.2.2.2 x hx).1.1) (List.mem_range.mp hk), List.map_append] at hK
      show noLoc (D.int 1 :: ((qs.map fun x => D.int (x.pay.getD k 0 * x.price.den - x.price.num)) ++ ((rs.map fun x => D.int (x.pay.getD k 0 * x.price.den - x.price.num)) ++ []))) = true ∧ (D.int 1 :: ((qs.map fun x => D.int (x.pay.getD k 0 * x.price.den - x.price.num)) ++ ((rs.map fun x => D.int (x.pay.getD k 0 * x.price.den - x.price.num)) ++ []))).length ≤ 100000 ∧ K (.lst (D.int 1 :: ((qs.map fun x => D.int (x.pay.getD k 0 * x.price.den - x.price.num)) ++ ((rs.map fun x => D.int (x.pay.getD k 0 * x.price.den - x.price.num)) ++ [])))) _
      rw [List.append_nil, ← List.map_append]
      rw [← List.map_append] at hK
      exact ⟨noLoc_map (f := fun x : Qt => D.int (x.pay.getD k 0 * x.price.den - x.price.num)) (fun _ => rfl) _, by simp; omega, hK⟩
    · have at0 := tb_at (n := n) (i := 0) (fun p => D.lst (tI (1 + (gsOf (qs ++ rs)).length) ((MA.pB n (gsOf (qs ++ rs)) (List.replicate n 0)).A p))) (by omega)
      refine ⟨qs, n, rfl, ⟨by omega, by omega, by simp; omega⟩, _, at0, ⟨?_, ?_, ?_⟩, ?_, ?_⟩
      · rw [tb_len]; simp; omega
      · rw [tb_len]; simp; omega
      · rw [tb_len]; simp; omega
      · rw [tb_len]; simp; omega
      · have hz := zero_pay n
        have hz0 : ∀ x ∈ List.replicate n (0 : Int), 0 ≤ x := fun x hx => by rw [(List.mem_replicate.mp hx).2]; exact Int.le_refl _
        have ok := hb.sh.ok hz.1 hz0
        refine ⟨MA.pB n (gsOf (qs ++ rs)) (List.replicate n 0), ok, hb.prb (fun x hx => by rw [(List.mem_replicate.mp hx).2]; decide), by show 1 + (gsOf (qs ++ rs)).length ≤ 40; simp; omega, ?_, fun T' o a b => ?_, fun T' j u a b => ?_⟩
        · congr 1
          congr 1
          · show D.lst (List.replicate (n : Int).toNat [D.int 0]).flatten = D.lst (tI n fun k => (List.replicate n (0 : Int)).getD k 0)
            have e := list_tI (List.replicate n (0 : Int))
            rw [List.length_replicate] at e
            rw [e, List.flatten_replicate_singleton]
            simp
          · congr 1
            show D.lst _ = D.lst (tI (1 + (gsOf (qs ++ rs)).length) fun j => if j = 0 then 1 else 0)
            rw [worths_eq _ _ fun j => rfl, List.length_map]
            congr 1
            show [D.int 1] ++ (List.replicate (_ : Int).toNat [D.int 0]).flatten = _
            rw [List.flatten_replicate_singleton]
            simp
            omega
        · have hs : sound n (qs ++ rs) = true := sound_iff.mpr ⟨_, o.ifs hb.sh ok⟩
          rw [hs] at h
          exact h
        · have hs : sound n (qs ++ rs) = false := sound_iff'.mpr (u.no hb.sh hz.1 hz0)
          rw [hs] at h
          exact h
abbrev N_check_two_sound : List Str := ["book", "other"]
theorem sc_check_two_sound : FnScope N_check_two_sound ["book", "other"] (defScope s_check_two_sound) := ⟨rfl, rfl, rfl, by decide +kernel, rfl, by decide +kernel, by decide +kernel⟩
theorem ok_check_two_sound (T : Tx K mg) : FnG P w K mg base "check_two_sound" 9 (sp0 K 2 cTwoS) :=
  mkG0 T 81 rfl rfl sc_check_two_sound (bind2 rfl fun _ _ _ _ _ _ _ _ => rfl) rfl fun cdv A outer s H E hr tk po => by
    refine ⟨_, (jb_cons (js_expr (je_call0 (ok_check_two T) (hr.mono (by decide)) tk rfl (ja_cons (je_var (pv 0)) (ja_cons (je_var (pv 1)) ja_nil))))
    (jb_cons (js_expr (je_call0 (ok_check_sound T) (hr.mono (by decide)) tk rfl (ja_cons (je_var (pv 0)) ja_nil)))
    (jb_one (js_expr (je_call0 (ok_check_sound T) (hr.mono (by decide)) tk rfl (ja_cons (je_var (pv 1)) ja_nil)))))), ?_⟩
    rintro ds q t ⟨n, qs, rs, rfl, hb, hc, hs, ht, h⟩ -
    exact ⟨qs, rs, n, rfl, n, qs, rfl, hb, fun _ => ⟨n, rs, rfl, hc, fun _ => h, fun z => by rw [ht] at z; cases z⟩, fun z => by rw [hs] at z; cases z⟩
abbrev N_least_between : List Str := ["book", "other", "payoff"]
theorem sc_least_between : FnScope N_least_between ["book", "other", "payoff"] (defScope s_least_between) := ⟨rfl, rfl, rfl, by decide +kernel, rfl, by decide +kernel, by decide +kernel⟩
theorem ok_least_between (T : Tx K mg) : FnG P w K mg base "least_between" 10 (sp0 K 3 cBetw) :=
  mkG0 T 82 rfl rfl sc_least_between (bind3 rfl fun _ _ _ _ _ _ _ _ _ => rfl) rfl fun cdv A outer s H E hr tk po => by
    refine ⟨_, (jb_cons (js_expr (je_call0 (ok_check_pair T) (hr.mono (by decide)) tk rfl (ja_cons (je_var (pv 0)) (ja_cons (je_var (pv 1)) ja_nil))))
    (jb_cons (js_expr (je_call0 (ok_check_payoff T) (hr.mono (by decide)) tk rfl (ja_cons (je_var (pv 2)) (ja_cons (je_prop0 (ok_Book_outcomes T) (hr.mono (by decide)) (je_var (pv 0))) ja_nil))))
    (jb_cons (js_expr (je_call0 (ok_check_two_sound T) (hr.mono (by decide)) tk rfl (ja_cons (je_var (pv 0)) (ja_cons (je_var (pv 1)) ja_nil))))
    (jb_one (js_ret (je_call0 (ok_lesser_of T) (hr.mono (by decide)) tk rfl (ja_cons (je_call0 (ok_least_by T) (hr.mono (by decide)) tk rfl (ja_cons (je_var (pv 0)) (ja_cons (je_var (pv 2)) ja_nil))) (ja_cons (je_call0 (ok_least_by T) (hr.mono (by decide)) tk rfl (ja_cons (je_var (pv 1)) (ja_cons (je_var (pv 2)) ja_nil))) ja_nil)))))))), ?_⟩
    rintro ds q t ⟨n, qs, rs, ns, rfl, hb, hc, hn, hs, ht, h⟩ -
    exact ⟨qs, rs, n, n, rfl, qs, n, rfl, ns, n, rfl, by have := hb.n3; omega, hn, n, qs, rs, rfl, hb, hc, hs, ht, n, qs, ns, rfl, hb, hn, hs, n, rs, ns, rfl, hc, hn, ht, minW n qs ns, minW n rs ns, rfl, (minW_bd hb hn hs).mono (by decide), (minW_bd hc hn ht).mono (by decide), h⟩
abbrev N_least_blend : List Str := ["book", "other", "share", "payoff", "near"]
theorem sc_least_blend : FnScope N_least_blend ["book", "other", "share", "payoff"] (defScope s_least_blend) := ⟨rfl, rfl, rfl, by decide +kernel, rfl, by decide +kernel, by decide +kernel⟩
theorem ok_least_blend (T : Tx K mg) : FnG P w K mg base "least_blend" 10 (sp0 K 4 cBlend) :=
  mkG0 T 83 rfl rfl sc_least_blend (bind4 rfl fun _ _ _ _ _ _ _ _ _ _ => rfl) rfl fun cdv A outer s H E hr tk po => by
    refine ⟨_, (jb_cons (js_expr (je_call0 (ok_check_pair T) (hr.mono (by decide)) tk rfl (ja_cons (je_var (pv 0)) (ja_cons (je_var (pv 1)) ja_nil))))
    (jb_cons (js_if (jt_not (jt_val (je_call0 (ok_is_share T) (hr.mono (by decide)) tk rfl (ja_cons (je_var (pv 2)) ja_nil)))) (jb_one js_never) jb_nil)
    (jb_cons (js_expr (je_call0 (ok_check_payoff T) (hr.mono (by decide)) tk rfl (ja_cons (je_var (pv 3)) (ja_cons (je_prop0 (ok_Book_outcomes T) (hr.mono (by decide)) (je_var (pv 0))) ja_nil))))
    (jb_cons (js_expr (je_call0 (ok_check_two_sound T) (hr.mono (by decide)) tk rfl (ja_cons (je_var (pv 0)) (ja_cons (je_var (pv 1)) ja_nil))))
    (jb_cons (js_set (i := 4) sc_least_blend.nd rfl (by first | exact .inl rfl | exact .inr rfl) (je_call0 (ok_times T) (hr.mono (by decide)) tk rfl (ja_cons (je_call0 (ok_minus T) (hr.mono (by decide)) tk rfl (ja_cons (je_tup (ja_cons je_int (ja_cons je_int ja_nil))) (ja_cons (je_var (pv 2)) ja_nil))) (ja_cons (je_call0 (ok_least_by T) (hr.mono (by decide)) tk rfl (ja_cons (je_var (pv 0)) (ja_cons (je_var (pv 3)) ja_nil))) ja_nil))))
    (jb_one (js_ret (je_call0 (ok_plus T) (hr.mono (by decide)) tk rfl (ja_cons (je_var (pv 4)) (ja_cons (je_call0 (ok_times T) (hr.mono (by decide)) tk rfl (ja_cons (je_var (pv 2)) (ja_cons (je_call0 (ok_least_by T) (hr.mono (by decide)) tk rfl (ja_cons (je_var (pv 1)) (ja_cons (je_var (pv 3)) ja_nil))) ja_nil))) ja_nil)))))))))), ?_⟩
    rintro ds q t ⟨n, qs, rs, s, ns, rfl, hb, hc, hsh, hn, hs, ht, h⟩ -
    have b1 := minW_bd hb hn hs
    have b2 := minW_bd hc hn ht
    refine ⟨qs, rs, n, n, rfl, s, rfl, hsh, qs, n, rfl, ns, n, rfl, by have := hb.n3; omega, hn, n, qs, rs, rfl, hb, hc, hs, ht, (1 : Rat), s, rfl, int_bd (n := 1) (by decide) (by decide), hsh.bd.mono (by decide), n, qs, ns, rfl, hb, hn, hs, ?_⟩
    refine ⟨1 - s, minW n qs ns, rfl, ((int_bd (n := 1) (B := 1) (by decide) (by decide)).sub hsh.bd).mono (by decide), b1.mono (by decide), n, rs, ns, rfl, hc, hn, ht, s, minW n rs ns, rfl, hsh.bd.mono (by decide), b2.mono (by decide), ?_⟩
    exact ⟨(1 - s) * minW n qs ns, s * minW n rs ns, rfl, (share_mul hsh b1).mono (by decide), (hsh.bd.mul b2).mono (by decide), h⟩
abbrev N_but_one : List Str := ["book", "some", "index", "found", "each"]
theorem sc_but_one : FnScope N_but_one ["book"] (defScope s_but_one) := ⟨rfl, rfl, rfl, by decide +kernel, rfl, by decide +kernel, by decide +kernel⟩
theorem ok_but_one (T : Tx K mg) : FnG P w K mg base "but_one" 10 (sp0 K 1 cButOne) :=
  mkG0 T 84 rfl rfl sc_but_one (bind1 rfl fun _ _ _ _ _ _ _ => rfl) rfl fun cdv A outer s H E hr tk po => by
    refine ⟨_, (jb_cons (js_setLc (i := 1) rfl sc_but_one.nd rfl rfl (sw_true rfl rfl rfl (by decide +kernel)) (own := [("index", 2)]) (g := (gName 2)) (ji_rng1 rfl T.b_range (je_callB call_lenD rfl T.b_len (by decide +kernel) (ja_cons (je_prop0 (ok_Book_quotes T) (hr.mono (by decide)) (je_var (pv 0))) ja_nil))) (blkOk_by (own := [("index", 2)]) (N := N_but_one) (sc := defScope s_but_one) (by decide +kernel)) (fun _ _ _ _ _ => (pg_name (i := 2) sc_but_one.nd rfl (by first | exact Or.inl rfl | exact Or.inr rfl))) gok_name (fun _ _ _ _ _ => jts_nil) (fun _ _ _ _ _ => (je_call0 (ok_less_one T) (hr.mono (by decide)) L2.takes0 rfl (ja_cons (je_var (pv 0)) (ja_cons (je_var (pv 2)) ja_nil)))))
    (jb_cons (js_setLc (i := 3) rfl sc_but_one.nd rfl rfl (sw_true rfl rfl rfl (by decide +kernel)) (own := [("each", 4)]) (g := (gName 4)) (ji_lst (je_if (jt_cmp (op_neE hr.units) (je_var (pv 1)) (je_lst ja_nil) (nomark _)) (je_var (pv 1)) (je_lst (ja_cons (je_var (pv 0)) ja_nil)))) (blkOk_by (own := [("each", 4)]) (N := N_but_one) (sc := defScope s_but_one) (by decide +kernel)) (fun _ _ _ _ _ => (pg_name (i := 4) sc_but_one.nd rfl (by first | exact Or.inl rfl | exact Or.inr rfl))) gok_name (fun _ _ _ _ _ => (jts_one (jt_val (je_call0 (ok_is_kept_by_some T) (hr.mono (by decide)) L2.takes0 rfl (ja_cons (je_var (pv 4)) ja_nil))))) (fun _ _ _ _ _ => (je_var (pv 4))))
    (jb_cons (js_if (jt_cmp (op_eqE hr.units) (je_var (pv 3)) (je_lst ja_nil) (nomark _)) (jb_one (js_raise0 T.x_NotSound rfl tk rfl)) jb_nil)
    (jb_one (js_ret (je_var (pv 3))))))), ?_⟩
    rintro ds q t ⟨n, qs, rfl, hb, h1, h2⟩ -
    have hl := hb.ok.2.2.1
    refine ⟨qs, n, rfl, ⟨by omega, by simp; omega⟩, ?_⟩
    show lcD _ _ _ _ (rngD 0 ((qs.map qd).length : Nat)) _ _ _
    rw [List.length_map, rngD_map]
    refine lc_mapA (List.range qs.length) (fun i : Nat => D.int i) (fun i => bkd n (qs.eraseIdx i)) (fun _ _ => rfl) (by simp; omega) (fun i hi K hK => ?_) ?_
    · have hi := List.mem_range.mp hi
      have e : qs = qs.take i ++ qs[i] :: qs.drop (i + 1) := by simp
      rw [List.eraseIdx_eq_take_drop_succ] at hK
      refine ⟨qs.take i, qs.drop (i + 1), qs[i], n, ?_, ?_, hK⟩
      · rw [← e, List.length_take, Nat.min_eq_left (by omega)]
      · rw [← e]; exact hb.ok
    · refine onB (fun z => ?_) fun z => ?_
      · have ne : qs ≠ [] := fun e => by rw [e] at z; simp at z
        have ec : cands qs = outs qs := if_neg ne
        have el : (((List.range qs.length).filter fun i => sound n (qs.eraseIdx i)).map fun i => bkd n (qs.eraseIdx i)) = (lefts n qs).map (bkd n) := by
          unfold lefts
          rw [ec, outs, List.filter_map, List.map_map]
          rfl
        refine lc_filA (List.range qs.length) (fun i => sound n (qs.eraseIdx i)) (fun i => bkd n (qs.eraseIdx i)) (fun i => bkd n (qs.eraseIdx i)) (fun _ _ => rfl) (by simp; omega) (fun i hi A B hAB => ?_) ?_
        · exact ⟨n, qs.eraseIdx i, rfl, ⟨hb.n23, hb.ok.er i⟩, hAB⟩
        · rw [el]
          refine onB (fun y => ?_) fun y => ?_
          · exact h2 (by simpa using y)
          · exact h1 (by simpa using y)
      · have e : qs = [] := by simpa using z
        subst e
        refine ⟨n, [], rfl, hb, ?_⟩
        refine onB (fun y => ⟨rfl, by decide, ?_⟩) fun y => ?_
        · have : lefts n [] = [[]] := by simp [lefts, cands, y]
          rw [this] at h1
          exact h1 (by simp)
        · exact h2 (by simp [lefts, cands, y])
abbrev N_least_but_one : List Str := ["book", "payoff", "each"]
theorem sc_least_but_one : FnScope N_least_but_one ["book", "payoff"] (defScope s_least_but_one) := ⟨rfl, rfl, rfl, by decide +kernel, rfl, by decide +kernel, by decide +kernel⟩
theorem ok_least_but_one (T : Tx K mg) : FnG P w K mg base "least_but_one" 11 (sp0 K 2 (cLBO gmin minW)) :=
  mkG0 T 85 rfl rfl sc_least_but_one (bind2 rfl fun _ _ _ _ _ _ _ _ => rfl) rfl fun cdv A outer s H E hr tk po => by
    refine ⟨_, (jb_cons (js_expr (je_call0 (ok_check_book T) (hr.mono (by decide)) tk rfl (ja_cons (je_var (pv 0)) ja_nil)))
    (jb_cons (js_expr (je_call0 (ok_check_payoff T) (hr.mono (by decide)) tk rfl (ja_cons (je_var (pv 1)) (ja_cons (je_prop0 (ok_Book_outcomes T) (hr.mono (by decide)) (je_var (pv 0))) ja_nil))))
    (jb_one (js_ret (je_call0 (ok_least_in T) (hr.mono (by decide)) tk rfl (ja_cons (je_lc (own := [("each", 2)]) (g := (gName 2)) rfl sc_least_but_one.nd (ji_lst (je_call0 (ok_but_one T) (hr.mono (by decide)) tk rfl (ja_cons (je_var (pv 0)) ja_nil))) (blkOk_by (own := [("each", 2)]) (N := N_least_but_one) (sc := defScope s_least_but_one) (by decide +kernel)) (fun _ _ _ _ _ => (pg_name (i := 2) sc_least_but_one.nd rfl (by first | exact Or.inl rfl | exact Or.inr rfl))) gok_name (fun _ _ _ _ _ => jts_nil) (fun _ _ _ _ _ => (je_call0 (ok_least_by T) (hr.mono (by decide)) L2.takes0 rfl (ja_cons (je_var (pv 2)) (ja_cons (je_var (pv 1)) ja_nil))))) ja_nil)))))), ?_⟩
    rintro ds q t ⟨n, qs, ns, rfl, hb, hn, h1, h2⟩ -
    refine ⟨qs, n, rfl, qs, n, rfl, ns, n, rfl, by have := hb.n3; omega, hn, n, qs, rfl, hb, fun ne => ?_, h2⟩
    have hc : ∀ c ∈ lefts n qs, B23 n c ∧ sound n c = true := fun c hc => ⟨cands_ok hb c (List.mem_filter.mp hc).1, (List.mem_filter.mp hc).2⟩
    have hcl : (lefts n qs).length ≤ 31 := Nat.le_trans (List.length_filter_le _ _) (cands_len hb.ok.2.2.1)
    have h1 := h1 ne
    generalize lefts n qs = cs at ne hc hcl h1
    refine lc_mapA cs (bkd n) (fun c => fr (minW n c ns)) (fun _ _ => rfl) (by omega) (fun c hx K hK => ?_) ?_
    · exact ⟨n, c, ns, rfl, (hc c hx).1, hn, (hc c hx).2, hK⟩
    · cases cs with
      | nil => exact absurd rfl ne
      | cons c cs =>
        refine ⟨minW n c ns, cs.map fun c => minW n c ns, ?_, fun x hx => ?_, h1⟩
        · show _ = [D.lst (((c :: cs).map fun c => minW n c ns).map fr)]
          rw [List.map_map]; rfl
        · have hx : x ∈ (c :: cs).map fun c => minW n c ns := hx
          obtain ⟨d, hd, rfl⟩ := List.mem_map.mp hx
          exact (minW_bd (hc d hd).1 hn (hc d hd).2).mono (by decide)
abbrev N_greatest_but_one : List Str := ["book", "payoff", "each"]
theorem sc_greatest_but_one : FnScope N_greatest_but_one ["book", "payoff"] (defScope s_greatest_but_one) := ⟨rfl, rfl, rfl, by decide +kernel, rfl, by decide +kernel, by decide +kernel⟩
theorem ok_greatest_but_one (T : Tx K mg) : FnGR P w K mg base "greatest_but_one" "book" "payoff" 11 (sp0 K 2 (cLBO gmax maxW)) :=
  mkGR T 86 rfl rfl sc_greatest_but_one (fun _ _ _ _ _ _ _ _ => rfl) rfl fun cdv A outer s H E hr tk po => by
    refine ⟨_, (jb_cons (js_expr (je_call0 (ok_check_book T) (hr.mono (by decide)) tk rfl (ja_cons (je_var (pv 0)) ja_nil)))
    (jb_cons (js_expr (je_call0 (ok_check_payoff T) (hr.mono (by decide)) tk rfl (ja_cons (je_var (pv 1)) (ja_cons (je_prop0 (ok_Book_outcomes T) (hr.mono (by decide)) (je_var (pv 0))) ja_nil))))
    (jb_one (js_ret (je_call0 (ok_greatest_in T) (hr.mono (by decide)) tk rfl (ja_cons (je_lc (own := [("each", 2)]) (g := (gName 2)) rfl sc_greatest_but_one.nd (ji_lst (je_call0 (ok_but_one T) (hr.mono (by decide)) tk rfl (ja_cons (je_var (pv 0)) ja_nil))) (blkOk_by (own := [("each", 2)]) (N := N_greatest_but_one) (sc := defScope s_greatest_but_one) (by decide +kernel)) (fun _ _ _ _ _ => (pg_name (i := 2) sc_greatest_but_one.nd rfl (by first | exact Or.inl rfl | exact Or.inr rfl))) gok_name (fun _ _ _ _ _ => jts_nil) (fun _ _ _ _ _ => (je_call0 (ok_greatest_by T) (hr.mono (by decide)) L2.takes0 rfl (ja_cons (je_var (pv 2)) (ja_cons (je_var (pv 1)) ja_nil))))) ja_nil)))))), ?_⟩
    rintro ds q t ⟨n, qs, ns, rfl, hb, hn, h1, h2⟩ -
    refine ⟨qs, n, rfl, qs, n, rfl, ns, n, rfl, by have := hb.n3; omega, hn, n, qs, rfl, hb, fun ne => ?_, h2⟩
    have hc : ∀ c ∈ lefts n qs, B23 n c ∧ sound n c = true := fun c hc => ⟨cands_ok hb c (List.mem_filter.mp hc).1, (List.mem_filter.mp hc).2⟩
    have hcl : (lefts n qs).length ≤ 31 := Nat.le_trans (List.length_filter_le _ _) (cands_len hb.ok.2.2.1)
    have h1 := h1 ne
    generalize lefts n qs = cs at ne hc hcl h1
    refine lc_mapA cs (bkd n) (fun c => fr (maxW n c ns)) (fun _ _ => rfl) (by omega) (fun c hx K hK => ?_) ?_
    · exact ⟨n, c, ns, rfl, (hc c hx).1, hn, (hc c hx).2, hK⟩
    · cases cs with
      | nil => exact absurd rfl ne
      | cons c cs =>
        refine ⟨maxW n c ns, cs.map fun c => maxW n c ns, ?_, fun x hx => ?_, h1⟩
        · show _ = [D.lst (((c :: cs).map fun c => maxW n c ns).map fr)]
          rw [List.map_map]; rfl
        · have hx : x ∈ (c :: cs).map fun c => maxW n c ns := hx
          obtain ⟨d, hd, rfl⟩ := List.mem_map.mp hx
          exact (maxW_bd (hc d hd).1 hn (hc d hd).2).mono (by decide)
end
end SC
end

section
set_option maxHeartbeats 4000000
namespace SC
open PySem L2 DL
section
variable {P : Program} {w : World} {K : PySem.W.Frag} {mg : Str → Option Value} {base : Heap}

theorem room65 {k : Nat} {A : Around} (r : Room k A) : A.units + 65 < cLine := by have := r.un; omega
theorem worth_go : ∀ (l : List (Int × Rat)) (x : Rat) (B : Nat), (∀ p ∈ l, p.1.natAbs < 2 ^ 12 ∧ Bd 800 p.2) → Bd B x → Bd (B + 900 * l.length) (l.foldl (fun t p => t + (p.1 : Rat) * p.2) x)
  | [], x, B, _, hx => hx
  | p :: l, x, B, h, hx => by
    obtain ⟨b1, b2⟩ := h p List.mem_cons_self
    have b3 : Bd 812 ((p.1 : Rat) * p.2) := ((int_bd b1 (by decide)).mul b2).mono (by decide)
    have := worth_go l (x + (p.1 : Rat) * p.2) (B + 900) (fun q hq => h q (List.mem_cons_of_mem _ hq)) ((hx.add b3).mono (by omega))
    rw [List.foldl_cons]
    exact this.mono (by simp only [List.length_cons]; omega)
theorem worthR_bd {ns : List Int} {rs : List Rat} (h3 : ns.length ≤ 3) (hn : ∀ x ∈ ns, x.natAbs < 2 ^ 12) (hr : ∀ x ∈ rs, Bd 800 x) : Bd 2701 (worthR ns rs) :=
  (worth_go (ns.zip rs) 0 1 (fun p hp => ⟨hn _ (List.of_mem_zip hp).1, hr _ (List.of_mem_zip hp).2⟩) ⟨by decide, by decide⟩).mono (by simp; omega)
structure ChanceOk (n : Nat) (rs : List Rat) : Prop where
  len : rs.length = n
  n3 : n ≤ 3
  sh : ∀ r ∈ rs, ShareOk r
  one : rs.foldl (fun t r => t + r) 0 = 1
theorem ShareOk.nn {r : Rat} (h : ShareOk r) : 0 ≤ r := Rat.num_nonneg.mp h.1
theorem add_nn : ∀ (l : List Rat) (x : Rat), (∀ r ∈ l, 0 ≤ r) → x ≤ l.foldl (fun t r => t + r) x
  | [], x, _ => Rat.le_refl
  | r :: l, x, h => by
    have h1 := h r List.mem_cons_self
    have h2 := add_nn l (x + r) fun s hs => h s (List.mem_cons_of_mem _ hs)
    rw [List.foldl_cons]
    grind
abbrev cChkC : PC := fun ds q _ => ∃ (n : Nat) (rs : List Rat), ds = [.tup (rs.map fr), .int n] ∧ ChanceOk n rs ∧ q .non
abbrev cIsLeft : PC := fun ds q _ => ∃ (n : Nat) (qs : List Qt) (rs : List Rat), ds = [bkd n qs, .tup (rs.map fr)] ∧ B23 n qs ∧ ChanceOk n rs ∧ q (.bl (decide ((qs.filter fun x => decide (worthR x.pay rs < x.price)).length < 2)))
def lotN (n k : Nat) : List Nat := (List.range n).filter fun p => decide (Builtin.bitAnd ((k : Int) / 2 ^ p) 1 = 1)
def lotI (n k : Nat) : List Int := (lotN n k).map fun p : Nat => (p : Int)
def lotPay (n : Nat) (ls : List Int) : List Int := (List.range n).map fun i : Nat => if (i : Int) ∈ ls then 1 else 0
abbrev cLotAt : PC := fun ds q _ => ∃ n k : Nat, ds = [.int k, .int n] ∧ n ≤ 3 ∧ q (inz (lotI n k))
noncomputable def wd (n : Nat) (qs : List Qt) (k : Nat) : Rat := maxW n qs (lotPay n (lotI n k)) - minW n qs (lotPay n (lotI n k))
abbrev cChkL : PC := fun ds q _ => ∃ (n : Nat) (qs : List Qt), ds = [bkd n qs] ∧ B23 n qs ∧ sound n qs = true ∧ q .non
abbrev cWide : PC := fun ds q _ => ∃ (n : Nat) (qs : List Qt) (k : Nat), ds = [bkd n qs] ∧ B23 n qs ∧ sound n qs = true ∧ k < 2 ^ n ∧ (∀ i, i < 2 ^ n → wd n qs i ≤ wd n qs k) ∧ (∀ i, i < k → wd n qs i < wd n qs k) ∧ q (inz (lotI n k))
theorem lotPay_ok (n : Nat) (ls : List Int) : PayOk n (lotPay n ls) := ⟨by simp [lotPay], fun p hp => by
  obtain ⟨i, _, rfl⟩ := List.mem_map.mp hp
  split <;> omega⟩
theorem fold_gmax : ∀ (l : List Rat) (r : Rat), (∀ x ∈ r :: l, x ≤ l.foldl gmax r) ∧ l.foldl gmax r ∈ r :: l
  | [], r => ⟨fun x hx => by rw [List.mem_singleton.mp hx]; exact Rat.le_refl, by simp⟩
  | y :: l, r => by
    obtain ⟨h1, h2⟩ := fold_gmax l (gmax r y)
    have g1 : r ≤ gmax r y := by unfold gmax; split <;> grind
    have g2 : y ≤ gmax r y := by unfold gmax; split <;> grind
    have g3 : gmax r y = r ∨ gmax r y = y := by unfold gmax; split <;> simp
    have h0 := h1 _ List.mem_cons_self
    rw [List.foldl_cons]
    refine ⟨fun x hx => ?_, ?_⟩
    · rcases List.mem_cons.mp hx with rfl | hx
      · exact Rat.le_trans g1 h0
      · rcases List.mem_cons.mp hx with rfl | hx
        · exact Rat.le_trans g2 h0
        · exact h1 x (List.mem_cons_of_mem _ hx)
    · rcases List.mem_cons.mp h2 with e | e
      · rcases g3 with g3 | g3
        · rw [e, g3]; exact List.mem_cons_self
        · rw [e, g3]; exact List.mem_cons_of_mem _ List.mem_cons_self
      · exact List.mem_cons_of_mem _ (List.mem_cons_of_mem _ e)
theorem eqb_fr (a b : Rat) : eqb (fr a) (fr b) = decide (a = b) := by
  show (a.num == b.num && ((a.den : Int) == (b.den : Int) && true)) = _
  by_cases h : a = b
  · subst h; simp
  · rw [decide_eq_false h]
    by_cases h1 : a.num = b.num
    · have h2 : ¬ (a.den : Int) = (b.den : Int) := fun z => h (Rat.ext h1 (by omega))
      simp [h2]
    · simp [h1]
theorem okEs_map {α : Type} {n : Nat} {f : α → D} (h : ∀ x, okE n (f x) = true) : ∀ l : List α, okEs n (l.map f) = true
  | [] => rfl
  | x :: l => by
    show (okE n (f x) && okEs n (l.map f)) = true
    rw [h x, okEs_map h l]; rfl
theorem wd_bd {n : Nat} {qs : List Qt} (h : B23 n qs) (hs : sound n qs = true) (k : Nat) : Bd 300 (wd n qs k) := ((maxW_bd h (lotPay_ok n _) hs).sub (minW_bd h (lotPay_ok n _) hs)).mono (by decide)
abbrev N_check_chance : List Str := ["value", "outcomes", "total", "index", "part"]
theorem sc_check_chance : FnScope N_check_chance ["value", "outcomes"] (defScope s_check_chance) := ⟨rfl, rfl, rfl, by decide +kernel, rfl, by decide +kernel, by decide +kernel⟩
theorem ok_check_chance (T : Tx K mg) : FnG P w K mg base "check_chance" 5 (sp0 K 2 cChkC) :=
  mkG0 T 60 rfl rfl sc_check_chance (bind2 rfl fun _ _ _ _ _ _ _ _ => rfl) rfl fun cdv A outer s H E hr tk po => by
    refine ⟨_, (jb_cons (js_if (jt_w (jw_or (jt_not (jt_val (je_callB (call_isi_tuple) rfl T.b_isinstance (by decide +kernel) (ja_cons (je_var (pv 0)) (ja_cons (je_bty (T := "tuple") T.b_tuple rfl (by decide +kernel)) ja_nil))))) (jw_or1 (jt_cmp (op_neD' hr.units) (je_callB call_lenD rfl T.b_len (by decide +kernel) (ja_cons (je_var (pv 0)) ja_nil)) (je_var (pv 1)) (nomark _))))) (jb_one js_never) jb_nil)
    (jb_cons (js_set (i := 2) sc_check_chance.nd rfl (by first | exact .inl rfl | exact .inr rfl) (je_tup (ja_cons je_int (ja_cons je_int ja_nil))))
    (jb_cons (js_for po rfl (ji_enumT rfl T.b_enumerate (je_var (pv 0))) (jg_tup rfl (jgs_cons (jg_name (pg_name (i := 3) sc_check_chance.nd rfl (by first | exact .inl rfl | exact .inr rfl))) (jgs_cons (jg_name (pg_name (i := 4) sc_check_chance.nd rfl (by first | exact .inl rfl | exact .inr rfl))) jgs_nil))) (jb_cons (js_if (jt_not (jt_val (je_call0 (ok_is_share T) (hr.mono (by decide)) tk rfl (ja_cons (je_var (pv 4)) ja_nil)))) (jb_one js_never) jb_nil)
    (jb_cons (js_set (i := 2) sc_check_chance.nd rfl (by first | exact .inl rfl | exact .inr rfl) (je_call0 (ok_plus T) (hr.mono (by decide)) tk rfl (ja_cons (je_var (pv 2)) (ja_cons (je_var (pv 4)) ja_nil))))
    (jb_one (js_if (jt_val (je_call0 (ok_is_less T) (hr.mono (by decide)) tk rfl (ja_cons (je_tup (ja_cons je_int (ja_cons je_int ja_nil))) (ja_cons (je_var (pv 2)) ja_nil)))) (jb_one js_never) jb_nil)))))
    (jb_one (js_if (jt_cmp (op_neD' hr.units) (je_var (pv 2)) (je_tup (ja_cons je_int (ja_cons je_int ja_nil))) (nomark _)) (jb_one js_never) jb_nil))))), ?_⟩
    rintro ds q t ⟨n, rs, rfl, ⟨hl, h3, hr, h1⟩, h⟩ -
    refine ⟨rfl, ?_⟩
    refine onF ?_ ?_
    · show (true ^^ decide (((rs.map fr).length : Int) = (n : Int))) = false
      rw [List.length_map, hl]; simp
    show forD _ _ _ (enumD (rs.map fr)) _ _
    rw [enumD_from]
    refine for_inv (fun items ds S => S = [] ∧ ∃ (i : Nat) (l : List Rat) (x : Rat) (p p2 : Option D), items = enF i (l.map fr) ∧ l.foldl (fun t r => t + r) x = 1 ∧ l.length ≤ 3 ∧ Bd (200 - 30 * l.length) x ∧ (∀ r ∈ l, ShareOk r) ∧
      ds = [some (.tup (rs.map fr)), some (.int n), some (fr x), p, p2]) ?_ ?_ _ _ _ ⟨rfl, 0, rs, 0, none, none, rfl, h1, by omega, ⟨Nat.pow_pos (by decide), Nat.one_lt_two_pow (by omega)⟩, hr, rfl⟩
    · rintro d items ds S ⟨rfl, i, l, x, p, p2, e, ef, hl3, hx, hs, rfl⟩ k hk
      cases l with
      | nil => cases e
      | cons r l =>
        injection e with e1 e2
        subst e1 e2
        have hr0 := hs r List.mem_cons_self
        simp only [List.length_cons] at hl3 hx
        have hb : Bd (200 - 30 * l.length) (x + r) := (hx.add hr0.bd).mono (by omega)
        refine ⟨r, rfl, hr0, ?_⟩
        refine ⟨x, r, rfl, hx.mono (by omega), hr0.bd.mono (by decide), ?_⟩
        refine ⟨(1 : Rat), x + r, rfl, int_bd (n := 1) (by decide) (by decide), hb.mono (by omega), ?_⟩
        have le : x + r ≤ 1 := by
          rw [← ef, List.foldl_cons]
          exact add_nn l (x + r) fun s hs' => (hs s (List.mem_cons_of_mem _ hs')).nn
        refine onF (decide_eq_false (Rat.not_lt.mpr le)) ?_
        exact hk _ _ ⟨rfl, i + 1, l, x + r, _, _, rfl, ef, by omega, hb, fun s hs' => hs s (List.mem_cons_of_mem _ hs'), rfl⟩
    · rintro ds S ⟨rfl, i, l, x, p, p2, e, ef, hl3, hx, hs, rfl⟩
      cases l with
      | nil =>
        have e1 : x = 1 := ef
        subst e1
        refine ⟨rfl, rfl, ?_⟩
        exact h
      | cons y l => cases e
abbrev N_is_left : List Str := ["book", "chance", "payoff", "price"]
theorem sc_is_left : FnScope N_is_left ["book", "chance"] (defScope s_is_left) := ⟨rfl, rfl, rfl, by decide +kernel, rfl, by decide +kernel, by decide +kernel⟩
theorem ok_is_left (T : Tx K mg) : FnG P w K mg base "is_left" 6 (sp0 K 2 cIsLeft) :=
  mkG0 T 87 rfl rfl sc_is_left (bind2 rfl fun _ _ _ _ _ _ _ _ => rfl) rfl fun cdv A outer s H E hr tk po => by
    refine ⟨_, (jb_cons (js_expr (je_call0 (ok_check_book T) (hr.mono (by decide)) tk rfl (ja_cons (je_var (pv 0)) ja_nil)))
    (jb_cons (js_expr (je_call0 (ok_check_chance T) (hr.mono (by decide)) tk rfl (ja_cons (je_var (pv 1)) (ja_cons (je_prop0 (ok_Book_outcomes T) (hr.mono (by decide)) (je_var (pv 0))) ja_nil))))
    (jb_one (js_ret (je_cmp op_ltD (je_callB call_lenD rfl T.b_len (by decide +kernel) (ja_cons (je_lc (own := [("payoff", 2), ("price", 3)]) (g := (gTup K 2 (gCons (gName 2) (gCons (gName 3) gNil)))) rfl sc_is_left.nd (ji_tup (je_prop0 (ok_Book_quotes T) (hr.mono (by decide)) (je_var (pv 0)))) (blkOk_by (own := [("payoff", 2), ("price", 3)]) (N := N_is_left) (sc := defScope s_is_left) (by decide +kernel)) (fun _ _ _ _ _ => (pg_tup rfl (pgs_cons (pg_name (i := 2) sc_is_left.nd rfl (by first | exact Or.inl rfl | exact Or.inr rfl)) (pgs_cons (pg_name (i := 3) sc_is_left.nd rfl (by first | exact Or.inl rfl | exact Or.inr rfl)) pgs_nil)))) (gok_tup (gok_cons gok_name (gok_cons gok_name gok_nil))) (fun _ _ _ _ _ => (jts_one (jt_val (je_call0 (ok_is_less T) (hr.mono (by decide)) L2.takes0 rfl (ja_cons (je_call0 (ok_worth_at T) (hr.mono (by decide)) L2.takes0 rfl (ja_cons (je_var (pv 2)) (ja_cons (je_var (pv 1)) ja_nil))) (ja_cons (je_var (pv 3)) ja_nil)))))) (fun _ _ _ _ _ => (je_var (pv 3)))) ja_nil)) je_int (nomark _)))))), ?_⟩
    rintro ds q t ⟨n, qs, rs, rfl, hb, hc, h⟩ -
    have hl := hb.ok.2.2.1
    refine ⟨qs, n, rfl, qs, n, rfl, n, rs, rfl, hc, qs, n, rfl, ?_⟩
    refine lc_filA qs (fun x => decide (worthR x.pay rs < x.price)) qd (fun x => fr x.price) (fun _ _ => rfl) (by omega) (fun x hx A B hAB => ?_) ?_
    · obtain ⟨⟨l1, l2⟩, l3⟩ := hb.ok.2.2.2 x hx
      have b1 : ∀ y ∈ x.pay, y.natAbs < 2 ^ 12 := fun y hy => by have := l2 y hy; omega
      have b2 : ∀ y ∈ rs, Bd 800 y := fun y hy => (hc.sh y hy).bd.mono (by decide)
      have n3 := hc.n3
      exact ⟨x.pay, rs, rfl, by omega, by rw [l1, hc.len], b1, b2, worthR x.pay rs, x.price, rfl, (worthR_bd (by omega) b1 b2).mono (by decide), l3.bd.mono (by decide), hAB⟩
    · show q (.bl (decide (((((qs.filter fun x => decide (worthR x.pay rs < x.price)).map fun x => fr x.price).length : Nat) : Int) < 2)))
      rw [List.length_map]
      rw [show decide ((((qs.filter fun x => decide (worthR x.pay rs < x.price)).length : Nat) : Int) < 2) = decide ((qs.filter fun x => decide (worthR x.pay rs < x.price)).length < 2) from decide_congr (by omega)]
      exact h
abbrev N_lot_at : List Str := ["number", "outcomes", "place"]
theorem sc_lot_at : FnScope N_lot_at ["number", "outcomes"] (defScope s_lot_at) := ⟨rfl, rfl, rfl, by decide +kernel, rfl, by decide +kernel, by decide +kernel⟩
theorem ok_lot_at (T : Tx K mg) : FnG P w K mg base "lot_at" 1 (sp0 K 2 cLotAt) :=
  mkG0 T 88 rfl rfl sc_lot_at (bind2 rfl fun _ _ _ _ _ _ _ _ => rfl) rfl fun cdv A outer s H E hr tk po => by
    refine ⟨_, (jb_one (js_ret (je_callTy call_tupleD rfl T.b_tuple (by decide +kernel) (ja_cons (je_lc (own := [("place", 2)]) (g := (gName 2)) rfl sc_lot_at.nd (ji_rng1 rfl T.b_range (je_var (pv 1))) (blkOk_by (own := [("place", 2)]) (N := N_lot_at) (sc := defScope s_lot_at) (by decide +kernel)) (fun _ _ _ _ _ => (pg_name (i := 2) sc_lot_at.nd rfl (by first | exact Or.inl rfl | exact Or.inr rfl))) gok_name (fun _ _ _ _ _ => (jts_one (jt_cmp (op_eqD' hr.units) (je_op op_andD (je_op op_shrD (je_var (pv 0)) (je_var (pv 2))) je_int) je_int (nomark _)))) (fun _ _ _ _ _ => (je_var (pv 2)))) ja_nil)))), ?_⟩
    rintro ds q t ⟨n, k, rfl, hn, h⟩ -
    refine ⟨⟨by omega, by omega⟩, ?_⟩
    show lcD _ _ _ _ (rngD 0 n) _ _ _
    rw [rngD_map]
    refine lc_filA (List.range n) (fun p => decide (Builtin.bitAnd ((k : Int) / 2 ^ p) 1 = 1)) (fun i : Nat => D.int i) (fun i : Nat => D.int i) (fun _ _ => rfl) (by simp; omega) (fun p hp A B hAB => ?_) ?_
    · refine ⟨by omega, ?_⟩
      show mB (false ^^ decide (Builtin.bitAnd ((k : Int) / 2 ^ p) 1 = 1)) _ _
      rw [Bool.false_xor]
      exact hAB
    · unfold lotI lotN inz at h
      rw [List.map_map] at h
      exact h
abbrev N_check_listed : List Str := ["book"]
theorem sc_check_listed : FnScope N_check_listed ["book"] (defScope s_check_listed) := ⟨rfl, rfl, rfl, by decide +kernel, rfl, by decide +kernel, by decide +kernel⟩
theorem ok_check_listed (T : Tx K mg) : FnG P w K mg base "check_listed" 9 (sp0 K 1 cChkL) :=
  mkG0 T 69 rfl rfl sc_check_listed (bind1 rfl fun _ _ _ _ _ _ _ => rfl) rfl fun cdv A outer s H E hr tk po => by
    refine ⟨_, (jb_cons (js_expr (je_call0 (ok_check_sound T) (hr.mono (by decide)) tk rfl (ja_cons (je_var (pv 0)) ja_nil)))
    (jb_one (js_if (jt_cmp op_gtD (je_prop0 (ok_Book_outcomes T) (hr.mono (by decide)) (je_var (pv 0))) (je_gint T.MOST_LISTED rfl) (nomark _)) (jb_one js_never) jb_nil))), ?_⟩
    rintro ds q t ⟨n, qs, rfl, hb, hs, h⟩ -
    refine ⟨n, qs, rfl, hb, fun _ => ⟨qs, n, rfl, ?_⟩, fun z => by rw [hs] at z; cases z⟩
    exact onF (by have := hb.n3; simp; omega) h
abbrev N_widest_lot : List Str := ["book", "widths", "number", "payoff"]
theorem sc_widest_lot : FnScope N_widest_lot ["book"] (defScope s_widest_lot) := ⟨rfl, rfl, rfl, by decide +kernel, rfl, by decide +kernel, by decide +kernel⟩
theorem ok_widest_lot (T : Tx K mg) : FnG P w K mg base "widest_lot" 10 (sp0 K 1 cWide) :=
  mkG0 T 89 rfl rfl sc_widest_lot (bind1 rfl fun _ _ _ _ _ _ _ => rfl) rfl fun cdv A outer s H E hr tk po => by
    refine ⟨_, (jb_cons (js_expr (je_call0 (ok_check_book T) (hr.mono (by decide)) tk rfl (ja_cons (je_var (pv 0)) ja_nil)))
    (jb_cons (js_expr (je_call0 (ok_check_listed T) (hr.mono (by decide)) tk rfl (ja_cons (je_var (pv 0)) ja_nil)))
    (jb_cons (js_set (i := 1) sc_widest_lot.nd rfl (by first | exact .inl rfl | exact .inr rfl) (je_lstO ja_nil))
    (jb_cons (js_for po rfl (ji_rng1 rfl T.b_range (je_op op_shlD je_int (je_prop0 (ok_Book_outcomes T) (hr.mono (by decide)) (je_var (pv 0))))) (jg_name (pg_name (i := 2) sc_widest_lot.nd rfl (by first | exact .inl rfl | exact .inr rfl))) (jb_cons (js_set (i := 3) sc_widest_lot.nd rfl (by first | exact .inl rfl | exact .inr rfl) (je_call0 (ok_lot_payoff T) (hr.mono (by decide)) tk rfl (ja_cons (je_call0 (ok_lot_at T) (hr.mono (by decide)) tk rfl (ja_cons (je_var (pv 2)) (ja_cons (je_prop0 (ok_Book_outcomes T) (hr.mono (by decide)) (je_var (pv 0))) ja_nil))) (ja_cons (je_prop0 (ok_Book_outcomes T) (hr.mono (by decide)) (je_var (pv 0))) ja_nil))))
    (jb_one (js_expr (je_app (je_var (pv 1)) (je_call0 (ok_minus T) (hr.mono (by decide)) tk rfl (ja_cons (je_call0 (ok_greatest_by T) (hr.mono (by decide)) tk rfl (ja_cons (je_var (pv 0)) (ja_cons (je_var (pv 3)) ja_nil))) (ja_cons (je_call0 (ok_least_by T) (hr.mono (by decide)) tk rfl (ja_cons (je_var (pv 0)) (ja_cons (je_var (pv 3)) ja_nil))) ja_nil))))))))
    (jb_fz 1 (jb_one (js_ret (je_call0 (ok_lot_at T) (hr.mono (by decide)) tk rfl (ja_cons (je_indexD (room65 hr) (je_var (pv 1)) (je_call0 (ok_greatest_in T) (hr.mono (by decide)) tk rfl (ja_cons (je_var (pv 1)) ja_nil))) (ja_cons (je_prop0 (ok_Book_outcomes T) (hr.mono (by decide)) (je_var (pv 0))) ja_nil)))))))))), ?_⟩
    rintro ds q t ⟨n, qs, k, rfl, hb, hs, hk, h1, h2, h⟩ -
    have n3 := hb.n3
    have p8 : 2 ^ n ≤ 8 := Nat.pow_le_pow_right (by decide) n3 (n := 2)
    have hp : ((1 : Int) * 2 ^ (n : Int).toNat) = ((2 ^ n : Nat) : Int) := by simp
    refine ⟨qs, n, rfl, n, qs, rfl, hb, hs, qs, n, rfl, ⟨by omega, by omega, by decide⟩, ⟨by rw [hp]; omega, by rw [hp]; omega⟩, ?_⟩
    show forD _ _ _ (rngD 0 ((1 : Int) * 2 ^ (n : Int).toNat)) _ _
    rw [hp, rngD_map, List.range_eq_range']
    refine for_inv (fun items ds S => ∃ (i m : Nat) (p2 p3 : Option D), items = (List.range' i m).map (fun i : Nat => D.int i) ∧ i + m = 2 ^ n ∧ S = [.lst (tb i fun j => fr (wd n qs j))] ∧
      ds = [some (bkd n qs), some (.loc 0), p2, p3]) ?_ ?_ _ _ _ ⟨0, 2 ^ n, none, none, rfl, by omega, rfl, rfl⟩
    · rintro d items ds S ⟨i, m, p2, p3, e, hm, rfl, rfl⟩ K hK
      cases m with
      | zero => cases e
      | succ m =>
        rw [List.range'_succ, List.map_cons] at e
        injection e with e1 e2
        subst e1 e2
        have po := lotPay_ok n (lotI n i)
        refine ⟨qs, n, rfl, n, i, rfl, n3, qs, n, rfl, lotI n i, n, rfl, by omega, ?_⟩
        refine ⟨n, qs, lotPay n (lotI n i), rfl, hb, po, hs, n, qs, lotPay n (lotI n i), rfl, hb, po, hs, maxW n qs (lotPay n (lotI n i)), minW n qs (lotPay n (lotI n i)), rfl, (maxW_bd hb po hs).mono (by decide), (minW_bd hb po hs).mono (by decide), ?_⟩
        refine ⟨by rw [tb_len]; omega, hK _ _ ⟨i + 1, m, _, _, rfl, by omega, ?_, rfl⟩⟩
        show [Cell.lst ((tb i fun j => fr (wd n qs j)) ++ [fr (wd n qs i)])] = _
        rw [tb_add]
        rfl
    · rintro ds S ⟨i, m, p2, p3, e, hm, rfl, rfl⟩
      cases m with
      | zero =>
        have e2 : i = 2 ^ n := by omega
        subst e2
        refine ⟨noLoc_map (fun _ => rfl) _, ?_⟩
        obtain ⟨c, hc⟩ : ∃ c, 2 ^ n = c + 1 := ⟨2 ^ n - 1, by omega⟩
        have el : (tb (2 ^ n) fun j => fr (wd n qs j)) = ((List.range (2 ^ n)).map (wd n qs)).map fr := by rw [List.map_map]; rfl
        have ec : (List.range (2 ^ n)).map (wd n qs) = wd n qs 0 :: (List.range' 1 c).map (wd n qs) := by rw [hc, List.range_eq_range', List.range'_succ, List.map_cons]
        obtain ⟨f1, f2⟩ := fold_gmax ((List.range' 1 c).map (wd n qs)) (wd n qs 0)
        rw [← ec] at f1 f2
        have eg : ((List.range' 1 c).map (wd n qs)).foldl gmax (wd n qs 0) = wd n qs k := by
          refine Rat.le_antisymm ?_ (f1 _ (List.mem_map.mpr ⟨k, List.mem_range.mpr hk, rfl⟩))
          obtain ⟨j, hj, ej⟩ := List.mem_map.mp f2
          rw [← ej]
          exact h1 j (List.mem_range.mp hj)
        refine ⟨wd n qs 0, (List.range' 1 c).map (wd n qs), by rw [el, ec], fun x hx => ?_, ?_⟩
        · rw [← ec] at hx
          obtain ⟨j, _, rfl⟩ := List.mem_map.mp hx
          exact (wd_bd hb hs j).mono (by decide)
        · rw [eg]
          refine ⟨rfl, okEs_map (fun _ => rfl) _, k, fr (wd n qs k), tb_get _ hk, by rw [eqb_fr]; simp, fun j z hj hz => ?_, qs, n, rfl, n, k, rfl, n3, h⟩
          rw [tb_get _ (by omega)] at hz
          cases hz
          rw [eqb_fr]
          exact decide_eq_false fun z => by
            have := h2 j hj
            rw [z] at this
            exact Rat.lt_irrefl this
      | succ m => cases e
end
end SC
end

section
set_option maxHeartbeats 4000000
namespace SC
open PySem L2 DL
section
variable {P : Program} {w : World} {K : PySem.W.Frag} {mg : Str → Option Value} {base : Heap}

abbrev cDet0 : PC := fun ds q _ => ds = [.lst []] ∧ q (.int 1)
abbrev cDet1 : PC := fun ds q _ => ∃ a : Int, ds = [.lst [rowd [a]]] ∧ a.natAbs < 2 ^ 40 ∧ q (.int a)
abbrev cDet2 : PC := fun ds q _ => ∃ a b c d : Int, ds = [.lst [rowd [a, b], rowd [c, d]]] ∧ a.natAbs < 2 ^ 40 ∧ b.natAbs < 2 ^ 40 ∧ c.natAbs < 2 ^ 40 ∧ d.natAbs < 2 ^ 40 ∧ q (.int (a * d - b * c))
abbrev cDet01 : PC := fun ds q x => cDet0 ds q x ∨ cDet1 ds q x
abbrev cDet12 : PC := fun ds q x => cDet1 ds q x ∨ cDet2 ds q x
abbrev N__law_det : List Str := ["_law_table", "_law_found", "_law_sign", "_law_k", "_law_row"]
theorem sc__law_det : FnScope N__law_det ["_law_table"] (defScope s__law_det) := ⟨rfl, rfl, rfl, by decide +kernel, rfl, by decide +kernel, by decide +kernel⟩
theorem ok__law_det0 (T : Tx K mg) : FnG P w K mg base "_law_det" 1 (sp0 K 1 cDet0) :=
  mkG0 T 124 rfl rfl sc__law_det (bind1 rfl fun _ _ _ _ _ _ _ => rfl) rfl fun cdv A outer s H E hr tk po => by
    refine ⟨_, (jb_cons (js_if (jt_cmp (op_eqD' hr.units) (je_callB call_lenD rfl T.b_len (by decide +kernel) (ja_cons (je_var (pv 0)) ja_nil)) je_int (nomark _)) (jb_one (js_ret je_int)) jb_nil)
    jb_never), ?_⟩
    rintro ds q t ⟨rfl, h⟩ -
    exact h
theorem ok__law_det1 (T : Tx K mg) : FnG P w K mg base "_law_det" 2 (sp0 K 1 cDet01) :=
  mkG0 T 124 rfl rfl sc__law_det (bind1 rfl fun _ _ _ _ _ _ _ => rfl) rfl fun cdv A outer s H E hr tk po => by
    refine ⟨_, (jb_cons (js_if (jt_cmp (op_eqD' hr.units) (je_callB call_lenD rfl T.b_len (by decide +kernel) (ja_cons (je_var (pv 0)) ja_nil)) je_int (nomark _)) (jb_one (js_ret je_int)) jb_nil)
    (jb_cons (js_asgs (n := 2) rfl (ja_cons je_int (ja_cons je_int ja_nil)) (jgs_cons (jg_name (pg_name (i := 1) sc__law_det.nd rfl (by first | exact .inl rfl | exact .inr rfl))) (jgs_cons (jg_name (pg_name (i := 2) sc__law_det.nd rfl (by first | exact .inl rfl | exact .inr rfl))) jgs_nil)))
    (jb_cons (js_for po rfl (ji_rng1 rfl T.b_range (je_callB call_lenD rfl T.b_len (by decide +kernel) (ja_cons (je_var (pv 0)) ja_nil))) (jg_name (pg_name (i := 3) sc__law_det.nd rfl (by first | exact .inl rfl | exact .inr rfl))) (jb_cons (js_if (jt_cmp (op_neD' hr.units) (je_ix (je_ix (je_var (pv 0)) je_int) (je_var (pv 3))) je_int (nomark _)) (jb_one (js_set (i := 1) sc__law_det.nd rfl (by first | exact .inl rfl | exact .inr rfl) (je_op op_addD (je_var (pv 1)) (je_op op_mulD (je_op op_mulD (je_var (pv 2)) (je_ix (je_ix (je_var (pv 0)) je_int) (je_var (pv 3)))) (je_call0 (ok__law_det0 T) (hr.mono (by decide)) tk rfl (ja_cons (je_lc (own := [("_law_row", 4)]) (g := (gName 4)) rfl sc__law_det.nd (ji_lst (je_sl (je_var (pv 0)) (jp_some je_int) jp_none)) (blkOk_by (own := [("_law_row", 4)]) (N := N__law_det) (sc := defScope s__law_det) (by decide +kernel)) (fun _ _ _ _ _ => (pg_name (i := 4) sc__law_det.nd rfl (by first | exact Or.inl rfl | exact Or.inr rfl))) gok_name (fun _ _ _ _ _ => jts_nil) (fun _ _ _ _ _ => (je_op op_addD (je_sl (je_var (pv 4)) jp_none (jp_some (je_var (pv 3)))) (je_sl (je_var (pv 4)) (jp_some (je_op op_addD (je_var (pv 3)) je_int)) jp_none)))) ja_nil)))))) jb_nil)
    (jb_one (js_set (i := 2) sc__law_det.nd rfl (by first | exact .inl rfl | exact .inr rfl) (je_op op_subD je_int (je_var (pv 2)))))))
    (jb_one (js_ret (je_var (pv 1))))))), ?_⟩
    rintro ds q t (⟨rfl, h⟩ | ⟨a, rfl, ha, h⟩) -
    · exact h
    · skip
      refine ⟨⟨by simp, by simp⟩, ?_⟩
      refine ⟨_, rfl, _, rfl, ?_⟩
      refine onB (fun z => ?_) fun z => ?_
      · refine ⟨_, rfl, _, rfl, mulW' (a := 2) (b := 40) (by decide) ha, rfl, mulW' (a := 42) (b := 2) ?_ (by decide), ?_⟩
        · rw [Int.one_mul]; omega
        show q (.int (0 + 1 * a * 1))
        rw [show (0 + 1 * a * 1 : Int) = a by omega]
        exact h
      · have e : a = 0 := by simpa using z
        rw [e] at h
        exact h
theorem ok__law_det (T : Tx K mg) : FnG P w K mg base "_law_det" 3 (sp0 K 1 cDet12) :=
  mkG0 T 124 rfl rfl sc__law_det (bind1 rfl fun _ _ _ _ _ _ _ => rfl) rfl fun cdv A outer s H E hr tk po => by
    refine ⟨_, (jb_cons (js_if (jt_cmp (op_eqD' hr.units) (je_callB call_lenD rfl T.b_len (by decide +kernel) (ja_cons (je_var (pv 0)) ja_nil)) je_int (nomark _)) (jb_one (js_ret je_int)) jb_nil)
    (jb_cons (js_asgs (n := 2) rfl (ja_cons je_int (ja_cons je_int ja_nil)) (jgs_cons (jg_name (pg_name (i := 1) sc__law_det.nd rfl (by first | exact .inl rfl | exact .inr rfl))) (jgs_cons (jg_name (pg_name (i := 2) sc__law_det.nd rfl (by first | exact .inl rfl | exact .inr rfl))) jgs_nil)))
    (jb_cons (js_for po rfl (ji_rng1 rfl T.b_range (je_callB call_lenD rfl T.b_len (by decide +kernel) (ja_cons (je_var (pv 0)) ja_nil))) (jg_name (pg_name (i := 3) sc__law_det.nd rfl (by first | exact .inl rfl | exact .inr rfl))) (jb_cons (js_if (jt_cmp (op_neD' hr.units) (je_ix (je_ix (je_var (pv 0)) je_int) (je_var (pv 3))) je_int (nomark _)) (jb_one (js_set (i := 1) sc__law_det.nd rfl (by first | exact .inl rfl | exact .inr rfl) (je_op op_addD (je_var (pv 1)) (je_op op_mulD (je_op op_mulD (je_var (pv 2)) (je_ix (je_ix (je_var (pv 0)) je_int) (je_var (pv 3)))) (je_call0 (ok__law_det1 T) (hr.mono (by decide)) tk rfl (ja_cons (je_lc (own := [("_law_row", 4)]) (g := (gName 4)) rfl sc__law_det.nd (ji_lst (je_sl (je_var (pv 0)) (jp_some je_int) jp_none)) (blkOk_by (own := [("_law_row", 4)]) (N := N__law_det) (sc := defScope s__law_det) (by decide +kernel)) (fun _ _ _ _ _ => (pg_name (i := 4) sc__law_det.nd rfl (by first | exact Or.inl rfl | exact Or.inr rfl))) gok_name (fun _ _ _ _ _ => jts_nil) (fun _ _ _ _ _ => (je_op op_addD (je_sl (je_var (pv 4)) jp_none (jp_some (je_var (pv 3)))) (je_sl (je_var (pv 4)) (jp_some (je_op op_addD (je_var (pv 3)) je_int)) jp_none)))) ja_nil)))))) jb_nil)
    (jb_one (js_set (i := 2) sc__law_det.nd rfl (by first | exact .inl rfl | exact .inr rfl) (je_op op_subD je_int (je_var (pv 2)))))))
    (jb_one (js_ret (je_var (pv 1))))))), ?_⟩
    rintro ds q t (⟨a, rfl, ha, h⟩ | ⟨a, b, c, d, rfl, ha, hb, hc, hd, h⟩) -
    · skip
      refine ⟨⟨by simp, by simp⟩, ?_⟩
      refine ⟨_, rfl, _, rfl, ?_⟩
      refine onB (fun z => ?_) fun z => ?_
      · refine ⟨_, rfl, _, rfl, mulW' (a := 2) (b := 40) (by decide) ha, .inl ⟨rfl, mulW' (a := 42) (b := 2) ?_ (by decide), ?_⟩⟩
        · rw [Int.one_mul]; omega
        show q (.int (0 + 1 * a * 1))
        rw [show (0 + 1 * a * 1 : Int) = a by omega]
        exact h
      · have e : a = 0 := by simpa using z
        rw [e] at h
        exact h
    · skip
      refine ⟨⟨by simp, by simp⟩, ?_⟩
      have second : ∀ f : Int, f = a * d → (forD (rgName 3)
          (rSeq
            (rIfS (rTest (rOp (oEq true) (rOp oIx (rOp oIx (rVar 0) (rC (D.int 0))) (rVar 3)) (rC (D.int 0))))
              (rAsg
                (rOp oAdd (rVar 1)
                  (rOp oMul (rOp oMul (rVar 2) (rOp oIx (rOp oIx (rVar 0) (rC (D.int 0))) (rVar 3)))
                    (rCall0 1 cDet01
                      (rCons
                        (rLc (rLstI (rSl (rVar 0) (rPS (rC (D.int 1))) rPN)) (rgName 4)
                          [4] rYes
                          (rOp oAdd (rSl (rVar 4) rPN (rPS (rVar 3)))
                            (rSl (rVar 4) (rPS (rOp oAdd (rVar 3) (rC (D.int 1)))) rPN)))
                        rNil))))
                (rgName 1))
              rNext)
            (rAsg (rOp oSub (rC (D.int 0)) (rVar 2)) (rgName 2))) { out0 q t with nx := rRet (rVar 1) (out0 q t) } [.int 1] [some (D.lst [rowd [a, b], rowd [c, d]]), some (.int f), some (.int (0 - 1)), some (.int 0), none] []) := by
        intro f hf
        refine ⟨_, rfl, _, rfl, ?_⟩
        refine onB (fun z => ?_) fun z => ?_
        · refine ⟨_, rfl, _, rfl, mulW' (a := 2) (b := 40) (by decide) hb, (show (1 : Nat) + 0 ≤ 100000 by decide), rfl, (show (0 : Nat) < 100000 by decide), .inr ⟨c, rfl, hc, mulW' (a := 42) (b := 40) ?_ hc, ?_⟩⟩
          · rw [Int.natAbs_mul]; simp; omega
          show q (.int (f + (0 - 1) * b * c))
          rw [hf, show (a * d + (0 - 1) * b * c : Int) = a * d - b * c by grind]
          exact h
        · have e : b = 0 := by simpa using z
          rw [e, Int.zero_mul, Int.sub_zero, ← hf] at h
          exact h
      refine ⟨_, rfl, _, rfl, ?_⟩
      refine onB (fun z => ?_) fun z => ?_
      · refine ⟨_, rfl, _, rfl, mulW' (a := 2) (b := 40) (by decide) ha, (show (0 : Nat) + 1 ≤ 100000 by decide), rfl, (show (0 : Nat) < 100000 by decide), .inr ⟨d, rfl, hd, mulW' (a := 42) (b := 40) ?_ hd, ?_⟩⟩
        · rw [Int.natAbs_mul]; simp; omega
        exact second (0 + 1 * a * d) (by grind)
      · have e : a = 0 := by simpa using z
        exact second 0 (by rw [e]; simp)
end
end SC
end

section
set_option maxHeartbeats 4000000
namespace SC
open PySem L2 DL
section
variable {P : Program} {w : World} {K : PySem.W.Frag} {mg : Str → Option Value} {base : Heap}

abbrev lotD (l : List Nat) : D := .lst (l.map fun k : Nat => .int k)
def stL (l : List Nat) : Nat := match l.getLast? with
  | none => 0
  | some k => k + 1
def extL (size : Nat) (l : List Nat) : List (List Nat) := (List.range (size - stL l)).map fun i => l ++ [stL l + i]
def lotsF (size : Nat) : Nat → List (List Nat)
  | 0 => [[]]
  | t + 1 => (lotsF size t).flatMap (extL size)
theorem extL_len (size : Nat) (l : List Nat) : (extL size l).length ≤ size := by unfold extL; simp
theorem flat_len (size : Nat) : ∀ ls : List (List Nat), (ls.flatMap (extL size)).length ≤ ls.length * size
  | [] => by simp
  | l :: ls => by
    rw [List.flatMap_cons, List.length_append, List.length_cons, Nat.succ_mul]
    have := flat_len size ls
    have := extL_len size l
    omega
theorem lotsF_len (size : Nat) : ∀ t, (lotsF size t).length ≤ size ^ t
  | 0 => by simp [lotsF]
  | t + 1 => by
    rw [Nat.pow_succ]
    exact Nat.le_trans (flat_len size _) (Nat.mul_le_mul_right _ (lotsF_len size t))
theorem mem_ext {size : Nat} {l m : List Nat} : m ∈ extL size l ↔ ∃ k, stL l ≤ k ∧ k < size ∧ m = l ++ [k] := by
  unfold extL
  rw [List.mem_map]
  constructor
  · rintro ⟨i, hi, rfl⟩
    have := List.mem_range.mp hi
    exact ⟨stL l + i, by omega, by omega, rfl⟩
  · rintro ⟨k, h1, h2, rfl⟩
    exact ⟨k - stL l, List.mem_range.mpr (by omega), by rw [show stL l + (k - stL l) = k by omega]⟩
theorem mem_lots1 {size : Nat} {l : List Nat} : l ∈ lotsF size 1 ↔ ∃ k, k < size ∧ l = [k] := by
  show l ∈ [[]].flatMap (extL size) ↔ _
  rw [List.flatMap_cons, List.flatMap_nil, List.append_nil, mem_ext]
  constructor
  · rintro ⟨k, _, h, rfl⟩; exact ⟨k, h, rfl⟩
  · rintro ⟨k, h, rfl⟩; exact ⟨k, Nat.zero_le _, h, rfl⟩
theorem mem_lots2 {size : Nat} {l : List Nat} : l ∈ lotsF size 2 ↔ ∃ i k, i < k ∧ k < size ∧ l = [i, k] := by
  show l ∈ (lotsF size 1).flatMap (extL size) ↔ _
  rw [List.mem_flatMap]
  constructor
  · rintro ⟨m, hm, h⟩
    obtain ⟨i, hi, rfl⟩ := mem_lots1.mp hm
    obtain ⟨k, h1, h2, rfl⟩ := mem_ext.mp h
    exact ⟨i, k, h1, h2, rfl⟩
  · rintro ⟨i, k, h1, h2, rfl⟩
    exact ⟨[i], mem_lots1.mpr ⟨i, by omega, rfl⟩, mem_ext.mpr ⟨k, h1, h2, rfl⟩⟩
theorem lots_lot {n size : Nat} (h : n = 2 ∨ n = 3) {l : List Nat} : l ∈ lotsF size (n - 1) ↔ MA.Lot n size l := by
  rcases h with rfl | rfl
  · rw [show 2 - 1 = 1 from rfl, mem_lots1]
    constructor
    · rintro ⟨k, hk, rfl⟩
      exact ⟨rfl, fun j hj => by rw [List.mem_singleton.mp hj]; exact hk, fun i j e => by cases e⟩
    · rintro ⟨h1, h2, _⟩
      match l, h1 with
      | [k], _ => exact ⟨k, h2 k (by simp), rfl⟩
  · rw [show 3 - 1 = 2 from rfl, mem_lots2]
    constructor
    · rintro ⟨i, k, h1, h2, rfl⟩
      refine ⟨rfl, fun j hj => ?_, fun a b e => ?_⟩
      · rcases List.mem_cons.mp hj with rfl | hj
        · omega
        · rw [List.mem_singleton.mp hj]; exact h2
      · injection e with e1 e2
        injection e2 with e2 _
        omega
    · rintro ⟨h1, h2, h3⟩
      match l, h1 with
      | [i, k], _ => exact ⟨i, k, h3 i k rfl, h2 k (by simp), rfl⟩
theorem rngD2 (a b : Nat) : rngD (a : Int) (b : Int) = (List.range (b - a)).map fun i : Nat => D.int ((a + i : Nat) : Int) := by
  unfold rngD
  rw [show ((b : Int) - (a : Int)).toNat = b - a by omega]
  rfl
abbrev cLots : PC := fun ds q _ => ∃ size many : Nat, ds = [.int size, .int many] ∧ size ≤ 40 ∧ many ≤ 2 ∧ q (.lst ((lotsF size many).map lotD))
abbrev N__law_lots : List Str := ["_law_size", "_law_many", "_law_found", "_law_turn", "_law_longer", "_law_each", "_law_k"]
theorem sc__law_lots : FnScope N__law_lots ["_law_size", "_law_many"] (defScope s__law_lots) := ⟨rfl, rfl, rfl, by decide +kernel, rfl, by decide +kernel, by decide +kernel⟩
theorem ok__law_lots (T : Tx K mg) : FnG P w K mg base "_law_lots" 1 (sp0 K 2 cLots) :=
  mkG0 T 125 rfl rfl sc__law_lots (bind2 rfl fun _ _ _ _ _ _ _ _ => rfl) rfl fun cdv A outer s H E hr tk po => by
    refine ⟨_, (jb_cons (js_set (i := 2) sc__law_lots.nd rfl (by first | exact .inl rfl | exact .inr rfl) (je_lst (ja_cons (je_lst ja_nil) ja_nil)))
    (jb_cons (js_for po rfl (ji_rng1 rfl T.b_range (je_var (pv 1))) (jg_name (pg_name (i := 3) sc__law_lots.nd rfl (by first | exact .inl rfl | exact .inr rfl))) (jb_cons (js_set (i := 4) sc__law_lots.nd rfl (by first | exact .inl rfl | exact .inr rfl) (je_lst ja_nil))
    (jb_cons (js_for po rfl (ji_lst (je_var (pv 2))) (jg_name (pg_name (i := 5) sc__law_lots.nd rfl (by first | exact .inl rfl | exact .inr rfl))) (jb_one (js_set (i := 4) sc__law_lots.nd rfl (by first | exact .inl rfl | exact .inr rfl) (je_op op_addD (je_var (pv 4)) (je_lc (own := [("_law_k", 6)]) (g := (gName 6)) rfl sc__law_lots.nd (ji_rng2 rfl T.b_range (je_if (jt_cmp (op_neD' hr.units) (je_var (pv 5)) (je_lst ja_nil) (nomark _)) (je_op op_addD (je_ix (je_var (pv 5)) (je_un un_negD je_int)) je_int) je_int) (je_var (pv 0))) (blkOk_by (own := [("_law_k", 6)]) (N := N__law_lots) (sc := defScope s__law_lots) (by decide +kernel)) (fun _ _ _ _ _ => (pg_name (i := 6) sc__law_lots.nd rfl (by first | exact Or.inl rfl | exact Or.inr rfl))) gok_name (fun _ _ _ _ _ => jts_nil) (fun _ _ _ _ _ => (je_op op_addD (je_var (pv 5)) (je_lst (ja_cons (je_var (pv 6)) ja_nil)))))))))
    (jb_one (js_set (i := 2) sc__law_lots.nd rfl (by first | exact .inl rfl | exact .inr rfl) (je_var (pv 4)))))))
    (jb_one (js_ret (je_var (pv 2)))))), ?_⟩
    rintro ds q t ⟨size, many, rfl, hs, hm, h⟩ -
    refine ⟨⟨by omega, by omega⟩, ?_⟩
    show forD _ _ _ (rngD 0 many) _ _
    rw [rngD_map, List.range_eq_range']
    refine for_inv (fun items ds S => S = [] ∧ ∃ (i m : Nat) (p3 p4 p5 p6 : Option D), items = (List.range' i m).map (fun i : Nat => D.int i) ∧ i + m = many ∧
      ds = [some (.int size), some (.int many), some (.lst ((lotsF size i).map lotD)), p3, p4, p5, p6]) ?_ ?_ _ _ _ ⟨rfl, 0, many, none, none, none, none, rfl, by omega, rfl⟩
    · rintro d items ds S ⟨rfl, i, m, p3, p4, p5, p6, e, hi, rfl⟩ k hk
      cases m with
      | zero => cases e
      | succ m =>
        rw [List.range'_succ, List.map_cons] at e
        injection e with e1 e2
        subst e1 e2
        have ll : (lotsF size i).length ≤ 40 := by
          have h1 := lotsF_len size i
          have h2 : size ^ i ≤ size ^ 1 ∨ i = 0 := by
            rcases Nat.lt_or_ge 0 i with z | z
            · rw [show i = 1 by omega]; exact .inl (Nat.le_refl _)
            · exact .inr (by omega)
          rcases h2 with h2 | h2
          · rw [Nat.pow_one] at h2; omega
          · subst h2; rw [Nat.pow_zero] at h1; omega
        refine for_inv (fun items ds S => S = [] ∧ ∃ (done l : List (List Nat)) (p5 p6 : Option D), items = l.map lotD ∧ done ++ l = lotsF size i ∧
          ds = [some (.int size), some (.int many), some (.lst ((lotsF size i).map lotD)), some (.int i), some (.lst ((done.flatMap (extL size)).map lotD)), p5, p6]) ?_ ?_ _ _ _ ⟨rfl, [], lotsF size i, p5, p6, rfl, rfl, rfl⟩
        · rintro d items ds S ⟨rfl, done, l, p5, p6, e, ed, rfl⟩ k hk
          cases l with
          | nil => cases e
          | cons a l =>
            rw [List.map_cons] at e
            injection e with e1 e2
            subst e1 e2
            have dl : done.length + (l.length + 1) ≤ 40 := by
              have : (done ++ a :: l).length = (lotsF size i).length := by rw [ed]
              rw [List.length_append, List.length_cons] at this
              omega
            have fl := flat_len size done
            have fl2 : done.length * size ≤ 40 * 40 := Nat.mul_le_mul (by omega) hs
            have ha : a ∈ lotsF size i := by rw [← ed]; simp
            have hi2 : i = 0 ∨ i = 1 := by omega
            have la : a.length ≤ 1 ∧ ∀ c ∈ a, c < size := by
              rcases hi2 with rfl | rfl
              · rw [List.mem_singleton.mp ha]; simp
              · obtain ⟨c, hc, rfl⟩ := mem_lots1.mp ha
                simp [hc]
            have fin : ∀ (st : Nat), st = stL a → lcD (rgName 6) rYes (rOp oAdd (rVar 5) (rLst (rCons (rVar 6) rNil))) [some (.int size), some (.int many), some (.lst ((lotsF size i).map lotD)), some (.int i), some (.lst ((done.flatMap (extL size)).map lotD)), some (lotD a), none] (rngD (st : Int) (size : Int)) [] []
                fun acc S2 => ((done.flatMap (extL size)).map lotD).length + acc.length ≤ 100000 ∧ k [some (.int size), some (.int many), some (.lst ((lotsF size i).map lotD)), some (.int i), some (.lst ((done.flatMap (extL size)).map lotD ++ acc)), some (lotD a), p6] S2 := by
              intro st est
              rw [rngD2]
              refine lc_mapA (List.range (size - st)) (fun i : Nat => D.int ((st + i : Nat) : Int)) (fun i => lotD (a ++ [st + i])) (fun _ _ => rfl) (by simp; omega) (fun j hj K hK => ?_) ?_
              · refine ⟨?_, ?_⟩
                · show (a.map fun k : Nat => D.int k).length + 1 ≤ 100000
                  rw [List.length_map]; omega
                · have : a.map (fun k : Nat => D.int k) ++ [D.int ((st + j : Nat) : Int)] = (a ++ [st + j]).map fun k : Nat => D.int k := by simp
                  show K (.lst (a.map (fun k : Nat => D.int k) ++ [D.int ((st + j : Nat) : Int)])) _
                  rw [this]
                  exact hK
              · have ee : (List.range (size - st)).map (fun i => lotD (a ++ [st + i])) = (extL size a).map lotD := by
                  unfold extL
                  rw [List.map_map, est]
                  rfl
                rw [ee]
                refine ⟨?_, ?_⟩
                · have := extL_len size a
                  rw [List.length_map, List.length_map]
                  omega
                · rw [← List.map_append]
                  have : done.flatMap (extL size) ++ extL size a = (done ++ [a]).flatMap (extL size) := by simp
                  rw [this]
                  exact hk _ _ ⟨rfl, done ++ [a], l, _, _, rfl, by simp [ed], rfl⟩
            refine ⟨okEs_map (fun _ => rfl) _, rfl, ?_⟩
            rcases List.eq_nil_or_concat a with rfl | ⟨b, c, ea⟩
            · exact ⟨⟨by decide, by decide, by omega, by omega⟩, fin 0 rfl⟩
            · rw [List.concat_eq_append] at ea
              subst ea
              have hc := la.2 c (by simp)
              refine onT ?_ ?_
              · show (true ^^ eqbs ((b ++ [c]).map fun k : Nat => D.int k) []) = true
                cases b <;> rfl
              · have hat : atI ((b ++ [c]).map fun k : Nat => D.int k) (-1) = some (.int c) := by
                  unfold atI
                  rw [List.length_map, List.length_append, show ixN (b.length + [c].length) (-1) = some b.length from by
                    show ixN (b.length + 1) (-1) = some b.length
                    unfold ixN
                    rw [if_neg (by omega), if_pos (by omega)]
                    congr 1
                    omega]
                  simp
                exact ⟨_, hat, ⟨by omega, by omega, by omega, by omega⟩, fin (c + 1) (by simp [stL])⟩
        · rintro ds S ⟨rfl, done, l, p5, p6, e, ed, rfl⟩
          cases l with
          | nil =>
            rw [List.append_nil] at ed
            subst ed
            exact hk _ _ ⟨rfl, i + 1, m, _, _, _, _, rfl, by omega, rfl⟩
          | cons y l => cases e
    · rintro ds S ⟨rfl, i, m, p3, p4, p5, p6, e, hi, rfl⟩
      cases m with
      | zero =>
        rw [show i = many by omega]
        exact h
      | succ m => cases e
end
end SC
end

section
set_option maxHeartbeats 4000000
namespace SC
open PySem L2 DL
section
variable {P : Program} {w : World} {K : PySem.W.Frag} {mg : Str → Option Value} {base : Heap}

abbrev crnD (c : List Rat) : D := .tup (c.map fr)
def CrOk (n : Nat) (c : List Rat) : Prop := c.length = n ∧ ∀ x ∈ c, Bd 800 x
abbrev cAheadT : PC := fun ds q _ => ∃ (n : Nat) (a b : List Rat), ds = [crnD a, crnD b] ∧ n ≤ 3 ∧ CrOk n a ∧ CrOk n b ∧ ∀ r, q (.bl r)
abbrev cOrd : PC := fun ds q _ => ∃ (n : Nat) (cs : List (List Rat)), ds = [.lst (cs.map crnD)] ∧ n ≤ 3 ∧ (∀ c ∈ cs, CrOk n c) ∧ cs.length ≤ 2000 ∧ ∀ out : List (List Rat), (∀ c, c ∈ out ↔ c ∈ cs) → out.length = cs.length → q (.lst (out.map crnD))
theorem cut_take (xs : List D) (k : Nat) (h : k ≤ xs.length) : cutD xs none (some (k : Int)) = xs.take k := by
  have := cut_to (xs.take k) (xs.drop k) k (by simp; omega)
  rwa [List.take_append_drop] at this
theorem cut_dropN (xs : List D) (k : Nat) (h : k ≤ xs.length) : cutD xs (some (k : Int)) none = xs.drop k := by
  have h1 : HT.sIx xs.length 0 (some (k : Int)) = k := by
    unfold HT.sIx
    simp
    rw [if_neg (by omega)]
    omega
  unfold cutD
  rw [h1, show HT.sIx xs.length xs.length none = xs.length from rfl]
  apply List.take_of_length_le
  simp
abbrev N__law_ahead : List Str := ["_law_one", "_law_two", "_law_k"]
theorem sc__law_ahead : FnScope N__law_ahead ["_law_one", "_law_two"] (defScope s__law_ahead) := ⟨rfl, rfl, rfl, by decide +kernel, rfl, by decide +kernel, by decide +kernel⟩
theorem ok__law_ahead (T : Tx K mg) : FnG P w K mg base "_law_ahead" 2 (sp0 K 2 cAheadT) :=
  mkG0 T 127 rfl rfl sc__law_ahead (bind2 rfl fun _ _ _ _ _ _ _ _ => rfl) rfl fun cdv A outer s H E hr tk po => by
    refine ⟨_, (jb_cons (js_for po rfl (ji_rng1 rfl T.b_range (je_callB call_lenD rfl T.b_len (by decide +kernel) (ja_cons (je_var (pv 0)) ja_nil))) (jg_name (pg_name (i := 2) sc__law_ahead.nd rfl (by first | exact .inl rfl | exact .inr rfl))) (jb_one (js_if (jt_cmp (op_neD' hr.units) (je_ix (je_var (pv 0)) (je_var (pv 2))) (je_ix (je_var (pv 1)) (je_var (pv 2))) (nomark _)) (jb_one (js_ret (je_call0 (ok__law_less T) (hr.mono (by decide)) tk rfl (ja_cons (je_ix (je_var (pv 0)) (je_var (pv 2))) (ja_cons (je_ix (je_var (pv 1)) (je_var (pv 2))) ja_nil))))) jb_nil)))
    (jb_one (js_ret je_bl))), ?_⟩
    rintro ds q t ⟨n, a, b, rfl, h3, ⟨la, ha⟩, ⟨lb, hb⟩, h⟩ -
    refine ⟨⟨by omega, by simp; omega⟩, ?_⟩
    show forD _ _ _ (rngD 0 (a.map fr).length) _ _
    rw [List.length_map, rngD_map, List.range_eq_range']
    refine for_inv (fun items ds S => S = [] ∧ ∃ (i m : Nat) (p : Option D), items = (List.range' i m).map (fun i : Nat => D.int i) ∧ i + m = a.length ∧ ds = [some (crnD a), some (crnD b), p]) ?_ ?_ _ _ _ ⟨rfl, 0, a.length, none, rfl, by omega, rfl⟩
    · rintro d items ds S ⟨rfl, i, m, p, e, hm, rfl⟩ k hk
      cases m with
      | zero => cases e
      | succ m =>
        rw [List.range'_succ, List.map_cons] at e
        injection e with e1 e2
        subst e1 e2
        have i1 : i < a.length := by omega
        have i2 : i < b.length := by omega
        have a1 : atI (a.map fr) (i : Int) = some (fr a[i]) := atI_nat (by rw [List.getElem?_map, List.getElem?_eq_getElem i1]; rfl)
        have a2 : atI (b.map fr) (i : Int) = some (fr b[i]) := atI_nat (by rw [List.getElem?_map, List.getElem?_eq_getElem i2]; rfl)
        refine ⟨_, a1, _, a2, rfl, rfl, ?_⟩
        refine onB (fun z => ?_) fun z => ?_
        · exact ⟨_, a1, _, a2, a[i], b[i], rfl, (ha _ (List.getElem_mem i1)).mono (by decide), (hb _ (List.getElem_mem i2)).mono (by decide), h _⟩
        · exact hk _ _ ⟨rfl, i + 1, m, _, rfl, by omega, rfl⟩
    · rintro ds S ⟨rfl, i, m, p, e, hm, rfl⟩
      exact h false
abbrev N__law_in_order : List Str := ["_law_some", "_law_found", "_law_each", "_law_at", "_law_other"]
theorem sc__law_in_order : FnScope N__law_in_order ["_law_some"] (defScope s__law_in_order) := ⟨rfl, rfl, rfl, by decide +kernel, rfl, by decide +kernel, by decide +kernel⟩
theorem ok__law_in_order (T : Tx K mg) : FnG P w K mg base "_law_in_order" 3 (sp0 K 1 cOrd) :=
  mkG0 T 128 rfl rfl sc__law_in_order (bind1 rfl fun _ _ _ _ _ _ _ => rfl) rfl fun cdv A outer s H E hr tk po => by
    refine ⟨_, (jb_cons (js_set (i := 1) sc__law_in_order.nd rfl (by first | exact .inl rfl | exact .inr rfl) (je_lst ja_nil))
    (jb_cons (js_for po rfl (ji_lst (je_var (pv 0))) (jg_name (pg_name (i := 2) sc__law_in_order.nd rfl (by first | exact .inl rfl | exact .inr rfl))) (jb_cons (js_set (i := 3) sc__law_in_order.nd rfl (by first | exact .inl rfl | exact .inr rfl) (je_callB call_lenD rfl T.b_len (by decide +kernel) (ja_cons (je_lc (own := [("_law_other", 4)]) (g := (gName 4)) rfl sc__law_in_order.nd (ji_lst (je_var (pv 1))) (blkOk_by (own := [("_law_other", 4)]) (N := N__law_in_order) (sc := defScope s__law_in_order) (by decide +kernel)) (fun _ _ _ _ _ => (pg_name (i := 4) sc__law_in_order.nd rfl (by first | exact Or.inl rfl | exact Or.inr rfl))) gok_name (fun _ _ _ _ _ => (jts_one (jt_val (je_call0 (ok__law_ahead T) (hr.mono (by decide)) L2.takes0 rfl (ja_cons (je_var (pv 4)) (ja_cons (je_var (pv 2)) ja_nil)))))) (fun _ _ _ _ _ => (je_var (pv 4)))) ja_nil)))
    (jb_one (js_set (i := 1) sc__law_in_order.nd rfl (by first | exact .inl rfl | exact .inr rfl) (je_op op_addD (je_op op_addD (je_sl (je_var (pv 1)) jp_none (jp_some (je_var (pv 3)))) (je_lst (ja_cons (je_var (pv 2)) ja_nil))) (je_sl (je_var (pv 1)) (jp_some (je_var (pv 3))) jp_none))))))
    (jb_one (js_ret (je_var (pv 1)))))), ?_⟩
    rintro ds q t ⟨n, cs, rfl, h3, hc, hl, h⟩ -
    refine for_inv (fun items ds S => S = [] ∧ ∃ (done l out : List (List Rat)) (p2 p3 p4 : Option D), items = l.map crnD ∧ done ++ l = cs ∧ (∀ c, c ∈ out ↔ c ∈ done) ∧ out.length = done.length ∧
      ds = [some (.lst (cs.map crnD)), some (.lst (out.map crnD)), p2, p3, p4]) ?_ ?_ _ _ _ ⟨rfl, [], cs, [], none, none, none, rfl, rfl, by simp, rfl, rfl⟩
    · rintro d items ds S ⟨rfl, done, l, out, p2, p3, p4, e, ed, mo, lo, rfl⟩ k hk
      cases l with
      | nil => cases e
      | cons a l =>
        rw [List.map_cons] at e
        injection e with e1 e2
        subst e1 e2
        have ha : a ∈ cs := by rw [← ed]; simp
        have dl : done.length + (l.length + 1) = cs.length := by rw [← ed]; simp
        have ho : ∀ c ∈ out, CrOk n c := fun c z => hc c (by rw [← ed]; exact List.mem_append_left _ ((mo c).mp z))
        refine lc_inv (fun items acc S => S = [] ∧ ∃ r : List (List Rat), items = r.map crnD ∧ (∀ c ∈ r, c ∈ out) ∧ acc.length + r.length ≤ out.length) ?_ ?_ _ _ _ ⟨rfl, out, rfl, fun c z => z, by simp⟩
        · rintro d items acc S ⟨rfl, r, e, hr, ha2⟩ K hK
          cases r with
          | nil => cases e
          | cons b r =>
            rw [List.map_cons] at e
            injection e with e1 e2
            subst e1 e2
            simp only [List.length_cons] at ha2
            refine ⟨n, b, a, rfl, h3, ho b (hr b List.mem_cons_self), hc a ha, fun z => ?_⟩
            cases z with
            | true => exact ⟨rfl, by omega, hK _ _ ⟨rfl, r, rfl, fun c z => hr c (List.mem_cons_of_mem _ z), by simp; omega⟩⟩
            | false => exact hK _ _ ⟨rfl, r, rfl, fun c z => hr c (List.mem_cons_of_mem _ z), by omega⟩
        · rintro acc S ⟨rfl, r, e, hr, ha2⟩
          have al : acc.length ≤ out.length := by omega
          show (cutD (out.map crnD) none (some (acc.length : Int))).length + 1 ≤ 100000 ∧ (cutD (out.map crnD) none (some (acc.length : Int)) ++ [crnD a]).length + (cutD (out.map crnD) (some (acc.length : Int)) none).length ≤ 100000 ∧
            k [some (.lst (cs.map crnD)), some (.lst ((cutD (out.map crnD) none (some (acc.length : Int)) ++ [crnD a]) ++ cutD (out.map crnD) (some (acc.length : Int)) none)), some (crnD a), some (.int (acc.length : Int)), p4] []
          rw [cut_take _ _ (by simpa using al), cut_dropN _ _ (by simpa using al), ← List.map_take, ← List.map_drop]
          refine ⟨by simp; omega, by simp; omega, hk _ _ ⟨rfl, done ++ [a], l, out.take acc.length ++ [a] ++ out.drop acc.length, _, _, _, rfl, by simp [ed], fun c => ?_, by simp; omega, by rw [List.map_append, List.map_append]; rfl⟩⟩
          have : c ∈ out ↔ c ∈ out.take acc.length ∨ c ∈ out.drop acc.length := by
            rw [← List.mem_append, List.take_append_drop]
          simp only [List.mem_append, List.mem_singleton]
          rw [← mo c, this]
          constructor
          · rintro ((z | z) | z)
            · exact .inl (.inl z)
            · exact .inr z
            · exact .inl (.inr z)
          · rintro ((z | z) | z)
            · exact .inl (.inl z)
            · exact .inr z
            · exact .inl (.inr z)
    · rintro ds S ⟨rfl, done, l, out, p2, p3, p4, e, ed, mo, lo, rfl⟩
      cases l with
      | nil =>
        rw [List.append_nil] at ed
        subst ed
        exact h out mo lo
      | cons y l => cases e
end
end SC
end

section
set_option maxHeartbeats 4000000
namespace SC
open PySem L2 DL
section
variable {P : Program} {w : World} {K : PySem.W.Frag} {mg : Str → Option Value} {base : Heap}

abbrev cCorn : PC := fun ds q _ => ∃ (n : Nat) (qs : List Qt), ds = [.int n, qsd qs] ∧ B23 n qs ∧ ∀ cs, MA.CS n (gsOf qs) cs → (∀ c ∈ cs, CrOk n c) → cs.length ≤ 2000 → q (.lst (cs.map crnD))
theorem lrows_bd {n : Nat} {qs : List Qt} (h : B23 n qs) : ∀ r ∈ MA.lrows n (gsOf qs), ∀ x ∈ r, x.natAbs < 2 ^ 22 := by
  intro r hr x hx
  rcases List.mem_append.mp hr with hr | hr
  · obtain ⟨j, _, rfl⟩ := List.mem_map.mp hr
    obtain ⟨i, _, rfl⟩ := List.mem_map.mp hx
    split <;> decide
  · obtain ⟨y, hy, rfl⟩ := List.mem_map.mp hr
    exact gain_bd (h.ok.2.2.2 y hy) x hx
theorem pt_bd {n : Nat} (h : n = 2 ∨ n = 3) {own : List (List Int)} (ho : own.length = n - 1) (hr : ∀ r ∈ own, r.length = n) (hb : ∀ r ∈ own, ∀ x ∈ r, x.natAbs < 2 ^ 22) : ∀ x ∈ MA.pt own, x.natAbs < 2 ^ 45 := by
  rcases h with rfl | rfl
  · match own, ho with
    | [r], _ =>
      obtain ⟨a, b, rfl⟩ := MA.len2 (hr r (by simp))
      have ha := hb [a, b] (by simp) a (by simp)
      have hb := hb [a, b] (by simp) b (by simp)
      intro x hx
      simp only [MA.pt, List.mem_cons, List.not_mem_nil, or_false] at hx
      rcases hx with rfl | rfl
      · exact MA.ab_up hb (by decide)
      · exact MA.ab_up (MA.ab_neg ha) (by decide)
  · obtain ⟨r, r', rfl⟩ := MA.len2 ho
    obtain ⟨a, b, c, rfl⟩ := MA.len3 (hr r (by simp))
    obtain ⟨d, e, f, rfl⟩ := MA.len3 (hr r' (by simp))
    have ha := hb [a, b, c] (by simp) a (by simp)
    have hb' := hb [a, b, c] (by simp) b (by simp)
    have hc := hb [a, b, c] (by simp) c (by simp)
    have hd := hb [d, e, f] (by simp) d (by simp)
    have he := hb [d, e, f] (by simp) e (by simp)
    have hf := hb [d, e, f] (by simp) f (by simp)
    intro x hx
    simp only [MA.pt, List.mem_cons, List.not_mem_nil, or_false] at hx
    rcases hx with rfl | rfl | rfl
    · exact MA.ab_sub (MA.ab_mul hb' hf) (MA.ab_mul hc he)
    · exact MA.ab_neg (MA.ab_sub (MA.ab_mul ha hf) (MA.ab_mul hc hd))
    · exact MA.ab_sub (MA.ab_mul ha he) (MA.ab_mul hb' hd)
theorem sum_bd {n : Nat} (h : n = 2 ∨ n = 3) {l : List Int} (hl : l.length = n) {B : Nat} (hb : ∀ x ∈ l, x.natAbs < 2 ^ B) : l.sum.natAbs < 2 ^ (B + 3) := by
  rw [← MA.sum_sm h hl]
  exact MA.ab_up (MA.ab_sm n fun k hk => hb _ (MA.getD_mem (by omega))) (by omega)
theorem sum_range {n : Nat} (h : n = 2 ∨ n = 3) {r Q : List Int} (hr : r.length = n) (hQ : Q.length = n) : ((List.range n).map fun k : Nat => r.getD k 0 * Q.getD k 0).sum = MA.dot r Q := by
  rcases h with rfl | rfl
  · obtain ⟨a, b, rfl⟩ := MA.len2 hr
    obtain ⟨c, d, rfl⟩ := MA.len2 hQ
    simp [MA.dot, List.range_succ]
  · obtain ⟨a, b, e, rfl⟩ := MA.len3 hr
    obtain ⟨c, d, f, rfl⟩ := MA.len3 hQ
    simp [MA.dot, List.range_succ]
theorem dot_bd {n : Nat} (h : n = 2 ∨ n = 3) {r Q : List Int} (hr : r.length = n) (hQ : Q.length = n) : True := trivial
theorem int_at {l : List Int} {k : Nat} (h : k < l.length) : atI (l.map D.int) (k : Int) = some (.int (l.getD k 0)) := atI_nat (by
  rw [List.getElem?_map, List.getElem?_eq_getElem h, List.getD_eq_getElem?_getD, List.getElem?_eq_getElem h]; rfl)
theorem row_at {l : List (List Int)} {k : Nat} (h : k < l.length) : atI (l.map rowd) (k : Int) = some (rowd (l.getD k [])) := atI_nat (by
  rw [List.getElem?_map, List.getElem?_eq_getElem h, List.getD_eq_getElem?_getD, List.getElem?_eq_getElem h]; rfl)
theorem okE_crn (c : List Rat) : okE 6 (crnD c) = true := okEs_map (n := 5) (f := fr) (fun _ => rfl) c
theorem okE_crn4 (c : List Rat) : okE 5 (crnD c) = true := okEs_map (n := 4) (f := fr) (fun _ => rfl) c
theorem eqb_crn : ∀ a b : List Rat, eqb (crnD a) (crnD b) = decide (a = b) := by
  have go : ∀ a b : List Rat, eqbs (a.map fr) (b.map fr) = decide (a = b) := by
    intro a
    induction a with
    | nil =>
      intro b
      cases b with
      | nil => rfl
      | cons y b => rfl
    | cons x a ih =>
      intro b
      cases b with
      | nil => rfl
      | cons y b =>
        show (eqb (fr x) (fr y) && eqbs (a.map fr) (b.map fr)) = _
        rw [ih, eqb_fr]
        simp
  exact go
theorem any_crn (cs : List (List Rat)) (c : List Rat) : (cs.map crnD).any (fun z => eqb z (crnD c)) = decide (c ∈ cs) := by
  induction cs with
  | nil => simp
  | cons a cs ih =>
    rw [List.map_cons, List.any_cons, ih, eqb_crn]
    by_cases h : a = c
    · subst h; simp
    · have : ¬ c = a := fun z => h z.symm
      simp [h, this]
theorem belowL_map {α : Type} {m : Nat} {f : α → D} (h : ∀ x, noLoc [f x] = true) : ∀ l : List α, belowL m (l.map f) = true
  | [] => rfl
  | x :: l => by
    have h1 := h x
    have h2 := belowL_map (m := m) h l
    rw [List.map_cons]
    cases hf : f x with
    | loc n => rw [hf] at h1; cases h1
    | _ => exact h2
def signed (l : List Int) : List Int := if 0 < l.sum then l else l.map fun x => 0 - x
theorem signed_len (l : List Int) : (signed l).length = l.length := by unfold signed; split <;> simp
theorem signed_map (l : List Int) : (l.map fun x => if 0 < l.sum then x else 0 - x) = signed l := by
  unfold signed
  split
  · simp
  · rfl
theorem signed_bd {l : List Int} {B : Nat} (h : ∀ x ∈ l, x.natAbs < 2 ^ B) : ∀ x ∈ signed l, x.natAbs < 2 ^ B := by
  unfold signed
  split
  · exact h
  · intro x hx
    obtain ⟨y, hy, rfl⟩ := List.mem_map.mp hx
    have := h y hy
    rw [show (0 - y).natAbs = y.natAbs by omega]; exact this
theorem corn_none {rows own : List (List Int)} (h : (MA.pt own).sum = 0) : MA.corn rows own = none := by
  unfold MA.corn
  simp only
  rw [if_pos h]
theorem corn_none' {rows own : List (List Int)} (h : ¬ ∀ r ∈ rows, 0 ≤ MA.dot r (signed (MA.pt own))) : MA.corn rows own = none := by
  unfold MA.corn
  simp only
  split
  · rfl
  · show (if ∀ r ∈ rows, 0 ≤ MA.dot r (signed (MA.pt own)) then some ((signed (MA.pt own)).map fun x => Rat.divInt x (MA.pt own).sum.natAbs) else none) = none
    rw [if_neg h]
theorem corn_some {rows own : List (List Int)} (h0 : (MA.pt own).sum ≠ 0) (h : ∀ r ∈ rows, 0 ≤ MA.dot r (signed (MA.pt own))) : MA.corn rows own = some ((signed (MA.pt own)).map fun x => Rat.divInt x (MA.pt own).sum.natAbs) := by
  unfold MA.corn
  simp only
  rw [if_neg h0]
  show (if ∀ r ∈ rows, 0 ≤ MA.dot r (signed (MA.pt own)) then some ((signed (MA.pt own)).map fun x => Rat.divInt x (MA.pt own).sum.natAbs) else none) = _
  rw [if_pos h]
abbrev N__law_corners : List Str := ["_law_size", "_law_quotes_here", "_law_rows_here", "_law_found", "_law_lot_here", "_law_own", "_law_k", "_law_point", "_law_row", "_law_whole", "_law_each", "_law_corner"]
theorem sc__law_corners : FnScope N__law_corners ["_law_size", "_law_quotes_here"] (defScope s__law_corners) := ⟨rfl, rfl, rfl, by decide +kernel, rfl, by decide +kernel, by decide +kernel⟩
theorem ok__law_corners (T : Tx K mg) : FnG P w K mg base "_law_corners" 4 (sp0 K 2 cCorn) :=
  mkG0 T 126 rfl rfl sc__law_corners (bind2 rfl fun _ _ _ _ _ _ _ _ => rfl) rfl fun cdv A outer s H E hr tk po => by
    refine ⟨_, (jb_cons (js_set (i := 2) sc__law_corners.nd rfl (by first | exact .inl rfl | exact .inr rfl) (je_call0 (ok__law_rows T) (hr.mono (by decide)) tk rfl (ja_cons (je_var (pv 0)) (ja_cons (je_var (pv 1)) ja_nil))))
    (jb_cons (js_set (i := 3) sc__law_corners.nd rfl (by first | exact .inl rfl | exact .inr rfl) (je_lstO ja_nil))
    (jb_cons (js_for po rfl (ji_lst (je_call0 (ok__law_lots T) (hr.mono (by decide)) tk rfl (ja_cons (je_callB call_lenD rfl T.b_len (by decide +kernel) (ja_cons (je_var (pv 2)) ja_nil)) (ja_cons (je_op op_subD (je_var (pv 0)) je_int) ja_nil)))) (jg_name (pg_name (i := 4) sc__law_corners.nd rfl (by first | exact .inl rfl | exact .inr rfl))) (jb_scope (jb_cons (js_setLc (i := 5) rfl sc__law_corners.nd rfl rfl (sw_true rfl rfl rfl (by decide +kernel)) (own := [("_law_k", 6)]) (g := (gName 6)) (ji_lst (je_var (pv 4))) (blkOk_by (own := [("_law_k", 6)]) (N := N__law_corners) (sc := defScope s__law_corners) (by decide +kernel)) (fun _ _ _ _ _ => (pg_name (i := 6) sc__law_corners.nd rfl (by first | exact Or.inl rfl | exact Or.inr rfl))) gok_name (fun _ _ _ _ _ => jts_nil) (fun _ _ _ _ _ => (je_ix (je_var (pv 2)) (je_var (pv 6)))))
    (jb_cons (js_set (i := 7) sc__law_corners.nd rfl (by first | exact .inl rfl | exact .inr rfl) (je_lstO ja_nil))
    (jb_cons (js_for po rfl (ji_rng1 rfl T.b_range (je_var (pv 0))) (jg_name (pg_name (i := 6) sc__law_corners.nd rfl (by first | exact .inl rfl | exact .inr rfl))) (jb_one (js_expr (je_app (je_var (pv 7)) (je_op op_mulD (je_call0 (ok__law_det T) (hr.mono (by decide)) tk rfl (ja_cons (je_lc (own := [("_law_row", 8)]) (g := (gName 8)) rfl sc__law_corners.nd (ji_lst (je_var (pv 5))) (blkOk_by (own := [("_law_row", 8)]) (N := N__law_corners) (sc := defScope s__law_corners) (by decide +kernel)) (fun _ _ _ _ _ => (pg_name (i := 8) sc__law_corners.nd rfl (by first | exact Or.inl rfl | exact Or.inr rfl))) gok_name (fun _ _ _ _ _ => jts_nil) (fun _ _ _ _ _ => (je_op op_addD (je_sl (je_var (pv 8)) jp_none (jp_some (je_var (pv 6)))) (je_sl (je_var (pv 8)) (jp_some (je_op op_addD (je_var (pv 6)) je_int)) jp_none)))) ja_nil)) (je_if (jt_cmp (op_eqD' hr.units) (je_op op_modD (je_callTy call_intD rfl T.b_int (by decide +kernel) (ja_cons (je_var (pv 6)) ja_nil)) je_int) je_int (nomark _)) je_int (je_un un_negD je_int)))))))
    (jb_fz 7 (jb_cons (js_set (i := 9) sc__law_corners.nd rfl (by first | exact .inl rfl | exact .inr rfl) (je_callB (call_sumD rfl) rfl T.b_sum (by decide +kernel) (ja_cons (je_var (pv 7)) ja_nil)))
    (jb_one (js_if (jt_cmp (op_neD' hr.units) (je_var (pv 9)) je_int (nomark _)) (jb_cons (js_set (i := 7) sc__law_corners.nd rfl (by first | exact .inl rfl | exact .inr rfl) (je_lc (own := [("_law_each", 10)]) (g := (gName 10)) rfl sc__law_corners.nd (ji_lst (je_var (pv 7))) (blkOk_by (own := [("_law_each", 10)]) (N := N__law_corners) (sc := defScope s__law_corners) (by decide +kernel)) (fun _ _ _ _ _ => (pg_name (i := 10) sc__law_corners.nd rfl (by first | exact Or.inl rfl | exact Or.inr rfl))) gok_name (fun _ _ _ _ _ => jts_nil) (fun _ _ _ _ _ => (je_if (jt_cmp op_gtD (je_var (pv 9)) je_int (nomark _)) (je_var (pv 10)) (je_op op_subD je_int (je_var (pv 10)))))))
    (jb_one (js_if (jt_cmp op_geD (je_callB (call_minD rfl) rfl T.b_min (by decide +kernel) (ja_cons (je_lc (own := [("_law_row", 8)]) (g := (gName 8)) rfl sc__law_corners.nd (ji_lst (je_var (pv 2))) (blkOk_by (own := [("_law_row", 8)]) (N := N__law_corners) (sc := defScope s__law_corners) (by decide +kernel)) (fun _ _ _ _ _ => (pg_name (i := 8) sc__law_corners.nd rfl (by first | exact Or.inl rfl | exact Or.inr rfl))) gok_name (fun _ _ _ _ _ => jts_nil) (fun _ _ _ _ _ => (je_callB (call_sumD rfl) rfl T.b_sum (by decide +kernel) (ja_cons (je_lc (own := [("_law_k", 6)]) (g := (gName 6)) rfl sc__law_corners.nd (ji_rng1 rfl T.b_range (je_var (pv 0))) (blkOk_by (own := [("_law_k", 6)]) (by kernel_rfl)) (fun _ _ _ _ _ => (pg_name (i := 6) sc__law_corners.nd rfl (by first | exact Or.inl rfl | exact Or.inr rfl))) gok_name (fun _ _ _ _ _ => jts_nil) (fun _ _ _ _ _ => (je_op op_mulD (je_ix (je_var (pv 8)) (je_var (pv 6))) (je_ix (je_var (pv 7)) (je_var (pv 6)))))) ja_nil)))) ja_nil)) je_int (nomark _)) (jb_cons (js_set (i := 11) sc__law_corners.nd rfl (by first | exact .inl rfl | exact .inr rfl) (je_callTy call_tupleD rfl T.b_tuple (by decide +kernel) (ja_cons (je_lc (own := [("_law_each", 10)]) (g := (gName 10)) rfl sc__law_corners.nd (ji_lst (je_var (pv 7))) (blkOk_by (own := [("_law_each", 10)]) (N := N__law_corners) (sc := defScope s__law_corners) (by decide +kernel)) (fun _ _ _ _ _ => (pg_name (i := 10) sc__law_corners.nd rfl (by first | exact Or.inl rfl | exact Or.inr rfl))) gok_name (fun _ _ _ _ _ => jts_nil) (fun _ _ _ _ _ => (je_call0 (ok__law_low T) (hr.mono (by decide)) L2.takes0 rfl (ja_cons (je_var (pv 10)) (ja_cons (je_callB call_absD rfl T.b_abs (by decide +kernel) (ja_cons (je_var (pv 9)) ja_nil)) ja_nil))))) ja_nil)))
    (jb_one (js_if (jt_cmp (op_ninDeep (room65 hr)) (je_var (pv 11)) (je_var (pv 3)) (by rfl)) (jb_one (js_expr (je_app (je_var (pv 3)) (je_var (pv 11))))) jb_nil))) jb_nil))) jb_nil)))))))))
    (jb_fz 3 (jb_one (js_ret (je_call0 (ok__law_in_order T) (hr.mono (by decide)) tk rfl (ja_cons (je_var (pv 3)) ja_nil)))))))), ?_⟩
    rintro ds q t ⟨n, qs, rfl, hb, h⟩ -
    have n3 := hb.n3
    have n2 : 2 ≤ n := hb.ok.1
    have q31 := hb.ok.2.2.1
    have rl := MA.lrows_len hb.sh
    have rb := lrows_bd hb
    have lr : (MA.lrows n (gsOf qs)).length = n + qs.length := by simp [MA.lrows]
    refine ⟨n, qs, rfl, by omega, hb.ok.2.2, ?_⟩
    generalize hrows : MA.lrows n (gsOf qs) = rows at rl rb lr
    have hrows' : lrows n qs = rows := hrows
    rw [hrows']
    refine ⟨n + qs.length, n - 1, ?_, by omega, by omega, ?_⟩
    · show [D.int ((rows.map rowd).length : Int), D.int ((n : Int) - 1)] = _
      rw [List.length_map, lr, show ((n : Int) - 1) = ((n - 1 : Nat) : Int) by omega]
    have bR : ∀ (a : List Nat), MA.Lot n (n + qs.length) a → (MA.ownOf rows a).length = n - 1 ∧ ∀ r ∈ MA.ownOf rows a, r ∈ rows := fun a ha => ⟨by rw [List.length_map]; exact ha.1, fun r hr => by
      obtain ⟨k, hk, rfl⟩ := List.mem_map.mp hr
      exact MA.getD_mem (by rw [lr]; exact ha.2.1 k hk)⟩
    have cl : (lotsF (n + qs.length) (n - 1)).length ≤ 2000 := by
      have h1 := lotsF_len (n + qs.length) (n - 1)
      have h2 : (n + qs.length) ^ (n - 1) ≤ 40 ^ 2 := Nat.le_trans (Nat.pow_le_pow_left (by omega) _) (Nat.pow_le_pow_right (by decide) (by omega))
      omega
    refine for_inv (fun items ds S => ∃ (done l : List (List Nat)) (cs : List (List Rat)) (p4 p5 p6 p7 p9 p11 : Option D), items = l.map lotD ∧ done ++ l = lotsF (n + qs.length) (n - 1) ∧ S = [.lst (cs.map crnD)] ∧
      (∀ c ∈ cs, ∃ lot ∈ done, MA.corn rows (MA.ownOf rows lot) = some c) ∧ (∀ lot ∈ done, ∀ c, MA.corn rows (MA.ownOf rows lot) = some c → c ∈ cs) ∧ (∀ c ∈ cs, CrOk n c) ∧ cs.length ≤ done.length ∧
      belowE 1 [p6] = true ∧ belowE 1 [p11] = true ∧
      ds = [some (.int n), some (qsd qs), some (.lst (rows.map rowd)), some (.loc 0), p4, p5, p6, p7, none, p9, none, p11]) ?_ ?_ _ _ _
      ⟨[], lotsF (n + qs.length) (n - 1), [], none, none, none, none, none, none, rfl, rfl, rfl, by simp, by simp, by simp, Nat.le_refl 0, rfl, rfl, rfl⟩
    · rintro d items ds S ⟨done, l, cs, p4, p5, p6, p7, p9, p11, e, ed, rfl, hA, hB, hC, hl, b6, b11, rfl⟩ k hk
      cases l with
      | nil => cases e
      | cons a l =>
        rw [List.map_cons] at e
        injection e with e1 e2
        subst e1 e2
        have ham : a ∈ lotsF (n + qs.length) (n - 1) := by rw [← ed]; simp
        have hlot := (lots_lot hb.n23).mp ham
        obtain ⟨ol, om⟩ := bR a hlot
        have or' : ∀ r ∈ MA.ownOf rows a, r.length = n := fun r hr => rl r (om r hr)
        have ob : ∀ r ∈ MA.ownOf rows a, ∀ x ∈ r, x.natAbs < 2 ^ 22 := fun r hr => rb r (om r hr)
        have lpt := MA.pt_len hb.n23 ol or'
        have bpt := pt_bd hb.n23 ol or' ob
        have dl : done.length + (l.length + 1) ≤ 2000 := by
          have : (done ++ a :: l).length = (lotsF (n + qs.length) (n - 1)).length := by rw [ed]
          rw [List.length_append, List.length_cons] at this
          omega
        -- the end of a turn
        have hend : ∀ (cs' : List (List Rat)) (xs : List Int) (q6 q11 : Option D) (w : Int), (∀ c ∈ cs', (∃ lot ∈ done, MA.corn rows (MA.ownOf rows lot) = some c) ∨ MA.corn rows (MA.ownOf rows a) = some c) → (∀ c ∈ cs, c ∈ cs') → (∀ c, MA.corn rows (MA.ownOf rows a) = some c → c ∈ cs') →
            (∀ c ∈ cs', CrOk n c) → cs'.length ≤ done.length + 1 → belowE 1 [q6] = true → belowE 1 [q11] = true →
            cutK 1 k [some (.int n), some (qsd qs), some (.lst (rows.map rowd)), some (.loc 0), some (lotD a), some (.lst ((MA.ownOf rows a).map rowd)), q6, some (.lst (xs.map D.int)), none, some (.int w), none, q11] [.lst (cs'.map crnD), .dead] := by
          intro cs' xs q6 q11 w h1 h2 h3 h4 h5 h6 h7
          refine ⟨(show 1 ≤ 2 by decide), ?_, ⟨belowL_map (fun _ => rfl) _, trivial⟩, hk _ _ ⟨done ++ [a], l, cs', _, _, q6, _, _, q11, rfl, by simp [ed], rfl, fun c hc => ?_, fun lot hlot' c hc => ?_, h4, by simp; omega, h6, h7, rfl⟩⟩
          · cases q6 with
            | none => cases q11 with
              | none => rfl
              | some d => cases d <;> first | rfl | exact h7
            | some d6 => cases d6 <;> first
              | (cases q11 with
                | none => rfl
                | some d => cases d <;> first | rfl | exact h7)
              | (have h6' : Nat.blt _ 1 = true ∧ true = true := Bool.and_eq_true_iff.mp h6
                 show (Nat.blt _ 1 && belowE 1 [some (.lst (xs.map D.int)), none, some (.int w), none, q11]) = true
                 rw [h6'.1]
                 cases q11 with
                 | none => rfl
                 | some d => cases d <;> first | rfl | exact h7)
          · rcases h1 c hc with ⟨lot, z1, z2⟩ | z
            · exact ⟨lot, List.mem_append_left _ z1, z2⟩
            · exact ⟨a, by simp, z⟩
          · rcases List.mem_append.mp hlot' with z | z
            · exact h2 c (hB lot z c hc)
            · rw [List.mem_singleton.mp z] at hc; exact h3 c hc
        refine lc_mapA a (fun k : Nat => D.int k) (fun k => rowd (rows.getD k [])) (fun _ _ => rfl) (by have := hlot.1; omega) (fun k hk K hK => ?_) ?_
        · exact ⟨_, row_at (by rw [lr]; exact hlot.2.1 k hk), hK⟩
        rw [show a.map (fun k => rowd (rows.getD k [])) = (MA.ownOf rows a).map rowd by simp [MA.ownOf]]
        generalize MA.ownOf rows a = own at ol om or' ob lpt bpt hend
        refine ⟨⟨by omega, by omega⟩, ?_⟩
        show forD _ _ _ (rngD 0 n) _ _
        rw [rngD_map, List.range_eq_range']
        refine for_inv (fun items ds S => ∃ (i m : Nat) (q6 : Option D), items = (List.range' i m).map (fun i : Nat => D.int i) ∧ i + m = n ∧ S = [.lst (cs.map crnD), .lst (((MA.pt own).take i).map D.int)] ∧ belowE 1 [q6] = true ∧
          ds = [some (.int n), some (qsd qs), some (.lst (rows.map rowd)), some (.loc 0), some (lotD a), some (.lst (own.map rowd)), q6, some (.loc 1), none, p9, none, p11]) ?_ ?_ _ _ _ ⟨0, n, p6, rfl, by omega, rfl, b6, rfl⟩
        · rintro d items ds S ⟨i, m, q6, e, hm, rfl, hq6, rfl⟩ k2 hk2
          cases m with
          | zero => cases e
          | succ m =>
            rw [List.range'_succ, List.map_cons] at e
            injection e with e1 e2
            subst e1 e2
            have one40 : (1 : Int).natAbs < 2 ^ 2 := by decide
            have neg40 : (-1 : Int).natAbs < 2 ^ 2 := by decide
            rcases hb.n23 with rfl | rfl
            · match own, ol with
              | [r], _ =>
                obtain ⟨x, y, rfl⟩ := MA.len2 (or' r (by simp))
                have hx : x.natAbs < 2 ^ 40 := MA.ab_up (ob [x, y] (by simp) x (by simp)) (by decide)
                have hy : y.natAbs < 2 ^ 40 := MA.ab_up (ob [x, y] (by simp) y (by simp)) (by decide)
                rcases (show i = 0 ∨ i = 1 by omega) with rfl | rfl
                · refine ⟨(show (0 : Nat) + 1 ≤ 100000 by decide), rfl, (show (0 : Nat) < 100000 by decide), .inl ⟨y, rfl, hy, (by decide : (0 : Int) < 2), mulW' hy one40, (show (0 : Nat) < 100000 by decide), hk2 _ _ ⟨1, m, _, rfl, by omega, ?_, rfl, rfl⟩⟩⟩
                  show [_, Cell.lst [D.int (y * 1)]] = [_, Cell.lst [D.int y]]
                  rw [Int.mul_one]
                · refine ⟨(show (1 : Nat) + 0 ≤ 100000 by decide), rfl, (show (0 : Nat) < 100000 by decide), .inl ⟨x, rfl, hx, (by decide : (0 : Int) < 2), mulW' hx neg40, (show (1 : Nat) < 100000 by decide), hk2 _ _ ⟨2, m, _, rfl, by omega, ?_, rfl, rfl⟩⟩⟩
                  show [_, Cell.lst [D.int y, D.int (x * (-1))]] = [_, Cell.lst [D.int y, D.int (-x)]]
                  rw [show x * (-1) = -x by omega]
            · obtain ⟨r, r', rfl⟩ := MA.len2 ol
              obtain ⟨x, y, z, rfl⟩ := MA.len3 (or' r (by simp))
              obtain ⟨u, v, w, rfl⟩ := MA.len3 (or' r' (by simp))
              have hx : x.natAbs < 2 ^ 40 := MA.ab_up (ob [x, y, z] (by simp) x (by simp)) (by decide)
              have hy : y.natAbs < 2 ^ 40 := MA.ab_up (ob [x, y, z] (by simp) y (by simp)) (by decide)
              have hz : z.natAbs < 2 ^ 40 := MA.ab_up (ob [x, y, z] (by simp) z (by simp)) (by decide)
              have hu : u.natAbs < 2 ^ 40 := MA.ab_up (ob [u, v, w] (by simp) u (by simp)) (by decide)
              have hv : v.natAbs < 2 ^ 40 := MA.ab_up (ob [u, v, w] (by simp) v (by simp)) (by decide)
              have hw : w.natAbs < 2 ^ 40 := MA.ab_up (ob [u, v, w] (by simp) w (by simp)) (by decide)
              have b0 : (y * w - z * v).natAbs < 2 ^ 81 := MA.ab_sub (MA.ab_mul hy hw) (MA.ab_mul hz hv)
              have b1 : (x * w - z * u).natAbs < 2 ^ 81 := MA.ab_sub (MA.ab_mul hx hw) (MA.ab_mul hz hu)
              have b2 : (x * v - y * u).natAbs < 2 ^ 81 := MA.ab_sub (MA.ab_mul hx hv) (MA.ab_mul hy hu)
              rcases (show i = 0 ∨ i = 1 ∨ i = 2 by omega) with rfl | rfl | rfl
              · refine ⟨(show (0 : Nat) + 2 ≤ 100000 by decide), rfl, (show (0 : Nat) < 100000 by decide), (show (0 : Nat) + 2 ≤ 100000 by decide), rfl, (show (1 : Nat) < 100000 by decide), .inr ⟨y, z, v, w, rfl, hy, hz, hv, hw, (by decide : (0 : Int) < 2), mulW' b0 one40, (show (0 : Nat) < 100000 by decide), hk2 _ _ ⟨1, m, _, rfl, by omega, ?_, rfl, rfl⟩⟩⟩
                show [_, Cell.lst [D.int ((y * w - z * v) * 1)]] = [_, Cell.lst [D.int (y * w - z * v)]]
                rw [Int.mul_one]
              · refine ⟨(show (1 : Nat) + 1 ≤ 100000 by decide), rfl, (show (0 : Nat) < 100000 by decide), (show (1 : Nat) + 1 ≤ 100000 by decide), rfl, (show (1 : Nat) < 100000 by decide), .inr ⟨x, z, u, w, rfl, hx, hz, hu, hw, (by decide : (0 : Int) < 2), mulW' b1 neg40, (show (1 : Nat) < 100000 by decide), hk2 _ _ ⟨2, m, _, rfl, by omega, ?_, rfl, rfl⟩⟩⟩
                show [_, Cell.lst [D.int (y * w - z * v), D.int ((x * w - z * u) * (-1))]] = [_, Cell.lst [D.int (y * w - z * v), D.int (-(x * w - z * u))]]
                rw [show (x * w - z * u) * (-1) = -(x * w - z * u) by omega]
              · refine ⟨(show (2 : Nat) + 0 ≤ 100000 by decide), rfl, (show (0 : Nat) < 100000 by decide), (show (2 : Nat) + 0 ≤ 100000 by decide), rfl, (show (1 : Nat) < 100000 by decide), .inr ⟨x, y, u, v, rfl, hx, hy, hu, hv, (by decide : (0 : Int) < 2), mulW' b2 one40, (show (2 : Nat) < 100000 by decide), hk2 _ _ ⟨3, m, _, rfl, by omega, ?_, rfl, rfl⟩⟩⟩
                show [_, Cell.lst [D.int (y * w - z * v), D.int (-(x * w - z * u)), D.int ((x * v - y * u) * 1)]] = [_, Cell.lst [D.int (y * w - z * v), D.int (-(x * w - z * u)), D.int (x * v - y * u)]]
                rw [Int.mul_one]
        · rintro ds S ⟨i, m, q6, e, hm, rfl, hq6, rfl⟩
          cases m with
          | succ m => cases e
          | zero =>
            rw [show (MA.pt own).take i = MA.pt own from List.take_of_length_le (by omega)]
            have bsum := sum_bd hb.n23 lpt bpt
            refine ⟨noLoc_ints _, MA.pt own, rfl, ?_⟩
            refine onB (fun w0 => ?_) fun w0 => ?_
            · have w0 : (MA.pt own).sum ≠ 0 := by simpa using w0
              refine lc_mapA (MA.pt own) D.int (fun x => D.int (if 0 < (MA.pt own).sum then x else 0 - x)) (fun _ _ => rfl) (by omega) (fun x hx K hK => ?_) ?_
              · refine onB (fun z => ?_) fun z => ?_
                · rw [if_pos (of_decide_eq_true z)] at hK; exact hK
                · rw [if_neg (of_decide_eq_false z)] at hK; exact hK
              rw [show (MA.pt own).map (fun x => D.int (if 0 < (MA.pt own).sum then x else 0 - x)) = (signed (MA.pt own)).map D.int by rw [← signed_map, List.map_map]; rfl]
              have lS : (signed (MA.pt own)).length = n := by rw [signed_len]; exact lpt
              have bS := signed_bd bpt
              refine lc_mapA rows rowd (fun r => D.int (MA.dot r (signed (MA.pt own)))) (fun _ _ => rfl) (by omega) (fun r hr K hK => ?_) ?_
              · refine ⟨⟨by omega, by omega⟩, ?_⟩
                show lcD _ _ _ _ (rngD 0 n) _ _ _
                rw [rngD_map]
                refine lc_mapA (List.range n) (fun i : Nat => D.int i) (fun k => D.int (r.getD k 0 * (signed (MA.pt own)).getD k 0)) (fun _ _ => rfl) (by simp; omega) (fun k hk K2 hK2 => ?_) ?_
                · have hk := List.mem_range.mp hk
                  have lrr := rl r hr
                  exact ⟨_, int_at (by omega), _, int_at (by omega), mulW' (rb r hr _ (MA.getD_mem (by omega))) (bS _ (MA.getD_mem (by omega))), hK2⟩
                · refine ⟨(List.range n).map fun k => r.getD k 0 * (signed (MA.pt own)).getD k 0, by rw [List.map_map]; rfl, ?_⟩
                  rw [sum_range hb.n23 (rl r hr) lS]
                  exact hK
              refine ⟨rows.map fun r => MA.dot r (signed (MA.pt own)), by rw [List.map_map]; rfl, by rw [List.length_map]; omega, fun mn m1 m2 => ?_⟩
              refine onB (fun z => ?_) fun z => ?_
              · have z := of_decide_eq_true z
                have al : ∀ r ∈ rows, 0 ≤ MA.dot r (signed (MA.pt own)) := fun r hr => Int.le_trans z (m2 _ (List.mem_map.mpr ⟨r, hr, rfl⟩))
                have ec := corn_some w0 al
                refine lc_mapA (signed (MA.pt own)) D.int (fun x => fr (Rat.divInt x (MA.pt own).sum.natAbs)) (fun _ _ => rfl) (by omega) (fun x hx K hK => ?_) ?_
                · have ea : (if (MA.pt own).sum < 0 then -(MA.pt own).sum else (MA.pt own).sum) = ((MA.pt own).sum.natAbs : Int) := by split <;> omega
                  refine ⟨x, ((MA.pt own).sum.natAbs : Int), ?_, by omega, ?_, hK⟩
                  · show [D.int x, D.int (if (MA.pt own).sum < 0 then -(MA.pt own).sum else (MA.pt own).sum)] = _
                    rw [ea]
                  · rw [Int.natAbs_natCast]
                    exact MA.ab_up (i := (MA.pt own).sum) bsum (by decide)
                have ecr : (signed (MA.pt own)).map (fun x => fr (Rat.divInt x (MA.pt own).sum.natAbs)) = ((signed (MA.pt own)).map fun x => Rat.divInt x (MA.pt own).sum.natAbs).map fr := by rw [List.map_map]; rfl
                rw [ecr]
                have cok : CrOk n ((signed (MA.pt own)).map fun x => Rat.divInt x (MA.pt own).sum.natAbs) := ⟨by rw [List.length_map]; exact lS, fun y hy => by
                  obtain ⟨x, hx, rfl⟩ := List.mem_map.mp hy
                  exact low_bd (by omega) (MA.ab_up (bS x hx) (by decide)) (by rw [Int.natAbs_natCast]; exact MA.ab_up (i := (MA.pt own).sum) bsum (by decide))⟩
                generalize ((signed (MA.pt own)).map fun x => Rat.divInt x (MA.pt own).sum.natAbs) = cc at ec cok
                refine ⟨okE_crn cc, okEs_map (fun c => okE_crn4 c) _, ?_⟩
                refine onB (fun y => ?_) fun y => ?_
                · refine ⟨by rw [List.length_map]; omega, ?_⟩
                  have h0 := hend (cs ++ [cc]) (signed (MA.pt own)) q6 (some (crnD cc)) (MA.pt own).sum (fun c hc => ?_) (fun c hc => List.mem_append_left _ hc) (fun c hc => ?_) (fun c hc => ?_) (by simp; omega) hq6 rfl
                  · rw [List.map_append] at h0
                    exact h0
                  · rcases List.mem_append.mp hc with hc | hc
                    · exact .inl (hA c hc)
                    · rw [List.mem_singleton.mp hc]; exact .inr ec
                  · rw [ec] at hc; cases hc; simp
                  · rcases List.mem_append.mp hc with hc | hc
                    · exact hC c hc
                    · rw [List.mem_singleton.mp hc]; exact cok
                · have y : cc ∈ cs := by
                    rw [any_crn] at y
                    simpa using y
                  exact hend cs (signed (MA.pt own)) q6 (some (crnD cc)) (MA.pt own).sum (fun c hc => .inl (hA c hc)) (fun c hc => hc) (fun c hc => by rw [ec] at hc; cases hc; exact y) hC (by omega) hq6 rfl
              · have z := of_decide_eq_false z
                have nal : ¬ ∀ r ∈ rows, 0 ≤ MA.dot r (signed (MA.pt own)) := fun al => by
                  obtain ⟨r, hr, rfl⟩ := List.mem_map.mp m1
                  exact z (al r hr)
                have ec := corn_none' nal
                exact hend cs (signed (MA.pt own)) q6 p11 (MA.pt own).sum (fun c hc => .inl (hA c hc)) (fun c hc => hc) (fun c hc => by rw [ec] at hc; cases hc) hC (by omega) hq6 b11
            · have w0 : (MA.pt own).sum = 0 := by simpa using w0
              have ec := corn_none (rows := rows) w0
              exact hend cs (MA.pt own) q6 p11 (MA.pt own).sum (fun c hc => .inl (hA c hc)) (fun c hc => hc) (fun c hc => by rw [ec] at hc; cases hc) hC (by omega) hq6 b11
    · rintro ds S ⟨done, l, cs, p4, p5, p6, p7, p9, p11, e, ed, rfl, hA, hB, hC, hl, b6, b11, rfl⟩
      cases l with
      | cons y l => cases e
      | nil =>
        rw [List.append_nil] at ed
        subst ed
        refine ⟨noLoc_map (fun _ => rfl) _, n, cs, rfl, n3, hC, by omega, fun out mo lo => ?_⟩
        refine h out ⟨fun c hc => ?_, fun lot hlot c hc => ?_⟩ (fun c hc => hC c ((mo c).mp hc)) (by omega)
        · obtain ⟨lot, h1, h2⟩ := hA c ((mo c).mp hc)
          rw [hrows]
          obtain ⟨ol, om⟩ := bR lot ((lots_lot hb.n23).mp h1)
          exact ⟨_, om, ol, h2⟩
        · rw [hrows] at hlot hc
          exact (mo c).mpr (hB lot ((lots_lot hb.n23).mpr (by rw [← lr]; exact hlot)) c hc)
end
end SC
end

section
set_option maxHeartbeats 4000000
namespace SC
open PySem L2 DL
section
variable {P : Program} {w : World} {K : PySem.W.Frag} {mg : Str → Option Value} {base : Heap}

structure CrS (n : Nat) (qs : List Qt) (cs : List (List Rat)) : Prop where
  b : B23 n qs
  spec : MA.CS n (gsOf qs) cs
  ok : ∀ c ∈ cs, CrOk n c
  len : cs.length ≤ 2000
theorem CrS.nil {n : Nat} {qs : List Qt} {cs : List (List Rat)} (h : CrS n qs cs) : cs = [] ↔ sound n qs = false := by
  rw [sound_iff']
  exact MA.cs_nil h.b.sh h.spec
theorem CrS.min {n : Nat} {qs : List Qt} {c : List Rat} {cs : List (List Rat)} (h : CrS n qs (c :: cs)) {ns : List Int} (hn : ns.length = n) : minW n qs ns = (cs.map (worthR ns)).foldl gmin (worthR ns c) :=
  minW_eq (MA.cs_min h.b.sh h.spec hn)
abbrev cLeastBy (f : Nat → List Qt → List Int → Rat) : PC := fun ds q _ => ∃ (n : Nat) (qs : List Qt) (cs : List (List Rat)) (ns : List Int), ds = [.lst (cs.map crnD), inz ns] ∧ CrS n qs cs ∧ cs ≠ [] ∧ PayOk n ns ∧ q (fr (f n qs ns))
noncomputable def endsD (n : Nat) (qs : List Qt) (ns : List Int) : D := .tup (if sound n qs then [fr (minW n qs ns), fr (maxW n qs ns)] else [])
abbrev cEnds : PC := fun ds q _ => ∃ (n : Nat) (qs : List Qt) (ns : List Int), ds = [.int n, qsd qs, inz ns] ∧ B23 n qs ∧ PayOk n ns ∧ q (endsD n qs ns)
abbrev cLawLot : PC := fun ds q _ => ∃ n k : Nat, ds = [.int k, .int n] ∧ n ≤ 3 ∧ k < 8 ∧ q (inz (lotI n k))
theorem PayOk.b12 {n : Nat} {ns : List Int} (h : PayOk n ns) : ∀ x ∈ ns, x.natAbs < 2 ^ 12 := fun x hx => by have := h.2 x hx; omega
theorem bit_eq : ∀ k : Nat, k < 8 → ∀ p : Nat, p < 3 → decide (((k : Int) / 2 ^ p) % 2 = 1) = decide (Builtin.bitAnd ((k : Int) / 2 ^ p) 1 = 1) := by decide +kernel
abbrev N__law_least_by : List Str := ["_law_corners_here", "_law_payoff_here", "_law_corner"]
theorem sc__law_least_by : FnScope N__law_least_by ["_law_corners_here", "_law_payoff_here"] (defScope s__law_least_by) := ⟨rfl, rfl, rfl, by decide +kernel, rfl, by decide +kernel, by decide +kernel⟩
theorem ok__law_least_by (T : Tx K mg) : FnG P w K mg base "_law_least_by" 5 (sp0 K 2 (cLeastBy minW)) :=
  mkG0 T 129 rfl rfl sc__law_least_by (bind2 rfl fun _ _ _ _ _ _ _ _ => rfl) rfl fun cdv A outer s H E hr tk po => by
    refine ⟨_, (jb_one (js_ret (je_call0 (ok__law_least T) (hr.mono (by decide)) tk rfl (ja_cons (je_lc (own := [("_law_corner", 2)]) (g := (gName 2)) rfl sc__law_least_by.nd (ji_lst (je_var (pv 0))) (blkOk_by (own := [("_law_corner", 2)]) (N := N__law_least_by) (sc := defScope s__law_least_by) (by decide +kernel)) (fun _ _ _ _ _ => (pg_name (i := 2) sc__law_least_by.nd rfl (by first | exact Or.inl rfl | exact Or.inr rfl))) gok_name (fun _ _ _ _ _ => jts_nil) (fun _ _ _ _ _ => (je_call0 (ok__law_worth T) (hr.mono (by decide)) L2.takes0 rfl (ja_cons (je_var (pv 1)) (ja_cons (je_var (pv 2)) ja_nil))))) ja_nil)))), ?_⟩
    rintro ds q t ⟨n, qs, cs, ns, rfl, hc, ne, hn, h⟩ -
    have n3 := hc.b.n3
    have hl := hc.len
    refine lc_mapA cs crnD (fun c => fr (worthR ns c)) (fun _ _ => rfl) (by omega) (fun c hcm K hK => ?_) ?_
    · have := hc.ok c hcm
      exact ⟨ns, c, rfl, by have := hn.1; omega, by rw [hn.1, this.1], hn.b12, this.2, hK⟩
    · cases cs with
      | nil => exact absurd rfl ne
      | cons c cs =>
        rw [hc.min hn.1] at h
        have bd : ∀ d ∈ c :: cs, Bd 3000 (worthR ns d) := fun d hd => (worthR_bd (by have := hn.1; omega) hn.b12 (hc.ok d hd).2).mono (by decide)
        refine ⟨worthR ns c, cs.map (worthR ns), ?_, fun x hx => ?_, h⟩
        · show _ = [D.lst (((c :: cs).map (worthR ns)).map fr)]
          rw [List.map_map]; rfl
        · have hx : x ∈ (c :: cs).map (worthR ns) := hx
          obtain ⟨d, hd, rfl⟩ := List.mem_map.mp hx
          exact bd d hd
abbrev N__law_greatest_by : List Str := ["_law_corners_here", "_law_payoff_here", "_law_each"]
theorem sc__law_greatest_by : FnScope N__law_greatest_by ["_law_corners_here", "_law_payoff_here"] (defScope s__law_greatest_by) := ⟨rfl, rfl, rfl, by decide +kernel, rfl, by decide +kernel, by decide +kernel⟩
theorem ok__law_greatest_by (T : Tx K mg) : FnG P w K mg base "_law_greatest_by" 6 (sp0 K 2 (cLeastBy maxW)) :=
  mkG0 T 130 rfl rfl sc__law_greatest_by (bind2 rfl fun _ _ _ _ _ _ _ _ => rfl) rfl fun cdv A outer s H E hr tk po => by
    refine ⟨_, (jb_one (js_ret (je_call0 (ok__law_minus T) (hr.mono (by decide)) tk rfl (ja_cons (je_call0 (ok__law_least_by T) (hr.mono (by decide)) tk rfl (ja_cons (je_var (pv 0)) (ja_cons (je_callTy call_tupleD rfl T.b_tuple (by decide +kernel) (ja_cons (je_lc (own := [("_law_each", 2)]) (g := (gName 2)) rfl sc__law_greatest_by.nd (ji_tup (je_var (pv 1))) (blkOk_by (own := [("_law_each", 2)]) (N := N__law_greatest_by) (sc := defScope s__law_greatest_by) (by decide +kernel)) (fun _ _ _ _ _ => (pg_name (i := 2) sc__law_greatest_by.nd rfl (by first | exact Or.inl rfl | exact Or.inr rfl))) gok_name (fun _ _ _ _ _ => jts_nil) (fun _ _ _ _ _ => (je_op op_subD je_int (je_var (pv 2))))) ja_nil)) ja_nil))) ja_nil)))), ?_⟩
    rintro ds q t ⟨n, qs, cs, ns, rfl, hc, ne, hn, h⟩ -
    have n3 := hc.b.n3
    refine lc_mapA ns D.int (fun x => D.int (-x)) (fun _ _ => rfl) (by have := hn.1; omega) (fun x hx K hK => ?_) ?_
    · show K (.int (0 - x)) _
      rw [Int.zero_sub]
      exact hK
    · rw [show ns.map (fun x => D.int (-x)) = (ns.map fun x => -x).map D.int by rw [List.map_map]; rfl]
      exact ⟨n, qs, cs, ns.map fun x => -x, rfl, hc, ne, hn.neg, minW n qs (ns.map fun x => -x), rfl, h⟩
abbrev N__law_ends : List Str := ["_law_size", "_law_quotes_here", "_law_payoff_here", "_law_corners_here"]
theorem sc__law_ends : FnScope N__law_ends ["_law_size", "_law_quotes_here", "_law_payoff_here"] (defScope s__law_ends) := ⟨rfl, rfl, rfl, by decide +kernel, rfl, by decide +kernel, by decide +kernel⟩
theorem ok__law_ends (T : Tx K mg) : FnG P w K mg base "_law_ends" 7 (sp0 K 3 cEnds) :=
  mkG0 T 133 rfl rfl sc__law_ends (bind3 rfl fun _ _ _ _ _ _ _ _ _ => rfl) rfl fun cdv A outer s H E hr tk po => by
    refine ⟨_, (jb_cons (js_set (i := 3) sc__law_ends.nd rfl (by first | exact .inl rfl | exact .inr rfl) (je_call0 (ok__law_corners T) (hr.mono (by decide)) tk rfl (ja_cons (je_var (pv 0)) (ja_cons (je_var (pv 1)) ja_nil))))
    (jb_cons (js_if (jt_cmp (op_eqD' hr.units) (je_var (pv 3)) (je_lst ja_nil) (nomark _)) (jb_one (js_ret (je_tup ja_nil))) jb_nil)
    (jb_one (js_ret (je_tup (ja_cons (je_call0 (ok__law_least_by T) (hr.mono (by decide)) tk rfl (ja_cons (je_var (pv 3)) (ja_cons (je_var (pv 2)) ja_nil))) (ja_cons (je_call0 (ok__law_greatest_by T) (hr.mono (by decide)) tk rfl (ja_cons (je_var (pv 3)) (ja_cons (je_var (pv 2)) ja_nil))) ja_nil))))))), ?_⟩
    rintro ds q t ⟨n, qs, ns, rfl, hb, hn, h⟩ -
    refine ⟨n, qs, rfl, hb, fun cs h1 h2 h3 => ?_⟩
    have cr : CrS n qs cs := ⟨hb, h1, h2, h3⟩
    refine ⟨okEs_map (fun c => okE_crn4 c) _, rfl, ?_⟩
    cases cs with
    | nil =>
      have hs := cr.nil.mp rfl
      unfold endsD at h
      rw [hs, if_neg (by decide)] at h
      exact h
    | cons c cs =>
      have ne : c :: cs ≠ [] := fun z => by cases z
      have hs : sound n qs = true := by
        cases z : sound n qs with
        | true => rfl
        | false => exact absurd (cr.nil.mpr z) ne
      unfold endsD at h
      rw [hs, if_pos rfl] at h
      exact ⟨n, qs, c :: cs, ns, rfl, cr, ne, hn, n, qs, c :: cs, ns, rfl, cr, ne, hn, h⟩
abbrev N__law_lot : List Str := ["_law_number_here", "_law_size", "_law_k"]
theorem sc__law_lot : FnScope N__law_lot ["_law_number_here", "_law_size"] (defScope s__law_lot) := ⟨rfl, rfl, rfl, by decide +kernel, rfl, by decide +kernel, by decide +kernel⟩
theorem ok__law_lot (T : Tx K mg) : FnG P w K mg base "_law_lot" 1 (sp0 K 2 cLawLot) :=
  mkG0 T 131 rfl rfl sc__law_lot (bind2 rfl fun _ _ _ _ _ _ _ _ => rfl) rfl fun cdv A outer s H E hr tk po => by
    refine ⟨_, (jb_one (js_ret (je_callTy call_tupleD rfl T.b_tuple (by decide +kernel) (ja_cons (je_lc (own := [("_law_k", 2)]) (g := (gName 2)) rfl sc__law_lot.nd (ji_rng1 rfl T.b_range (je_var (pv 1))) (blkOk_by (own := [("_law_k", 2)]) (N := N__law_lot) (sc := defScope s__law_lot) (by decide +kernel)) (fun _ _ _ _ _ => (pg_name (i := 2) sc__law_lot.nd rfl (by first | exact Or.inl rfl | exact Or.inr rfl))) gok_name (fun _ _ _ _ _ => (jts_one (jt_cmp (op_eqD' hr.units) (je_op op_modD (je_callTy call_intD rfl T.b_int (by decide +kernel) (ja_cons (je_op op_fdivD (je_var (pv 0)) (je_ix (je_lst (ja_cons je_int (ja_cons je_int (ja_cons je_int (ja_cons je_int (ja_cons je_int ja_nil)))))) (je_var (pv 2)))) ja_nil)) je_int) je_int (nomark _)))) (fun _ _ _ _ _ => (je_var (pv 2)))) ja_nil)))), ?_⟩
    rintro ds q t ⟨n, k, rfl, hn, hk, h⟩ -
    refine ⟨⟨by omega, by omega⟩, ?_⟩
    show lcD _ _ _ _ (rngD 0 n) _ _ _
    rw [rngD_map]
    refine lc_filA (List.range n) (fun p => decide (Builtin.bitAnd ((k : Int) / 2 ^ p) 1 = 1)) (fun i : Nat => D.int i) (fun i : Nat => D.int i) (fun _ _ => rfl) (by simp; omega) (fun p hp A B hAB => ?_) ?_
    · have hp3 : p < 3 := by have := List.mem_range.mp hp; omega
      have e := bit_eq k hk p hp3
      rw [← e] at hAB
      rcases (show p = 0 ∨ p = 1 ∨ p = 2 by omega) with rfl | rfl | rfl
      · refine ⟨D.int 1, rfl, divW (b := 10) (by decide) (by decide), (by decide : (0 : Int) < 2), ?_⟩
        rw [show (2 : Int) ^ 0 = 1 from rfl] at hAB
        show mB (false ^^ decide ((k : Int) / 1 % 2 = 1)) _ _
        rw [Bool.false_xor]
        exact hAB
      · refine ⟨D.int 2, rfl, divW (b := 10) (by decide) (by decide), (by decide : (0 : Int) < 2), ?_⟩
        rw [show (2 : Int) ^ 1 = 2 from rfl] at hAB
        show mB (false ^^ decide ((k : Int) / 2 % 2 = 1)) _ _
        rw [Bool.false_xor]
        exact hAB
      · refine ⟨D.int 4, rfl, divW (b := 10) (by decide) (by decide), (by decide : (0 : Int) < 2), ?_⟩
        rw [show (2 : Int) ^ 2 = 4 from rfl] at hAB
        show mB (false ^^ decide ((k : Int) / 4 % 2 = 1)) _ _
        rw [Bool.false_xor]
        exact hAB
    · unfold lotI lotN inz at h
      rw [List.map_map] at h
      exact h
end
end SC
end

section
set_option maxHeartbeats 4000000
namespace SC
open PySem L2 DL
section
variable {P : Program} {w : World} {K : PySem.W.Frag} {mg : Str → Option Value} {base : Heap}

/-- a jar behind at most c draws -/
def jarQ (k c : Int) (q : Cell → Prop) : Prop := ∀ a m k' : Int, 0 ≤ a → 0 ≤ m → m < 2147483647 → k ≤ k' → k' ≤ k + c → q (jarC a m k')
def ChanceD (n : Nat) (rs : List Rat) : Prop := ∃ P : List Int, rs = MA.chanceOf P ∧ P.length = n ∧ (∀ x ∈ P, 0 ≤ x) ∧ 1 ≤ P.sum ∧ P.sum ≤ 30
theorem le_sum : ∀ {P : List Int}, (∀ x ∈ P, 0 ≤ x) → 0 ≤ P.sum ∧ ∀ x ∈ P, x ≤ P.sum
  | [], _ => ⟨Int.le_refl _, fun x hx => absurd hx List.not_mem_nil⟩
  | y :: P, h => by
    have h0 := h y List.mem_cons_self
    obtain ⟨h1, h2⟩ := le_sum (P := P) fun x hx => h x (List.mem_cons_of_mem _ hx)
    rw [List.sum_cons]
    refine ⟨by omega, fun x hx => ?_⟩
    rcases List.mem_cons.mp hx with rfl | hx
    · omega
    · have := h2 x hx; omega
theorem low_den_le {a b : Int} (hb : 0 < b) : ((Rat.divInt a b).den : Int) ≤ b := by
  rw [Rat.den_divInt, if_neg (by omega)]
  have := Nat.div_le_self b.natAbs (b.gcd a)
  omega
theorem low_num_le {a b : Int} (hb : 0 < b) : (Rat.divInt a b).num.natAbs ≤ a.natAbs := by
  rw [Rat.num_divInt, Int.sign_eq_one_of_pos hb, Int.one_mul]
  exact Int.natAbs_ediv_le_natAbs _ _
theorem low_le_one {a b : Int} (ha : 0 ≤ a) (hab : a ≤ b) (hb : 0 < b) : 0 ≤ (Rat.divInt a b).num ∧ (Rat.divInt a b).num ≤ (Rat.divInt a b).den := by
  have h0 : (0 : Rat) ≤ Rat.divInt a b := Rat.divInt_nonneg ha (by omega)
  have h1 : Rat.divInt a b ≤ 1 := by
    have := (MA.divInt_le' (a := a) (b := b) (c := 1) (d := 1) hb (by decide)).mpr (by omega)
    have e : Rat.divInt 1 1 = 1 := rfl
    rw [e] at this
    exact this
  refine ⟨Rat.num_nonneg.mpr h0, ?_⟩
  have := (Rat.le_iff (Rat.divInt a b) 1).mp h1
  have e1 : (1 : Rat).num = 1 := rfl
  have e2 : ((1 : Rat).den : Int) = 1 := rfl
  rw [e1, e2] at this
  omega
theorem fold_sum (w : Int) : ∀ (P : List Int) (x : Int), (P.map fun y => Rat.divInt y w).foldl (fun t r => t + r) (Rat.divInt x w) = Rat.divInt (x + P.sum) w
  | [], x => by simp
  | y :: P, x => by rw [List.map_cons, List.foldl_cons, MA.add_divInt, fold_sum w P, List.sum_cons, Int.add_assoc]
theorem ChanceD.ok {n : Nat} {rs : List Rat} (h3 : n ≤ 3) (h : ChanceD n rs) : ChanceOk n rs := by
  obtain ⟨P, rfl, hl, hp, h1, h2⟩ := h
  refine ⟨by simp [hl], h3, fun r hr => ?_, ?_⟩
  · obtain ⟨x, hx, rfl⟩ := List.mem_map.mp hr
    obtain ⟨a, b⟩ := low_le_one (hp x hx) ((le_sum hp).2 x hx) (by omega)
    exact ⟨a, b, by have := low_den_le (a := x) (b := P.sum) (by omega); omega⟩
  · have := fold_sum P.sum P 0
    rw [Rat.zero_divInt, Int.zero_add, Rat.divInt_self' (by omega)] at this
    exact this
theorem ChanceD.bd {n : Nat} {rs : List Rat} (h : ChanceD n rs) : ∀ r ∈ rs, Bd 800 r := by
  obtain ⟨P, rfl, hl, hp, h1, h2⟩ := h
  intro r hr
  obtain ⟨x, hx, rfl⟩ := List.mem_map.mp hr
  have a := (le_sum hp).2 x hx
  have b := hp x hx
  exact (low_bd (B := 5) (by omega) (by omega) (by omega)).mono (by decide)
abbrev cChance : PC1 := fun ds c q _ => ∃ (a m k : Int) (n : Nat), ds = [.int n] ∧ c = jarC a m k ∧ JarOk a m (k + 10) ∧ 0 ≤ k ∧ (n = 2 ∨ n = 3) ∧ ∀ rs, ChanceD n rs → jarQ k 10 (q (.tup (rs.map fr)))
theorem set_sum : ∀ (l : List Int) (j : Nat) (d : Int), j < l.length → (l.set j (l.getD j 0 + d)).sum = l.sum + d
  | [], j, d, h => absurd h (Nat.not_lt_zero _)
  | x :: l, 0, d, _ => by simp; omega
  | x :: l, j + 1, d, h => by
    have := set_sum l j d (by simpa using h)
    simp only [List.set_cons_succ, List.sum_cons, List.getD_cons_succ]
    omega
theorem sum_le : ∀ {P : List Int} {B : Int}, (∀ x ∈ P, x ≤ B) → P.sum ≤ P.length * B
  | [], _, _ => by simp
  | x :: P, B, h => by
    have h0 := h x List.mem_cons_self
    have h1 := sum_le (P := P) (B := B) fun y hy => h y (List.mem_cons_of_mem _ hy)
    rw [List.sum_cons, List.length_cons]
    have : ((P.length + 1 : Nat) : Int) * B = (P.length : Int) * B + B := by rw [Int.natCast_add, Int.add_mul]; simp
    omega
abbrev N__law_chance : List Str := ["_law_jar_here", "_law_size", "_law_parts_here", "_law_k", "_law_whole", "_law_each"]
theorem sc__law_chance : FnScope N__law_chance ["_law_jar_here", "_law_size"] (defScope s__law_chance) := ⟨rfl, rfl, rfl, by decide +kernel, rfl, by decide +kernel, by decide +kernel⟩
theorem ok__law_chance (T : Tx K mg) : FnG P w K mg base "_law_chance" 3 (sp1 K 1 cChance) :=
  mkG1 T 121 rfl rfl sc__law_chance (bind2 rfl fun _ _ _ _ _ _ _ _ => rfl) rfl fun cdv A outer s H E hr tk po => by
    refine ⟨_, (jb_cons (js_setLcO (i := 2) rfl sc__law_chance.nd rfl rfl (sw_true rfl rfl rfl (by decide +kernel)) (own := [("_law_k", 3)]) (g := (gName 3)) (ji_rng1 rfl T.b_range (je_var (pv 1))) (blkOk_by (own := [("_law_k", 3)]) (N := N__law_chance) (sc := defScope s__law_chance) (by decide +kernel)) (fun _ _ _ _ _ => (pg_name (i := 3) sc__law_chance.nd rfl (by first | exact Or.inl rfl | exact Or.inr rfl))) gok_name (fun _ _ _ _ _ => jts_nil) (fun _ _ _ _ _ => (je_call1 (ok__law_dip T) (hr.mono (by decide)) L2.takes0 rfl (ja_cons (je_var (pv 0)) (ja_cons je_int ja_nil)))))
    (jb_cons (js_augS (je_var (pv 2)) (je_call1 (ok__law_dip T) (hr.mono (by decide)) tk rfl (ja_cons (je_var (pv 0)) (ja_cons (je_var (pv 1)) ja_nil))) (je_op op_addD je_int (je_call1 (ok__law_dip T) (hr.mono (by decide)) tk rfl (ja_cons (je_var (pv 0)) (ja_cons je_int ja_nil)))))
    (jb_cons (js_set (i := 4) sc__law_chance.nd rfl (by first | exact .inl rfl | exact .inr rfl) (je_callB (call_sumD rfl) rfl T.b_sum (by decide +kernel) (ja_cons (je_var (pv 2)) ja_nil)))
    (jb_fz 2 (jb_one (js_ret (je_callTy call_tupleD rfl T.b_tuple (by decide +kernel) (ja_cons (je_lc (own := [("_law_each", 5)]) (g := (gName 5)) rfl sc__law_chance.nd (ji_lst (je_var (pv 2))) (blkOk_by (own := [("_law_each", 5)]) (N := N__law_chance) (sc := defScope s__law_chance) (by decide +kernel)) (fun _ _ _ _ _ => (pg_name (i := 5) sc__law_chance.nd rfl (by first | exact Or.inl rfl | exact Or.inr rfl))) gok_name (fun _ _ _ _ _ => jts_nil) (fun _ _ _ _ _ => (je_call0 (ok__law_low T) (hr.mono (by decide)) L2.takes0 rfl (ja_cons (je_var (pv 5)) (ja_cons (je_var (pv 4)) ja_nil))))) ja_nil)))))))), ?_⟩
    rintro ds c q t ⟨a, m, k, n, rfl, rfl, ⟨ha, hm, hm2, hk, hk2⟩, hk0, h23, h⟩ - -
    have n3 : n ≤ 3 := by rcases h23 with h | h <;> omega
    refine ⟨⟨by omega, by omega⟩, ?_⟩
    show lcD _ _ _ _ (rngD 0 n) _ _ _
    rw [rngD_map]
    refine lc_inv (fun items acc S => ∃ (i : Nat) (ns : List Int) (a' m' : Int), items.length + i = n ∧ acc = ns.map D.int ∧ ns.length = i ∧ (∀ x ∈ ns, 0 ≤ x ∧ x ≤ 5) ∧ 0 ≤ a' ∧ 0 ≤ m' ∧ m' < 2147483647 ∧ S = [jarC a' m' (k + i)]) ?_ ?_ _ _ _
      ⟨0, [], a, m, by simp, rfl, rfl, by simp, ha, hm, hm2, by simp⟩
    · rintro d items acc S ⟨i, ns, a', m', hl, rfl, hns, hb, ha', hm', hm2', rfl⟩ K hK
      simp only [List.length_cons] at hl
      refine ⟨rfl, a', m', k + i, _, rfl, rfl, ⟨ha', hm', hm2', by omega, by omega⟩, by decide, by decide, fun r a2 m2 r0 r1 x1 x2 x3 => ?_⟩
      refine ⟨rfl, by simp; omega, hK _ _ ⟨i + 1, ns ++ [r], a2, m2, by omega, by simp, by simp [hns], fun x hx => ?_, x1, x2, x3, ?_⟩⟩
      · rcases List.mem_append.mp hx with hx | hx
        · exact hb x hx
        · rw [List.mem_singleton.mp hx]; omega
      · show [jarC a2 m2 (k + i + 1)] = [jarC a2 m2 (k + ((i + 1 : Nat) : Int))]
        rw [show ((i + 1 : Nat) : Int) = (i : Int) + 1 by omega, Int.add_assoc]
    · rintro acc S ⟨i, ns, a', m', hl, rfl, hns, hb, ha', hm', hm2', rfl⟩
      simp only [List.length_nil, Nat.zero_add] at hl
      subst hl
      refine ⟨rfl, a', m', k + i, _, rfl, rfl, ⟨ha', hm', hm2', by omega, by omega⟩, by omega, by omega, fun r a2 m2 r0 r1 x1 x2 x3 => ?_⟩
      have hr : r.toNat < ns.length := by omega
      refine ⟨ns.getD r.toNat 0, ⟨r0, by omega, ?_⟩, rfl, a2, m2, k + i + 1, _, rfl, rfl, ⟨x1, x2, x3, by omega, by omega⟩, by decide, by decide, fun s a3 m3 s0 s1 y1 y2 y3 => ⟨by rw [List.length_map]; exact hr, ?_⟩⟩
      · rw [List.getElem?_map, List.getElem?_eq_getElem hr, List.getD_eq_getElem?_getD, List.getElem?_eq_getElem hr]; rfl
      have e : (ns.map D.int).set r.toNat (.int (ns.getD r.toNat 0 + (1 + s))) = (ns.set r.toNat (ns.getD r.toNat 0 + (1 + s))).map D.int := by rw [List.map_set]
      rw [e]
      have hsum := set_sum ns r.toNat (1 + s) hr
      have hnn : ∀ x ∈ ns.set r.toNat (ns.getD r.toNat 0 + (1 + s)), 0 ≤ x := fun x hx => by
        rcases List.mem_or_eq_of_mem_set hx with z | z
        · exact (hb x z).1
        · have := (hb _ (MA.getD_mem (l := ns) (d := 0) hr)).1
          omega
      have s5 := sum_le (P := ns) (B := 5) fun x hx => (hb x hx).2
      have s0' := (le_sum (P := ns) fun x hx => (hb x hx).1).1
      have lset : (ns.set r.toNat (ns.getD r.toNat 0 + (1 + s))).length = i := by rw [List.length_set]; exact hns
      generalize ns.set r.toNat (ns.getD r.toNat 0 + (1 + s)) = P at hsum hnn lset
      have w1 : 1 ≤ P.sum := by omega
      have w2 : P.sum ≤ 30 := by rw [hns] at s5; omega
      refine ⟨P, rfl, noLoc_ints _, ?_⟩
      refine lc_mapA P D.int (fun x => fr (Rat.divInt x P.sum)) (fun _ _ => rfl) (by omega) (fun x hx K hK => ?_) ?_
      · exact ⟨x, P.sum, rfl, by omega, Nat.lt_of_lt_of_le (show P.sum.natAbs < 2 ^ 5 by omega) (Nat.pow_le_pow_right (by decide) (by decide)), hK⟩
      · rw [show P.map (fun x => fr (Rat.divInt x P.sum)) = (MA.chanceOf P).map fr by rw [List.map_map]; rfl]
        have := h (MA.chanceOf P) ⟨P, rfl, lset, hnn, w1, w2⟩ a3 m3 (k + i + 1 + 1) y1 y2 y3 (by omega) (by omega)
        exact ⟨trivial, rfl, this⟩
end
end SC
end

section
set_option maxHeartbeats 4000000
namespace SC
open PySem L2 DL
section
variable {P : Program} {w : World} {K : PySem.W.Frag} {mg : Str → Option Value} {base : Heap}

abbrev cQuotesL : PC1 := fun ds c q _ => ∃ (a m k : Int) (n many : Nat) (slack : Int), ds = [.int n, .int many, .int slack] ∧ c = jarC a m k ∧ JarOk a m (k + 60) ∧ 0 ≤ k ∧ (n = 2 ∨ n = 3) ∧ many ≤ 3 ∧ slack ≤ 1000 ∧
  ∀ qs : List Qt, QsOk n qs → qs.length = many → jarQ k 60 (q (qsd qs))
theorem mem4 {d : D} (h : d ∈ [D.int 1, .int 1, .int 2, .int 5]) : ∃ v : Int, d = .int v ∧ 1 ≤ v ∧ v ≤ 5 := by
  simp only [List.mem_cons, List.not_mem_nil, or_false] at h
  rcases h with rfl | rfl | rfl | rfl
  · exact ⟨1, rfl, by decide, by decide⟩
  · exact ⟨1, rfl, by decide, by decide⟩
  · exact ⟨2, rfl, by decide, by decide⟩
  · exact ⟨5, rfl, by decide, by decide⟩
theorem mem5 {d : D} (h : d ∈ [D.int 0, .int 0, .int 1, .int 2, .int 5]) : ∃ v : Int, d = .int v ∧ -5 ≤ v ∧ v ≤ 5 := by
  simp only [List.mem_cons, List.not_mem_nil, or_false] at h
  rcases h with rfl | rfl | rfl | rfl | rfl
  · exact ⟨0, rfl, by decide, by decide⟩
  · exact ⟨0, rfl, by decide, by decide⟩
  · exact ⟨1, rfl, by decide, by decide⟩
  · exact ⟨2, rfl, by decide, by decide⟩
  · exact ⟨5, rfl, by decide, by decide⟩
theorem mul_le5 {x y : Int} (h1 : -5 ≤ x) (h2 : x ≤ 5) (hy : 0 ≤ y) : -(5 * y) ≤ x * y ∧ x * y ≤ 5 * y := by
  constructor
  · have := Int.mul_le_mul_of_nonneg_right h1 hy
    omega
  · exact Int.mul_le_mul_of_nonneg_right h2 hy
theorem dot_le {n : Nat} (h : n = 2 ∨ n = 3) {ns P : List Int} (hn : ns.length = n) (hP : P.length = n) (h5 : ∀ x ∈ ns, -5 ≤ x ∧ x ≤ 5) (h0 : ∀ x ∈ P, 0 ≤ x) : -(5 * P.sum) ≤ MA.dot ns P ∧ MA.dot ns P ≤ 5 * P.sum := by
  rcases h with rfl | rfl
  · obtain ⟨a, b, rfl⟩ := MA.len2 hn
    obtain ⟨c, d, rfl⟩ := MA.len2 hP
    have ha := h5 a (by simp)
    have hb := h5 b (by simp)
    have m1 := mul_le5 ha.1 ha.2 (h0 c (by simp))
    have m2 := mul_le5 hb.1 hb.2 (h0 d (by simp))
    simp only [MA.dot, List.sum_cons, List.sum_nil]
    omega
  · obtain ⟨a, b, e, rfl⟩ := MA.len3 hn
    obtain ⟨c, d, f, rfl⟩ := MA.len3 hP
    have ha := h5 a (by simp)
    have hb := h5 b (by simp)
    have he := h5 e (by simp)
    have m1 := mul_le5 ha.1 ha.2 (h0 c (by simp))
    have m2 := mul_le5 hb.1 hb.2 (h0 d (by simp))
    have m3 := mul_le5 he.1 he.2 (h0 f (by simp))
    simp only [MA.dot, List.sum_cons, List.sum_nil]
    omega
/-- sizes of a drawn worth -/
theorem worth_sz {n : Nat} (h : n = 2 ∨ n = 3) {ns : List Int} {rs : List Rat} (hn : ns.length = n) (h5 : ∀ x ∈ ns, -5 ≤ x ∧ x ≤ 5) (hc : ChanceD n rs) : (worthR ns rs).num.natAbs ≤ 150 ∧ ((worthR ns rs).den : Int) ≤ 30 := by
  obtain ⟨P, rfl, hl, hp, h1, h2⟩ := hc
  have e : worthR ns (MA.chanceOf P) = Rat.divInt (MA.dot ns P) P.sum := MA.wr_chance h hn hl P.sum
  rw [e]
  have d := dot_le h hn hl h5 hp
  have a := low_num_le (a := MA.dot ns P) (b := P.sum) (by omega)
  have b := low_den_le (a := MA.dot ns P) (b := P.sum) (by omega)
  exact ⟨by omega, by omega⟩
theorem price_ok {r : Rat} {v : Int} (h1 : r.num.natAbs ≤ 150) (h2 : (r.den : Int) ≤ 30) (h3 : -5 ≤ v) (h4 : v ≤ 5) : PriceOk (Rat.divInt (r.num * 4 - v * r.den) (r.den * 4)) := by
  have hd := den_pos' r
  have m := mul_le5 h3 h4 (y := (r.den : Int)) (by omega)
  have a := low_num_le (a := r.num * 4 - v * r.den) (b := (r.den : Int) * 4) (by omega)
  have b := low_den_le (a := r.num * 4 - v * r.den) (b := (r.den : Int) * 4) (by omega)
  have c : (r.num * 4 - v * r.den).natAbs ≤ 1000 := by omega
  exact ⟨by omega, by omega, by omega⟩
abbrev N__law_quotes : List Str := ["_law_jar_here", "_law_size", "_law_many", "_law_slack", "_law_middle", "_law_found", "_law_turn", "_law_payoff_here", "_law_top", "_law_bottom", "_law_less_here"]
theorem sc__law_quotes : FnScope N__law_quotes ["_law_jar_here", "_law_size", "_law_many", "_law_slack"] (defScope s__law_quotes) := ⟨rfl, rfl, rfl, by decide +kernel, rfl, by decide +kernel, by decide +kernel⟩
theorem ok__law_quotes (T : Tx K mg) : FnG P w K mg base "_law_quotes" 5 (sp1 K 3 cQuotesL) :=
  mkG1 T 122 rfl rfl sc__law_quotes (bind4 rfl fun _ _ _ _ _ _ _ _ _ _ => rfl) rfl fun cdv A outer s H E hr tk po => by
    refine ⟨_, (jb_cons (js_par (i := 4) (j := 5) rfl sc__law_quotes.nd rfl rfl (by decide) rfl rfl (ja_cons (je_call1 (ok__law_chance T) (hr.mono (by decide)) tk rfl (ja_cons (je_var (pv 0)) (ja_cons (je_var (pv 1)) ja_nil))) (ja_cons (je_lstO ja_nil) ja_nil)) (by rfl))
    (jb_cons (js_for po rfl (ji_rng1 rfl T.b_range (je_var (pv 2))) (jg_name (pg_name (i := 6) sc__law_quotes.nd rfl (by first | exact .inl rfl | exact .inr rfl))) (jb_cons (js_set (i := 7) sc__law_quotes.nd rfl (by first | exact .inl rfl | exact .inr rfl) (je_call1 (ok__law_payoff T) (hr.mono (by decide)) tk rfl (ja_cons (je_var (pv 0)) (ja_cons (je_var (pv 1)) (ja_cons (je_call1 (ok__law_one_of T) (hr.mono (by decide)) tk rfl (ja_cons (je_var (pv 0)) (ja_cons (je_lst (ja_cons je_int (ja_cons je_int (ja_cons je_int (ja_cons je_int ja_nil))))) ja_nil))) ja_nil)))))
    (jb_cons (js_asg (je_call0 (ok__law_worth T) (hr.mono (by decide)) tk rfl (ja_cons (je_var (pv 7)) (ja_cons (je_var (pv 4)) ja_nil))) (jg_tup rfl (jgs_cons (jg_name (pg_name (i := 8) sc__law_quotes.nd rfl (by first | exact .inl rfl | exact .inr rfl))) (jgs_cons (jg_name (pg_name (i := 9) sc__law_quotes.nd rfl (by first | exact .inl rfl | exact .inr rfl))) jgs_nil))))
    (jb_cons (js_set (i := 10) sc__law_quotes.nd rfl (by first | exact .inl rfl | exact .inr rfl) (je_call1 (ok__law_one_of T) (hr.mono (by decide)) tk rfl (ja_cons (je_var (pv 0)) (ja_cons (je_lst (ja_cons je_int (ja_cons je_int (ja_cons je_int (ja_cons je_int (ja_cons je_int ja_nil)))))) ja_nil))))
    (jb_cons (js_if (jt_w (jw_and (jt_cmp op_gtD (je_var (pv 3)) je_int (nomark _)) (jw_and1 (jt_cmp (op_eqD' hr.units) (je_call1 (ok__law_dip T) (hr.mono (by decide)) tk rfl (ja_cons (je_var (pv 0)) (ja_cons (je_var (pv 3)) ja_nil))) je_int (nomark _))))) (jb_one (js_set (i := 10) sc__law_quotes.nd rfl (by first | exact .inl rfl | exact .inr rfl) (je_op op_subD (je_op op_subD je_int je_int) (je_call1 (ok__law_dip T) (hr.mono (by decide)) tk rfl (ja_cons (je_var (pv 0)) (ja_cons je_int ja_nil)))))) jb_nil)
    (jb_one (js_expr (je_app (je_var (pv 5)) (je_tup (ja_cons (je_var (pv 7)) (ja_cons (je_call0 (ok__law_low T) (hr.mono (by decide)) tk rfl (ja_cons (je_op op_subD (je_op op_mulD (je_var (pv 8)) je_int) (je_op op_mulD (je_var (pv 10)) (je_var (pv 9)))) (ja_cons (je_op op_mulD (je_var (pv 9)) je_int) ja_nil))) ja_nil)))))))))))
    (jb_one (js_ret (je_callTy call_tupleD rfl T.b_tuple (by decide +kernel) (ja_cons (je_var (pv 5)) ja_nil)))))), ?_⟩
    rintro ds c q t ⟨a, m, k, n, many, slack, rfl, rfl, ⟨ha, hm, hm2, hk, hk2⟩, hk0, h23, hmany, hsl, h⟩ - -
    have n3 : n ≤ 3 := by rcases h23 with h | h <;> omega
    refine ⟨rfl, a, m, k, n, rfl, rfl, ⟨ha, hm, hm2, by omega, by omega⟩, hk0, h23, fun rs hc a1 m1 k1 y1 y2 y3 y4 y5 => ?_⟩
    refine ⟨⟨by omega, by omega⟩, ?_⟩
    show forD _ _ _ (rngD 0 many) _ _
    rw [rngD_map, List.range_eq_range']
    refine for_inv (fun items ds S => ∃ (i r : Nat) (qs : List Qt) (a' m' k' : Int) (p6 p7 p8 p9 p10 : Option D), items = (List.range' i r).map (fun i : Nat => D.int i) ∧ i + r = many ∧ QsOk n qs ∧ qs.length = i ∧ 0 ≤ a' ∧ 0 ≤ m' ∧ m' < 2147483647 ∧ k ≤ k' ∧ k' ≤ k + 10 + 12 * i ∧
      S = [jarC a' m' k', .lst (qs.map qd)] ∧ ds = [some (.loc 0), some (.int n), some (.int many), some (.int slack), some (.tup (rs.map fr)), some (.loc 1), p6, p7, p8, p9, p10]) ?_ ?_ _ _ _
      ⟨0, many, [], a1, m1, k1, _, _, _, _, _, rfl, by omega, ⟨by decide, by simp⟩, rfl, y1, y2, y3, y4, by omega, rfl, rfl⟩
    · rintro d items ds S ⟨i, r, qs, a', m', k', p6, p7, p8, p9, p10, e, hir, hq, hl, z1, z2, z3, z4, z5, rfl, rfl⟩ K hK
      cases r with
      | zero => cases e
      | succ r =>
        rw [List.range'_succ, List.map_cons] at e
        injection e with e1 e2
        subst e1 e2
        refine ⟨rfl, a', m', k', _, rfl, rfl, rfl, ⟨z1, z2, z3, by omega, by omega⟩, by decide, by decide, fun d a2 m2 hd w1 w2 w3 => ?_⟩
        obtain ⟨top, rfl, t1, t5⟩ := mem4 hd
        refine ⟨rfl, a2, m2, k' + 1, n, top, rfl, rfl, ⟨w1, w2, w3, by omega, by omega⟩, by omega, by omega, by omega, by omega, fun ns a3 m3 hn hb x1 x2 x3 => ?_⟩
        have h5 : ∀ x ∈ ns, -5 ≤ x ∧ x ≤ 5 := fun x hx => by have := hb x hx; omega
        have hrl : rs.length = n := by obtain ⟨P, rfl, hl, _⟩ := hc; simp [hl]
        obtain ⟨s1, s2⟩ := worth_sz h23 hn h5 hc
        refine ⟨ns, rs, rfl, by omega, by omega, fun x hx => by have := h5 x hx; omega, hc.bd, ?_⟩
        generalize worthR ns rs = wv at s1 s2
        have hd := den_pos' wv
        refine ⟨rfl, a3, m3, k' + 1 + n, _, rfl, rfl, rfl, ⟨x1, x2, x3, by omega, by omega⟩, by decide, by decide, fun d a4 m4 hd4 v1 v2 v3 => ?_⟩
        obtain ⟨less, rfl, l1, l5⟩ := mem5 hd4
        have fin : ∀ (v a5 m5 k5 : Int), -5 ≤ v → v ≤ 5 → 0 ≤ a5 → 0 ≤ m5 → m5 < 2147483647 → k ≤ k5 → k5 ≤ k' + 1 + n + 1 + 2 → rDrop (rApp (rVar 5) (rTup (rCons (rVar 7) (rCons (rCall0 2 cLow (rCons (rOp oSub (rOp oMul (rVar 8) (rC (D.int 4))) (rOp oMul (rVar 10) (rVar 9))) (rCons (rOp oMul (rVar 9) (rC (D.int 4))) rNil))) rNil))))
            { out1 q t with nx := K, bk := fun _ _ => False, ct := K } [some (.loc 0), some (.int n), some (.int many), some (.int slack), some (.tup (rs.map fr)), some (.loc 1), some (.int i), some (inz ns), some (.int wv.num), some (.int wv.den), some (.int v)] [jarC a5 m5 k5, .lst (qs.map qd)] := by
          intro v a5 m5 k5 v1 v5 g1 g2 g3 g4 g5
          have bn : wv.num.natAbs < 2 ^ 8 := by omega
          have bd : ((wv.den : Nat) : Int).natAbs < 2 ^ 8 := by omega
          have bv : v.natAbs < 2 ^ 8 := by omega
          refine ⟨mulW' (a := 8) (b := 8) bn (by decide), mulW' bv bd, mulW' bd (by decide : (4 : Int).natAbs < 2 ^ 8), wv.num * 4 - v * wv.den, wv.den * 4, rfl, by omega, Nat.lt_of_lt_of_le (show ((wv.den : Int) * 4).natAbs < 2 ^ 10 by omega) (Nat.pow_le_pow_right (by decide) (by decide)), ?_⟩
          refine ⟨by rw [List.length_map]; omega, hK _ _ ⟨i + 1, r, qs ++ [⟨ns, Rat.divInt (wv.num * 4 - v * wv.den) (wv.den * 4)⟩], a5, m5, k5, _, _, _, _, _, rfl, by omega, ⟨by simp; omega, fun x hx => ?_⟩, by simp [hl], g1, g2, g3, g4, by omega, by rw [List.map_append]; rfl, rfl⟩⟩
          rcases List.mem_append.mp hx with hx | hx
          · exact hq.2 x hx
          · rw [List.mem_singleton.mp hx]
            exact ⟨⟨hn, fun p hp => by have := h5 p hp; omega⟩, price_ok s1 s2 v1 v5⟩
        refine onB (fun y => ?_) fun y => ?_
        · have y := of_decide_eq_true y
          refine ⟨rfl, a4, m4, k' + 1 + n + 1, slack, rfl, rfl, ⟨v1, v2, v3, by omega, by omega⟩, by omega, by omega, fun rr a5 m5 r0 r1 u1 u2 u3 => ?_⟩
          refine onB (fun x => ?_) fun x => ?_
          · refine ⟨rfl, a5, m5, k' + 1 + n + 1 + 1, 3, rfl, rfl, ⟨u1, u2, u3, by omega, by omega⟩, by decide, by decide, fun s a6 m6 s0 s1' o1 o2 o3 => ?_⟩
            exact fin (0 - 1 - s) a6 m6 (k' + 1 + n + 1 + 1 + 1) (by omega) (by omega) o1 o2 o3 (by omega) (by omega)
          · exact fin less a5 m5 (k' + 1 + n + 1 + 1) l1 l5 u1 u2 u3 (by omega) (by omega)
        · exact fin less a4 m4 (k' + 1 + n + 1) l1 l5 v1 v2 v3 (by omega) (by omega)
    · rintro ds S ⟨i, r, qs, a', m', k', p6, p7, p8, p9, p10, e, hir, hq, hl, z1, z2, z3, z4, z5, rfl, rfl⟩
      cases r with
      | succ r => cases e
      | zero => exact ⟨noLoc_map (fun _ => rfl) _, trivial, rfl, h qs hq (by omega) a' m' k' z1 z2 z3 z4 (by omega)⟩
end
end SC
end

section
set_option maxHeartbeats 4000000
namespace SC
open PySem L2 DL
section
variable {P : Program} {w : World} {K : PySem.W.Frag} {mg : Str → Option Value} {base : Heap}

mutual
theorem eqb_self : ∀ (n : Nat) (d : D), okE n d = true → eqb d d = true
  | _, .non, _ => rfl
  | _, .int i, _ => by show (i == i) = true; simp
  | n, .tup xs, h => eqbs_self (n - 1) xs (Bool.and_eq_true_iff.mp (show (Nat.blt 0 n && okEs (n - 1) xs) = true from h)).2
  | n, .lst xs, h => eqbs_self (n - 1) xs (Bool.and_eq_true_iff.mp (show (Nat.blt 0 n && okEs (n - 1) xs) = true from h)).2
  | _, .bl _, h => by cases h
  | _, .str _, h => by cases h
  | _, .ty _, h => by cases h
  | _, .adr _, h => by cases h
  | _, .any, h => by cases h
  | _, .scr _, h => by cases h
  | _, .obj _ _, h => by cases h
  | _, .loc _, h => by cases h
  | _, .txt _, h => by cases h
  | _, .fn _, h => by cases h
theorem eqbs_self : ∀ (n : Nat) (ds : List D), okEs n ds = true → eqbs ds ds = true
  | _, [], _ => rfl
  | n, d :: ds, h => by
    obtain ⟨h1, h2⟩ := Bool.and_eq_true_iff.mp (show (okE n d && okEs n ds) = true from h)
    show (eqb d d && eqbs ds ds) = true
    rw [eqb_self n d h1, eqbs_self n ds h2]; rfl
end
theorem okE_ints (n : Nat) (ns : List Int) : okE (n + 1) (inz ns) = true := okEs_map (n := n) (f := D.int) (fun _ => rfl) ns
theorem okE_qd (x : Qt) : okE 5 (qd x) = true := by
  show (okE 4 (inz x.pay) && (okE 4 (fr x.price) && true)) = true
  rw [okE_ints 3]; rfl
theorem okE_qs (qs : List Qt) : okE 6 (qsd qs) = true := okEs_map (fun x => okE_qd x) qs
abbrev cTwoR : PC := fun ds q _ => ∃ (n : Nat) (qs rs : List Qt) (ns : List Int) (s : Rat), ds = [.int n, qsd qs, qsd rs, inz ns, fr s] ∧ B23 n (qs ++ rs) ∧ PayOk n ns ∧ ShareOk s ∧ q (.bl true)
theorem okE_crs (cs : List (List Rat)) : okE 6 (.lst (cs.map crnD)) = true := okEs_map (fun c => okE_crn4 c) _
theorem nil_crs (cs : List (List Rat)) : eqb (.lst (cs.map crnD)) (.lst []) = cs.isEmpty := by cases cs <;> rfl
theorem CrS.emp {n : Nat} {qs : List Qt} {cs : List (List Rat)} (h : CrS n qs cs) : cs.isEmpty = !sound n qs := by
  cases z : sound n qs with
  | false =>
    have := h.nil.mpr z
    subst this; rfl
  | true =>
    cases cs with
    | nil => exact absurd (h.nil.mp rfl) (by rw [z]; decide)
    | cons c cs => rfl
theorem share0 : ShareOk 0 := ⟨by decide, by decide, by decide⟩
theorem sound_left {n : Nat} {qs rs : List Qt} (h : sound n (qs ++ rs) = true) : sound n qs = true := by
  obtain ⟨Q, hQ⟩ := sound_iff.mp h
  refine sound_iff.mpr ⟨Q, ?_⟩
  unfold gsOf at hQ
  rw [List.map_append] at hQ
  exact hQ.less
theorem min_left {n : Nat} {qs rs : List Qt} (hb : B23 n (qs ++ rs)) {ns : List Int} (hn : PayOk n ns) (h : sound n (qs ++ rs) = true) : minW n qs ns ≤ minW n (qs ++ rs) ns := by
  have h1 := minW_min hb.left hn (sound_left h)
  have h2 := minW_min hb hn h
  unfold gsOf at h2
  rw [List.map_append] at h2
  exact h1.mono h2
theorem gmin_le (a b : Rat) : gmin a b ≤ a ∧ gmin a b ≤ b := by unfold gmin; split <;> constructor <;> grind
theorem mix_ge {a b s : Rat} (h0 : 0 ≤ s) (h1 : s ≤ 1) : gmin a b ≤ (1 - s) * a + s * b := by
  obtain ⟨g1, g2⟩ := gmin_le a b
  generalize gmin a b = g at g1 g2
  have e1 : (1 - s) * g ≤ (1 - s) * a := Rat.mul_le_mul_of_nonneg_left g1 (by grind)
  have e2 : s * g ≤ s * b := Rat.mul_le_mul_of_nonneg_left g2 h0
  grind
theorem ShareOk.le1 {s : Rat} (h : ShareOk s) : s ≤ 1 := by
  rw [Rat.le_iff]
  have e1 : (1 : Rat).num = 1 := rfl
  have e2 : ((1 : Rat).den : Int) = 1 := rfl
  rw [e1, e2]
  have := h.2.1
  omega
theorem ends_t {n : Nat} {qs : List Qt} {ns : List Int} (h : sound n qs = true) : endsD n qs ns = .tup [fr (minW n qs ns), fr (maxW n qs ns)] := by unfold endsD; rw [if_pos h]
theorem ends_f {n : Nat} {qs : List Qt} {ns : List Int} (h : sound n qs = false) : endsD n qs ns = .tup [] := by unfold endsD; rw [h, if_neg (by decide)]
abbrev N__law_two_right : List Str := ["_law_size", "_law_one", "_law_two", "_law_payoff_here", "_law_share", "_law_first", "_law_second", "_law_whole", "_law_near", "_law_far", "_law_low_here", "_law_rest", "_law_mixed"]
theorem sc__law_two_right : FnScope N__law_two_right ["_law_size", "_law_one", "_law_two", "_law_payoff_here", "_law_share"] (defScope s__law_two_right) := ⟨rfl, rfl, rfl, by decide +kernel, rfl, by decide +kernel, by decide +kernel⟩
theorem ok__law_two_right (T : Tx K mg) : FnG P w K mg base "_law_two_right" 11 (sp0 K 5 cTwoR) :=
  mkG0 T 134 rfl rfl sc__law_two_right (bind5 rfl fun _ _ _ _ _ _ _ _ _ _ _ => rfl) rfl fun cdv A outer s H E hr tk po => by
    refine ⟨_, (jb_cons (js_par3 (i := 5) (j := 6) (l := 7) rfl sc__law_two_right.nd rfl rfl rfl (by decide) (by decide) (by decide) rfl rfl rfl (ja_cons (je_makeF (ok_Book_init T) (hr.mono (by decide)) rfl (ja_cons (je_var (pv 0)) (ja_cons (je_var (pv 1)) ja_nil))) (ja_cons (je_makeF (ok_Book_init T) (hr.mono (by decide)) rfl (ja_cons (je_var (pv 0)) (ja_cons (je_var (pv 2)) ja_nil))) (ja_cons (je_call0 (ok__law_corners T) (hr.mono (by decide)) tk rfl (ja_cons (je_var (pv 0)) (ja_cons (je_op op_addD (je_var (pv 1)) (je_var (pv 2))) ja_nil))) ja_nil))) (by rfl))
    (jb_cons (js_if (jt_w (jw_or (jt_cmp (op_neD' hr.units) (je_prop0 (ok_Book_quotes T) (hr.mono (by decide)) (je_call0 (ok_both T) (hr.mono (by decide)) tk rfl (ja_cons (je_var (pv 5)) (ja_cons (je_var (pv 6)) ja_nil)))) (je_op op_addD (je_var (pv 1)) (je_var (pv 2))) (nomark _)) (jw_or1 (jt_cmp (op_neD' hr.units) (je_callR (ok_do_meet T) (hr.mono (by decide)) tk rfl (je_var (pv 6)) (je_var (pv 5))) (je_cmp (op_neD' hr.units) (je_var (pv 7)) (je_lst ja_nil) (nomark _)) (nomark _))))) (jb_one (js_ret je_bl)) jb_nil)
    (jb_cons (js_if (jt_cmp (op_neD' hr.units) (je_call0 (ok_is_sound T) (hr.mono (by decide)) tk rfl (ja_cons (je_call0 (ok_both T) (hr.mono (by decide)) tk rfl (ja_cons (je_var (pv 5)) (ja_cons (je_var (pv 6)) ja_nil))) ja_nil)) (je_cmp (op_neD' hr.units) (je_var (pv 7)) (je_lst ja_nil) (nomark _)) (nomark _)) (jb_one (js_ret je_bl)) jb_nil)
    (jb_cons (js_par (i := 8) (j := 9) rfl sc__law_two_right.nd rfl rfl (by decide) rfl rfl (ja_cons (je_call0 (ok__law_ends T) (hr.mono (by decide)) tk rfl (ja_cons (je_var (pv 0)) (ja_cons (je_var (pv 1)) (ja_cons (je_var (pv 3)) ja_nil)))) (ja_cons (je_call0 (ok__law_ends T) (hr.mono (by decide)) tk rfl (ja_cons (je_var (pv 0)) (ja_cons (je_var (pv 2)) (ja_cons (je_var (pv 3)) ja_nil)))) ja_nil)) (by rfl))
    (jb_cons (js_if (jt_w (jw_or (jt_cmp (op_eqD' hr.units) (je_var (pv 8)) (je_tup ja_nil) (nomark _)) (jw_or1 (jt_cmp (op_eqD' hr.units) (je_var (pv 9)) (je_tup ja_nil) (nomark _))))) (jb_one (js_ret je_bl)) jb_nil)
    (jb_cons (js_set (i := 10) sc__law_two_right.nd rfl (by first | exact .inl rfl | exact .inr rfl) (je_call0 (ok__law_least T) (hr.mono (by decide)) tk rfl (ja_cons (je_lst (ja_cons (je_ix (je_var (pv 8)) je_int) (ja_cons (je_ix (je_var (pv 9)) je_int) ja_nil))) ja_nil)))
    (jb_cons (js_set (i := 11) sc__law_two_right.nd rfl (by first | exact .inl rfl | exact .inr rfl) (je_call0 (ok__law_plus T) (hr.mono (by decide)) tk rfl (ja_cons (je_tup (ja_cons je_int (ja_cons je_int ja_nil))) (ja_cons (je_call0 (ok__law_minus T) (hr.mono (by decide)) tk rfl (ja_cons (je_var (pv 4)) ja_nil)) ja_nil))))
    (jb_cons (js_set (i := 12) sc__law_two_right.nd rfl (by first | exact .inl rfl | exact .inr rfl) (je_call0 (ok__law_plus T) (hr.mono (by decide)) tk rfl (ja_cons (je_call0 (ok__law_times T) (hr.mono (by decide)) tk rfl (ja_cons (je_var (pv 11)) (ja_cons (je_ix (je_var (pv 8)) je_int) ja_nil))) (ja_cons (je_call0 (ok__law_times T) (hr.mono (by decide)) tk rfl (ja_cons (je_var (pv 4)) (ja_cons (je_ix (je_var (pv 9)) je_int) ja_nil))) ja_nil))))
    (jb_cons (js_if (jt_w (jw_or (jt_cmp (op_neD' hr.units) (je_call0 (ok_least_between T) (hr.mono (by decide)) tk rfl (ja_cons (je_var (pv 5)) (ja_cons (je_var (pv 6)) (ja_cons (je_var (pv 3)) ja_nil)))) (je_var (pv 10)) (nomark _)) (jw_or1 (jt_cmp (op_neD' hr.units) (je_call0 (ok_least_blend T) (hr.mono (by decide)) tk rfl (ja_cons (je_var (pv 5)) (ja_cons (je_var (pv 6)) (ja_cons (je_var (pv 4)) (ja_cons (je_var (pv 3)) ja_nil))))) (je_var (pv 12)) (nomark _))))) (jb_one (js_ret je_bl)) jb_nil)
    (jb_cons (js_if (jt_w (jw_and (jt_cmp (op_neD' hr.units) (je_var (pv 7)) (je_lst ja_nil) (nomark _)) (jw_and1 (jt_val (je_call0 (ok__law_less T) (hr.mono (by decide)) tk rfl (ja_cons (je_call0 (ok_least_worth T) (hr.mono (by decide)) tk rfl (ja_cons (je_call0 (ok_both T) (hr.mono (by decide)) tk rfl (ja_cons (je_var (pv 5)) (ja_cons (je_var (pv 6)) ja_nil))) (ja_cons (je_var (pv 3)) ja_nil))) (ja_cons (je_var (pv 10)) ja_nil))))))) (jb_one (js_ret je_bl)) jb_nil)
    (jb_one (js_ret (je_and (je_not (je_call0 (ok__law_less T) (hr.mono (by decide)) tk rfl (ja_cons (je_var (pv 12)) (ja_cons (je_var (pv 10)) ja_nil)))) (je_one (je_cmp (op_eqD' hr.units) (je_call0 (ok_least_blend T) (hr.mono (by decide)) tk rfl (ja_cons (je_var (pv 5)) (ja_cons (je_var (pv 6)) (ja_cons (je_tup (ja_cons je_int (ja_cons je_int ja_nil))) (ja_cons (je_var (pv 3)) ja_nil))))) (je_ix (je_var (pv 8)) je_int) (nomark _)))))))))))))))), ?_⟩
    rintro ds q t ⟨n, qs, rs, ns, s, rfl, hb, hn, hs, h⟩ -
    have n3 := hb.n3
    have n2 : 2 ≤ n := hb.ok.1
    have hl := hb.ok.2.2.1
    rw [List.length_append] at hl
    have hbq := hb.left
    have hbr := hb.right
    refine ⟨qs, n, rfl, n2, by omega, hbq.ok.2.2, rfl, rs, n, rfl, n2, by omega, hbr.ok.2.2, rfl, ?_⟩
    have ea : qs.map qd ++ rs.map qd = (qs ++ rs).map qd := by rw [List.map_append]
    refine ⟨by simp; omega, n, qs ++ rs, by rw [ea], hb, fun cs h1 h2 h3 => ?_⟩
    have cr : CrS n (qs ++ rs) cs := ⟨hb, h1, h2, h3⟩
    refine ⟨qs, rs, n, rfl, hb.ok, qs ++ rs, n, rfl, by simp; omega, okE_qs _, ?_⟩
    rw [ea]
    refine ⟨okE_qs _, ?_⟩
    refine onF (by rw [eqb_self 6 _ (okE_qs _)]; rfl) ?_
    have emp : eqb (.lst (cs.map crnD)) (.lst []) = !sound n (qs ++ rs) := by rw [nil_crs, cr.emp]
    refine ⟨n, qs, rs, rfl, hb, okE_crs cs, rfl, ?_⟩
    refine onF (by rw [emp]; cases sound n (qs ++ rs) <;> rfl) ?_
    refine ⟨qs, rs, n, rfl, hb.ok, n, qs ++ rs, rfl, hb, okE_crs cs, rfl, ?_⟩
    refine onF (by rw [emp]; cases sound n (qs ++ rs) <;> rfl) ?_
    refine ⟨n, qs, ns, rfl, hbq, hn, n, rs, ns, rfl, hbr, hn, ?_⟩
    cases hsq : sound n qs with
    | false =>
      rw [ends_f hsq]
      exact ⟨rfl, rfl, h⟩
    | true =>
      rw [ends_t hsq]
      cases hsr : sound n rs with
      | false =>
        rw [ends_f hsr]
        exact ⟨rfl, rfl, rfl, rfl, h⟩
      | true =>
        rw [ends_t hsr]
        have ba := minW_bd hbq hn hsq
        have bb := minW_bd hbr hn hsr
        have le2 : sound n (qs ++ rs) = true → minW n qs ns ≤ minW n (qs ++ rs) ns := min_left hb hn
        have b12 : sound n (qs ++ rs) = true → Bd 120 (minW n (qs ++ rs) ns) := minW_bd hb hn
        generalize hma : maxW n qs ns = ma
        generalize hmb : maxW n rs ns = mb
        have bs := hs.bd
        have b1 : Bd 1 (1 : Rat) := int_bd (n := 1) (by decide) (by decide)
        have br : Bd 30 (1 + -s) := (b1.add bs.neg).mono (by decide)
        have bg : Bd 120 (gmin (minW n qs ns) (minW n rs ns)) := gmin_bd ba bb
        have bm : Bd 400 ((1 + -s) * minW n qs ns + s * minW n rs ns) := ((br.mul ba).add (bs.mul bb)).mono (by decide)
        refine ⟨rfl, rfl, rfl, rfl, fr (minW n qs ns), rfl, fr (minW n rs ns), rfl, minW n qs ns, [minW n rs ns], rfl, fun x hx => ?_, ?_⟩
        · rcases List.mem_cons.mp hx with rfl | hx
          · exact ba.mono (by decide)
          · rw [List.mem_singleton.mp hx]; exact bb.mono (by decide)
        refine ⟨s, rfl, (1 : Rat), -s, rfl, b1.mono (by decide), bs.neg.mono (by decide), fr (minW n qs ns), rfl, 1 + -s, minW n qs ns, rfl, br.mono (by decide), ba.mono (by decide), fr (minW n rs ns), rfl, s, minW n rs ns, rfl, bs.mono (by decide), bb.mono (by decide), ?_⟩
        refine ⟨(1 + -s) * minW n qs ns, s * minW n rs ns, rfl, (br.mul ba).mono (by decide), (bs.mul bb).mono (by decide), ?_⟩
        refine ⟨n, qs, rs, ns, rfl, hbq, hbr, hn, hsq, hsr, rfl, rfl, ?_⟩
        refine onF (by show (true ^^ eqb (fr (gmin (minW n qs ns) (minW n rs ns))) (fr (gmin (minW n qs ns) (minW n rs ns)))) = false; rw [eqb_fr]; simp) ?_
        refine ⟨n, qs, rs, s, ns, rfl, hbq, hbr, hs, hn, hsq, hsr, rfl, rfl, ?_⟩
        refine onF (by
          show (true ^^ eqb (fr ((1 - s) * minW n qs ns + s * minW n rs ns)) (fr ((1 + -s) * minW n qs ns + s * minW n rs ns))) = false
          rw [eqb_fr, Rat.sub_eq_add_neg]; simp) ?_
        have fin : rRet (rAndV (rNotV (rCall0 2 cLess (rCons (rVar 12) (rCons (rVar 10) rNil)))) (rOp (oEq false) (rCall0 4 cBlend (rCons (rVar 5) (rCons (rVar 6) (rCons (rTup (rCons (rC (D.int 0)) (rCons (rC (D.int 1)) rNil))) (rCons (rVar 3) rNil))))) (rOp oIx (rVar 8) (rC (D.int 0)))))
            (out0 q t) [some (.int n), some (qsd qs), some (qsd rs), some (inz ns), some (fr s), some (bkd n qs), some (bkd n rs), some (.lst (cs.map crnD)), some (.tup [fr (minW n qs ns), fr ma]), some (.tup [fr (minW n rs ns), fr mb]), some (fr (gmin (minW n qs ns) (minW n rs ns))), some (fr (1 + -s)), some (fr ((1 + -s) * minW n qs ns + s * minW n rs ns))] [] := by
          refine ⟨(1 + -s) * minW n qs ns + s * minW n rs ns, gmin (minW n qs ns) (minW n rs ns), rfl, bm.mono (by decide), bg.mono (by decide), ?_⟩
          have ge : gmin (minW n qs ns) (minW n rs ns) ≤ (1 + -s) * minW n qs ns + s * minW n rs ns := by
            have := mix_ge (a := minW n qs ns) (b := minW n rs ns) hs.nn hs.le1
            rwa [Rat.sub_eq_add_neg] at this
          refine onT (by rw [decide_eq_false (Rat.not_lt.mpr ge)]; rfl) ?_
          refine ⟨n, qs, rs, 0, ns, rfl, hbq, hbr, share0, hn, hsq, hsr, fr (minW n qs ns), rfl, rfl, rfl, ?_⟩
          show q (.bl (false ^^ eqb (fr ((1 - 0) * minW n qs ns + 0 * minW n rs ns)) (fr (minW n qs ns))))
          rw [show ((1 : Rat) - 0) * minW n qs ns + 0 * minW n rs ns = minW n qs ns by grind, eqb_fr]
          simpa using h
        refine ⟨okE_crs cs, rfl, ?_⟩
        refine onB (fun z => ?_) fun z => ?_
        · have hs12 : sound n (qs ++ rs) = true := by
            rw [emp] at z
            cases hq : sound n (qs ++ rs) with
            | true => rfl
            | false => rw [hq] at z; cases z
          have nl : ¬ minW n (qs ++ rs) ns < gmin (minW n qs ns) (minW n rs ns) := by
            have a := le2 hs12
            have b := (gmin_le (minW n qs ns) (minW n rs ns)).1
            exact Rat.not_lt.mpr (Rat.le_trans b a)
          refine ⟨qs, rs, n, rfl, hb.ok, n, qs ++ rs, ns, rfl, hb, hn, hs12, minW n (qs ++ rs) ns, gmin (minW n qs ns) (minW n rs ns), rfl, (b12 hs12).mono (by decide), bg.mono (by decide), ?_⟩
          refine onF (decide_eq_false nl) ?_
          exact fin
        · exact fin
end
end SC
end

section
set_option maxHeartbeats 4000000
namespace SC
open PySem L2 DL
section
variable {P : Program} {w : World} {K : PySem.W.Frag} {mg : Str → Option Value} {base : Heap}

theorem mem_lotI {n k i : Nat} : (i : Int) ∈ lotI n k ↔ i < n ∧ Builtin.bitAnd ((k : Int) / 2 ^ i) 1 = 1 := by
  unfold lotI lotN
  rw [List.mem_map]
  constructor
  · rintro ⟨j, hj, e⟩
    have e : j = i := by omega
    subst e
    obtain ⟨h1, h2⟩ := List.mem_filter.mp hj
    exact ⟨List.mem_range.mp h1, of_decide_eq_true h2⟩
  · rintro ⟨h1, h2⟩
    exact ⟨i, List.mem_filter.mpr ⟨List.mem_range.mpr h1, decide_eq_true h2⟩, rfl⟩
def bitB (k i : Nat) : Bool := decide (Builtin.bitAnd ((k : Int) / 2 ^ i) 1 = 1)
theorem lotPay_eq (n k : Nat) : lotPay n (lotI n k) = (List.range n).map fun i => if bitB k i = true then 1 else 0 := by
  unfold lotPay
  refine List.map_congr_left fun i hi => ?_
  have hi := List.mem_range.mp hi
  by_cases h : bitB k i = true
  · rw [if_pos h, if_pos (mem_lotI.mpr ⟨hi, of_decide_eq_true h⟩)]
  · rw [if_neg h, if_neg fun z => h (decide_eq_true (mem_lotI.mp z).2)]
theorem lotN_eq (n k : Nat) : lotN n k = (List.range n).filter (bitB k) := rfl
theorem on_worth {n k : Nat} (h : n = 2 ∨ n = 3) {c : List Rat} (hc : c.length = n) : (lotN n k).foldl (fun t k => t + c.getD k 0) 0 = worthR (lotPay n (lotI n k)) c := by
  rw [lotN_eq, lotPay_eq]
  rcases h with rfl | rfl
  · obtain ⟨x, y, rfl⟩ := MA.len2 hc
    cases h0 : bitB k 0 <;> cases h1 : bitB k 1 <;> simp [List.range_succ, h0, h1, worthR, Rat.zero_add, Rat.zero_mul, Rat.one_mul, Rat.add_zero]
  · obtain ⟨x, y, z, rfl⟩ := MA.len3 hc
    cases h0 : bitB k 0 <;> cases h1 : bitB k 1 <;> cases h2 : bitB k 2 <;> simp [List.range_succ, h0, h1, h2, worthR, Rat.zero_add, Rat.zero_mul, Rat.one_mul, Rat.add_zero]
theorem worth_neg (ns : List Int) (rs : List Rat) : worthR (ns.map fun x => -x) rs = -worthR ns rs := by
  have go : ∀ (ns : List Int) (rs : List Rat) (x : Rat), ((ns.map fun x => -x).zip rs).foldl (fun t p => t + (p.1 : Rat) * p.2) (-x) = -((ns.zip rs).foldl (fun t p => t + (p.1 : Rat) * p.2) x) := by
    intro ns
    induction ns with
    | nil => intro rs x; rfl
    | cons a ns ih =>
      intro rs x
      cases rs with
      | nil => rfl
      | cons r rs =>
        rw [List.map_cons, List.zip_cons_cons, List.zip_cons_cons, List.foldl_cons, List.foldl_cons, ← ih]
        congr 1
        show -x + ((-a : Int) : Rat) * r = -(x + (a : Rat) * r)
        rw [Rat.intCast_neg]
        grind
  have := go ns rs 0
  rw [show -(0 : Rat) = 0 from rfl] at this
  exact this
theorem dot_neg {n : Nat} (h : n = 2 ∨ n = 3) {X Q : List Int} (hX : X.length = n) (hQ : Q.length = n) : MA.dot (X.map fun x => -x) Q = -MA.dot X Q := by
  rcases h with rfl | rfl
  · obtain ⟨a, b, rfl⟩ := MA.len2 hX
    obtain ⟨c, d, rfl⟩ := MA.len2 hQ
    simp only [MA.dot, List.map_cons, List.map_nil]; grind
  · obtain ⟨a, b, e, rfl⟩ := MA.len3 hX
    obtain ⟨c, d, f, rfl⟩ := MA.len3 hQ
    simp only [MA.dot, List.map_cons, List.map_nil]; grind
theorem min_le_max {n : Nat} {qs : List Qt} (hb : B23 n qs) {ns : List Int} (hn : PayOk n ns) (hs : sound n qs = true) : minW n qs ns ≤ maxW n qs ns := by
  obtain ⟨⟨Q, q1, q2⟩, _⟩ := minW_min hb hn hs
  have h2 := (minW_min hb hn.neg hs).2 Q q1
  rw [dot_neg hb.n23 hn.1 q1.1, ← Rat.neg_divInt, ← q2] at h2
  show minW n qs ns ≤ -minW n qs (ns.map fun x => -x)
  grind
theorem wd_nn {n : Nat} {qs : List Qt} (hb : B23 n qs) (hs : sound n qs = true) (k : Nat) : 0 ≤ wd n qs k := by
  have := min_le_max hb (lotPay_ok n (lotI n k)) hs
  unfold wd
  grind
abbrev cWideR : PC := fun ds q _ => ∃ (n : Nat) (qs : List Qt), ds = [.int n, qsd qs] ∧ B23 n qs ∧ q (.bl true)
abbrev N__law_wide_right : List Str := ["_law_size", "_law_quotes_here", "_law_corners_here", "_law_best", "_law_spot", "_law_number_here", "_law_lot_here", "_law_some", "_law_each", "_law_wide"]
theorem sc__law_wide_right : FnScope N__law_wide_right ["_law_size", "_law_quotes_here"] (defScope s__law_wide_right) := ⟨rfl, rfl, rfl, by decide +kernel, rfl, by decide +kernel, by decide +kernel⟩
theorem ok__law_wide_right (T : Tx K mg) : FnG P w K mg base "_law_wide_right" 11 (sp0 K 2 cWideR) :=
  mkG0 T 136 rfl rfl sc__law_wide_right (bind2 rfl fun _ _ _ _ _ _ _ _ => rfl) rfl fun cdv A outer s H E hr tk po => by
    refine ⟨_, (jb_cons (js_par3 (i := 2) (j := 3) (l := 4) rfl sc__law_wide_right.nd rfl rfl rfl (by decide) (by decide) (by decide) rfl rfl rfl (ja_cons (je_call0 (ok__law_corners T) (hr.mono (by decide)) tk rfl (ja_cons (je_var (pv 0)) (ja_cons (je_var (pv 1)) ja_nil))) (ja_cons (je_tup (ja_cons (je_un un_negD je_int) (ja_cons je_int ja_nil))) (ja_cons (je_tup ja_nil) ja_nil))) (by rfl))
    (jb_cons (js_if (jt_cmp (op_eqD' hr.units) (je_var (pv 2)) (je_lst ja_nil) (nomark _)) (jb_one (js_ret je_bl)) jb_nil)
    (jb_cons (js_for po rfl (ji_rng1 rfl T.b_range (je_ix (je_lst (ja_cons je_int (ja_cons je_int (ja_cons je_int (ja_cons je_int ja_nil))))) (je_var (pv 0)))) (jg_name (pg_name (i := 5) sc__law_wide_right.nd rfl (by first | exact .inl rfl | exact .inr rfl))) (jb_cons (js_set (i := 6) sc__law_wide_right.nd rfl (by first | exact .inl rfl | exact .inr rfl) (je_call0 (ok__law_lot T) (hr.mono (by decide)) tk rfl (ja_cons (je_var (pv 5)) (ja_cons (je_var (pv 0)) ja_nil))))
    (jb_cons (js_setLc (i := 7) rfl sc__law_wide_right.nd rfl rfl (sw_true rfl rfl rfl (by decide +kernel)) (own := [("_law_each", 8)]) (g := (gName 8)) (ji_lst (je_var (pv 2))) (blkOk_by (own := [("_law_each", 8)]) (N := N__law_wide_right) (sc := defScope s__law_wide_right) (by decide +kernel)) (fun _ _ _ _ _ => (pg_name (i := 8) sc__law_wide_right.nd rfl (by first | exact Or.inl rfl | exact Or.inr rfl))) gok_name (fun _ _ _ _ _ => jts_nil) (fun _ _ _ _ _ => (je_call0 (ok__law_on T) (hr.mono (by decide)) L2.takes0 rfl (ja_cons (je_var (pv 8)) (ja_cons (je_var (pv 6)) ja_nil)))))
    (jb_cons (js_set (i := 9) sc__law_wide_right.nd rfl (by first | exact .inl rfl | exact .inr rfl) (je_call0 (ok__law_minus T) (hr.mono (by decide)) tk rfl (ja_cons (je_call0 (ok__law_plus T) (hr.mono (by decide)) tk rfl (ja_cons (je_call0 (ok__law_least T) (hr.mono (by decide)) tk rfl (ja_cons (je_var (pv 7)) ja_nil)) (ja_cons (je_call0 (ok__law_least T) (hr.mono (by decide)) tk rfl (ja_cons (je_lc (own := [("_law_each", 8)]) (g := (gName 8)) rfl sc__law_wide_right.nd (ji_lst (je_var (pv 7))) (blkOk_by (own := [("_law_each", 8)]) (N := N__law_wide_right) (sc := defScope s__law_wide_right) (by decide +kernel)) (fun _ _ _ _ _ => (pg_name (i := 8) sc__law_wide_right.nd rfl (by first | exact Or.inl rfl | exact Or.inr rfl))) gok_name (fun _ _ _ _ _ => jts_nil) (fun _ _ _ _ _ => (je_call0 (ok__law_minus T) (hr.mono (by decide)) L2.takes0 rfl (ja_cons (je_var (pv 8)) ja_nil)))) ja_nil)) ja_nil))) ja_nil)))
    (jb_one (js_if (jt_val (je_call0 (ok__law_less T) (hr.mono (by decide)) tk rfl (ja_cons (je_var (pv 3)) (ja_cons (je_var (pv 9)) ja_nil)))) (jb_one (js_par (i := 3) (j := 4) rfl sc__law_wide_right.nd rfl rfl (by decide) rfl rfl (ja_cons (je_var (pv 9)) (ja_cons (je_var (pv 6)) ja_nil)) (by rfl))) jb_nil))))))
    (jb_one (js_ret (je_cmp (op_eqD' hr.units) (je_call0 (ok_widest_lot T) (hr.mono (by decide)) tk rfl (ja_cons (je_makeF (ok_Book_init T) (hr.mono (by decide)) rfl (ja_cons (je_var (pv 0)) (ja_cons (je_var (pv 1)) ja_nil))) ja_nil)) (je_var (pv 4)) (nomark _))))))), ?_⟩
    rintro ds q t ⟨n, qs, rfl, hb, h⟩ -
    have n3 := hb.n3
    have n2 : 2 ≤ n := hb.ok.1
    refine ⟨n, qs, rfl, hb, fun cs h1 h2 h3 => ?_⟩
    have cr : CrS n qs cs := ⟨hb, h1, h2, h3⟩
    refine ⟨okE_crs cs, rfl, ?_⟩
    by_cases hnil : cs = []
    · refine onT (by rw [nil_crs, hnil]; rfl) h
    · obtain ⟨c0, cs', hcs⟩ := List.exists_cons_of_ne_nil hnil
      refine onF (by rw [nil_crs, hcs]; rfl) ?_
      have hs : sound n qs = true := by
        cases z : sound n qs with
        | true => rfl
        | false => exact absurd (cr.nil.mpr z) hnil
      have cmin : ∀ {ns : List Int}, ns.length = n → minW n qs ns = (cs'.map (worthR ns)).foldl gmin (worthR ns c0) := fun {ns} hn => by
        subst hcs
        exact cr.min hn
      obtain ⟨N, hN⟩ : ∃ N, N = 2 ^ n := ⟨_, rfl⟩
      have e4 : atI [D.int 1, D.int 2, D.int 4, D.int 8] (n : Int) = some (.int (N : Int)) := by
        subst hN
        rcases hb.n23 with rfl | rfl <;> rfl
      have p8 : N ≤ 8 := by subst hN; rcases hb.n23 with rfl | rfl <;> decide
      refine ⟨_, e4, ⟨by omega, by omega⟩, ?_⟩
      show forD _ _ _ (rngD 0 (N : Int)) _ _
      rw [rngD_map, List.range_eq_range']
      refine for_inv (fun items ds S => S = [] ∧ ∃ (i m : Nat) (best : Rat) (spot : List Int) (p5 p6 p7 p8 p9 : Option D), items = (List.range' i m).map (fun i : Nat => D.int i) ∧ i + m = N ∧
        (i = 0 ∧ best = -1 ∧ spot = [] ∨ ∃ j, j < i ∧ best = wd n qs j ∧ spot = lotI n j ∧ (∀ l, l < i → wd n qs l ≤ wd n qs j) ∧ ∀ l, l < j → wd n qs l < wd n qs j) ∧
        ds = [some (.int n), some (qsd qs), some (.lst (cs.map crnD)), some (fr best), some (inz spot), p5, p6, p7, p8, p9]) ?_ ?_ _ _ _ ⟨rfl, 0, N, -1, [], none, none, none, none, none, rfl, by omega, .inl ⟨rfl, rfl, rfl⟩, rfl⟩
      · rintro d items ds S ⟨rfl, i, m, best, spot, p5, p6, p7, p8', p9, e, hm, hi, rfl⟩ k hk
        cases m with
        | zero => cases e
        | succ m =>
          rw [List.range'_succ, List.map_cons] at e
          injection e with e1 e2
          subst e1 e2
          have po := lotPay_ok n (lotI n i)
          have ll : (lotN n i).length ≤ 3 := Nat.le_trans (List.length_filter_le _ _) (by simp; omega)
          have lm : ∀ j ∈ lotN n i, j < n := fun j hj => List.mem_range.mp (List.mem_filter.mp hj).1
          have le3 : (lotPay n (lotI n i)).length ≤ 3 := by have := po.1; omega
          have bw : ∀ c ∈ cs, Bd 2701 (worthR (lotPay n (lotI n i)) c) := fun c hc => worthR_bd le3 po.b12 (cr.ok c hc).2
          refine ⟨n, i, rfl, n3, by omega, ?_⟩
          refine lc_mapA cs crnD (fun c => fr (worthR (lotPay n (lotI n i)) c)) (fun _ _ => rfl) (by have := cr.len; omega) (fun c hc K hK => ?_) ?_
          · refine ⟨c, lotN n i, ?_, ll, fun j hj => by rw [(cr.ok c hc).1]; exact lm j hj, (cr.ok c hc).2, ?_⟩
            · show [crnD c, D.tup ((lotI n i).map D.int)] = _
              unfold lotI
              rw [List.map_map]
              rfl
            · rw [on_worth hb.n23 (cr.ok c hc).1]
              exact hK
          have emin := cmin po.1
          have emax := cmin po.neg.1
          have eneg : (cs'.map (worthR ((lotPay n (lotI n i)).map fun x => -x))).foldl gmin (worthR ((lotPay n (lotI n i)).map fun x => -x) c0) = (cs'.map fun c => -worthR (lotPay n (lotI n i)) c).foldl gmin (-worthR (lotPay n (lotI n i)) c0) := by
            rw [worth_neg]
            congr 1
            exact List.map_congr_left fun c _ => worth_neg _ _
          rw [eneg] at emax
          have bmin := minW_bd hb po hs
          have bneg := minW_bd hb po.neg hs
          refine ⟨worthR (lotPay n (lotI n i)) c0, cs'.map (worthR (lotPay n (lotI n i))), ?_, fun x hx => ?_, ?_⟩
          · rw [hcs]
            show _ = [D.lst (((c0 :: cs').map (worthR (lotPay n (lotI n i)))).map fr)]
            rw [List.map_map]; rfl
          · have hx : x ∈ (c0 :: cs').map (worthR (lotPay n (lotI n i))) := hx
            obtain ⟨c, hc, rfl⟩ := List.mem_map.mp hx
            exact (bw c (by rw [hcs]; exact hc)).mono (by decide)
          rw [← emin]
          refine lc_mapA cs (fun c => fr (worthR (lotPay n (lotI n i)) c)) (fun c => fr (-worthR (lotPay n (lotI n i)) c)) (fun _ _ => rfl) (by have := cr.len; omega) (fun c hc K hK => ?_) ?_
          · exact ⟨worthR (lotPay n (lotI n i)) c, rfl, hK⟩
          refine ⟨-worthR (lotPay n (lotI n i)) c0, cs'.map fun c => -worthR (lotPay n (lotI n i)) c, ?_, fun x hx => ?_, ?_⟩
          · rw [hcs]
            show _ = [D.lst (((c0 :: cs').map fun c => -worthR (lotPay n (lotI n i)) c).map fr)]
            rw [List.map_map]; rfl
          · have hx : x ∈ (c0 :: cs').map fun c => -worthR (lotPay n (lotI n i)) c := hx
            obtain ⟨c, hc, rfl⟩ := List.mem_map.mp hx
            exact (bw c (by rw [hcs]; exact hc)).neg.mono (by decide)
          rw [← emax]
          refine ⟨minW n qs (lotPay n (lotI n i)), minW n qs ((lotPay n (lotI n i)).map fun x => -x), rfl, bmin.mono (by decide), bneg.mono (by decide), ?_⟩
          refine ⟨minW n qs (lotPay n (lotI n i)) + minW n qs ((lotPay n (lotI n i)).map fun x => -x), rfl, ?_⟩
          have ew : -(minW n qs (lotPay n (lotI n i)) + minW n qs ((lotPay n (lotI n i)).map fun x => -x)) = wd n qs i := by
            unfold wd maxW
            grind
          rw [ew]
          have bwd := wd_bd hb hs i
          have nn := wd_nn hb hs i
          have bb : Bd 300 best := by
            rcases hi with ⟨_, rfl, _⟩ | ⟨j, _, rfl, _⟩
            · exact ⟨Nat.one_lt_two_pow (by decide), Nat.one_lt_two_pow (by decide)⟩
            · exact wd_bd hb hs j
          refine ⟨best, wd n qs i, rfl, bb.mono (by decide), bwd.mono (by decide), ?_⟩
          refine onB (fun z => ?_) fun z => ?_
          · have z := of_decide_eq_true z
            refine hk _ _ ⟨rfl, i + 1, m, wd n qs i, lotI n i, _, _, _, _, _, rfl, by omega, .inr ⟨i, by omega, rfl, rfl, fun l hl => ?_, fun l hl => ?_⟩, rfl⟩
            · rcases hi with ⟨rfl, _, _⟩ | ⟨j, hj, rfl, _, g1, g2⟩
              · rw [show l = 0 by omega]; exact Rat.le_refl
              · by_cases y : l = i
                · subst y; exact Rat.le_refl
                · have := g1 l (by omega)
                  grind
            · rcases hi with ⟨rfl, _, _⟩ | ⟨j, hj, rfl, _, g1, g2⟩
              · omega
              · have := g1 l hl
                grind
          · have z := Rat.not_lt.mp (of_decide_eq_false z)
            rcases hi with ⟨rfl, rfl, _⟩ | ⟨j, hj, rfl, rfl, g1, g2⟩
            · exfalso
              have : (0 : Rat) ≤ -1 := Rat.le_trans nn z
              exact absurd this (by decide)
            · refine hk _ _ ⟨rfl, i + 1, m, wd n qs j, lotI n j, _, _, _, _, _, rfl, by omega, .inr ⟨j, by omega, rfl, rfl, fun l hl => ?_, g2⟩, rfl⟩
              by_cases y : l = i
              · subst y; exact z
              · exact g1 l (by omega)
      · rintro ds S ⟨rfl, i, m, best, spot, p5, p6, p7, p8', p9, e, hm, hi, rfl⟩
        cases m with
        | succ m => cases e
        | zero =>
          have hp : 0 < N := by rw [hN]; exact Nat.pow_pos (by decide)
          rcases hi with ⟨rfl, _, _⟩ | ⟨j, hj, rfl, rfl, g1, g2⟩
          · omega
          · refine ⟨qs, n, rfl, n2, by omega, hb.ok.2.2, rfl, n, qs, j, rfl, hb, hs, by rw [← hN]; omega, fun l hl => g1 l (by rw [← hN] at hl; omega), g2, okE_ints 5 _, okE_ints 5 _, ?_⟩
            rw [eqb_self 6 _ (okE_ints 5 _)]
            exact h
end
end SC
end

section
set_option maxHeartbeats 4000000
namespace SC
open PySem L2 DL
section
variable {P : Program} {w : World} {K : PySem.W.Frag} {mg : Str → Option Value} {base : Heap}

/-- which errors an except clause takes -/
def fNS (C : Addr) : Option Bool := if C = 221 then some true else none
def fNT (C : Addr) : Option Bool := if C = 221 then some true else if C = 252 then some true else none
structure Ux (K : PySem.W.Frag) (mg : Str → Option Value) : Prop where
  t : Tx K mg
  ex1 : ∀ C b, fNS C = some b → PySem.W.exmOne K (.ref C) (.ref 221) = some b
  ex2 : ∀ C b, fNT C = some b → PySem.W.exmAny K (.ref C) [.ref 221, .ref 252] = some b
  tg : XcI K 252 249 "given"
theorem lc_filE {α : Type} {rg : RG} {rt : RT} {re : RE} {ds : List (Option DL.D)} {items : List DL.D} {k : List DL.D → List Cell → Prop} {S : List Cell} (l0 : List α) (c : α → Bool) (g f : α → DL.D) (he : items = l0.map g) (hn : ∀ x, x ∈ l0 → noLoc [f x] = true) (hl0 : l0.length ≤ 100000)
    (one : ∀ x, x ∈ l0 → ∀ (A : DL.D → List Cell → Prop) (B : List Cell → Prop), mB (c x) (A (f x) S) (B S) → rg (g x) ds S fun ds1 S1 => rt ds1 S1 (fun b S2 => mB b (re ds1 S2 A fun _ _ => False) (B S2)) fun _ _ => False) (h : k ((l0.filter c).map f) S) : lcD rg rt re ds items [] S k := by
  subst he
  exact lc_filA l0 c g f hn hl0 one h
theorem cut_erase (qs : List Qt) (i : Nat) (h : i < qs.length) : cutD (qs.map qd) none (some (i : Int)) ++ cutD (qs.map qd) (some ((i : Int) + 1)) none = (qs.eraseIdx i).map qd := by
  rw [show ((i : Int) + 1) = ((i + 1 : Nat) : Int) by omega, cut_take _ _ (by simp; omega), cut_dropN _ _ (by simp; omega), List.eraseIdx_eq_take_drop_succ, List.map_append, List.map_take, List.map_drop]
theorem neg_fold : ∀ (l : List Rat) (r : Rat), -((l.map fun x => -x).foldl gmin (-r)) = l.foldl gmax r
  | [], r => by simp
  | x :: l, r => by
    rw [List.map_cons, List.foldl_cons, List.foldl_cons, ← neg_fold l]
    have : gmin (-r) (-x) = -gmax r x := by
      unfold gmin gmax
      by_cases h : r < x
      · rw [if_pos h, if_pos (by grind)]
      · rw [if_neg h, if_neg (by grind)]
    rw [this]
abbrev cWrong : PC1 := fun ds c q _ => ∃ (a m k : Int) (n : Nat) (qs : List Qt) (ns : List Int), ds = [.int n, qsd qs, inz ns] ∧ c = jarC a m k ∧ JarOk a m (k + 10) ∧ 0 ≤ k ∧ B23 n qs ∧ PayOk n ns ∧ jarQ k 10 (q (.bl true))
theorem okE_ends (n : Nat) (qs : List Qt) (ns : List Int) : okE 6 (endsD n qs ns) = true := by
  cases h : sound n qs with
  | true => rw [ends_t h]; rfl
  | false => rw [ends_f h]; rfl
theorem noLoc_ends (n : Nat) (qs : List Qt) (ns : List Int) : noLoc [endsD n qs ns] = true := by
  cases h : sound n qs with
  | true => rw [ends_t h]; rfl
  | false => rw [ends_f h]; rfl
theorem ends_ne (n : Nat) (qs : List Qt) (ns : List Int) : (true ^^ eqb (endsD n qs ns) (.tup [])) = sound n qs := by
  cases h : sound n qs with
  | true => rw [ends_t h]; rfl
  | false => rw [ends_f h]; rfl
theorem okE_ends5 (n : Nat) (qs : List Qt) (ns : List Int) : okE 5 (endsD n qs ns) = true := by
  cases h : sound n qs with
  | true => rw [ends_t h]; rfl
  | false => rw [ends_f h]; rfl
theorem sound_nil {n : Nat} (h : n = 2 ∨ n = 3) : sound n [] = true := by
  refine sound_iff.mpr ?_
  rcases h with rfl | rfl
  · exact ⟨[1, 0], rfl, by decide, by decide, fun g hg => absurd hg List.not_mem_nil⟩
  · exact ⟨[1, 0, 0], rfl, by decide, by decide, fun g hg => absurd hg List.not_mem_nil⟩
theorem chD_len {n : Nat} {rs : List Rat} (h : ChanceD n rs) : rs.length = n := by obtain ⟨P, rfl, hl, _⟩ := h; simp [hl]
abbrev N__law_wrong_right : List Str := ["_law_jar_here", "_law_size", "_law_quotes_here", "_law_payoff_here", "_law_book", "_law_some", "_law_k", "_law_each", "_law_told", "_law_due", "_law_chance_here", "_law_breaks", "_law_price"]
theorem sc__law_wrong_right : FnScope N__law_wrong_right ["_law_jar_here", "_law_size", "_law_quotes_here", "_law_payoff_here"] (defScope s__law_wrong_right) := ⟨rfl, rfl, rfl, by decide +kernel, rfl, by decide +kernel, by decide +kernel⟩
theorem ok__law_wrong_right (U : Ux K mg) : FnG P w K mg base "_law_wrong_right" 12 (sp1 K 3 cWrong) :=
  have T := U.t
  mkG1 T 135 rfl rfl sc__law_wrong_right (bind4 rfl fun _ _ _ _ _ _ _ _ _ _ => rfl) rfl fun cdv A outer s H E hr tk po => by
    refine ⟨_, (jb_cons (js_par (i := 4) (j := 5) rfl sc__law_wrong_right.nd rfl rfl (by decide) rfl rfl (ja_cons (je_makeF (ok_Book_init T) (hr.mono (by decide)) rfl (ja_cons (je_var (pv 1)) (ja_cons (je_var (pv 2)) ja_nil))) (ja_cons (je_lstO ja_nil) ja_nil)) (by rfl))
    (jb_cons (js_for po rfl (ji_rng1 rfl T.b_range (je_callB call_lenD rfl T.b_len (by decide +kernel) (ja_cons (je_var (pv 2)) ja_nil))) (jg_name (pg_name (i := 6) sc__law_wrong_right.nd rfl (by first | exact .inl rfl | exact .inr rfl))) (jb_one (js_expr (je_app (je_var (pv 5)) (je_call0 (ok__law_ends T) (hr.mono (by decide)) tk rfl (ja_cons (je_var (pv 1)) (ja_cons (je_op op_addD (je_sl (je_var (pv 2)) jp_none (jp_some (je_var (pv 6)))) (je_sl (je_var (pv 2)) (jp_some (je_op op_addD (je_var (pv 6)) je_int)) jp_none)) (ja_cons (je_var (pv 3)) ja_nil))))))))
    (jb_fz 5 (jb_cons (js_setLc (i := 5) rfl sc__law_wrong_right.nd rfl rfl (sw_true rfl rfl rfl (by decide +kernel)) (own := [("_law_each", 7)]) (g := (gName 7)) (ji_lst (je_if (jt_cmp (op_neD' hr.units) (je_var (pv 5)) (je_lst ja_nil) (nomark _)) (je_var (pv 5)) (je_lst (ja_cons (je_call0 (ok__law_ends T) (hr.mono (by decide)) tk rfl (ja_cons (je_var (pv 1)) (ja_cons (je_tup ja_nil) (ja_cons (je_var (pv 3)) ja_nil)))) ja_nil)))) (blkOk_by (own := [("_law_each", 7)]) (N := N__law_wrong_right) (sc := defScope s__law_wrong_right) (by decide +kernel)) (fun _ _ _ _ _ => (pg_name (i := 7) sc__law_wrong_right.nd rfl (by first | exact Or.inl rfl | exact Or.inr rfl))) gok_name (fun _ _ _ _ _ => (jts_one (jt_cmp (op_neD' hr.units) (je_var (pv 7)) (je_tup ja_nil) (nomark _)))) (fun _ _ _ _ _ => (je_var (pv 7))))
    (jb_cons (js_try (f := fNS) rfl rfl (clOk_one (by rfl) T.g_NotSound U.ex1) tk (fun W pn xe tk po => (jb_one (js_set (i := 8) sc__law_wrong_right.nd rfl (by first | exact .inl rfl | exact .inr rfl) (je_lst (ja_cons (je_call0 (ok_least_but_one T) (hr.mono (by decide)) tk rfl (ja_cons (je_var (pv 4)) (ja_cons (je_var (pv 3)) ja_nil))) (ja_cons (je_callR (ok_greatest_but_one T) (hr.mono (by decide)) tk rfl (je_var (pv 3)) (je_var (pv 4))) ja_nil)))))) (fun a oe pn => (jb_one (js_set (i := 8) sc__law_wrong_right.nd rfl (by first | exact .inl rfl | exact .inr rfl) (je_lst ja_nil)))))
    (jb_cons (js_set (i := 9) sc__law_wrong_right.nd rfl (by first | exact .inl rfl | exact .inr rfl) (je_lst ja_nil))
    (jb_cons (js_if (jt_cmp (op_neD' hr.units) (je_var (pv 5)) (je_lst ja_nil) (nomark _)) (jb_one (js_set (i := 9) sc__law_wrong_right.nd rfl (by first | exact .inl rfl | exact .inr rfl) (je_lst (ja_cons (je_call0 (ok__law_least T) (hr.mono (by decide)) tk rfl (ja_cons (je_lc (own := [("_law_each", 7)]) (g := (gName 7)) rfl sc__law_wrong_right.nd (ji_lst (je_var (pv 5))) (blkOk_by (own := [("_law_each", 7)]) (N := N__law_wrong_right) (sc := defScope s__law_wrong_right) (by decide +kernel)) (fun _ _ _ _ _ => (pg_name (i := 7) sc__law_wrong_right.nd rfl (by first | exact Or.inl rfl | exact Or.inr rfl))) gok_name (fun _ _ _ _ _ => jts_nil) (fun _ _ _ _ _ => (je_ix (je_var (pv 7)) je_int))) ja_nil)) (ja_cons (je_call0 (ok__law_minus T) (hr.mono (by decide)) tk rfl (ja_cons (je_call0 (ok__law_least T) (hr.mono (by decide)) tk rfl (ja_cons (je_lc (own := [("_law_each", 7)]) (g := (gName 7)) rfl sc__law_wrong_right.nd (ji_lst (je_var (pv 5))) (blkOk_by (own := [("_law_each", 7)]) (N := N__law_wrong_right) (sc := defScope s__law_wrong_right) (by decide +kernel)) (fun _ _ _ _ _ => (pg_name (i := 7) sc__law_wrong_right.nd rfl (by first | exact Or.inl rfl | exact Or.inr rfl))) gok_name (fun _ _ _ _ _ => jts_nil) (fun _ _ _ _ _ => (je_call0 (ok__law_minus T) (hr.mono (by decide)) L2.takes0 rfl (ja_cons (je_ix (je_var (pv 7)) je_int) ja_nil)))) ja_nil)) ja_nil)) ja_nil))))) jb_nil)
    (jb_cons (js_set (i := 10) sc__law_wrong_right.nd rfl (by first | exact .inl rfl | exact .inr rfl) (je_call1 (ok__law_chance T) (hr.mono (by decide)) tk rfl (ja_cons (je_var (pv 0)) (ja_cons (je_var (pv 1)) ja_nil))))
    (jb_cons (js_setLc (i := 11) rfl sc__law_wrong_right.nd rfl rfl (sw_true rfl rfl rfl (by decide +kernel)) (own := [("_law_each", 7), ("_law_price", 12)]) (g := (gTup K 2 (gCons (gName 7) (gCons (gName 12) gNil)))) (ji_tup (je_var (pv 2))) (blkOk_by (own := [("_law_each", 7), ("_law_price", 12)]) (N := N__law_wrong_right) (sc := defScope s__law_wrong_right) (by decide +kernel)) (fun _ _ _ _ _ => (pg_tup rfl (pgs_cons (pg_name (i := 7) sc__law_wrong_right.nd rfl (by first | exact Or.inl rfl | exact Or.inr rfl)) (pgs_cons (pg_name (i := 12) sc__law_wrong_right.nd rfl (by first | exact Or.inl rfl | exact Or.inr rfl)) pgs_nil)))) (gok_tup (gok_cons gok_name (gok_cons gok_name gok_nil))) (fun _ _ _ _ _ => (jts_one (jt_val (je_call0 (ok__law_less T) (hr.mono (by decide)) L2.takes0 rfl (ja_cons (je_call0 (ok__law_worth T) (hr.mono (by decide)) L2.takes0 rfl (ja_cons (je_var (pv 7)) (ja_cons (je_var (pv 10)) ja_nil))) (ja_cons (je_var (pv 12)) ja_nil)))))) (fun _ _ _ _ _ => je_int))
    (jb_one (js_ret (je_and (je_cmp (op_eqD' hr.units) (je_var (pv 8)) (je_var (pv 9)) (nomark _)) (je_one (je_cmp (op_eqD' hr.units) (je_call0 (ok_is_left T) (hr.mono (by decide)) tk rfl (ja_cons (je_var (pv 4)) (ja_cons (je_var (pv 10)) ja_nil))) (je_cmp op_ltD (je_callB call_lenD rfl T.b_len (by decide +kernel) (ja_cons (je_var (pv 11)) ja_nil)) je_int (nomark _)) (nomark _))))))))))))))), ?_⟩
    rintro ds cc q t ⟨a, m, k, n, qs, ns, rfl, rfl, hj, hk0, hb, hn, h⟩ - -
    have n3 := hb.n3
    have n2 : 2 ≤ n := hb.ok.1
    have hl := hb.ok.2.2.1
    refine ⟨qs, n, rfl, n2, by omega, hb.ok.2.2, rfl, ?_⟩
    refine ⟨⟨by rw [List.length_map]; omega, by rw [List.length_map]; omega⟩, ?_⟩
    show forD _ _ _ (rngD 0 ((qs.map qd).length : Nat)) _ _
    rw [List.length_map, rngD_map, List.range_eq_range']
    refine for_inv (fun items ds S => ∃ (i r : Nat) (p6 : Option D), items = (List.range' i r).map (fun i : Nat => D.int i) ∧ i + r = qs.length ∧ S = [jarC a m k, .lst ((List.range i).map fun j => endsD n (qs.eraseIdx j) ns)] ∧
      ds = [some (.loc 0), some (.int n), some (qsd qs), some (inz ns), some (bkd n qs), some (.loc 1), p6, none, none, none, none, none, none]) ?_ ?_ _ _ _ ⟨0, qs.length, none, rfl, by omega, rfl, rfl⟩
    · rintro d items ds S ⟨i, r, p6, e, hir, rfl, rfl⟩ K hK
      cases r with
      | zero => cases e
      | succ r =>
        rw [List.range'_succ, List.map_cons] at e
        injection e with e1 e2
        subst e1 e2
        have ec := cut_erase qs i (by omega)
        have el : (cutD (qs.map qd) none (some (i : Int)) ++ cutD (qs.map qd) (some ((i : Int) + 1)) none).length ≤ 100000 := by
          rw [ec, List.length_map]
          have := List.length_eraseIdx_le qs i
          omega
        rw [List.length_append] at el
        refine ⟨el, n, qs.eraseIdx i, ns, by rw [ec], ⟨hb.n23, hb.ok.er i⟩, hn, ?_⟩
        refine ⟨by simp; omega, hK _ _ ⟨i + 1, r, _, rfl, by omega, ?_, rfl⟩⟩
        rw [List.range_succ, List.map_append]
        rfl
    · rintro ds S ⟨i, r, p6, e, hir, rfl, rfl⟩
      cases r with
      | succ r => cases e
      | zero =>
        rw [show i = qs.length by omega]
        refine ⟨noLoc_map (fun _ => noLoc_ends n _ ns) _, okEs_map (fun _ => okE_ends5 n _ ns) _, rfl, ?_⟩
        by_cases hq : qs = []
        · refine onF (by rw [hq]; rfl) ?_
          refine ⟨n, [], ns, rfl, ⟨hb.n23, hb.ok.1, hb.ok.2.1, by decide, by simp⟩, hn, ?_⟩
          rw [ends_t (sound_nil hb.n23)]
          refine lc_filE (cands qs) (sound n) (fun c => endsD n c ns) (fun c => endsD n c ns) ?_ (fun c _ => noLoc_ends n c ns) (by have := cands_len hl; omega) (fun c hcm A B hAB => ?_) ?_
          · rw [hq]; show _ = [endsD n [] ns]; rw [ends_t (sound_nil hb.n23)]
          · refine ⟨okE_ends n c ns, rfl, ?_⟩
            rw [ends_ne]
            exact hAB
          have hc : ∀ c ∈ lefts n qs, B23 n c ∧ sound n c = true := fun c hc => ⟨cands_ok hb c (List.mem_filter.mp hc).1, (List.mem_filter.mp hc).2⟩
          have hcl : (lefts n qs).length ≤ 31 := Nat.le_trans (List.length_filter_le _ _) (cands_len hl)
          -- behind the try
          have fin : ∀ (told due : List D) (p7 p12 : Option D), okE 6 (.lst told) = true → okE 6 (.lst due) = true → eqb (.lst told) (.lst due) = true → ∀ p5,
              rSeq (rAsg (rCall1 1 cChance (rCons (rVar 0) (rCons (rVar 1) rNil))) (rgName 10))
                (rSeq (rAsg (rLc (rTupI (rVar 2)) (rgTup 2 (rgCons (rgName 7) (rgCons (rgName 12) rgNil))) [7, 12] (rTest (rCall0 2 cLess (rCons (rCall0 2 cWorth (rCons (rVar 7) (rCons (rVar 10) rNil))) (rCons (rVar 12) rNil)))) (rC (D.int 1))) (rgName 11))
                  (rRet (rAndV (rOp (oEq false) (rVar 8) (rVar 9)) (rOp (oEq false) (rCall0 2 cIsLeft (rCons (rVar 4) (rCons (rVar 10) rNil))) (rOp oLt (rCB oLen (rCons (rVar 11) rNil)) (rC (D.int 2)))))))
                (out1 q t) [some (.loc 0), some (.int n), some (qsd qs), some (inz ns), some (bkd n qs), p5, p6, p7, some (.lst told), some (.lst due), none, none, p12] [jarC a m k, .dead] := by
            intro told due p7 p12 o1 o2 eqtd p5
            refine ⟨rfl, a, m, k, n, rfl, rfl, hj, hk0, hb.n23, fun rs hch a1 m1 k1 y1 y2 y3 y4 y5 => ?_⟩
            have cok := hch.ok n3
            have cl := chD_len hch
            refine lc_filA qs (fun x => decide (worthR x.pay rs < x.price)) qd (fun _ => .int 1) (fun _ _ => rfl) (by omega) (fun x hx A B hAB => ?_) ?_
            · obtain ⟨⟨l1, l2⟩, l3⟩ := hb.ok.2.2.2 x hx
              have b1 : ∀ y ∈ x.pay, y.natAbs < 2 ^ 12 := fun y hy => by have := l2 y hy; omega
              exact ⟨x.pay, rs, rfl, by omega, by omega, b1, hch.bd, worthR x.pay rs, x.price, rfl, (worthR_bd (by omega) b1 hch.bd).mono (by decide), l3.bd.mono (by decide), hAB⟩
            refine ⟨o1, o2, ?_⟩
            refine onT (by rw [eqtd]; rfl) ?_
            refine ⟨n, qs, rs, rfl, hb, cok, ?_⟩
            have e : (false ^^ decide (decide ((qs.filter fun x => decide (worthR x.pay rs < x.price)).length < 2) = decide (((((qs.filter fun x => decide (worthR x.pay rs < x.price)).map fun _ => D.int 1).length : Nat) : Int) < 2))) = true := by
              rw [List.length_map]
              simp
              omega
            refine ⟨trivial, rfl, ?_⟩
            show q (.bl (false ^^ decide (decide ((qs.filter fun x => decide (worthR x.pay rs < x.price)).length < 2) = decide (((((qs.filter fun x => decide (worthR x.pay rs < x.price)).map fun _ => D.int 1).length : Nat) : Int) < 2)))) (jarC a1 m1 k1)
            rw [e]
            exact h a1 m1 k1 y1 y2 y3 y4 y5
          refine ⟨n, qs, ns, rfl, hb, hn, fun ne => ?_, fun e0 => ?_⟩
          · refine ⟨n, qs, ns, rfl, hb, hn, fun _ => ?_, fun e0 => absurd e0 ne⟩
            have hne : (lefts n qs).map (fun c => endsD n c ns) ≠ [] := fun z => ne (List.map_eq_nil_iff.mp z)
            have cons_ne : eqb (.lst ((lefts n qs).map fun c => endsD n c ns)) (.lst []) = false := by
              cases hL : (lefts n qs).map fun c => endsD n c ns with
              | nil => exact absurd hL hne
              | cons y ys => rfl
            refine ⟨okEs_map (fun c => okE_ends5 n c ns) _, rfl, ?_⟩
            refine onT (by rw [cons_ne]; rfl) ?_
            refine lc_mapA (lefts n qs) (fun c => endsD n c ns) (fun c => fr (minW n c ns)) (fun _ _ => rfl) (by omega) (fun c hcm K hK => ?_) ?_
            · rw [ends_t (hc c hcm).2]
              exact ⟨_, rfl, hK⟩
            obtain ⟨c0, cs', hcs⟩ := List.exists_cons_of_ne_nil ne
            have m0 : (lefts n qs).map (fun c => minW n c ns) = minW n c0 ns :: cs'.map fun c => minW n c ns := by rw [hcs]; rfl
            have x0 : (lefts n qs).map (fun c => maxW n c ns) = maxW n c0 ns :: cs'.map fun c => maxW n c ns := by rw [hcs]; rfl
            refine ⟨minW n c0 ns, cs'.map fun c => minW n c ns, ?_, fun x hx => ?_, ?_⟩
            · rw [← m0, List.map_map]; rfl
            · rw [← m0] at hx
              obtain ⟨d, hd, rfl⟩ := List.mem_map.mp hx
              exact (minW_bd (hc d hd).1 hn (hc d hd).2).mono (by decide)
            refine lc_mapA (lefts n qs) (fun c => endsD n c ns) (fun c => fr (-maxW n c ns)) (fun _ _ => rfl) (by omega) (fun c hcm K hK => ?_) ?_
            · rw [ends_t (hc c hcm).2]
              exact ⟨_, rfl, _, rfl, hK⟩
            refine ⟨-maxW n c0 ns, (cs'.map fun c => maxW n c ns).map fun x => -x, ?_, fun x hx => ?_, ?_⟩
            · rw [show ((-maxW n c0 ns) :: (cs'.map fun c => maxW n c ns).map fun x => -x) = ((lefts n qs).map fun c => maxW n c ns).map fun x => -x by rw [x0]; rfl, List.map_map, List.map_map]; rfl
            · have hx : x ∈ ((lefts n qs).map fun c => maxW n c ns).map fun x => -x := by rw [x0]; exact hx
              obtain ⟨y, hy, rfl⟩ := List.mem_map.mp hx
              obtain ⟨d, hd, rfl⟩ := List.mem_map.mp hy
              exact (maxW_bd (hc d hd).1 hn (hc d hd).2).neg.mono (by decide)
            refine ⟨_, rfl, ?_⟩
            have e1 : foldR gmin ((lefts n qs).map fun c => minW n c ns) = (cs'.map fun c => minW n c ns).foldl gmin (minW n c0 ns) := by rw [m0]; rfl
            have e2 : foldR gmax ((lefts n qs).map fun c => maxW n c ns) = -(((cs'.map fun c => maxW n c ns).map fun x => -x).foldl gmin (-maxW n c0 ns)) := by rw [x0, neg_fold]; rfl
            refine fin ([fr (foldR gmin ((lefts n qs).map fun c => minW n c ns)), fr (foldR gmax ((lefts n qs).map fun c => maxW n c ns))])
              ([fr ((cs'.map fun c => minW n c ns).foldl gmin (minW n c0 ns)), fr (-(((cs'.map fun c => maxW n c ns).map fun x => -x).foldl gmin (-maxW n c0 ns)))]) _ _ rfl rfl ?_ _
            rw [e1, e2]
            exact eqb_self 6 _ rfl
          · have el : (lefts n qs).map (fun c => endsD n c ns) = [] := by rw [e0]; rfl
            rw [el]
            exact ⟨rfl, rfl, fin [] [] _ _ rfl rfl rfl _⟩
        · have hne : eqb (.lst ((List.range qs.length).map fun j => endsD n (qs.eraseIdx j) ns)) (.lst []) = false := by
            obtain ⟨x, xs, rfl⟩ := List.exists_cons_of_ne_nil hq
            rw [List.length_cons, List.range_succ_eq_map]
            rfl
          refine onT (by rw [hne]; rfl) ?_
          refine lc_filE (cands qs) (sound n) (fun c => endsD n c ns) (fun c => endsD n c ns) ?_ (fun c _ => noLoc_ends n c ns) (by have := cands_len hl; omega) (fun c hcm A B hAB => ?_) ?_
          · unfold cands outs; rw [if_neg hq, List.map_map]; rfl
          · refine ⟨okE_ends n c ns, rfl, ?_⟩
            rw [ends_ne]
            exact hAB
          have hc : ∀ c ∈ lefts n qs, B23 n c ∧ sound n c = true := fun c hc => ⟨cands_ok hb c (List.mem_filter.mp hc).1, (List.mem_filter.mp hc).2⟩
          have hcl : (lefts n qs).length ≤ 31 := Nat.le_trans (List.length_filter_le _ _) (cands_len hl)
          -- behind the try
          have fin : ∀ (told due : List D) (p7 p12 : Option D), okE 6 (.lst told) = true → okE 6 (.lst due) = true → eqb (.lst told) (.lst due) = true → ∀ p5,
              rSeq (rAsg (rCall1 1 cChance (rCons (rVar 0) (rCons (rVar 1) rNil))) (rgName 10))
                (rSeq (rAsg (rLc (rTupI (rVar 2)) (rgTup 2 (rgCons (rgName 7) (rgCons (rgName 12) rgNil))) [7, 12] (rTest (rCall0 2 cLess (rCons (rCall0 2 cWorth (rCons (rVar 7) (rCons (rVar 10) rNil))) (rCons (rVar 12) rNil)))) (rC (D.int 1))) (rgName 11))
                  (rRet (rAndV (rOp (oEq false) (rVar 8) (rVar 9)) (rOp (oEq false) (rCall0 2 cIsLeft (rCons (rVar 4) (rCons (rVar 10) rNil))) (rOp oLt (rCB oLen (rCons (rVar 11) rNil)) (rC (D.int 2)))))))
                (out1 q t) [some (.loc 0), some (.int n), some (qsd qs), some (inz ns), some (bkd n qs), p5, p6, p7, some (.lst told), some (.lst due), none, none, p12] [jarC a m k, .dead] := by
            intro told due p7 p12 o1 o2 eqtd p5
            refine ⟨rfl, a, m, k, n, rfl, rfl, hj, hk0, hb.n23, fun rs hch a1 m1 k1 y1 y2 y3 y4 y5 => ?_⟩
            have cok := hch.ok n3
            have cl := chD_len hch
            refine lc_filA qs (fun x => decide (worthR x.pay rs < x.price)) qd (fun _ => .int 1) (fun _ _ => rfl) (by omega) (fun x hx A B hAB => ?_) ?_
            · obtain ⟨⟨l1, l2⟩, l3⟩ := hb.ok.2.2.2 x hx
              have b1 : ∀ y ∈ x.pay, y.natAbs < 2 ^ 12 := fun y hy => by have := l2 y hy; omega
              exact ⟨x.pay, rs, rfl, by omega, by omega, b1, hch.bd, worthR x.pay rs, x.price, rfl, (worthR_bd (by omega) b1 hch.bd).mono (by decide), l3.bd.mono (by decide), hAB⟩
            refine ⟨o1, o2, ?_⟩
            refine onT (by rw [eqtd]; rfl) ?_
            refine ⟨n, qs, rs, rfl, hb, cok, ?_⟩
            have e : (false ^^ decide (decide ((qs.filter fun x => decide (worthR x.pay rs < x.price)).length < 2) = decide (((((qs.filter fun x => decide (worthR x.pay rs < x.price)).map fun _ => D.int 1).length : Nat) : Int) < 2))) = true := by
              rw [List.length_map]
              simp
              omega
            refine ⟨trivial, rfl, ?_⟩
            show q (.bl (false ^^ decide (decide ((qs.filter fun x => decide (worthR x.pay rs < x.price)).length < 2) = decide (((((qs.filter fun x => decide (worthR x.pay rs < x.price)).map fun _ => D.int 1).length : Nat) : Int) < 2)))) (jarC a1 m1 k1)
            rw [e]
            exact h a1 m1 k1 y1 y2 y3 y4 y5
          refine ⟨n, qs, ns, rfl, hb, hn, fun ne => ?_, fun e0 => ?_⟩
          · refine ⟨n, qs, ns, rfl, hb, hn, fun _ => ?_, fun e0 => absurd e0 ne⟩
            have hne : (lefts n qs).map (fun c => endsD n c ns) ≠ [] := fun z => ne (List.map_eq_nil_iff.mp z)
            have cons_ne : eqb (.lst ((lefts n qs).map fun c => endsD n c ns)) (.lst []) = false := by
              cases hL : (lefts n qs).map fun c => endsD n c ns with
              | nil => exact absurd hL hne
              | cons y ys => rfl
            refine ⟨okEs_map (fun c => okE_ends5 n c ns) _, rfl, ?_⟩
            refine onT (by rw [cons_ne]; rfl) ?_
            refine lc_mapA (lefts n qs) (fun c => endsD n c ns) (fun c => fr (minW n c ns)) (fun _ _ => rfl) (by omega) (fun c hcm K hK => ?_) ?_
            · rw [ends_t (hc c hcm).2]
              exact ⟨_, rfl, hK⟩
            obtain ⟨c0, cs', hcs⟩ := List.exists_cons_of_ne_nil ne
            have m0 : (lefts n qs).map (fun c => minW n c ns) = minW n c0 ns :: cs'.map fun c => minW n c ns := by rw [hcs]; rfl
            have x0 : (lefts n qs).map (fun c => maxW n c ns) = maxW n c0 ns :: cs'.map fun c => maxW n c ns := by rw [hcs]; rfl
            refine ⟨minW n c0 ns, cs'.map fun c => minW n c ns, ?_, fun x hx => ?_, ?_⟩
            · rw [← m0, List.map_map]; rfl
            · rw [← m0] at hx
              obtain ⟨d, hd, rfl⟩ := List.mem_map.mp hx
              exact (minW_bd (hc d hd).1 hn (hc d hd).2).mono (by decide)
            refine lc_mapA (lefts n qs) (fun c => endsD n c ns) (fun c => fr (-maxW n c ns)) (fun _ _ => rfl) (by omega) (fun c hcm K hK => ?_) ?_
            · rw [ends_t (hc c hcm).2]
              exact ⟨_, rfl, _, rfl, hK⟩
            refine ⟨-maxW n c0 ns, (cs'.map fun c => maxW n c ns).map fun x => -x, ?_, fun x hx => ?_, ?_⟩
            · rw [show ((-maxW n c0 ns) :: (cs'.map fun c => maxW n c ns).map fun x => -x) = ((lefts n qs).map fun c => maxW n c ns).map fun x => -x by rw [x0]; rfl, List.map_map, List.map_map]; rfl
            · have hx : x ∈ ((lefts n qs).map fun c => maxW n c ns).map fun x => -x := by rw [x0]; exact hx
              obtain ⟨y, hy, rfl⟩ := List.mem_map.mp hx
              obtain ⟨d, hd, rfl⟩ := List.mem_map.mp hy
              exact (maxW_bd (hc d hd).1 hn (hc d hd).2).neg.mono (by decide)
            refine ⟨_, rfl, ?_⟩
            have e1 : foldR gmin ((lefts n qs).map fun c => minW n c ns) = (cs'.map fun c => minW n c ns).foldl gmin (minW n c0 ns) := by rw [m0]; rfl
            have e2 : foldR gmax ((lefts n qs).map fun c => maxW n c ns) = -(((cs'.map fun c => maxW n c ns).map fun x => -x).foldl gmin (-maxW n c0 ns)) := by rw [x0, neg_fold]; rfl
            refine fin ([fr (foldR gmin ((lefts n qs).map fun c => minW n c ns)), fr (foldR gmax ((lefts n qs).map fun c => maxW n c ns))])
              ([fr ((cs'.map fun c => minW n c ns).foldl gmin (minW n c0 ns)), fr (-(((cs'.map fun c => maxW n c ns).map fun x => -x).foldl gmin (-maxW n c0 ns)))]) _ _ rfl rfl ?_ _
            rw [e1, e2]
            exact eqb_self 6 _ rfl
          · have el : (lefts n qs).map (fun c => endsD n c ns) = [] := by rw [e0]; rfl
            rw [el]
            exact ⟨rfl, rfl, fin [] [] _ _ rfl rfl rfl _⟩
end
end SC
end

section
set_option maxHeartbeats 4000000
namespace SC
open PySem L2 DL
section
variable {P : Program} {w : World} {K : PySem.W.Frag} {mg : Str → Option Value} {base : Heap}

noncomputable abbrev pairD (n : Nat) (qs : List Qt) : D := .tup [bkd n qs, .bl (sound n qs)]
noncomputable abbrev deskC (n : Nat) (hist : List (List Qt)) : Cell := .ins .desk [.tup (hist.map (pairD n))]
abbrev cDeskI : PI_ := fun ds q => ∃ (n : Nat) (qs : List Qt), ds = [bkd n qs] ∧ B23 n qs ∧ q [deskC n [qs]]
abbrev cPut : PC1 := fun ds c q _ => ∃ (n : Nat) (qs : List Qt) (hist : List (List Qt)), ds = [bkd n qs] ∧ c = deskC n hist ∧ B23 n qs ∧ hist.length ≤ 1000 ∧ q .non (deskC n (hist ++ [qs]))
abbrev cDBook : PC1 := fun ds c q _ => ∃ (n : Nat) (qs : List Qt) (hist : List (List Qt)), ds = [] ∧ c = deskC n (hist ++ [qs]) ∧ q (bkd n qs) (deskC n (hist ++ [qs]))
abbrev cDSound : PC1 := fun ds c q _ => ∃ (n : Nat) (qs : List Qt) (hist : List (List Qt)), ds = [] ∧ c = deskC n (hist ++ [qs]) ∧ q (.bl (sound n qs)) (deskC n (hist ++ [qs]))
abbrev cDChg : PC1 := fun ds c q _ => ∃ (n : Nat) (hist : List (List Qt)), ds = [] ∧ c = deskC n hist ∧ q (.int ((hist.length : Int) - 1)) (deskC n hist)
/-- a desk whose book is qs, and what is put behind it -/
structure DeskOk (n : Nat) (hist : List (List Qt)) (qs : List Qt) : Prop where
  b : B23 n qs
  len : hist.length ≤ 500
abbrev cDQuote : PC1 := fun ds c q _ => ∃ (n : Nat) (hist : List (List Qt)) (qs : List Qt) (x : Qt), ds = [inz x.pay, fr x.price] ∧ c = deskC n (hist ++ [qs]) ∧ DeskOk n hist qs ∧ BkOk n (qs ++ [x]) ∧ q .non (deskC n (hist ++ [qs] ++ [qs ++ [x]]))
abbrev cDDrop : PC1 := fun ds c q _ => ∃ (n : Nat) (hist : List (List Qt)) (qs : List Qt) (i : Nat), ds = [.int i] ∧ c = deskC n (hist ++ [qs]) ∧ DeskOk n hist qs ∧ i < qs.length ∧ q .non (deskC n (hist ++ [qs] ++ [qs.eraseIdx i]))
def setPrice (qs : List Qt) (i : Nat) (r : Rat) : List Qt := qs.take i ++ [⟨(qs.getD i ⟨[], 0⟩).pay, r⟩] ++ qs.drop (i + 1)
abbrev cDRaise : PC1 := fun ds c q _ => ∃ (n : Nat) (hist : List (List Qt)) (qs : List Qt) (i : Nat) (r : Rat), ds = [.int i, fr r] ∧ c = deskC n (hist ++ [qs]) ∧ DeskOk n hist qs ∧ i < qs.length ∧ PriceOk r ∧ q .non (deskC n (hist ++ [qs] ++ [setPrice qs i r]))
abbrev cDNews : PC1 := fun ds c q _ => ∃ (n : Nat) (hist : List (List Qt)) (qs : List Qt) (ls : List Int), ds = [inz ls] ∧ c = deskC n (hist ++ [qs]) ∧ DeskOk n hist qs ∧ LotOk n ls ∧ qs.length ≤ 30 ∧ q .non (deskC n (hist ++ [qs] ++ [qs ++ [⟨lotPay n ls, 1⟩]]))
abbrev cDLeast (f : Nat → List Qt → List Int → Rat) : PC1 := fun ds c q _ => ∃ (n : Nat) (hist : List (List Qt)) (qs : List Qt) (ns : List Int), ds = [inz ns] ∧ c = deskC n (hist ++ [qs]) ∧ B23 n qs ∧ PayOk n ns ∧ sound n qs = true ∧ q (fr (f n qs ns)) (deskC n (hist ++ [qs]))
abbrev cDUndo : PC1 := fun ds c q _ => ∃ (n : Nat) (hist : List (List Qt)) (qs : List Qt), ds = [] ∧ c = deskC n (hist ++ [qs]) ∧ hist ≠ [] ∧ q .non (deskC n hist)
theorem last_at {α : Type} (xs : List α) (x : α) : atI (xs ++ [x]) (-1) = some x := by
  unfold atI
  rw [List.length_append, show ixN (xs.length + [x].length) (-1) = some xs.length from by
    show ixN (xs.length + 1) (-1) = some xs.length
    unfold ixN
    rw [if_neg (by omega), if_pos (by omega)]
    congr 1
    omega]
  simp
theorem hist_at (n : Nat) (hist : List (List Qt)) (qs : List Qt) : atI ((hist ++ [qs]).map (pairD n)) (-1) = some (pairD n qs) := by
  rw [List.map_append]
  exact last_at _ _
theorem cut_last {α : Type} (xs : List D) (x : D) : cutD (xs ++ [x]) none (some (-1)) = xs := by
  have h1 : HT.sIx (xs ++ [x]).length (xs ++ [x]).length (some (-1 : Int)) = xs.length := by
    unfold HT.sIx
    simp
    omega
  unfold cutD
  rw [h1, show HT.sIx (xs ++ [x]).length 0 none = 0 from rfl]
  simp
theorem noLoc_hist (n : Nat) (hist : List (List Qt)) : noLoc (hist.map (pairD n)) = true := noLoc_map (fun _ => rfl) _
theorem BkOk.app {n : Nat} {qs : List Qt} {x : Qt} (h : BkOk n qs) (hx : QtOk n x) (hl : qs.length ≤ 30) : BkOk n (qs ++ [x]) := ⟨h.1, h.2.1, by simp; omega, fun q hq => by
  rcases List.mem_append.mp hq with hq | hq
  · exact h.2.2.2 q hq
  · rw [List.mem_singleton.mp hq]; exact hx⟩
theorem set_ok {n : Nat} {qs : List Qt} {i : Nat} {r : Rat} (h : BkOk n qs) (hi : i < qs.length) (hr : PriceOk r) : BkOk n (setPrice qs i r) := ⟨h.1, h.2.1, by unfold setPrice; simp; have := h.2.2.1; omega, fun q hq => by
  unfold setPrice at hq
  rcases List.mem_append.mp hq with hq | hq
  · rcases List.mem_append.mp hq with hq | hq
    · exact h.2.2.2 q (List.mem_of_mem_take hq)
    · rw [List.mem_singleton.mp hq]
      refine ⟨(h.2.2.2 (qs.getD i ⟨[], 0⟩) (MA.getD_mem hi)).1, hr⟩
  · exact h.2.2.2 q (List.mem_of_mem_drop hq)⟩
abbrev N_Desk_init : List Str := ["self", "book"]
theorem sc_Desk_init : FnScope N_Desk_init ["self", "book"] (defScope s_Desk_init) := ⟨rfl, rfl, rfl, by decide +kernel, rfl, by decide +kernel, by decide +kernel⟩
theorem ok_Desk_init (T : Tx K mg) : FnC P w K mg base "Desk" Cl.desk.adr 8 (spI K 1 .desk cDeskI) :=
  mkC T 94 rfl T.k_Desk T.g_Desk sc_Desk_init (bind2 rfl fun _ _ _ _ _ _ _ _ => rfl) rfl fun cdv A outer s H E hr tk po => by
    refine ⟨_, (jb_cons (js_expr (je_call0 (ok_check_book T) (hr.mono (by decide)) tk rfl (ja_cons (je_var (pv 1)) ja_nil)))
    (jb_one (js_setF T.cf .desk 0 id (.inl rfl) (je_var (pv 0)) (je_tup (ja_cons (je_tup (ja_cons (je_var (pv 1)) (ja_cons (je_call0 (ok_is_kept_by_some T) (hr.mono (by decide)) tk rfl (ja_cons (je_var (pv 1)) ja_nil)) ja_nil))) ja_nil))))), ?_⟩
    rintro ds q ⟨n, qs, rfl, hb, h⟩ -
    exact ⟨qs, n, rfl, n, qs, rfl, hb, h⟩
abbrev N_Desk_put : List Str := ["self", "book"]
theorem sc_Desk_put : FnScope N_Desk_put ["self", "book"] (defScope s_Desk_put) := ⟨rfl, rfl, rfl, by decide +kernel, rfl, by decide +kernel, by decide +kernel⟩
theorem ok_Desk_put (T : Tx K mg) : FnM P w K mg base Cl.desk.adr "put" 8 (sp1 K 1 cPut) :=
  mkM1 T 95 rfl T.m_Desk_put sc_Desk_put (bind2 rfl fun _ _ _ _ _ _ _ _ => rfl) rfl fun cdv A outer s H E hr tk po => by
    refine ⟨_, (jb_one (js_setF T.cf .desk 0 id (.inl rfl) (je_var (pv 0)) (je_tupL (ja_star (je_fld T.cf .desk 0 (je_var (pv 0))) (ja_cons (je_tup (ja_cons (je_var (pv 1)) (ja_cons (je_call0 (ok_is_kept_by_some T) (hr.mono (by decide)) tk rfl (ja_cons (je_var (pv 1)) ja_nil)) ja_nil))) ja_nil))))), ?_⟩
    rintro ds c q t ⟨n, qs, hist, rfl, rfl, hb, hl, h⟩ - -
    refine ⟨n, qs, rfl, hb, ?_⟩
    have e : hist.map (pairD n) ++ [pairD n qs] = (hist ++ [qs]).map (pairD n) := by rw [List.map_append]; rfl
    show noLoc (hist.map (pairD n) ++ [pairD n qs]) = true ∧ (hist.map (pairD n) ++ [pairD n qs]).length ≤ 100000 ∧ (out1 q t).nx [some (.loc 0), some (bkd n qs)] [.ins .desk [.tup (hist.map (pairD n) ++ [pairD n qs])]]
    rw [e]
    exact ⟨noLoc_hist n _, by simp; omega, rfl, h⟩
abbrev N_Desk_book : List Str := ["self"]
theorem sc_Desk_book : FnScope N_Desk_book ["self"] (defScope s_Desk_book) := ⟨rfl, rfl, rfl, by decide +kernel, rfl, by decide +kernel, by decide +kernel⟩
theorem ok_Desk_book (T : Tx K mg) : FnP P w K mg base Cl.desk.adr "book" 1 (sp1 K 0 cDBook) :=
  mkP1 T 96 rfl T.p_Desk_book sc_Desk_book (bind1 rfl fun _ _ _ _ _ _ _ => rfl) rfl fun cdv A outer s H E hr tk po => by
    refine ⟨_, (jb_one (js_ret (je_ix (je_ix (je_fld T.cf .desk 0 (je_var (pv 0))) (je_un un_negD je_int)) je_int))), ?_⟩
    rintro ds c q t ⟨n, qs, hist, rfl, rfl, h⟩ - -
    exact ⟨_, hist_at n hist qs, _, rfl, trivial, rfl, h⟩
abbrev N_Desk_is_sound : List Str := ["self"]
theorem sc_Desk_is_sound : FnScope N_Desk_is_sound ["self"] (defScope s_Desk_is_sound) := ⟨rfl, rfl, rfl, by decide +kernel, rfl, by decide +kernel, by decide +kernel⟩
theorem ok_Desk_is_sound (T : Tx K mg) : FnP P w K mg base Cl.desk.adr "is_sound" 1 (sp1 K 0 cDSound) :=
  mkP1 T 97 rfl T.p_Desk_is_sound sc_Desk_is_sound (bind1 rfl fun _ _ _ _ _ _ _ => rfl) rfl fun cdv A outer s H E hr tk po => by
    refine ⟨_, (jb_one (js_ret (je_ix (je_ix (je_fld T.cf .desk 0 (je_var (pv 0))) (je_un un_negD je_int)) je_int))), ?_⟩
    rintro ds c q t ⟨n, qs, hist, rfl, rfl, h⟩ - -
    exact ⟨_, hist_at n hist qs, _, rfl, trivial, rfl, h⟩
abbrev N_Desk_changes : List Str := ["self"]
theorem sc_Desk_changes : FnScope N_Desk_changes ["self"] (defScope s_Desk_changes) := ⟨rfl, rfl, rfl, by decide +kernel, rfl, by decide +kernel, by decide +kernel⟩
theorem ok_Desk_changes (T : Tx K mg) : FnP P w K mg base Cl.desk.adr "changes" 1 (sp1 K 0 cDChg) :=
  mkP1 T 98 rfl T.p_Desk_changes sc_Desk_changes (bind1 rfl fun _ _ _ _ _ _ _ => rfl) rfl fun cdv A outer s H E hr tk po => by
    refine ⟨_, (jb_one (js_ret (je_op op_subD (je_callB call_lenD rfl T.b_len (by decide +kernel) (ja_cons (je_fld T.cf .desk 0 (je_var (pv 0))) ja_nil)) je_int))), ?_⟩
    rintro ds c q t ⟨n, hist, rfl, rfl, h⟩ - -
    refine ⟨trivial, rfl, ?_⟩
    show q (.int (((hist.map (pairD n)).length : Int) - 1)) _
    rw [List.length_map]
    exact h
abbrev N_Desk_quote : List Str := ["self", "payoff", "price"]
theorem sc_Desk_quote : FnScope N_Desk_quote ["self", "payoff", "price"] (defScope s_Desk_quote) := ⟨rfl, rfl, rfl, by decide +kernel, rfl, by decide +kernel, by decide +kernel⟩
theorem ok_Desk_quote (T : Tx K mg) : FnM P w K mg base Cl.desk.adr "quote" 10 (sp1 K 2 cDQuote) :=
  mkM1 T 99 rfl T.m_Desk_quote sc_Desk_quote (bind3 rfl fun _ _ _ _ _ _ _ _ _ => rfl) rfl fun cdv A outer s H E hr tk po => by
    refine ⟨_, (jb_one (js_expr (je_meth1 (ok_Desk_put T) (hr.mono (by decide)) (je_var (pv 0)) (ja_cons (je_methF (ok_Book_with_quote T) (hr.mono (by decide)) (je_prop1 (ok_Desk_book T) (hr.mono (by decide)) (je_var (pv 0))) (ja_cons (je_var (pv 1)) (ja_cons (je_var (pv 2)) ja_nil)) (by decide +kernel)) ja_nil) (by decide +kernel)))), ?_⟩
    rintro ds c q t ⟨n, hist, qs, x, rfl, rfl, hd, hk, h⟩ - -
    refine ⟨rfl, n, qs, hist, rfl, rfl, qs, x, n, rfl, hk, rfl, n, qs ++ [x], hist ++ [qs], rfl, rfl, ⟨hd.b.n23, hk⟩, by have := hd.len; simp; omega, rfl, h⟩
abbrev N_Desk_drop : List Str := ["self", "index"]
theorem sc_Desk_drop : FnScope N_Desk_drop ["self", "index"] (defScope s_Desk_drop) := ⟨rfl, rfl, rfl, by decide +kernel, rfl, by decide +kernel, by decide +kernel⟩
theorem ok_Desk_drop (T : Tx K mg) : FnM P w K mg base Cl.desk.adr "drop" 10 (sp1 K 1 cDDrop) :=
  mkM1 T 100 rfl T.m_Desk_drop sc_Desk_drop (bind2 rfl fun _ _ _ _ _ _ _ _ => rfl) rfl fun cdv A outer s H E hr tk po => by
    refine ⟨_, (jb_cons (js_expr (je_call0 (ok_check_index T) (hr.mono (by decide)) tk rfl (ja_cons (je_prop1 (ok_Desk_book T) (hr.mono (by decide)) (je_var (pv 0))) (ja_cons (je_var (pv 1)) ja_nil))))
    (jb_one (js_expr (je_meth1 (ok_Desk_put T) (hr.mono (by decide)) (je_var (pv 0)) (ja_cons (je_call0 (ok_less_one T) (hr.mono (by decide)) tk rfl (ja_cons (je_prop1 (ok_Desk_book T) (hr.mono (by decide)) (je_var (pv 0))) (ja_cons (je_var (pv 1)) ja_nil))) ja_nil) (by decide +kernel))))), ?_⟩
    rintro ds c q t ⟨n, hist, qs, i, rfl, rfl, hd, hi, h⟩ - -
    have e : qs = qs.take i ++ qs[i] :: qs.drop (i + 1) := by simp
    refine ⟨rfl, n, qs, hist, rfl, rfl, qs, n, i, rfl, by omega, ?_⟩
    refine ⟨rfl, n, qs, hist, rfl, rfl, qs.take i, qs.drop (i + 1), qs[i], n, ?_, ?_, ?_⟩
    · rw [← e, List.length_take, Nat.min_eq_left (by omega)]
    · rw [← e]; exact hd.b.ok
    · rw [← List.eraseIdx_eq_take_drop_succ]
      exact ⟨rfl, n, qs.eraseIdx i, hist ++ [qs], rfl, rfl, ⟨hd.b.n23, hd.b.ok.er i⟩, by have := hd.len; simp; omega, rfl, h⟩
abbrev N_Desk_raise_to : List Str := ["self", "index", "price", "quotes", "fresh"]
theorem sc_Desk_raise_to : FnScope N_Desk_raise_to ["self", "index", "price"] (defScope s_Desk_raise_to) := ⟨rfl, rfl, rfl, by decide +kernel, rfl, by decide +kernel, by decide +kernel⟩
theorem ok_Desk_raise_to (T : Tx K mg) : FnM P w K mg base Cl.desk.adr "raise_to" 9 (sp1 K 2 cDRaise) :=
  mkM1 T 101 rfl T.m_Desk_raise_to sc_Desk_raise_to (bind3 rfl fun _ _ _ _ _ _ _ _ _ => rfl) rfl fun cdv A outer s H E hr tk po => by
    refine ⟨_, (jb_cons (js_expr (je_call0 (ok_check_index T) (hr.mono (by decide)) tk rfl (ja_cons (je_prop1 (ok_Desk_book T) (hr.mono (by decide)) (je_var (pv 0))) (ja_cons (je_var (pv 1)) ja_nil))))
    (jb_cons (js_expr (je_call0 (ok_check_price T) (hr.mono (by decide)) tk rfl (ja_cons (je_var (pv 2)) ja_nil)))
    (jb_cons (js_set (i := 3) sc_Desk_raise_to.nd rfl (by first | exact .inl rfl | exact .inr rfl) (je_prop0 (ok_Book_quotes T) (hr.mono (by decide)) (je_prop1 (ok_Desk_book T) (hr.mono (by decide)) (je_var (pv 0)))))
    (jb_cons (js_set (i := 4) sc_Desk_raise_to.nd rfl (by first | exact .inl rfl | exact .inr rfl) (je_tup (ja_cons (je_ix (je_ix (je_var (pv 3)) (je_var (pv 1))) je_int) (ja_cons (je_var (pv 2)) ja_nil))))
    (jb_one (js_expr (je_meth1 (ok_Desk_put T) (hr.mono (by decide)) (je_var (pv 0)) (ja_cons (je_makeF (ok_Book_init T) (hr.mono (by decide)) rfl (ja_cons (je_prop0 (ok_Book_outcomes T) (hr.mono (by decide)) (je_prop1 (ok_Desk_book T) (hr.mono (by decide)) (je_var (pv 0)))) (ja_cons (je_tupL (ja_star (je_sl (je_var (pv 3)) jp_none (jp_some (je_var (pv 1)))) (ja_cons (je_var (pv 4)) (ja_star (je_sl (je_var (pv 3)) (jp_some (je_op op_addD (je_var (pv 1)) je_int)) jp_none) ja_nil)))) ja_nil))) ja_nil) (by decide +kernel)))))))), ?_⟩
    rintro ds c q t ⟨n, hist, qs, i, r, rfl, rfl, hd, hi, hr, h⟩ - -
    have hso := set_ok hd.b.ok hi hr
    have hqi : atI (qs.map qd) (i : Int) = some (qd (qs.getD i ⟨[], 0⟩)) := atI_nat (by rw [List.getElem?_map, List.getElem?_eq_getElem hi, List.getD_eq_getElem?_getD, List.getElem?_eq_getElem hi]; rfl)
    refine ⟨rfl, n, qs, hist, rfl, rfl, qs, n, i, rfl, by omega, r, rfl, hr, ?_⟩
    refine ⟨rfl, n, qs, hist, rfl, rfl, qs, n, rfl, _, hqi, _, rfl, ?_⟩
    refine ⟨rfl, n, qs, hist, rfl, rfl, qs, n, rfl, ?_⟩
    have key : cutD (qs.map qd) none (some (i : Int)) ++ (D.tup [inz (qs.getD i ⟨[], 0⟩).pay, fr r] :: (cutD (qs.map qd) (some ((i : Int) + 1)) none ++ [])) = (setPrice qs i r).map qd := by
      rw [show ((i : Int) + 1) = ((i + 1 : Nat) : Int) by omega, cut_take _ _ (by simp; omega), cut_dropN _ _ (by simp; omega)]
      unfold setPrice
      rw [List.map_append, List.map_append, List.map_take, List.map_drop, List.append_nil, List.append_assoc]
      rfl
    show noLoc (cutD (qs.map qd) none (some (i : Int)) ++ (D.tup [inz (qs.getD i ⟨[], 0⟩).pay, fr r] :: (cutD (qs.map qd) (some ((i : Int) + 1)) none ++ []))) = true ∧ (cutD (qs.map qd) none (some (i : Int)) ++ (D.tup [inz (qs.getD i ⟨[], 0⟩).pay, fr r] :: (cutD (qs.map qd) (some ((i : Int) + 1)) none ++ []))).length ≤ 100000 ∧
      rMeth1 .desk 1 cPut (rVar 0) (rCons (rMakeF .book 2 cBookI (fun _ S q _ => q [.int n, .tup (cutD (qs.map qd) none (some (i : Int)) ++ (D.tup [inz (qs.getD i ⟨[], 0⟩).pay, fr r] :: (cutD (qs.map qd) (some ((i : Int) + 1)) none ++ [])))] S)) rNil) [some (.loc 0), some (.int i), some (fr r), some (qsd qs), some (.tup [inz (qs.getD i ⟨[], 0⟩).pay, fr r])] [deskC n (hist ++ [qs])]
        (fun _ S => (out1 q t).nx [some (.loc 0), some (.int i), some (fr r), some (qsd qs), some (.tup [inz (qs.getD i ⟨[], 0⟩).pay, fr r])] S) fun _ _ => False
    rw [key]
    exact ⟨noLoc_map (fun _ => rfl) _, by have := hso.2.2.1; simp; omega, setPrice qs i r, n, rfl, hso.1, hso.2.1, hso.2.2, rfl, rfl, n, setPrice qs i r, hist ++ [qs], rfl, rfl, ⟨hd.b.n23, hso⟩, by have := hd.len; simp; omega, rfl, h⟩
abbrev N_Desk_news : List Str := ["self", "lot"]
theorem sc_Desk_news : FnScope N_Desk_news ["self", "lot"] (defScope s_Desk_news) := ⟨rfl, rfl, rfl, by decide +kernel, rfl, by decide +kernel, by decide +kernel⟩
theorem ok_Desk_news (T : Tx K mg) : FnM P w K mg base Cl.desk.adr "news" 10 (sp1 K 1 cDNews) :=
  mkM1 T 103 rfl T.m_Desk_news sc_Desk_news (bind2 rfl fun _ _ _ _ _ _ _ _ => rfl) rfl fun cdv A outer s H E hr tk po => by
    refine ⟨_, (jb_cons (js_expr (je_call0 (ok_check_lot T) (hr.mono (by decide)) tk rfl (ja_cons (je_var (pv 1)) (ja_cons (je_prop0 (ok_Book_outcomes T) (hr.mono (by decide)) (je_prop1 (ok_Desk_book T) (hr.mono (by decide)) (je_var (pv 0)))) ja_nil))))
    (jb_one (js_expr (je_meth1 (ok_Desk_put T) (hr.mono (by decide)) (je_var (pv 0)) (ja_cons (je_methF (ok_Book_with_quote T) (hr.mono (by decide)) (je_prop1 (ok_Desk_book T) (hr.mono (by decide)) (je_var (pv 0))) (ja_cons (je_call0 (ok_lot_payoff T) (hr.mono (by decide)) tk rfl (ja_cons (je_var (pv 1)) (ja_cons (je_prop0 (ok_Book_outcomes T) (hr.mono (by decide)) (je_prop1 (ok_Desk_book T) (hr.mono (by decide)) (je_var (pv 0)))) ja_nil))) (ja_cons (je_tup (ja_cons je_int (ja_cons je_int ja_nil))) ja_nil)) (by decide +kernel)) ja_nil) (by decide +kernel))))), ?_⟩
    rintro ds c q t ⟨n, hist, qs, ls, rfl, rfl, hd, hl, h30, h⟩ - -
    have hx : QtOk n ⟨lotPay n ls, 1⟩ := ⟨lotPay_ok n ls, show PriceOk (1 : Rat) from ⟨by decide, by decide, by decide⟩⟩
    have hk := hd.b.ok.app hx h30
    refine ⟨rfl, n, qs, hist, rfl, rfl, qs, n, rfl, ls, n, rfl, hl, ?_⟩
    refine ⟨rfl, n, qs, hist, rfl, rfl, rfl, n, qs, hist, rfl, rfl, qs, n, rfl, ls, n, rfl, by have := hd.b.n3; omega, ?_⟩
    exact ⟨qs, ⟨lotPay n ls, 1⟩, n, rfl, hk, rfl, n, qs ++ [⟨lotPay n ls, 1⟩], hist ++ [qs], rfl, rfl, ⟨hd.b.n23, hk⟩, by have := hd.len; simp; omega, rfl, h⟩
abbrev N_Desk_least : List Str := ["self", "payoff"]
theorem sc_Desk_least : FnScope N_Desk_least ["self", "payoff"] (defScope s_Desk_least) := ⟨rfl, rfl, rfl, by decide +kernel, rfl, by decide +kernel, by decide +kernel⟩
theorem ok_Desk_least (T : Tx K mg) : FnM P w K mg base Cl.desk.adr "least" 11 (sp1 K 1 (cDLeast minW)) :=
  mkM1 T 104 rfl T.m_Desk_least sc_Desk_least (bind2 rfl fun _ _ _ _ _ _ _ _ => rfl) rfl fun cdv A outer s H E hr tk po => by
    refine ⟨_, (jb_one (js_ret (je_call0 (ok_least_worth T) (hr.mono (by decide)) tk rfl (ja_cons (je_prop1 (ok_Desk_book T) (hr.mono (by decide)) (je_var (pv 0))) (ja_cons (je_var (pv 1)) ja_nil))))), ?_⟩
    rintro ds c q t ⟨n, hist, qs, ns, rfl, rfl, hb, hn, hs, h⟩ - -
    exact ⟨rfl, n, qs, hist, rfl, rfl, n, qs, ns, rfl, hb, hn, hs, trivial, rfl, h⟩
abbrev N_Desk_greatest : List Str := ["self", "payoff"]
theorem sc_Desk_greatest : FnScope N_Desk_greatest ["self", "payoff"] (defScope s_Desk_greatest) := ⟨rfl, rfl, rfl, by decide +kernel, rfl, by decide +kernel, by decide +kernel⟩
theorem ok_Desk_greatest (T : Tx K mg) : FnM P w K mg base Cl.desk.adr "greatest" 11 (sp1 K 1 (cDLeast maxW)) :=
  mkM1 T 105 rfl T.m_Desk_greatest sc_Desk_greatest (bind2 rfl fun _ _ _ _ _ _ _ _ => rfl) rfl fun cdv A outer s H E hr tk po => by
    refine ⟨_, (jb_one (js_ret (je_call0 (ok_greatest_worth T) (hr.mono (by decide)) tk rfl (ja_cons (je_prop1 (ok_Desk_book T) (hr.mono (by decide)) (je_var (pv 0))) (ja_cons (je_var (pv 1)) ja_nil))))), ?_⟩
    rintro ds c q t ⟨n, hist, qs, ns, rfl, rfl, hb, hn, hs, h⟩ - -
    exact ⟨rfl, n, qs, hist, rfl, rfl, n, qs, ns, rfl, hb, hn, hs, trivial, rfl, h⟩
abbrev N_Desk_undo : List Str := ["self"]
theorem sc_Desk_undo : FnScope N_Desk_undo ["self"] (defScope s_Desk_undo) := ⟨rfl, rfl, rfl, by decide +kernel, rfl, by decide +kernel, by decide +kernel⟩
theorem ok_Desk_undo (T : Tx K mg) : FnM P w K mg base Cl.desk.adr "undo" 1 (sp1 K 0 cDUndo) :=
  mkM1 T 106 rfl T.m_Desk_undo sc_Desk_undo (bind1 rfl fun _ _ _ _ _ _ _ => rfl) rfl fun cdv A outer s H E hr tk po => by
    refine ⟨_, (jb_cons (js_if (jt_cmp (op_eqD' hr.units) (je_callB call_lenD rfl T.b_len (by decide +kernel) (ja_cons (je_fld T.cf .desk 0 (je_var (pv 0))) ja_nil)) je_int (nomark _)) (jb_one js_never) jb_nil)
    (jb_one (js_setF T.cf .desk 0 id (.inl rfl) (je_var (pv 0)) (je_sl (je_fld T.cf .desk 0 (je_var (pv 0))) jp_none (jp_some (je_un un_negD je_int)))))), ?_⟩
    rintro ds c q t ⟨n, hist, qs, rfl, rfl, hne, h⟩ - -
    refine onF ?_ ?_
    · show (false ^^ decide ((((hist ++ [qs]).map (pairD n)).length : Int) = 1)) = false
      have : 0 < hist.length := List.length_pos_iff.mpr hne
      simp
      omega
    · have e : cutD ((hist ++ [qs]).map (pairD n)) none (some (-1)) = hist.map (pairD n) := by rw [List.map_append]; exact cut_last (α := Nat) _ _
      show (out1 q t).nx [some (.loc 0)] [.ins .desk [.tup (cutD ((hist ++ [qs]).map (pairD n)) none (some (-1)))]]
      rw [e]
      exact ⟨rfl, h⟩
end
end SC
end

section
set_option maxHeartbeats 4000000
namespace SC
open PySem L2 DL
section
variable {P : Program} {w : World} {K : PySem.W.Frag} {mg : Str → Option Value} {base : Heap}

theorem mkEq {d : FnRec} {N ps : List Str} {k : Nat} (T : Tx K mg) (i : Nat) (hi : fnTab[i]? = some d) (ha : d.adr = 594) (S : FnScope N ps (defScope d.st)) (hb : BindOk d ps) (hn : ps.length = 2)
    (b : BodyOk P w K mg base N d.qual (defScope d.st) (defBody d.st) d.adr k fun r => ∀ ds q x, pcEq ds q x → ds.length = 2 → r (out0 q x) (startD N ds) []) : FnEq P w K mg base (k + 1) := by
  obtain ⟨fd, F⟩ := T.f i d hi
  refine ⟨d.adr, fd, ps, fn_ok F S (fun _ _ _ _ h => (len_sp0 h).trans hn.symm) b (fun _ c _ _ _ _ h => up_sp0 c h), ?_, F.bindsN hb⟩
  rw [ha]; exact T.bk
noncomputable abbrev deskD (n : Nat) (hist : List (List Qt)) : D := .obj .desk [.tup (hist.map (pairD n))]
abbrev zBook : PC := fun ds q _ => ∃ (n : Nat) (qs : List Qt) (hist : List (List Qt)), ds = [deskD n (hist ++ [qs])] ∧ q (bkd n qs)
abbrev zSound : PC := fun ds q _ => ∃ (n : Nat) (qs : List Qt) (hist : List (List Qt)), ds = [deskD n (hist ++ [qs])] ∧ q (.bl (sound n qs))
abbrev zChg : PC := fun ds q _ => ∃ (n : Nat) (hist : List (List Qt)), ds = [deskD n hist] ∧ q (.int ((hist.length : Int) - 1))
abbrev zLeast (f : Nat → List Qt → List Int → Rat) : PC := fun ds q _ => ∃ (n : Nat) (hist : List (List Qt)) (qs : List Qt) (ns : List Int), ds = [deskD n (hist ++ [qs]), inz ns] ∧ B23 n qs ∧ PayOk n ns ∧ sound n qs = true ∧ q (fr (f n qs ns))
abbrev cShows : PC := fun ds q _ => ∃ (n : Nat) (hist : List (List Qt)) (qs : List Qt) (ns : List Int), ds = [deskD n (hist ++ [qs]), .int n, .lst ((hist ++ [qs]).map qsd), inz ns] ∧ B23 n qs ∧ PayOk n ns ∧ q (.bl true)
theorem okE_qd4 (x : Qt) : okE 4 (qd x) = true := by
  show (okE 3 (inz x.pay) && (okE 3 (fr x.price) && true)) = true
  rw [okE_ints 2]; rfl
theorem okE_qs5 (qs : List Qt) : okE 5 (qsd qs) = true := okEs_map (fun x => okE_qd4 x) qs
abbrev N_Book_eq : List Str := ["self", "other"]
theorem sc_Book_eq : FnScope N_Book_eq ["self", "other"] (defScope s_Book_eq) := ⟨rfl, rfl, rfl, by decide +kernel, rfl, by decide +kernel, by decide +kernel⟩
theorem ok_Book_eq (T : Tx K mg) : FnEq P w K mg base 1 :=
  mkEq T 53 rfl rfl sc_Book_eq (bind2 rfl fun _ _ _ _ _ _ _ _ => rfl) rfl fun cdv A outer s H E hr tk po => by
    refine ⟨_, (jb_cons (js_if (jt_not (jt_val (je_callB (call_isi_Book T.cf T.bk) rfl T.b_isinstance (by decide +kernel) (ja_cons (je_var (pv 1)) (ja_cons (je_gref T.g_Book rfl) ja_nil))))) (jb_one (js_ret je_bl)) jb_nil)
    (jb_one (js_ret (je_cmp (op_eqD' hr.units) (je_fld T.cf .book 0 (je_var (pv 0))) (je_fld T.cf .book 0 (je_var (pv 1))) (nomark _))))), ?_⟩
    rintro ds q t ⟨k, qs, w1, w2, rfl, ho, h⟩ -
    have o1 : okE 6 (.tup [.int k, qs]) = true := by
      show (okE 5 (.int k) && (okE 5 qs && true)) = true
      rw [ho]; rfl
    refine ⟨rfl, o1, o1, ?_⟩
    show q (.bl (false ^^ eqb (.tup [.int k, qs]) (.tup [.int k, qs])))
    rw [eqb_self 6 _ o1]
    exact h
theorem ok_Desk_bookZ (T : Tx K mg) : FnP P w K mg base Cl.desk.adr "book" 1 (sp0 K 1 zBook) :=
  mkP0 T 96 rfl T.p_Desk_book sc_Desk_book (bind1 rfl fun _ _ _ _ _ _ _ => rfl) rfl fun cdv A outer s H E hr tk po => by
    refine ⟨_, (jb_one (js_ret (je_ix (je_ix (je_fld T.cf .desk 0 (je_var (pv 0))) (je_un un_negD je_int)) je_int))), ?_⟩
    rintro ds q t ⟨n, qs, hist, rfl, h⟩ -
    exact ⟨_, hist_at n hist qs, _, rfl, h⟩
theorem ok_Desk_is_soundZ (T : Tx K mg) : FnP P w K mg base Cl.desk.adr "is_sound" 1 (sp0 K 1 zSound) :=
  mkP0 T 97 rfl T.p_Desk_is_sound sc_Desk_is_sound (bind1 rfl fun _ _ _ _ _ _ _ => rfl) rfl fun cdv A outer s H E hr tk po => by
    refine ⟨_, (jb_one (js_ret (je_ix (je_ix (je_fld T.cf .desk 0 (je_var (pv 0))) (je_un un_negD je_int)) je_int))), ?_⟩
    rintro ds q t ⟨n, qs, hist, rfl, h⟩ -
    exact ⟨_, hist_at n hist qs, _, rfl, h⟩
theorem ok_Desk_changesZ (T : Tx K mg) : FnP P w K mg base Cl.desk.adr "changes" 1 (sp0 K 1 zChg) :=
  mkP0 T 98 rfl T.p_Desk_changes sc_Desk_changes (bind1 rfl fun _ _ _ _ _ _ _ => rfl) rfl fun cdv A outer s H E hr tk po => by
    refine ⟨_, (jb_one (js_ret (je_op op_subD (je_callB call_lenD rfl T.b_len (by decide +kernel) (ja_cons (je_fld T.cf .desk 0 (je_var (pv 0))) ja_nil)) je_int))), ?_⟩
    rintro ds q t ⟨n, hist, rfl, h⟩ -
    show q (.int (((hist.map (pairD n)).length : Int) - 1))
    rw [List.length_map]
    exact h
theorem ok_Desk_leastZ (T : Tx K mg) : FnM P w K mg base Cl.desk.adr "least" 11 (sp0 K 2 (zLeast minW)) :=
  mkM0 T 104 rfl T.m_Desk_least sc_Desk_least (bind2 rfl fun _ _ _ _ _ _ _ _ => rfl) rfl fun cdv A outer s H E hr tk po => by
    refine ⟨_, (jb_one (js_ret (je_call0 (ok_least_worth T) (hr.mono (by decide)) tk rfl (ja_cons (je_prop0 (ok_Desk_bookZ T) (hr.mono (by decide)) (je_var (pv 0))) (ja_cons (je_var (pv 1)) ja_nil))))), ?_⟩
    rintro ds q t ⟨n, hist, qs, ns, rfl, hb, hn, hs, h⟩ -
    exact ⟨n, qs, hist, rfl, n, qs, ns, rfl, hb, hn, hs, h⟩
theorem ok_Desk_greatestZ (T : Tx K mg) : FnM P w K mg base Cl.desk.adr "greatest" 11 (sp0 K 2 (zLeast maxW)) :=
  mkM0 T 105 rfl T.m_Desk_greatest sc_Desk_greatest (bind2 rfl fun _ _ _ _ _ _ _ _ => rfl) rfl fun cdv A outer s H E hr tk po => by
    refine ⟨_, (jb_one (js_ret (je_call0 (ok_greatest_worth T) (hr.mono (by decide)) tk rfl (ja_cons (je_prop0 (ok_Desk_bookZ T) (hr.mono (by decide)) (je_var (pv 0))) (ja_cons (je_var (pv 1)) ja_nil))))), ?_⟩
    rintro ds q t ⟨n, hist, qs, ns, rfl, hb, hn, hs, h⟩ -
    exact ⟨n, qs, hist, rfl, n, qs, ns, rfl, hb, hn, hs, h⟩
abbrev N__law_shows : List Str := ["_law_desk", "_law_size", "_law_past", "_law_payoff_here", "_law_ends_here"]
theorem sc__law_shows : FnScope N__law_shows ["_law_desk", "_law_size", "_law_past", "_law_payoff_here"] (defScope s__law_shows) := ⟨rfl, rfl, rfl, by decide +kernel, rfl, by decide +kernel, by decide +kernel⟩
theorem ok__law_shows (T : Tx K mg) : FnG P w K mg base "_law_shows" 12 (sp0 K 4 cShows) :=
  mkG0 T 139 rfl rfl sc__law_shows (bind4 rfl fun _ _ _ _ _ _ _ _ _ _ => rfl) rfl fun cdv A outer s H E hr tk po => by
    refine ⟨_, (jb_cons (js_set (i := 4) sc__law_shows.nd rfl (by first | exact .inl rfl | exact .inr rfl) (je_call0 (ok__law_ends T) (hr.mono (by decide)) tk rfl (ja_cons (je_var (pv 1)) (ja_cons (je_ix (je_var (pv 2)) (je_un un_negD je_int)) (ja_cons (je_var (pv 3)) ja_nil)))))
    (jb_cons (js_if (jt_w (jw_or (jt_cmp (op_bookNe (ok_Book_eq T) T.bn (hr.mono (by decide))) (je_prop0 (ok_Desk_bookZ T) (hr.mono (by decide)) (je_var (pv 0))) (je_makeF (ok_Book_init T) (hr.mono (by decide)) rfl (ja_cons (je_var (pv 1)) (ja_cons (je_ix (je_var (pv 2)) (je_un un_negD je_int)) ja_nil))) (nomark _)) (jw_or (jt_cmp (op_neD' hr.units) (je_prop0 (ok_Desk_changesZ T) (hr.mono (by decide)) (je_var (pv 0))) (je_op op_subD (je_callB call_lenD rfl T.b_len (by decide +kernel) (ja_cons (je_var (pv 2)) ja_nil)) je_int) (nomark _)) (jw_or1 (jt_cmp (op_neD' hr.units) (je_prop0 (ok_Desk_is_soundZ T) (hr.mono (by decide)) (je_var (pv 0))) (je_cmp (op_neD' hr.units) (je_var (pv 4)) (je_tup ja_nil) (nomark _)) (nomark _)))))) (jb_one (js_ret je_bl)) jb_nil)
    (jb_one (js_ret (je_or (je_cmp (op_eqD' hr.units) (je_var (pv 4)) (je_tup ja_nil) (nomark _)) (je_one (je_cmp (op_eqD' hr.units) (je_tup (ja_cons (je_methF (ok_Desk_leastZ T) (hr.mono (by decide)) (je_var (pv 0)) (ja_cons (je_var (pv 3)) ja_nil) (by decide +kernel)) (ja_cons (je_methF (ok_Desk_greatestZ T) (hr.mono (by decide)) (je_var (pv 0)) (ja_cons (je_var (pv 3)) ja_nil) (by decide +kernel)) ja_nil))) (je_var (pv 4)) (nomark _)))))))), ?_⟩
    rintro ds q t ⟨n, hist, qs, ns, rfl, hb, hn, h⟩ -
    have hl : atI ((hist ++ [qs]).map qsd) (-1) = some (qsd qs) := by rw [List.map_append]; exact last_at _ _
    have n2 : 2 ≤ n := hb.ok.1
    have n3 := hb.n3
    refine ⟨_, hl, n, qs, ns, rfl, hb, hn, ?_⟩
    refine ⟨n, qs, hist, rfl, _, hl, qs, n, rfl, n2, by omega, hb.ok.2.2, rfl, ⟨n, qsd qs, .any, .any, rfl, okE_qs5 qs, rfl⟩, ?_⟩
    refine ⟨n, hist ++ [qs], rfl, ?_⟩
    refine onF ?_ ?_
    · show (true ^^ decide (((hist ++ [qs]).length : Int) - 1 = ((((hist ++ [qs]).map qsd).length : Nat) : Int) - 1)) = false
      rw [List.length_map]; simp
    refine ⟨n, qs, hist, rfl, okE_ends n qs ns, rfl, ?_⟩
    refine onF ?_ ?_
    · show (true ^^ decide (sound n qs = (true ^^ eqb (endsD n qs ns) (.tup [])))) = false
      rw [ends_ne]; simp
    refine ⟨okE_ends n qs ns, rfl, ?_⟩
    cases hs : sound n qs with
    | false =>
      refine onT ?_ h
      rw [ends_f hs]; rfl
    | true =>
      refine onF ?_ ?_
      · rw [ends_t hs]; rfl
      refine ⟨n, hist, qs, ns, rfl, hb, hn, hs, n, hist, qs, ns, rfl, hb, hn, hs, rfl, okE_ends n qs ns, ?_⟩
      rw [ends_t hs]
      show q (.bl (false ^^ eqb (.tup [fr (minW n qs ns), fr (maxW n qs ns)]) (.tup [fr (minW n qs ns), fr (maxW n qs ns)])))
      rw [eqb_self 6 _ rfl]
      exact h
end
end SC
end

section
set_option maxHeartbeats 4000000
namespace SC
open PySem L2 DL
section
variable {P : Program} {w : World} {K : PySem.W.Frag} {mg : Str → Option Value} {base : Heap}

theorem ok_TooGreat (U : Ux K mg) : FnX P w K mg base "TooGreat" 252 1 "given" := by
  obtain ⟨fd, F⟩ := U.t.f 9 d_TooGreat_init rfl
  refine ⟨249, fd, ["self", "given"], U.tg, F.ok (N := ["self", "given"]) ⟨rfl, rfl, rfl, by decide +kernel, rfl, by decide +kernel, by decide +kernel⟩ ?_ ?_, F.bindsN (bind2 rfl fun _ _ _ _ _ _ _ _ => rfl), U.t.g_TooGreat⟩
  · rintro vs H Q E ⟨a, y, rfl, _⟩
    rfl
  · intro cdv A outer s H vs Q E hr h
    refine ⟨_, pss_one (ps_ae (f := "given") (C := 252) (fI := 249) (pv 0) (pv 1)), ?_⟩
    obtain ⟨a, y, rfl, T, ea, q⟩ := h
    exact ⟨a, y, rfl, T, ea, q⟩
noncomputable def tightQ (n : Nat) (qs : List Qt) : List Qt := qs.map fun x => ⟨x.pay, minW n qs x.pay⟩
noncomputable def tOk (n : Nat) (qs : List Qt) : Bool := (tightQ n qs).all fun x => priceB x.price
theorem mul_bd {a q B : Int} (h : -B ≤ a ∧ a ≤ B) (hq : 0 ≤ q) : -(B * q) ≤ q * a ∧ q * a ≤ B * q := by
  constructor
  · have := Int.mul_le_mul_of_nonneg_left h.1 hq
    rw [Int.mul_neg, Int.mul_comm q B] at this
    exact this
  · rw [Int.mul_comm B q]
    exact Int.mul_le_mul_of_nonneg_left h.2 hq
theorem dotP_bd {n : Nat} {X Q : List Int} (h : n = 2 ∨ n = 3) (hX : PayOk n X) (hQ : Q.length = n) (h0 : ∀ x ∈ Q, 0 ≤ x) : -(1000 * Q.sum) ≤ MA.dot X Q ∧ MA.dot X Q ≤ 1000 * Q.sum := by
  rcases h with rfl | rfl
  · obtain ⟨a, b, rfl⟩ := MA.len2 hX.1
    obtain ⟨c, d, rfl⟩ := MA.len2 hQ
    have h1 := mul_bd (hX.2 a (by simp)) (h0 c (by simp))
    have h2 := mul_bd (hX.2 b (by simp)) (h0 d (by simp))
    simp [MA.dot, Int.mul_comm] at *
    omega
  · obtain ⟨a, b, e, rfl⟩ := MA.len3 hX.1
    obtain ⟨c, d, f, rfl⟩ := MA.len3 hQ
    have h1 := mul_bd (hX.2 a (by simp)) (h0 c (by simp))
    have h2 := mul_bd (hX.2 b (by simp)) (h0 d (by simp))
    have h3 := mul_bd (hX.2 e (by simp)) (h0 f (by simp))
    simp [MA.dot, Int.mul_comm] at *
    omega
theorem minW_k {n : Nat} {qs : List Qt} (h : B23 n qs) {ns : List Int} (hn : PayOk n ns) (hs : sound n qs = true) : -(1000 * ((minW n qs ns).den : Int)) ≤ (minW n qs ns).num ∧ (minW n qs ns).num ≤ 1000 * ((minW n qs ns).den : Int) := by
  obtain ⟨⟨Q, ⟨q1, q2, q3, _⟩, q5⟩, _⟩ := minW_min h hn hs
  obtain ⟨b1, b2⟩ := dotP_bd h.n23 hn q1 q2
  generalize minW n qs ns = r at *
  have e : r.num * Q.sum = MA.dot ns Q * (r.den : Int) := by
    rw [← Rat.divInt_eq_divInt_iff (by have := r.den_pos; omega) (by omega), ← q5]
    exact Rat.num_divInt_den r
  have dp : (0 : Int) < (r.den : Int) := by have := r.den_pos; omega
  constructor
  · refine Int.le_of_mul_le_mul_right (a := Q.sum) ?_ q3
    rw [e]
    have := Int.mul_le_mul_of_nonneg_right b1 (Int.le_of_lt dp)
    rw [Int.neg_mul] at this ⊢
    rw [Int.mul_right_comm]
    exact this
  · refine Int.le_of_mul_le_mul_right (a := Q.sum) ?_ q3
    rw [e, Int.mul_right_comm]
    exact Int.mul_le_mul_of_nonneg_right b2 (Int.le_of_lt dp)
theorem priceB_min {n : Nat} {qs : List Qt} (h : B23 n qs) {ns : List Int} (hn : PayOk n ns) (hs : sound n qs = true) : priceB (minW n qs ns) = !decide (1000 < ((minW n qs ns).den : Int)) := by
  obtain ⟨b1, b2⟩ := minW_k h hn hs
  have dp := (minW n qs ns).den_pos
  unfold priceB
  by_cases c : ((minW n qs ns).den : Int) ≤ 1000
  · rw [decide_eq_true (by omega), decide_eq_true (by omega), decide_eq_false (by omega)]; rfl
  · rw [decide_eq_false (p := 1 ≤ _ ∧ _) (by omega), decide_eq_true (p := 1000 < _) (by omega)]; simp
theorem priceB_p {r : Rat} (h : priceB r = true) : PriceOk r := by
  unfold priceB at h
  rw [Bool.and_eq_true, decide_eq_true_iff, decide_eq_true_iff] at h
  exact ⟨h.1.1, h.1.2, h.2.2⟩
theorem tight_ok {n : Nat} {qs : List Qt} (h : B23 n qs) (ht : tOk n qs = true) : B23 n (tightQ n qs) := ⟨h.n23, h.ok.1, h.ok.2.1, by unfold tightQ; rw [List.length_map]; exact h.ok.2.2.1, fun x hx => by
  have hp := List.all_eq_true.mp ht x hx
  obtain ⟨y, hy, rfl⟩ := List.mem_map.mp hx
  exact ⟨(h.ok.2.2.2 y hy).1, priceB_p hp⟩⟩
theorem tight_loop (O : Out) (f : Option DL.D) (S : List Cell) : ∀ (l : List Qt) (p2 p3 : Option DL.D), (∀ x ∈ l, Bd 3000 x.price) →
    (l.all (fun x => priceB x.price) = true → ∀ p2 p3, O.nx [some (.loc 0), f, p2, p3] S) → (l.all (fun x => priceB x.price) = false → ∀ p2 p3, O.xc 252 [some (.loc 0), f, p2, p3] S) →
    forD (rgTup 2 (rgCons (rgName 2) (rgCons (rgName 3) rgNil))) (rIfS (rNot (rTest (rCall0 1 cPrice (rCons (rVar 3) rNil)))) (rRaise1 252 (rVar 3)) rNext) O (l.map qd) [some (.loc 0), f, p2, p3] S
  | [], p2, p3, _, h, _ => h rfl p2 p3
  | x :: l, p2, p3, hb, h, hx => by
    refine ⟨x.price, rfl, hb x (.head _), ?_⟩
    refine onB (fun e => ?_) fun e => ?_
    · have e : priceB x.price = false := by simpa using e
      exact hx (by rw [List.all_cons, e]; rfl) _ _
    · have e : priceB x.price = true := by simpa using e
      exact tight_loop O f S l _ _ (fun y hy => hb y (.tail _ hy)) (fun z => h (by rw [List.all_cons, e, z]; rfl)) fun z => hx (by rw [List.all_cons, e, z]; rfl)
theorem tight_map (n : Nat) (qs : List Qt) : (qs.map fun x => qd ⟨x.pay, minW n qs x.pay⟩) = (tightQ n qs).map qd := by unfold tightQ; rw [List.map_map]; rfl
abbrev cTight : PC1 := fun ds c q x => ∃ (n : Nat) (hist : List (List Qt)) (qs : List Qt), ds = [] ∧ c = deskC n (hist ++ [qs]) ∧ DeskOk n hist qs ∧
  (sound n qs = false → x 221 (deskC n (hist ++ [qs]))) ∧ (sound n qs = true → tOk n qs = false → x 252 (deskC n (hist ++ [qs]))) ∧
  (sound n qs = true → tOk n qs = true → q .non (deskC n (hist ++ [qs] ++ [tightQ n qs])))
abbrev N_Desk_tighten : List Str := ["self", "fresh", "payoff", "price"]
theorem sc_Desk_tighten : FnScope N_Desk_tighten ["self"] (defScope s_Desk_tighten) := ⟨rfl, rfl, rfl, by decide +kernel, rfl, by decide +kernel, by decide +kernel⟩
theorem ok_Desk_tighten (U : Ux K mg) : FnM P w K mg base Cl.desk.adr "tighten" 9 (sp1 K 0 cTight) :=
  have T := U.t
  mkM1 T 102 rfl T.m_Desk_tighten sc_Desk_tighten (bind1 rfl fun _ _ _ _ _ _ _ => rfl) rfl fun cdv A outer s H E hr tk po => by
    refine ⟨_, (jb_cons (js_expr (je_call0 (ok_check_sound T) (hr.mono (by decide)) tk rfl (ja_cons (je_prop1 (ok_Desk_book T) (hr.mono (by decide)) (je_var (pv 0))) ja_nil)))
    (jb_cons (js_setLc (i := 1) rfl sc_Desk_tighten.nd rfl rfl (sw_true rfl rfl rfl (by decide +kernel)) (own := [("payoff", 2), ("price", 3)]) (g := (gTup K 2 (gCons (gName 2) (gCons (gName 3) gNil)))) (ji_tup (je_prop0 (ok_Book_quotes T) (hr.mono (by decide)) (je_prop1 (ok_Desk_book T) (hr.mono (by decide)) (je_var (pv 0))))) (blkOk_by (own := [("payoff", 2), ("price", 3)]) (N := N_Desk_tighten) (sc := defScope s_Desk_tighten) (by decide +kernel)) (fun _ _ _ _ _ => (pg_tup rfl (pgs_cons (pg_name (i := 2) sc_Desk_tighten.nd rfl (by first | exact Or.inl rfl | exact Or.inr rfl)) (pgs_cons (pg_name (i := 3) sc_Desk_tighten.nd rfl (by first | exact Or.inl rfl | exact Or.inr rfl)) pgs_nil)))) (gok_tup (gok_cons gok_name (gok_cons gok_name gok_nil))) (fun _ _ _ _ _ => jts_nil) (fun _ _ _ _ _ => (je_tup (ja_cons (je_var (pv 2)) (ja_cons (je_call0 (ok_least_by T) (hr.mono (by decide)) L2.takes0 rfl (ja_cons (je_prop1 (ok_Desk_book T) (hr.mono (by decide)) (je_var (pv 0))) (ja_cons (je_var (pv 2)) ja_nil))) ja_nil)))))
    (jb_cons (js_for po rfl (ji_lst (je_var (pv 1))) (jg_tup rfl (jgs_cons (jg_name (pg_name (i := 2) sc_Desk_tighten.nd rfl (by first | exact .inl rfl | exact .inr rfl))) (jgs_cons (jg_name (pg_name (i := 3) sc_Desk_tighten.nd rfl (by first | exact .inl rfl | exact .inr rfl))) jgs_nil))) (jb_one (js_if (jt_not (jt_val (je_call0 (ok_is_price T) (hr.mono (by decide)) tk rfl (ja_cons (je_var (pv 3)) ja_nil)))) (jb_one (js_raise1 (ok_TooGreat U) rfl (hr.mono (by decide)) tk rfl (je_var (pv 3)))) jb_nil)))
    (jb_one (js_expr (je_meth1 (ok_Desk_put T) (hr.mono (by decide)) (je_var (pv 0)) (ja_cons (je_makeF (ok_Book_init T) (hr.mono (by decide)) rfl (ja_cons (je_prop0 (ok_Book_outcomes T) (hr.mono (by decide)) (je_prop1 (ok_Desk_book T) (hr.mono (by decide)) (je_var (pv 0)))) (ja_cons (je_callTy call_tupleD rfl T.b_tuple (by decide +kernel) (ja_cons (je_var (pv 1)) ja_nil)) ja_nil))) ja_nil) (by decide +kernel))))))), ?_⟩
    rintro ds c q t ⟨n, hist, qs, rfl, rfl, hd, x1, x2, h⟩ - -
    refine ⟨rfl, n, qs, hist, rfl, rfl, n, qs, rfl, hd.b, fun hs => ?_, fun hs => ⟨rfl, x1 hs⟩⟩
    refine ⟨rfl, n, qs, hist, rfl, rfl, qs, n, rfl, ?_⟩
    refine lc_mapA qs qd (fun x => qd ⟨x.pay, minW n qs x.pay⟩) (fun _ _ => rfl) (by have := hd.b.ok.2.2.1; omega) ?_ ?_
    · intro x hx A hA
      exact ⟨rfl, n, qs, hist, rfl, rfl, n, qs, x.pay, rfl, hd.b, (hd.b.ok.2.2.2 x hx).1, hs, hA⟩
    rw [tight_map]
    refine tight_loop _ _ _ (tightQ n qs) _ _ ?_ ?_ ?_
    · intro x hx
      obtain ⟨y, hy, rfl⟩ := List.mem_map.mp hx
      exact (minW_bd hd.b (hd.b.ok.2.2.2 y hy).1 hs).mono (by decide)
    · intro ht p2 p3
      have hb := tight_ok hd.b ht
      exact ⟨rfl, n, qs, hist, rfl, rfl, qs, n, rfl, tightQ n qs, n, rfl, hb.ok.1, hb.ok.2.1, hb.ok.2.2, rfl, rfl, n, tightQ n qs, hist ++ [qs], rfl, rfl, hb, by have := hd.len; simp; omega, rfl, h hs ht⟩
    · intro ht p2 p3
      exact ⟨rfl, x2 hs ht⟩
end
end SC
end

section
set_option maxHeartbeats 4000000
namespace SC
open PySem L2 DL
section
variable {P : Program} {w : World} {K : PySem.W.Frag} {mg : Str → Option Value} {base : Heap}

/-- what the law does with a desk -/
inductive Deed where
  | quote (x : Qt)
  | drop (i : Nat)
  | raise (i : Nat) (r : Rat)
  | news (ls : List Int)
  | tighten
noncomputable def deedD : Deed → D
  | .quote x => .tup [.str "quote", qd x]
  | .drop i => .tup [.str "drop", .int i]
  | .raise i r => .tup [.str "raise", .int i, fr r]
  | .news ls => .tup [.str "news", inz ls]
  | .tighten => .tup [.str "tighten", .int 0]
noncomputable def deedQ (n : Nat) (qs : List Qt) : Deed → Option (List Qt)
  | .quote x => some (qs ++ [x])
  | .drop i => some (qs.eraseIdx i)
  | .raise i r => some (setPrice qs i r)
  | .news ls => some (qs ++ [⟨lotPay n ls, 1⟩])
  | .tighten => if sound n qs && tOk n qs then some (tightQ n qs) else none
def DeedOk (n : Nat) (qs : List Qt) : Deed → Prop
  | .quote x => BkOk n (qs ++ [x])
  | .drop i => i < qs.length
  | .raise i r => i < qs.length ∧ PriceOk r
  | .news ls => LotOk n ls ∧ qs.length ≤ 30
  | .tighten => True
noncomputable def after (n : Nat) (hist : List (List Qt)) (qs : List Qt) (q : D → Cell → Prop) : Option (List Qt) → Prop
  | some r => q (.bl true) (deskC n (hist ++ [qs] ++ [r]))
  | none => q (.bl false) (deskC n (hist ++ [qs]))
abbrev cDo : PC1 := fun ds c q _ => ∃ (n : Nat) (hist : List (List Qt)) (qs : List Qt) (d : Deed), ds = [deedD d] ∧ c = deskC n (hist ++ [qs]) ∧ DeskOk n hist qs ∧ DeedOk n qs d ∧ after n hist qs q (deedQ n qs d)

abbrev N__law_do : List Str := ["_law_desk", "_law_deed_here"]
theorem sc__law_do : FnScope N__law_do ["_law_desk", "_law_deed_here"] (defScope s__law_do) := ⟨rfl, rfl, rfl, by decide +kernel, rfl, by decide +kernel, by decide +kernel⟩
theorem ok__law_do (U : Ux K mg) : FnG P w K mg base "_law_do" 11 (sp1 K 1 cDo) :=
  have T := U.t
  mkG1 T 138 rfl rfl sc__law_do (bind2 rfl fun _ _ _ _ _ _ _ _ => rfl) rfl fun cdv A outer s H E hr tk po => by
    refine ⟨_, (jb_cons (js_try (f := fNT) rfl rfl (clOk_two (by rfl) T.g_NotSound (by rfl) T.g_TooGreat U.ex2) tk (fun W pn xe tk po => (jb_one (js_if (jt_cmp (op_eqD' hr.units) (je_ix (je_var (pv 1)) je_int) je_str (nomark _)) (jb_one (js_expr (je_meth1 (ok_Desk_quote T) (hr.mono (by decide)) (je_var (pv 0)) (ja_cons (je_ix (je_ix (je_var (pv 1)) je_int) je_int) (ja_cons (je_ix (je_ix (je_var (pv 1)) je_int) je_int) ja_nil)) (by decide +kernel)))) (jb_one (js_if (jt_cmp (op_eqD' hr.units) (je_ix (je_var (pv 1)) je_int) je_str (nomark _)) (jb_one (js_expr (je_meth1 (ok_Desk_drop T) (hr.mono (by decide)) (je_var (pv 0)) (ja_cons (je_ix (je_var (pv 1)) je_int) ja_nil) (by decide +kernel)))) (jb_one (js_if (jt_cmp (op_eqD' hr.units) (je_ix (je_var (pv 1)) je_int) je_str (nomark _)) (jb_one (js_expr (je_meth1 (ok_Desk_raise_to T) (hr.mono (by decide)) (je_var (pv 0)) (ja_cons (je_ix (je_var (pv 1)) je_int) (ja_cons (je_ix (je_var (pv 1)) je_int) ja_nil)) (by decide +kernel)))) (jb_one (js_if (jt_cmp (op_eqD' hr.units) (je_ix (je_var (pv 1)) je_int) je_str (nomark _)) (jb_one (js_expr (je_meth1 (ok_Desk_news T) (hr.mono (by decide)) (je_var (pv 0)) (ja_cons (je_ix (je_var (pv 1)) je_int) ja_nil) (by decide +kernel)))) (jb_one (js_expr (je_meth10S (ok_Desk_tighten U) (hr.mono (by decide)) tk (je_var (pv 0)) (by decide +kernel))))))))))))) (fun a oe pn => (jb_one (js_ret je_bl))))
    (jb_one (js_ret je_bl))), ?_⟩
    rintro ds c q t ⟨n, hist, qs, d, rfl, rfl, hd, hk, h⟩ - -
    cases d with
    | quote x =>
      exact ⟨_, rfl, _, rfl, _, rfl, _, rfl, _, rfl, rfl, n, hist, qs, x, rfl, rfl, hd, hk, trivial, rfl, h⟩
    | drop i =>
      exact ⟨_, rfl, _, rfl, _, rfl, rfl, n, hist, qs, i, rfl, rfl, hd, hk, trivial, rfl, h⟩
    | raise i r =>
      exact ⟨_, rfl, _, rfl, _, rfl, _, rfl, _, rfl, rfl, n, hist, qs, i, r, rfl, rfl, hd, hk.1, hk.2, trivial, rfl, h⟩
    | news ls =>
      exact ⟨_, rfl, _, rfl, _, rfl, _, rfl, _, rfl, rfl, n, hist, qs, ls, rfl, rfl, hd, hk.1, hk.2, trivial, rfl, h⟩
    | tighten =>
      refine ⟨_, rfl, _, rfl, _, rfl, _, rfl, rfl, n, hist, qs, rfl, rfl, hd, fun hs => ?_, fun hs ht => ?_, fun hs ht => ?_⟩
      all_goals simp only [deedQ, after, hs, Bool.false_and, Bool.true_and, if_false, if_true] at h
      · exact ⟨trivial, rfl, h⟩
      all_goals simp only [ht] at h
      · exact ⟨trivial, rfl, h⟩
      · exact ⟨trivial, rfl, h⟩
end
end SC
end

section
set_option maxHeartbeats 4000000
namespace SC
open PySem L2 DL
section
variable {P : Program} {w : World} {K : PySem.W.Frag} {mg : Str → Option Value} {base : Heap}

abbrev cDeed : PC1 := fun ds c q _ => ∃ (a m k : Int) (n : Nat) (qs : List Qt), ds = [.int n, qsd qs] ∧ c = jarC a m k ∧ JarOk a m (k + 70) ∧ 0 ≤ k ∧ B23 n qs ∧ qs.length ≤ 30 ∧
  ∀ d, DeedOk n qs d → jarQ k 70 (q (.tup [deedD d, qsd ((deedQ n qs d).getD qs)]))
theorem JarOk.at {a m k c a' m' k' : Int} (h : JarOk a m (k + c)) (h0 : 0 ≤ k) (h1 : 0 ≤ a') (h2 : 0 ≤ m') (h3 : m' < 2147483647) (h4 : 0 ≤ k') (h5 : k' ≤ k + c) : JarOk a' m' k' := ⟨h1, h2, h3, h4, by have := h.2.2.2.2; omega⟩
theorem okE_qs6 (qs : List Qt) : okE 6 (qsd qs) = true := okEs_map (fun x => okE_qd x) qs
theorem qs_ne {qs : List Qt} (h : qs ≠ []) : eqb (qsd qs) (.tup []) = false := by
  cases qs with
  | nil => exact absurd rfl h
  | cons x qs => rfl
theorem lotI_ok {n : Nat} (h : n ≤ 3) (k : Nat) : LotOk n (lotI n k) := by
  unfold lotI lotN
  generalize (fun p : Nat => decide (Builtin.bitAnd ((k : Int) / 2 ^ p) 1 = 1)) = f
  rcases (show n = 0 ∨ n = 1 ∨ n = 2 ∨ n = 3 by omega) with rfl | rfl | rfl | rfl
  · unfold LotOk; simp
  · rw [show List.range 1 = [0] from rfl]
    cases h0 : f 0 <;> simp only [List.filter_cons, h0, List.filter_nil, if_true, if_false] <;> unfold LotOk <;> decide
  · rw [show List.range 2 = [0, 1] from rfl]
    cases h0 : f 0 <;> cases h1 : f 1 <;> simp only [List.filter_cons, h0, h1, List.filter_nil, if_true, if_false] <;> unfold LotOk <;> decide
  · rw [show List.range 3 = [0, 1, 2] from rfl]
    cases h0 : f 0 <;> cases h1 : f 1 <;> cases h2 : f 2 <;> simp only [List.filter_cons, h0, h1, h2, List.filter_nil, if_true, if_false] <;> unfold LotOk <;> decide
theorem wrong_eq : ∀ l : List Qt, (∀ y ∈ l, priceB y.price = !decide (1000 < (y.price.den : Int))) →
    (true ^^ eqb (D.lst ((l.filter fun y => decide (1000 < (y.price.den : Int))).map fun _ => D.int 1)) (D.lst [])) = !(l.all fun x => priceB x.price)
  | [], _ => rfl
  | y :: l, h => by
    have h1 := h y (.head _)
    have h2 := wrong_eq l fun z hz => h z (.tail _ hz)
    by_cases c : 1000 < (y.price.den : Int)
    · rw [decide_eq_true c] at h1
      rw [List.filter_cons_of_pos (by simpa using c), List.all_cons, h1]
      rfl
    · rw [decide_eq_false c] at h1
      rw [List.filter_cons_of_neg (by simpa using c), List.all_cons, h1, h2]
      rfl
theorem deed_loop {n : Nat} {qs : List Qt} {cs : List (List Rat)} (hc : CrS n qs cs) (ne : cs ≠ []) (O : Out) (s0 s1 s2 s3 s4 s5 s6 s7 : Option DL.D) (J : Cell) : ∀ (l pre : List Qt) (p10 p11 : Option DL.D), (∀ x ∈ l, PayOk n x.pay) → pre.length + l.length ≤ 1000 →
    (∀ p10 p11, O.nx [s0, s1, s2, s3, s4, s5, s6, s7, some (.loc 1), some (.lst (cs.map crnD)), p10, p11, none, none, none] [J, .lst ((pre ++ l.map fun x => (⟨x.pay, minW n qs x.pay⟩ : Qt)).map qd)]) →
    forD (rgTup 2 (rgCons (rgName 10) (rgCons (rgName 11) rgNil))) (rDrop (rApp (rVar 8) (rTup (rCons (rVar 10) (rCons (rCall0 2 (cLeastBy minW) (rCons (rVar 9) (rCons (rVar 10) rNil))) rNil))))) O (l.map qd)
      [s0, s1, s2, s3, s4, s5, s6, s7, some (.loc 1), some (.lst (cs.map crnD)), p10, p11, none, none, none] [J, .lst (pre.map qd)]
  | [], pre, p10, p11, _, _, h => by
    have := h p10 p11
    rw [List.map_nil, List.append_nil] at this
    exact this
  | x :: l, pre, p10, p11, hp, hl, h => by
    rw [List.length_cons] at hl
    refine ⟨n, qs, cs, x.pay, rfl, hc, ne, hp x (.head _), ?_⟩
    refine ⟨by rw [List.length_map]; omega, ?_⟩
    have := deed_loop hc ne O s0 s1 s2 s3 s4 s5 s6 s7 J l (pre ++ [⟨x.pay, minW n qs x.pay⟩]) (some (inz x.pay)) (some (fr x.price)) (fun y hy => hp y (.tail _ hy)) (by rw [List.length_append]; show pre.length + 1 + l.length ≤ 1000; omega) (fun a b => by
      have := h a b
      rw [List.append_assoc]
      exact this)
    rw [List.map_append] at this
    exact this
abbrev N__law_deed : List Str := ["_law_jar_here", "_law_size", "_law_quotes_here", "_law_way", "_law_fresh", "_law_k", "_law_lot_here", "_law_j", "_law_found", "_law_corners_here", "_law_payoff_here", "_law_price_here", "_law_is_wrong", "_law_each", "_law_price"]
theorem sc__law_deed : FnScope N__law_deed ["_law_jar_here", "_law_size", "_law_quotes_here"] (defScope s__law_deed) := ⟨rfl, rfl, rfl, by decide +kernel, rfl, by decide +kernel, by decide +kernel⟩
theorem ok__law_deed (T : Tx K mg) : FnG P w K mg base "_law_deed" 6 (sp1 K 2 cDeed) :=
  mkG1 T 137 rfl rfl sc__law_deed (bind3 rfl fun _ _ _ _ _ _ _ _ _ => rfl) rfl fun cdv A outer s H E hr tk po => by
    refine ⟨_, (jb_cons (js_set (i := 3) sc__law_deed.nd rfl (by first | exact .inl rfl | exact .inr rfl) (je_call1 (ok__law_dip T) (hr.mono (by decide)) tk rfl (ja_cons (je_var (pv 0)) (ja_cons je_int ja_nil))))
    (jb_cons (js_set (i := 4) sc__law_deed.nd rfl (by first | exact .inl rfl | exact .inr rfl) (je_ix (je_call1 (ok__law_quotes T) (hr.mono (by decide)) tk rfl (ja_cons (je_var (pv 0)) (ja_cons (je_var (pv 1)) (ja_cons je_int (ja_cons je_int ja_nil))))) je_int))
    (jb_cons (js_set (i := 5) sc__law_deed.nd rfl (by first | exact .inl rfl | exact .inr rfl) (je_call1 (ok__law_dip T) (hr.mono (by decide)) tk rfl (ja_cons (je_var (pv 0)) (ja_cons (je_callB (call_max2D rfl) rfl T.b_max (by decide +kernel) (ja_cons je_int (ja_cons (je_callB call_lenD rfl T.b_len (by decide +kernel) (ja_cons (je_var (pv 2)) ja_nil)) ja_nil))) ja_nil))))
    (jb_cons (js_if (jt_w (jw_or (jt_cmp op_ltD (je_var (pv 3)) je_int (nomark _)) (jw_or1 (jt_cmp (op_eqD' hr.units) (je_var (pv 2)) (je_tup ja_nil) (nomark _))))) (jb_one (js_ret (je_tup (ja_cons (je_tup (ja_cons je_str (ja_cons (je_var (pv 4)) ja_nil))) (ja_cons (je_op op_addD (je_var (pv 2)) (je_tup (ja_cons (je_var (pv 4)) ja_nil))) ja_nil))))) jb_nil)
    (jb_cons (js_if (jt_cmp (op_eqD' hr.units) (je_var (pv 3)) je_int (nomark _)) (jb_one (js_ret (je_tup (ja_cons (je_tup (ja_cons je_str (ja_cons (je_var (pv 5)) ja_nil))) (ja_cons (je_op op_addD (je_sl (je_var (pv 2)) jp_none (jp_some (je_var (pv 5)))) (je_sl (je_var (pv 2)) (jp_some (je_op op_addD (je_var (pv 5)) je_int)) jp_none)) ja_nil))))) jb_nil)
    (jb_cons (js_if (jt_cmp (op_eqD' hr.units) (je_var (pv 3)) je_int (nomark _)) (jb_one (js_ret (je_tup (ja_cons (je_tup (ja_cons je_str (ja_cons (je_var (pv 5)) (ja_cons (je_ix (je_var (pv 4)) je_int) ja_nil)))) (ja_cons (je_op op_addD (je_op op_addD (je_sl (je_var (pv 2)) jp_none (jp_some (je_var (pv 5)))) (je_tup (ja_cons (je_tup (ja_cons (je_ix (je_ix (je_var (pv 2)) (je_var (pv 5))) je_int) (ja_cons (je_ix (je_var (pv 4)) je_int) ja_nil))) ja_nil))) (je_sl (je_var (pv 2)) (jp_some (je_op op_addD (je_var (pv 5)) je_int)) jp_none)) ja_nil))))) jb_nil)
    (jb_cons (js_if (jt_cmp (op_eqD' hr.units) (je_var (pv 3)) je_int (nomark _)) (jb_cons (js_set (i := 6) sc__law_deed.nd rfl (by first | exact .inl rfl | exact .inr rfl) (je_call0 (ok__law_lot T) (hr.mono (by decide)) tk rfl (ja_cons (je_call1 (ok__law_dip T) (hr.mono (by decide)) tk rfl (ja_cons (je_var (pv 0)) (ja_cons (je_ix (je_lst (ja_cons je_int (ja_cons je_int (ja_cons je_int (ja_cons je_int ja_nil))))) (je_var (pv 1))) ja_nil))) (ja_cons (je_var (pv 1)) ja_nil))))
    (jb_one (js_ret (je_tup (ja_cons (je_tup (ja_cons je_str (ja_cons (je_var (pv 6)) ja_nil))) (ja_cons (je_op op_addD (je_var (pv 2)) (je_tup (ja_cons (je_tup (ja_cons (je_callTy call_tupleD rfl T.b_tuple (by decide +kernel) (ja_cons (je_lc (own := [("_law_j", 7)]) (g := (gName 7)) rfl sc__law_deed.nd (ji_rng1 rfl T.b_range (je_var (pv 1))) (blkOk_by (own := [("_law_j", 7)]) (N := N__law_deed) (sc := defScope s__law_deed) (by decide +kernel)) (fun _ _ _ _ _ => (pg_name (i := 7) sc__law_deed.nd rfl (by first | exact Or.inl rfl | exact Or.inr rfl))) gok_name (fun _ _ _ _ _ => jts_nil) (fun _ _ _ _ _ => (je_callTy call_intD rfl T.b_int (by decide +kernel) (ja_cons (je_cmp op_inD' (je_var (pv 7)) (je_var (pv 6)) (by rfl)) ja_nil)))) ja_nil)) (ja_cons (je_tup (ja_cons je_int (ja_cons je_int ja_nil))) ja_nil))) ja_nil))) ja_nil)))))) jb_nil)
    (jb_cons (js_par (i := 8) (j := 9) rfl sc__law_deed.nd rfl rfl (by decide) rfl rfl (ja_cons (je_lstO ja_nil) (ja_cons (je_call0 (ok__law_corners T) (hr.mono (by decide)) tk rfl (ja_cons (je_var (pv 1)) (ja_cons (je_var (pv 2)) ja_nil))) ja_nil)) (by rfl))
    (jb_cons (js_for po rfl (ji_tup (je_if (jt_cmp (op_neD' hr.units) (je_var (pv 9)) (je_lst ja_nil) (nomark _)) (je_var (pv 2)) (je_tup ja_nil))) (jg_tup rfl (jgs_cons (jg_name (pg_name (i := 10) sc__law_deed.nd rfl (by first | exact .inl rfl | exact .inr rfl))) (jgs_cons (jg_name (pg_name (i := 11) sc__law_deed.nd rfl (by first | exact .inl rfl | exact .inr rfl))) jgs_nil))) (jb_one (js_expr (je_app (je_var (pv 8)) (je_tup (ja_cons (je_var (pv 10)) (ja_cons (je_call0 (ok__law_least_by T) (hr.mono (by decide)) tk rfl (ja_cons (je_var (pv 9)) (ja_cons (je_var (pv 10)) ja_nil))) ja_nil)))))))
    (jb_fz 8 (jb_cons (js_set (i := 12) sc__law_deed.nd rfl (by first | exact .inl rfl | exact .inr rfl) (je_or (je_cmp (op_eqD' hr.units) (je_var (pv 9)) (je_lst ja_nil) (nomark _)) (je_one (je_cmp (op_neD' hr.units) (je_lc (own := [("_law_each", 13), ("_law_price", 14)]) (g := (gTup K 2 (gCons (gName 13) (gCons (gName 14) gNil)))) rfl sc__law_deed.nd (ji_lst (je_var (pv 8))) (blkOk_by (own := [("_law_each", 13), ("_law_price", 14)]) (N := N__law_deed) (sc := defScope s__law_deed) (by decide +kernel)) (fun _ _ _ _ _ => (pg_tup rfl (pgs_cons (pg_name (i := 13) sc__law_deed.nd rfl (by first | exact Or.inl rfl | exact Or.inr rfl)) (pgs_cons (pg_name (i := 14) sc__law_deed.nd rfl (by first | exact Or.inl rfl | exact Or.inr rfl)) pgs_nil)))) (gok_tup (gok_cons gok_name (gok_cons gok_name gok_nil))) (fun _ _ _ _ _ => (jts_one (jt_cmp op_gtD (je_ix (je_var (pv 14)) je_int) je_int (nomark _)))) (fun _ _ _ _ _ => je_int)) (je_lst ja_nil) (nomark _)))))
    (jb_one (js_ret (je_tup (ja_cons (je_tup (ja_cons je_str (ja_cons je_int ja_nil))) (ja_cons (je_if (jt_val (je_var (pv 12))) (je_var (pv 2)) (je_callTy call_tupleD rfl T.b_tuple (by decide +kernel) (ja_cons (je_var (pv 8)) ja_nil))) ja_nil)))))))))))))))), ?_⟩
    rintro ds c q t ⟨a, m, k, n, qs, rfl, rfl, hj, hk0, hb, h30, h⟩ - -
    have n3 := hb.n3
    have n2 : 2 ≤ n := hb.ok.1
    refine ⟨rfl, a, m, k, 6, rfl, rfl, hj.at hk0 hj.1 hj.2.1 hj.2.2.1 hk0 (by omega), by decide, by decide, fun way a1 m1 w1 w2 y1 y2 y3 => ?_⟩
    refine ⟨rfl, a1, m1, k + 1, n, 1, 3, rfl, rfl, hj.at hk0 y1 y2 y3 (by omega) (by omega), by omega, hb.n23, by decide, by decide, fun fs hf hfl a2 m2 k2 z1 z2 z3 z4 z5 => ?_⟩
    obtain ⟨x, rfl⟩ : ∃ x, fs = [x] := by
      match fs, hfl with
      | [x], _ => exact ⟨x, rfl⟩
    have hx : QtOk n x := hf.2 x (.head _)
    refine ⟨_, rfl, ?_⟩
    refine ⟨rfl, a2, m2, k2, _, rfl, rfl, hj.at hk0 z1 z2 z3 (by omega) (by omega), ?_⟩
    have hM : ((1 : Int) ≤ if ((qs.map qd).length : Int) > 1 then ((qs.map qd).length : Int) else 1) ∧ (if ((qs.map qd).length : Int) > 1 then ((qs.map qd).length : Int) else 1) ≤ 1000000 ∧ (qs ≠ [] → (if ((qs.map qd).length : Int) > 1 then ((qs.map qd).length : Int) else 1) ≤ qs.length) := by
      rw [List.length_map]
      refine ⟨by split <;> omega, by split <;> omega, fun hne => ?_⟩
      have := List.length_pos_iff.mpr hne
      split <;> omega
    refine ⟨hM.1, hM.2.1, fun r a3 m3 r1 r2 x1 x2 x3 => ?_⟩
    obtain ⟨i, rfl⟩ := Int.eq_ofNat_of_zero_le r1
    have hi : qs ≠ [] → i < qs.length := fun hne => by have := hM.2.2 hne; omega
    have hquote : q (.tup [deedD (.quote x), qsd (qs ++ [x])]) (jarC a3 m3 (k2 + 1)) := h (.quote x) (hb.ok.app hx h30) a3 m3 (k2 + 1) x1 x2 x3 (by omega) (by omega)
    have eq1 : qs.map qd ++ [qd x] = (qs ++ [x]).map qd := by rw [List.map_append]; rfl
    by_cases hw : way < 2
    · refine onT (by simp [hw]) ?_
      refine ⟨by rw [List.length_map]; show qs.length + 1 ≤ _; omega, trivial, rfl, ?_⟩
      show q (.tup [.tup [.str "quote", qd x], .tup (qs.map qd ++ [qd x])]) _
      rw [eq1]
      exact hquote
    refine onF (by simp [hw]) ?_
    by_cases hne : qs = []
    · subst hne
      exact ⟨rfl, rfl, Nat.le_of_ble_eq_true rfl, trivial, rfl, hquote⟩
    have hi := hi hne
    refine ⟨okE_qs6 qs, rfl, onF (by rw [qs_ne hne]; rfl) ?_⟩
    have jq : ∀ d, DeedOk n qs d → q (.tup [deedD d, qsd ((deedQ n qs d).getD qs)]) (jarC a3 m3 (k2 + 1)) := fun d hd => h d hd a3 m3 (k2 + 1) x1 x2 x3 (by omega) (by omega)
    have len2 : ∀ (A B : List D) (C : List Qt), A ++ B = C.map qd → C.length ≤ 1000 → A.length + B.length ≤ 100000 := fun A B C e hC => by
      rw [← List.length_append, e, List.length_map]; omega
    by_cases hw2 : way = 2
    · refine onT (by simp [hw2]) ?_
      have ec := cut_erase qs i hi
      refine ⟨len2 _ _ (qs.eraseIdx i) ec (by rw [List.length_eraseIdx]; split <;> omega), trivial, rfl, ?_⟩
      show q (.tup [.tup [.str "drop", .int i], .tup (cutD (qs.map qd) none (some (i : Int)) ++ cutD (qs.map qd) (some ((i : Int) + 1)) none)]) _
      rw [ec]
      exact jq (.drop i) hi
    refine onF (by simp [hw2]) ?_
    by_cases hw3 : way = 3
    · refine onT (by simp [hw3]) ?_
      have hqi : atI (qs.map qd) (i : Int) = some (qd (qs.getD i ⟨[], 0⟩)) := atI_nat (by rw [List.getElem?_map, List.getElem?_eq_getElem hi, List.getD_eq_getElem?_getD, List.getElem?_eq_getElem hi]; rfl)
      have key : cutD (qs.map qd) none (some (i : Int)) ++ [D.tup [inz (qs.getD i ⟨[], 0⟩).pay, fr x.price]] ++ cutD (qs.map qd) (some ((i : Int) + 1)) none = (setPrice qs i x.price).map qd := by
        rw [show ((i : Int) + 1) = ((i + 1 : Nat) : Int) by omega, cut_take _ _ (by simp; omega), cut_dropN _ _ (by simp; omega)]
        unfold setPrice
        rw [List.map_append, List.map_append, List.map_take, List.map_drop]
        rfl
      have sl : (setPrice qs i x.price).length ≤ 31 := (set_ok hb.ok hi hx.2).2.2.1
      have l2 := len2 _ _ _ key (by omega)
      refine ⟨_, rfl, _, hqi, _, rfl, _, rfl, by rw [List.length_append] at l2; omega, l2, trivial, rfl, ?_⟩
      show q (.tup [.tup [.str "raise", .int i, fr x.price], .tup (cutD (qs.map qd) none (some (i : Int)) ++ [D.tup [inz (qs.getD i ⟨[], 0⟩).pay, fr x.price]] ++ cutD (qs.map qd) (some ((i : Int) + 1)) none)]) _
      rw [key]
      exact jq (.raise i x.price) ⟨hi, hx.2⟩
    refine onF (by simp [hw3]) ?_
    by_cases hw4 : way = 4
    · refine onT (by simp [hw4]) ?_
      obtain ⟨top, ht, t1, t8⟩ : ∃ top : Int, atI [D.int 1, .int 1, .int 4, .int 8] (n : Int) = some (.int top) ∧ 1 ≤ top ∧ top ≤ 8 := by
        rcases hb.n23 with rfl | rfl
        · exact ⟨4, rfl, by decide, by decide⟩
        · exact ⟨8, rfl, by decide, by decide⟩
      refine ⟨_, ht, rfl, a3, m3, k2 + 1, top, rfl, rfl, hj.at hk0 x1 x2 x3 (by omega) (by omega), t1, by omega, fun r4 a4 m4 s1 s2 v1 v2 v3 => ?_⟩
      obtain ⟨b, rfl⟩ := Int.eq_ofNat_of_zero_le s1
      refine ⟨n, b, rfl, n3, by omega, ?_⟩
      refine ⟨⟨by omega, by omega⟩, ?_⟩
      show lcD _ _ _ _ (rngD 0 n) _ _ _
      rw [rngD_map]
      refine lc_mapA (List.range n) (fun p : Nat => D.int p) (fun p : Nat => D.int (if (p : Int) ∈ lotI n b then 1 else 0)) (fun _ _ => rfl) (by simp; omega) ?_ ?_
      · intro p hp K hK
        refine ⟨lotI n b, rfl, ?_⟩
        show K (.int (if (false ^^ decide ((p : Int) ∈ lotI n b)) = true then 1 else 0)) _
        simpa using hK
      have e1 : qs.map qd ++ [D.tup [.tup ((List.range n).map fun p : Nat => D.int (if (p : Int) ∈ lotI n b then 1 else 0)), .tup [.int 1, .int 1]]] = (qs ++ [(⟨lotPay n (lotI n b), 1⟩ : Qt)]).map qd := by
        rw [List.map_append]
        unfold lotPay
        show _ = _ ++ [D.tup [.tup (List.map D.int _), _]]
        rw [List.map_map]
        rfl
      refine ⟨by rw [List.length_map]; show qs.length + 1 ≤ _; omega, trivial, rfl, ?_⟩
      show q (.tup [.tup [.str "news", inz (lotI n b)], .tup (qs.map qd ++ [D.tup [.tup ((List.range n).map fun p : Nat => D.int (if (p : Int) ∈ lotI n b then 1 else 0)), .tup [.int 1, .int 1]]])]) _
      rw [e1]
      exact h (.news (lotI n b)) ⟨lotI_ok n3 b, h30⟩ a4 m4 (k2 + 1 + 1) v1 v2 v3 (by omega) (by omega)
    refine onF (by simp [hw4]) ?_
    refine ⟨n, qs, rfl, hb, fun cs g1 g2 g3 => ?_⟩
    have cr : CrS n qs cs := ⟨hb, g1, g2, g3⟩
    refine ⟨okEs_map (fun c => okE_crn4 c) _, rfl, ?_⟩
    cases cs with
    | nil =>
      have hs := cr.nil.mp rfl
      have hf := jq .tighten trivial
      simp only [deedQ, hs, Bool.false_and] at hf
      exact ⟨rfl, rfl, rfl, trivial, rfl, hf⟩
    | cons c cs =>
      have ne : c :: cs ≠ [] := fun z => by cases z
      have hs : sound n qs = true := by
        cases z : sound n qs with
        | true => rfl
        | false => exact absurd (cr.nil.mpr z) ne
      refine deed_loop cr ne _ _ _ _ _ _ _ _ _ _ qs [] _ _ (fun x hx => (hb.ok.2.2.2 x hx).1) (by show 0 + qs.length ≤ 1000; omega) (fun p10 p11 => ?_)
      rw [List.nil_append, show (qs.map fun x => (⟨x.pay, minW n qs x.pay⟩ : Qt)) = tightQ n qs from rfl]
      refine ⟨noLoc_map (fun _ => rfl) _, ?_⟩
      refine ⟨okEs_map (fun c => okE_crn4 c) _, rfl, ?_⟩
      refine lc_filE (tightQ n qs) (fun y => decide (1000 < (y.price.den : Int))) qd (fun _ => .int 1) rfl (fun _ _ => rfl) (by unfold tightQ; rw [List.length_map]; omega) ?_ ?_
      · intro y hy A B hAB
        exact ⟨_, rfl, hAB⟩
      refine ⟨okEs_map (fun _ => rfl) _, rfl, ?_⟩
      rw [wrong_eq (tightQ n qs) fun y hy => by
        obtain ⟨z, hz, rfl⟩ := List.mem_map.mp hy
        exact priceB_min hb (hb.ok.2.2.2 z hz).1 hs]
      have hf := jq .tighten trivial
      simp only [deedQ, hs, Bool.true_and] at hf
      cases ht : tOk n qs with
      | true =>
        have ht' : ((tightQ n qs).all fun x => priceB x.price) = true := ht
        rw [ht']
        rw [ht] at hf
        exact ⟨trivial, rfl, hf⟩
      | false =>
        have ht' : ((tightQ n qs).all fun x => priceB x.price) = false := ht
        rw [ht']
        rw [ht] at hf
        exact ⟨trivial, rfl, hf⟩
end
end SC
end

section
set_option maxHeartbeats 4000000
namespace SC
open PySem L2 DL
section
variable {P : Program} {w : World} {K : PySem.W.Frag} {mg : Str → Option Value} {base : Heap}

section
variable {d : FnRec} {N ps : List Str} {k n : Nat}
theorem mkMB {pc : PM} {c : Cl} {m : Nat} (T : Tx K mg) (i : Nat) (hi : fnTab[i]? = some d) (hm : Meth K c.adr d.nm d.adr) (S : FnScope N ps (defScope d.st)) (hb : BindOk d ps) (hn : ps.length = n)
    (b : BodyOk P w K mg base N d.qual (defScope d.st) (defBody d.st) d.adr k fun r => ∀ ds S q, pc ds S q → ds.length = n → S.length = m → r (outB m q) (startD N ds) S) : FnM P w K mg base c.adr d.nm (k + 1) (spM K n m pc) :=
  mkM T i hi hm S hb (fun _ _ _ _ h => (len_spM h).trans hn.symm) (fun _ c _ _ _ _ h => up_spB c h) b
theorem mkMN {pc : List D → (Cell → Prop) → Prop} {c : Cl} (T : Tx K mg) (i : Nat) (hi : fnTab[i]? = some d) (hm : Meth K c.adr d.nm d.adr) (S : FnScope N ps (defScope d.st)) (hb : BindOk d ps) (hn : ps.length = n)
    (b : BodyOk P w K mg base N d.qual (defScope d.st) (defBody d.st) d.adr k fun r => ∀ ds q, pc ds q → ds.length = n → r (outN q) (startD N ds) []) : FnM P w K mg base c.adr d.nm (k + 1) (spN K n pc) :=
  mkM T i hi hm S hb (fun _ _ _ _ h => (len_spN h).trans hn.symm) (fun _ c _ _ _ _ h => up_spN c h) b
theorem mkGN {pc : List D → (Cell → Prop) → Prop} (T : Tx K mg) (i : Nat) (hi : fnTab[i]? = some d) (hc : d.cls = none) (S : FnScope N ps (defScope d.st)) (hb : BindOk d ps) (hn : ps.length = n)
    (b : BodyOk P w K mg base N d.qual (defScope d.st) (defBody d.st) d.adr k fun r => ∀ ds q, pc ds q → ds.length = n → r (outN q) (startD N ds) []) : FnG P w K mg base d.nm (k + 1) (spN K n pc) :=
  mkG T i hi hc S hb (fun _ _ _ _ h => (len_spN h).trans hn.symm) (fun _ c _ _ _ _ h => up_spN c h) b
theorem mkGM {pc : PM} {m : Nat} (T : Tx K mg) (i : Nat) (hi : fnTab[i]? = some d) (hc : d.cls = none) (S : FnScope N ps (defScope d.st)) (hb : BindOk d ps) (hn : ps.length = n)
    (b : BodyOk P w K mg base N d.qual (defScope d.st) (defBody d.st) d.adr k fun r => ∀ ds S q, pc ds S q → ds.length = n → S.length = m → r (outM m q) (startD N ds) S) : FnG P w K mg base d.nm (k + 1) (spM K n m pc) :=
  mkG T i hi hc S hb (fun _ _ _ _ h => (len_spM h).trans hn.symm) (fun _ c _ _ _ _ h => up_spM c h) b
end
theorem belowT (m : Nat) (xs : List D) (h : noLoc xs = true) : belowC m (.ins .desk [.tup xs]) := rfl
abbrev cTrialI : PI_ := fun ds q => ∃ a : Addr, ds = [.adr a] ∧ q [.ins .trial [.adr a, .non]]
noncomputable abbrev trialC (t : D) : Cell := .ins .trial [.loc 0, t]
noncomputable abbrev formerD (n : Nat) (hist : List (List Qt)) : D := .obj .former [.tup (hist.map (pairD n)), .non]
abbrev cTrEnter : PM := fun ds S q => ∃ (n : Nat) (hist : List (List Qt)), ds = [.loc 1] ∧ S = [deskC n hist, trialC .non] ∧ q (.loc 0) [deskC n hist, trialC (formerD n hist)]
abbrev cTrExit : PM := fun ds S q => ∃ (n : Nat) (hist hist' : List (List Qt)), ds = [.loc 1, .non, .non, .non] ∧ S = [deskC n hist', trialC (formerD n hist)] ∧ q .non [deskC n hist, trialC .non]
abbrev N_Trial_init : List Str := ["self", "led"]
theorem sc_Trial_init : FnScope N_Trial_init ["self", "led"] (defScope s_Trial_init) := ⟨rfl, rfl, rfl, by decide +kernel, rfl, by decide +kernel, by decide +kernel⟩
theorem ok_Trial_init (T : Tx K mg) : FnC P w K mg base "Trial" Cl.trial.adr 1 (spI K 1 .trial cTrialI) :=
  mkC T 91 rfl T.k_Trial T.g_Trial sc_Trial_init (bind2 rfl fun _ _ _ _ _ _ _ _ => rfl) rfl fun cdv A outer s H E hr tk po => by
    refine ⟨_, (jb_cons (js_setF T.cf .trial 0 id (.inl rfl) (je_var (pv 0)) (je_var (pv 1)))
    (jb_one (js_setF T.cf .trial 1 id (.inl rfl) (je_var (pv 0)) je_non))), ?_⟩
    rintro ds q ⟨a, rfl, h⟩ -
    exact h
abbrev N_Desk_trial : List Str := ["self"]
theorem sc_Desk_trial : FnScope N_Desk_trial ["self"] (defScope s_Desk_trial) := ⟨rfl, rfl, rfl, by decide +kernel, rfl, by decide +kernel, by decide +kernel⟩
theorem ok_Desk_trial (T : Tx K mg) : FnM P w K mg base Cl.desk.adr "trial" 3 (spN K 1 cTrialN) :=
  mkMN T 107 rfl T.m_Desk_trial sc_Desk_trial (bind1 rfl fun _ _ _ _ _ _ _ => rfl) rfl fun cdv A outer s H E hr tk po => by
    refine ⟨_, (jb_one (js_ret (je_makeO (ok_Trial_init T) (hr.mono (by decide)) rfl (ja_cons (je_var (pv 0)) ja_nil)))), ?_⟩
    rintro ds q ⟨a, rfl, h⟩ -
    exact ⟨a, rfl, rfl, 0, _, rfl, rfl, rfl, h⟩
abbrev N_Trial_enter : List Str := ["self"]
theorem sc_Trial_enter : FnScope N_Trial_enter ["self"] (defScope s_Trial_enter) := ⟨rfl, rfl, rfl, by decide +kernel, rfl, by decide +kernel, by decide +kernel⟩
theorem ok_Trial_enter (T : Tx K mg) : FnM P w K mg base Cl.trial.adr "__enter__" 3 (spM K 1 2 cTrEnter) :=
  mkMB T 92 rfl T.m_Trial_enter sc_Trial_enter (bind1 rfl fun _ _ _ _ _ _ _ => rfl) rfl fun cdv A outer s H E hr tk po => by
    refine ⟨_, (jb_cons (js_setF T.cf .trial 1 id (.inl rfl) (je_var (pv 0)) (je_makeF (ok_Former_init T) (hr.mono (by decide)) rfl (ja_cons (je_fld T.cf .desk 0 (je_fld T.cf .trial 0 (je_var (pv 0)))) (ja_cons (je_fld T.cf .trial 1 (je_var (pv 0))) ja_nil))))
    (jb_one (js_ret (je_fld T.cf .trial 0 (je_var (pv 0)))))), ?_⟩
    rintro ds S q ⟨n, hist, rfl, rfl, h⟩ - -
    refine ⟨_, _, rfl, rfl, ?_⟩
    exact ⟨Nat.le_refl _, ⟨belowT _ _ (noLoc_hist n hist), rfl, trivial⟩, by decide, rfl, h⟩
abbrev N_Trial_exit : List Str := ["self", "kind", "error", "trace"]
theorem sc_Trial_exit : FnScope N_Trial_exit ["self", "kind", "error", "trace"] (defScope s_Trial_exit) := ⟨rfl, rfl, rfl, by decide +kernel, rfl, by decide +kernel, by decide +kernel⟩
theorem ok_Trial_exit (T : Tx K mg) : FnM P w K mg base Cl.trial.adr "__exit__" 1 (spM K 4 2 cTrExit) :=
  mkMM T 93 rfl T.m_Trial_exit sc_Trial_exit (bind4 rfl fun _ _ _ _ _ _ _ _ _ _ => rfl) rfl fun cdv A outer s H E hr tk po => by
    refine ⟨_, (jb_cons (js_setF T.cf .desk 0 id (.inl rfl) (je_fld T.cf .trial 0 (je_var (pv 0))) (je_fld T.cf .former 0 (je_fld T.cf .trial 1 (je_var (pv 0)))))
    (jb_one (js_setF T.cf .trial 1 id (.inl rfl) (je_var (pv 0)) (je_fld T.cf .former 1 (je_fld T.cf .trial 1 (je_var (pv 0))))))), ?_⟩
    rintro ds S q ⟨n, hist, hist', rfl, rfl, h⟩ - -
    exact ⟨Nat.le_refl _, ⟨belowT _ _ (noLoc_hist n hist), rfl, trivial⟩, h⟩
end
end SC
end

section
set_option maxHeartbeats 4000000
namespace SC
open PySem L2 DL
section
variable {P : Program} {w : World} {K : PySem.W.Frag} {mg : Str → Option Value} {base : Heap}

/-- the lambda of the law, as the text has it -/
def lamP : Arguments × Expr × Scope := match defBody s__law_desk_right with
  | _ :: .For _ _ (_ :: .Expr (.Call _ (.Lambda a b c _ :: _) _ _) _ :: _) _ _ :: _ => (a, b, c)
  | _ => (defArgs s__law_desk_right, .Constant .none 0 ⟨0, 0, 0, 0⟩, defScope s__law_desk_right)
abbrev lamQ : Str := (d__law_desk_right.qual ++ Str.ofString ".<locals>.") ++ Str.ofString "<lambda>"
abbrev lamV : Hp → Addr → Prop := lamF lamQ lamP.1 lamP.2.1 lamP.2.2
abbrev cLam : PC1 := fun ds c q _ => ∃ (n : Nat) (hist : List (List Qt)) (qs : List Qt), ds = [] ∧ c = deskC n (hist ++ [qs]) ∧ DeskOk n hist qs ∧ qs.length ≤ 30 ∧ q (.bl true) (deskC n (hist ++ [qs] ++ [qs ++ [⟨lotPay n [0], 1⟩]]))
abbrev cTried : PC1 := fun ds c q _ => ∃ (n : Nat) (hist : List (List Qt)) (qs : List Qt), ds = [.fn lamV] ∧ c = deskC n (hist ++ [qs]) ∧ DeskOk n hist qs ∧ qs.length ≤ 30 ∧ q (.bl true) (deskC n (hist ++ [qs]))
theorem ok_lam (U : Ux K mg) : FnL P w K mg base 12 lamV (sp1 K 0 cLam) := by
  refine lam_fn (N := ["_law_led"]) (ps := ["_law_led"]) ⟨rfl, rfl, rfl, by decide +kernel, rfl, by decide +kernel, by decide +kernel⟩ rfl (fun us pm cv ct hl => ?_) fun f cdv A outer s H E hr tk => ⟨_, je_call1 (ok__law_do U) (hr.mono (by decide)) tk rfl (ja_cons (je_var (pv 0)) (ja_cons (je_tup (ja_cons je_str (ja_cons (je_tup (ja_cons je_int ja_nil)) ja_nil))) ja_nil)), ?_⟩
  · match us, hl with
    | [a], _ => rfl
  · rintro ds c q x ⟨n, hist, qs, rfl, rfl, hd, h30, h⟩ - -
    have n2 := hd.b.ok.1
    have hl : LotOk n [0] := ⟨by simp, fun x hx => by rw [List.mem_singleton.mp hx]; omega, fun p hp => by simp at hp⟩
    exact ⟨rfl, n, hist, qs, .news [0], rfl, rfl, hd, ⟨hl, h30⟩, trivial, rfl, h⟩
abbrev N_Desk_tried : List Str := ["self", "action", "desk"]
theorem sc_Desk_tried : FnScope N_Desk_tried ["self", "action"] (defScope s_Desk_tried) := ⟨rfl, rfl, rfl, by decide +kernel, rfl, by decide +kernel, by decide +kernel⟩
theorem ok_Desk_tried (U : Ux K mg) : FnM P w K mg base Cl.desk.adr "tried" 13 (sp1 K 1 cTried) :=
  have T := U.t
  mkM1 T 108 rfl T.m_Desk_tried sc_Desk_tried (bind2 rfl fun _ _ _ _ _ _ _ _ => rfl) rfl fun cdv A outer s H E hr tk po => by
    refine ⟨_, jb_one (js_tried (ok_Desk_trial T) (ok_Trial_enter T) (ok_Trial_exit T) (fun es c q q' x m => ?_) (ok_lam U) (hr.mono (by decide)) (hr.mono (by decide)) (hr.mono (by decide)) (hr.mono (by decide)) (pv 0) (pv 1) (pv 2) (pg_name (i := 2) sc_Desk_tried.nd rfl (by first | exact Or.inl rfl | exact Or.inr rfl))), ?_⟩
    · rintro ⟨n, hist, qs, e1, e2, hd, h30, h⟩
      exact ⟨n, hist, qs, e1, e2, hd, h30, m _ _ h⟩
    rintro ds c q t ⟨n, hist, qs, rfl, rfl, hd, h30, h⟩ - -
    exact ⟨[.tup ((hist ++ [qs]).map (pairD n))], none, rfl, rfl, rfl, n, hist ++ [qs], rfl, rfl, rfl, _, _, rfl, rfl, n, hist, qs, rfl, rfl, hd, h30, true, rfl, n, hist ++ [qs], hist ++ [qs] ++ [qs ++ [⟨lotPay n [0], 1⟩]], rfl, rfl, trivial, rfl, h⟩
end
end SC
end

section
set_option maxHeartbeats 4000000
namespace SC
open PySem L2 DL
section
variable {P : Program} {w : World} {K : PySem.W.Frag} {mg : Str → Option Value} {base : Heap}

abbrev scrD (xs : List Int) : D := .scr (xs.map D.int)
abbrev cJarN : List D → (Cell → Prop) → Prop := fun ds q => ∃ (xs : List Int) (t : Int), ds = [scrD xs, .int t] ∧ 0 ≤ t ∧ t ≤ 10 ∧ xs.length ≤ 100000 ∧ ∀ a m, 0 ≤ a → 0 ≤ m → m < 2147483647 → q (jarC a m 0)
theorem jar_loop (O : Out) (s0 s1 s2 : Option DL.D) (S : List Cell) : ∀ items : List DL.D, (∀ d ∈ items, ∃ i, d = D.int i) → ∀ (m : Int) (p4 : Option DL.D), 0 ≤ m → m < 2147483647 →
    (∀ (m : Int) (p4 : Option DL.D), 0 ≤ m → m < 2147483647 → O.nx [s0, s1, s2, some (.int m), p4] S) →
    forD (rgName 4) (rAsg (rOp oMod (rCB oToInt (rCons (rOp oAdd (rOp oMul (rVar 3) (rC (D.int 20021))) (rVar 4)) rNil)) (rC (D.int 2147482951))) (rgName 3)) O items [s0, s1, s2, some (.int m), p4] S
  | [], _, m, p4, h0, h1, h => h m p4 h0 h1
  | d :: items, ha, m, p4, h0, h1, h => by
    obtain ⟨i, rfl⟩ := ha d (.head _)
    refine ⟨mulW' (i := m) (j := 20021) (a := 31) (b := 15) (by omega) (by decide), (by decide : (0 : Int) < 2147482951), ?_⟩
    exact jar_loop O s0 s1 s2 S items (fun e he => ha e (.tail _ he)) ((m * 20021 + i) % 2147482951) _ (Int.emod_nonneg _ (by decide)) (Int.lt_trans (Int.emod_lt_of_pos _ (by decide)) (by decide)) h
abbrev N__law_jar : List Str := ["_law_cells", "_law_turn", "_law_cell", "_law_mixed", "_law_each"]
theorem sc__law_jar : FnScope N__law_jar ["_law_cells", "_law_turn"] (defScope s__law_jar) := ⟨rfl, rfl, rfl, by decide +kernel, rfl, by decide +kernel, by decide +kernel⟩
theorem ok__law_jar (T : Tx K mg) : FnG P w K mg base "_law_jar" 1 (spN K 2 cJarN) :=
  mkGN T 109 rfl rfl sc__law_jar (bind2 rfl fun _ _ _ _ _ _ _ _ => rfl) rfl fun cdv A outer s H E hr tk po => by
    refine ⟨_, (jb_cons (js_set (i := 2) sc__law_jar.nd rfl (by first | exact .inl rfl | exact .inr rfl) (je_if (jt_cmp op_ltD (je_var (pv 1)) (je_callB call_lenD rfl T.b_len (by decide +kernel) (ja_cons (je_var (pv 0)) ja_nil)) (nomark _)) (je_ix (je_var (pv 0)) (je_var (pv 1))) (je_op op_addD (je_op op_mulD je_int (je_var (pv 1))) je_int)))
    (jb_cons (js_set (i := 3) sc__law_jar.nd rfl (by first | exact .inl rfl | exact .inr rfl) (je_op op_addD je_int (je_op op_mulD je_int (je_var (pv 1)))))
    (jb_cons (js_for po rfl (ji_lst (je_op op_addD (je_sl (je_var (pv 0)) jp_none (jp_some je_int)) (je_lst (ja_cons (je_var (pv 2)) ja_nil)))) (jg_name (pg_name (i := 4) sc__law_jar.nd rfl (by first | exact .inl rfl | exact .inr rfl))) (jb_one (js_set (i := 3) sc__law_jar.nd rfl (by first | exact .inl rfl | exact .inr rfl) (je_op op_modD (je_callTy call_intD rfl T.b_int (by decide +kernel) (ja_cons (je_op op_addD (je_op op_mulD (je_var (pv 3)) je_int) (je_var (pv 4))) ja_nil)) je_int))))
    (jb_one (js_ret (je_lstO (ja_cons (je_if (jt_w (jw_or (jt_cmp op_ltD (je_var (pv 2)) je_int (nomark _)) (jw_or1 (jt_cmp op_geD (je_var (pv 2)) (je_op op_powD je_int je_int) (nomark _))))) (je_callB call_absD rfl T.b_abs (by decide +kernel) (ja_cons (je_var (pv 2)) ja_nil)) je_int) (ja_cons (je_var (pv 3)) (ja_cons je_int ja_nil))))))))), ?_⟩
    rintro ds q ⟨xs, t, rfl, h0, h1, hl, h⟩ -
    have fin : ∀ cell : Int, rSeq (rAsg (rOp oAdd (rC (D.int 40009)) (rOp oMul (rC (D.int 9011)) (rVar 1))) (rgName 3))
          (rSeq
            (rFor (rLstI (rOp oAdd (rSl (rVar 0) rPN (rPS (rC (D.int 5)))) (rLst (rCons (rVar 2) rNil)))) (rgName 4)
              (rAsg (rOp oMod (rCB oToInt (rCons (rOp oAdd (rOp oMul (rVar 3) (rC (D.int 20021))) (rVar 4)) rNil)) (rC (D.int 2147482951))) (rgName 3)))
            (rRet (rLstO (rCons (rIf (rOr (rTest (rOp oLt (rVar 2) (rC (D.int 0)))) (rTest (rOp oGe (rVar 2) (rOp oPow (rC (D.int 10)) (rC (D.int 18)))))) (rCB oAbs (rCons (rVar 2) rNil)) (rC (D.int 0)))
                  (rCons (rVar 3) (rCons (rC (D.int 0)) rNil))))))
        (outN q) [some (scrD xs), some (.int t), some (.int cell), none, none] [] := by
      intro cell
      refine ⟨mulW' (i := 9011) (j := t) (a := 14) (b := 4) (by decide) (by omega), ?_⟩
      have all : ∀ d ∈ cutD (xs.map D.int) none (some 5) ++ [D.int cell], ∃ i, d = D.int i := by
        intro d hd
        rcases List.mem_append.mp hd with hd | hd
        · unfold cutD at hd
          obtain ⟨i, _, rfl⟩ := List.mem_map.mp (List.mem_of_mem_drop (List.mem_of_mem_take hd))
          exact ⟨i, rfl⟩
        · exact ⟨cell, List.mem_singleton.mp hd⟩
      have len : (cutD (xs.map D.int) none (some 5)).length + [D.int cell].length ≤ 100000 := by
        unfold cutD
        rw [List.length_take]
        have : HT.sIx (xs.map D.int).length (xs.map D.int).length (some (5 : Int)) ≤ 5 := by unfold HT.sIx; simp; omega
        show _ + 1 ≤ 100000
        omega
      refine ⟨len, ?_⟩
      refine jar_loop _ (some (scrD xs)) (some (.int t)) (some (.int cell)) [] _ all _ _ (by omega) (by omega) fun m p4 m0 m1 => ?_
      have last : ∀ a : Int, 0 ≤ a → ∃ (k : Nat) (c : Cell), D.loc 0 = .loc k ∧ ([] ++ [Cell.lst [.int a, .int m, .int 0]])[k]? = some c ∧ okc c ∧ q c := fun a ha => ⟨0, jarC a m 0, rfl, rfl, rfl, h a m ha m0 m1⟩
      by_cases c1 : cell < 0
      · refine onT (by simp [c1]) ?_
        exact last (if cell < 0 then -cell else cell) (by split <;> omega)
      · refine onF (by simp [c1]) ?_
        refine ⟨⟨by decide, by decide, by decide⟩, ?_⟩
        by_cases c2 : (10 : Int) ^ (18 : Int).toNat ≤ cell
        · refine onT (decide_eq_true c2) ?_
          exact last (if cell < 0 then -cell else cell) (by split <;> omega)
        · refine onF (decide_eq_false c2) ?_
          exact last 0 (by omega)
    by_cases c : t < xs.length
    · refine onT (by simp [c]) ?_
      have hr : t.toNat < xs.length := by omega
      have e := atI_nat (xs := xs.map D.int) (j := t.toNat) (v := .int xs[t.toNat]) (by rw [List.getElem?_map, List.getElem?_eq_getElem hr]; rfl)
      rw [Int.toNat_of_nonneg h0] at e
      exact ⟨_, e, fin _⟩
    · refine onF (by simp; omega) ?_
      exact ⟨mulW' (i := 53) (j := t) (a := 6) (b := 4) (by decide) (by omega), fin _⟩
end
end SC
end

section
set_option maxHeartbeats 4000000
namespace SC
open PySem L2 DL
section
variable {P : Program} {w : World} {K : PySem.W.Frag} {mg : Str → Option Value} {base : Heap}

theorem forR_inv {p : Nat} {rg : RG} {rb : RS} {O : Out} (Iv : List DL.D → List (Option DL.D) → List Cell → Prop)
    (step : ∀ d items ds S, Iv (d :: items) ds S → ∀ k : List (Option DL.D) → List Cell → Prop, (∀ ds2 S2 ds3 S3, Ren p ds2 S2 ds3 S3 → Iv items ds3 S3 → k ds2 S2) → rg d ds S fun ds1 S1 => rb { O with nx := k, ct := fun _ _ => False, bk := O.nx } ds1 S1)
    (last : ∀ ds S, Iv [] ds S → O.nx ds S) : ∀ items ds S, Iv items ds S → forR p rg rb O items ds S
  | [], ds, S, h => last ds S h
  | d :: items, ds, S, h => step d items ds S h _ fun ds2 S2 ds3 S3 hr h' => ⟨ds3, S3, hr, forR_inv Iv step last items ds3 S3 h'⟩
/-- what the top says besides -/
structure Vx (K : PySem.W.Frag) (mg : Str → Option Value) (base : Heap) : Prop where
  u : Ux K mg
  dr : ∃ fd, FunD K d__law_desk_right.nm d__law_desk_right.qual (defArgs d__law_desk_right.st) (defBody d__law_desk_right.st) (defScope d__law_desk_right.st) [] [] d__law_desk_right.adr fd ∧ fd.code = .ref 1204
  tb : LamX.TabB base mg 1204 1200
noncomputable abbrev tabL : Cell := DL.tabC 1200 lamQ
abbrev cDR : PM := fun ds S q => ∃ (a m k : Int) (n : Nat) (qs : List Qt) (ns : List Int), ds = [.loc 1, .int n, qsd qs, inz ns] ∧ S = [tabL, jarC a m k] ∧ JarOk a m (k + 700) ∧ 0 ≤ k ∧ B23 n qs ∧ qs.length ≤ 3 ∧ PayOk n ns ∧
  jarQ k 700 fun c => q (.bl true) [tabL, c]
theorem noLoc_below (m : Nat) : ∀ xs : List DL.D, noLoc xs = true → belowL m xs = true
  | [], _ => rfl
  | x :: xs, h => by
    cases x with
    | loc k => cases h
    | _ => exact noLoc_below m xs h
theorem deedD_tup (d : Deed) : ∃ xs, deedD d = .tup xs := by
  cases d <;> exact ⟨_, rfl⟩
theorem deedQ_ok {n : Nat} {qs : List Qt} (hb : B23 n qs) (h30 : qs.length ≤ 30) {d : Deed} (hd : DeedOk n qs d) {r : List Qt} (h : deedQ n qs d = some r) : BkOk n r ∧ r.length ≤ qs.length + 1 := by
  cases d with
  | quote x => injection h with h; subst h; exact ⟨hd, by simp⟩
  | drop i => injection h with h; subst h; exact ⟨hb.ok.er i, by rw [List.length_eraseIdx]; split <;> omega⟩
  | raise i p => injection h with h; subst h; refine ⟨set_ok hb.ok hd.1 hd.2, ?_⟩; have := hd.1; unfold setPrice; simp; omega
  | news ls => injection h with h; subst h; exact ⟨hb.ok.app ⟨lotPay_ok n ls, show PriceOk (1 : Rat) from ⟨by decide, by decide, by decide⟩⟩ h30, by simp⟩
  | tighten =>
    have h : (if (sound n qs && tOk n qs) = true then some (tightQ n qs) else none) = some r := h
    by_cases c : (sound n qs && tOk n qs) = true
    · rw [if_pos c] at h
      injection h with h; subst h
      rw [Bool.and_eq_true] at c
      exact ⟨(tight_ok hb c.2).ok, by unfold tightQ; simp⟩
    · rw [if_neg c] at h; cases h
theorem JarOk.at' {a m k c b a' m' k' : Int} (h : JarOk a m (k + c)) (h0 : 0 ≤ k) (h1 : 0 ≤ a') (h2 : 0 ≤ m') (h3 : m' < 2147483647) (h4 : 0 ≤ k' + b) (h5 : k' + b ≤ k + c) : JarOk a' m' (k' + b) := ⟨h1, h2, h3, h4, by have := h.2.2.2.2; omega⟩
abbrev rDeedE : RE := rIf (rTest (rOp oLt (rCB oLen (rCons (rOp oIx (rVar 5) (rUn oNeg (rC (D.int 1)))) rNil)) (rC (D.int 5))))
  (rCall1 2 cDeed (rCons (rVar 0) (rCons (rVar 1) (rCons (rOp oIx (rVar 5) (rUn oNeg (rC (D.int 1)))) rNil))))
  (rTup (rCons (rTup (rCons (rC (D.str (Str.ofString "drop"))) (rCons (rC (D.int 0)) rNil))) (rCons (rSl (rOp oIx (rVar 5) (rUn oNeg (rC (D.int 1)))) (rPS (rC (D.int 1))) rPN) rNil)))
theorem deed_step {a m k : Int} {n L : Nat} {hist : List (List Qt)} {qs : List Qt} {R : List Cell} {s2 s3 s4 s6 s7 s8 : Option DL.D} {q : DL.D → List Cell → Prop} {x : XP} (hR : (L = 3 ∧ ∃ c, R = [c, .lst ((hist ++ [qs]).map qsd)]) ∨ (L = 4 ∧ ∃ c c2, R = [c, c2, .lst ((hist ++ [qs]).map qsd)]))
    (hb : B23 n qs) (hl : qs.length ≤ 5) (hj : JarOk a m (k + 70)) (hk0 : 0 ≤ k)
    (h : ∀ (d : Deed) (xs : List DL.D), deedD d = .tup xs → DeedOk n qs d → (∀ r, deedQ n qs d = some r → BkOk n r ∧ r.length ≤ 5) → jarQ k 70 fun c => q (.tup [.tup xs, qsd ((deedQ n qs d).getD qs)]) (tabL :: c :: R)) :
    rDeedE [some (.loc 1), some (.int n), s2, s3, s4, some (.loc L), s6, s7, s8] (tabL :: jarC a m k :: R) q x := by
  have last : atI ((hist ++ [qs]).map qsd) (-1) = some (qsd qs) := by rw [List.map_append]; exact last_at _ _
  have key : ∀ d, DeedOk n qs d → (∀ r, deedQ n qs d = some r → r.length ≤ 5) → jarQ k 70 fun c => q (.tup [deedD d, qsd ((deedQ n qs d).getD qs)]) (tabL :: c :: R) := fun d hd h5 => by
    obtain ⟨xs, ex⟩ := deedD_tup d
    rw [ex]
    exact h d xs ex hd fun r e => ⟨(deedQ_ok hb (by omega) hd e).1, h5 r e⟩
  rcases hR with ⟨rfl, c, rfl⟩ | ⟨rfl, c, c2, rfl⟩
  all_goals refine ⟨_, last, ?_⟩
  all_goals by_cases h5 : qs.length < 5
  · refine onT (by rw [List.length_map]; exact decide_eq_true (by omega)) ?_
    refine ⟨_, last, rfl, a, m, k, n, qs, rfl, rfl, hj, hk0, hb, by omega, fun d hd => ?_⟩
    exact key d hd fun r e => by have := (deedQ_ok hb (by omega) hd e).2; omega
  · refine onF (by rw [List.length_map]; exact decide_eq_false (by omega)) ?_
    refine ⟨_, last, ?_⟩
    have e0 : cutD (qs.map qd) (some 1) none = (qs.eraseIdx 0).map qd := by
      rw [show (1 : Int) = ((1 : Nat) : Int) from rfl, cut_dropN _ _ (by simp; omega), List.eraseIdx_zero, ← List.drop_one, List.map_drop]
    have := key (.drop 0) (show 0 < qs.length by omega) (fun r e => by injection e with e; subst e; rw [List.length_eraseIdx]; split <;> omega) a m k hj.1 hj.2.1 hj.2.2.1 (Int.le_refl _) (by omega)
    show q (.tup [.tup [.str "drop", .int 0], .tup (cutD (qs.map qd) (some 1) none)]) _
    rw [e0]
    exact this
  · refine onT (by rw [List.length_map]; exact decide_eq_true (by omega)) ?_
    refine ⟨_, last, rfl, a, m, k, n, qs, rfl, rfl, hj, hk0, hb, by omega, fun d hd => ?_⟩
    exact key d hd fun r e => by have := (deedQ_ok hb (by omega) hd e).2; omega
  · refine onF (by rw [List.length_map]; exact decide_eq_false (by omega)) ?_
    refine ⟨_, last, ?_⟩
    have e0 : cutD (qs.map qd) (some 1) none = (qs.eraseIdx 0).map qd := by
      rw [show (1 : Int) = ((1 : Nat) : Int) from rfl, cut_dropN _ _ (by simp; omega), List.eraseIdx_zero, ← List.drop_one, List.map_drop]
    have := key (.drop 0) (show 0 < qs.length by omega) (fun r e => by injection e with e; subst e; rw [List.length_eraseIdx]; split <;> omega) a m k hj.1 hj.2.1 hj.2.2.1 (Int.le_refl _) (by omega)
    show q (.tup [.tup [.str "drop", .int 0], .tup (cutD (qs.map qd) (some 1) none)]) _
    rw [e0]
    exact this
theorem undo_ok {n : Nat} {hist : List (List Qt)} {qs q0 : List Qt} (hne : hist ≠ []) (h0 : (hist ++ [qs])[0]? = some q0) (ha : ∀ x ∈ hist ++ [qs], BkOk n x ∧ x.length ≤ 5) :
    ∃ h3 q3, hist = h3 ++ [q3] ∧ h3.length + 1 ≤ hist.length ∧ (h3 ++ [q3])[0]? = some q0 ∧ ∀ x ∈ h3 ++ [q3], BkOk n x ∧ x.length ≤ 5 := by
  have e := List.dropLast_concat_getLast hne
  refine ⟨hist.dropLast, hist.getLast hne, e.symm, ?_, ?_, ?_⟩
  · have := List.length_pos_iff.mpr hne
    rw [List.length_dropLast]; omega
  · rw [e]
    rw [List.getElem?_append_left (List.length_pos_iff.mpr hne)] at h0
    exact h0
  · rw [e]
    exact fun x hx => ha x (List.mem_append_left _ hx)
abbrev rShowS : RS := rIfS (rNot (rTest (rCallZ 4 cShows (rCons (rVar 4) (rCons (rVar 1) (rCons (rVar 5) (rCons (rVar 3) rNil))))))) (rRet (rC (D.bl false))) rNext
abbrev rUndoS : RS := rIfS (rAnd (rTest (rOp (oEq false) (rCall1 1 cDip (rCons (rVar 0) (rCons (rC (D.int 4)) rNil))) (rC (D.int 0)))) (rTest (rOp oGt (rCB oLen (rCons (rVar 5) rNil)) (rC (D.int 1)))))
  (rSeq (rDrop (rMeth1 Cl.desk 0 (fun es c q x => cDUndo es c q fun x x_1 => False) (rVar 4) rNil)) (rAsg (rSlO (rVar 5) rPN (rPS (rUn oNeg (rC (D.int 1))))) (rgName 5))) rNext
theorem turn_end {a m k : Int} {n L : Nat} {hist : List (List Qt)} {qs : List Qt} {ns : List Int} {R : List Cell} {s2 s6 s7 s8 : Option DL.D} {O : Out} (hR : (L = 3 ∧ R = [.lst ((hist ++ [qs]).map qsd)]) ∨ (L = 4 ∧ ∃ c2, R = [c2, .lst ((hist ++ [qs]).map qsd)]))
    (hb : B23 n qs) (hn : PayOk n ns) (hj : JarOk a m k)
    (h1 : ∀ a m, 0 ≤ a → 0 ≤ m → m < 2147483647 → O.nx [some (.loc 1), some (.int n), s2, some (inz ns), some (.loc 2), some (.loc L), s6, s7, s8] (tabL :: jarC a m (k + 1) :: deskC n (hist ++ [qs]) :: R))
    (h2 : hist ≠ [] → ∀ a m, 0 ≤ a → 0 ≤ m → m < 2147483647 → O.nx [some (.loc 1), some (.int n), s2, some (inz ns), some (.loc 2), some (.loc (L + 1)), s6, s7, s8] (tabL :: jarC a m (k + 1) :: deskC n hist :: (R ++ [.lst (hist.map qsd)]))) :
    rSeq rShowS rUndoS O [some (.loc 1), some (.int n), s2, some (inz ns), some (.loc 2), some (.loc L), s6, s7, s8] (tabL :: jarC a m k :: deskC n (hist ++ [qs]) :: R) := by
  have nlq : noLoc ((hist ++ [qs]).map qsd) = true := noLoc_map (fun _ => rfl) _
  have cut : cutD ((hist ++ [qs]).map qsd) none (some (-1)) = hist.map qsd := by rw [List.map_append]; exact cut_last (α := Nat) _ _
  rcases hR with ⟨rfl, rfl⟩ | ⟨rfl, c2, rfl⟩
  all_goals refine ⟨⟨rfl, trivial, nlq, trivial, trivial⟩, rfl, n, hist, qs, ns, rfl, hb, hn, true, rfl, ?_⟩
  all_goals refine ⟨rfl, a, m, k, 4, rfl, rfl, hj, by decide, by decide, fun r a' m' r0 r1 y1 y2 y3 => ?_⟩
  all_goals by_cases hr : r = 0
  · refine onT (by simp [hr]) ?_
    by_cases hne : hist = []
    · subst hne
      exact h1 a' m' y1 y2 y3
    · have hp := List.length_pos_iff.mpr hne
      refine onT (decide_eq_true (by rw [List.length_map, List.length_append]; show (1 : Int) < ((hist.length + 1 : Nat) : Int); omega)) ?_
      refine ⟨rfl, n, hist, qs, rfl, rfl, hne, nlq, ?_⟩
      have := h2 hne a' m' y1 y2 y3
      rw [← cut] at this
      exact this
  · exact onF (by simp [hr]) (h1 a' m' y1 y2 y3)
  · refine onT (by simp [hr]) ?_
    by_cases hne : hist = []
    · subst hne
      exact h1 a' m' y1 y2 y3
    · have hp := List.length_pos_iff.mpr hne
      refine onT (decide_eq_true (by rw [List.length_map, List.length_append]; show (1 : Int) < ((hist.length + 1 : Nat) : Int); omega)) ?_
      refine ⟨rfl, n, hist, qs, rfl, rfl, hne, nlq, ?_⟩
      have := h2 hne a' m' y1 y2 y3
      rw [← cut] at this
      exact this
  · exact onF (by simp [hr]) (h1 a' m' y1 y2 y3)
abbrev N__law_desk_right : List Str := ["_law_jar_here", "_law_size", "_law_quotes_here", "_law_payoff_here", "_law_desk", "_law_past", "_law_turn", "_law_deed_here", "_law_later"]
theorem sc__law_desk_right : FnScope N__law_desk_right ["_law_jar_here", "_law_size", "_law_quotes_here", "_law_payoff_here"] (defScope s__law_desk_right) := ⟨rfl, rfl, rfl, by decide +kernel, rfl, by decide +kernel, by decide +kernel⟩
theorem ok__law_desk_right (V : Vx K mg base) : FnG P w K mg base "_law_desk_right" 14 (spM K 4 2 cDR) := by
  have U := V.u
  have T := U.t
  obtain ⟨fd, F, hc⟩ := V.dr
  refine ⟨_, fd, _, fn_at (C := fun r => ∀ ds S q, cDR ds S q → ds.length = 4 → S.length = 2 → r (outM 2 q) (startD N__law_desk_right ds) S) F hc sc__law_desk_right (fun _ _ _ _ h => (len_spM h).trans rfl) ?_ (fun _ c _ _ _ _ h => up_spM c h), T.g 140 d__law_desk_right rfl rfl, F.kp, F.bindsN (bind4 rfl fun _ _ _ _ _ _ _ _ _ _ => rfl)⟩
  intro A outer s H E hr tk po
  refine ⟨_, (jb_cons (js_par (i := 4) (j := 5) rfl sc__law_desk_right.nd rfl rfl (by decide) rfl rfl (ja_cons (je_makeO (ok_Desk_init T) (hr.mono (by decide)) rfl (ja_cons (je_makeF (ok_Book_init T) (hr.mono (by decide)) rfl (ja_cons (je_var (pv 1)) (ja_cons (je_var (pv 2)) ja_nil))) ja_nil)) (ja_cons (je_lstO (ja_cons (je_var (pv 2)) ja_nil)) ja_nil)) (by rfl))
    (jb_cons (js_forR po rfl (ji_rng1 rfl T.b_range (je_op op_addD je_int (je_call1 (ok__law_dip T) (hr.mono (by decide)) tk rfl (ja_cons (je_var (pv 0)) (ja_cons je_int ja_nil))))) (jg_name (pg_name (i := 6) sc__law_desk_right.nd rfl (by first | exact .inl rfl | exact .inr rfl))) (jb_cons (js_asg (je_if (jt_cmp op_ltD (je_callB call_lenD rfl T.b_len (by decide +kernel) (ja_cons (je_ix (je_var (pv 5)) (je_un un_negD je_int)) ja_nil)) je_int (nomark _)) (je_call1 (ok__law_deed T) (hr.mono (by decide)) tk rfl (ja_cons (je_var (pv 0)) (ja_cons (je_var (pv 1)) (ja_cons (je_ix (je_var (pv 5)) (je_un un_negD je_int)) ja_nil)))) (je_tup (ja_cons (je_tup (ja_cons je_str (ja_cons je_int ja_nil))) (ja_cons (je_sl (je_ix (je_var (pv 5)) (je_un un_negD je_int)) (jp_some je_int) jp_none) ja_nil)))) (jg_tup rfl (jgs_cons (jg_name (pg_name (i := 7) sc__law_desk_right.nd rfl (by first | exact .inl rfl | exact .inr rfl))) (jgs_cons (jg_name (pg_name (i := 8) sc__law_desk_right.nd rfl (by first | exact .inl rfl | exact .inr rfl))) jgs_nil))))
    (jb_cons (js_expr (je_meth1 (ok_Desk_tried U) (hr.mono (by decide)) (je_var (pv 4)) (ja_cons (je_lam V.tb rfl rfl (by decide +kernel) rfl) ja_nil) (by decide +kernel)))
    (jb_cons (js_if (jt_val (je_call1 (ok__law_do U) (hr.mono (by decide)) tk rfl (ja_cons (je_var (pv 4)) (ja_cons (je_var (pv 7)) ja_nil)))) (jb_one (js_expr (je_app (je_var (pv 5)) (je_var (pv 8))))) jb_nil)
    (jb_cons (js_if (jt_not (jt_val (je_callZ (ok__law_shows T) (hr.mono (by decide)) tk rfl (ja_cons (je_var (pv 4)) (ja_cons (je_var (pv 1)) (ja_cons (je_var (pv 5)) (ja_cons (je_var (pv 3)) ja_nil))))))) (jb_one (js_ret je_bl)) jb_nil)
    (jb_one (js_if (jt_w (jw_and (jt_cmp (op_eqD' hr.units) (je_call1 (ok__law_dip T) (hr.mono (by decide)) tk rfl (ja_cons (je_var (pv 0)) (ja_cons je_int ja_nil))) je_int (nomark _)) (jw_and1 (jt_cmp op_gtD (je_callB call_lenD rfl T.b_len (by decide +kernel) (ja_cons (je_var (pv 5)) ja_nil)) je_int (nomark _))))) (jb_cons (js_expr (je_meth10 (ok_Desk_undo T) (hr.mono (by decide)) (je_var (pv 4)) (by decide +kernel)))
    (jb_one (js_set (i := 5) sc__law_desk_right.nd rfl (by first | exact .inl rfl | exact .inr rfl) (je_slO (je_var (pv 5)) jp_none (jp_some (je_un un_negD je_int)))))) jb_nil)))))))
    (jb_cons (js_for po rfl (ji_rng1 rfl T.b_range (je_op op_subD (je_callB call_lenD rfl T.b_len (by decide +kernel) (ja_cons (je_var (pv 5)) ja_nil)) je_int)) (jg_name (pg_name (i := 6) sc__law_desk_right.nd rfl (by first | exact .inl rfl | exact .inr rfl))) (jb_one (js_expr (je_meth10 (ok_Desk_undo T) (hr.mono (by decide)) (je_var (pv 4)) (by decide +kernel)))))
    (jb_one (js_ret (je_and (je_cmp (op_bookEq (ok_Book_eq T) (hr.mono (by decide))) (je_prop1 (ok_Desk_book T) (hr.mono (by decide)) (je_var (pv 4))) (je_makeF (ok_Book_init T) (hr.mono (by decide)) rfl (ja_cons (je_var (pv 1)) (ja_cons (je_var (pv 2)) ja_nil))) (nomark _)) (je_one (je_cmp (op_eqD' hr.units) (je_prop1 (ok_Desk_changes T) (hr.mono (by decide)) (je_var (pv 4))) je_int (nomark _))))))))), ?_⟩
  rintro ds S q ⟨a, m, k, n, qs0, ns, rfl, rfl, hj, hk0, hb, hl, hn, h⟩ - -
  have n2 : 2 ≤ n := hb.ok.1
  have n3 := hb.n3
  refine ⟨qs0, n, rfl, n2, by omega, hb.ok.2.2, rfl, n, qs0, rfl, hb, rfl, ?_⟩
  refine ⟨rfl, a, m, k, 5, rfl, rfl, hj.at hk0 hj.1 hj.2.1 hj.2.2.1 hk0 (by omega), by decide, by decide, fun c0 a1 m1 c1 c2 y1 y2 y3 => ?_⟩
  obtain ⟨cnt, rfl⟩ := Int.eq_ofNat_of_zero_le c1
  refine ⟨⟨by omega, by omega⟩, ?_⟩
  have e0 : ((rngD 0 (3 + (cnt : Int))).length) = 3 + cnt := by
    rw [show (3 + (cnt : Int)) = ((3 + cnt : Nat) : Int) by omega, rngD_map]; simp
  show forR _ _ _ _ _ _ _
  refine forR_inv (fun items ds S => ∃ (r : Nat) (hist : List (List Qt)) (qs : List Qt) (a' m' k' : Int) (p6 p7 p8 : Option DL.D), items.length = r ∧ (∀ x ∈ items, ∃ i, x = D.int i) ∧ r ≤ 7 ∧ hist.length + r ≤ 7 ∧ (hist ++ [qs])[0]? = some qs0 ∧ (∀ x ∈ hist ++ [qs], BkOk n x ∧ x.length ≤ 5) ∧
    0 ≤ a' ∧ 0 ≤ m' ∧ m' < 2147483647 ∧ k ≤ k' ∧ k' + 71 * r ≤ k + 1 + 71 * 7 ∧
    ((S = [tabL, jarC a' m' k', deskC n (hist ++ [qs]), .lst ((hist ++ [qs]).map qsd)] ∧ ds = [some (.loc 1), some (.int n), some (qsd qs0), some (inz ns), some (.loc 2), some (.loc 3), p6, p7, p8]) ∨
      ∃ gs : List (List Qt), S = [tabL, jarC a' m' k', deskC n (hist ++ [qs]), .lst (gs.map qsd), .lst ((hist ++ [qs]).map qsd)] ∧ ds = [some (.loc 1), some (.int n), some (qsd qs0), some (inz ns), some (.loc 2), some (.loc 4), p6, p7, p8])) ?_ ?_ _ _ _
    ⟨3 + cnt, [], qs0, a1, m1, k + 1, none, none, none, e0, ?_, by omega, by show 0 + (3 + cnt) ≤ 7; omega, rfl, fun x hx => by rw [List.mem_singleton.mp hx]; exact ⟨hb.ok, by omega⟩, y1, y2, y3, by omega, by omega, .inl ⟨rfl, rfl⟩⟩
  · rintro d0 items ds S ⟨r, hist, qs, a', m', k', p6, p7, p8, er, hit, hr7, hlen, hhead, hall, z1, z2, z3, z4, z5, hS⟩ K hK
    cases r with
    | zero => cases er
    | succ r =>
    have er2 : items.length = r := by rw [List.length_cons] at er; omega
    obtain ⟨hq, hq5⟩ := hall qs (by simp)
    have hbq : B23 n qs := ⟨hb.n23, hq⟩
    have hdok : DeskOk n hist qs := ⟨hbq, by omega⟩
    obtain ⟨i0, rfl⟩ := hit d0 (.head _)
    have hit' : ∀ x ∈ items, ∃ i, x = D.int i := fun x hx => hit x (.tail _ hx)
    have nb : ∀ (l : List (List Qt)), belowL 4 (l.map qsd) = true := fun l => noLoc_below 4 _ (noLoc_map (fun _ => rfl) _)
    rcases hS with ⟨rfl, rfl⟩ | ⟨gs, rfl, rfl⟩
    · refine deed_step (L := 3) (.inl ⟨rfl, _, rfl⟩) hbq hq5 (hj.at' hk0 z1 z2 z3 (by omega) (by omega)) (by omega) (fun d xs ex hd hd5 a2 m2 k2 w1 w2 w3 w4 w5 => ?_)
      refine ⟨rfl, rfl, n, hist, qs, rfl, rfl, hdok, by omega, ?_⟩
      refine ⟨rfl, n, hist, qs, d, by rw [ex], rfl, hdok, hd, ?_⟩
      have fin : ∀ (hist2 : List (List Qt)) (qs2 zs : List Qt), hist2.length ≤ hist.length + 1 → (hist2 ++ [qs2])[0]? = some qs0 → (∀ x ∈ hist2 ++ [qs2], BkOk n x ∧ x.length ≤ 5) → ∀ (O : Out), O.nx = K →
          rSeq rShowS rUndoS O [some (.loc 1), some (.int n), some (qsd qs0), some (inz ns), some (.loc 2), some (.loc 3), some (.int i0), some (.tup xs), some (qsd zs)] [tabL, jarC a2 m2 k2, deskC n (hist2 ++ [qs2]), .lst ((hist2 ++ [qs2]).map qsd)] := by
        intro hist2 qs2 zs hl2 hh2 ha2 O hO
        obtain ⟨hq2, hq25⟩ := ha2 qs2 (by simp)
        refine turn_end (L := 3) (.inl ⟨rfl, rfl⟩) ⟨hb.n23, hq2⟩ hn (hj.at hk0 w1 w2 w3 (by omega) (by omega)) (fun a3 m3 v1 v2 v3 => ?_) fun hne2 a3 m3 v1 v2 v3 => ?_
        · rw [hO]
          exact hK _ _ _ _ (.inl ⟨rfl, rfl⟩) ⟨r, hist2, qs2, a3, m3, k2 + 1, _, _, _, er2, hit', by omega, by omega, hh2, ha2, v1, v2, v3, by omega, by omega, .inl ⟨rfl, rfl⟩⟩
        · obtain ⟨hist3, q3, rfl, f1, f2, f3⟩ := undo_ok hne2 hh2 ha2
          rw [hO]
          exact hK _ _ _ _ (.inl ⟨rfl, rfl⟩) ⟨r, hist3, q3, a3, m3, k2 + 1, _, _, _, er2, hit', by omega, by omega, f2, f3, v1, v2, v3, by omega, by omega, .inr ⟨hist3 ++ [q3] ++ [qs2], rfl, rfl⟩⟩
      cases hdq : deedQ n qs d with
      | none => exact fin hist qs qs (by omega) hhead hall _ rfl
      | some r2 =>
        obtain ⟨g1, g2⟩ := hd5 r2 hdq
        refine ⟨by simp; omega, ?_⟩
        have := fin (hist ++ [qs]) r2 r2 (by simp) (by rw [List.getElem?_append_left (by simp)]; exact hhead) (fun x hx => by
          rcases List.mem_append.mp hx with z | z
          · exact hall x z
          · rw [List.mem_singleton.mp z]; exact ⟨g1, g2⟩)
        rw [show (hist ++ [qs] ++ [r2]).map qsd = (hist ++ [qs]).map qsd ++ [qsd r2] by rw [List.map_append]; rfl] at this
        exact this _ rfl
    · refine deed_step (L := 4) (.inr ⟨rfl, _, _, rfl⟩) hbq hq5 (hj.at' hk0 z1 z2 z3 (by omega) (by omega)) (by omega) (fun d xs ex hd hd5 a2 m2 k2 w1 w2 w3 w4 w5 => ?_)
      refine ⟨rfl, rfl, n, hist, qs, rfl, rfl, hdok, by omega, ?_⟩
      refine ⟨rfl, n, hist, qs, d, by rw [ex], rfl, hdok, hd, ?_⟩
      have fin : ∀ (hist2 : List (List Qt)) (qs2 zs : List Qt), hist2.length ≤ hist.length + 1 → (hist2 ++ [qs2])[0]? = some qs0 → (∀ x ∈ hist2 ++ [qs2], BkOk n x ∧ x.length ≤ 5) → ∀ (O : Out), O.nx = K →
          rSeq rShowS rUndoS O [some (.loc 1), some (.int n), some (qsd qs0), some (inz ns), some (.loc 2), some (.loc 4), some (.int i0), some (.tup xs), some (qsd zs)] [tabL, jarC a2 m2 k2, deskC n (hist2 ++ [qs2]), .lst (gs.map qsd), .lst ((hist2 ++ [qs2]).map qsd)] := by
        intro hist2 qs2 zs hl2 hh2 ha2 O hO
        obtain ⟨hq2, hq25⟩ := ha2 qs2 (by simp)
        refine turn_end (L := 4) (.inr ⟨rfl, _, rfl⟩) ⟨hb.n23, hq2⟩ hn (hj.at hk0 w1 w2 w3 (by omega) (by omega)) (fun a3 m3 v1 v2 v3 => ?_) fun hne2 a3 m3 v1 v2 v3 => ?_
        · rw [hO]
          exact hK _ _ _ _ (.inl ⟨rfl, rfl⟩) ⟨r, hist2, qs2, a3, m3, k2 + 1, _, _, _, er2, hit', by omega, by omega, hh2, ha2, v1, v2, v3, by omega, by omega, .inr ⟨gs, rfl, rfl⟩⟩
        · obtain ⟨hist3, q3, rfl, f1, f2, f3⟩ := undo_ok hne2 hh2 ha2
          rw [hO]
          exact hK _ _ _ _ (.inr ⟨[tabL, jarC a3 m3 (k2 + 1), deskC n (hist3 ++ [q3]), .lst (gs.map qsd)], _, .lst ((hist3 ++ [q3]).map qsd), 5, rfl, rfl, Nat.le_refl 4, rfl, rfl, rfl, ⟨trivial, rfl, rfl, nb gs, trivial⟩, nb (hist3 ++ [q3])⟩) ⟨r, hist3, q3, a3, m3, k2 + 1, _, _, _, er2, hit', by omega, by omega, f2, f3, v1, v2, v3, by omega, by omega, .inr ⟨gs, rfl, rfl⟩⟩
      cases hdq : deedQ n qs d with
      | none => exact fin hist qs qs (by omega) hhead hall _ rfl
      | some r2 =>
        obtain ⟨g1, g2⟩ := hd5 r2 hdq
        refine ⟨by simp; omega, ?_⟩
        have := fin (hist ++ [qs]) r2 r2 (by simp) (by rw [List.getElem?_append_left (by simp)]; exact hhead) (fun x hx => by
          rcases List.mem_append.mp hx with z | z
          · exact hall x z
          · rw [List.mem_singleton.mp z]; exact ⟨g1, g2⟩)
        rw [show (hist ++ [qs] ++ [r2]).map qsd = (hist ++ [qs]).map qsd ++ [qsd r2] by rw [List.map_append]; rfl] at this
        exact this _ rfl
  · rintro ds S ⟨r, hist, qs, a', m', k', p6, p7, p8, er, hit, hr7, hlen, hhead, hall, z1, z2, z3, z4, z5, hS⟩
    have hlast : ((((hist ++ [qs]).map qsd).length : Nat) : Int) - 1 = ((hist.length : Nat) : Int) := by rw [List.length_map, List.length_append]; show ((hist.length + 1 : Nat) : Int) - 1 = _; omega
    rcases hS with ⟨rfl, rfl⟩ | ⟨gs, rfl, rfl⟩
    · refine ⟨by rw [hlast]; exact ⟨by omega, by omega⟩, ?_⟩
      show forD _ _ _ (rngD 0 (((((hist ++ [qs]).map qsd).length : Nat) : Int) - 1)) _ _
      rw [hlast, rngD_map]
      refine for_inv (fun items ds S => ∃ (h2 : List (List Qt)) (q2 : List Qt) (p6 : Option DL.D) (past : Cell), items.length = h2.length ∧ (h2 ++ [q2])[0]? = some qs0 ∧ S = [tabL, jarC a' m' k', deskC n (h2 ++ [q2]),  past] ∧
        ds = [some (.loc 1), some (.int n), some (qsd qs0), some (inz ns), some (.loc 2), some (.loc 3), p6, p7, p8]) ?_ ?_ _ _ _ ⟨hist, qs, p6, _, by simp, hhead, rfl, rfl⟩
      · rintro d0 items ds S ⟨h2, q2, p6, past, e1, e2, rfl, rfl⟩ K hK
        have hne : h2 ≠ [] := fun z => by rw [z] at e1; cases e1
        have e := List.dropLast_concat_getLast hne
        refine ⟨rfl, n, h2, q2, rfl, rfl, hne, hK _ _ ⟨h2.dropLast, h2.getLast hne, _, past, ?_, ?_, ?_, rfl⟩⟩
        · rw [List.length_dropLast, ← e1]; rfl
        · rw [e]
          rw [List.getElem?_append_left (List.length_pos_iff.mpr hne)] at e2
          exact e2
        · rw [e]
          rfl
      · rintro ds S ⟨h2, q2, p6, past, e1, e2, rfl, rfl⟩
        obtain rfl : h2 = [] := List.eq_nil_of_length_eq_zero e1.symm
        obtain rfl : q2 = qs0 := by injection e2
        refine ⟨rfl, n, q2, [], rfl, rfl, q2, n, rfl, n2, by omega, hb.ok.2.2, rfl, ⟨n, qsd q2, .any, .any, rfl, okE_qs5 q2, rfl⟩, rfl, n, [q2], rfl, rfl, by show 2 ≤ _ + 1 + 1; omega, ⟨trivial, rfl, trivial⟩, trivial, h a' m' k' z1 z2 z3 z4 (by omega)⟩
    · refine ⟨by rw [hlast]; exact ⟨by omega, by omega⟩, ?_⟩
      show forD _ _ _ (rngD 0 (((((hist ++ [qs]).map qsd).length : Nat) : Int) - 1)) _ _
      rw [hlast, rngD_map]
      refine for_inv (fun items ds S => ∃ (h2 : List (List Qt)) (q2 : List Qt) (p6 : Option DL.D) (past : Cell), items.length = h2.length ∧ (h2 ++ [q2])[0]? = some qs0 ∧ S = [tabL, jarC a' m' k', deskC n (h2 ++ [q2]), .lst (gs.map qsd),  past] ∧
        ds = [some (.loc 1), some (.int n), some (qsd qs0), some (inz ns), some (.loc 2), some (.loc 4), p6, p7, p8]) ?_ ?_ _ _ _ ⟨hist, qs, p6, _, by simp, hhead, rfl, rfl⟩
      · rintro d0 items ds S ⟨h2, q2, p6, past, e1, e2, rfl, rfl⟩ K hK
        have hne : h2 ≠ [] := fun z => by rw [z] at e1; cases e1
        have e := List.dropLast_concat_getLast hne
        refine ⟨rfl, n, h2, q2, rfl, rfl, hne, hK _ _ ⟨h2.dropLast, h2.getLast hne, _, past, ?_, ?_, ?_, rfl⟩⟩
        · rw [List.length_dropLast, ← e1]; rfl
        · rw [e]
          rw [List.getElem?_append_left (List.length_pos_iff.mpr hne)] at e2
          exact e2
        · rw [e]
          rfl
      · rintro ds S ⟨h2, q2, p6, past, e1, e2, rfl, rfl⟩
        obtain rfl : h2 = [] := List.eq_nil_of_length_eq_zero e1.symm
        obtain rfl : q2 = qs0 := by injection e2
        refine ⟨rfl, n, q2, [], rfl, rfl, q2, n, rfl, n2, by omega, hb.ok.2.2, rfl, ⟨n, qsd q2, .any, .any, rfl, okE_qs5 q2, rfl⟩, rfl, n, [q2], rfl, rfl, by show 2 ≤ _ + 1 + 1; omega, ⟨trivial, rfl, trivial⟩, trivial, h a' m' k' z1 z2 z3 z4 (by omega)⟩
  · intro x hx
    rw [show (3 + (cnt : Int)) = ((3 + cnt : Nat) : Int) by omega, rngD_map] at hx
    obtain ⟨i, _, rfl⟩ := List.mem_map.mp hx
    exact ⟨i, rfl⟩
end
end SC
end

section
set_option maxHeartbeats 4000000
namespace SC
open PySem L2 DL
section
variable {P : Program} {w : World} {K : PySem.W.Frag} {mg : Str → Option Value} {base : Heap}

abbrev cLR : PM := fun ds S q => ∃ (a m k : Int), ds = [.loc 1] ∧ S = [tabL, jarC a m k] ∧ JarOk a m (k + 1000) ∧ 0 ≤ k ∧ ∀ a m k, q (.bl true) [tabL, jarC a m k]
theorem mem3 {d : D} (h : d ∈ [D.int 2, .int 2, .int 3]) : ∃ n : Nat, d = .int n ∧ (n = 2 ∨ n = 3) := by
  simp only [List.mem_cons, List.not_mem_nil, or_false] at h
  rcases h with rfl | rfl | rfl
  · exact ⟨2, rfl, .inl rfl⟩
  · exact ⟨2, rfl, .inl rfl⟩
  · exact ⟨3, rfl, .inr rfl⟩
theorem memS {d : D} (h : d ∈ [D.tup [.int 1, .int 2], .tup [.int 1, .int 3], .tup [.int 0, .int 1], .tup [.int 1, .int 1], .tup [.int 3, .int 4]]) : ∃ s : Rat, d = fr s ∧ ShareOk s := by
  simp only [List.mem_cons, List.not_mem_nil, or_false] at h
  rcases h with rfl | rfl | rfl | rfl | rfl
  · exact ⟨⟨1, 2, by decide, by decide⟩, rfl, by decide, by decide, by decide⟩
  · exact ⟨⟨1, 3, by decide, by decide⟩, rfl, by decide, by decide, by decide⟩
  · exact ⟨⟨0, 1, by decide, by decide⟩, rfl, by decide, by decide, by decide⟩
  · exact ⟨⟨1, 1, by decide, by decide⟩, rfl, by decide, by decide, by decide⟩
  · exact ⟨⟨3, 4, by decide, by decide⟩, rfl, by decide, by decide, by decide⟩
abbrev N__law_right : List Str := ["_law_jar_here", "_law_size", "_law_one", "_law_two", "_law_payoff_here", "_law_share"]
theorem sc__law_right : FnScope N__law_right ["_law_jar_here"] (defScope s__law_right) := ⟨rfl, rfl, rfl, by decide +kernel, rfl, by decide +kernel, by decide +kernel⟩
theorem ok__law_right (V : Vx K mg base) : FnG P w K mg base "_law_right" 15 (spM K 1 2 cLR) :=
  have U := V.u
  have T := U.t
  mkGM T 141 rfl rfl sc__law_right (bind1 rfl fun _ _ _ _ _ _ _ => rfl) rfl fun cdv A outer s H E hr tk po => by
    refine ⟨_, (jb_cons (js_set (i := 1) sc__law_right.nd rfl (by first | exact .inl rfl | exact .inr rfl) (je_call1 (ok__law_one_of T) (hr.mono (by decide)) tk rfl (ja_cons (je_var (pv 0)) (ja_cons (je_lst (ja_cons je_int (ja_cons je_int (ja_cons je_int ja_nil)))) ja_nil))))
    (jb_cons (js_par (i := 2) (j := 3) rfl sc__law_right.nd rfl rfl (by decide) rfl rfl (ja_cons (je_call1 (ok__law_quotes T) (hr.mono (by decide)) tk rfl (ja_cons (je_var (pv 0)) (ja_cons (je_var (pv 1)) (ja_cons (je_call1 (ok__law_dip T) (hr.mono (by decide)) tk rfl (ja_cons (je_var (pv 0)) (ja_cons je_int ja_nil))) (ja_cons je_int ja_nil))))) (ja_cons (je_call1 (ok__law_quotes T) (hr.mono (by decide)) tk rfl (ja_cons (je_var (pv 0)) (ja_cons (je_var (pv 1)) (ja_cons (je_call1 (ok__law_dip T) (hr.mono (by decide)) tk rfl (ja_cons (je_var (pv 0)) (ja_cons je_int ja_nil))) (ja_cons je_int ja_nil))))) ja_nil)) (by rfl))
    (jb_cons (js_par (i := 4) (j := 5) rfl sc__law_right.nd rfl rfl (by decide) rfl rfl (ja_cons (je_call1 (ok__law_payoff T) (hr.mono (by decide)) tk rfl (ja_cons (je_var (pv 0)) (ja_cons (je_var (pv 1)) (ja_cons je_int ja_nil)))) (ja_cons (je_call1 (ok__law_one_of T) (hr.mono (by decide)) tk rfl (ja_cons (je_var (pv 0)) (ja_cons (je_lst (ja_cons (je_tup (ja_cons je_int (ja_cons je_int ja_nil))) (ja_cons (je_tup (ja_cons je_int (ja_cons je_int ja_nil))) (ja_cons (je_tup (ja_cons je_int (ja_cons je_int ja_nil))) (ja_cons (je_tup (ja_cons je_int (ja_cons je_int ja_nil))) (ja_cons (je_tup (ja_cons je_int (ja_cons je_int ja_nil))) ja_nil)))))) ja_nil))) ja_nil)) (by rfl))
    (jb_cons (js_if (jt_w (jw_or (jt_not (jt_val (je_call0 (ok__law_two_right T) (hr.mono (by decide)) tk rfl (ja_cons (je_var (pv 1)) (ja_cons (je_var (pv 2)) (ja_cons (je_var (pv 3)) (ja_cons (je_var (pv 4)) (ja_cons (je_var (pv 5)) ja_nil)))))))) (jw_or1 (jt_not (jt_val (je_call0 (ok__law_wide_right T) (hr.mono (by decide)) tk rfl (ja_cons (je_var (pv 1)) (ja_cons (je_var (pv 2)) ja_nil)))))))) (jb_one (js_ret je_bl)) jb_nil)
    (jb_cons (js_if (jt_not (jt_val (je_call1 (ok__law_wrong_right U) (hr.mono (by decide)) tk rfl (ja_cons (je_var (pv 0)) (ja_cons (je_var (pv 1)) (ja_cons (je_var (pv 2)) (ja_cons (je_var (pv 4)) ja_nil))))))) (jb_one (js_ret je_bl)) jb_nil)
    (jb_one (js_ret (je_callM (ok__law_desk_right V) (hr.mono (by decide)) tk rfl (ja_cons (je_var (pv 0)) (ja_cons (je_var (pv 1)) (ja_cons (je_var (pv 3)) (ja_cons (je_var (pv 4)) ja_nil)))))))))))), ?_⟩
    rintro ds S q ⟨a, m, k, rfl, rfl, hj, hk0, h⟩ - -
    refine ⟨rfl, a, m, k, _, rfl, rfl, rfl, hj.at hk0 hj.1 hj.2.1 hj.2.2.1 hk0 (by omega), by decide, by decide, fun d a1 m1 hd y1 y2 y3 => ?_⟩
    obtain ⟨n, rfl, h23⟩ := mem3 hd
    refine ⟨rfl, a1, m1, k + 1, 4, rfl, rfl, hj.at hk0 y1 y2 y3 (by omega) (by omega), by decide, by decide, fun c2 a2 m2 c20 c24 y1 y2 y3 => ?_⟩
    obtain ⟨many1, rfl⟩ := Int.eq_ofNat_of_zero_le c20
    refine ⟨rfl, a2, m2, k + 1 + 1, n, many1, 4, rfl, rfl, hj.at' hk0 y1 y2 y3 (by omega) (by omega), by omega, h23, by omega, by decide, fun qs hq hql a3 m3 k3 y1 y2 y3 y4 y5 => ?_⟩
    refine ⟨rfl, a3, m3, k3, 3, rfl, rfl, hj.at hk0 y1 y2 y3 (by omega) (by omega), by decide, by decide, fun c4 a4 m4 c40 c44 y1 y2 y3 => ?_⟩
    obtain ⟨many2, rfl⟩ := Int.eq_ofNat_of_zero_le c40
    refine ⟨rfl, a4, m4, k3 + 1, n, many2, 4, rfl, rfl, hj.at' hk0 y1 y2 y3 (by omega) (by omega), by omega, h23, by omega, by decide, fun rs hr hrl a5 m5 k5 y1 y2 y3 y4 y5 => ?_⟩
    refine ⟨rfl, a5, m5, k5, n, 4, rfl, rfl, hj.at' hk0 y1 y2 y3 (by omega) (by omega), by omega, by omega, by decide, by decide, fun ns a6 m6 hnl hns y1 y2 y3 => ?_⟩
    refine ⟨rfl, a6, m6, k5 + n, _, rfl, rfl, rfl, hj.at hk0 y1 y2 y3 (by omega) (by omega), by decide, by decide, fun d a7 m7 hd y1 y2 y3 => ?_⟩
    obtain ⟨s, rfl, hs⟩ := memS hd
    have po : PayOk n ns := ⟨hnl, fun x hx => by have := hns x hx; omega⟩
    have bq : B23 n qs := ⟨h23, by omega, by omega, by omega, hq.2⟩
    have br : B23 n rs := ⟨h23, by omega, by omega, by omega, hr.2⟩
    have bb : B23 n (qs ++ rs) := ⟨h23, by omega, by omega, by rw [List.length_append]; omega, fun x hx => (List.mem_append.mp hx).elim (hq.2 x) (hr.2 x)⟩
    refine ⟨n, qs, rs, ns, s, rfl, bb, po, hs, n, qs, rfl, bq, ?_⟩
    refine ⟨rfl, a7, m7, k5 + n + 1, n, qs, ns, rfl, rfl, hj.at' hk0 y1 y2 y3 (by omega) (by omega), by omega, bq, po, fun a8 m8 k8 y1 y2 y3 y4 y5 => ?_⟩
    refine ⟨rfl, rfl, a8, m8, k8, n, rs, ns, rfl, rfl, hj.at' hk0 y1 y2 y3 (by omega) (by omega), by omega, br, by omega, po, fun a9 m9 k9 y1 y2 y3 y4 y5 => ?_⟩
    exact ⟨Nat.le_refl 2, ⟨trivial, rfl, trivial⟩, trivial, h a9 m9 k9⟩
abbrev cLaw : PM := fun ds S q => ∃ xs : List Int, ds = [scrD xs] ∧ S = [tabL] ∧ xs.length ≤ 100000 ∧ q (.bl true) [tabL]
abbrev N_law : List Str := ["_law_script", "_law_turn"]
theorem sc_law : FnScope N_law ["_law_script"] (defScope s_law) := ⟨rfl, rfl, rfl, by decide +kernel, rfl, by decide +kernel, by decide +kernel⟩
theorem bd_law (V : Vx K mg base) : BodyOk P w K mg base N_law d_law.qual (defScope d_law.st) (defBody d_law.st) d_law.adr 15 fun r => ∀ ds S q, cLaw ds S q → ds.length = 1 → S.length = 1 → r (outM 1 q) (startD N_law ds) S :=
  have U := V.u
  have T := U.t
  fun cdv A outer s H E hr tk po => by
    refine ⟨_, (jb_one (js_ret (je_callB (call_allD rfl) rfl T.b_all (by decide +kernel) (ja_cons (je_lc (own := [("_law_turn", 1)]) (g := (gName 1)) rfl sc_law.nd (ji_rng1 rfl T.b_range (je_callB (call_max2D rfl) rfl T.b_max (by decide +kernel) (ja_cons je_int (ja_cons (je_callB (call_min2D rfl) rfl T.b_min (by decide +kernel) (ja_cons (je_callB call_lenD rfl T.b_len (by decide +kernel) (ja_cons (je_var (pv 0)) ja_nil)) (ja_cons je_int ja_nil))) ja_nil)))) (blkOk_by (own := [("_law_turn", 1)]) (N := N_law) (sc := defScope s_law) (by decide +kernel)) (fun _ _ _ _ _ => (pg_name (i := 1) sc_law.nd rfl (by first | exact Or.inl rfl | exact Or.inr rfl))) gok_name (fun _ _ _ _ _ => jts_nil) (fun _ _ _ _ _ => (je_scopeE (je_callM (ok__law_right V) (hr.mono (by decide)) L2.takes0 rfl (ja_cons (je_callN (ok__law_jar T) (hr.mono (by decide)) L2.takes0 rfl (ja_cons (je_var (pv 0)) (ja_cons (je_var (pv 1)) ja_nil))) ja_nil))))) ja_nil)))), ?_⟩
    rintro ds S q ⟨xs, rfl, rfl, hl, h⟩ - -
    have fin : ∀ N : Nat, N ≤ 3 → lcD (rgName 1) rYes (rScopeE (rCallM 1 2 cLR (rCons (rCallN 2 cJarN (rCons (rVar 0) (rCons (rVar 1) rNil))) rNil))) [some (scrD xs), none] (rngD 0 (N : Int)) [] [tabL]
          (fun es S1 => oAll [.lst es] S1 (fun d S2 => (outM 1 q).rt d S2)) := by
      intro N hN
      rw [rngD_map]
      refine lc_mapA (List.range N) (fun i : Nat => D.int i) (fun _ => .bl true) (fun _ _ => rfl) (by simp; omega) ?_ ?_
      · intro i hi K hK
        have := List.mem_range.mp hi
        exact ⟨rfl, rfl, xs, i, rfl, by omega, by omega, hl, fun a m a0 m0 m1 => ⟨rfl, rfl, a, m, 0, rfl, rfl, ⟨a0, m0, m1, by decide, by decide⟩, by decide, fun a m k => ⟨by show 1 ≤ 2; decide, ⟨trivial, trivial⟩, rfl, hK⟩⟩⟩
      · refine ⟨(List.range N).map fun _ => true, by rw [List.map_map]; rfl, ?_⟩
        rw [show ((List.range N).map fun _ => true).all id = true from by simp]
        exact ⟨Nat.le_refl 1, ⟨trivial, trivial⟩, trivial, h⟩
    obtain ⟨N, hN, e⟩ : ∃ N : Nat, N ≤ 3 ∧ (if (if (3 : Int) < ((xs.map D.int).length : Nat) then 3 else (((xs.map D.int).length : Nat) : Int)) > 2 then (if (3 : Int) < ((xs.map D.int).length : Nat) then 3 else (((xs.map D.int).length : Nat) : Int)) else 2) = (N : Int) := by
      by_cases c1 : (3 : Int) < ((xs.map D.int).length : Nat)
      · exact ⟨3, by omega, by rw [if_pos c1]; rfl⟩
      · rw [if_neg c1]
        by_cases c2 : (((xs.map D.int).length : Nat) : Int) > 2
        · exact ⟨(xs.map D.int).length, by omega, by rw [if_pos c2]⟩
        · exact ⟨2, by omega, by rw [if_neg c2]; rfl⟩
    have := fin N hN
    rw [← e] at this
    refine ⟨?_, this⟩
    rw [e]
    exact ⟨by omega, by omega⟩
end
end SC
end

section
set_option maxHeartbeats 4000000
namespace SC
open PySem L2 DL
section
variable {K : PySem.W.Frag} {h : Heap} {mg : Str → Option Value} {x : Str}
theorem free_ok (X : K.In h) (G : h.Ns mainGlobals mg) (c : He.eqO (PySem.W.nsIn K mainGlobals x) (some none) = true) : mg x = none := PySem.W.mg_none_of X G (He.eqO_ok c)
theorem mk_ok {C f : Addr} (c : mkB K C f = true) : Mk K C f := by
  obtain ⟨a, c⟩ := He.ba c; obtain ⟨b, c⟩ := He.ba c; obtain ⟨d, c⟩ := He.ba c
  exact ⟨a, He.eqO_ok b, d, c⟩
theorem meth_ok {C f : Addr} {m : Str} (c : methB K C m f = true) : Meth K C m f := by
  obtain ⟨a, c⟩ := He.ba c; obtain ⟨b, c⟩ := He.ba c
  exact ⟨He.eqO_ok a, b, c⟩
theorem recB_ok {o : Option (List Value)} {g : Addr} (h : recB o g = true) : ∃ rest, o = some (.ref g :: rest) := by
  unfold recB at h
  split at h
  · rename_i a r
    exact ⟨r, by rw [of_decide_eq_true h]⟩
  · cases h
theorem prop_ok {C p g : Addr} {f : Str} (c : propB K C f p g = true) : PropOf K C f p g := by
  obtain ⟨a, c⟩ := He.ba c; obtain ⟨b, c⟩ := He.ba c; obtain ⟨d, c⟩ := He.ba c
  exact ⟨He.eqO_ok a, He.eqO_ok b, of_decide_eq_true d, recB_ok c⟩
theorem clsB_ok {C : Addr} (c : clsB K C = true) : L2.Cls K C := by
  obtain ⟨a, c⟩ := He.ba c; obtain ⟨b, c⟩ := He.ba c; obtain ⟨d, c⟩ := He.ba c
  exact ⟨a, b, d, He.eqO_ok c⟩
theorem cf_ok (c : clsAll K = true) : ClF K := by
  have one : ∀ d : Cl, clsB K d.adr = true ∧ ∀ f ∈ d.keys, He.eqO (PySem.W.findIn K (.ref d.adr) f) (some none) = true := fun d => by
    have := List.all_eq_true.mp c d (by cases d <;> simp)
    obtain ⟨a, b⟩ := He.ba this
    exact ⟨a, fun f hf => List.all_eq_true.mp b f hf⟩
  exact ⟨fun d => clsB_ok (one d).1, fun d f hf => He.eqO_ok ((one d).2 f hf)⟩
theorem xc0_ok (X : K.In h) (G : h.Ns mainGlobals mg) (c : xc0B K = true) (g : He.eqO (PySem.W.nsIn K mainGlobals "NotSound") (some (some (.ref 221))) = true) : Xc0 K mg "NotSound" 221 := by
  obtain ⟨a, c⟩ := He.ba c; obtain ⟨b, c⟩ := He.ba c; obtain ⟨d, c⟩ := He.ba c
  exact ⟨a, PySem.W.mg_of X G (He.eqO_ok g), b, of_decide_eq_true d, of_decide_eq_true c⟩
theorem bk_ok (c : bkB K = true) : BkF K 594 := by
  obtain ⟨a, c⟩ := He.ba c; obtain ⟨b, c⟩ := He.ba c; obtain ⟨d, c⟩ := He.ba c; obtain ⟨e, c⟩ := He.ba c; obtain ⟨f, c⟩ := He.ba c; obtain ⟨g, c⟩ := He.ba c
  exact ⟨He.eqO_ok a, He.eqO_ok b, of_decide_eq_true d, of_decide_eq_true e, of_decide_eq_true f, He.eqO_ok g, c⟩
theorem xoB_ok {C : Addr} {bm : List Value} {p : Addr → Bool → String → Bool} (c : xoB K C bm p = true) : ∃ nm q N bs sn sub ab col dd k0 k1 k2 k3 k5 newId hdct, K.lookup C = some (excClassObj nm q C N bs bm hdct sn sub ab col dd k0 k1 k2 k3 k5 newId) ∧ p N hdct newId = true := by
  unfold xoB at c
  split at c
  · rename_i t dd cd sl lk
    split at c
    · rename_i k0 k1 k2 k3 n k5 hs
      obtain ⟨e1, c1⟩ := He.ba c; obtain ⟨e2, c2⟩ := He.ba c1; obtain ⟨e3, c3⟩ := He.ba c2
      obtain ⟨nm, bs, mro, N, q, hdct, sn, sub, ab, col, hdel⟩ := cd
      obtain rfl := of_decide_eq_true e1
      have e5 : mro = .ref C :: bm := of_decide_eq_true e2
      have e6 : hdel = false := by simpa using e3
      subst e5 e6
      have es : sl = #[k0, k1, k2, k3, some (.builtin n), k5] := by
        apply Array.ext'
        rw [hs]
      subst es
      exact ⟨nm, q, N, bs, sn, sub, ab, col, dd, k0, k1, k2, k3, k5, n, hdct, lk, c3⟩
    · cases c
  · cases c
theorem bn_ok (c : bnB K = true) (b : BkF K 594) {f : Addr} (hf : BkF K f) : BkN K f := by
  obtain rfl : f = 594 := by
    have := hf.eq.symm.trans b.eq
    injection this with this; injection this with this; injection this
  obtain ⟨a, c⟩ := He.ba c
  obtain ⟨nm, q, N, bs, sn, sub, ab, col, dd, k0, k1, k2, k3, k5, newId, hdct, lk, p⟩ := xoB_ok a
  obtain ⟨p1, p⟩ := He.ba p; obtain ⟨p2, p3⟩ := He.ba p
  refine ⟨⟨nm, q, N, bs, sn, sub, ab, col, dd, k0, k1, k2, k3, k5, newId, hdct, lk, p1, He.eqO_ok p2, He.eqO_ok p3⟩, ?_⟩
  split at c
  · rename_i o ho
    exact ⟨o, ho, of_decide_eq_true c⟩
  · cases c
theorem tg_ok (c : tgB K = true) : XcI K 252 249 "given" := by
  obtain ⟨a, c⟩ := He.ba c; obtain ⟨b, c⟩ := He.ba c; obtain ⟨d, c⟩ := He.ba c; obtain ⟨e, c⟩ := He.ba c; obtain ⟨f, c⟩ := He.ba c; obtain ⟨g, c⟩ := He.ba c; obtain ⟨i, c⟩ := He.ba c
  obtain ⟨nm, q, N, bs, sn, sub, ab, col, dd, k0, k1, k2, k3, k5, newId, hdct, lk, p⟩ := xoB_ok a
  obtain ⟨p1, p2⟩ := He.ba p
  have p2 := of_decide_eq_true p2
  subst p1 p2
  exact ⟨⟨208, nm, q, N, bs, sn, sub, ab, col, dd, k0, k1, k2, k3, k5, lk⟩, He.eqO_ok b, He.eqO_ok d, He.eqO_ok e, of_decide_eq_true f, g, of_decide_eq_true i, of_decide_eq_true c⟩
theorem ch_ok (X : K.In h) (c : chB K = true) : PySem.W.CodeHd h 1204 1200 := by
  unfold chB at c
  split at c
  · rename_i cl dd vs sl lk
    obtain ⟨a, c⟩ := He.ba c; obtain ⟨b, c⟩ := He.ba c; obtain ⟨d, c⟩ := He.ba c; obtain ⟨e, c⟩ := He.ba c; obtain ⟨f, c⟩ := He.ba c; obtain ⟨g, c⟩ := He.ba c
    cases h1 : vs.getD 18 Value.none with
    | str file tf =>
      cases h2 : vs.getD 7 Value.none with
      | int flags tg =>
        cases h3 : vs.getD 9 Value.none with
        | bool inF =>
          cases h4 : vs.getD 10 Value.none with
          | int text tt => exact ⟨_, vs, file, tf, flags, tg, inF, text, tt, X _ _ lk, of_decide_eq_true a, rfl, of_decide_eq_true b, of_decide_eq_true d, h1, h2, h3, h4, by decide⟩
          | _ => rw [h4] at c; cases c
        | _ => rw [h3] at g; cases g
      | _ => rw [h2] at f; cases f
    | _ => rw [h1] at e; cases e
  · cases c
theorem fn_ok1 {d : FnRec} (e : fnA K d.adr = fnV d) (c : fnB K d = true) : ∃ fd, FunD K d.nm d.qual (defArgs d.st) (defBody d.st) (defScope d.st) [] [] d.adr fd := by
  obtain ⟨kp, c⟩ := He.ba c; obtain ⟨c, _⟩ := He.ba c
  unfold fnA at e
  cases q : K.lookup d.adr with
  | none => rw [q] at c; cases c
  | some o =>
    obtain ⟨oc, od, dt, osl⟩ := o
    rw [q] at c e
    cases dt with
    | func fd =>
      obtain ⟨n1, n2, n3, n4, n5, n6, n7, n8, n9, n10, n11, n12, n13, n14, n15⟩ := fd
      have e2 : (some (n1, n2, n3, n4, n5, n6, n7, n15) : He.FnW) = fnV d := e
      unfold fnV at e2
      simp only [Option.some.injEq, Prod.mk.injEq] at e2
      obtain ⟨h1, h2, h3, h4, h5, h6, h7, h8⟩ := e2
      subst h1 h2 h3 h4 h5 h6 h7 h8
      have c3 : (PySem.W.codeIn K n13 d.qual && (He.dflB K n8 [] && He.kwdB K n9 [])) = true := c
      obtain ⟨k1, k2⟩ := He.ba c3
      obtain ⟨k3, k4⟩ := He.ba k2
      exact ⟨_, ⟨oc, od, n8, n9, n10, n11, n12, n13, n14, osl, rfl, q, k1, He.dflB_ok k3, He.kwdB_ok k4⟩, kp⟩
    | _ => cases c
theorem fx (c : obsK K = valK) (i : Nat) {f : FB} (hf : fxs[i]? = some f := by rfl) : f K = true := by
  have c1 := (He.ba (show ((fxs.all fun f => f K) && fnTab.all fun d => fnB K d) = true from congrArg Prod.fst c)).1
  exact List.all_eq_true.mp c1 f (List.mem_of_getElem? hf)
theorem fb (c : obsK K = valK) {i : Nat} {d : FnRec} (hd : fnTab[i]? = some d) : fnB K d = true := by
  have c2 := (He.ba (show ((fxs.all fun f => f K) && fnTab.all fun d => fnB K d) = true from congrArg Prod.fst c)).2
  exact List.all_eq_true.mp c2 d (List.mem_of_getElem? hd)
theorem fn_fact (c : obsK K = valK) {i : Nat} {d : FnRec} (hd : fnTab[i]? = some d) : ∃ fd, FunD K d.nm d.qual (defArgs d.st) (defBody d.st) (defScope d.st) [] [] d.adr fd := by
  have e : (fnTab.map fun d => fnA K d.adr) = fnTab.map fnV := congrArg Prod.snd c
  have e2 : (fnTab.map fun d => fnA K d.adr)[i]? = (fnTab.map fnV)[i]? := by rw [e]
  rw [List.getElem?_map, List.getElem?_map, hd] at e2
  exact fn_ok1 (Option.some.inj e2) (fb c hd)
theorem g_fact (X : K.In h) (G : h.Ns mainGlobals mg) (c : obsK K = valK) {i : Nat} {d : FnRec} (hd : fnTab[i]? = some d) (hc : d.cls = none) : mg d.nm = some (.ref d.adr) := by
  obtain ⟨_, z⟩ := He.ba (fb c hd); obtain ⟨_, z⟩ := He.ba z
  rw [hc] at z
  exact PySem.W.mg_of X G (He.eqO_ok z)
theorem tx_ok (X : K.In h) (G : h.Ns mainGlobals mg) (c : obsK K = valK) : Tx K mg where
  f := fun i d h => fn_fact c h
  g := fun i d h hc => g_fact X G c h hc
  cf := (cf_ok (fx c 0))
  b_len := (free_ok X G (fx c 1))
  b_abs := (free_ok X G (fx c 2))
  b_sum := (free_ok X G (fx c 3))
  b_all := (free_ok X G (fx c 4))
  b_divmod := (free_ok X G (fx c 5))
  b_int := (free_ok X G (fx c 6))
  b_list := (free_ok X G (fx c 7))
  b_tuple := (free_ok X G (fx c 8))
  b_str := (free_ok X G (fx c 9))
  b_min := (free_ok X G (fx c 10))
  b_max := (free_ok X G (fx c 11))
  b_isinstance := (free_ok X G (fx c 12))
  b_bool := (free_ok X G (fx c 13))
  b_range := (free_ok X G (fx c 14))
  b_zip := (free_ok X G (fx c 15))
  b_enumerate := (free_ok X G (fx c 16))
  MOST_OUTCOMES := (He.int_ok X G (x := "MOST_OUTCOMES") (i := 6) (fx c 17))
  MOST_LISTED := (He.int_ok X G (x := "MOST_LISTED") (i := 5) (fx c 18))
  MOST_NUMBER := (He.int_ok X G (x := "MOST_NUMBER") (i := 1000) (fx c 19))
  MOST_QUOTES := (He.int_ok X G (x := "MOST_QUOTES") (i := 32) (fx c 20))
  MOST_TOP := (He.int_ok X G (x := "MOST_TOP") (i := 1000000000) (fx c 21))
  MOST_BOTTOM := (He.int_ok X G (x := "MOST_BOTTOM") (i := 1000000) (fx c 22))
  MOST_PRICE_TOP := (He.int_ok X G (x := "MOST_PRICE_TOP") (i := 1000000) (fx c 23))
  MOST_PRICE_BOTTOM := (He.int_ok X G (x := "MOST_PRICE_BOTTOM") (i := 1000) (fx c 24))
  g_Answer := (PySem.W.mg_of X G (He.eqO_ok (fx c 25)))
  g_Table := (PySem.W.mg_of X G (He.eqO_ok (fx c 26)))
  g_Book := (PySem.W.mg_of X G (He.eqO_ok (fx c 27)))
  g_Former := (PySem.W.mg_of X G (He.eqO_ok (fx c 28)))
  g_Trial := (PySem.W.mg_of X G (He.eqO_ok (fx c 29)))
  g_Desk := (PySem.W.mg_of X G (He.eqO_ok (fx c 30)))
  g_NotSound := (PySem.W.mg_of X G (He.eqO_ok (fx c 31)))
  g_TooGreat := (PySem.W.mg_of X G (He.eqO_ok (fx c 32)))
  k_Answer := (mk_ok (fx c 33))
  k_Table := (mk_ok (fx c 34))
  k_Book := (mk_ok (fx c 35))
  k_Former := (mk_ok (fx c 36))
  k_Trial := (mk_ok (fx c 37))
  k_Desk := (mk_ok (fx c 38))
  m_Table_entering := (meth_ok (fx c 39))
  m_Table_leaving := (meth_ok (fx c 40))
  m_Table_is_ahead := (meth_ok (fx c 41))
  m_Table_turn := (meth_ok (fx c 42))
  m_Table_numbers_now := (meth_ok (fx c 43))
  m_Table_way_of := (meth_ok (fx c 44))
  m_Table_multiples_now := (meth_ok (fx c 45))
  m_Book_with_quote := (meth_ok (fx c 46))
  m_Trial_enter := (meth_ok (fx c 47))
  m_Trial_exit := (meth_ok (fx c 48))
  m_Desk_put := (meth_ok (fx c 49))
  m_Desk_quote := (meth_ok (fx c 50))
  m_Desk_drop := (meth_ok (fx c 51))
  m_Desk_raise_to := (meth_ok (fx c 52))
  m_Desk_tighten := (meth_ok (fx c 53))
  m_Desk_news := (meth_ok (fx c 54))
  m_Desk_least := (meth_ok (fx c 55))
  m_Desk_greatest := (meth_ok (fx c 56))
  m_Desk_undo := (meth_ok (fx c 57))
  m_Desk_trial := (meth_ok (fx c 58))
  m_Desk_tried := (meth_ok (fx c 59))
  x_NotSound := (xc0_ok X G (fx c 60) (fx c 61))
  bk := (bk_ok (fx c 62))
  bn := fun f hf => bn_ok (fx c 63) (bk_ok (fx c 64)) hf
  p_Book_outcomes := (prop_ok (fx c 65))
  p_Book_quotes := (prop_ok (fx c 66))
  p_Desk_book := (prop_ok (fx c 67))
  p_Desk_is_sound := (prop_ok (fx c 68))
  p_Desk_changes := (prop_ok (fx c 69))
theorem ux_ok (X : K.In h) (G : h.Ns mainGlobals mg) (c : obsK K = valK) : Ux K mg where
  t := tx_ok X G c
  ex1 := fun C b hb => by
    obtain ⟨e1, _⟩ := He.ba (fx c 70)
    unfold fNS at hb
    split at hb
    · rename_i z; subst z; injection hb with hb; subst hb; exact of_decide_eq_true e1
    · cases hb
  ex2 := fun C b hb => by
    obtain ⟨_, e⟩ := He.ba (fx c 70)
    obtain ⟨e1, e2⟩ := He.ba e
    unfold fNT at hb
    split at hb
    · rename_i z; subst z; injection hb with hb; subst hb; exact of_decide_eq_true e1
    · split at hb
      · rename_i z; subst z; injection hb with hb; subst hb; exact of_decide_eq_true e2
      · cases hb
  tg := tg_ok (fx c 71)
theorem dr_ok (c : obsK K = valK) : ∃ fd, FunD K d__law_desk_right.nm d__law_desk_right.qual (defArgs d__law_desk_right.st) (defBody d__law_desk_right.st) (defScope d__law_desk_right.st) [] [] d__law_desk_right.adr fd ∧ fd.code = .ref 1204 := by
  obtain ⟨fd, F⟩ := fn_fact c (i := 140) (d := d__law_desk_right) rfl
  refine ⟨fd, F, ?_⟩
  obtain ⟨oc, od, dV, kV, doc, pm, an, cdv, ct, osl, e, lk, _, _, _⟩ := F.ex
  have z := fx c 72 (f := cdB)
  unfold cdB at z
  rw [lk] at z
  exact of_decide_eq_true z
theorem nt_ok (c : obsK K = valK) : K.lookup 1200 = none := by
  have z := fx c 74 (f := fun K => (K.lookup 1200).isNone)
  exact Option.isNone_iff_eq_none.mp z
theorem hd_ok (X : K.In h) (c : obsK K = valK) : PySem.W.CodeHd h 1204 1200 := ch_ok X (fx c 73 (f := chB))
theorem vx_ok {base : Heap} (X : K.In h) (G : h.Ns mainGlobals mg) (c : obsK K = valK) (tb : LamX.TabB base mg 1204 1200) : Vx K mg base := ⟨ux_ok X G c, dr_ok c, tb⟩
end
end SC
end

section
set_option maxHeartbeats 0
namespace SC
open PySem L2 DL
theorem isL_int {K : PySem.W.Frag} {F : Hp} : ∀ ns : List Int, IsL K F (ns.map D.int) (ns.map V.int)
  | [] => rfl
  | n :: ns => ⟨.int n, _, rfl, rfl, isL_int ns⟩
theorem law_sp {K : PySem.W.Frag} {H : Hp} {a : Addr} {ns : List Int} (hl : ns.length ≤ 63) (hT : H 1200 = some (.tbl #[])) (hS : SqL K H a (ns.map V.int)) : spM K 1 1 cLaw [.ref a] H (fun v _ => v = .bl true) fun _ _ _ => False := by
  have ex : Ex (fun b => if b = 1200 then none else H b) H := fun b o e => by
    have e : (if b = 1200 then none else H b) = some o := e
    by_cases z : b = 1200
    · rw [if_pos z] at e; cases e
    · rw [if_neg z] at e; exact e
  refine ⟨[1200], fun b => if b = 1200 then none else H b, [tabL], [scrD ns], fun d _ => d = .bl true, ⟨ex, rfl, by simp, fun b hb => ?_, fun n c b h1 h2 h3 => ?_⟩, rfl, ⟨.ref a, [], rfl, ⟨a, ns.map V.int, rfl, ?_, isL_int ns⟩, rfl⟩, rfl, ⟨ns, rfl, rfl, by omega, rfl⟩, fun d S' hd v F' H' g s' i => ?_⟩
  · rw [List.mem_singleton.mp hb, hT]
    exact fun z => by cases z
  · cases n with
    | zero =>
      simp at h1 h2
      subst h1 h2
      refine ⟨if_pos rfl, .tbl #[], _, hT, Ex.refl _, rfl, #[], rfl, trivial, fun pos cv hc => ?_⟩
      have z : codeAmong pos [] = some cv := hc
      simp [codeAmong] at z
    | succ n => simp at h1
  · rcases hS with hS | hS
    · have na : a ≠ 1200 := fun z => by
        subst z
        rcases hS with hS | ⟨o, hS⟩
        · rw [hT] at hS; cases hS
        · rw [hT] at hS; cases hS
      refine .inl ?_
      rcases hS with hS | ⟨o, hS⟩
      · exact .inl ((if_neg na).trans hS)
      · exact .inr ⟨o, (if_neg na).trans hS⟩
    · exact .inr hS
  · subst hd
    exact i
theorem law_at {w : World} {K : PySem.W.Frag} {h : Heap} {mg : Str → Option Value} {fa : Addr} (KX : K.In h) (G : h.Ns mainGlobals mg) (c : obsK K = valK) (t : h.get? 1200 = some tabO) (hmg : mg "law" = some (.ref fa)) :
    LamX.LawAtS PySem.Challenge.rw_softchances_k93_whole_sources_and_desks w K (L2.CX PySem.Challenge.rw_softchances_k93_whole_sources_and_desks.prog w) 16 63 "_law_script" mg fa h := by
  obtain ⟨fd, F⟩ := fn_fact c (i := 142) (d := d_law) rfl
  have e := g_fact KX G c (i := 142) (d := d_law) rfl rfl
  obtain rfl : fa = d_law.adr := by
    have z := hmg.symm.trans e
    injection z with z; injection z
  refine ⟨fd, [(1204, 1200)], spM K 1 1 cLaw, fun p hp => ?_, fun p hp => ?_, fun p hp => ?_, fun s u => ?_, fun H a ns hl _ hT hS => law_sp hl (hT (1204, 1200) (.head _)) hS, fun base hK hG hTB => ?_⟩
  · rw [List.mem_singleton.mp hp]; exact t
  · rw [List.mem_singleton.mp hp]; exact nt_ok c
  · rw [List.mem_singleton.mp hp]; exact hd_ok KX c
  · exact FunD.bindsA (ps := ["_law_script"]) F (fun _ _ _ _ _ _ us hl => match us, hl with | [_], _ => rfl) s [u] rfl
  · exact fn_ok F sc_law (fun _ _ _ _ h => (len_spM h).trans rfl) (bd_law (vx_ok KX G c (hTB (1204, 1200) (.head _)))) fun _ c _ _ _ _ h => up_spM c h
end SC
end

section
set_option maxHeartbeats 0
open PySem PySem.W PySem.Calls PyProof.Rows
theorem PySem.Challenge.cw_softchances_k93_whole_sources_and_desks_holds : PySem.Challenge.rw_softchances_k93_whole_sources_and_desks.Holds := by
  w_on; o_law
  refine HandSHeadRun.head_any (r := SC.R0) (q := SC.qv) (H := SC.hookS) (ob := SC.ob) (M := 12000) (loose := SC.names) (d := HandSHeadRun.topDef SC.R0.prog 135) (kwd := []) SC.ob_eq
    (by kernel_rfl) (fun s => by kernel_rfl) SC.run (by kernel_rfl) (by kernel_rfl) (by kernel_rfl) (by rfl) (by first | assumption | decide +kernel) (by decide +kernel) ⟨rfl, rfl, rfl, rfl, rfl, by decide +kernel⟩ ?hw ?hc
  case hw => w_witness2
  case hc =>
    refine LamX.walk_ofTsE (l := PySem.Challenge.rw_softchances_k93_whole_sources_and_desks) (n := 63) (k := 16) (x := "_law_script") (CX := fun w => L2.CX PySem.Challenge.rw_softchances_k93_whole_sources_and_desks.prog w) rfl (by decide) (by kernel_rfl) ⟨rfl, by decide, by decide⟩ ?F ?X
    case X =>
      rintro w H s e s' ⟨_, _, _, _, _, _, _, _, _, _, _, _, z⟩
      exact z.elim
    case F =>
      intro w mg fa h Y G hmg0
      obtain ⟨K, KX, c, t⟩ := Y
      have hmg : mg ("law" : PySem.Str) = some (.ref fa) := by
        have e : (HandSHeadRun.topDef SC.R0.prog 135).name = ("law" : PySem.Str) := by kernel_rfl
        rw [← e]
        exact hmg0
      exact ⟨K, KX, SC.law_at KX G c t hmg⟩
end
