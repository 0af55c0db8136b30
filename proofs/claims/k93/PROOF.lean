import PyProof.Rows.All
import Wide.All
import OpenK.AllK
import Wide.FinOn
import KE.KStateDown
import KE.DataMinMax
import Lean
import HandS.ForMost
import HandS.Exc
import HandS.TryOnly
import HandS.ExcOwn
import HandS.WordsExc
import HandS.IsInst
import HandS.Style
import HandS.Flow
import HandS.Property
import HandS.Deep
import HandS.SortRule
import HandS.SortInts
import HandS.Strs
import HandS.Conv
import HandS.FStr
import HandS.Wide
import HandS.Defaults
import HandS.ExcInit
import HandS.ExcInitHot
import HandS.SuiteRaise
import HandS.ExcIs
import HandS.HotCalls
import HandS.ExcCtx
import HandS.CallRecv
import HandS.Codes
import HandS.Walk
import HandS.Head0
import HandS.Head1
import HandS.Head2
import HandS.HeadEnd
import HandS.HeadHook1
import HandS.HeadHook2
import HandS.EndBits
import HandS.SortKw
import PyProof.ReprRoads
import PyProof.ReprBulk
import HandS.SetFor
import HandS.TupSets
import PySem.Challenge.RW_bearsmisses_k93_whole_books_are_schedule
set_option Elab.async false
set_option autoImplicit false
set_option maxRecDepth 100000
set_option maxHeartbeats 4000000
set_option linter.all false
namespace BW
open PySem PySem.Spec PyProof.Rows L2
/-! ### the text by places -/
def top (i : Nat) : Stmt := PySem.Challenge.pw_bearsmisses_k93_whole_books_are_schedule.main.body.getD i (.Pass ⟨0, 0, 0, 0⟩)
abbrev s_is_integer : Stmt := top 5
abbrev s_is_between : Stmt := top 6
abbrev s_is_price : Stmt := top 7
abbrev s_is_comparison : Stmt := top 8
abbrev s_ranks : Stmt := top 10
abbrev s_demands : Stmt := top 11
abbrev s_first_prices : Stmt := top 13
abbrev s_least_of : Stmt := top 14
abbrev s_column_after : Stmt := top 15
abbrev s_walk_prices : Stmt := top 16
abbrev s_walk_misses : Stmt := top 17
abbrev s_least_spoil : Stmt := top 18
abbrev s_with_unit_prices : Stmt := top 19
abbrev s_fewest_spoil : Stmt := top 21
abbrev s_borne_of : Stmt := top 22
abbrev s_borne_bearing : Stmt := top 23
abbrev s_spoiling_bearing : Stmt := top 25
abbrev s_cheapest_prices : Stmt := top 38
abbrev s_is_deed : Stmt := top 44
abbrev s_played : Stmt := top 46
abbrev s_law_bag : Stmt := top 49
abbrev s_law_take : Stmt := top 50
abbrev s_law_play : Stmt := top 51
abbrev s_law_new : Stmt := top 52
abbrev s_law_is_whole : Stmt := top 53
abbrev s_law_is_deed : Stmt := top 54
abbrev s_law_do : Stmt := top 55
abbrev s_law_replay : Stmt := top 56
abbrev s_law_deed : Stmt := top 57
abbrev s_law_ranks : Stmt := top 58
abbrev s_law_empty : Stmt := top 59
abbrev s_law_demands : Stmt := top 60
abbrev s_law_held : Stmt := top 61
abbrev s_law_is_spoil : Stmt := top 62
abbrev s_law_answers_right : Stmt := top 63
abbrev s_law_right : Stmt := top 64
abbrev s_law_one_right : Stmt := top 65
abbrev s_law_stepped : Stmt := top 66
abbrev s_law_later : Stmt := top 67
abbrev s_law_refused : Stmt := top 68
abbrev s_law_changed : Stmt := top 69
abbrev s_law : Stmt := top 70
abbrev s_TooMany_init : Stmt := inClass (top 32) 0
abbrev s_NoItems_init : Stmt := inClass (top 34) 0
abbrev s_Broken_init : Stmt := inClass (top 36) 0
abbrev s_Schedule_init : Stmt := inClass (top 41) 0
abbrev s_Schedule_places : Stmt := inClass (top 41) 2
abbrev s_Schedule_comparisons : Stmt := inClass (top 41) 3
abbrev s_Schedule_len : Stmt := inClass (top 41) 16
abbrev s_Schedule_repr : Stmt := inClass (top 41) 17
abbrev s_Line_init : Stmt := inClass (top 45) 0
abbrev s_Line_arrive : Stmt := inClass (top 45) 1
abbrev s_Line_serve : Stmt := inClass (top 45) 2
abbrev s_Line_compare : Stmt := inClass (top 45) 3
abbrev s_Line_do : Stmt := inClass (top 45) 4
abbrev s_Book_init : Stmt := inClass (top 47) 0
abbrev s_Book_do : Stmt := inClass (top 47) 1
abbrev s_Book_back : Stmt := inClass (top 47) 2
abbrev s_Book_again : Stmt := inClass (top 47) 3
abbrev s_Book_change : Stmt := inClass (top 47) 4
abbrev s_Book_insert : Stmt := inClass (top 47) 5
abbrev s_Book_remove : Stmt := inClass (top 47) 6
abbrev s_Book_mark : Stmt := inClass (top 47) 7
abbrev s_Book_need_items : Stmt := inClass (top 47) 13
abbrev s_Book_schedule : Stmt := inClass (top 47) 14
abbrev s_Book_order : Stmt := inClass (top 47) 15
abbrev s_Book_missed : Stmt := inClass (top 47) 16
abbrev s_Book_spoiling : Stmt := inClass (top 47) 17
abbrev s_Book_cheapest : Stmt := inClass (top 47) 18
abbrev s_Book_borne : Stmt := inClass (top 47) 19
abbrev FnP (K : PySem.W.Frag) (x qual : Str) (st : Stmt) (f : Addr) (fd : FuncData) : Prop := FunD K x qual (defArgs st) (defBody st) (defScope st) [] [] f fd
/-! ### what the head tells -/
def d_is_integer : He.DefD := ⟨("is_integer", none), "is_integer", "is_integer", defArgs s_is_integer, defBody s_is_integer, defScope s_is_integer, [], []⟩
def d_is_between : He.DefD := ⟨("is_between", none), "is_between", "is_between", defArgs s_is_between, defBody s_is_between, defScope s_is_between, [], []⟩
def d_is_price : He.DefD := ⟨("is_price", none), "is_price", "is_price", defArgs s_is_price, defBody s_is_price, defScope s_is_price, [], []⟩
def d_is_comparison : He.DefD := ⟨("is_comparison", none), "is_comparison", "is_comparison", defArgs s_is_comparison, defBody s_is_comparison, defScope s_is_comparison, [], []⟩
def d_ranks : He.DefD := ⟨("ranks", none), "ranks", "ranks", defArgs s_ranks, defBody s_ranks, defScope s_ranks, [], []⟩
def d_demands : He.DefD := ⟨("demands", none), "demands", "demands", defArgs s_demands, defBody s_demands, defScope s_demands, [], []⟩
def d_first_prices : He.DefD := ⟨("first_prices", none), "first_prices", "first_prices", defArgs s_first_prices, defBody s_first_prices, defScope s_first_prices, [], []⟩
def d_least_of : He.DefD := ⟨("least_of", none), "least_of", "least_of", defArgs s_least_of, defBody s_least_of, defScope s_least_of, [], []⟩
def d_column_after : He.DefD := ⟨("column_after", none), "column_after", "column_after", defArgs s_column_after, defBody s_column_after, defScope s_column_after, [], []⟩
def d_walk_prices : He.DefD := ⟨("walk_prices", none), "walk_prices", "walk_prices", defArgs s_walk_prices, defBody s_walk_prices, defScope s_walk_prices, [], []⟩
def d_walk_misses : He.DefD := ⟨("walk_misses", none), "walk_misses", "walk_misses", defArgs s_walk_misses, defBody s_walk_misses, defScope s_walk_misses, [], []⟩
def d_least_spoil : He.DefD := ⟨("least_spoil", none), "least_spoil", "least_spoil", defArgs s_least_spoil, defBody s_least_spoil, defScope s_least_spoil, [], []⟩
def d_with_unit_prices : He.DefD := ⟨("with_unit_prices", none), "with_unit_prices", "with_unit_prices", defArgs s_with_unit_prices, defBody s_with_unit_prices, defScope s_with_unit_prices, [], []⟩
def d_fewest_spoil : He.DefD := ⟨("fewest_spoil", none), "fewest_spoil", "fewest_spoil", defArgs s_fewest_spoil, defBody s_fewest_spoil, defScope s_fewest_spoil, [], []⟩
def d_borne_of : He.DefD := ⟨("borne_of", none), "borne_of", "borne_of", defArgs s_borne_of, defBody s_borne_of, defScope s_borne_of, [], []⟩
def d_borne_bearing : He.DefD := ⟨("borne_bearing", none), "borne", "borne", defArgs s_borne_bearing, defBody s_borne_bearing, defScope s_borne_bearing, [], []⟩
def d_spoiling_bearing : He.DefD := ⟨("spoiling_bearing", none), "spoiling", "spoiling", defArgs s_spoiling_bearing, defBody s_spoiling_bearing, defScope s_spoiling_bearing, [], []⟩
def d_cheapest_prices : He.DefD := ⟨("cheapest_prices", none), "cheapest", "cheapest", defArgs s_cheapest_prices, defBody s_cheapest_prices, defScope s_cheapest_prices, [], []⟩
def d_is_deed : He.DefD := ⟨("is_deed", none), "is_deed", "is_deed", defArgs s_is_deed, defBody s_is_deed, defScope s_is_deed, [], []⟩
def d_played : He.DefD := ⟨("played", none), "played", "played", defArgs s_played, defBody s_played, defScope s_played, [], []⟩
def d_law_bag : He.DefD := ⟨("_law_bag", none), "_law_bag", "_law_bag", defArgs s_law_bag, defBody s_law_bag, defScope s_law_bag, [], []⟩
def d_law_take : He.DefD := ⟨("_law_take", none), "_law_take", "_law_take", defArgs s_law_take, defBody s_law_take, defScope s_law_take, [], []⟩
def d_law_play : He.DefD := ⟨("_law_play", none), "_law_play", "_law_play", defArgs s_law_play, defBody s_law_play, defScope s_law_play, [], []⟩
def d_law_new : He.DefD := ⟨("_law_new", none), "_law_new", "_law_new", defArgs s_law_new, defBody s_law_new, defScope s_law_new, [], []⟩
def d_law_is_whole : He.DefD := ⟨("_law_is_whole", none), "_law_is_whole", "_law_is_whole", defArgs s_law_is_whole, defBody s_law_is_whole, defScope s_law_is_whole, [], []⟩
def d_law_is_deed : He.DefD := ⟨("_law_is_deed", none), "_law_is_deed", "_law_is_deed", defArgs s_law_is_deed, defBody s_law_is_deed, defScope s_law_is_deed, [], []⟩
def d_law_do : He.DefD := ⟨("_law_do", none), "_law_do", "_law_do", defArgs s_law_do, defBody s_law_do, defScope s_law_do, [], []⟩
def d_law_replay : He.DefD := ⟨("_law_replay", none), "_law_replay", "_law_replay", defArgs s_law_replay, defBody s_law_replay, defScope s_law_replay, [], []⟩
def d_law_deed : He.DefD := ⟨("_law_deed", none), "_law_deed", "_law_deed", defArgs s_law_deed, defBody s_law_deed, defScope s_law_deed, [], []⟩
def d_law_ranks : He.DefD := ⟨("_law_ranks", none), "_law_ranks", "_law_ranks", defArgs s_law_ranks, defBody s_law_ranks, defScope s_law_ranks, [], []⟩
def d_law_empty : He.DefD := ⟨("_law_empty", none), "_law_empty", "_law_empty", defArgs s_law_empty, defBody s_law_empty, defScope s_law_empty, [], []⟩
def d_law_demands : He.DefD := ⟨("_law_demands", none), "_law_demands", "_law_demands", defArgs s_law_demands, defBody s_law_demands, defScope s_law_demands, [], []⟩
def d_law_held : He.DefD := ⟨("_law_held", none), "_law_held", "_law_held", defArgs s_law_held, defBody s_law_held, defScope s_law_held, [], []⟩
def d_law_is_spoil : He.DefD := ⟨("_law_is_spoil", none), "_law_is_spoil", "_law_is_spoil", defArgs s_law_is_spoil, defBody s_law_is_spoil, defScope s_law_is_spoil, [], []⟩
def d_law_answers_right : He.DefD := ⟨("_law_answers_right", none), "_law_answers_right", "_law_answers_right", defArgs s_law_answers_right, defBody s_law_answers_right, defScope s_law_answers_right, [], []⟩
def d_law_right : He.DefD := ⟨("_law_right", none), "_law_right", "_law_right", defArgs s_law_right, defBody s_law_right, defScope s_law_right, [], []⟩
def d_law_one_right : He.DefD := ⟨("_law_one_right", none), "_law_one_right", "_law_one_right", defArgs s_law_one_right, defBody s_law_one_right, defScope s_law_one_right, [], []⟩
def d_law_stepped : He.DefD := ⟨("_law_stepped", none), "_law_stepped", "_law_stepped", defArgs s_law_stepped, defBody s_law_stepped, defScope s_law_stepped, [], []⟩
def d_law_later : He.DefD := ⟨("_law_later", none), "_law_later", "_law_later", defArgs s_law_later, defBody s_law_later, defScope s_law_later, [], []⟩
def d_law_refused : He.DefD := ⟨("_law_refused", none), "_law_refused", "_law_refused", defArgs s_law_refused, defBody s_law_refused, defScope s_law_refused, [], []⟩
def d_law_changed : He.DefD := ⟨("_law_changed", none), "_law_changed", "_law_changed", defArgs s_law_changed, defBody s_law_changed, defScope s_law_changed, [], []⟩
def d_law : He.DefD := ⟨("law", none), "law", "law", defArgs s_law, defBody s_law, defScope s_law, [], []⟩
def d_TooMany_init : He.DefD := ⟨("TooMany", some "__init__"), "__init__", "TooMany.__init__", defArgs s_TooMany_init, defBody s_TooMany_init, defScope s_TooMany_init, [], []⟩
def d_NoItems_init : He.DefD := ⟨("NoItems", some "__init__"), "__init__", "NoItems.__init__", defArgs s_NoItems_init, defBody s_NoItems_init, defScope s_NoItems_init, [], []⟩
def d_Broken_init : He.DefD := ⟨("Broken", some "__init__"), "__init__", "Broken.__init__", defArgs s_Broken_init, defBody s_Broken_init, defScope s_Broken_init, [], []⟩
def d_Schedule_init : He.DefD := ⟨("Schedule", some "__init__"), "__init__", "Schedule.__init__", defArgs s_Schedule_init, defBody s_Schedule_init, defScope s_Schedule_init, [], []⟩
def d_Schedule_places : He.DefD := ⟨("Schedule", some "places"), "places", "Schedule.places", defArgs s_Schedule_places, defBody s_Schedule_places, defScope s_Schedule_places, [], []⟩
def d_Schedule_comparisons : He.DefD := ⟨("Schedule", some "comparisons"), "comparisons", "Schedule.comparisons", defArgs s_Schedule_comparisons, defBody s_Schedule_comparisons, defScope s_Schedule_comparisons, [], []⟩
def d_Schedule_len : He.DefD := ⟨("Schedule", some "__len__"), "__len__", "Schedule.__len__", defArgs s_Schedule_len, defBody s_Schedule_len, defScope s_Schedule_len, [], []⟩
def d_Schedule_repr : He.DefD := ⟨("Schedule", some "__repr__"), "__repr__", "Schedule.__repr__", defArgs s_Schedule_repr, defBody s_Schedule_repr, defScope s_Schedule_repr, [], []⟩
def d_Line_init : He.DefD := ⟨("Line", some "__init__"), "__init__", "Line.__init__", defArgs s_Line_init, defBody s_Line_init, defScope s_Line_init, [], []⟩
def d_Line_arrive : He.DefD := ⟨("Line", some "arrive"), "arrive", "Line.arrive", defArgs s_Line_arrive, defBody s_Line_arrive, defScope s_Line_arrive, [], []⟩
def d_Line_serve : He.DefD := ⟨("Line", some "serve"), "serve", "Line.serve", defArgs s_Line_serve, defBody s_Line_serve, defScope s_Line_serve, [], []⟩
def d_Line_compare : He.DefD := ⟨("Line", some "compare"), "compare", "Line.compare", defArgs s_Line_compare, defBody s_Line_compare, defScope s_Line_compare, [], []⟩
def d_Line_do : He.DefD := ⟨("Line", some "do"), "do", "Line.do", defArgs s_Line_do, defBody s_Line_do, defScope s_Line_do, [], []⟩
def d_Book_init : He.DefD := ⟨("Book", some "__init__"), "__init__", "Book.__init__", defArgs s_Book_init, defBody s_Book_init, defScope s_Book_init, [], []⟩
def d_Book_do : He.DefD := ⟨("Book", some "do"), "do", "Book.do", defArgs s_Book_do, defBody s_Book_do, defScope s_Book_do, [], []⟩
def d_Book_back : He.DefD := ⟨("Book", some "back"), "back", "Book.back", defArgs s_Book_back, defBody s_Book_back, defScope s_Book_back, [], []⟩
def d_Book_again : He.DefD := ⟨("Book", some "again"), "again", "Book.again", defArgs s_Book_again, defBody s_Book_again, defScope s_Book_again, [], []⟩
def d_Book_change : He.DefD := ⟨("Book", some "change"), "change", "Book.change", defArgs s_Book_change, defBody s_Book_change, defScope s_Book_change, [], []⟩
def d_Book_insert : He.DefD := ⟨("Book", some "insert"), "insert", "Book.insert", defArgs s_Book_insert, defBody s_Book_insert, defScope s_Book_insert, [], []⟩
def d_Book_remove : He.DefD := ⟨("Book", some "remove"), "remove", "Book.remove", defArgs s_Book_remove, defBody s_Book_remove, defScope s_Book_remove, [], []⟩
def d_Book_mark : He.DefD := ⟨("Book", some "mark"), "mark", "Book.mark", defArgs s_Book_mark, defBody s_Book_mark, defScope s_Book_mark, [], []⟩
def d_Book_need_items : He.DefD := ⟨("Book", some "need_items"), "need_items", "Book.need_items", defArgs s_Book_need_items, defBody s_Book_need_items, defScope s_Book_need_items, [], []⟩
def d_Book_schedule : He.DefD := ⟨("Book", some "schedule"), "schedule", "Book.schedule", defArgs s_Book_schedule, defBody s_Book_schedule, defScope s_Book_schedule, [], []⟩
def d_Book_order : He.DefD := ⟨("Book", some "order"), "order", "Book.order", defArgs s_Book_order, defBody s_Book_order, defScope s_Book_order, [], []⟩
def d_Book_missed : He.DefD := ⟨("Book", some "missed"), "missed", "Book.missed", defArgs s_Book_missed, defBody s_Book_missed, defScope s_Book_missed, [], []⟩
def d_Book_spoiling : He.DefD := ⟨("Book", some "spoiling"), "spoiling", "Book.spoiling", defArgs s_Book_spoiling, defBody s_Book_spoiling, defScope s_Book_spoiling, [], []⟩
def d_Book_cheapest : He.DefD := ⟨("Book", some "cheapest"), "cheapest", "Book.cheapest", defArgs s_Book_cheapest, defBody s_Book_cheapest, defScope s_Book_cheapest, [], []⟩
def d_Book_borne : He.DefD := ⟨("Book", some "borne"), "borne", "Book.borne", defArgs s_Book_borne, defBody s_Book_borne, defScope s_Book_borne, [], []⟩
def fn0 : List He.DefD := [d_is_integer, d_is_between, d_is_price, d_is_comparison, d_ranks, d_demands, d_first_prices, d_least_of, d_column_after, d_walk_prices, d_walk_misses, d_least_spoil, d_with_unit_prices, d_fewest_spoil, d_borne_of, d_borne_bearing, d_spoiling_bearing, d_cheapest_prices, d_is_deed, d_played, d_law_bag, d_law_take, d_law_play, d_law_new, d_law_is_whole, d_law_is_deed, d_law_do, d_law_replay, d_law_deed, d_law_ranks]
def fn1 : List He.DefD := [d_law_empty, d_law_demands, d_law_held, d_law_is_spoil, d_law_answers_right, d_law_right, d_law_one_right, d_law_stepped, d_law_later, d_law_refused, d_law_changed, d_law, d_TooMany_init, d_NoItems_init, d_Broken_init, d_Schedule_init, d_Schedule_comparisons, d_Schedule_len, d_Schedule_repr, d_Line_init, d_Line_arrive, d_Line_serve, d_Line_compare, d_Line_do, d_Book_init, d_Book_do, d_Book_back, d_Book_again, d_Book_change, d_Book_insert]
def fn2 : List He.DefD := [d_Book_remove, d_Book_mark, d_Book_need_items, d_Book_schedule, d_Book_order, d_Book_missed, d_Book_spoiling, d_Book_cheapest, d_Book_borne]
def fn : List He.DefD := fn0 ++ (fn1 ++ (fn2))
def fa0 : List He.Fa := [.glo "is_integer", .glo "is_between", .glo "is_price", .glo "is_comparison", .glo "ranks", .glo "demands", .glo "first_prices", .glo "least_of", .glo "column_after", .glo "walk_prices", .glo "walk_misses", .glo "least_spoil", .glo "with_unit_prices", .glo "fewest_spoil", .glo "borne_of", .glo "borne_bearing", .glo "spoiling_bearing", .glo "cheapest_prices", .glo "is_deed", .glo "played", .glo "_law_bag", .glo "_law_take", .glo "_law_play", .glo "_law_new", .glo "_law_is_whole", .glo "_law_is_deed", .glo "_law_do", .glo "_law_replay", .glo "_law_deed", .glo "_law_ranks"]
def fa1 : List He.Fa := [.glo "_law_empty", .glo "_law_demands", .glo "_law_held", .glo "_law_is_spoil", .glo "_law_answers_right", .glo "_law_right", .glo "_law_one_right", .glo "_law_stepped", .glo "_law_later", .glo "_law_refused", .glo "_law_changed", .glo "law", .glo "LineError", .glo "NoDeed", .glo "Nothing", .glo "TooMany", .glo "NoItems", .glo "Broken", .glo "Schedule", .glo "Line", .glo "Book", .free "len", .free "isinstance", .free "int", .free "bool", .free "tuple", .free "list", .free "str", .free "dict", .free "sorted"]
def fa2 : List He.Fa := [.free "enumerate", .free "range", .free "min", .free "max", .free "abs", .free "all", .free "sum", .free "set", .free "repr", .int "MAX_PLACES" (12), .int "MAX_COMPARISONS" (400), .int "MAX_PRICE" (10 ^ 18), .int "MAX_DEEDS" (200), .cls "Schedule", .mkr "Schedule", .noat "Schedule" "place_count", .noat "Schedule" "rows", .meth "Schedule" "comparisons", .meth "Schedule" "__len__", .meth "Schedule" "__repr__", .cls "Line", .mkr "Line", .noat "Line" "worths", .noat "Line" "standing", .noat "Line" "gone", .noat "Line" "rows", .noat "Line" "left_out", .meth "Line" "arrive", .meth "Line" "serve", .meth "Line" "compare"]
def fa3 : List He.Fa := [.meth "Line" "do", .cls "Book", .mkr "Book", .noat "Book" "deeds", .noat "Book" "later", .noat "Book" "line", .meth "Book" "do", .meth "Book" "back", .meth "Book" "again", .meth "Book" "change", .meth "Book" "insert", .meth "Book" "remove", .meth "Book" "mark", .meth "Book" "need_items", .meth "Book" "schedule", .meth "Book" "order", .meth "Book" "missed", .meth "Book" "spoiling", .meth "Book" "cheapest", .meth "Book" "borne", .exm "TooMany" "LineError" true, .exm "NoItems" "LineError" true, .exm "Broken" "LineError" true]
def fa : List He.Fa := fa0 ++ (fa1 ++ (fa2 ++ (fa3)))
/-- what LineError.__init__(self) asks -/
structure LeIni (K : PySem.W.Frag) (CL : Addr) : Prop where
  sg : PySem.W.specialIn K (.ref CL) "__getattribute__" = some (some (.builtin "type.__getattribute__"))
  ty : PySem.W.typeIn K (.ref CL) = some (.type "type")
  rd : PySem.W.readsIn K CL (.type "type") = true
  fi : PySem.W.findCls K (.ref CL) (.type "type") "__init__" = some (.val (.builtin "ValueError.__init__"))
/-- an own error class with its own __init__ -/
structure OexF (K : PySem.W.Frag) (x : Str) : Prop where
  c : OexC K (He.ga K x)
  i : PySem.W.findIn K (.ref (He.ga K x)) "__init__" = some (some (.ref (He.ma K (He.ga K x) "__init__")))
  t : PySem.W.typeIn K (.ref (He.ma K (He.ga K x) "__init__")) = some (.type "function")
/-- what isinstance(x, C) asks, x an object of C -/
structure InsT (K : PySem.W.Frag) (C : Addr) : Prop where
  ha : PySem.W.findIn K (.ref C) "__class__" = some (some (.builtin "object.__class__"))
  hn : PySem.W.specialIn K (.builtin "object.__class__") "__get__" = some (some (.builtin "getset_descriptor.__get__"))
  htk : PySem.W.takesIn K (.builtin "object.__class__") = some true
  hm : PySem.W.mroIn K C (.type "object") = some true
/-- what the head tells beyond the facts by names -/
structure TxX (K : PySem.W.Frag) : Prop where
  le : LeIni K (He.ga K "LineError")
  sch : InsT K (He.ga K "Schedule")
  tm : OexF K "TooMany"
  ni : OexF K "NoItems"
  br : OexF K "Broken"
  fl : PySem.W.findIn K (.ref (He.ga K "TooMany")) "limit" = some none
  xni : ExcC K (He.ga K "NoItems")
  kd : PySem.W.kitOne K (.ref (He.ga K "NoItems")) (.ref (He.ga K "NoDeed")) = some false
  kn : PySem.W.kitOne K (.ref (He.ga K "NoItems")) (.ref (He.ga K "Nothing")) = some false
  fat : PySem.W.findIn K (.ref (He.ga K "Broken")) "at" = some none
  places : ∃ (p g : Addr) (fd : FuncData), PropOf K (He.ga K "Schedule") "places" p g ∧ FnP K "places" "Schedule.places" s_Schedule_places g fd
/-- what all walks lean on -/
structure Tx (K : PySem.W.Frag) (mg : Str → Option Value) : Prop where
  s : He.SaysD fa fn K
  h : ∃ h : Heap, K.In h ∧ h.Ns mainGlobals mg
  x : TxX K
namespace Tx
variable {K : PySem.W.Frag} {mg : Str → Option Value} (T : Tx K mg)
include T
theorem g_is_integer : mg "is_integer" = some (.ref (He.ga K "is_integer")) := by
  obtain ⟨h, X, G⟩ := T.h
  exact He.glo_ok X G (T.s.fact 0 (f := .glo "is_integer") rfl)
theorem g_is_between : mg "is_between" = some (.ref (He.ga K "is_between")) := by
  obtain ⟨h, X, G⟩ := T.h
  exact He.glo_ok X G (T.s.fact 1 (f := .glo "is_between") rfl)
theorem g_is_price : mg "is_price" = some (.ref (He.ga K "is_price")) := by
  obtain ⟨h, X, G⟩ := T.h
  exact He.glo_ok X G (T.s.fact 2 (f := .glo "is_price") rfl)
theorem g_is_comparison : mg "is_comparison" = some (.ref (He.ga K "is_comparison")) := by
  obtain ⟨h, X, G⟩ := T.h
  exact He.glo_ok X G (T.s.fact 3 (f := .glo "is_comparison") rfl)
theorem g_ranks : mg "ranks" = some (.ref (He.ga K "ranks")) := by
  obtain ⟨h, X, G⟩ := T.h
  exact He.glo_ok X G (T.s.fact 4 (f := .glo "ranks") rfl)
theorem g_demands : mg "demands" = some (.ref (He.ga K "demands")) := by
  obtain ⟨h, X, G⟩ := T.h
  exact He.glo_ok X G (T.s.fact 5 (f := .glo "demands") rfl)
theorem g_first_prices : mg "first_prices" = some (.ref (He.ga K "first_prices")) := by
  obtain ⟨h, X, G⟩ := T.h
  exact He.glo_ok X G (T.s.fact 6 (f := .glo "first_prices") rfl)
theorem g_least_of : mg "least_of" = some (.ref (He.ga K "least_of")) := by
  obtain ⟨h, X, G⟩ := T.h
  exact He.glo_ok X G (T.s.fact 7 (f := .glo "least_of") rfl)
theorem g_column_after : mg "column_after" = some (.ref (He.ga K "column_after")) := by
  obtain ⟨h, X, G⟩ := T.h
  exact He.glo_ok X G (T.s.fact 8 (f := .glo "column_after") rfl)
theorem g_walk_prices : mg "walk_prices" = some (.ref (He.ga K "walk_prices")) := by
  obtain ⟨h, X, G⟩ := T.h
  exact He.glo_ok X G (T.s.fact 9 (f := .glo "walk_prices") rfl)
theorem g_walk_misses : mg "walk_misses" = some (.ref (He.ga K "walk_misses")) := by
  obtain ⟨h, X, G⟩ := T.h
  exact He.glo_ok X G (T.s.fact 10 (f := .glo "walk_misses") rfl)
theorem g_least_spoil : mg "least_spoil" = some (.ref (He.ga K "least_spoil")) := by
  obtain ⟨h, X, G⟩ := T.h
  exact He.glo_ok X G (T.s.fact 11 (f := .glo "least_spoil") rfl)
theorem g_with_unit_prices : mg "with_unit_prices" = some (.ref (He.ga K "with_unit_prices")) := by
  obtain ⟨h, X, G⟩ := T.h
  exact He.glo_ok X G (T.s.fact 12 (f := .glo "with_unit_prices") rfl)
theorem g_fewest_spoil : mg "fewest_spoil" = some (.ref (He.ga K "fewest_spoil")) := by
  obtain ⟨h, X, G⟩ := T.h
  exact He.glo_ok X G (T.s.fact 13 (f := .glo "fewest_spoil") rfl)
theorem g_borne_of : mg "borne_of" = some (.ref (He.ga K "borne_of")) := by
  obtain ⟨h, X, G⟩ := T.h
  exact He.glo_ok X G (T.s.fact 14 (f := .glo "borne_of") rfl)
theorem g_borne_bearing : mg "borne_bearing" = some (.ref (He.ga K "borne_bearing")) := by
  obtain ⟨h, X, G⟩ := T.h
  exact He.glo_ok X G (T.s.fact 15 (f := .glo "borne_bearing") rfl)
theorem g_spoiling_bearing : mg "spoiling_bearing" = some (.ref (He.ga K "spoiling_bearing")) := by
  obtain ⟨h, X, G⟩ := T.h
  exact He.glo_ok X G (T.s.fact 16 (f := .glo "spoiling_bearing") rfl)
theorem g_cheapest_prices : mg "cheapest_prices" = some (.ref (He.ga K "cheapest_prices")) := by
  obtain ⟨h, X, G⟩ := T.h
  exact He.glo_ok X G (T.s.fact 17 (f := .glo "cheapest_prices") rfl)
theorem g_is_deed : mg "is_deed" = some (.ref (He.ga K "is_deed")) := by
  obtain ⟨h, X, G⟩ := T.h
  exact He.glo_ok X G (T.s.fact 18 (f := .glo "is_deed") rfl)
theorem g_played : mg "played" = some (.ref (He.ga K "played")) := by
  obtain ⟨h, X, G⟩ := T.h
  exact He.glo_ok X G (T.s.fact 19 (f := .glo "played") rfl)
theorem g_law_bag : mg "_law_bag" = some (.ref (He.ga K "_law_bag")) := by
  obtain ⟨h, X, G⟩ := T.h
  exact He.glo_ok X G (T.s.fact 20 (f := .glo "_law_bag") rfl)
theorem g_law_take : mg "_law_take" = some (.ref (He.ga K "_law_take")) := by
  obtain ⟨h, X, G⟩ := T.h
  exact He.glo_ok X G (T.s.fact 21 (f := .glo "_law_take") rfl)
theorem g_law_play : mg "_law_play" = some (.ref (He.ga K "_law_play")) := by
  obtain ⟨h, X, G⟩ := T.h
  exact He.glo_ok X G (T.s.fact 22 (f := .glo "_law_play") rfl)
theorem g_law_new : mg "_law_new" = some (.ref (He.ga K "_law_new")) := by
  obtain ⟨h, X, G⟩ := T.h
  exact He.glo_ok X G (T.s.fact 23 (f := .glo "_law_new") rfl)
theorem g_law_is_whole : mg "_law_is_whole" = some (.ref (He.ga K "_law_is_whole")) := by
  obtain ⟨h, X, G⟩ := T.h
  exact He.glo_ok X G (T.s.fact 24 (f := .glo "_law_is_whole") rfl)
theorem g_law_is_deed : mg "_law_is_deed" = some (.ref (He.ga K "_law_is_deed")) := by
  obtain ⟨h, X, G⟩ := T.h
  exact He.glo_ok X G (T.s.fact 25 (f := .glo "_law_is_deed") rfl)
theorem g_law_do : mg "_law_do" = some (.ref (He.ga K "_law_do")) := by
  obtain ⟨h, X, G⟩ := T.h
  exact He.glo_ok X G (T.s.fact 26 (f := .glo "_law_do") rfl)
theorem g_law_replay : mg "_law_replay" = some (.ref (He.ga K "_law_replay")) := by
  obtain ⟨h, X, G⟩ := T.h
  exact He.glo_ok X G (T.s.fact 27 (f := .glo "_law_replay") rfl)
theorem g_law_deed : mg "_law_deed" = some (.ref (He.ga K "_law_deed")) := by
  obtain ⟨h, X, G⟩ := T.h
  exact He.glo_ok X G (T.s.fact 28 (f := .glo "_law_deed") rfl)
theorem g_law_ranks : mg "_law_ranks" = some (.ref (He.ga K "_law_ranks")) := by
  obtain ⟨h, X, G⟩ := T.h
  exact He.glo_ok X G (T.s.fact 29 (f := .glo "_law_ranks") rfl)
theorem g_law_empty : mg "_law_empty" = some (.ref (He.ga K "_law_empty")) := by
  obtain ⟨h, X, G⟩ := T.h
  exact He.glo_ok X G (T.s.fact 30 (f := .glo "_law_empty") rfl)
theorem g_law_demands : mg "_law_demands" = some (.ref (He.ga K "_law_demands")) := by
  obtain ⟨h, X, G⟩ := T.h
  exact He.glo_ok X G (T.s.fact 31 (f := .glo "_law_demands") rfl)
theorem g_law_held : mg "_law_held" = some (.ref (He.ga K "_law_held")) := by
  obtain ⟨h, X, G⟩ := T.h
  exact He.glo_ok X G (T.s.fact 32 (f := .glo "_law_held") rfl)
theorem g_law_is_spoil : mg "_law_is_spoil" = some (.ref (He.ga K "_law_is_spoil")) := by
  obtain ⟨h, X, G⟩ := T.h
  exact He.glo_ok X G (T.s.fact 33 (f := .glo "_law_is_spoil") rfl)
theorem g_law_answers_right : mg "_law_answers_right" = some (.ref (He.ga K "_law_answers_right")) := by
  obtain ⟨h, X, G⟩ := T.h
  exact He.glo_ok X G (T.s.fact 34 (f := .glo "_law_answers_right") rfl)
theorem g_law_right : mg "_law_right" = some (.ref (He.ga K "_law_right")) := by
  obtain ⟨h, X, G⟩ := T.h
  exact He.glo_ok X G (T.s.fact 35 (f := .glo "_law_right") rfl)
theorem g_law_one_right : mg "_law_one_right" = some (.ref (He.ga K "_law_one_right")) := by
  obtain ⟨h, X, G⟩ := T.h
  exact He.glo_ok X G (T.s.fact 36 (f := .glo "_law_one_right") rfl)
theorem g_law_stepped : mg "_law_stepped" = some (.ref (He.ga K "_law_stepped")) := by
  obtain ⟨h, X, G⟩ := T.h
  exact He.glo_ok X G (T.s.fact 37 (f := .glo "_law_stepped") rfl)
theorem g_law_later : mg "_law_later" = some (.ref (He.ga K "_law_later")) := by
  obtain ⟨h, X, G⟩ := T.h
  exact He.glo_ok X G (T.s.fact 38 (f := .glo "_law_later") rfl)
theorem g_law_refused : mg "_law_refused" = some (.ref (He.ga K "_law_refused")) := by
  obtain ⟨h, X, G⟩ := T.h
  exact He.glo_ok X G (T.s.fact 39 (f := .glo "_law_refused") rfl)
theorem g_law_changed : mg "_law_changed" = some (.ref (He.ga K "_law_changed")) := by
  obtain ⟨h, X, G⟩ := T.h
  exact He.glo_ok X G (T.s.fact 40 (f := .glo "_law_changed") rfl)
theorem g_law : mg "law" = some (.ref (He.ga K "law")) := by
  obtain ⟨h, X, G⟩ := T.h
  exact He.glo_ok X G (T.s.fact 41 (f := .glo "law") rfl)
theorem g_LineError : mg "LineError" = some (.ref (He.ga K "LineError")) := by
  obtain ⟨h, X, G⟩ := T.h
  exact He.glo_ok X G (T.s.fact 42 (f := .glo "LineError") rfl)
theorem g_NoDeed : mg "NoDeed" = some (.ref (He.ga K "NoDeed")) := by
  obtain ⟨h, X, G⟩ := T.h
  exact He.glo_ok X G (T.s.fact 43 (f := .glo "NoDeed") rfl)
theorem g_Nothing : mg "Nothing" = some (.ref (He.ga K "Nothing")) := by
  obtain ⟨h, X, G⟩ := T.h
  exact He.glo_ok X G (T.s.fact 44 (f := .glo "Nothing") rfl)
theorem g_TooMany : mg "TooMany" = some (.ref (He.ga K "TooMany")) := by
  obtain ⟨h, X, G⟩ := T.h
  exact He.glo_ok X G (T.s.fact 45 (f := .glo "TooMany") rfl)
theorem g_NoItems : mg "NoItems" = some (.ref (He.ga K "NoItems")) := by
  obtain ⟨h, X, G⟩ := T.h
  exact He.glo_ok X G (T.s.fact 46 (f := .glo "NoItems") rfl)
theorem g_Broken : mg "Broken" = some (.ref (He.ga K "Broken")) := by
  obtain ⟨h, X, G⟩ := T.h
  exact He.glo_ok X G (T.s.fact 47 (f := .glo "Broken") rfl)
theorem g_Schedule : mg "Schedule" = some (.ref (He.ga K "Schedule")) := by
  obtain ⟨h, X, G⟩ := T.h
  exact He.glo_ok X G (T.s.fact 48 (f := .glo "Schedule") rfl)
theorem g_Line : mg "Line" = some (.ref (He.ga K "Line")) := by
  obtain ⟨h, X, G⟩ := T.h
  exact He.glo_ok X G (T.s.fact 49 (f := .glo "Line") rfl)
theorem g_Book : mg "Book" = some (.ref (He.ga K "Book")) := by
  obtain ⟨h, X, G⟩ := T.h
  exact He.glo_ok X G (T.s.fact 50 (f := .glo "Book") rfl)
theorem n_len : mg "len" = none := by
  obtain ⟨h, X, G⟩ := T.h
  exact He.free_ok X G (T.s.fact 51 (f := .free "len") rfl)
theorem n_isinstance : mg "isinstance" = none := by
  obtain ⟨h, X, G⟩ := T.h
  exact He.free_ok X G (T.s.fact 52 (f := .free "isinstance") rfl)
theorem n_int : mg "int" = none := by
  obtain ⟨h, X, G⟩ := T.h
  exact He.free_ok X G (T.s.fact 53 (f := .free "int") rfl)
theorem n_bool : mg "bool" = none := by
  obtain ⟨h, X, G⟩ := T.h
  exact He.free_ok X G (T.s.fact 54 (f := .free "bool") rfl)
theorem n_tuple : mg "tuple" = none := by
  obtain ⟨h, X, G⟩ := T.h
  exact He.free_ok X G (T.s.fact 55 (f := .free "tuple") rfl)
theorem n_list : mg "list" = none := by
  obtain ⟨h, X, G⟩ := T.h
  exact He.free_ok X G (T.s.fact 56 (f := .free "list") rfl)
theorem n_str : mg "str" = none := by
  obtain ⟨h, X, G⟩ := T.h
  exact He.free_ok X G (T.s.fact 57 (f := .free "str") rfl)
theorem n_dict : mg "dict" = none := by
  obtain ⟨h, X, G⟩ := T.h
  exact He.free_ok X G (T.s.fact 58 (f := .free "dict") rfl)
theorem n_sorted : mg "sorted" = none := by
  obtain ⟨h, X, G⟩ := T.h
  exact He.free_ok X G (T.s.fact 59 (f := .free "sorted") rfl)
theorem n_enumerate : mg "enumerate" = none := by
  obtain ⟨h, X, G⟩ := T.h
  exact He.free_ok X G (T.s.fact 60 (f := .free "enumerate") rfl)
theorem n_range : mg "range" = none := by
  obtain ⟨h, X, G⟩ := T.h
  exact He.free_ok X G (T.s.fact 61 (f := .free "range") rfl)
theorem n_min : mg "min" = none := by
  obtain ⟨h, X, G⟩ := T.h
  exact He.free_ok X G (T.s.fact 62 (f := .free "min") rfl)
theorem n_max : mg "max" = none := by
  obtain ⟨h, X, G⟩ := T.h
  exact He.free_ok X G (T.s.fact 63 (f := .free "max") rfl)
theorem n_abs : mg "abs" = none := by
  obtain ⟨h, X, G⟩ := T.h
  exact He.free_ok X G (T.s.fact 64 (f := .free "abs") rfl)
theorem n_all : mg "all" = none := by
  obtain ⟨h, X, G⟩ := T.h
  exact He.free_ok X G (T.s.fact 65 (f := .free "all") rfl)
theorem n_sum : mg "sum" = none := by
  obtain ⟨h, X, G⟩ := T.h
  exact He.free_ok X G (T.s.fact 66 (f := .free "sum") rfl)
theorem n_set : mg "set" = none := by
  obtain ⟨h, X, G⟩ := T.h
  exact He.free_ok X G (T.s.fact 67 (f := .free "set") rfl)
theorem n_repr : mg "repr" = none := by
  obtain ⟨h, X, G⟩ := T.h
  exact He.free_ok X G (T.s.fact 68 (f := .free "repr") rfl)
theorem i_MAX_PLACES : ∃ t, mg "MAX_PLACES" = some (.int (12) t) := by
  obtain ⟨h, X, G⟩ := T.h
  exact He.int_ok X G (T.s.fact 69 (f := .int "MAX_PLACES" (12)) rfl)
theorem i_MAX_COMPARISONS : ∃ t, mg "MAX_COMPARISONS" = some (.int (400) t) := by
  obtain ⟨h, X, G⟩ := T.h
  exact He.int_ok X G (T.s.fact 70 (f := .int "MAX_COMPARISONS" (400)) rfl)
theorem i_MAX_PRICE : ∃ t, mg "MAX_PRICE" = some (.int (10 ^ 18) t) := by
  obtain ⟨h, X, G⟩ := T.h
  exact He.int_ok X G (T.s.fact 71 (f := .int "MAX_PRICE" (10 ^ 18)) rfl)
theorem i_MAX_DEEDS : ∃ t, mg "MAX_DEEDS" = some (.int (200) t) := by
  obtain ⟨h, X, G⟩ := T.h
  exact He.int_ok X G (T.s.fact 72 (f := .int "MAX_DEEDS" (200)) rfl)
theorem c_Schedule : Cls K (He.ga K "Schedule") := He.cls_ok (T.s.fact 73 (f := .cls "Schedule") rfl)
theorem k_Schedule : Mk K (He.ga K "Schedule") (He.ma K (He.ga K "Schedule") "__init__") := He.mkr_ok (T.s.fact 74 (f := .mkr "Schedule") rfl)
theorem a_Schedule_place_count : NoAttr K (He.ga K "Schedule") "place_count" := He.noat_ok (T.s.fact 75 (f := .noat "Schedule" "place_count") rfl)
theorem a_Schedule_rows : NoAttr K (He.ga K "Schedule") "rows" := He.noat_ok (T.s.fact 76 (f := .noat "Schedule" "rows") rfl)
theorem m_Schedule_comparisons : Meth K (He.ga K "Schedule") "comparisons" (He.ma K (He.ga K "Schedule") "comparisons") := He.meth_ok (T.s.fact 77 (f := .meth "Schedule" "comparisons") rfl)
theorem m_Schedule_len : Meth K (He.ga K "Schedule") "__len__" (He.ma K (He.ga K "Schedule") "__len__") := He.meth_ok (T.s.fact 78 (f := .meth "Schedule" "__len__") rfl)
theorem m_Schedule_repr : Meth K (He.ga K "Schedule") "__repr__" (He.ma K (He.ga K "Schedule") "__repr__") := He.meth_ok (T.s.fact 79 (f := .meth "Schedule" "__repr__") rfl)
theorem c_Line : Cls K (He.ga K "Line") := He.cls_ok (T.s.fact 80 (f := .cls "Line") rfl)
theorem k_Line : Mk K (He.ga K "Line") (He.ma K (He.ga K "Line") "__init__") := He.mkr_ok (T.s.fact 81 (f := .mkr "Line") rfl)
theorem a_Line_worths : NoAttr K (He.ga K "Line") "worths" := He.noat_ok (T.s.fact 82 (f := .noat "Line" "worths") rfl)
theorem a_Line_standing : NoAttr K (He.ga K "Line") "standing" := He.noat_ok (T.s.fact 83 (f := .noat "Line" "standing") rfl)
theorem a_Line_gone : NoAttr K (He.ga K "Line") "gone" := He.noat_ok (T.s.fact 84 (f := .noat "Line" "gone") rfl)
theorem a_Line_rows : NoAttr K (He.ga K "Line") "rows" := He.noat_ok (T.s.fact 85 (f := .noat "Line" "rows") rfl)
theorem a_Line_left_out : NoAttr K (He.ga K "Line") "left_out" := He.noat_ok (T.s.fact 86 (f := .noat "Line" "left_out") rfl)
theorem m_Line_arrive : Meth K (He.ga K "Line") "arrive" (He.ma K (He.ga K "Line") "arrive") := He.meth_ok (T.s.fact 87 (f := .meth "Line" "arrive") rfl)
theorem m_Line_serve : Meth K (He.ga K "Line") "serve" (He.ma K (He.ga K "Line") "serve") := He.meth_ok (T.s.fact 88 (f := .meth "Line" "serve") rfl)
theorem m_Line_compare : Meth K (He.ga K "Line") "compare" (He.ma K (He.ga K "Line") "compare") := He.meth_ok (T.s.fact 89 (f := .meth "Line" "compare") rfl)
theorem m_Line_do : Meth K (He.ga K "Line") "do" (He.ma K (He.ga K "Line") "do") := He.meth_ok (T.s.fact 90 (f := .meth "Line" "do") rfl)
theorem c_Book : Cls K (He.ga K "Book") := He.cls_ok (T.s.fact 91 (f := .cls "Book") rfl)
theorem k_Book : Mk K (He.ga K "Book") (He.ma K (He.ga K "Book") "__init__") := He.mkr_ok (T.s.fact 92 (f := .mkr "Book") rfl)
theorem a_Book_deeds : NoAttr K (He.ga K "Book") "deeds" := He.noat_ok (T.s.fact 93 (f := .noat "Book" "deeds") rfl)
theorem a_Book_later : NoAttr K (He.ga K "Book") "later" := He.noat_ok (T.s.fact 94 (f := .noat "Book" "later") rfl)
theorem a_Book_line : NoAttr K (He.ga K "Book") "line" := He.noat_ok (T.s.fact 95 (f := .noat "Book" "line") rfl)
theorem m_Book_do : Meth K (He.ga K "Book") "do" (He.ma K (He.ga K "Book") "do") := He.meth_ok (T.s.fact 96 (f := .meth "Book" "do") rfl)
theorem m_Book_back : Meth K (He.ga K "Book") "back" (He.ma K (He.ga K "Book") "back") := He.meth_ok (T.s.fact 97 (f := .meth "Book" "back") rfl)
theorem m_Book_again : Meth K (He.ga K "Book") "again" (He.ma K (He.ga K "Book") "again") := He.meth_ok (T.s.fact 98 (f := .meth "Book" "again") rfl)
theorem m_Book_change : Meth K (He.ga K "Book") "change" (He.ma K (He.ga K "Book") "change") := He.meth_ok (T.s.fact 99 (f := .meth "Book" "change") rfl)
theorem m_Book_insert : Meth K (He.ga K "Book") "insert" (He.ma K (He.ga K "Book") "insert") := He.meth_ok (T.s.fact 100 (f := .meth "Book" "insert") rfl)
theorem m_Book_remove : Meth K (He.ga K "Book") "remove" (He.ma K (He.ga K "Book") "remove") := He.meth_ok (T.s.fact 101 (f := .meth "Book" "remove") rfl)
theorem m_Book_mark : Meth K (He.ga K "Book") "mark" (He.ma K (He.ga K "Book") "mark") := He.meth_ok (T.s.fact 102 (f := .meth "Book" "mark") rfl)
theorem m_Book_need_items : Meth K (He.ga K "Book") "need_items" (He.ma K (He.ga K "Book") "need_items") := He.meth_ok (T.s.fact 103 (f := .meth "Book" "need_items") rfl)
theorem m_Book_schedule : Meth K (He.ga K "Book") "schedule" (He.ma K (He.ga K "Book") "schedule") := He.meth_ok (T.s.fact 104 (f := .meth "Book" "schedule") rfl)
theorem m_Book_order : Meth K (He.ga K "Book") "order" (He.ma K (He.ga K "Book") "order") := He.meth_ok (T.s.fact 105 (f := .meth "Book" "order") rfl)
theorem m_Book_missed : Meth K (He.ga K "Book") "missed" (He.ma K (He.ga K "Book") "missed") := He.meth_ok (T.s.fact 106 (f := .meth "Book" "missed") rfl)
theorem m_Book_spoiling : Meth K (He.ga K "Book") "spoiling" (He.ma K (He.ga K "Book") "spoiling") := He.meth_ok (T.s.fact 107 (f := .meth "Book" "spoiling") rfl)
theorem m_Book_cheapest : Meth K (He.ga K "Book") "cheapest" (He.ma K (He.ga K "Book") "cheapest") := He.meth_ok (T.s.fact 108 (f := .meth "Book" "cheapest") rfl)
theorem m_Book_borne : Meth K (He.ga K "Book") "borne" (He.ma K (He.ga K "Book") "borne") := He.meth_ok (T.s.fact 109 (f := .meth "Book" "borne") rfl)
theorem e_TooMany : PySem.W.exmOne K (.ref (He.ga K "TooMany")) (.ref (He.ga K "LineError")) = some true := He.exm_ok (T.s.fact 110 (f := .exm "TooMany" "LineError" true) rfl)
theorem e_NoItems : PySem.W.exmOne K (.ref (He.ga K "NoItems")) (.ref (He.ga K "LineError")) = some true := He.exm_ok (T.s.fact 111 (f := .exm "NoItems" "LineError" true) rfl)
theorem e_Broken : PySem.W.exmOne K (.ref (He.ga K "Broken")) (.ref (He.ga K "LineError")) = some true := He.exm_ok (T.s.fact 112 (f := .exm "Broken" "LineError" true) rfl)
theorem f_is_integer : ∃ fd, FnP K "is_integer" "is_integer" s_is_integer (He.ga K "is_integer") fd := T.s.def_ 0 (d := d_is_integer) rfl
theorem f_is_between : ∃ fd, FnP K "is_between" "is_between" s_is_between (He.ga K "is_between") fd := T.s.def_ 1 (d := d_is_between) rfl
theorem f_is_price : ∃ fd, FnP K "is_price" "is_price" s_is_price (He.ga K "is_price") fd := T.s.def_ 2 (d := d_is_price) rfl
theorem f_is_comparison : ∃ fd, FnP K "is_comparison" "is_comparison" s_is_comparison (He.ga K "is_comparison") fd := T.s.def_ 3 (d := d_is_comparison) rfl
theorem f_ranks : ∃ fd, FnP K "ranks" "ranks" s_ranks (He.ga K "ranks") fd := T.s.def_ 4 (d := d_ranks) rfl
theorem f_demands : ∃ fd, FnP K "demands" "demands" s_demands (He.ga K "demands") fd := T.s.def_ 5 (d := d_demands) rfl
theorem f_first_prices : ∃ fd, FnP K "first_prices" "first_prices" s_first_prices (He.ga K "first_prices") fd := T.s.def_ 6 (d := d_first_prices) rfl
theorem f_least_of : ∃ fd, FnP K "least_of" "least_of" s_least_of (He.ga K "least_of") fd := T.s.def_ 7 (d := d_least_of) rfl
theorem f_column_after : ∃ fd, FnP K "column_after" "column_after" s_column_after (He.ga K "column_after") fd := T.s.def_ 8 (d := d_column_after) rfl
theorem f_walk_prices : ∃ fd, FnP K "walk_prices" "walk_prices" s_walk_prices (He.ga K "walk_prices") fd := T.s.def_ 9 (d := d_walk_prices) rfl
theorem f_walk_misses : ∃ fd, FnP K "walk_misses" "walk_misses" s_walk_misses (He.ga K "walk_misses") fd := T.s.def_ 10 (d := d_walk_misses) rfl
theorem f_least_spoil : ∃ fd, FnP K "least_spoil" "least_spoil" s_least_spoil (He.ga K "least_spoil") fd := T.s.def_ 11 (d := d_least_spoil) rfl
theorem f_with_unit_prices : ∃ fd, FnP K "with_unit_prices" "with_unit_prices" s_with_unit_prices (He.ga K "with_unit_prices") fd := T.s.def_ 12 (d := d_with_unit_prices) rfl
theorem f_fewest_spoil : ∃ fd, FnP K "fewest_spoil" "fewest_spoil" s_fewest_spoil (He.ga K "fewest_spoil") fd := T.s.def_ 13 (d := d_fewest_spoil) rfl
theorem f_borne_of : ∃ fd, FnP K "borne_of" "borne_of" s_borne_of (He.ga K "borne_of") fd := T.s.def_ 14 (d := d_borne_of) rfl
theorem f_borne_bearing : ∃ fd, FnP K "borne" "borne" s_borne_bearing (He.ga K "borne_bearing") fd := T.s.def_ 15 (d := d_borne_bearing) rfl
theorem f_spoiling_bearing : ∃ fd, FnP K "spoiling" "spoiling" s_spoiling_bearing (He.ga K "spoiling_bearing") fd := T.s.def_ 16 (d := d_spoiling_bearing) rfl
theorem f_cheapest_prices : ∃ fd, FnP K "cheapest" "cheapest" s_cheapest_prices (He.ga K "cheapest_prices") fd := T.s.def_ 17 (d := d_cheapest_prices) rfl
theorem f_is_deed : ∃ fd, FnP K "is_deed" "is_deed" s_is_deed (He.ga K "is_deed") fd := T.s.def_ 18 (d := d_is_deed) rfl
theorem f_played : ∃ fd, FnP K "played" "played" s_played (He.ga K "played") fd := T.s.def_ 19 (d := d_played) rfl
theorem f_law_bag : ∃ fd, FnP K "_law_bag" "_law_bag" s_law_bag (He.ga K "_law_bag") fd := T.s.def_ 20 (d := d_law_bag) rfl
theorem f_law_take : ∃ fd, FnP K "_law_take" "_law_take" s_law_take (He.ga K "_law_take") fd := T.s.def_ 21 (d := d_law_take) rfl
theorem f_law_play : ∃ fd, FnP K "_law_play" "_law_play" s_law_play (He.ga K "_law_play") fd := T.s.def_ 22 (d := d_law_play) rfl
theorem f_law_new : ∃ fd, FnP K "_law_new" "_law_new" s_law_new (He.ga K "_law_new") fd := T.s.def_ 23 (d := d_law_new) rfl
theorem f_law_is_whole : ∃ fd, FnP K "_law_is_whole" "_law_is_whole" s_law_is_whole (He.ga K "_law_is_whole") fd := T.s.def_ 24 (d := d_law_is_whole) rfl
theorem f_law_is_deed : ∃ fd, FnP K "_law_is_deed" "_law_is_deed" s_law_is_deed (He.ga K "_law_is_deed") fd := T.s.def_ 25 (d := d_law_is_deed) rfl
theorem f_law_do : ∃ fd, FnP K "_law_do" "_law_do" s_law_do (He.ga K "_law_do") fd := T.s.def_ 26 (d := d_law_do) rfl
theorem f_law_replay : ∃ fd, FnP K "_law_replay" "_law_replay" s_law_replay (He.ga K "_law_replay") fd := T.s.def_ 27 (d := d_law_replay) rfl
theorem f_law_deed : ∃ fd, FnP K "_law_deed" "_law_deed" s_law_deed (He.ga K "_law_deed") fd := T.s.def_ 28 (d := d_law_deed) rfl
theorem f_law_ranks : ∃ fd, FnP K "_law_ranks" "_law_ranks" s_law_ranks (He.ga K "_law_ranks") fd := T.s.def_ 29 (d := d_law_ranks) rfl
theorem f_law_empty : ∃ fd, FnP K "_law_empty" "_law_empty" s_law_empty (He.ga K "_law_empty") fd := T.s.def_ 30 (d := d_law_empty) rfl
theorem f_law_demands : ∃ fd, FnP K "_law_demands" "_law_demands" s_law_demands (He.ga K "_law_demands") fd := T.s.def_ 31 (d := d_law_demands) rfl
theorem f_law_held : ∃ fd, FnP K "_law_held" "_law_held" s_law_held (He.ga K "_law_held") fd := T.s.def_ 32 (d := d_law_held) rfl
theorem f_law_is_spoil : ∃ fd, FnP K "_law_is_spoil" "_law_is_spoil" s_law_is_spoil (He.ga K "_law_is_spoil") fd := T.s.def_ 33 (d := d_law_is_spoil) rfl
theorem f_law_answers_right : ∃ fd, FnP K "_law_answers_right" "_law_answers_right" s_law_answers_right (He.ga K "_law_answers_right") fd := T.s.def_ 34 (d := d_law_answers_right) rfl
theorem f_law_right : ∃ fd, FnP K "_law_right" "_law_right" s_law_right (He.ga K "_law_right") fd := T.s.def_ 35 (d := d_law_right) rfl
theorem f_law_one_right : ∃ fd, FnP K "_law_one_right" "_law_one_right" s_law_one_right (He.ga K "_law_one_right") fd := T.s.def_ 36 (d := d_law_one_right) rfl
theorem f_law_stepped : ∃ fd, FnP K "_law_stepped" "_law_stepped" s_law_stepped (He.ga K "_law_stepped") fd := T.s.def_ 37 (d := d_law_stepped) rfl
theorem f_law_later : ∃ fd, FnP K "_law_later" "_law_later" s_law_later (He.ga K "_law_later") fd := T.s.def_ 38 (d := d_law_later) rfl
theorem f_law_refused : ∃ fd, FnP K "_law_refused" "_law_refused" s_law_refused (He.ga K "_law_refused") fd := T.s.def_ 39 (d := d_law_refused) rfl
theorem f_law_changed : ∃ fd, FnP K "_law_changed" "_law_changed" s_law_changed (He.ga K "_law_changed") fd := T.s.def_ 40 (d := d_law_changed) rfl
theorem f_law : ∃ fd, FnP K "law" "law" s_law (He.ga K "law") fd := T.s.def_ 41 (d := d_law) rfl
theorem f_TooMany_init : ∃ fd, FnP K "__init__" "TooMany.__init__" s_TooMany_init (He.ma K (He.ga K "TooMany") "__init__") fd := T.s.def_ 42 (d := d_TooMany_init) rfl
theorem f_NoItems_init : ∃ fd, FnP K "__init__" "NoItems.__init__" s_NoItems_init (He.ma K (He.ga K "NoItems") "__init__") fd := T.s.def_ 43 (d := d_NoItems_init) rfl
theorem f_Broken_init : ∃ fd, FnP K "__init__" "Broken.__init__" s_Broken_init (He.ma K (He.ga K "Broken") "__init__") fd := T.s.def_ 44 (d := d_Broken_init) rfl
theorem f_Schedule_init : ∃ fd, FnP K "__init__" "Schedule.__init__" s_Schedule_init (He.ma K (He.ga K "Schedule") "__init__") fd := T.s.def_ 45 (d := d_Schedule_init) rfl
theorem f_Schedule_comparisons : ∃ fd, FnP K "comparisons" "Schedule.comparisons" s_Schedule_comparisons (He.ma K (He.ga K "Schedule") "comparisons") fd := T.s.def_ 46 (d := d_Schedule_comparisons) rfl
theorem f_Schedule_len : ∃ fd, FnP K "__len__" "Schedule.__len__" s_Schedule_len (He.ma K (He.ga K "Schedule") "__len__") fd := T.s.def_ 47 (d := d_Schedule_len) rfl
theorem f_Schedule_repr : ∃ fd, FnP K "__repr__" "Schedule.__repr__" s_Schedule_repr (He.ma K (He.ga K "Schedule") "__repr__") fd := T.s.def_ 48 (d := d_Schedule_repr) rfl
theorem f_Line_init : ∃ fd, FnP K "__init__" "Line.__init__" s_Line_init (He.ma K (He.ga K "Line") "__init__") fd := T.s.def_ 49 (d := d_Line_init) rfl
theorem f_Line_arrive : ∃ fd, FnP K "arrive" "Line.arrive" s_Line_arrive (He.ma K (He.ga K "Line") "arrive") fd := T.s.def_ 50 (d := d_Line_arrive) rfl
theorem f_Line_serve : ∃ fd, FnP K "serve" "Line.serve" s_Line_serve (He.ma K (He.ga K "Line") "serve") fd := T.s.def_ 51 (d := d_Line_serve) rfl
theorem f_Line_compare : ∃ fd, FnP K "compare" "Line.compare" s_Line_compare (He.ma K (He.ga K "Line") "compare") fd := T.s.def_ 52 (d := d_Line_compare) rfl
theorem f_Line_do : ∃ fd, FnP K "do" "Line.do" s_Line_do (He.ma K (He.ga K "Line") "do") fd := T.s.def_ 53 (d := d_Line_do) rfl
theorem f_Book_init : ∃ fd, FnP K "__init__" "Book.__init__" s_Book_init (He.ma K (He.ga K "Book") "__init__") fd := T.s.def_ 54 (d := d_Book_init) rfl
theorem f_Book_do : ∃ fd, FnP K "do" "Book.do" s_Book_do (He.ma K (He.ga K "Book") "do") fd := T.s.def_ 55 (d := d_Book_do) rfl
theorem f_Book_back : ∃ fd, FnP K "back" "Book.back" s_Book_back (He.ma K (He.ga K "Book") "back") fd := T.s.def_ 56 (d := d_Book_back) rfl
theorem f_Book_again : ∃ fd, FnP K "again" "Book.again" s_Book_again (He.ma K (He.ga K "Book") "again") fd := T.s.def_ 57 (d := d_Book_again) rfl
theorem f_Book_change : ∃ fd, FnP K "change" "Book.change" s_Book_change (He.ma K (He.ga K "Book") "change") fd := T.s.def_ 58 (d := d_Book_change) rfl
theorem f_Book_insert : ∃ fd, FnP K "insert" "Book.insert" s_Book_insert (He.ma K (He.ga K "Book") "insert") fd := T.s.def_ 59 (d := d_Book_insert) rfl
theorem f_Book_remove : ∃ fd, FnP K "remove" "Book.remove" s_Book_remove (He.ma K (He.ga K "Book") "remove") fd := T.s.def_ 60 (d := d_Book_remove) rfl
theorem f_Book_mark : ∃ fd, FnP K "mark" "Book.mark" s_Book_mark (He.ma K (He.ga K "Book") "mark") fd := T.s.def_ 61 (d := d_Book_mark) rfl
theorem f_Book_need_items : ∃ fd, FnP K "need_items" "Book.need_items" s_Book_need_items (He.ma K (He.ga K "Book") "need_items") fd := T.s.def_ 62 (d := d_Book_need_items) rfl
theorem f_Book_schedule : ∃ fd, FnP K "schedule" "Book.schedule" s_Book_schedule (He.ma K (He.ga K "Book") "schedule") fd := T.s.def_ 63 (d := d_Book_schedule) rfl
theorem f_Book_order : ∃ fd, FnP K "order" "Book.order" s_Book_order (He.ma K (He.ga K "Book") "order") fd := T.s.def_ 64 (d := d_Book_order) rfl
theorem f_Book_missed : ∃ fd, FnP K "missed" "Book.missed" s_Book_missed (He.ma K (He.ga K "Book") "missed") fd := T.s.def_ 65 (d := d_Book_missed) rfl
theorem f_Book_spoiling : ∃ fd, FnP K "spoiling" "Book.spoiling" s_Book_spoiling (He.ma K (He.ga K "Book") "spoiling") fd := T.s.def_ 66 (d := d_Book_spoiling) rfl
theorem f_Book_cheapest : ∃ fd, FnP K "cheapest" "Book.cheapest" s_Book_cheapest (He.ma K (He.ga K "Book") "cheapest") fd := T.s.def_ 67 (d := d_Book_cheapest) rfl
theorem f_Book_borne : ∃ fd, FnP K "borne" "Book.borne" s_Book_borne (He.ma K (He.ga K "Book") "borne") fd := T.s.def_ 68 (d := d_Book_borne) rfl
end Tx
end BW
namespace BW
open PySem PySem.Spec PyProof.Rows L2
/-! ### the checks behind TxX -/
def okSub (r : Option PySem.W.CFound) (z : String) : Bool := match r with
  | some (.val (.builtin y)) => decide (y = z)
  | _ => false
theorem okSub_eq {r : Option PySem.W.CFound} {z : String} (h : okSub r z = true) : r = some (.val (.builtin z)) := by
  unfold okSub at h
  split at h
  · rw [of_decide_eq_true h]
  · cases h
abbrev oB (a b : Option (Option Value)) : Bool := He.eqO a b
def leB (K : PySem.W.Frag) (CL : Addr) : Bool :=
  oB (PySem.W.specialIn K (.ref CL) "__getattribute__") (some (some (.builtin "type.__getattribute__"))) &&
  (decide (PySem.W.typeIn K (.ref CL) = some (.type "type")) && (PySem.W.readsIn K CL (.type "type") && okSub (PySem.W.findCls K (.ref CL) (.type "type") "__init__") "ValueError.__init__"))
theorem leB_ok {K : PySem.W.Frag} {CL : Addr} (h : leB K CL = true) : LeIni K CL := by
  obtain ⟨a, h⟩ := He.ba h
  obtain ⟨b, h⟩ := He.ba h
  obtain ⟨c, d⟩ := He.ba h
  exact ⟨He.eqO_ok a, of_decide_eq_true b, c, okSub_eq d⟩
def inB (K : PySem.W.Frag) (C : Addr) : Bool :=
  oB (PySem.W.findIn K (.ref C) "__class__") (some (some (.builtin "object.__class__"))) &&
  (oB (PySem.W.specialIn K (.builtin "object.__class__") "__get__") (some (some (.builtin "getset_descriptor.__get__"))) &&
  (decide (PySem.W.takesIn K (.builtin "object.__class__") = some true) && decide (PySem.W.mroIn K C (.type "object") = some true)))
theorem inB_ok {K : PySem.W.Frag} {C : Addr} (h : inB K C = true) : InsT K C := by
  obtain ⟨a, h⟩ := He.ba h
  obtain ⟨b, h⟩ := He.ba h
  obtain ⟨c, d⟩ := He.ba h
  exact ⟨He.eqO_ok a, He.eqO_ok b, of_decide_eq_true c, of_decide_eq_true d⟩
def cdB (C : Addr) (cd : ClassData) (sl : List (Option Value)) : Bool := match cd.mro, sl with
  | .ref D :: bm, [_, _, _, _, some (.builtin y), _] => decide (D = C) && (decide (y = "ValueError.__new__") && (!cd.hasDel && (cd.hasDict && PySem.HandSPX.refsVE bm)))
  | _, _ => false
def oxB (K : PySem.W.Frag) (C : Addr) : Bool := match K.lookup C with
  | some ⟨.type y, _, .cls cd, sl⟩ => decide (y = "type") && cdB C cd sl.toList
  | _ => false
theorem cdB_ok {C : Addr} {cd : ClassData} {sl : List (Option Value)} (h : cdB C cd sl = true) : ∃ bm k0 k1 k2 k3 k5, cd.mro = .ref C :: bm ∧ sl = [k0, k1, k2, k3, some (.builtin "ValueError.__new__"), k5] ∧ cd.hasDel = false ∧ cd.hasDict = true ∧ PySem.HandSPX.refsVE bm = true := by
  unfold cdB at h
  split at h
  · rename_i D bm k0 k1 k2 k3 y k5 em
    obtain ⟨a, h⟩ := He.ba h
    obtain ⟨b, h⟩ := He.ba h
    obtain ⟨c, h⟩ := He.ba h
    obtain ⟨d, e⟩ := He.ba h
    refine ⟨bm, k0, k1, k2, k3, k5, ?_, ?_, ?_, d, e⟩
    · rw [em, of_decide_eq_true a]
    · rw [of_decide_eq_true b]
    · simpa using c
  · cases h
theorem oxB_ok {K : PySem.W.Frag} {C : Addr} (h : oxB K C = true) : ∃ nm q N bs bm sn sub ab col dd k0 k1 k2 k3 k5, K.lookup C = some (excClassObj nm q C N bs bm true sn sub ab col dd k0 k1 k2 k3 k5 "ValueError.__new__") ∧ PySem.HandSPX.refsVE bm = true := by
  unfold oxB at h
  split at h
  · rename_i y dd cd sl lk
    obtain ⟨a, h⟩ := He.ba h
    obtain rfl := of_decide_eq_true a
    obtain ⟨bm, k0, k1, k2, k3, k5, em, es, hd, hh, rv⟩ := cdB_ok h
    cases cd
    cases sl
    simp only at em es hd hh
    subst em es hd hh
    exact ⟨_, _, _, _, bm, _, _, _, _, dd, k0, k1, k2, k3, k5, lk, rv⟩
  · cases h
def exB (K : PySem.W.Frag) (x : Str) : Bool :=
  oxB K (He.ga K x) && (oB (PySem.W.findIn K (.ref (He.ga K x)) "__setattr__") (some (some (.builtin "object.__setattr__"))) &&
  (decide (PySem.W.subIn K (.ref (He.ga K x)) (.type "BaseException") = some true) && (decide (PySem.W.typeIn K (.ref (He.ga K x)) = some (.type "type")) && (PySem.W.keepIn K (.ref (He.ga K x)) &&
  (oB (PySem.W.findIn K (.ref (He.ga K x)) "__init__") (some (some (.ref (He.ma K (He.ga K x) "__init__")))) && decide (PySem.W.typeIn K (.ref (He.ma K (He.ga K x) "__init__")) = some (.type "function")))))))
theorem exB_ok {K : PySem.W.Frag} {x : Str} (h : exB K x = true) : OexF K x := by
  obtain ⟨a, h⟩ := He.ba h
  obtain ⟨b, h⟩ := He.ba h
  obtain ⟨c, h⟩ := He.ba h
  obtain ⟨d, h⟩ := He.ba h
  obtain ⟨e, h⟩ := He.ba h
  obtain ⟨f, g⟩ := He.ba h
  exact ⟨⟨oxB_ok a, He.eqO_ok b, of_decide_eq_true c, of_decide_eq_true d, e⟩, He.eqO_ok f, of_decide_eq_true g⟩
def ecB (K : PySem.W.Frag) (D : Addr) : Bool :=
  oB (PySem.W.findIn K (.ref D) "__getattribute__") (some (some (.builtin "BaseException.__getattribute__"))) && (oB (PySem.W.findIn K (.ref D) "__getattr__") (some none) &&
  (decide (PySem.W.subIn K (.ref D) (.type "BaseException") = some true) && (PySem.W.hasDictIn K D && inB K D)))
theorem ecB_ok {K : PySem.W.Frag} {D : Addr} (h : ecB K D = true) : ExcC K D := by
  obtain ⟨a, h⟩ := He.ba h
  obtain ⟨b, h⟩ := He.ba h
  obtain ⟨c, h⟩ := He.ba h
  obtain ⟨d, e⟩ := He.ba h
  have i := inB_ok e
  exact ⟨He.eqO_ok a, He.eqO_ok b, of_decide_eq_true c, d, i.ha, i.hn, i.htk, i.hm⟩
/-! the property -/
def plA (K : PySem.W.Frag) : Addr := He.ma K (He.ga K "Schedule") "places"
def plG (K : PySem.W.Frag) : Addr := match PySem.W.recIn K (plA K) "property" with
  | some (.ref g :: _) => g
  | _ => 0
def plB (K : PySem.W.Frag) : Bool :=
  oB (PySem.W.findIn K (.ref (He.ga K "Schedule")) "places") (some (some (.ref (plA K)))) && (oB (PySem.W.specialIn K (.ref (plA K)) "__get__") (some (some (.builtin "property.__get__"))) && (decide (PySem.W.takesIn K (.ref (plA K)) = some true) &&
  ((match PySem.W.recIn K (plA K) "property" with
    | some (.ref _ :: _) => true
    | _ => false) && (PySem.W.keepIn K (.ref (plG K)) && (match K.lookup (plG K) with
    | some ⟨_, _, .func fd, _⟩ => PySem.W.codeIn K fd.code "Schedule.places" && (match fd.defaults with
      | .none => true
      | _ => false)
    | _ => false)))))
abbrev PlV : Type := Option (Str × Str × Arguments × FuncBody × Scope × Addr × List (Str × Addr) × Addr)
def plV (K : PySem.W.Frag) : PlV := match K.lookup (plG K) with
  | some ⟨_, _, .func fd, _⟩ => some (fd.name, fd.qualname, fd.params, fd.body, fd.scope, fd.globals, fd.closure, fd.builtins)
  | _ => none
def plW : PlV := some ("places", "Schedule.places", defArgs s_Schedule_places, .stmts (defBody s_Schedule_places), defScope s_Schedule_places, mainGlobals, [], builtinsNs)
theorem plB_ok {K : PySem.W.Frag} (h : plB K = true) (hv : plV K = plW) : ∃ (p g : Addr) (fd : FuncData), PropOf K (He.ga K "Schedule") "places" p g ∧ FnP K "places" "Schedule.places" s_Schedule_places g fd := by
  obtain ⟨a, h⟩ := He.ba h
  obtain ⟨b, h⟩ := He.ba h
  obtain ⟨c, h⟩ := He.ba h
  obtain ⟨d, h⟩ := He.ba h
  obtain ⟨e, f⟩ := He.ba h
  have r : ∃ rest, PySem.W.recIn K (plA K) "property" = some (.ref (plG K) :: rest) := by
    split at d
    · rename_i g0 r0 q
      refine ⟨r0, ?_⟩
      have : plG K = g0 := by
        unfold plG
        rw [q]
      rw [this]
      exact q
    · cases d
  unfold plV at hv
  split at f
  · rename_i oc od fd sl lk
    rw [lk] at hv
    obtain ⟨f1, f2⟩ := He.ba f
    refine ⟨plA K, plG K, fd, ⟨He.eqO_ok a, He.eqO_ok b, of_decide_eq_true c, r⟩, ⟨?_, e⟩⟩
    unfold plW at hv
    cases fd
    simp only [Option.some.injEq, Prod.mk.injEq] at hv f1 f2
    obtain ⟨v1, v2, v3, v4, v5, v6, v7, v8⟩ := hv
    subst v1 v2 v3 v4 v5 v6 v7 v8
    rename_i dV kV _ _ _ _ _
    split at f2
    · exact ⟨_, _, _, _, _, _, _, _, _, _, rfl, lk, f1, .inl ⟨rfl, rfl⟩, .inl rfl⟩
    · cases f2
  · cases f
/-! the whole -/
def txB (K : PySem.W.Frag) : Bool :=
  leB K (He.ga K "LineError") && (inB K (He.ga K "Schedule") && (exB K "TooMany" && (exB K "NoItems" && (exB K "Broken" && (oB (PySem.W.findIn K (.ref (He.ga K "TooMany")) "limit") (some none) && (ecB K (He.ga K "NoItems") &&
  (decide (PySem.W.kitOne K (.ref (He.ga K "NoItems")) (.ref (He.ga K "NoDeed")) = some false) && (decide (PySem.W.kitOne K (.ref (He.ga K "NoItems")) (.ref (He.ga K "Nothing")) = some false) && (oB (PySem.W.findIn K (.ref (He.ga K "Broken")) "at") (some none) && plB K)))))))))
theorem txB_ok {K : PySem.W.Frag} (h : txB K = true) (hv : plV K = plW) : TxX K := by
  obtain ⟨a, h⟩ := He.ba h
  obtain ⟨b, h⟩ := He.ba h
  obtain ⟨c, h⟩ := He.ba h
  obtain ⟨d, h⟩ := He.ba h
  obtain ⟨e, h⟩ := He.ba h
  obtain ⟨f, h⟩ := He.ba h
  obtain ⟨g, h⟩ := He.ba h
  obtain ⟨i, h⟩ := He.ba h
  obtain ⟨j, h⟩ := He.ba h
  obtain ⟨l, m⟩ := He.ba h
  exact ⟨leB_ok a, inB_ok b, exB_ok c, exB_ok d, exB_ok e, He.eqO_ok f, ecB_ok g, of_decide_eq_true i, of_decide_eq_true j, He.eqO_ok l, plB_ok m hv⟩
/-! ### the Hook -/
abbrev AlB : Type := He.AlD × Bool × PlV
def obsB (K : PySem.W.Frag) : AlB := (He.obsD fa fn K, txB K, plV K)
def asW0 : List Addr := [3, 140, 160, 179, 198, 217, 236, 255, 274, 293, 440, 496, 671, 6, 0, 139, 159, 178, 197, 216, 235, 254, 273, 292, 439, 495, 670, 325, 360, 317, 327, 335, 21, 28, 35, 42, 49, 54, 59, 64]
def asW1 : List Addr := [69, 76, 83, 90, 97, 102, 109, 116, 123, 130, 302, 451, 507, 680, 687, 694, 701, 708, 715, 722, 729, 736, 741, 748, 753, 758, 763, 768, 773, 780, 787, 794, 801, 808, 813, 157, 176, 195, 214, 233]
def asW2 : List Addr := [252, 271, 290, 316, 342, 347, 352, 359, 367, 374, 381, 388, 395, 402, 409, 416, 423, 430, 437, 465, 472, 479, 486, 493, 521, 528, 535, 542, 549, 556, 563, 570, 577, 584, 591, 598, 605, 612, 619, 626]
def asW3 : List Addr := [633, 640, 647, 654, 661, 668, 324, 334, 20, 27, 34, 41, 48, 53, 58, 63, 68, 75, 82, 89, 96, 101, 108, 115, 122, 129, 301, 450, 506, 679, 686, 693, 700, 707, 714, 721, 728, 735, 740, 747]
def asW4 : List Addr := [752, 757, 762, 767, 772, 779, 786, 793, 800, 807, 812, 156, 175, 194, 213, 232, 251, 270, 289, 315, 341, 346, 351, 358, 366, 373, 380, 387, 394, 401, 408, 415, 422, 429, 436, 464, 471, 478, 485, 492]
def asW5 : List Addr := [520, 527, 534, 541, 548, 555, 562, 569, 576, 583, 590, 597, 604, 611, 618, 625, 632, 639, 646, 653, 660, 667, 323, 333]
/-- the objects that the facts are read from, by their places -/
def asW : List Addr := cStatics :: (asW0 ++ (asW1 ++ (asW2 ++ (asW3 ++ (asW4 ++ (asW5))))))
def obsBG (g : Addr → Option Obj) : AlB := obsB (He.frG g asW)
def valB : AlB := (He.valD fn, true, plW)
def hookB : PySem.W.Hook where
  α := AlB
  obs := fun s => obsBG s.heap.get?
  val := fun _ => valB
  says := fun _ h => ∃ K : PySem.W.Frag, K.In h ∧ obsB K = valB
  of := fun _ s e => ⟨_, He.frG_in, e⟩
  keeps := fun _ _ _ z k => z.elim fun K q => ⟨K, PySem.W.Frag.In.keeps q.1 k, q.2⟩
theorem saysB {K : PySem.W.Frag} (e : obsB K = valB) : He.SaysD fa fn K ∧ TxX K := by
  have e1 : He.obsD fa fn K = He.valD fn := congrArg (fun z : AlB => z.1) e
  have e2 : txB K = true := congrArg (fun z : AlB => z.2.1) e
  have e3 : plV K = plW := congrArg (fun z : AlB => z.2.2) e
  exact ⟨e1, txB_ok e2 e3⟩
end BW
namespace BW
open PySem PySem.Spec PyProof.Rows L2
abbrev RB : PySem.W.OpenRow := PySem.W.OpenLaw.row PySem.Challenge.rw_bearsmisses_k93_whole_books_are_schedule
def loose1 : List PySem.Str := ["_wall", "MAX_PLACES", "MAX_COMPARISONS", "MAX_PRICE", "is_integer", "is_between", "is_price", "is_comparison", "ranks", "demands", "first_prices", "least_of", "column_after", "walk_prices", "walk_misses", "least_spoil", "with_unit_prices", "fewest_spoil", "borne_of", "borne", "borne_bearing", "spoiling", "spoiling_bearing"]
def loose2 : List PySem.Str := ["LineError", "Wrong", "BadComparison", "NoComparison", "TooMany", "NoDeed", "NoItems", "Nothing", "Broken", "cheapest", "cheapest_prices", "Schedule", "MAX_DEEDS", "is_deed", "Line", "played", "Book"]
def loose3 : List PySem.Str := ["_law_bag", "_law_take", "_law_play", "_law_new", "_law_is_whole", "_law_is_deed", "_law_do", "_law_replay", "_law_deed", "_law_ranks", "_law_empty", "_law_demands", "_law_held", "_law_is_spoil", "_law_answers_right", "_law_right", "_law_one_right", "_law_stepped", "_law_later", "_law_refused", "_law_changed"]
def loose : List PySem.Str := loose1 ++ (loose2 ++ loose3)
def obB (s : PySem.W.SharedT) : AlB := obsBG (HandSHeadRun.getT s)
theorem obB_eq (s : PySem.W.SharedT) : obB s = hookB.obs s.abs := by
  have e : HandSHeadRun.getT s = s.abs.heap.get? := funext (HandSHeadRun.getT_eq s)
  unfold obB
  rw [e]
  rfl
set_option maxHeartbeats 0 in
theorem run (w : World) : HandSHeadRun.RunEq RB (PySem.W.view RB.prog [70]) hookB obB 20000 loose w := by
  intro os
  kernel_rfl
end BW
namespace BM
/-! ### deeds, the line -/
inductive Deed where
  | arrive (p : Int)
  | serve
  | compare (pos : Nat) (price : Int) (done : Bool)
  deriving DecidableEq

structure Ln where
  ws : List Int
  st : List Nat
  gn : List Nat
  rs : List (Nat × Int)
  lo : List Nat
  deriving DecidableEq

def Ln.zero : Ln := ⟨[], [], [], [], []⟩

/-- item i is more urgent than item j -/
def urg (ws : List Int) (i j : Nat) : Bool := decide (ws.getD i 0 < ws.getD j 0 ∨ (ws.getD i 0 = ws.getD j 0 ∧ i < j))

def swapAt {α : Type} (l : List α) (i j : Nat) (d : α) : List α := (l.set i (l.getD j d)).set j (l.getD i d)

def Ln.step (L : Ln) : Deed → Option Ln
  | .arrive p => if L.ws.length = 12 then none else some { L with ws := L.ws ++ [p], st := L.st ++ [L.ws.length] }
  | .serve => match L.st with
    | [] => none
    | x :: r => some { L with gn := L.gn ++ [x], st := r }
  | .compare pos price done => if L.st.length < pos + 2 then none else
      some { L with
        rs := L.rs ++ [(L.gn.length + pos + 1, price)]
        lo := if done then L.lo else L.lo ++ [L.rs.length]
        st := if done && urg L.ws (L.st.getD (pos + 1) 0) (L.st.getD pos 0) then swapAt L.st pos (pos + 1) 0 else L.st }

def Deed.ok : Deed → Prop
  | .compare _ price _ => 0 ≤ price ∧ price ≤ 10 ^ 18
  | .arrive p => -(10 ^ 40) ≤ p ∧ p ≤ 10 ^ 40
  | .serve => True

def runL (L : Ln) : List Deed → Option Ln
  | [] => some L
  | d :: r => match L.step d with
    | none => none
    | some L' => runL L' r
def replay (l : List Deed) : Option Ln := runL .zero l

theorem runL_append (a b : List Deed) : ∀ L, runL L (a ++ b) = (runL L a).bind fun L' => runL L' b := by
  induction a with
  | nil => intro L; rfl
  | cons d r ih =>
    intro L
    show (match L.step d with | none => none | some L' => runL L' (r ++ b)) = _
    show _ = (match L.step d with | none => none | some L' => runL L' r).bind _
    cases L.step d with
    | none => rfl
    | some L' => exact ih L'
theorem runL_snoc (a : List Deed) (d : Deed) (L : Ln) : runL L (a ++ [d]) = (runL L a).bind fun L' => L'.step d := by
  rw [runL_append]
  congr 1
  funext L'
  show (match L'.step d with | none => none | some L' => runL L' []) = _
  cases L'.step d <;> rfl

/-! ### what holds of every line -/
structure Ln.Ok (L : Ln) : Prop where
  n12 : L.ws.length ≤ 12
  perm : (L.gn ++ L.st).Perm (List.range L.ws.length)
  gate : ∀ r ∈ L.rs, 1 ≤ r.1 ∧ r.1 + 1 ≤ L.ws.length
  price : ∀ r ∈ L.rs, 0 ≤ r.2 ∧ r.2 ≤ 10 ^ 18
  los : L.lo.Pairwise (· < ·)
  lob : ∀ a ∈ L.lo, a < L.rs.length

theorem Ln.Ok.zero : Ln.zero.Ok := by
  refine ⟨by decide, by decide, ?_, ?_, List.Pairwise.nil, ?_⟩ <;> intro r h <;> cases h

theorem Ln.Ok.len {L : Ln} (h : L.Ok) : L.gn.length + L.st.length = L.ws.length := by
  have := h.perm.length_eq
  simpa using this
theorem Ln.Ok.nd {L : Ln} (h : L.Ok) : (L.gn ++ L.st).Nodup := h.perm.nodup_iff.mpr List.nodup_range
theorem Ln.Ok.ndst {L : Ln} (h : L.Ok) : L.st.Nodup := (List.nodup_append.mp h.nd).2.1
theorem Ln.Ok.mem {L : Ln} (h : L.Ok) {x : Nat} (hx : x ∈ L.gn ++ L.st) : x < L.ws.length := List.mem_range.mp (h.perm.mem_iff.mp hx)
theorem Ln.Ok.memst {L : Ln} (h : L.Ok) {x : Nat} (hx : x ∈ L.st) : x < L.ws.length := h.mem (List.mem_append_right _ hx)
theorem Ln.Ok.memgn {L : Ln} (h : L.Ok) {x : Nat} (hx : x ∈ L.gn) : x < L.ws.length := h.mem (List.mem_append_left _ hx)

theorem swapAt_length {α : Type} (l : List α) (i j : Nat) (d : α) : (swapAt l i j d).length = l.length := by simp [swapAt]
theorem getD_lt {α : Type} {l : List α} {i : Nat} (d : α) (h : i < l.length) : l.getD i d = l[i] := by
  rw [List.getD_eq_getElem?_getD, List.getElem?_eq_getElem h]; rfl

theorem swap_split {α : Type} {l : List α} {i : Nat} (d : α) (h : i + 1 < l.length) : ∃ a x y b, l = a ++ x :: y :: b ∧ a.length = i ∧ l.getD i d = x ∧ l.getD (i + 1) d = y ∧ swapAt l i (i + 1) d = a ++ y :: x :: b := by
  refine ⟨l.take i, l[i], l[i + 1], l.drop (i + 2), ?_, by rw [List.length_take]; omega, getD_lt d (by omega), getD_lt d h, ?_⟩
  · rw [show l[i] :: l[i + 1] :: l.drop (i + 2) = l.drop i by rw [← List.drop_eq_getElem_cons, ← List.drop_eq_getElem_cons]]
    exact (List.take_append_drop i l).symm
  · unfold swapAt
    rw [getD_lt d (show i < l.length by omega), getD_lt d h]
    apply List.ext_getElem?
    intro m
    rw [List.getElem?_set, List.getElem?_set]
    have hl : (l.take i).length = i := by rw [List.length_take]; omega
    by_cases h1 : m < i
    · rw [List.getElem?_append_left (by omega), List.getElem?_take_of_lt h1]
      rw [if_neg (by omega), if_neg (by omega)]
    · rw [List.getElem?_append_right (by omega), hl]
      by_cases h2 : m = i
      · subst h2
        simp
        omega
      · by_cases h3 : m = i + 1
        · subst h3
          simp [show i + 1 - i = 1 by omega]
          omega
        · obtain ⟨q, rfl⟩ : ∃ q, m = i + 2 + q := ⟨m - (i + 2), by omega⟩
          rw [if_neg (by omega), if_neg (by omega), show i + 2 + q - i = q + 2 by omega]
          simp
theorem swapAt_perm {l : List Nat} {i : Nat} (h : i + 1 < l.length) : (swapAt l i (i + 1) 0).Perm l := by
  obtain ⟨a, x, y, b, e, _, _, _, e2⟩ := swap_split 0 h
  rw [e2]
  conv => rhs; rw [e]
  exact (List.Perm.swap x y b).append_left a

theorem Ln.step_ok {L L' : Ln} {d : Deed} (h : L.Ok) (hd : d.ok) (e : L.step d = some L') : L'.Ok := by
  have hl := h.len
  cases d with
  | arrive p =>
    simp only [Ln.step] at e
    split at e
    · cases e
    · rename_i hn
      cases e
      refine ⟨?_, ?_, ?_, h.price, h.los, h.lob⟩
      · have := h.n12; simp; omega
      · show (L.gn ++ (L.st ++ [L.ws.length])).Perm (List.range (L.ws ++ [p]).length)
        rw [List.length_append, List.length_singleton, List.range_succ, ← List.append_assoc]
        exact h.perm.append_right _
      · intro r hr
        have := h.gate r hr
        simp
        omega
  | serve =>
    simp only [Ln.step] at e
    split at e
    · cases e
    · rename_i x r hx
      cases e
      refine ⟨h.n12, ?_, h.gate, h.price, h.los, h.lob⟩
      have q := h.perm
      rw [hx] at q
      show (L.gn ++ [x] ++ r).Perm _
      rw [List.append_assoc]
      exact q
  | compare pos price done =>
    simp only [Ln.step] at e
    split at e
    · cases e
    · rename_i hp
      cases e
      refine ⟨h.n12, ?_, ?_, ?_, ?_, ?_⟩
      · refine List.Perm.trans (List.Perm.append_left _ ?_) h.perm
        dsimp only
        split
        · exact swapAt_perm (by omega)
        · exact .refl _
      · intro r hr
        rcases List.mem_append.mp hr with hr | hr
        · exact h.gate r hr
        · rw [List.mem_singleton.mp hr]
          show 1 ≤ L.gn.length + pos + 1 ∧ L.gn.length + pos + 1 + 1 ≤ L.ws.length
          omega
      · intro r hr
        rcases List.mem_append.mp hr with hr | hr
        · exact h.price r hr
        · rw [List.mem_singleton.mp hr]
          exact hd
      · show (if done = true then L.lo else L.lo ++ [L.rs.length]).Pairwise (· < ·)
        split
        · exact h.los
        · refine List.pairwise_append.mpr ⟨h.los, List.pairwise_singleton _ _, fun a ha b hb => ?_⟩
          rw [List.mem_singleton.mp hb]
          exact h.lob a ha
      · intro a ha
        show a < (L.rs ++ [_]).length
        rw [List.length_append, List.length_singleton]
        have ha : a ∈ (if done = true then L.lo else L.lo ++ [L.rs.length]) := ha
        split at ha
        · have := h.lob a ha; omega
        · rcases List.mem_append.mp ha with ha | ha
          · have := h.lob a ha; omega
          · rw [List.mem_singleton.mp ha]; omega
theorem Ln.step_rs {L L' : Ln} {d : Deed} (e : L.step d = some L') : L'.rs.length ≤ L.rs.length + 1 := by
  cases d with
  | arrive p =>
    simp only [Ln.step] at e
    split at e
    · cases e
    · cases e; simp
  | serve =>
    simp only [Ln.step] at e
    split at e
    · cases e
    · cases e; simp
  | compare pos price done =>
    simp only [Ln.step] at e
    split at e
    · cases e
    · cases e; simp
theorem runL_ok : ∀ {l : List Deed} {L L' : Ln}, L.Ok → (∀ d ∈ l, d.ok) → runL L l = some L' → L'.Ok ∧ L'.rs.length ≤ L.rs.length + l.length
  | [], L, L', h, _, e => by cases e; exact ⟨h, by simp⟩
  | d :: r, L, L', h, hd, e => by
    unfold runL at e
    cases q : L.step d with
    | none => rw [q] at e; cases e
    | some L1 =>
      rw [q] at e
      have z := runL_ok (Ln.step_ok h (hd d List.mem_cons_self) q) (fun x hx => hd x (List.mem_cons_of_mem _ hx)) e
      have z2 := Ln.step_rs q
      exact ⟨z.1, by simp; omega⟩
theorem replay_ok {l : List Deed} {L : Ln} (hd : ∀ d ∈ l, d.ok) (e : replay l = some L) : L.Ok ∧ L.rs.length ≤ l.length := by
  have := runL_ok Ln.Ok.zero hd e
  exact ⟨this.1, by simpa [Ln.zero] using this.2⟩

theorem urg_not {ws : List Int} {i j : Nat} (h : i ≠ j) : urg ws i j = !urg ws j i := by
  unfold urg
  rw [Bool.eq_iff_iff]
  simp only [Bool.not_eq_true', decide_eq_true_eq, decide_eq_false_iff_not]
  omega
end BM
namespace BM
/-! ### playing -/
def cmpAt (l : List Nat) (g : Nat) : List Nat := if l.getD g 0 < l.getD (g - 1) 0 then swapAt l (g - 1) g 0 else l
/-- played from the number i on -/
def playF (miss : List Nat) : Nat → List Nat → List Nat → List Nat
  | _, [], l => l
  | i, g :: r, l => playF miss (i + 1) r (if i ∈ miss then l else cmpAt l g)
def play (gates : List Nat) (l : List Nat) (miss : List Nat) : List Nat := playF miss 0 gates l

theorem playF_snoc (miss : List Nat) (g : Nat) : ∀ (gs : List Nat) (i : Nat) (l : List Nat), playF miss i (gs ++ [g]) l = if i + gs.length ∈ miss then playF miss i gs l else cmpAt (playF miss i gs l) g
  | [], i, l => by simp [playF]
  | a :: r, i, l => by
    show playF miss (i + 1) (r ++ [g]) _ = _
    rw [playF_snoc miss g r]
    rw [show i + 1 + r.length = i + (a :: r).length by simp; omega]
    rfl
theorem play_snoc (gs : List Nat) (g : Nat) (l miss : List Nat) : play (gs ++ [g]) l miss = if gs.length ∈ miss then play gs l miss else cmpAt (play gs l miss) g := by
  unfold play
  rw [playF_snoc, Nat.zero_add]
theorem playF_cong {m1 m2 : List Nat} : ∀ (gs : List Nat) (i : Nat) (l : List Nat), (∀ a, i ≤ a → a < i + gs.length → (a ∈ m1 ↔ a ∈ m2)) → playF m1 i gs l = playF m2 i gs l
  | [], i, l, _ => rfl
  | g :: r, i, l, h => by
    have h0 := h i (Nat.le_refl _) (by simp)
    show playF m1 (i + 1) r (if i ∈ m1 then l else cmpAt l g) = playF m2 (i + 1) r (if i ∈ m2 then l else cmpAt l g)
    rw [playF_cong r (i + 1) _ fun a h1 h2 => h a (by omega) (by simp; omega)]
    by_cases q : i ∈ m1
    · rw [if_pos q, if_pos (h0.mp q)]
    · rw [if_neg q, if_neg fun z => q (h0.mpr z)]
theorem play_cong {m1 m2 : List Nat} {gs l : List Nat} (h : ∀ a, a < gs.length → (a ∈ m1 ↔ a ∈ m2)) : play gs l m1 = play gs l m2 :=
  playF_cong gs 0 l fun a _ h2 => h a (by simpa using h2)

/-! ### ranks -/
/-- how many items of the first n are more urgent -/
def rankOf (ws : List Int) (i : Nat) : Nat := (List.range ws.length).countP fun j => urg ws j i
def ranksM (ws : List Int) : List Nat := (List.range ws.length).map (rankOf ws)
theorem ranksM_len (ws : List Int) : (ranksM ws).length = ws.length := by simp [ranksM]
theorem ranksM_get {ws : List Int} {i : Nat} (h : i < ws.length) : (ranksM ws).getD i 0 = rankOf ws i := by
  rw [getD_lt 0 (by rw [ranksM_len]; exact h)]
  simp [ranksM]
theorem urg_irr (ws : List Int) (i : Nat) : urg ws i i = false := by simp [urg]
theorem urg_trans {ws : List Int} {i j k : Nat} (h1 : urg ws i j = true) (h2 : urg ws j k = true) : urg ws i k = true := by
  unfold urg at *
  simp only [decide_eq_true_eq] at *
  omega
theorem countP_lt {α : Type} {p q : α → Bool} : ∀ {l : List α} {a : α}, (∀ x ∈ l, p x = true → q x = true) → a ∈ l → p a = false → q a = true → l.countP p < l.countP q
  | [], a, _, ha, _, _ => by cases ha
  | b :: r, a, h, ha, h1, h2 => by
    have hr : ∀ x ∈ r, p x = true → q x = true := fun x hx => h x (List.mem_cons_of_mem _ hx)
    rw [List.countP_cons, List.countP_cons]
    rcases List.mem_cons.mp ha with e | ha
    · subst e
      have := List.countP_mono_left (l := r) hr
      rw [h1, h2]
      simp
      omega
    · have := countP_lt hr ha h1 h2
      have hb := h b List.mem_cons_self
      by_cases q1 : p b = true
      · rw [if_pos q1, if_pos (hb q1)]; omega
      · rw [if_neg q1]; split <;> omega
theorem rank_lt {ws : List Int} {i j : Nat} (hi : i < ws.length) (h : urg ws i j = true) : rankOf ws i < rankOf ws j := by
  unfold rankOf
  exact countP_lt (fun x _ hx => urg_trans hx h) (List.mem_range.mpr hi) (urg_irr ws i) h
theorem rank_lt_iff {ws : List Int} {i j : Nat} (hi : i < ws.length) (hj : j < ws.length) : (rankOf ws i < rankOf ws j) ↔ urg ws i j = true := by
  constructor
  · intro h
    by_cases e : i = j
    · subst e; omega
    · cases q : urg ws i j with
      | true => rfl
      | false =>
        have q2 := urg_not (ws := ws) (Ne.symm e)
        rw [q] at q2
        have := rank_lt hj (by simpa using q2)
        omega
  · exact rank_lt hi
theorem rank_inj {ws : List Int} {i j : Nat} (hi : i < ws.length) (hj : j < ws.length) (e : rankOf ws i = rankOf ws j) : i = j := by
  by_cases h : i = j
  · exact h
  · have q2 := urg_not (ws := ws) h
    cases q : urg ws i j with
    | true => have := rank_lt hi q; omega
    | false =>
      rw [q] at q2
      have := rank_lt (j := i) hj (by simpa using q2)
      omega
theorem rank_bound {ws : List Int} {i : Nat} (hi : i < ws.length) : rankOf ws i < ws.length := by
  unfold rankOf
  have h := countP_lt (p := fun j => urg ws j i) (q := fun _ => true) (l := List.range ws.length) (a := i) (fun _ _ _ => rfl) (List.mem_range.mpr hi) (urg_irr ws i) rfl
  rw [List.countP_true, List.length_range] at h
  exact h
theorem nodup_map_on {α β : Type} {f : α → β} : ∀ {l : List α}, l.Nodup → (∀ a ∈ l, ∀ b ∈ l, f a = f b → a = b) → (l.map f).Nodup
  | [], _, _ => List.nodup_nil
  | a :: r, h, hf => by
    obtain ⟨h1, h2⟩ := List.nodup_cons.mp h
    refine List.nodup_cons.mpr ⟨fun m => ?_, nodup_map_on h2 fun x hx y hy => hf x (List.mem_cons_of_mem _ hx) y (List.mem_cons_of_mem _ hy)⟩
    obtain ⟨b, hb, e⟩ := List.mem_map.mp m
    have := hf b (List.mem_cons_of_mem _ hb) a List.mem_cons_self e
    exact h1 (this ▸ hb)
theorem ranksM_nodup (ws : List Int) : (ranksM ws).Nodup :=
  nodup_map_on List.nodup_range fun _ ha _ hb e => rank_inj (List.mem_range.mp ha) (List.mem_range.mp hb) e
theorem ranksM_lt (ws : List Int) : ∀ r ∈ ranksM ws, r < ws.length := by
  intro r hr
  obtain ⟨i, hi, rfl⟩ := List.mem_map.mp hr
  exact rank_bound (List.mem_range.mp hi)

/-! ### what is left of the order, played -/
/-- the places: served, waiting, not here yet -/
def Ln.places (L : Ln) (n : Nat) : List Nat := (L.gn ++ L.st) ++ (List.range (n - L.ws.length)).map (· + L.ws.length)
theorem Ln.places_len {L : Ln} (h : L.Ok) {n : Nat} (hn : L.ws.length ≤ n) : (L.places n).length = n := by
  unfold Ln.places
  have := h.len
  simp
  omega
theorem Ln.places_lt {L : Ln} (h : L.Ok) {n : Nat} (hn : L.ws.length ≤ n) : ∀ x ∈ L.places n, x < n := by
  intro x hx
  rcases List.mem_append.mp hx with hx | hx
  · have := h.mem hx; omega
  · obtain ⟨y, hy, rfl⟩ := List.mem_map.mp hx
    have := List.mem_range.mp hy
    show y + L.ws.length < n
    omega
theorem range_split (a b : Nat) (h : a < b) : (List.range (b - a)).map (· + a) = a :: (List.range (b - (a + 1))).map (· + (a + 1)) := by
  rw [show b - a = (b - (a + 1)) + 1 by omega, List.range_succ_eq_map]
  simp [Function.comp_def]
  intro x _
  omega
theorem getD_map {l : List Nat} {i : Nat} (f : Nat → Nat) (h : i < l.length) : (l.map f).getD i 0 = f (l.getD i 0) := by
  rw [getD_lt 0 (by simpa using h), getD_lt 0 h]
  simp
theorem swapAt_map {l : List Nat} {i j : Nat} (f : Nat → Nat) (hi : i < l.length) (hj : j < l.length) : swapAt (l.map f) i j 0 = (swapAt l i j 0).map f := by
  unfold swapAt
  rw [getD_map f hi, getD_map f hj, List.map_set, List.map_set]
theorem swapAt_app {a b c : List Nat} {i : Nat} (h : i + 1 < b.length) : swapAt ((a ++ b) ++ c) (a.length + i) (a.length + i + 1) 0 = (a ++ swapAt b i (i + 1) 0) ++ c := by
  obtain ⟨p, x, y, q, e, hp, _, _, e2⟩ := swap_split 0 h
  have h2 : a.length + i + 1 < ((a ++ b) ++ c).length := by simp; omega
  obtain ⟨p', x', y', q', e', hp', _, _, e2'⟩ := swap_split 0 h2
  rw [e2', e2]
  have z : p' ++ x' :: y' :: q' = (a ++ p) ++ x :: y :: (q ++ c) := by
    rw [← e', e]
    simp
  have l1 : p'.length = (a ++ p).length := by simp; omega
  obtain ⟨z1, z2⟩ := List.append_inj z l1
  simp at z2
  obtain ⟨rfl, rfl, rfl⟩ := z2
  rw [z1]
  simp
theorem getD_app {a b c : List Nat} {i : Nat} (h : i < b.length) : ((a ++ b) ++ c).getD (a.length + i) 0 = b.getD i 0 := by
  rw [getD_lt 0 (by simp; omega), getD_lt 0 h]
  rw [List.getElem_append_left (by simp; omega), List.getElem_append_right (by omega)]
  simp

/-- the worths that will have come -/
structure Pre (ws W : List Int) : Prop where
  le : ws.length ≤ W.length
  eq : ∀ i, i < ws.length → ws.getD i 0 = W.getD i 0
theorem urg_pre {ws W : List Int} (h : Pre ws W) {i j : Nat} (hi : i < ws.length) (hj : j < ws.length) : urg ws i j = urg W i j := by
  unfold urg
  rw [h.eq i hi, h.eq j hj]

/-- the invariant: the gates that came about, played on the ranks of all, leave the ranks of the places -/
def Played (W : List Int) (L : Ln) : Prop := play (L.rs.map (·.1)) (ranksM W) L.lo = (L.places W.length).map (rankOf W)
theorem Played.zero (W : List Int) : Played W .zero := by
  unfold Played Ln.zero Ln.places
  simp [play, playF, ranksM]
theorem Played.step {W : List Int} {L L' : Ln} {d : Deed} (h : L.Ok) (hp : Played W L) (e : L.step d = some L') (pre : Pre L'.ws W) : Played W L' := by
  have hl := h.len
  cases d with
  | arrive p =>
    simp only [Ln.step] at e
    split at e
    · cases e
    · cases e
      unfold Played at *
      dsimp only at *
      have pl := pre.le
      simp at pl
      rw [hp]
      congr 1
      unfold Ln.places
      dsimp only
      rw [range_split _ _ (show L.ws.length < W.length by omega)]
      simp
  | serve =>
    simp only [Ln.step] at e
    split at e
    · cases e
    · rename_i x r hx
      cases e
      unfold Played at *
      dsimp only at *
      rw [hp]
      congr 1
      unfold Ln.places
      dsimp only
      rw [hx]
      simp
  | compare pos price done =>
    simp only [Ln.step] at e
    split at e
    · cases e
    · rename_i hpos
      cases e
      unfold Played at hp ⊢
      dsimp only at pre ⊢
      have pl := pre.le
      rw [List.map_append, List.map_singleton, play_snoc, List.length_map]
      have b1 : pos + 1 < L.st.length := by omega
      have nomem : L.rs.length ∉ L.lo := fun m => absurd (h.lob _ m) (Nat.lt_irrefl _)
      have hcong : play (L.rs.map (·.1)) (ranksM W) (if done = true then L.lo else L.lo ++ [L.rs.length]) = play (L.rs.map (·.1)) (ranksM W) L.lo := by
        split
        · rfl
        · refine play_cong fun a ha => ?_
          rw [List.length_map] at ha
          simp
          omega
      rw [hcong, hp]
      cases done with
      | false =>
        simp only [Bool.false_eq_true, if_false, Bool.false_and]
        rw [if_pos (by simp)]
        rfl
      | true =>
        simp only [if_true, Bool.true_and]
        rw [if_neg nomem]
        have len := Ln.places_len h pl
        have g1 : (L.places W.length).getD (L.gn.length + pos) 0 = L.st.getD pos 0 := getD_app (by omega)
        have g2 : (L.places W.length).getD (L.gn.length + pos + 1) 0 = L.st.getD (pos + 1) 0 := getD_app (i := pos + 1) (by omega)
        have m1 : L.st.getD pos 0 < L.ws.length := by rw [getD_lt 0 (by omega)]; exact h.memst (List.getElem_mem _)
        have m2 : L.st.getD (pos + 1) 0 < L.ws.length := by rw [getD_lt 0 (by omega)]; exact h.memst (List.getElem_mem _)
        unfold cmpAt
        rw [show L.gn.length + pos + 1 - 1 = L.gn.length + pos by omega]
        rw [getD_map _ (by omega), getD_map _ (by omega), g1, g2]
        rw [urg_pre pre m2 m1]
        by_cases q : urg W (L.st.getD (pos + 1) 0) (L.st.getD pos 0) = true
        · rw [if_pos q, if_pos ((rank_lt_iff (by omega) (by omega)).mpr q)]
          rw [swapAt_map _ (by omega) (by omega)]
          congr 1
          unfold Ln.places
          exact swapAt_app (by omega)
        · rw [if_neg q, if_neg fun z => q ((rank_lt_iff (by omega) (by omega)).mp z)]
          rfl
theorem step_ws {L L' : Ln} {d : Deed} (e : L.step d = some L') : ∃ l, L'.ws = L.ws ++ l := by
  cases d with
  | arrive p =>
    simp only [Ln.step] at e
    split at e
    · cases e
    · cases e; exact ⟨[p], rfl⟩
  | serve =>
    simp only [Ln.step] at e
    split at e
    · cases e
    · cases e; exact ⟨[], by simp⟩
  | compare pos price done =>
    simp only [Ln.step] at e
    split at e
    · cases e
    · cases e; exact ⟨[], by simp⟩
theorem run_ws : ∀ {l : List Deed} {L L' : Ln}, runL L l = some L' → ∃ z, L'.ws = L.ws ++ z
  | [], L, L', e => by cases e; exact ⟨[], by simp⟩
  | d :: r, L, L', e => by
    unfold runL at e
    cases q : L.step d with
    | none => rw [q] at e; cases e
    | some L1 =>
      rw [q] at e
      obtain ⟨z1, e1⟩ := step_ws q
      obtain ⟨z2, e2⟩ := run_ws e
      exact ⟨z1 ++ z2, by rw [e2, e1, List.append_assoc]⟩
theorem pre_app (ws z : List Int) : Pre ws (ws ++ z) := ⟨by simp, fun i h => by
  rw [getD_lt 0 h, getD_lt 0 (by simp; omega), List.getElem_append_left h]⟩
theorem Played.run {W : List Int} : ∀ {l : List Deed} {L L' : Ln}, L.Ok → (∀ d ∈ l, d.ok) → Played W L → runL L l = some L' → Pre L'.ws W → Played W L'
  | [], L, L', _, _, hp, e, _ => by cases e; exact hp
  | d :: r, L, L', h, hd, hp, e, pre => by
    unfold runL at e
    cases q : L.step d with
    | none => rw [q] at e; cases e
    | some L1 =>
      rw [q] at e
      obtain ⟨z, ez⟩ := run_ws e
      have p1 : Pre L1.ws W := by
        rw [ez] at pre
        have p := pre_app L1.ws z
        exact ⟨Nat.le_trans p.le pre.le, fun i hi => (p.eq i hi).trans (pre.eq i (by simp; omega))⟩
      exact Played.run (Ln.step_ok h (hd d List.mem_cons_self) q) (fun x hx => hd x (List.mem_cons_of_mem _ hx)) (Played.step h hp q p1) e pre
/-- played with its misses, the order has the ranks of the items that were served and wait -/
theorem replay_played {l : List Deed} {L : Ln} (hd : ∀ d ∈ l, d.ok) (e : replay l = some L) :
    play (L.rs.map (·.1)) (ranksM L.ws) L.lo = (L.gn ++ L.st).map (rankOf L.ws) := by
  have h := Played.run (W := L.ws) Ln.Ok.zero hd (Played.zero _) e ⟨Nat.le_refl _, fun _ _ => rfl⟩
  unfold Played Ln.places at h
  rw [h, Nat.sub_self]
  simp
end BM
namespace BM
/-! ### least prices -/
def least2 : Option Int → Option Int → Option Int
  | none, b => b
  | a, none => a
  | some a, some b => some (if b < a then b else a)
def leastL (l : List (Option Int)) : Option Int := l.foldl least2 none
theorem leastL_one (a : Option Int) : leastL [a] = a := by cases a <;> rfl
theorem leastL_cons3 (a b c : Option Int) : leastL [a, b, c] = least2 (least2 a b) c := by cases a <;> rfl
theorem leastL_cons2 (a b : Option Int) : leastL [a, b] = least2 a b := by cases a <;> rfl
abbrev Row := Nat → Nat → Option Int
/-- one entry of the column of a gate -/
def entry (prev : Row) (g : Nat) (p : Int) (r : Nat) : Option Int :=
  leastL ([prev (g - 1) r, (prev g r).map (· + p)] ++ if 0 < r then [prev (g + 1) (r - 1)] else [])
def first (k : Nat) : Row := fun j r => if k - j ≤ r then some 0 else none
def after (prev : Row) (c : Nat × Int) : Row := fun j r => if j = c.1 then entry prev c.1 c.2 r else prev j r
def walk (k : Nat) (cs : List (Nat × Int)) : Row := cs.foldl after (first k)
theorem walk_snoc (k : Nat) (cs : List (Nat × Int)) (c : Nat × Int) : walk k (cs ++ [c]) = after (walk k cs) c := by simp [walk, List.foldl_append]
theorem take_snoc {α : Type} {l : List α} {i : Nat} {c : α} (h : l[i]? = some c) : l.take (i + 1) = l.take i ++ [c] := by
  obtain ⟨h1, h2⟩ := List.getElem?_eq_some_iff.mp h
  rw [List.take_add_one, h]
  rfl
/-- the misses of a least walk, from the comparison i down -/
def miss (k : Nat) (cs : List (Nat × Int)) : Nat → Nat → Nat → List Nat
  | 0, _, _ => []
  | i + 1, col, r => match cs[i]? with
    | none => miss k cs i col r
    | some c => if c.1 = col then
        (if walk k (cs.take i) (col - 1) r = walk k (cs.take (i + 1)) col r then miss k cs i (col - 1) r
        else if 0 < r ∧ walk k (cs.take i) (col + 1) (r - 1) = walk k (cs.take (i + 1)) col r then miss k cs i (col + 1) (r - 1)
        else miss k cs i col r ++ [i])
      else miss k cs i col r

theorem miss_lt (k : Nat) (cs : List (Nat × Int)) : ∀ i col r, ∀ a ∈ miss k cs i col r, a < i
  | 0, _, _ => by intro a h; cases h
  | i + 1, col, r => by
    intro a h
    unfold miss at h
    split at h
    · exact Nat.lt_succ_of_lt (miss_lt k cs i _ _ a h)
    · split at h
      · split at h
        · exact Nat.lt_succ_of_lt (miss_lt k cs i _ _ a h)
        · split at h
          · exact Nat.lt_succ_of_lt (miss_lt k cs i _ _ a h)
          · rcases List.mem_append.mp h with h | h
            · exact Nat.lt_succ_of_lt (miss_lt k cs i _ _ a h)
            · rw [List.mem_singleton.mp h]; exact Nat.lt_succ_self _
      · exact Nat.lt_succ_of_lt (miss_lt k cs i _ _ a h)
theorem miss_asc (k : Nat) (cs : List (Nat × Int)) : ∀ i col r, (miss k cs i col r).Pairwise (· < ·)
  | 0, _, _ => List.Pairwise.nil
  | i + 1, col, r => by
    unfold miss
    split
    · exact miss_asc k cs i _ _
    · split
      · split
        · exact miss_asc k cs i _ _
        · split
          · exact miss_asc k cs i _ _
          · refine List.pairwise_append.mpr ⟨miss_asc k cs i _ _, List.pairwise_singleton _ _, fun a ha b hb => ?_⟩
            rw [List.mem_singleton.mp hb]
            exact miss_lt k cs i _ _ a ha
      · exact miss_asc k cs i _ _
theorem least2_some {a b : Option Int} {v : Int} (h : least2 a b = some v) : a = some v ∨ b = some v := by
  cases a <;> cases b <;> simp [least2] at h ⊢
  · exact h
  · exact h
  · split at h <;> omega
theorem entry_some {prev : Row} {g : Nat} {p : Int} {r : Nat} {v : Int} (h : entry prev g p r = some v) :
    prev (g - 1) r = some v ∨ (∃ u, prev g r = some u ∧ v = u + p) ∨ (0 < r ∧ prev (g + 1) (r - 1) = some v) := by
  unfold entry at h
  by_cases hr : 0 < r
  · rw [if_pos hr] at h
    rw [show ([prev (g - 1) r, (prev g r).map (· + p)] ++ [prev (g + 1) (r - 1)]) = [prev (g - 1) r, (prev g r).map (· + p), prev (g + 1) (r - 1)] from rfl, leastL_cons3] at h
    rcases least2_some h with h | h
    · rcases least2_some h with h | h
      · exact .inl h
      · obtain ⟨u, e1, e2⟩ := Option.map_eq_some_iff.mp h
        exact .inr (.inl ⟨u, e1, e2.symm⟩)
    · exact .inr (.inr ⟨hr, h⟩)
  · rw [if_neg hr, List.append_nil, leastL_cons2] at h
    rcases least2_some h with h | h
    · exact .inl h
    · obtain ⟨u, e1, e2⟩ := Option.map_eq_some_iff.mp h
      exact .inr (.inl ⟨u, e1, e2.symm⟩)
/-- the way that a walk takes at the comparison i -/
inductive Way (k : Nat) (cs : List (Nat × Int)) (i col r : Nat) (c : Nat × Int) (v : Int) : Prop where
  | other (h : c.1 ≠ col) (e : miss k cs (i + 1) col r = miss k cs i col r) (w : walk k (cs.take i) col r = some v)
  | left (h : c.1 = col) (e : miss k cs (i + 1) col r = miss k cs i (col - 1) r) (w : walk k (cs.take i) (col - 1) r = some v)
  | right (h : c.1 = col) (hr : 0 < r) (e : miss k cs (i + 1) col r = miss k cs i (col + 1) (r - 1)) (w : walk k (cs.take i) (col + 1) (r - 1) = some v)
  | missed (h : c.1 = col) (e : miss k cs (i + 1) col r = miss k cs i col r ++ [i]) (u : Int) (w : walk k (cs.take i) col r = some u) (hv : v = u + c.2)
theorem way {k : Nat} {cs : List (Nat × Int)} {i col r : Nat} {c : Nat × Int} {v : Int} (hc : cs[i]? = some c) (hw : walk k (cs.take (i + 1)) col r = some v) : Way k cs i col r c v := by
  have e0 := take_snoc hc
  have hm : miss k cs (i + 1) col r = (if c.1 = col then
        (if walk k (cs.take i) (col - 1) r = walk k (cs.take (i + 1)) col r then miss k cs i (col - 1) r
        else if 0 < r ∧ walk k (cs.take i) (col + 1) (r - 1) = walk k (cs.take (i + 1)) col r then miss k cs i (col + 1) (r - 1)
        else miss k cs i col r ++ [i])
      else miss k cs i col r) := by
    conv => lhs; unfold miss
    rw [hc]
  by_cases h : c.1 = col
  · rw [if_pos h] at hm
    have q := hw
    rw [e0, walk_snoc] at q
    unfold after at q
    rw [if_pos h.symm] at q
    by_cases h1 : walk k (cs.take i) (col - 1) r = walk k (cs.take (i + 1)) col r
    · rw [if_pos h1] at hm
      exact .left h hm (h1.trans hw)
    · rw [if_neg h1] at hm
      by_cases h2 : 0 < r ∧ walk k (cs.take i) (col + 1) (r - 1) = walk k (cs.take (i + 1)) col r
      · rw [if_pos h2] at hm
        exact .right h h2.1 hm (h2.2.trans hw)
      · rw [if_neg h2] at hm
        rcases entry_some q with z | ⟨u, z1, z2⟩ | ⟨z1, z2⟩
        · rw [h] at z
          exact absurd (z.trans hw.symm) h1
        · rw [h] at z1
          exact .missed h hm u z1 z2
        · rw [h] at z2
          exact absurd ⟨z1, z2.trans hw.symm⟩ h2
  · rw [if_neg h] at hm
    refine .other h hm ?_
    rw [e0, walk_snoc] at hw
    unfold after at hw
    rw [if_neg (fun z => h z.symm)] at hw
    exact hw

def priceSum (cs : List (Nat × Int)) (l : List Nat) : Int := (l.map fun a => (cs.getD a (0, 0)).2).sum
theorem miss_price (k : Nat) (cs : List (Nat × Int)) : ∀ i col r v, i ≤ cs.length → walk k (cs.take i) col r = some v → priceSum cs (miss k cs i col r) = v
  | 0, col, r, v, _, h => by
    simp [walk, first] at h
    simp [miss, priceSum, h.2]
  | i + 1, col, r, v, hi, h => by
    have hc : cs[i]? = some cs[i] := List.getElem?_eq_getElem (by omega)
    cases way hc h with
    | other _ e w => rw [e]; exact miss_price k cs i _ _ v (by omega) w
    | left _ e w => rw [e]; exact miss_price k cs i _ _ v (by omega) w
    | right _ _ e w => rw [e]; exact miss_price k cs i _ _ v (by omega) w
    | missed _ e u w hv =>
      rw [e]
      have q := miss_price k cs i _ _ u (by omega) w
      unfold priceSum at *
      rw [List.map_append, List.sum_append, q, hv]
      simp [List.getD_eq_getElem?_getD, hc]

/-! ### what a comparison does to counts -/
def cntFrom (p : Nat → Bool) (l : List Nat) (m : Nat) : Nat := (l.drop m).countP p
def cntTo (p : Nat → Bool) (l : List Nat) (m : Nat) : Nat := (l.take m).countP p
theorem cntFrom_succ {p : Nat → Bool} {l : List Nat} {m : Nat} (h : m < l.length) : cntFrom p l m = (if p (l.getD m 0) then 1 else 0) + cntFrom p l (m + 1) := by
  unfold cntFrom
  rw [List.drop_eq_getElem_cons h, List.countP_cons, getD_lt 0 h]
  omega
theorem cntTo_succ {p : Nat → Bool} {l : List Nat} {m : Nat} (h : m < l.length) : cntTo p l (m + 1) = cntTo p l m + (if p (l.getD m 0) then 1 else 0) := by
  unfold cntTo
  rw [List.take_add_one, List.getElem?_eq_getElem h, getD_lt 0 h]
  show (List.take m l ++ [l[m]]).countP p = _
  rw [List.countP_append, List.countP_singleton]
theorem cmpAt_len (l : List Nat) (g : Nat) : (cmpAt l g).length = l.length := by
  unfold cmpAt; split
  · exact swapAt_length _ _ _ _
  · rfl
/-- the two at a gate, behind a comparison -/
theorem cmpAt_split {l : List Nat} {g : Nat} (h1 : 1 ≤ g) (h2 : g < l.length) : ∃ a x y b, l = a ++ x :: y :: b ∧ a.length = g - 1 ∧ l.getD (g - 1) 0 = x ∧ l.getD g 0 = y ∧ cmpAt l g = a ++ min x y :: max x y :: b := by
  obtain ⟨a, x, y, b, e, ha, hx, hy, es⟩ := swap_split (l := l) (i := g - 1) 0 (by omega)
  rw [show g - 1 + 1 = g by omega] at hy es
  refine ⟨a, x, y, b, e, ha, hx, hy, ?_⟩
  unfold cmpAt
  rw [hx, hy]
  by_cases q : y < x
  · rw [if_pos q, es, Nat.min_eq_right (by omega), Nat.max_eq_left (by omega)]
  · rw [if_neg q, Nat.min_eq_left (by omega), Nat.max_eq_right (by omega)]
    exact e
/-- p: from a rank on -/
def ge (t : Nat) : Nat → Bool := fun x => decide (t ≤ x)
theorem ge_min (t x y : Nat) : ge t (min x y) = (ge t x && ge t y) := by
  unfold ge; rw [Bool.eq_iff_iff]; simp only [Bool.and_eq_true, decide_eq_true_eq]; omega
theorem ge_max (t x y : Nat) : ge t (max x y) = (ge t x || ge t y) := by
  unfold ge; rw [Bool.eq_iff_iff]; simp only [Bool.or_eq_true, decide_eq_true_eq]; omega
theorem from_other {p : Nat → Bool} {t g m : Nat} {l : List Nat} (hp : p = ge t) (h1 : 1 ≤ g) (h2 : g < l.length) (hm : m ≠ g) : cntFrom p (cmpAt l g) m = cntFrom p l m := by
  subst hp
  obtain ⟨a, x, y, b, e, ha, _, _, ec⟩ := cmpAt_split h1 h2
  rw [ec, e]
  unfold cntFrom
  by_cases q : m < g
  · rw [List.drop_append_of_le_length (by omega), List.drop_append_of_le_length (by omega), List.countP_append, List.countP_append, List.countP_cons, List.countP_cons, List.countP_cons, List.countP_cons, ge_min, ge_max]
    cases ge t x <;> cases ge t y <;> simp
  · obtain ⟨z, rfl⟩ : ∃ z, m = a.length + 2 + z := ⟨m - (a.length + 2), by omega⟩
    rw [show a.length + 2 + z = a.length + (2 + z) by omega, List.drop_append, List.drop_append]
    simp [show 2 + z = z + 2 by omega]
theorem to_other {p : Nat → Bool} {t g m : Nat} {l : List Nat} (hp : p = ge t) (h1 : 1 ≤ g) (h2 : g < l.length) (hm : m ≠ g) : cntTo p (cmpAt l g) m = cntTo p l m := by
  have hq := from_other (m := m) hp h1 h2 hm
  have tot : ∀ l : List Nat, cntTo p l m + cntFrom p l m = l.countP p := fun l => by
    unfold cntTo cntFrom
    rw [← List.countP_append, List.take_append_drop]
  have tot0 := from_other (m := 0) hp h1 h2 (by omega)
  have e1 := tot (cmpAt l g)
  have e2 := tot l
  unfold cntFrom at tot0
  simp only [List.drop_zero] at tot0
  omega
/-- behind a comparison at g that is done: counts from g are at most .. -/
theorem from_gate {t g : Nat} {l : List Nat} (h1 : 1 ≤ g) (h2 : g < l.length) :
    cntFrom (ge t) (cmpAt l g) g ≤ cntFrom (ge t) l (g - 1) ∧ cntFrom (ge t) (cmpAt l g) g ≤ cntFrom (ge t) l (g + 1) + 1 ∧ (cntFrom (ge t) (cmpAt l g) g = cntFrom (ge t) l (g - 1) ∨ cntFrom (ge t) (cmpAt l g) g = cntFrom (ge t) l (g + 1) + 1) := by
  have a0 := from_other (p := ge t) (m := g + 1) rfl h1 h2 (by omega)
  have a1 := cntFrom_succ (p := ge t) (l := cmpAt l g) (m := g) (by rw [cmpAt_len]; exact h2)
  have a2 := cntFrom_succ (p := ge t) (l := l) (m := g) h2
  have a3 := cntFrom_succ (p := ge t) (l := l) (m := g - 1) (by omega)
  rw [show g - 1 + 1 = g by omega] at a3
  obtain ⟨a, x, y, b, e, ha, hx, hy, ec⟩ := cmpAt_split h1 h2
  have hg : (cmpAt l g).getD g 0 = max x y := by
    rw [ec, getD_lt 0 (by simp; omega), List.getElem_append_right (by omega)]
    simp [show g - a.length = 1 by omega]
  rw [hg, ge_max] at a1
  rw [hy] at a2
  rw [hx] at a3
  cases q1 : ge t x <;> cases q2 : ge t y <;> simp [q1, q2] at a1 a2 a3 <;> omega
theorem to_gate {t g : Nat} {l : List Nat} (h1 : 1 ≤ g) (h2 : g < l.length) :
    cntTo (ge t) l (g - 1) ≤ cntTo (ge t) (cmpAt l g) g ∧ cntTo (ge t) l (g + 1) ≤ cntTo (ge t) (cmpAt l g) g + 1 := by
  have a1 := to_other (p := ge t) (m := g - 1) rfl h1 h2 (by omega)
  have a2 := to_other (p := ge t) (m := g + 1) rfl h1 h2 (by omega)
  have a3 := cntTo_succ (p := ge t) (l := cmpAt l g) (m := g) (by rw [cmpAt_len]; exact h2)
  have a4 := cntTo_succ (p := ge t) (l := cmpAt l g) (m := g - 1) (by rw [cmpAt_len]; omega)
  rw [show g - 1 + 1 = g by omega] at a4
  constructor
  · omega
  · split at a3 <;> omega

/-! ### the falling order, capacities, demands -/
def falling (n : Nat) : List Nat := (List.range n).reverse
def cap (cs : List (Nat × Int)) (n k : Nat) (S : List Nat) (i m : Nat) : Nat := cntFrom (ge (n - k)) (play ((cs.take i).map (·.1)) (falling n) S) m
def dem (x : List Nat) (k t : Nat) : Nat := cntTo (ge t) x k
theorem playF_len (S : List Nat) : ∀ (gs : List Nat) (i : Nat) (l : List Nat), (playF S i gs l).length = l.length
  | [], _, _ => rfl
  | g :: r, i, l => by
    show (playF S (i + 1) r _).length = _
    rw [playF_len S r]
    split
    · rfl
    · exact cmpAt_len _ _
theorem play_len (gs l S : List Nat) : (play gs l S).length = l.length := playF_len S gs 0 l
theorem falling_len (n : Nat) : (falling n).length = n := by simp [falling]
theorem falling_cnt {n k : Nat} (hk : k ≤ n) : ∀ m, cntFrom (ge (n - k)) (falling n) m = k - m := by
  have H : ∀ d m, n - m = d → cntFrom (ge (n - k)) (falling n) m = k - m := by
    intro d
    induction d with
    | zero =>
      intro m hm
      unfold cntFrom
      rw [List.drop_eq_nil_of_le (by rw [falling_len]; omega)]
      simp
      omega
    | succ d ih =>
      intro m hm
      rw [cntFrom_succ (by rw [falling_len]; omega), ih (m + 1) (by omega)]
      have e : (falling n).getD m 0 = n - 1 - m := by
        rw [getD_lt 0 (by rw [falling_len]; omega)]
        simp [falling]
      rw [e]
      unfold ge
      by_cases q : m < k
      · rw [if_pos (by simp; omega)]; omega
      · rw [if_neg (by simp; omega)]; omega
  intro m
  exact H _ m rfl

structure Gates (n : Nat) (cs : List (Nat × Int)) : Prop where
  g : ∀ c ∈ cs, 1 ≤ c.1 ∧ c.1 < n

theorem play_take_succ {cs : List (Nat × Int)} {i : Nat} {c : Nat × Int} (hc : cs[i]? = some c) (l S : List Nat) :
    play ((cs.take (i + 1)).map (·.1)) l S = if i ∈ S then play ((cs.take i).map (·.1)) l S else cmpAt (play ((cs.take i).map (·.1)) l S) c.1 := by
  have hi := (List.getElem?_eq_some_iff.mp hc).1
  rw [take_snoc hc, List.map_append, List.map_singleton, play_snoc, List.length_map, List.length_take, Nat.min_eq_left (by omega)]

/-- the walk's misses bring the capacity down -/
theorem miss_cap {cs : List (Nat × Int)} {n k : Nat} (G : Gates n cs) (hk : k ≤ n) (S : List Nat) : ∀ i col r v, i ≤ cs.length → (∀ a, a < i → (a ∈ S ↔ a ∈ miss k cs i col r)) → walk k (cs.take i) col r = some v → cap cs n k S i col ≤ r
  | 0, col, r, v, _, _, h => by
    unfold cap
    rw [List.take_zero, List.map_nil]
    show cntFrom _ (falling n) col ≤ r
    rw [falling_cnt hk]
    simp [walk, first] at h
    exact Nat.sub_le_iff_le_add.mpr h.1
  | i + 1, col, r, v, hi, hS, h => by
    have hc : cs[i]? = some cs[i] := List.getElem?_eq_getElem (by omega)
    have hg := G.g cs[i] (List.getElem_mem _)
    have hlen : (play ((cs.take i).map (·.1)) (falling n) S).length = n := by rw [play_len, falling_len]
    have hstep := play_take_succ hc (falling n) S
    have lt : ∀ x y, ∀ a, a < i → (a ∈ miss k cs i x y → a < i) := fun _ _ _ h _ => h
    cases way hc h with
    | other hne e w =>
      have ih := miss_cap G hk S i col r v (by omega) (fun a ha => by rw [hS a (by omega), e]) w
      unfold cap at *
      rw [hstep]
      split
      · exact ih
      · rw [from_other (t := n - k) rfl hg.1 (by omega) (fun z => hne z.symm)]
        exact ih
    | left he e w =>
      have hi' : i ∉ S := fun z => by
        have := (hS i (by omega)).mp z
        rw [e] at this
        exact absurd (miss_lt k cs i _ _ i this) (Nat.lt_irrefl _)
      have ih := miss_cap G hk S i (col - 1) r v (by omega) (fun a ha => by rw [hS a (by omega), e]) w
      unfold cap at *
      rw [hstep, if_neg hi', he]
      rw [he] at hg
      have := from_gate (t := n - k) (l := play ((cs.take i).map (·.1)) (falling n) S) hg.1 (by omega)
      omega
    | right he hr e w =>
      have hi' : i ∉ S := fun z => by
        have := (hS i (by omega)).mp z
        rw [e] at this
        exact absurd (miss_lt k cs i _ _ i this) (Nat.lt_irrefl _)
      have ih := miss_cap G hk S i (col + 1) (r - 1) v (by omega) (fun a ha => by rw [hS a (by omega), e]) w
      unfold cap at *
      rw [hstep, if_neg hi', he]
      rw [he] at hg
      have := from_gate (t := n - k) (l := play ((cs.take i).map (·.1)) (falling n) S) hg.1 (by omega)
      omega
    | missed he e u w hv =>
      have hi' : i ∈ S := (hS i (by omega)).mpr (by rw [e]; simp)
      have ih := miss_cap G hk S i col r u (by omega) (fun a ha => by
        rw [hS a (by omega), e]
        simp
        omega) w
      unfold cap at *
      rw [hstep, if_pos hi']
      exact ih

/-- demands and capacities together never fall -/
theorem dem_cap {cs : List (Nat × Int)} {n k t : Nat} (G : Gates n cs) (hk : k ≤ n) {x : List Nat} (hx : x.length = n) (S : List Nat) : ∀ i m, i ≤ cs.length → m ≤ n →
    dem x k t ≤ cntTo (ge t) (play ((cs.take i).map (·.1)) x S) m + cap cs n k S i m
  | 0, m, _, hm => by
    unfold cap
    rw [List.take_zero, List.map_nil]
    show dem x k t ≤ cntTo (ge t) x m + cntFrom _ (falling n) m
    rw [falling_cnt hk]
    unfold dem cntTo
    by_cases q : k ≤ m
    · have : (x.take k).countP (ge t) ≤ (x.take m).countP (ge t) := List.Sublist.countP_le (List.take_sublist_take_left q)
      omega
    · have e : x.take k = x.take m ++ (x.drop m).take (k - m) := by
        rw [← List.take_add]
        congr 1
        omega
      rw [e, List.countP_append]
      have := List.countP_le_length (p := ge t) (l := (x.drop m).take (k - m))
      rw [List.length_take] at this
      omega
  | i + 1, m, hi, hm => by
    have hc : cs[i]? = some cs[i] := List.getElem?_eq_getElem (by omega)
    have hg := G.g cs[i] (List.getElem_mem _)
    have l1 : (play ((cs.take i).map (·.1)) (falling n) S).length = n := by rw [play_len, falling_len]
    have l2 : (play ((cs.take i).map (·.1)) x S).length = n := by rw [play_len, hx]
    have ih := fun m => dem_cap G hk hx S (t := t) i m (by omega)
    unfold cap at *
    rw [play_take_succ hc (falling n) S, play_take_succ hc x S]
    by_cases hS : i ∈ S
    · rw [if_pos hS, if_pos hS]
      exact ih m hm
    · rw [if_neg hS, if_neg hS]
      by_cases q : m = cs[i].1
      · rw [q]
        have f1 := from_gate (t := n - k) (l := play ((cs.take i).map (·.1)) (falling n) S) hg.1 (by omega)
        have f2 := to_gate (t := t) (l := play ((cs.take i).map (·.1)) x S) hg.1 (by omega)
        have i1 := ih (cs[i].1 - 1) (by omega)
        have i2 := ih (cs[i].1 + 1) (by omega)
        omega
      · rw [from_other (t := n - k) rfl hg.1 (by omega) q, to_other (t := t) rfl hg.1 (by omega) q]
        exact ih m hm

/-- misses that bring a capacity below a demand leave the order unsorted -/
theorem unsorted {cs : List (Nat × Int)} {n k t : Nat} (G : Gates n cs) (hk : k ≤ n) (ht : t ≤ n) {x : List Nat} (hx : x.length = n) {S : List Nat} (h : cap cs n k S cs.length t < dem x k t) :
    play (cs.map (·.1)) x S ≠ List.range n := by
  intro e
  have q := dem_cap (t := t) G hk hx S cs.length t (Nat.le_refl _) ht
  rw [List.take_length] at q
  rw [e] at q
  have z : cntTo (ge t) (List.range n) t = 0 := by
    unfold cntTo
    rw [List.take_range, Nat.min_eq_left ht, List.countP_eq_zero]
    intro a ha
    have := List.mem_range.mp ha
    unfold ge
    simp
    omega
  omega

/-! ### whether there is a walk at all does not hang on the prices -/
def sameN (a b : Option Int) : Prop := a.isSome = b.isSome
theorem least2_same {a b a' b' : Option Int} (h1 : a.isSome = a'.isSome) (h2 : b.isSome = b'.isSome) : (least2 a b).isSome = (least2 a' b').isSome := by
  cases a <;> cases b <;> cases a' <;> cases b' <;> simp [least2] at *
theorem entry_same {prev prev' : Row} (h : ∀ j r, (prev j r).isSome = (prev' j r).isSome) (g : Nat) (p p' : Int) (r : Nat) : (entry prev g p r).isSome = (entry prev' g p' r).isSome := by
  have e1 : (least2 (prev (g - 1) r) ((prev g r).map (· + p))).isSome = (least2 (prev' (g - 1) r) ((prev' g r).map (· + p'))).isSome :=
    least2_same (h _ _) (by rw [Option.isSome_map, Option.isSome_map]; exact h _ _)
  unfold entry
  by_cases hr : 0 < r
  · rw [if_pos hr, if_pos hr]
    show (leastL [_, _, _]).isSome = (leastL [_, _, _]).isSome
    rw [leastL_cons3, leastL_cons3]
    exact least2_same e1 (h _ _)
  · rw [if_neg hr, if_neg hr, List.append_nil, List.append_nil, leastL_cons2, leastL_cons2]
    exact e1
theorem walk_same (k : Nat) : ∀ (cs : List (Nat × Int)) (q : Int) (prev prev' : Row), (∀ j r, (prev j r).isSome = (prev' j r).isSome) → ∀ j r, (cs.foldl after prev j r).isSome = ((cs.map fun c => (c.1, q)).foldl after prev' j r).isSome
  | [], _, _, _, h, j, r => h j r
  | c :: cs, q, prev, prev', h, j, r => by
    show (cs.foldl after (after prev c) j r).isSome = ((cs.map fun c => (c.1, q)).foldl after (after prev' (c.1, q)) j r).isSome
    refine walk_same k cs q _ _ (fun j r => ?_) j r
    unfold after
    dsimp only
    split
    · exact entry_same h _ _ _ _
    · exact h j r
def unit (cs : List (Nat × Int)) : List (Nat × Int) := cs.map fun c => (c.1, 1)
theorem walk_unit (k : Nat) (cs : List (Nat × Int)) (j r : Nat) : (walk k cs j r).isSome = (walk k (unit cs) j r).isSome := walk_same k cs 1 _ _ (fun _ _ => rfl) j r
end BM
namespace BM
/-- price, k, t, misses -/
abbrev Spoil := Int × Nat × Nat × List Nat
def priceAt (cs : List (Nat × Int)) (D : Nat → Nat → Nat) (k t : Nat) : Option Int := if 0 < D k t then walk k cs t (D k t - 1) else none
def stepT (cs : List (Nat × Int)) (D : Nat → Nat → Nat) (k : Nat) (best : Option Spoil) (t : Nat) : Option Spoil :=
  match priceAt cs D k t with
  | none => best
  | some p => match best with
    | none => some (p, k, t, miss k cs cs.length t (D k t - 1))
    | some b => if p < b.1 then some (p, k, t, miss k cs cs.length t (D k t - 1)) else some b
def bestIn (cs : List (Nat × Int)) (D : Nat → Nat → Nat) (k : Nat) (best : Option Spoil) (j : Nat) : Option Spoil := (List.range j).foldl (fun b t => stepT cs D k b (t + 1)) best
def bestTo (n : Nat) (cs : List (Nat × Int)) (D : Nat → Nat → Nat) (i : Nat) : Option Spoil := (List.range i).foldl (fun b k => bestIn cs D (k + 1) b (n - 1)) none
def leastSpoil (n : Nat) (cs : List (Nat × Int)) (D : Nat → Nat → Nat) : Option Spoil := bestTo n cs D (n - 1)
theorem bestIn_succ (cs : List (Nat × Int)) (D : Nat → Nat → Nat) (k : Nat) (best : Option Spoil) (j : Nat) : bestIn cs D k best (j + 1) = stepT cs D k (bestIn cs D k best j) (j + 1) := by
  unfold bestIn
  rw [List.range_succ, List.foldl_append]
  rfl
theorem bestTo_succ (n : Nat) (cs : List (Nat × Int)) (D : Nat → Nat → Nat) (i : Nat) : bestTo n cs D (i + 1) = bestIn cs D (i + 1) (bestTo n cs D i) (n - 1) := by
  unfold bestTo
  rw [List.range_succ, List.foldl_append]
  rfl
/-- what a told spoil is -/
structure IsSpoil (n : Nat) (cs : List (Nat × Int)) (D : Nat → Nat → Nat) (b : Spoil) : Prop where
  k1 : 1 ≤ b.2.1
  kn : b.2.1 < n
  t1 : 1 ≤ b.2.2.1
  tn : b.2.2.1 < n
  d : 0 < D b.2.1 b.2.2.1
  w : walk b.2.1 cs b.2.2.1 (D b.2.1 b.2.2.1 - 1) = some b.1
  m : b.2.2.2 = miss b.2.1 cs cs.length b.2.2.1 (D b.2.1 b.2.2.1 - 1)
theorem stepT_is {n : Nat} {cs : List (Nat × Int)} {D : Nat → Nat → Nat} {k t : Nat} {best : Option Spoil} (hk : 1 ≤ k ∧ k < n) (ht : 1 ≤ t ∧ t < n) (h : ∀ b, best = some b → IsSpoil n cs D b) : ∀ b, stepT cs D k best t = some b → IsSpoil n cs D b := by
  intro b e
  unfold stepT at e
  cases q : priceAt cs D k t with
  | none => rw [q] at e; exact h b e
  | some p =>
    have q2 := q
    unfold priceAt at q2
    split at q2
    · rename_i hd
      have mk : IsSpoil n cs D (p, k, t, miss k cs cs.length t (D k t - 1)) := ⟨hk.1, hk.2, ht.1, ht.2, hd, q2, rfl⟩
      rw [q] at e
      cases best with
      | none =>
        have e : some (p, k, t, miss k cs cs.length t (D k t - 1)) = some b := e
        cases e
        exact mk
      | some b0 =>
        have e : (if p < b0.1 then some (p, k, t, miss k cs cs.length t (D k t - 1)) else some b0) = some b := e
        split at e
        · cases e; exact mk
        · exact h b e
    · cases q2
theorem bestIn_is {n : Nat} {cs : List (Nat × Int)} {D : Nat → Nat → Nat} {k : Nat} {best : Option Spoil} (hk : 1 ≤ k ∧ k < n) (h : ∀ b, best = some b → IsSpoil n cs D b) : ∀ j, j + 1 ≤ n → ∀ b, bestIn cs D k best j = some b → IsSpoil n cs D b
  | 0, _ => h
  | j + 1, hj => by
    rw [bestIn_succ]
    exact stepT_is hk ⟨by omega, by omega⟩ (bestIn_is hk h j (by omega))
theorem bestTo_is {n : Nat} {cs : List (Nat × Int)} {D : Nat → Nat → Nat} : ∀ i, i + 1 ≤ n → ∀ b, bestTo n cs D i = some b → IsSpoil n cs D b
  | 0, _ => by intro b e; cases e
  | i + 1, hi => by
    rw [bestTo_succ]
    exact bestIn_is ⟨by omega, by omega⟩ (bestTo_is i (by omega)) (n - 1) (by omega)
theorem leastSpoil_is {n : Nat} {cs : List (Nat × Int)} {D : Nat → Nat → Nat} (hn : 1 ≤ n) {b : Spoil} (e : leastSpoil n cs D = some b) : IsSpoil n cs D b := bestTo_is (n - 1) (by omega) b e
/-- whether there is one does not hang on the prices -/
theorem stepT_some {cs cs' : List (Nat × Int)} {D : Nat → Nat → Nat} {k t : Nat} {b b' : Option Spoil} (h : b.isSome = b'.isSome) (hw : ∀ j r, (walk k cs j r).isSome = (walk k cs' j r).isSome) : (stepT cs D k b t).isSome = (stepT cs' D k b' t).isSome := by
  have e : (priceAt cs D k t).isSome = (priceAt cs' D k t).isSome := by
    unfold priceAt
    by_cases hd : 0 < D k t
    · rw [if_pos hd, if_pos hd]; exact hw _ _
    · rw [if_neg hd, if_neg hd]
  unfold stepT
  cases q : priceAt cs D k t with
  | none =>
    cases q' : priceAt cs' D k t with
    | none => exact h
    | some p' => rw [q, q'] at e; cases e
  | some p =>
    cases q' : priceAt cs' D k t with
    | none => rw [q, q'] at e; cases e
    | some p' =>
      have one : ∀ (c : List (Nat × Int)) (p : Int) (b : Option Spoil), (match b with
        | none => some (p, k, t, miss k c c.length t (D k t - 1))
        | some b => if p < b.1 then some (p, k, t, miss k c c.length t (D k t - 1)) else some b).isSome = true := by
        intro c p b
        cases b with
        | none => rfl
        | some b =>
          show (if p < b.1 then some (p, k, t, miss k c c.length t (D k t - 1)) else some b).isSome = true
          split <;> rfl
      exact (one cs p b).trans (one cs' p' b').symm
theorem bestIn_some {cs cs' : List (Nat × Int)} {D : Nat → Nat → Nat} {k : Nat} {b b' : Option Spoil} (h : b.isSome = b'.isSome) (hw : ∀ j r, (walk k cs j r).isSome = (walk k cs' j r).isSome) : ∀ j, (bestIn cs D k b j).isSome = (bestIn cs' D k b' j).isSome
  | 0 => h
  | j + 1 => by
    rw [bestIn_succ, bestIn_succ]
    exact stepT_some (bestIn_some h hw j) hw
theorem bestTo_some {n : Nat} {cs cs' : List (Nat × Int)} {D : Nat → Nat → Nat} (hw : ∀ k j r, (walk k cs j r).isSome = (walk k cs' j r).isSome) : ∀ i, (bestTo n cs D i).isSome = (bestTo n cs' D i).isSome
  | 0 => rfl
  | i + 1 => by
    rw [bestTo_succ, bestTo_succ]
    exact bestIn_some (bestTo_some hw i) (hw _) _
theorem leastSpoil_unit (n : Nat) (cs : List (Nat × Int)) (D : Nat → Nat → Nat) : (leastSpoil n cs D).isSome = (leastSpoil n (unit cs) D).isSome := bestTo_some (fun k j r => walk_unit k cs j r) _
theorem dem_le (x : List Nat) (k t : Nat) : dem x k t ≤ k := by
  unfold dem cntTo
  refine Nat.le_trans List.countP_le_length ?_
  rw [List.length_take]
  omega
/-- the told misses spoil the order -/
theorem spoil_held {n : Nat} {cs : List (Nat × Int)} {x : List Nat} {b : Spoil} (G : Gates n cs) (h : IsSpoil n cs (dem x) b) (S : List Nat) (hS : ∀ a, a < cs.length → (a ∈ S ↔ a ∈ b.2.2.2)) : cap cs n b.2.1 S cs.length b.2.2.1 < dem x b.2.1 b.2.2.1 := by
  have z := miss_cap G (Nat.le_of_lt h.kn) S cs.length b.2.2.1 (dem x b.2.1 b.2.2.1 - 1) b.1 (Nat.le_refl _) (fun a ha => by rw [hS a ha, h.m]) (by rw [List.take_length]; exact h.w)
  have := h.d
  omega
end BM
namespace BM
theorem cmpAt_perm {l : List Nat} {g : Nat} (h1 : 1 ≤ g) (h2 : g < l.length) : (cmpAt l g).Perm l := by
  unfold cmpAt
  by_cases q : l.getD g 0 < l.getD (g - 1) 0
  · rw [if_pos q]
    obtain ⟨i, rfl⟩ : ∃ i, g = i + 1 := ⟨g - 1, by omega⟩
    exact swapAt_perm h2
  · rw [if_neg q]
theorem playF_perm (S : List Nat) : ∀ (gs : List Nat) (i : Nat) (l : List Nat), (∀ c ∈ gs, 1 ≤ c ∧ c < l.length) → (playF S i gs l).Perm l
  | [], _, _, _ => List.Perm.refl _
  | g :: r, i, l, h => by
    have hg := h g List.mem_cons_self
    have e : (if i ∈ S then l else cmpAt l g).Perm l := by
      by_cases q : i ∈ S
      · rw [if_pos q]
      · rw [if_neg q]
        exact cmpAt_perm hg.1 hg.2
    exact (playF_perm S r (i + 1) _ fun c hc => by rw [e.length_eq]; exact h c (List.mem_cons_of_mem _ hc)).trans e
theorem play_perm {gs l S : List Nat} (h : ∀ c ∈ gs, 1 ≤ c ∧ c < l.length) : (play gs l S).Perm l := playF_perm S gs 0 l h
theorem sorted_eq : ∀ {a b : List Nat}, a.Perm b → a.Pairwise (· ≤ ·) → b.Pairwise (· ≤ ·) → a = b
  | [], b, p, _, _ => p.nil_eq
  | x :: a, [], p, _, _ => absurd p.length_eq (by simp)
  | x :: a, y :: b, p, ha, hb => by
    obtain ⟨h1, h2⟩ := List.pairwise_cons.mp ha
    obtain ⟨h3, h4⟩ := List.pairwise_cons.mp hb
    have e : x = y := by
      rcases List.mem_cons.mp (p.mem_iff.mp List.mem_cons_self) with q | q
      · exact q
      · rcases List.mem_cons.mp (p.mem_iff.mpr (List.mem_cons_self (a := y) (l := b))) with r | r
        · exact r.symm
        · have := h1 y r
          have := h3 x q
          omega
    subst e
    rw [sorted_eq (List.perm_cons x |>.mp p) h2 h4]
theorem rise_len {m : Nat} : ∀ {S : List Nat} {a : Nat}, S.Pairwise (· < ·) → (∀ b ∈ S, a ≤ b ∧ b < m) → a ≤ m → S.length + a ≤ m
  | [], a, _, _, h => by simpa using h
  | b :: S, a, h1, h2, _ => by
    obtain ⟨q1, q2⟩ := List.pairwise_cons.mp h1
    obtain ⟨r1, r2⟩ := h2 b List.mem_cons_self
    have := rise_len (S := S) (a := b + 1) q2 (fun c hc => ⟨q1 c hc, (h2 c (List.mem_cons_of_mem _ hc)).2⟩) r2
    simp
    omega
/-- all that is asked of told misses -/
theorem spoil_all {n : Nat} {cs : List (Nat × Int)} {x : List Nat} {b : Spoil} (G : Gates n cs) (hl : x.length = n) (hp : x.Perm (List.range n)) (h : IsSpoil n cs (dem x) b) :
    b.2.2.2.Pairwise (· < ·) ∧ (∀ a ∈ b.2.2.2, a < cs.length) ∧ b.2.2.2.length ≤ cs.length ∧ b.2.1 ≤ n ∧ b.2.2.1 ≤ n ∧ ¬ (play (cs.map (·.1)) x b.2.2.2).Pairwise (· ≤ ·) ∧
    cntFrom (ge (n - b.2.1)) (play (cs.map (·.1)) (falling n) b.2.2.2) b.2.2.1 < dem x b.2.1 b.2.2.1 := by
  have a1 : b.2.2.2.Pairwise (· < ·) := by rw [h.m]; exact miss_asc _ _ _ _ _
  have a2 : ∀ a ∈ b.2.2.2, a < cs.length := by rw [h.m]; exact miss_lt _ _ _ _ _
  have c := spoil_held G h b.2.2.2 fun a _ => Iff.rfl
  refine ⟨a1, a2, rise_len (a := 0) a1 (fun q hq => ⟨Nat.zero_le _, a2 q hq⟩) (Nat.zero_le _), Nat.le_of_lt h.kn, Nat.le_of_lt h.tn, fun s => ?_, ?_⟩
  · refine unsorted G (Nat.le_of_lt h.kn) (Nat.le_of_lt h.tn) hl c (sorted_eq ((play_perm fun g hg => ?_).trans hp) s ?_)
    · obtain ⟨q, hq, rfl⟩ := List.mem_map.mp hg
      rw [hl]
      exact G.g q hq
    · exact List.pairwise_lt_range.imp fun q => Nat.le_of_lt q
  · unfold cap at c
    rw [List.take_length] at c
    exact c
end BM
namespace BW
open PySem PySem.Spec PyProof.Rows L2
/-! ### a def keeps its promise -/
structure Def (P : Program) (w : World) (K : PySem.W.Frag) (mg : Str → Option Value) (base : Heap) (CX : CXT) (k : Nat) (f : Addr) (ps : List Str) (sp : Sp) : Prop where
  ex : ∃ fd, FnOk P w K mg base CX k f fd ps sp ∧ Binds K fd ps []
  kp : PySem.W.keepIn K (.ref f) = true
section
variable {P : Program} {w : World} {K : PySem.W.Frag} {mg : Str → Option Value} {base : Heap}
theorem Def.mono {CX : CXT} {j k : Nat} {f : Addr} {ps : List Str} {sp : Sp} (D : Def P w K mg base CX j f ps sp) (h : j ≤ k) : Def P w K mg base CX k f ps sp := by
  obtain ⟨⟨fd, F, b⟩, kp⟩ := D
  exact ⟨⟨fd, F.mono h, b⟩, kp⟩
/-- how arguments bind where no default stands -/
def BindsN (x qual : Str) (st : Stmt) (ps : List Str) : Prop :=
  ∀ (kV doc pm : Value) (an : Option Addr) (cdv ct : Value) (us : List Value), us.length = ps.length → bindArgs (PySem.W.fnOf x qual (defArgs st) (defBody st) (defScope st) .none kV doc pm an cdv ct) ⟨us, []⟩ = pure (ps.zip us)
/-- a def that lets nothing out -/
theorem mk0 {x qual : Str} {st : Stmt} {f : Addr} {N ps : List Str} {k : Nat} {sp : Sp} (F : ∃ fd, FnP K x qual st f fd) (S : FnScope N ps (defScope st)) (hb : BindsN x qual st ps) (len : ∀ vs H Q E, sp vs H Q E → vs.length = ps.length)
    (body : ∀ (cdv : Value) (A : Around) (outer : List Env) (s : Shared) (H : Hp) (vs : List V) (Q : VK) (E : XK), Room k (A.deeper (envOfC qual (defScope st) s.heap.objs.size f cdv)) → sp vs H Q E →
      ∃ t, PSs (cxOf CX0 P w K mg base N qual (defScope st) f cdv A outer s H E).nox (defBody st) t ∧ t { nx := fun _ H' => Q .non H', rt := Q } (start N vs) H) : Def P w K mg base CX0 (k + 1) f ps sp := by
  obtain ⟨fd, F⟩ := F
  refine ⟨⟨fd, ?_, F.bindsN hb⟩, F.kp⟩
  obtain ⟨oc, od, dV, kV, doc, pm, an, cdv, ct, osl, rfl, lk, hcd, _, _⟩ := F.ex
  refine fn_of lk hcd S len fun A outer s H vs Q E hr hsp => ?_
  obtain ⟨t, h, q⟩ := body cdv A outer s H vs Q E hr hsp
  exact ⟨t, h.nox, q⟩
/-- a def that may let an exception out -/
theorem mkX {CX : CXT} {x qual : Str} {st : Stmt} {f : Addr} {N ps : List Str} {k : Nat} {sp : Sp} (F : ∃ fd, FnP K x qual st f fd) (S : FnScope N ps (defScope st)) (hb : BindsN x qual st ps) (len : ∀ vs H Q E, sp vs H Q E → vs.length = ps.length)
    (body : ∀ (cdv : Value) (A : Around) (outer : List Env) (s : Shared) (H : Hp) (vs : List V) (Q : VK) (E : XK), Room k (A.deeper (envOfC qual (defScope st) s.heap.objs.size f cdv)) → sp vs H Q E →
      ∃ t, PSs (cxOf CX P w K mg base N qual (defScope st) f cdv A outer s H E) (defBody st) t ∧ t { nx := fun _ H' => Q .non H', rt := Q } (start N vs) H) : Def P w K mg base CX (k + 1) f ps sp := by
  obtain ⟨fd, F⟩ := F
  refine ⟨⟨fd, ?_, F.bindsN hb⟩, F.kp⟩
  obtain ⟨oc, od, dV, kV, doc, pm, an, cdv, ct, osl, rfl, lk, hcd, _, _⟩ := F.ex
  exact fn_of lk hcd S len fun A outer s H vs Q E hr hsp => body cdv A outer s H vs Q E hr hsp
end
/-! ### calls of such defs -/
section
variable {X : Cx} {CX : CXT} {k : Nat} {f C : Addr} {ps : List Str} {sp : Sp} {x m : Str} {p pos apos : Pos} {e o : Expr} {es : List Expr} {t : TA} {ta : TE} {E : XK}
theorem pe_cl (D : Def X.prog X.w X.K X.mg X.base CX k f ps sp) (hr : Room k X.A) (hm : X.mg x = some (.ref f)) (hx : Passes CX X E) (ha : PA X (e :: es) t) (hg : Gl X x := by rfl) (hdb : (x == ("__debug__" : Str)) = false := by decide)
    (he : starEach (e :: es) X.env = (false, eval e X.env) :: starEach es X.env := by rfl) (hpl : (backTo pos (starEach es X.env)).any (·.1) = false := by rfl) : PE X (.Call (.Name x p) (e :: es) [] pos) (tCall sp [] E t) := by
  obtain ⟨⟨fd, F, b⟩, kp⟩ := D
  exact pe_call F hr hg hm kp b .nil hx ha hdb he hpl
theorem pe_cl0 (D : Def X.prog X.w X.K X.mg X.base CX k f ps sp) (hr : Room k X.A) (hm : X.mg x = some (.ref f)) (hx : Passes CX X E) (hg : Gl X x := by rfl) (hdb : (x == ("__debug__" : Str)) = false := by decide) :
    PE X (.Call (.Name x p) [] [] pos) (tCall sp [] E tNil) := by
  obtain ⟨⟨fd, F, b⟩, kp⟩ := D
  exact pe_call0 F hr hg hm kp b .nil hx hdb
theorem pe_mt {pl : Sem Bool} (he : PE X o ta) (c : Cls X.K C) (hm : Meth X.K C m f) (D : Def X.prog X.w X.K X.mg X.base CX k f ps sp) (hr : Room k X.A) (hx : Passes CX X E) (ha : PA X (e :: es) t)
    (hst : starEach (e :: es) X.env = (false, eval e X.env) :: starEach es X.env := by rfl) (hpl : (backTo pos (starEach es X.env)).any (·.1) = false := by rfl)
    (ht : eval (.Call (.Attribute o m apos) (e :: es) [] pos) X.env = (do
      let ov ← eval o X.env
      standAt apos.atName
      let (f, first) ← holding [ov] (getMethod ov m pl)
      callWith pos f first (backTo pos (starEach (e :: es) X.env)) (backToKw pos (keywordEach [] X.env))) := by rfl) : PE X (.Call (.Attribute o m apos) (e :: es) [] pos) (tMeth C m sp [] E ta t) := by
  obtain ⟨⟨fd, F, b⟩, kp⟩ := D
  exact pe_meth he c hm F hr b .nil hx ha hst hpl ht
theorem pe_mt0 {pl : Sem Bool} (he : PE X o ta) (c : Cls X.K C) (hm : Meth X.K C m f) (D : Def X.prog X.w X.K X.mg X.base CX k f ps sp) (hr : Room k X.A) (hx : Passes CX X E)
    (ht : eval (.Call (.Attribute o m apos) [] [] pos) X.env = (do
      let ov ← eval o X.env
      standAt apos.atName
      let (f, first) ← holding [ov] (getMethod ov m pl)
      callWith pos f first (backTo pos (starEach [] X.env)) (backToKw pos (keywordEach [] X.env))) := by rfl) : PE X (.Call (.Attribute o m apos) [] [] pos) (tMeth C m sp [] E ta tNil) := by
  obtain ⟨⟨fd, F, b⟩, kp⟩ := D
  exact pe_meth0 he c hm F hr b .nil hx ht
theorem pe_mk (M : Mk X.K C f) (D : Def X.prog X.w X.K X.mg X.base CX k f ps sp) (hr : Room (k + 1) X.A) (hm : X.mg x = some (.ref C)) (hx : Passes CX X E) (ha : PA X (e :: es) t) (hg : Gl X x := by rfl) (hdb : (x == ("__debug__" : Str)) = false := by decide)
    (he : starEach (e :: es) X.env = (false, eval e X.env) :: starEach es X.env := by rfl) (hpl : (backTo pos (starEach es X.env)).any (·.1) = false := by rfl) : PE X (.Call (.Name x p) (e :: es) [] pos) (tMake C sp [] E t) := by
  obtain ⟨⟨fd, F, b⟩, kp⟩ := D
  exact pe_make M F hr hg hm b .nil hx ha hdb he hpl
theorem pe_mk0 (M : Mk X.K C f) (D : Def X.prog X.w X.K X.mg X.base CX k f ps sp) (hr : Room (k + 1) X.A) (hm : X.mg x = some (.ref C)) (hx : Passes CX X E) (hg : Gl X x := by rfl) (hdb : (x == ("__debug__" : Str)) = false := by decide) :
    PE X (.Call (.Name x p) [] [] pos) (tMake C sp [] E tNil) := by
  obtain ⟨⟨fd, F, b⟩, kp⟩ := D
  exact pe_make0 M F hr hg hm b .nil hx hdb
/-- a module's number -/
theorem pe_gi {i : Int} (hm : ∃ t, X.mg x = some (.int i t)) (hg : Gl X x := by rfl) (hd : (x == ("__debug__" : Str)) = false := by decide) : PE X (.Name x pos) (tC (.int i)) := by
  obtain ⟨t, hm⟩ := hm
  exact pe_glob hg hm ⟨t, rfl⟩ hd
/-- a built-in class as a value -/
theorem pe_ty {n : String} (hm : X.mg x = none) (hv : bootBuiltins x = some (.type n)) (hg : Gl X x := by rfl) (hn : x ≠ "__name__" := by decide) (hd : (x == ("__debug__" : Str)) = false := by decide) : PE X (.Name x pos) (tC (.ty n)) := pe_bltn hg hm hv rfl hn hd
end
end BW
namespace BW
open PySem PySem.Spec PyProof.Rows L2
/-! ### readings, one step after another -/
/-- a new thing is laid -/
def Al (o : HO) (H : Hp) (Q : VK) : Prop := ∀ p, H p = none → Q (.ref p) (upd H p o)
theorem upd_old {p : Addr} {o z : HO} {H : Hp} {a : Addr} (h : H a = some z) (hp : H p = none) : upd H p o a = some z := (upd_ne (ne_of_none h hp)).trans h
theorem same_new {p : Addr} {o : HO} {H : Hp} (hp : H p = none) : Same H (upd H p o) := fun _ _ h => upd_old h hp
theorem al_ {o : HO} {H : Hp} {Q : VK} (k : ∀ p H', Same H H' → H p = none → H' p = some o → Q (.ref p) H') : ∀ p, H p = none → Q (.ref p) (upd H p o) := fun p hp => k p _ (same_new hp) hp upd_same
theorem r_new {n : Nat} {o : HO} {H : Hp} {Q : VK} (h : n ≤ 100000) (k : ∀ p H', Same H H' → H p = none → H' p = some o → Q (.ref p) H') : n ≤ sizeLine ∧ Al o H Q := ⟨Nat.le_trans h (by decide), al_ k⟩
section
variable {K : PySem.W.Frag} {σ : L2.St} {H : Hp} {Q : VK} {QB : Bool → Hp → Prop} {QA : List V → Hp → Prop} {QO : Option Int → Hp → Prop} {D : Ends} {ta tb tc te : TE} {t u : TT} {ts tr : TS} {a : Addr} {x y v : V} {b : Bool} {i : Nat} {g : TG} {r : R2} {i1 i2 : Int}
theorem r_seq (k : ts { D with nx := tr D } σ H) : tSeq ts tr D σ H := k
theorem r_next (k : D.nx σ H) : tNext D σ H := k
theorem r_var (h : σ[i]? = some (some v)) (k : Q v H) : tVar i σ H Q := ⟨v, h, k⟩
theorem r_c (k : Q v H) : tC v σ H Q := k
theorem r_op (k : ta σ H fun x H1 => tb σ H1 fun y H2 => r x y H2 Q) : tOp r ta tb σ H Q := k
theorem r_un {ru : V → Hp → VK → Prop} (k : ta σ H fun x H1 => ru x H1 Q) : tUn ru ta σ H Q := k
theorem r_test (k : te σ H fun x H' => ∃ k, x = .bl k ∧ QB k H') : tTest te σ H QB := k
theorem r_tB (k : te σ H fun x H' => ∃ k, x = .bl k ∧ QB k H') : tB te σ H QB := k
theorem r_bl (k : QB b H) : ∃ k, V.bl b = .bl k ∧ QB k H := ⟨b, rfl, k⟩
theorem r_asg (k : te σ H fun x H1 => g x σ H1 D.nx) : tAsg te g D σ H := k
theorem r_name {Q : L2.St → Hp → Prop} (k : Q (σ.set i (some v)) H) : gName i v σ H Q := k
theorem r_ret (k : te σ H D.rt) : tRet te D σ H := k
theorem r_retN (k : D.rt .non H) : tRetN D σ H := k
theorem r_drop (k : te σ H fun _ H1 => D.nx σ H1) : tDrop te D σ H := k
theorem r_if (k : t σ H fun b H1 => if b = true then ts D σ H1 else tr D σ H1) : tIfS t ts tr D σ H := k
theorem r_ifE (k : t σ H fun b H1 => if b = true then ta σ H1 Q else tb σ H1 Q) : tIf t ta tb σ H Q := k
theorem r_and (k : t σ H fun c H1 => if c = true then u σ H1 QB else QB false H1) : tAnd t u σ H QB := k
theorem r_or (k : t σ H fun c H1 => if c = true then QB true H1 else u σ H1 QB) : tOr t u σ H QB := k
theorem r_not (k : t σ H fun c H1 => QB (!c) H1) : tNot t σ H QB := k
theorem r_andV (k : ta σ H fun x H1 => ∃ c, x = .bl c ∧ if c = true then tb σ H1 Q else Q (.bl false) H1) : tAndV ta tb σ H Q := k
theorem r_orV (k : ta σ H fun x H1 => ∃ c, x = .bl c ∧ if c = true then Q (.bl true) H1 else tb σ H1 Q) : tOrV ta tb σ H Q := k
theorem r_notV (k : ta σ H fun x H1 => ∃ c, x = .bl c ∧ Q (.bl (!c)) H1) : tNotV ta σ H Q := k
theorem r_blF {F : Bool → Prop} (k : F b) : ∃ c, V.bl b = .bl c ∧ F c := ⟨b, rfl, k⟩
theorem iteNT {A B : Prop} (h : B) : if (!true) = true then A else B := h
theorem iteNF {A B : Prop} (h : A) : if (!false) = true then A else B := h
theorem r_blI {A B : Bool → Prop} (k : if b = true then A b else B b) : ∃ c, V.bl b = .bl c ∧ if c = true then A c else B c := ⟨b, rfl, k⟩
theorem r_blV {F : Bool → Hp → Prop} (k : F b H) : ∃ c, V.bl b = .bl c ∧ F c H := ⟨b, rfl, k⟩
theorem r_chain {r' : R2} (k : ta σ H fun x H1 => tb σ H1 fun y H2 => r x y H2 fun z H3 => ∃ k, z = .bl k ∧ (if k = true then tc σ H3 fun w' H4 => r' y w' H4 Q else Q (.bl false) H3)) : tChain r r' ta tb tc σ H Q := k
theorem r_nil (k : QA [] H) : tNil σ H QA := k
theorem r_cons {trr : TA} (k : ta σ H fun x H1 => trr σ H1 fun xs H2 => QA (x :: xs) H2) : tCons ta trr σ H QA := k
theorem r_call {sp : Sp} {dvs : List V} {E : XK} {tt : TA} (k : tt σ H fun vs H1 => sp (vs ++ dvs) H1 Q E) : tCall sp dvs E tt σ H Q := k
theorem r_cb {rc : List V → Hp → VK → Prop} {tt : TA} (k : tt σ H fun vs H1 => rc vs H1 Q) : tCB rc tt σ H Q := k
theorem r_tup {tt : TA} (k : tt σ H fun xs H1 => xs.length ≤ sizeLine ∧ Al (.tup xs) H1 Q) : tTup tt σ H Q := k
theorem r_lst {tt : TA} (k : tt σ H fun xs H1 => xs.length ≤ sizeLine ∧ Al (.lst xs) H1 Q) : tLst tt σ H Q := k
theorem r_I0 {f : Int → Int → V} (k : Q (f i1 i2) H) : rI0 f (.int i1) (.int i2) H Q := ⟨i1, i2, rfl, rfl, k⟩
theorem r_I {C : Int → Int → Prop} {f : Int → Int → V} (hc : C i1 i2) (k : Q (f i1 i2) H) : rI C f (.int i1) (.int i2) H Q := ⟨i1, i2, rfl, rfl, hc, k⟩
theorem r_U {f : Int → V} (k : Q (f i1) H) : rU f (.int i1) H Q := ⟨i1, rfl, k⟩
theorem decI : decide (V.int i1 = V.int i2) = decide (i1 = i2) := by
  by_cases e : i1 = i2
  · rw [e]; simp
  · rw [decide_eq_false e]; exact decide_eq_false fun z => e (V.int.inj z)
theorem decS {a b : Str} : decide (V.str a = V.str b) = decide (a = b) := by
  by_cases e : a = b
  · rw [e]; simp
  · rw [decide_eq_false e]; exact decide_eq_false fun z => e (V.str.inj z)
theorem r_eqI (k : Q (.bl (decide (i1 = i2))) H) : rEq (.int i1) (.int i2) H Q := ⟨rfl, by rw [decI]; exact k⟩
theorem r_neI (k : Q (.bl (!decide (i1 = i2))) H) : rNe (.int i1) (.int i2) H Q := ⟨rfl, by rw [decI]; exact k⟩
theorem r_eqS {a b : Str} (k : Q (.bl (decide (a = b))) H) : rEq (.str a) (.str b) H Q := ⟨rfl, by rw [decS]; exact k⟩
theorem r_neS {a b : Str} (k : Q (.bl (!decide (a = b))) H) : rNe (.str a) (.str b) H Q := ⟨rfl, by rw [decS]; exact k⟩
theorem r_eqQ (h : scal x y = true) (k : Q (.bl (decide (x = y))) H) : rEq x y H Q := ⟨h, k⟩
theorem r_isN (k : Q (.bl (decide (x = .non))) H) : (fun x y H (Q : VK) => y = V.non ∧ Q (.bl (decide (x = .non))) H) x .non H Q := ⟨rfl, k⟩
theorem r_isN' {A : Prop} {v : V} (k : A) : v = v ∧ A := ⟨rfl, k⟩
theorem iteD {p : Prop} [Decidable p] {A B : Prop} (h1 : p → A) (h2 : ¬ p → B) : if decide p = true then A else B := by
  by_cases e : p
  · rw [decide_eq_true e]; exact h1 e
  · rw [decide_eq_false e]; exact h2 e
theorem iteDN {p : Prop} [Decidable p] {A B : Prop} (h1 : ¬ p → A) (h2 : p → B) : if (!decide p) = true then A else B := by
  by_cases e : p
  · rw [decide_eq_true e]; exact h2 e
  · rw [decide_eq_false e]; exact h1 e
theorem iteT' {A B : Prop} (h : A) : if true = true then A else B := h
theorem iteF' {A B : Prop} (h : B) : if false = true then A else B := h
theorem iteYes {p : Prop} [Decidable p] {A B : Prop} (e : p) (h : A) : if decide p = true then A else B := by rw [decide_eq_true e]; exact h
theorem iteNo {p : Prop} [Decidable p] {A B : Prop} (e : ¬ p) (h : B) : if decide p = true then A else B := by rw [decide_eq_false e]; exact h
theorem iteYesN {p : Prop} [Decidable p] {A B : Prop} (e : ¬ p) (h : A) : if (!decide p) = true then A else B := by rw [decide_eq_false e]; exact h
theorem iteNoN {p : Prop} [Decidable p] {A B : Prop} (e : p) (h : B) : if (!decide p) = true then A else B := by rw [decide_eq_true e]; exact h
theorem iteB {A B : Prop} (h1 : b = true → A) (h2 : b = false → B) : if b = true then A else B := by
  cases b
  · exact h2 rfl
  · exact h1 rfl
/-! ### heaps -/
/-- everything but what stands at fp is kept -/
def But (fp : List Addr) (H H' : Hp) : Prop := ∀ c o, H c = some o → c ∉ fp → H' c = some o
theorem But.same {H' : Hp} (h : Same H H') (fp : List Addr) : But fp H H' := fun c o e _ => h c o e
theorem same_but {H' : Hp} (h : But [] H H') : Same H H' := fun c o e => h c o e (by simp)
theorem sq_same {H' : Hp} {xs : List V} (e : Same H H') (h : SqL K H a xs) : SqL K H' a xs := e.seq h
theorem st_same {H' : Hp} {xs : List V} (e : Same H H') (h : SqT K H a xs) : SqT K H' a xs := by
  rcases h with (h | ⟨o, h⟩) | h
  · exact .inl (.inl (e _ _ h))
  · exact .inl (.inr ⟨o, e _ _ h⟩)
  · exact .inr h
end
end BW
namespace BW
open PySem PySem.Spec PyProof.Rows L2
/-! ### data -/
def vI (l : List Int) : List V := l.map V.int
def vN (l : List Nat) : List V := l.map fun n : Nat => V.int (n : Int)
def oV : Option Int → V
  | none => .non
  | some i => .int i
def vO (l : List (Option Int)) : List V := l.map oV
theorem vN_len (l : List Nat) : (vN l).length = l.length := by simp [vN]
theorem vI_len (l : List Int) : (vI l).length = l.length := by simp [vI]
theorem vO_len (l : List (Option Int)) : (vO l).length = l.length := by simp [vO]
theorem vN_vI (l : List Nat) : vN l = vI (l.map fun n : Nat => (n : Int)) := by simp [vN, vI]
theorem vN_at {l : List Nat} {i : Nat} (h : i < l.length) : (vN l)[i]? = some (.int ((l.getD i 0 : Nat) : Int)) := by
  unfold vN
  rw [List.getElem?_map, List.getElem?_eq_getElem h, BM.getD_lt 0 h]
  rfl
theorem vI_at {l : List Int} {i : Nat} (h : i < l.length) : (vI l)[i]? = some (.int (l.getD i 0)) := by
  unfold vI
  rw [List.getElem?_map, List.getElem?_eq_getElem h, BM.getD_lt 0 h]
  rfl
theorem vN_of {l : List Nat} {i : Nat} {x : V} (h : (vN l)[i]? = some x) : i < l.length ∧ x = .int ((l.getD i 0 : Nat) : Int) := by
  have hi := (List.getElem?_eq_some_iff.mp h).1
  rw [vN_len] at hi
  rw [vN_at hi] at h
  exact ⟨hi, (Option.some.inj h).symm⟩
theorem vI_of {l : List Int} {i : Nat} {x : V} (h : (vI l)[i]? = some x) : i < l.length ∧ x = .int (l.getD i 0) := by
  have hi := (List.getElem?_eq_some_iff.mp h).1
  rw [vI_len] at hi
  rw [vI_at hi] at h
  exact ⟨hi, (Option.some.inj h).symm⟩
theorem pair_len {α β : Type} {F : α → β → Prop} {l : List α} {m : List β} (h : Paired F l m) : l.length = m.length := h.length
theorem pair_at {α β : Type} {F : α → β → Prop} : ∀ {l : List α} {m : List β} {i : Nat} {a : α} {b : β}, Paired F l m → l[i]? = some a → m[i]? = some b → F a b
  | _, _, 0, _, _, .cons h _, e1, e2 => by simp at e1 e2; subst e1; subst e2; exact h
  | _, _, i + 1, _, _, .cons _ t, e1, e2 => pair_at (i := i) t (by simpa using e1) (by simpa using e2)
  | _, _, i, _, _, .nil, e1, _ => by simp at e1
theorem pair_atL {α β : Type} {F : α → β → Prop} {l : List α} {m : List β} {i : Nat} {a : α} (h : Paired F l m) (e : l[i]? = some a) : ∃ b, m[i]? = some b ∧ F a b := by
  have hi := (List.getElem?_eq_some_iff.mp e).1
  rw [h.length] at hi
  exact ⟨m[i], List.getElem?_eq_getElem hi, pair_at h e (List.getElem?_eq_getElem hi)⟩
theorem pair_atR {α β : Type} {F : α → β → Prop} {l : List α} {m : List β} {i : Nat} {b : β} (h : Paired F l m) (e : m[i]? = some b) : ∃ a, l[i]? = some a ∧ F a b := by
  have hi := (List.getElem?_eq_some_iff.mp e).1
  rw [← h.length] at hi
  exact ⟨l[i], List.getElem?_eq_getElem hi, pair_at h (List.getElem?_eq_getElem hi) e⟩
theorem pair_app {α β : Type} {F : α → β → Prop} : ∀ {l l' : List α} {m m' : List β}, Paired F l m → Paired F l' m' → Paired F (l ++ l') (m ++ m')
  | _, _, _, _, .nil, h => h
  | _, _, _, _, .cons a t, h => .cons a (pair_app t h)
theorem pair_take {α β : Type} {F : α → β → Prop} : ∀ {l : List α} {m : List β} (n : Nat), Paired F l m → Paired F (l.take n) (m.take n)
  | _, _, 0, _ => .nil
  | _, _, _ + 1, .nil => .nil
  | _, _, n + 1, .cons a t => .cons a (pair_take n t)
theorem pair_drop {α β : Type} {F : α → β → Prop} : ∀ {l : List α} {m : List β} (n : Nat), Paired F l m → Paired F (l.drop n) (m.drop n)
  | _, _, 0, h => h
  | _, _, _ + 1, .nil => .nil
  | _, _, n + 1, .cons _ t => pair_drop n t
theorem pair_mono {α β : Type} {F G : α → β → Prop} {l : List α} {m : List β} (h : Paired F l m) (k : ∀ a b, F a b → G a b) : Paired G l m := Paired.mapP h k
/-- a list of those values stands at v -/
def Lst (H : Hp) (v : V) (vs : List V) : Prop := ∃ a, v = .ref a ∧ H a = some (.lst vs)
theorem Lst.mono {H H' : Hp} {v : V} {vs : List V} (h : Lst H v vs) (e : Same H H') : Lst H' v vs := by
  obtain ⟨a, e1, e2⟩ := h
  exact ⟨a, e1, e _ _ e2⟩
/-- a list of lists -/
def Tb {β : Type} (f : β → List V) (H : Hp) (v : V) (T : List β) : Prop := ∃ vs, Lst H v vs ∧ Paired (fun u row => Lst H u (f row)) vs T
theorem Tb.mono {β : Type} {f : β → List V} {H H' : Hp} {v : V} {T : List β} (h : Tb f H v T) (e : Same H H') : Tb f H' v T := by
  obtain ⟨vs, h1, h2⟩ := h
  exact ⟨vs, h1.mono e, pair_mono h2 fun _ _ z => z.mono e⟩
def Tb3 {β : Type} (f : β → List V) (H : Hp) (v : V) (T : List (List β)) : Prop := ∃ vs, Lst H v vs ∧ Paired (fun u t => Tb f H u t) vs T
theorem Tb3.mono {β : Type} {f : β → List V} {H H' : Hp} {v : V} {T : List (List β)} (h : Tb3 f H v T) (e : Same H H') : Tb3 f H' v T := by
  obtain ⟨vs, h1, h2⟩ := h
  exact ⟨vs, h1.mono e, pair_mono h2 fun _ _ z => z.mono e⟩
/-- a comparison (gate, price) -/
def RowAt (H : Hp) (v : V) (c : Nat × Int) : Prop := ∃ q, v = .ref q ∧ H q = some (.tup [.int (c.1 : Int), .int c.2])
theorem RowAt.mono {H H' : Hp} {v : V} {c : Nat × Int} (h : RowAt H v c) (e : Same H H') : RowAt H' v c := by
  obtain ⟨a, e1, e2⟩ := h
  exact ⟨a, e1, e _ _ e2⟩
abbrev Rows (H : Hp) : List V → List (Nat × Int) → Prop := Paired (RowAt H)
theorem Rows.mono {H H' : Hp} {vs : List V} {cs : List (Nat × Int)} (h : Rows H vs cs) (e : Same H H') : Rows H' vs cs := pair_mono h fun _ _ z => z.mono e
/-- tables by functions -/
def tabN (n m : Nat) (f : Nat → Nat → Nat) : List (List Nat) := (List.range n).map fun k => (List.range m).map (f k)
def tabO (n m : Nat) (f : Nat → Nat → Option Int) : List (List (Option Int)) := (List.range n).map fun k => (List.range m).map (f k)
theorem range_map_at {α : Type} {n i : Nat} (f : Nat → α) (h : i < n) : ((List.range n).map f)[i]? = some (f i) := by
  rw [List.getElem?_map, List.getElem?_eq_getElem (by simpa using h)]
  simp
theorem vO_at {n i : Nat} (f : Nat → Option Int) (h : i < n) : (vO ((List.range n).map f))[i]? = some (oV (f i)) := by
  unfold vO
  rw [List.getElem?_map, range_map_at f h]
  rfl
theorem vNr_at {n i : Nat} (f : Nat → Nat) (h : i < n) : (vN ((List.range n).map f))[i]? = some (.int ((f i : Nat) : Int)) := by
  unfold vN
  rw [List.getElem?_map, range_map_at f h]
  rfl
/-! ### more steps -/
section
variable {K : PySem.W.Frag} {σ : L2.St} {H : Hp} {Q : VK} {D : Ends} {a C dx : Addr} {x v : V} {xs : List V} {z : Int} {j : Nat} {fs : List (Str × V)} {f : Str}
theorem sl_of (h : H a = some (.lst xs)) : SqL K H a xs := .inl (.inl h)
theorem st_of (h : H a = some (.tup xs)) : SqT K H a xs := .inl (.inl h)
theorem r_ixL (h : H a = some (.lst xs)) (e : z = ((j : Nat) : Int)) (hj : xs[j]? = some v) (k : Q v H) : rIxL K (.ref a) (.int z) H Q := ⟨a, xs, z, v, rfl, rfl, sl_of h, at_of e hj, k⟩
theorem r_ixS (h : SqL K H a xs) (e : z = ((j : Nat) : Int)) (hj : xs[j]? = some v) (k : Q v H) : rIxL K (.ref a) (.int z) H Q := ⟨a, xs, z, v, rfl, rfl, h, at_of e hj, k⟩
theorem r_ixT (h : H a = some (.tup xs)) (e : z = ((j : Nat) : Int)) (hj : xs[j]? = some v) (k : Q v H) : rIxT K (.ref a) (.int z) H Q := ⟨a, xs, z, v, rfl, rfl, st_of h, at_of e hj, k⟩
/-- xs[-1] -/
theorem r_ixLast {ys : List V} (h : H a = some (.lst (ys ++ [v]))) (k : Q v H) : rIxL K (.ref a) (.int (-1)) H Q := ⟨a, _, _, v, rfl, rfl, sl_of h, atI_last ys v, k⟩
theorem r_fld {F : V → Prop} (h : H a = some (.ins C dx fs)) (c : Cls K C) (n : NoAttr K C f) (l : fs.lookup f = some v) (k : F v) : ∃ a' C dx fs v, V.ref a = V.ref a' ∧ H a' = some (.ins C dx fs) ∧ Cls K C ∧ NoAttr K C f ∧ fs.lookup f = some v ∧ F v := ⟨a, C, dx, fs, v, rfl, h, c, n, l, k⟩
theorem r_fld0 {ta : TE} (k : ta σ H fun x H1 => ∃ a C dx fs v, x = .ref a ∧ H1 a = some (.ins C dx fs) ∧ Cls K C ∧ NoAttr K C f ∧ fs.lookup f = some v ∧ Q v H1) : tFld K ta f σ H Q := k
theorem r_lenL {F : List V → Prop} (h : H a = some (.lst xs)) (k : F xs) : ∃ p ys, [V.ref a] = [V.ref p] ∧ (SqL K H p ys ∨ SqT K H p ys) ∧ F ys := ⟨a, xs, rfl, .inl (sl_of h), k⟩
theorem r_lenT {F : List V → Prop} (h : H a = some (.tup xs)) (k : F xs) : ∃ p ys, [V.ref a] = [V.ref p] ∧ (SqL K H p ys ∨ SqT K H p ys) ∧ F ys := ⟨a, xs, rfl, .inr (st_of h), k⟩
theorem r_isi {x c : V} {t u : Value} {b : Bool} (h1 : ClsV c u) (h2 : TyX K H x t) (h3 : PySem.W.kitOne K t u = some b) (k : Q (.bl b) H) : rIsi K [x, c] H Q := ⟨x, c, t, u, b, rfl, h1, h2, h3, k⟩
theorem r_isiB {x : V} {t n : String} {b : Bool} (h2 : TyX K H x (.type t)) (h3 : kitB t n = some b) (k : Q (.bl b) H) : rIsi K [x, .ty n] H Q := ⟨x, _, _, _, b, rfl, .ty n, h2, kit_ty h3, k⟩
theorem r_app {y : V} (h : H a = some (.lst xs)) (hz : xs.length ≤ 10000) (k : Q .non (upd H a (.lst (xs ++ [y])))) : rAppend (.ref a) [y] H Q := ⟨a, xs, y, rfl, rfl, h, Nat.lt_of_le_of_lt hz (by decide), k⟩
theorem r_bm {T : String} {r : V → List V → Hp → VK → Prop} {to : TE} {t : TA} (k : to σ H fun x H1 => tyV K T x H1 ∧ t σ H1 fun xs H2 => r x xs H2 Q) : tBM K T r to t σ H Q := k
theorem r_bm0 {T : String} {r : V → List V → Hp → VK → Prop} {to : TE} (k : to σ H fun x H1 => tyV K T x H1 ∧ r x [] H1 Q) : tBM0 K T r to σ H Q := k
theorem r_tyL {A : Prop} (h : H a = some (.lst xs)) (k : A) : tyV K "list" (.ref a) H ∧ A := ⟨.inl ⟨rfl, xs, sl_of h⟩, k⟩
theorem r_set {Q : Hp → Prop} {y : V} (h : H a = some (.lst xs)) (e : z = ((j : Nat) : Int)) (hj : j < xs.length) (k : Q (upd H a (.lst (xs.set j y)))) : rSetL (.ref a) (.int z) y H Q := ⟨a, xs, z, j, rfl, rfl, h, by
  subst e
  unfold ixN
  rw [if_pos (by omega), if_pos (by omega)]
  simp, k⟩
theorem r_sub {to ti : TE} {t : TSet} {QS : L2.St → Hp → Prop} (k : to σ H fun o H1 => ti σ H1 fun i H2 => t o i v H2 fun H3 => QS σ H3) : gSub to ti t v σ H QS := k
theorem r_par {i j : Nat} {ta : TA} (k : ta σ H fun vs H1 => ∃ v w, vs = [v, w] ∧ D.nx ((σ.set i (some v)).set j (some w)) H1) : tPar i j ta D σ H := k
theorem r_par2 {v w : V} {F : V → V → Prop} (k : F v w) : ∃ v' w', [v, w] = [v', w'] ∧ F v' w' := ⟨v, w, rfl, k⟩
end
/-! ### comprehensions -/
/-- each turn gives v i, or nothing; the heap only grows -/
theorem lc_vals {J : It} {n : Nat} {G : Hp → Prop} {Y : Nat → Hp → V → Hp → Prop} (w : Walk J n G Y) {g : TG} {tt : TT} {te : TE} {vs : List Nat} {σ : L2.St} {H1 : Hp} {D : Addr} {Qd : Hp → Prop} (hD : H1 D = none) (f : Nat → Bool) (v : Nat → V) (hn : n ≤ 10000)
    (hG : ∀ H, Same H1 H → G H) (hY : ∀ i H x H', Y i H x H' → Same H H')
    (hs : ∀ i x H H' (QY : VK) (QN : Hp → Prop), i < n → Same H1 H → Y i H x H' → (f i = true → ∀ H4, Same H' H4 → QY (v i) H4) → (f i = false → ∀ H4, Same H' H4 → QN H4) →
      g x (wipe σ vs) H' fun σ2 H2 => wipe σ2 vs = wipe σ vs ∧ tt σ2 H2 fun b H3 => if b = true then te σ2 H3 QY else QN H3)
    (hd : ∀ H, Same H1 H → H D = some (.lst (((List.range n).filter f).map v)) → Qd H) :
    ∃ W : Nat → Nat → Hp → Prop, (∃ m, W 0 m (upd H1 D (.lst []))) ∧ ∀ i m H, W i m H →
      (J.stop i H ∧ Qd H) ∨ (J.go i H ∧ ∃ Nx : Hp → Prop, (∀ H', Nx H' → ∃ m', m' < m ∧ W (i + 1) m' H') ∧ ∀ x H', J.yld i H x H' → g x (wipe σ vs) H' fun σ2 H2 => wipe σ2 vs = wipe σ vs ∧ tt σ2 H2 fun b H3 =>
        if b = true then te σ2 H3 fun y H4 => ∃ acc, H4 D = some (.lst acc) ∧ acc.length < sizeLine ∧ Nx (upd H4 D (.lst (acc ++ [y]))) else Nx H3) := by
  have fr : ∀ i, (List.range (i + 1)).filter f = (List.range i).filter f ++ (if f i = true then [i] else []) := fun i => by
    rw [List.range_succ, List.filter_append]
    congr 1
    by_cases h : f i = true
    · simp [h]
    · simp [h]
  refine lc_it w (fun i H => Same H1 H ∧ H D = some (.lst (((List.range i).filter f).map v))) ⟨same_new hD, upd_same⟩ (fun i H _ p => hG H p.1) (fun i x H H' hi p y => ?_) (fun H p => hd H p.1 p.2)
  have s1 := hY i H x H' y
  refine hs i x H H' _ _ hi p.1 y (fun hf H4 s4 => ?_) (fun hf H4 s4 => ?_)
  · refine ⟨_, s4 _ _ (s1 _ _ p.2), ?_, fun c o e => ?_, ?_⟩
    · rw [List.length_map]
      refine Nat.lt_of_le_of_lt (List.length_filter_le _ _) ?_
      rw [List.length_range]
      exact Nat.lt_of_lt_of_le hi (Nat.le_trans hn (by decide))
    · rw [upd_ne (ne_of_none e hD)]
      exact s4 _ _ (s1 _ _ (p.1 _ _ e))
    · rw [upd_same, fr, if_pos hf, List.map_append]
      rfl
  · refine ⟨fun c o e => s4 _ _ (s1 _ _ (p.1 _ _ e)), ?_⟩
    rw [fr, hf]
    simp only [Bool.false_eq_true, if_false, List.append_nil]
    exact s4 _ _ (s1 _ _ p.2)
theorem pair_map {α β γ : Type} {F : α → γ → Prop} {val : β → γ} {l : List α} {m : List β} (h : Paired (fun u b => F u (val b)) l m) : Paired F l (m.map val) := by
  induction h with
  | nil => exact .nil
  | cons a t ih => exact .cons a ih
/-- what stands there is this -/
def Stands (H : Hp) (u : V) (o : HO) : Prop := ∃ p, u = .ref p ∧ H p = some o
theorem Stands.mono {H H' : Hp} {u : V} {o : HO} (h : Stands H u o) (e : Same H H') : Stands H' u o := by
  obtain ⟨p, e1, e2⟩ := h
  exact ⟨p, e1, e _ _ e2⟩
/-- knowledge of which D is no part -/
structure Kn (H1 : Hp) (D : Addr) (F : Hp → List V → Prop) (H : Hp) : Prop where
  ex : ∃ B ys, Same H1 B ∧ Same B H ∧ B D = none ∧ H D = some (.lst ys) ∧ F B ys
theorem kn_new {H1 : Hp} {D : Addr} {F : Hp → List V → Prop} (hD : H1 D = none) (h : F H1 []) : Kn H1 D F (upd H1 D (.lst [])) := ⟨H1, [], fun _ _ h => h, same_new hD, hD, upd_same, h⟩
/-- a new thing at p is known, and stands at the end of the list -/
theorem kn_app {H1 B H H4 : Hp} {D p : Addr} {ys : List V} {F : Hp → List V → Prop} {o : HO} (h1 : Same H1 B) (h2 : Same B H) (hB : B D = none) (hD : H D = some (.lst ys)) (hp : H p = none) (s : Same H H4) (h4 : H4 p = some o) (k : F (upd B p o) (ys ++ [.ref p])) : Kn H1 D F (upd H4 D (.lst (ys ++ [.ref p]))) := by
  have pB : B p = none := by
    cases e : B p with
    | none => rfl
    | some o' => exact absurd (h2 _ _ e) (by rw [hp]; simp)
  have pD : p ≠ D := by
    intro e
    rw [e, hD] at hp
    cases hp
  have hBD : upd B p o D = none := (upd_ne (Ne.symm pD)).trans hB
  refine ⟨_, _, fun c o' e => upd_old (h1 _ _ e) pB, fun c o' e => ?_, hBD, upd_same, k⟩
  have e : upd B p o c = some o' := e
  have c1 : c ≠ D := ne_of_none e hBD
  rw [upd_ne c1]
  by_cases e1 : c = p
  · subst e1
    rw [upd_same] at e
    rw [← e]
    exact h4
  · rw [upd_ne e1] at e
    exact s _ _ (h2 _ _ e)
theorem kn_appV {H1 B H4 : Hp} {D : Addr} {y : V} {ys : List V} {F : Hp → List V → Prop} (h1 : Same H1 B) (h2 : Same B H4) (hB : B D = none) (k : F B (ys ++ [y])) : Kn H1 D F (upd H4 D (.lst (ys ++ [y]))) := by
  refine ⟨_, _, h1, fun c o' e => ?_, hB, upd_same, k⟩
  rw [upd_ne (ne_of_none e hB)]
  exact h2 _ _ e
/-- each turn gives a new thing -/
theorem lc_new {J : It} {n : Nat} {G : Hp → Prop} {Y : Nat → Hp → V → Hp → Prop} (w : Walk J n G Y) {g : TG} {tt : TT} {te : TE} {vs : List Nat} {σ : L2.St} {H1 : Hp} {D : Addr} {Qd : Hp → Prop} (hD : H1 D = none) (obj : Nat → HO) (hn : n ≤ 10000)
    (hG : ∀ H, Same H1 H → G H) (hY : ∀ i H x H', Y i H x H' → Same H H')
    (hs : ∀ i x H H' (QY : VK) (QN : Hp → Prop), i < n → Same H1 H → Y i H x H' → (∀ p H4, H p = none → Same H' H4 → H4 p = some (obj i) → QY (.ref p) H4) →
      g x (wipe σ vs) H' fun σ2 H2 => wipe σ2 vs = wipe σ vs ∧ tt σ2 H2 fun b H3 => if b = true then te σ2 H3 QY else QN H3)
    (hd : ∀ H ys, Same H1 H → H D = some (.lst ys) → Paired (fun u i => Stands H u (obj i)) ys (List.range n) → Qd H) :
    ∃ W : Nat → Nat → Hp → Prop, (∃ m, W 0 m (upd H1 D (.lst []))) ∧ ∀ i m H, W i m H →
      (J.stop i H ∧ Qd H) ∨ (J.go i H ∧ ∃ Nx : Hp → Prop, (∀ H', Nx H' → ∃ m', m' < m ∧ W (i + 1) m' H') ∧ ∀ x H', J.yld i H x H' → g x (wipe σ vs) H' fun σ2 H2 => wipe σ2 vs = wipe σ vs ∧ tt σ2 H2 fun b H3 =>
        if b = true then te σ2 H3 fun y H4 => ∃ acc, H4 D = some (.lst acc) ∧ acc.length < sizeLine ∧ Nx (upd H4 D (.lst (acc ++ [y]))) else Nx H3) := by
  refine lc_it w (fun i H => Kn H1 D (fun B ys => Paired (fun u i => Stands B u (obj i)) ys (List.range i)) H) (kn_new hD .nil) (fun i H _ p => ?_) (fun i x H H' hi p y => ?_) (fun H p => ?_)
  · obtain ⟨B, ys, h1, h2, _⟩ := p.ex
    exact hG H fun c o e => h2 _ _ (h1 _ _ e)
  · obtain ⟨B, ys, h1, h2, h3, h4, h5⟩ := p.ex
    have s1 := hY i H x H' y
    refine hs i x H H' _ _ hi (fun c o e => h2 _ _ (h1 _ _ e)) y (fun p H4 hp s4 e4 => ?_)
    refine ⟨ys, s4 _ _ (s1 _ _ h4), ?_, kn_app h1 h2 h3 h4 hp (fun c o e => s4 _ _ (s1 _ _ e)) e4 ?_⟩
    · rw [h5.length, List.length_range]
      exact Nat.lt_of_lt_of_le hi (Nat.le_trans hn (by decide))
    · rw [List.range_succ]
      refine pair_app (pair_mono h5 fun u i z => z.mono fun c o e => upd_old e ?_) (.cons ⟨p, rfl, upd_same⟩ .nil)
      cases e : B p with
      | none => rfl
      | some o' => exact absurd (h2 _ _ e) (by rw [hp]; simp)
  · obtain ⟨B, ys, h1, h2, h3, h4, h5⟩ := p.ex
    exact hd H ys (fun c o e => h2 _ _ (h1 _ _ e)) h4 (pair_mono h5 fun u i z => z.mono h2)
end BW
namespace BM
/-- the item at place t of the sorted items has rank t -/
theorem rank_at {ws : List Int} {its : List Nat} (hp : its.Perm (List.range ws.length)) (hs : its.Pairwise fun a b => urg ws b a = false) {t i : Nat} (ht : its[t]? = some i) : rankOf ws i = t := by
  have hlt := (List.getElem?_eq_some_iff.mp ht).1
  have hsp : its = its.take t ++ i :: its.drop (t + 1) := by
    have e : its[t] = i := (List.getElem?_eq_some_iff.mp ht).2
    rw [← e, ← List.drop_eq_getElem_cons hlt, List.take_append_drop]
  have nd : its.Nodup := hp.nodup_iff.mpr List.nodup_range
  have mem : ∀ x ∈ its, x < ws.length := fun x hx => List.mem_range.mp (hp.mem_iff.mp hx)
  have him : i ∈ its := by rw [hsp]; simp
  unfold rankOf
  rw [← hp.countP_eq, hsp, List.countP_append, List.countP_cons]
  rw [hsp] at hs nd
  obtain ⟨h1, h2, h3⟩ := List.pairwise_append.mp hs
  obtain ⟨n1, n2, n3⟩ := List.nodup_append.mp nd
  obtain ⟨c1, c2⟩ := List.pairwise_cons.mp h2
  have e1 : (its.take t).countP (fun j => urg ws j i) = (its.take t).length := by
    rw [List.countP_eq_length]
    intro a ha
    have z := h3 a ha i (by simp)
    have am : a ∈ its := List.mem_of_mem_take ha
    have ne : a ≠ i := n3 a ha i (by simp)
    cases q : urg ws a i with
    | true => rfl
    | false =>
      simp [urg] at z q
      omega
  have e2 : (its.drop (t + 1)).countP (fun j => urg ws j i) = 0 := by
    rw [List.countP_eq_zero]
    intro a ha
    have z := c1 a ha
    simp [z]
  rw [e1, e2, urg_irr, List.length_take]
  simp
  omega
theorem rank_pos {ws : List Int} {its : List Nat} (hp : its.Perm (List.range ws.length)) (hs : its.Pairwise fun a b => urg ws b a = false) {i : Nat} (hi : i < ws.length) : its[rankOf ws i]? = some i := by
  obtain ⟨t, ht, e⟩ := List.mem_iff_getElem.mp (hp.mem_iff.mpr (List.mem_range.mpr hi))
  have e2 : its[t]? = some i := by rw [List.getElem?_eq_getElem ht, e]
  rw [rank_at hp hs e2]
  exact e2
end BM
namespace BW
open PySem PySem.Spec PyProof.Rows L2
/-- a pair (priority, item) -/
abbrev pairO (ws : List Int) (i : Nat) : HO := .tup [.int (ws.getD i 0), .int (i : Int)]
def pairK (H : Hp) : V → Int × Int
  | .ref t => match H t with
    | some (.tup [.int a, .int b]) => (a, b)
    | _ => (0, 0)
  | _ => (0, 0)
theorem pairK_of {H : Hp} {ws : List Int} {u : V} {i : Nat} (h : Stands H u (pairO ws i)) : pairK H u = (ws.getD i 0, (i : Int)) := by
  obtain ⟨p, rfl, e⟩ := h
  simp [pairK, e]
theorem paired_map {α β : Type} {F : α → β → Prop} {f : α → β} : ∀ {l : List α} {m : List β}, Paired F l m → (∀ a b, F a b → f a = b) → l.map f = m
  | _, _, .nil, _ => rfl
  | _, _, .cons h t, k => by rw [List.map_cons, k _ _ h, paired_map t k]
theorem paired_self {α β : Type} {F : α → β → Prop} {f : α → β} : ∀ {l : List α}, (∀ a ∈ l, F a (f a)) → Paired F l (l.map f)
  | [], _ => .nil
  | a :: l, h => .cons (h a (by simp)) (paired_self fun b hb => h b (by simp [hb]))
theorem pair_mem {α β : Type} {F : α → β → Prop} : ∀ {l : List α} {m : List β}, Paired F l m → ∀ a ∈ l, ∃ b, b ∈ m ∧ F a b
  | _, _, .cons h t, a, ha => by
    rcases List.mem_cons.mp ha with rfl | ha
    · exact ⟨_, by simp, h⟩
    · obtain ⟨b, hb, k⟩ := pair_mem t a ha
      exact ⟨b, by simp [hb], k⟩
theorem r_sortP {K : PySem.W.Frag} {H : Hp} {a : Addr} {xs : List V} {ws : List Int} {Q : VK} (h : H a = some (.lst xs)) (hx : Paired (fun u i => Stands H u (pairO ws i)) xs (List.range ws.length))
    (k : ∀ ys its p, Paired (fun u i => Stands H u (pairO ws i)) ys its → its.Perm (List.range ws.length) → its.Pairwise (fun a b => BM.urg ws b a = false) → ∀ H', Same H H' → H p = none → H' p = some (.lst ys) → Q (.ref p) H') : rSortedPO K [.ref a] H Q := by
  refine ⟨a, xs, pairK H, rfl, sl_of h, fun x hm => ?_, fun ys p h1 h2 hp => ?_⟩
  · obtain ⟨i, _, hi⟩ := pair_mem hx x hm
    have e := pairK_of hi
    obtain ⟨t, rfl, e2⟩ := hi
    exact ⟨t, rfl, by rw [e, e2]⟩
  · have hy : ∀ y ∈ ys, ∃ i, Stands H y (pairO ws i) := fun y hm => by
      obtain ⟨i, _, hi⟩ := pair_mem hx y (h2.perm.mem_iff.mp hm)
      exact ⟨i, hi⟩
    have hit : ∀ y ∈ ys, Stands H y (pairO ws (pairK H y).2.toNat) := fun y hm => by
      obtain ⟨i, hi⟩ := hy y hm
      rw [pairK_of hi]
      simpa using hi
    refine k ys (ys.map fun y => (pairK H y).2.toNat) p (paired_self hit) ?_ ?_ _ (same_new hp) hp upd_same
    · have e : xs.map (fun y => (pairK H y).2.toNat) = List.range ws.length := paired_map hx fun u i hi => by rw [pairK_of hi]; simp
      rw [← e]
      exact h2.perm.map _
    · rw [List.pairwise_map]
      refine List.Pairwise.imp_of_mem (fun {x y} hxm hym hl => ?_) h1
      have ex := pairK_of (hit x hxm)
      have ey := pairK_of (hit y hym)
      have z := SrtO.lexB_no.mp hl
      rw [ex, ey] at z
      simp only at z
      simp only [BM.urg, decide_eq_false_iff_not]
      generalize (pairK H x).2.toNat = i at *
      generalize (pairK H y).2.toNat = j at *
      intro q
      rcases q with q | ⟨q1, q2⟩
      · have := z
        omega
      · omega
end BW
namespace BW
open PySem PySem.Spec PyProof.Rows L2
theorem none_below {H H' : Hp} {p : Addr} (e : Same H H') (h : H' p = none) : H p = none := by
  cases q : H p with
  | none => rfl
  | some o => rw [e _ _ q] at h; cases h
theorem same_refl (H : Hp) : Same H H := fun _ _ h => h
theorem same_trans {H H' H'' : Hp} (a : Same H H') (b : Same H' H'') : Same H H'' := fun c o h => b c o (a c o h)
/-- what stood before stays, though the new one at p changes -/
theorem same_upd {H H' : Hp} {p : Addr} {o : HO} (e : Same H H') (h : H p = none) : Same H (upd H' p o) := fun c o' q => (upd_ne (ne_of_none q h)).trans (e c o' q)
theorem pair_snoc {α β : Type} {F : α → β → Prop} : ∀ {l : List α} {m : List β} {a : α} {b : β}, Paired F (l ++ [a]) (m ++ [b]) → Paired F l m ∧ F a b
  | [], [], _, _, .cons h _ => ⟨.nil, h⟩
  | [], _ :: m, _, _, h => by
    have := h.length
    simp at this
  | _ :: l, [], _, _, h => by
    have := h.length
    simp at this
  | _ :: l, _ :: m, _, _, .cons h t => by
    obtain ⟨h1, h2⟩ := pair_snoc (l := l) (m := m) t
    exact ⟨.cons h h1, h2⟩
theorem snoc_of {α : Type} {l : List α} {n : Nat} (h : l.length = n + 1) : ∃ m a, l = m ++ [a] ∧ m.length = n := by
  rcases List.eq_nil_or_concat l with e | ⟨m, a, e⟩
  · rw [e] at h; simp at h
  · refine ⟨m, a, by simpa using e, ?_⟩
    rw [e] at h
    simpa using h
theorem en_of {xs : List V} {i : Nat} {H H' : Hp} {v : V} (y : YPair (fun i => some (.int (i : Nat))) (fun i => xs[i]?) i H v H') : ∃ T y, v = .ref T ∧ H T = none ∧ Same H H' ∧ H' T = some (.tup [.int (i : Nat), y]) ∧ xs[i]? = some y := by
  obtain ⟨T, x, y, rfl, hT, rfl, hx, hy⟩ := y
  cases hx
  exact ⟨T, y, rfl, hT, same_new hT, upd_same, hy⟩
theorem en_same {xs : List V} {i : Nat} {H H' : Hp} {v : V} (y : YPair (fun i => some (.int (i : Nat))) (fun i => xs[i]?) i H v H') : Same H H' := by
  obtain ⟨_, _, _, _, h, _⟩ := en_of y
  exact h
theorem at_same {xs : List V} {i : Nat} {H H' : Hp} {v : V} (y : YAt xs i H v H') : Same H H' := by
  obtain ⟨rfl, _⟩ := y
  exact same_refl _
theorem fn_same {g : Nat → V} {i : Nat} {H H' : Hp} {v : V} (y : YFn g i H v H') : Same H H' := by
  obtain ⟨rfl, _⟩ := y
  exact same_refl _
section
variable {K : PySem.W.Frag} {σ : L2.St} {H : Hp} {Q : VK} {D : Ends} {a C dx : Addr} {x y v : V} {xs : List V} {z : Int} {j n : Nat} {QS : L2.St → Hp → Prop} {R : It → Hp → Prop}
theorem r_lc {wi : TI} {g : TG} {tt : TT} {te : TE} {vs : List Nat} (k : wi σ H fun J H1 => ∀ D, H1 D = none → ∃ W : Nat → Nat → Hp → Prop, (∃ m, W 0 m (upd H1 D (.lst []))) ∧ ∀ i m H, W i m H →
  (J.stop i H ∧ Q (.ref D) H) ∨ (J.go i H ∧ ∃ Nx : Hp → Prop, (∀ H', Nx H' → ∃ m', m' < m ∧ W (i + 1) m' H') ∧ ∀ x H', J.yld i H x H' → g x (wipe σ vs) H' fun σ2 H2 => wipe σ2 vs = wipe σ vs ∧ tt σ2 H2 fun b H3 =>
    if b = true then te σ2 H3 fun y H4 => ∃ acc, H4 D = some (.lst acc) ∧ acc.length < sizeLine ∧ Nx (upd H4 D (.lst (acc ++ [y]))) else Nx H3)) : tLc wi g tt te vs σ H Q := k
theorem r_for {wi : TI} {g : TG} {tb : TS} (k : wi σ H fun J H1 => ∃ W : Nat → Nat → L2.St → Hp → Prop, (∃ m, W 0 m σ H1) ∧ ∀ i m σ H, W i m σ H →
  (J.stop i H ∧ D.nx σ H) ∨ (J.go i H ∧ ∃ N : L2.St → Hp → Prop, (∀ σ' H', N σ' H' → ∃ m', m' < m ∧ W (i + 1) m' σ' H') ∧ ∀ x H', J.yld i H x H' → g x σ H' fun σ2 H2 => tb { D with nx := N, ct := N, bk := D.nx } σ2 H2)) : tFor wi g tb D σ H := k
theorem r_ienum {ta : TA} (k : ta σ H fun vs H1 => ∃ a xs, vs = [.ref a] ∧ SqL K H1 a xs ∧ R (Ite K a) H1) : iEnum K ta σ H R := k
theorem r_ilist {tl : TE} (k : tl σ H fun x H1 => ∃ a, x = .ref a ∧ (∃ xs, SqL K H1 a xs) ∧ R (Itl K a) H1) : iList K tl σ H R := k
theorem r_irng1 {ta : TA} (k : ta σ H fun vs H1 => ∃ j : Int, vs = [.int j] ∧ -(2 ^ 62) ≤ j ∧ j < 2 ^ 62 ∧ R (Itr 0 j.toNat) H1) : iRng1 ta σ H R := k
theorem r_irng2 {ta : TA} (k : ta σ H fun vs H1 => ∃ i j : Int, vs = [.int i, .int j] ∧ (-(2 ^ 62) ≤ i ∧ i < 2 ^ 62 ∧ -(2 ^ 62) ≤ j ∧ j < 2 ^ 62) ∧ R (Itr i (j - i).toNat) H1) : iRng2 ta σ H R := k
theorem r_irng3 {ta : TA} (k : ta σ H fun vs H1 => ∃ (i j c : Int) (n : Nat), vs = [.int i, .int j, .int c] ∧ RgC i j c n ∧ R (Itc i c n) H1) : iRng3 ta σ H R := k
theorem r_en {F : Addr → Prop} (h : H a = some (.lst xs)) (k : F a) : ∃ a' xs', [V.ref a] = [V.ref a'] ∧ SqL K H a' xs' ∧ F a' := ⟨a, xs, rfl, sl_of h, k⟩
theorem r_li {F : Addr → Prop} (h : H a = some (.lst xs)) (k : F a) : ∃ a', V.ref a = V.ref a' ∧ (∃ xs', SqL K H a' xs') ∧ F a' := ⟨a, rfl, ⟨xs, sl_of h⟩, k⟩
theorem r_ra {F : Int → Prop} (h1 : 0 ≤ z) (h2 : z ≤ 10000) (k : F z) : ∃ j : Int, [V.int z] = [.int j] ∧ -(2 ^ 62) ≤ j ∧ j < 2 ^ 62 ∧ F j := ⟨z, rfl, by omega, by omega, k⟩
theorem r_ra2 {i1 i2 : Int} {F : Int → Int → Prop} (h1 : 0 ≤ i1 ∧ i1 ≤ 10000 ∧ 0 ≤ i2 ∧ i2 ≤ 10000) (k : F i1 i2) : ∃ i j : Int, [V.int i1, V.int i2] = [.int i, .int j] ∧ (-(2 ^ 62) ≤ i ∧ i < 2 ^ 62 ∧ -(2 ^ 62) ≤ j ∧ j < 2 ^ 62) ∧ F i j := ⟨i1, i2, rfl, by omega, k⟩
theorem r_gtup {t : TGs} (h : H a = some (.tup xs)) (hn : xs.length = n) (k : t xs σ H QS) : gTup K n t (.ref a) σ H QS := ⟨a, xs, rfl, st_of h, hn, k⟩
theorem r_gcons {t : TG} {u : TGs} (k : t v σ H fun σ' H' => u xs σ' H' QS) : gCons t u (v :: xs) σ H QS := ⟨v, xs, rfl, k⟩
theorem r_gnil (k : QS σ H) : gNil [] σ H QS := ⟨rfl, k⟩
theorem r_rep {l : Addr} (h : H l = some (.lst xs)) (h1 : 0 ≤ z) (h2 : z ≤ 10000) (h3 : xs.length * z.toNat ≤ 100000) (k : ∀ p H', Same H H' → H p = none → H' p = some (.lst (List.replicate z.toNat xs).flatten) → Q (.ref p) H') : rRep (.ref l) (.int z) H Q :=
  ⟨l, z, xs, rfl, rfl, h, by omega, by omega, Nat.le_trans h3 (by decide), al_ k⟩
theorem r_yes {QB : Bool → Hp → Prop} (k : QB true H) : tYes σ H QB := k
theorem r_aug {i : Nat} {te : TE} {ti : TIp} (hv : σ[i]? = some (some x)) (k : te σ H fun y H1 => ti x y H1 fun z H2 => D.nx (σ.set i (some z)) H2) : tAug i te ti D σ H := ⟨x, hv, k⟩
theorem r_augS {to ti te : TE} {tget : V → V → Hp → VK → Prop} {tip : TIp} {tset : TSet} (k : to σ H fun o H1 => ti σ H1 fun i H2 => tget o i H2 fun x H3 => te σ H3 fun y H4 => tip x y H4 fun z H5 => tset o i z H5 fun H6 => D.nx σ H6) : tAugS to ti te tget tip tset D σ H := k
theorem r_cat {l r : Addr} {ys : List V} (h1 : H l = some (.lst xs)) (h2 : H r = some (.lst ys)) (hz : xs.length + ys.length ≤ 100000) (k : ∀ p H', Same H H' → H p = none → H' p = some (.lst (xs ++ ys)) → Q (.ref p) H') : rCat (.ref l) (.ref r) H Q := ⟨l, r, xs, ys, rfl, rfl, h1, h2, Nat.le_trans hz (by decide), al_ k⟩
theorem r_catT {l r : Addr} {ys : List V} (h1 : H l = some (.tup xs)) (h2 : H r = some (.tup ys)) (hx : xs ≠ []) (hy : ys ≠ []) (hz : xs.length + ys.length ≤ 100000) (k : ∀ p H', Same H H' → H p = none → H' p = some (.tup (xs ++ ys)) → Q (.ref p) H') : rCatT K (.ref l) (.ref r) H Q :=
  ⟨l, r, xs, ys, rfl, rfl, st_of h1, st_of h2, hx, Nat.le_trans hz (by decide), fun e => absurd e hy, fun _ => al_ k⟩
theorem r_slice {r : V → Option Int → Option Int → Hp → VK → Prop} {te : TE} {tl th : TO} (k : te σ H fun x H1 => tl σ H1 fun l H2 => th σ H2 fun u H3 => r x l u H3 Q) : tSl r te tl th σ H Q := k
theorem r_nopart {QO : Option Int → Hp → Prop} (k : QO none H) : tNoPart σ H QO := k
theorem r_part {te : TE} {QO : Option Int → Hp → Prop} (k : te σ H fun x H1 => ∃ i, x = .int i ∧ QO (some i) H1) : tPart te σ H QO := k
theorem r_partI {F : Int → Prop} (k : F z) : ∃ i, V.int z = .int i ∧ F i := ⟨z, rfl, k⟩
theorem cut_to (xs : List V) (i : Nat) (h : i ≤ xs.length) : cutV xs none (some (i : Int)) = xs.take i := by
  unfold cutV
  rw [HT.sIx_nat, HT.sIx_none, Nat.min_eq_left h, List.drop_zero, Nat.sub_zero]
theorem cut_from (xs : List V) (i : Nat) (h : i ≤ xs.length) : cutV xs (some (i : Int)) none = xs.drop i := by
  unfold cutV
  rw [HT.sIx_nat, HT.sIx_none, Nat.min_eq_left h]
  exact List.take_of_length_le (by rw [List.length_drop]; exact Nat.le_refl _)
theorem r_slTo {i : Nat} (h : H a = some (.lst xs)) (e : z = (i : Int)) (hi : i ≤ xs.length) (k : ∀ p H', Same H H' → H p = none → H' p = some (.lst (xs.take i)) → Q (.ref p) H') : rSlL K (.ref a) none (some z) H Q := ⟨a, xs, rfl, sl_of h, by subst e; rw [cut_to xs i hi]; exact al_ k⟩
theorem r_slFrom {i : Nat} (h : H a = some (.lst xs)) (e : z = (i : Int)) (hi : i ≤ xs.length) (k : ∀ p H', Same H H' → H p = none → H' p = some (.lst (xs.drop i)) → Q (.ref p) H') : rSlL K (.ref a) (some z) none H Q := ⟨a, xs, rfl, sl_of h, by subst e; rw [cut_from xs i hi]; exact al_ k⟩
theorem r_slTToT {i : Nat} (h : H a = some (.tup xs)) (e : z = (i : Int)) (hi : i < xs.length) (k : ∀ p H', Same H H' → H p = none → H' p = some (.tup (xs.take i)) → Q (.ref p) H') : rSlT K (.ref a) none (some z) H Q := ⟨a, xs, rfl, st_of h, by subst e; rw [HT.sIx_nat, HT.sIx_none]; omega, by subst e; rw [cut_to xs i (by omega)]; exact al_ k⟩
theorem r_slTFrom {i : Nat} (h : H a = some (.tup xs)) (e : z = (i : Int)) (hi : i ≤ xs.length) (h0 : 0 < i) (k : ∀ p H', Same H H' → H p = none → H' p = some (.tup (xs.drop i)) → Q (.ref p) H') : rSlT K (.ref a) (some z) none H Q := ⟨a, xs, rfl, st_of h, by subst e; rw [HT.sIx_nat, HT.sIx_none]; omega, by subst e; rw [cut_from xs i hi]; exact al_ k⟩
end
theorem r_ixEnd {K : PySem.W.Frag} {H : Hp} {Q : VK} {a : Addr} {xs : List V} {n : Nat} {v : V} (h : H a = some (.lst xs)) (hn : xs.length = n + 1) (hv : xs[n]? = some v) (k : Q v H) : rIxL K (.ref a) (.int (-1)) H Q := by
  obtain ⟨ys, u, rfl, hl⟩ := snoc_of hn
  rw [List.getElem?_append_right (by omega), hl, Nat.sub_self] at hv
  cases hv
  exact r_ixLast h k
theorem fl_rep {α : Type} (x : α) (n : Nat) : (List.replicate n [x]).flatten = List.replicate n x := by
  induction n with
  | zero => rfl
  | succ n ih => rw [List.replicate_succ, List.flatten_cons, ih]; rfl
end BW
namespace BW
open PySem PySem.Spec PyProof.Rows L2
/-! ### rules that name the frag -/
section
variable {X : Cx} {K : PySem.W.Frag}
theorem pg_tupK {pos : Pos} {es : List Expr} {k n : Nat} {t : TGs} (hK : X.K = K) (hc : X.calm = true) (h : PGs X es t) (h1 : (assignEach es X.env).length = n := by rfl) (h2 : List.findIdx? (fun x => x.fst) (assignEach es X.env) = none := by rfl) : PG X (.Tuple es k pos) (gTup K n t) := by
  subst hK
  exact pg_tup hc h h1 h2
theorem ix_listK (hK : X.K = K) : IxR X (rIxL K) := by
  subst hK
  exact ix_list
theorem ix_tupK (hK : X.K = K) : IxR X (rIxT K) := by
  subst hK
  exact ix_tup
theorem sl_listK (hK : X.K = K) : SlR X (rSlL K) := by
  subst hK
  exact sl_list
theorem sl_tupK (hK : X.K = K) : SlR X (rSlT K) := by
  subst hK
  exact sl_tup
theorem call_isiK (hK : X.K = K) : CallR X (.builtin "isinstance") (rIsi K) := by
  subst hK
  exact call_isi
theorem call_lenK (hK : X.K = K) : CallR X (.builtin "len") fun xs H Q => ∃ p ys, xs = [V.ref p] ∧ (SqL K H p ys ∨ SqT K H p ys) ∧ Q (.int ys.length) H := by
  subst hK
  exact call_len_seq
theorem cr_allK (hK : X.K = K) (h : X.calm = true) : CallR X (.builtin "all") (rAll K) := by
  subst hK
  exact cr_all h
theorem cr_sumK (hK : X.K = K) (h : X.calm = true) : CallR X (.builtin "sum") (rSum K) := by
  subst hK
  exact cr_sum h
theorem cr_sortedPOK (hK : X.K = K) : CallR X (.builtin "sorted") (rSortedPO K) := by
  subst hK
  exact cr_sortedPO
theorem cr_sortedIK (hK : X.K = K) : CallR X (.builtin "sorted") (rSortedI K) := by
  subst hK
  exact cr_sortedI
theorem call_listK (hK : X.K = K) : CallR X (.type "list") fun xs H Q => ∃ p ys, xs = [V.ref p] ∧ (SqL K H p ys ∨ SqT K H p ys) ∧ ∀ (l : Addr), H l = none → Q (V.ref l) (upd H l (HO.lst ys)) := by
  subst hK
  exact call_list_of
theorem op_inK (hK : X.K = K) : OpR X (compareOp .In) (rIn K false) := by
  subst hK
  exact op_in_seq
theorem op_notInK (hK : X.K = K) : OpR X (compareOp .NotIn) (rIn K true) := by
  subst hK
  exact op_notIn_seq
theorem op_eqDK (hK : X.K = K) (h : X.A.units + 64 < cLine) : OpR X (compareOp .Eq) (rEqD K) := by
  subst hK
  exact op_eqD h
theorem op_neDK (hK : X.K = K) (h : X.A.units + 64 < cLine) : OpR X (compareOp .NotEq) (rNeD K) := by
  subst hK
  exact op_neD h
theorem op_ltTK (hK : X.K = K) (h : X.A.units < cLine) : OpR X (compareOp .Lt) (rLtT K) := by
  subst hK
  exact op_ltT h
theorem op_catTK (hK : X.K = K) : OpR X (binaryOp .Add) (rCatT K) := by
  subst hK
  exact op_catT
theorem mt_indexK (hK : X.K = K) (h : X.A.units + 65 < cLine) : MtR X "list.index" (rIndexD K) := by
  subst hK
  exact mt_indexD h
theorem pe_fldK {e : Expr} {f : Str} {pos : Pos} {ta : TE} (hK : X.K = K) (h : PE X e ta) (h2 : attributeBase e f X.env (eval e X.env) = eval e X.env) : PE X (e.Attribute f pos) (tFld K ta f) := by
  subst hK
  exact pe_fld h h2
theorem ps_fldK {o value : Expr} {f : Str} {pos pos' : Pos} {ta tv : TE} (hK : X.K = K) (h : PE X o ta) (hv : PE X value tv) (h2 : swapsWith value (some (o.Attribute f pos')) pos.line X.env = pure false) : PS X (Stmt.Assign [o.Attribute f pos'] value pos) (sFld K ta tv f) := by
  subst hK
  exact ps_fld h hv h2
theorem pi_listK {tg l : Expr} {tl : TE} (hK : X.K = K) (h : PE X l tl) : PI X tg l (iList K tl) := by
  subst hK
  exact pi_list h
theorem pi_enumK {e : Expr} {ta : TA} {p pos tpos : Pos} {elts : List Expr} {kk : Nat} (hK : X.K = K) (hg : Gl X "enumerate") (hm : X.mg "enumerate" = none) (ha : PA X [e] ta) (hs : starEach [e] X.env = [(false, eval e X.env)] := by rfl) : PI X (.Tuple elts kk tpos) (.Call (.Name "enumerate" p) [e] [] pos) (iEnum K ta) := by
  subst hK
  exact pi_enum hg hm ha hs
theorem pe_revLK {e : Expr} {te : TE} {k : Nat} {p1 p2 p3 pos : Pos} (hK : X.K = K) (h : PE X e te) : PE X (.Subscript e (.Slice none none (some (.UnaryOp .USub (.Constant (.int 1) k p1) p2)) p3) pos) (tRevL K te) := by
  subst hK
  exact pe_revL h
theorem pe_bmK {o e : Expr} {es : List Expr} {to : TE} {t : TA} {name : Str} {apos cpos : Pos} {T id : String} {r : V → List V → Hp → VK → Prop} (hK : X.K = K) (h1 : PlainAttrs T) (h2 : Slot T name id) (h3 : typeOf (Value.builtin id) = pure (Value.type "method_descriptor")) (h4 : MtR X id r) (h5 : PE X o to) (h6 : PA X (e :: es) t)
    (h7 : attributeBase o name X.env (eval o X.env) = eval o X.env := by rfl)
    (h8 : ((backTo cpos (starEach (e :: es) X.env)).all (fun x => !x.1) && (backToKw cpos (keywordEach [] X.env)).all (fun x => x.1.isSome)
      && decide ((e :: es).length + ([] : List Keyword).length + (if ([] : List Keyword).isEmpty then 0 else 1) < 30)) = true := by rfl)
    (h9 : (apos.endLine == cpos.line) = true := by rfl) (ha : starEach (e :: es) X.env = (false, eval e X.env) :: starEach es X.env := by rfl) (hb : ((backTo cpos (starEach es X.env)).any fun x => x.fst) = false := by rfl) : PE X (.Call (.Attribute o name apos) (e :: es) [] cpos) (tBM K T r to t) := by
  subst hK
  exact pe_bm h1 h2 h3 h4 h5 h6 h7 h8 h9 ha hb
end
end BW
namespace BW
open PySem PySem.Spec PyProof.Rows L2
def minO : List Int → Option Int
  | [] => none
  | n :: ns => some (ns.foldl min n)
theorem least_fold : ∀ (l : List (Option Int)) (a : Int), l.foldl BM.least2 (some a) = some ((l.filterMap id).foldl min a)
  | [], a => rfl
  | none :: l, a => by
    rw [List.foldl_cons]
    show l.foldl BM.least2 (some a) = _
    rw [least_fold l a]
    rfl
  | some b :: l, a => by
    rw [List.foldl_cons]
    show l.foldl BM.least2 (some (if b < a then b else a)) = _
    rw [least_fold l]
    show _ = some ((b :: l.filterMap id).foldl min a)
    rw [List.foldl_cons, show min a b = if b < a then b else a by rw [Int.min_def]; by_cases h : b < a <;> by_cases h2 : a ≤ b <;> simp [h, h2] <;> omega]
theorem minO_least : ∀ (l : List (Option Int)), minO (l.filterMap id) = BM.leastL l
  | [] => rfl
  | none :: l => by
    show minO (l.filterMap id) = l.foldl BM.least2 none
    exact minO_least l
  | some b :: l => by
    show some ((l.filterMap id).foldl min b) = l.foldl BM.least2 (some b)
    rw [least_fold]
theorem reads_vI {h : Heap} : ∀ {l : List Int} {us : List Value}, Vals (vI l) us → ReadsAll h us (l.map PyData.int) []
  | [], _, .nil => .nil
  | n :: l, _, .cons r1 r2 => by
    obtain ⟨t, rfl⟩ := r1
    exact .cons (as := []) (.int n t) (reads_vI r2)
theorem depth_ints : ∀ l : List Int, PyData.depthAll (l.map PyData.int) = 0
  | [] => rfl
  | _ :: l => by
    show max 0 (PyData.depthAll (l.map PyData.int)) = 0
    rw [depth_ints l]
    rfl
/-- min(xs, default=None), xs a list of ints -/
def rMinD (K : PySem.W.Frag) : List V → List V → Hp → VK → Prop := fun xs zs H Q => ∃ (a : Addr) (l : List Int), xs = [.ref a] ∧ zs = [.non] ∧ SqL K H a (vI l) ∧ Q (oV (minO l)) H
theorem cr_minD {X : Cx} {K : PySem.W.Frag} (hK : X.K = K) (hc : X.calm = true) (hu : X.A.units + 1 < cLine) : CallRK X (.builtin "min") [Str.ofString "default"] (rMinD K) := by
  subst hK
  intro pins s σ H vs zs us ws Q I r rz h
  obtain ⟨a, l, rfl, rfl, hs, q⟩ := h
  obtain rfl := Vals.ref1 r
  obtain ⟨w1, rfl, e1⟩ := vals1 rz
  obtain rfl : w1 = Value.none := e1
  obtain ⟨its, rv, hl, hz⟩ := I.list hs
  refine PySem.W.min_list_default (I.ok.hd hc) hl.isList (reads_vI rv) ⟨fun x hx y hy => ?_, fun x hx => ?_⟩ (by rw [depth_ints]; exact hu) (fun e h' tk k => ?_) (fun y ys i v h' tk bs e hv rd k => ?_)
  · obtain ⟨i, _, rfl⟩ := List.mem_map.mp hx
    obtain ⟨j, _, rfl⟩ := List.mem_map.mp hy
    rfl
  · obtain ⟨i, _, rfl⟩ := List.mem_map.mp hx
    intro z
    cases z
  · cases l with
    | nil => exact ⟨.non, H, I.kept k, rfl, q⟩
    | cons n l => cases e
  · cases l with
    | nil => cases e
    | cons n l =>
      cases e
      rw [PySem.W.minD_ints] at rd
      cases rd
      exact ⟨.int (l.foldl min n), H, I.kept k, ⟨_, rfl⟩, q⟩
/-! ### more readings -/
section
variable {K : PySem.W.Frag} {σ : L2.St} {H : Hp} {Q : VK} {D : Ends} {a C dx : Addr} {x y v : V} {xs : List V} {z : Int} {j n : Nat} {fs : List (Str × V)} {f : Str}
theorem r_ckw {r : List V → List V → Hp → VK → Prop} {t tk : TA} (k : t σ H fun vs H1 => tk σ H1 fun zs H2 => r vs zs H2 Q) : tCKw r t tk σ H Q := k
theorem r_minD {l : List Int} (h : H a = some (.lst (vI l))) (k : Q (oV (minO l)) H) : rMinD K [.ref a] [.non] H Q := ⟨a, l, rfl, rfl, sl_of h, k⟩
theorem r_abs (k : Q (.int (if z < 0 then -z else z)) H) : ∃ i, [V.int z] = [V.int i] ∧ Q (.int (if i < 0 then -i else i)) H := ⟨z, rfl, k⟩
theorem r_max2 {i1 i2 : Int} {F : Int → Int → Prop} (k : F i1 i2) : ∃ i j, [V.int i1, V.int i2] = [V.int i, V.int j] ∧ F i j := ⟨i1, i2, rfl, k⟩
theorem r_listL {F : List V → Prop} (h : H a = some (.lst xs)) (k : F xs) : ∃ p ys, [V.ref a] = [V.ref p] ∧ (SqL K H p ys ∨ SqT K H p ys) ∧ F ys := ⟨a, xs, rfl, .inl (sl_of h), k⟩
theorem al_' {o : HO} {F : Addr → Hp → Prop} (k : ∀ p H', Same H H' → H p = none → H' p = some o → F p H') : ∀ p, H p = none → F p (upd H p o) := fun p hp => k p _ (same_new hp) hp upd_same
theorem r_revL {te : TE} (k : te σ H fun x H1 => ∃ a xs, x = .ref a ∧ SqL K H1 a xs ∧ Al (.lst xs.reverse) H1 Q) : tRevL K te σ H Q := k
theorem r_rev {F : Addr → List V → Prop} (h : H a = some (.lst xs)) (k : F a xs) : ∃ a' xs', V.ref a = V.ref a' ∧ SqL K H a' xs' ∧ F a' xs' := ⟨a, xs, rfl, sl_of h, k⟩
theorem r_al {o : HO} (k : ∀ p H', Same H H' → H p = none → H' p = some o → Q (.ref p) H') : Al o H Q := al_ k
theorem r_popL {ys : List V} {y : V} (h : H a = some (.lst (ys ++ [y]))) (k : Q y (upd H a (.lst ys))) : rPop (.ref a) [] H Q := ⟨a, _, y, rfl, rfl, h, by simp, by rw [List.dropLast_concat]; exact k⟩
theorem r_pop0 {ys : List V} {y : V} (h : H a = some (.lst (y :: ys))) (k : Q y (upd H a (.lst ys))) : rPopAt (.ref a) [.int 0] H Q := ⟨a, _, 0, 0, y, rfl, rfl, h, by omega, by omega, by simp [seqIndex?], rfl, by simpa using k⟩
theorem r_sfld {ta tv : TE} (k : tv σ H fun y H1 => ta σ H1 fun x H2 => ∃ a C dx fs, x = .ref a ∧ H2 a = some (.ins C dx fs) ∧ Cls K C ∧ NoAttr K C f ∧ fs.length < 1000 ∧ D.nx σ (upd H2 a (.ins C dx (putF f y fs)))) : sFld K ta tv f D σ H := k
theorem r_sf {F : Addr → Addr → Addr → List (Str × V) → Prop} (h : H a = some (.ins C dx fs)) (c : Cls K C) (nn : NoAttr K C f) (l : fs.length ≤ 100) (k : F a C dx fs) : ∃ a' C dx fs, V.ref a = V.ref a' ∧ H a' = some (.ins C dx fs) ∧ Cls K C ∧ NoAttr K C f ∧ fs.length < 1000 ∧ F a' C dx fs := ⟨a, C, dx, fs, rfl, h, c, nn, by omega, k⟩
theorem r_meth0 {m : Str} {sp : Sp} {dvs : List V} {E : XK} {ta : TE} {t : TA} (k : ta σ H fun x H1 => ∃ a dx fs, x = .ref a ∧ H1 a = some (.ins C dx fs) ∧ fs.lookup m = none ∧ t σ H1 fun vs H2 => sp (x :: (vs ++ dvs)) H2 Q E) : tMeth C m sp dvs E ta t σ H Q := k
theorem r_meth {m : Str} {F : Prop} (h : H a = some (.ins C dx fs)) (l : fs.lookup m = none) (k : F) : ∃ a' dx fs, V.ref a = V.ref a' ∧ H a' = some (.ins C dx fs) ∧ fs.lookup m = none ∧ F := ⟨a, dx, fs, rfl, h, l, k⟩
theorem r_make {sp : Sp} {dvs : List V} {E : XK} {t : TA} (k : t σ H fun vs H1 => ∀ x dx, H1 x = none → H1 dx = none → dx ≠ x → sp (.ref x :: (vs ++ dvs)) (upd (upd H1 dx (.own x)) x (.ins C dx [])) (fun v H2 => v = .non ∧ Q (.ref x) H2) E) : tMake C sp dvs E t σ H Q := k
end
end BW
namespace BW
open PySem PySem.Spec PyProof.Rows L2
/-! ### len of an own object; a property -/
section
variable {X : Cx} {k : Nat} {C f : Addr} {ps : List Str} {sp : Sp}
/-- a call of a def that lets nothing out, one room deeper -/
theorem run_in1 {pins : List (Addr × Obj)} {σ : L2.St} {H : Hp} {s : Shared} {Q : VK} {us : List Value} {vs : List V} {R : Value → Shared → Prop} (D : Def X.prog X.w X.K X.mg X.base CX0 k f ps sp) (hr : Room (k + 1) X.A) (I : Inv X pins σ H s) (r : Vals vs us) (h : sp vs H Q E0)
    (kk : ∀ u s', EP X pins σ Q u s' → R u s') : wpAny (model X.prog X.w) X.A.in1 (call (.ref f) us) R X.xe s := by
  obtain ⟨⟨fd, F, b⟩, _⟩ := D
  have hl : (us ++ []).length = ps.length := by rw [List.append_nil, ← r.length]; exact F.len _ _ _ _ h
  have hb := b s us I.kIn hl
  rw [List.append_nil] at hb
  refine wpAny_call (codeAny_mono (F.run X.A.in1 X.stack s H ⟨us, []⟩ us vs Q E0 hr.in1 I.env0.in1 hb r h) fun r s' hq => ?_)
  cases r with
  | error e => exact (show False from hq).elim
  | ok fl =>
    cases fl with
    | ret u => exact kk u s' (I.after hq)
    | next => exact False.elim hq
    | brk => exact False.elim hq
    | cont => exact False.elim hq
def rLenO (C : Addr) (sp : Sp) : List V → Hp → VK → Prop := fun xs H Q => ∃ a dx fs, xs = [.ref a] ∧ H a = some (.ins C dx fs) ∧ sp [.ref a] H (fun v H' => ∃ n : Nat, v = .int (n : Int) ∧ n ≤ 100000 ∧ Q (.int (n : Int)) H') E0
theorem cr_lenO (D : Def X.prog X.w X.K X.mg X.base CX0 k f ps sp) (m : Meth X.K C "__len__" f) (hr : Room (k + 1) X.A) : CallR X (.builtin "len") (rLenO C sp) := by
  intro pins s σ H xs us Q I r h
  obtain ⟨a, dx, fs, rfl, ha, q⟩ := h
  obtain rfl := Vals.ref1 r
  obtain ⟨mA, O, _⟩ := ins_get I.hok ha
  obtain ⟨od, J, _⟩ := O.look
  obtain ⟨m0, F⟩ := I.fr
  refine PySem.W.len_K F I.mod.kin J m.at_ m.fn (run_in1 D hr I r q fun u s' hq => ?_)
  obtain ⟨v, H', I', rv, n, rfl, hn, q2⟩ := hq
  obtain ⟨t, rfl⟩ := rv
  exact ⟨⟨by omega, by omega⟩, .int (n : Int), H', I'.tok _, ⟨_, rfl⟩, q2⟩
end
section
variable {X : Cx} {k : Nat} {C p g : Addr} {ps : List Str} {sp : Sp} {e : Expr} {pos : Pos} {ta : TE} {f : Str}
theorem pe_pl (hp : PropOf X.K C f p g) (D : Def X.prog X.w X.K X.mg X.base CX0 k g ps sp) (hr : Room (k + 1) X.A) (c : Cls X.K C) (he : PE X e ta) (hab : attributeBase e f X.env (eval e X.env) = eval e X.env := by rfl) : PE X (.Attribute e f pos) (tProp C sp [] E0 ta) := by
  obtain ⟨⟨fd, F, b⟩, _⟩ := D
  exact pe_prop he c hp F hr b .nil pass0 hab
theorem r_prop {σ : L2.St} {H : Hp} {Q : VK} {E : XK} {dvs : List V} (k : ta σ H fun x H1 => ∃ a dx fs, x = .ref a ∧ H1 a = some (.ins C dx fs) ∧ sp (.ref a :: dvs) H1 Q E) : tProp C sp dvs E ta σ H Q := k
end
end BW
namespace BW
open PySem PySem.Spec PyProof.Rows L2
/-! ### o[i] for o[i] += x -/
def rGetN (K : PySem.W.Frag) : V → V → Hp → VK → Prop := fun x y H Q => ∃ (p : Addr) (xs : List V) (j : Nat) (v : V), x = .ref p ∧ y = .int (j : Int) ∧ SqL K H p xs ∧ xs[j]? = some v ∧ Q v H
theorem get_list {X : Cx} {K : PySem.W.Frag} (hK : X.K = K) : PGet X (rGetN K) := by
  subst hK
  intro pins s σ H o i ov iv Q I ro ri h
  obtain ⟨p, xs, j, v, rfl, rfl, hq, hj, q⟩ := h
  cases ro
  obtain ⟨t, rfl⟩ := ri
  obtain ⟨its, r, pl, hz⟩ := I.list hq
  obtain ⟨w, ew, rw'⟩ := r.get hj
  have hl := r.length
  have hjl := (List.getElem?_eq_some_iff.mp hj).1
  have hn := line63
  exact PyProof.Rows.getItem_listL pl.isList (by omega) (by omega) (by simpa using ew) ⟨v, H, I, rw', q⟩
/-! ### deeds, lines -/
def vD : BM.Deed → List V
  | .arrive p => [.str "arrive", .int p]
  | .serve => [.str "serve"]
  | .compare pos price done => [.str "compare", .int (pos : Int), .int price, .bl done]
def DeedAt (H : Hp) (v : V) (d : BM.Deed) : Prop := ∃ q, v = .ref q ∧ H q = some (.tup (vD d))
theorem DeedAt.mono {H H' : Hp} {v : V} {d : BM.Deed} (h : DeedAt H v d) (e : Same H H') : DeedAt H' v d := by
  obtain ⟨q, h1, h2⟩ := h
  exact ⟨q, h1, e _ _ h2⟩
abbrev Deeds (H : Hp) : List V → List BM.Deed → Prop := Paired (DeedAt H)
theorem deeds_mono {H H' : Hp} {us : List V} {ds : List BM.Deed} (h : Deeds H us ds) (e : Same H H') : Deeds H' us ds := pair_mono h fun _ _ z => z.mono e
/-- the five lists of a line -/
structure Adr where
  a1 : Addr
  a2 : Addr
  a3 : Addr
  a4 : Addr
  a5 : Addr
abbrev Adr.all (a : Adr) : List Addr := [a.a1, a.a2, a.a3, a.a4, a.a5]
structure Five (H : Hp) (a : Adr) (L : BM.Ln) : Prop where
  h1 : H a.a1 = some (.lst (vI L.ws))
  h2 : H a.a2 = some (.lst (vN L.st))
  h3 : H a.a3 = some (.lst (vN L.gn))
  h4 : ∃ us, H a.a4 = some (.lst us) ∧ Rows H us L.rs
  h5 : H a.a5 = some (.lst (vN L.lo))
  nd : a.all.Nodup
/-- rows are tuples: they are none of the lists -/
theorem rowAt_but {fp : List Addr} {H H' : Hp} {v : V} {c : Nat × Int} (h : RowAt H v c) (e : But fp H H') (hf : ∀ a ∈ fp, ∀ xs, H a ≠ some (.tup xs)) : RowAt H' v c := by
  obtain ⟨q, h1, h2⟩ := h
  exact ⟨q, h1, e _ _ h2 fun z => hf q z _ h2⟩
theorem But.trans {fp : List Addr} {H H' H'' : Hp} (a : But fp H H') (b : But fp H' H'') : But fp H H'' := fun c o h n => b c o (a c o h n) n
theorem But.mono {fp fq : List Addr} {H H' : Hp} (a : But fp H H') (h : ∀ x ∈ fp, x ∈ fq) : But fq H H' := fun c o e n => a c o e fun z => n (h c z)
theorem but_upd {fp : List Addr} {H H' : Hp} {p : Addr} {o : HO} (e : But fp H H') (h : p ∈ fp) : But fp H (upd H' p o) := fun c o' q n => (upd_ne (fun z => n (by rw [z]; exact h))).trans (e c o' q n)
theorem but_refl (fp : List Addr) (H : Hp) : But fp H H := fun _ _ h _ => h
theorem But.none {fp : List Addr} {H H' : Hp} {p : Addr} (e : But fp H H') (h : H' p = none) (hp : p ∉ fp) : H p = none := by
  cases q : H p with
  | none => rfl
  | some o => rw [e p o q hp] at h; cases h
theorem Five.same {H H' : Hp} {a : Adr} {L : BM.Ln} (h : Five H a L) (e : Same H H') : Five H' a L := by
  obtain ⟨us, u1, u2⟩ := h.h4
  exact ⟨e _ _ h.h1, e _ _ h.h2, e _ _ h.h3, ⟨us, e _ _ u1, u2.mono e⟩, e _ _ h.h5, h.nd⟩
/-- kept while other things change -/
theorem Five.but {H H' : Hp} {a : Adr} {L : BM.Ln} {fp : List Addr} (h : Five H a L) (e : But fp H H') (d : ∀ x ∈ a.all, x ∉ fp) (hf : ∀ b ∈ fp, ∀ xs, H b ≠ some (.tup xs)) : Five H' a L := by
  obtain ⟨us, u1, u2⟩ := h.h4
  exact ⟨e _ _ h.h1 (d _ (by simp)), e _ _ h.h2 (d _ (by simp)), e _ _ h.h3 (d _ (by simp)), ⟨us, e _ _ u1 (d _ (by simp)), pair_mono u2 fun _ _ r => rowAt_but r e hf⟩, e _ _ h.h5 (d _ (by simp)), h.nd⟩
/-- none of the five is a tuple -/
theorem Five.notup {H : Hp} {a : Adr} {L : BM.Ln} (h : Five H a L) : ∀ b ∈ a.all, ∀ xs, H b ≠ some (.tup xs) := by
  obtain ⟨us, u1, _⟩ := h.h4
  intro b hb xs z
  simp only [Adr.all, List.mem_cons, List.not_mem_nil, or_false] at hb
  rcases hb with rfl | rfl | rfl | rfl | rfl
  · rw [h.h1] at z; cases z
  · rw [h.h2] at z; cases z
  · rw [h.h3] at z; cases z
  · rw [u1] at z; cases z
  · rw [h.h5] at z; cases z
abbrev herV (a : Adr) : List (Key × V) := [(.inr "worths", .ref a.a1), (.inr "line", .ref a.a2), (.inr "gone", .ref a.a3), (.inr "rows", .ref a.a4), (.inr "missed", .ref a.a5)]
abbrev linF (a : Adr) : List (Str × V) := [("worths", .ref a.a1), ("standing", .ref a.a2), ("gone", .ref a.a3), ("rows", .ref a.a4), ("left_out", .ref a.a5)]
/-- the law's own line -/
structure HereAt (H : Hp) (d : Addr) (a : Adr) (L : BM.Ln) : Prop where
  d : H d = some (.dK (herV a))
  f : Five H a L
/-- the program's line -/
structure LineAt (K : PySem.W.Frag) (H : Hp) (x : Addr) (a : Adr) (L : BM.Ln) : Prop where
  x : ∃ dx, H x = some (.ins (He.ga K "Line") dx (linF a))
  f : Five H a L
end BW
namespace BW
open PySem PySem.Spec PyProof.Rows L2
/-! ### data that are compared -/
def dI (l : List Int) : List PyData := l.map .int
theorem dI_eqv : ∀ l m : List Int, PyData.eqvAll (dI l) (dI m) = decide (l = m)
  | [], [] => by simp [dI, PyData.eqvAll]
  | [], _ :: _ => by simp [dI, PyData.eqvAll]
  | _ :: _, [] => by simp [dI, PyData.eqvAll]
  | i :: l, j :: m => by
    have ih := dI_eqv l m
    unfold dI at ih ⊢
    rw [List.map_cons, List.map_cons, PyData.eqvAll, ih, PyData.eqv]
    by_cases h : i = j <;> by_cases h2 : l = m <;> simp [h, h2]
theorem lay_I : ∀ l : List Int, PyData.canLayAll0 (dI l) = true
  | [] => rfl
  | i :: l => by
    show (true && PyData.canLayAll0 (dI l)) = true
    rw [lay_I l]
    rfl
theorem sh_I (l : List Int) : SeqAt.shaped (.list (dI l)) = true := by
  unfold SeqAt.shaped
  have h2 : (PyData.list (dI l)).depth = 1 := by
    show PyData.depthAll (dI l) + 1 = 1
    unfold dI
    rw [depth_ints]
  rw [h2, show PyData.canLay0 (.list (dI l)) = PyData.canLayAll0 (dI l) from rfl, lay_I]
  rfl
/-- a deed -/
def dD : BM.Deed → PyData
  | .arrive p => .tuple [.str "arrive", .int p]
  | .serve => .tuple [.str "serve"]
  | .compare pos price done => .tuple [.str "compare", .int (pos : Int), .int price, .bool done]
theorem lay_D (d : BM.Deed) : PyData.canLay0 (dD d) = true ∧ (dD d).depth = 1 := by
  cases d with
  | arrive p => exact ⟨by show (PyData.canLay0 (.str "arrive") && true) = true; decide +kernel, rfl⟩
  | serve => exact ⟨by decide +kernel, rfl⟩
  | compare pos price done => exact ⟨by show (PyData.canLay0 (.str "compare") && true) = true; decide +kernel, rfl⟩
theorem lay_Ds : ∀ l : List BM.Deed, PyData.canLayAll0 (l.map dD) = true ∧ PyData.depthAll (l.map dD) ≤ 1
  | [] => ⟨rfl, Nat.zero_le _⟩
  | d :: l => by
    obtain ⟨h1, h2⟩ := lay_Ds l
    obtain ⟨h3, h4⟩ := lay_D d
    refine ⟨?_, ?_⟩
    · show (PyData.canLay0 (dD d) && PyData.canLayAll0 (l.map dD)) = true
      rw [h1, h3]
      rfl
    · show max (dD d).depth (PyData.depthAll (l.map dD)) ≤ 1
      omega
theorem sh_Ds (l : List BM.Deed) : SeqAt.shaped (.list (l.map dD)) = true := by
  unfold SeqAt.shaped
  obtain ⟨h1, h2⟩ := lay_Ds l
  rw [show PyData.canLay0 (.list (l.map dD)) = PyData.canLayAll0 (l.map dD) from rfl, h1, show (PyData.list (l.map dD)).depth = PyData.depthAll (l.map dD) + 1 from rfl, decide_eq_true (by omega)]
  rfl
theorem sh_nil : SeqAt.shaped (.list []) = true := by decide +kernel
theorem eqv_nil (ds : List PyData) : PyData.eqv (.list ds) (.list []) = decide (ds = []) := by
  cases ds <;> simp [PyData.eqv, PyData.eqvAll]
section
variable {K : PySem.W.Frag} {σ : L2.St} {H : Hp} {Q : VK} {a b d : Addr} {xs ys : List V} {v x y : V}
theorem dp_I : ∀ l : List Int, DpAll K H (vI l) (dI l)
  | [] => .nil
  | i :: l => .cons (.int i) (dp_I l)
theorem dp_L {l : List Int} (h : H a = some (.lst (vI l))) : Dp K H (.ref a) (.list (dI l)) := .lst (sl_of h) (dp_I l)
theorem dp_D {dd : BM.Deed} (h : DeedAt H v dd) : Dp K H v (dD dd) := by
  obtain ⟨q, rfl, h⟩ := h
  cases dd with
  | arrive p => exact .tup (st_of h) (.cons (.str _) (.cons (.int _) .nil))
  | serve => exact .tup (st_of h) (.cons (.str _) .nil)
  | compare pos price done => exact .tup (st_of h) (.cons (.str _) (.cons (.int _) (.cons (.int _) (.cons (.bl _) .nil))))
theorem dp_Ds : ∀ {vs : List V} {l : List BM.Deed}, Deeds H vs l → DpAll K H vs (l.map dD)
  | _, _, .nil => .nil
  | _, _, .cons h t => .cons (dp_D h) (dp_Ds t)
theorem dp_DL {vs : List V} {l : List BM.Deed} (h : H a = some (.lst vs)) (hd : Deeds H vs l) : Dp K H (.ref a) (.list (l.map dD)) := .lst (sl_of h) (dp_Ds hd)
theorem dp_nil (h : H a = some (.lst [])) : Dp K H (.ref a) (.list []) := .lst (sl_of h) .nil
theorem r_eqD {p q : PyData} {c : Bool} (h1 : Dp K H x p) (h2 : Dp K H y q) (s1 : SeqAt.shaped p = true) (s2 : SeqAt.shaped q = true) (hb : PyData.eqv p q = c) (k : Q (.bl c) H) : rEqD K x y H Q := ⟨p, q, h1, h2, s1, s2, by rw [hb]; exact k⟩
theorem r_neD {p q : PyData} {c : Bool} (h1 : Dp K H x p) (h2 : Dp K H y q) (s1 : SeqAt.shaped p = true) (s2 : SeqAt.shaped q = true) (hb : PyData.eqv p q = c) (k : Q (.bl (!c)) H) : rNeD K x y H Q := ⟨p, q, h1, h2, s1, s2, by rw [hb]; exact k⟩
/-- lists of ints -/
theorem r_eqL {l m : List Int} (h1 : H a = some (.lst (vI l))) (h2 : H b = some (.lst (vI m))) (k : Q (.bl (decide (l = m))) H) : rEqD K (.ref a) (.ref b) H Q := r_eqD (dp_L h1) (dp_L h2) (sh_I l) (sh_I m) (dI_eqv l m) k
theorem r_neL {l m : List Int} (h1 : H a = some (.lst (vI l))) (h2 : H b = some (.lst (vI m))) (k : Q (.bl (!decide (l = m))) H) : rNeD K (.ref a) (.ref b) H Q := r_neD (dp_L h1) (dp_L h2) (sh_I l) (sh_I m) (dI_eqv l m) k
theorem natI_inj {l m : List Nat} : (l.map fun n : Nat => (n : Int)) = (m.map fun n : Nat => (n : Int)) ↔ l = m := by
  refine ⟨fun h => ?_, fun h => by rw [h]⟩
  have e : ∀ l : List Nat, (l.map fun n : Nat => (n : Int)).map Int.toNat = l := fun l => by
    rw [List.map_map]
    conv => rhs; rw [← List.map_id l]
    exact List.map_congr_left fun i _ => by simp
  rw [← e l, ← e m, h]
theorem r_eqN {l m : List Nat} (h1 : H a = some (.lst (vN l))) (h2 : H b = some (.lst (vN m))) (k : Q (.bl (decide (l = m))) H) : rEqD K (.ref a) (.ref b) H Q := by
  rw [vN_vI] at h1 h2
  refine r_eqL h1 h2 ?_
  rw [show decide ((l.map fun n : Nat => (n : Int)) = m.map fun n : Nat => (n : Int)) = decide (l = m) from decide_eq_decide.mpr natI_inj]
  exact k
theorem r_neN {l m : List Nat} (h1 : H a = some (.lst (vN l))) (h2 : H b = some (.lst (vN m))) (k : Q (.bl (!decide (l = m))) H) : rNeD K (.ref a) (.ref b) H Q := by
  rw [vN_vI] at h1 h2
  refine r_neL h1 h2 ?_
  rw [show decide ((l.map fun n : Nat => (n : Int)) = m.map fun n : Nat => (n : Int)) = decide (l = m) from decide_eq_decide.mpr natI_inj]
  exact k
/-- deeds against the empty list -/
theorem r_eqDs {vs : List V} {l : List BM.Deed} (h1 : H a = some (.lst vs)) (hd : Deeds H vs l) (h2 : H b = some (.lst [])) (k : Q (.bl (decide (l = []))) H) : rEqD K (.ref a) (.ref b) H Q :=
  r_eqD (dp_DL h1 hd) (dp_nil h2) (sh_Ds l) sh_nil ((eqv_nil _).trans (decide_eq_decide.mpr (by simp))) k
/-! ### dicts -/
theorem r_dget {td ty : TE} (k : td σ H fun x H1 => ty σ H1 fun y H2 => ∃ a v, x = .ref a ∧ DGet H2 a y (some v) ∧ Q v H2) : tDGet td ty σ H Q := k
theorem r_dg {F : V → Prop} {kvs : List (Key × V)} {z : Str} (h : H d = some (.dK kvs)) (hv : valV kvs (.inr z) = some v) (k : F v) : ∃ a v, V.ref d = .ref a ∧ DGet H a (.str z) (some v) ∧ F v := ⟨d, v, rfl, by rw [← hv]; exact DGet.k (k := .inr z) h, k⟩
/-! ### in, not in -/
theorem inV_N (i : Nat) : ∀ l : List Nat, inV (.int (i : Int)) (vN l) = decide (i ∈ l)
  | [] => by simp [inV, vN]
  | j :: l => by
    have ih := inV_N i l
    unfold inV vN at ih ⊢
    rw [List.map_cons, List.any_cons, ih]
    show ((eqV (.int (j : Int)) (.int (i : Int))) || _) = _
    have e : eqV (.int (j : Int)) (.int (i : Int)) = decide (i = j) := by
      show ((j : Int) == (i : Int)) = decide (i = j)
      by_cases h : i = j
      · subst h; simp
      · rw [decide_eq_false h]; simp; omega
    rw [e]
    by_cases h : i = j <;> simp [h]
theorem flat_N (l : List Nat) : (vN l).all flatV = true := by
  unfold vN
  rw [List.all_map]
  exact List.all_eq_true.mpr fun _ _ => rfl
theorem r_notIn {i : Nat} {l : List Nat} (h : H a = some (.lst (vN l))) (k : Q (.bl (!decide (i ∈ l))) H) : rIn K true (.int (i : Int)) (.ref a) H Q := ⟨a, vN l, rfl, .inl (sl_of h), rfl, flat_N l, by rw [inV_N]; exact k⟩
theorem r_ltT {p q : Addr} {n1 n2 m1 m2 : Int} (h1 : H p = some (.tup [.int n1, .int n2])) (h2 : H q = some (.tup [.int m1, .int m2])) (k : Q (.bl (decide (n1 < m1 ∨ (n1 = m1 ∧ n2 < m2)))) H) : rLtT K (.ref p) (.ref q) H Q := by
  refine ⟨p, q, [n1, n2], [m1, m2], rfl, rfl, st_of h1, st_of h2, ?_⟩
  have e : HT.lexLt [n1, n2] [m1, m2] = decide (n1 < m1 ∨ (n1 = m1 ∧ n2 < m2)) := by
    show (if n1 = m1 then (if n2 = m2 then false else decide (n2 < m2)) else decide (n1 < m1)) = _
    by_cases h : n1 = m1
    · rw [if_pos h]
      by_cases h3 : n2 = m2
      · rw [if_pos h3, decide_eq_false]
        omega
      · rw [if_neg h3]
        exact decide_eq_decide.mpr (by omega)
    · rw [if_neg h]
      exact decide_eq_decide.mpr (by omega)
  rw [e]
  exact k
end
end BW
namespace BW
open PySem PySem.Spec PyProof.Rows L2
theorem ne_kind {H : Hp} {a b : Addr} {o u : HO} (ha : H a = some o) (hb : H b = some u) (h : o ≠ u) : a ≠ b := fun e => by
  rw [e, hb] at ha
  exact h (Option.some.inj ha).symm
structure Adr.Ne (a : Adr) : Prop where
  n12 : a.a1 ≠ a.a2
  n13 : a.a1 ≠ a.a3
  n14 : a.a1 ≠ a.a4
  n15 : a.a1 ≠ a.a5
  n23 : a.a2 ≠ a.a3
  n24 : a.a2 ≠ a.a4
  n25 : a.a2 ≠ a.a5
  n34 : a.a3 ≠ a.a4
  n35 : a.a3 ≠ a.a5
  n45 : a.a4 ≠ a.a5
theorem Adr.ne {a : Adr} (h : a.all.Nodup) : a.Ne := by
  simp only [Adr.all, List.nodup_cons, List.mem_cons, List.not_mem_nil, or_false, not_or] at h
  obtain ⟨⟨h1, h2, h3, h4⟩, ⟨h5, h6, h7⟩, ⟨h8, h9⟩, h10, _⟩ := h
  exact ⟨h1, h2, h3, h4, h5, h6, h7, h8, h9, h10⟩
theorem rows_upd {H : Hp} {us : List V} {rs : List (Nat × Int)} {p : Addr} {o : HO} (h : Rows H us rs) (hp : ∀ xs, H p ≠ some (.tup xs)) : Rows (upd H p o) us rs := pair_mono h fun u c r => by
  obtain ⟨q, rfl, hq⟩ := r
  exact ⟨q, rfl, (upd_ne fun e => hp _ (e ▸ hq)).trans hq⟩
section
variable {H : Hp} {a : Adr} {L : BM.Ln}
theorem Five.up1 {w : List Int} (h : Five H a L) : Five (upd H a.a1 (.lst (vI w))) a { L with ws := w } := by
  have n := Adr.ne h.nd
  obtain ⟨us, u1, u2⟩ := h.h4
  exact ⟨upd_same, (upd_ne n.n12.symm).trans h.h2, (upd_ne n.n13.symm).trans h.h3, ⟨us, (upd_ne n.n14.symm).trans u1, rows_upd u2 (h.notup _ (by simp))⟩, (upd_ne n.n15.symm).trans h.h5, h.nd⟩
theorem Five.up2 {w : List Nat} (h : Five H a L) : Five (upd H a.a2 (.lst (vN w))) a { L with st := w } := by
  have n := Adr.ne h.nd
  obtain ⟨us, u1, u2⟩ := h.h4
  exact ⟨(upd_ne n.n12).trans h.h1, upd_same, (upd_ne n.n23.symm).trans h.h3, ⟨us, (upd_ne n.n24.symm).trans u1, rows_upd u2 (h.notup _ (by simp))⟩, (upd_ne n.n25.symm).trans h.h5, h.nd⟩
theorem Five.up3 {w : List Nat} (h : Five H a L) : Five (upd H a.a3 (.lst (vN w))) a { L with gn := w } := by
  have n := Adr.ne h.nd
  obtain ⟨us, u1, u2⟩ := h.h4
  exact ⟨(upd_ne n.n13).trans h.h1, (upd_ne n.n23).trans h.h2, upd_same, ⟨us, (upd_ne n.n34.symm).trans u1, rows_upd u2 (h.notup _ (by simp))⟩, (upd_ne n.n35.symm).trans h.h5, h.nd⟩
theorem Five.up4 {us : List V} {w : List (Nat × Int)} (h : Five H a L) (r : Rows H us w) : Five (upd H a.a4 (.lst us)) a { L with rs := w } := by
  have n := Adr.ne h.nd
  exact ⟨(upd_ne n.n14).trans h.h1, (upd_ne n.n24).trans h.h2, (upd_ne n.n34).trans h.h3, ⟨us, upd_same, rows_upd r (h.notup _ (by simp))⟩, (upd_ne n.n45.symm).trans h.h5, h.nd⟩
theorem Five.up5 {w : List Nat} (h : Five H a L) : Five (upd H a.a5 (.lst (vN w))) a { L with lo := w } := by
  have n := Adr.ne h.nd
  obtain ⟨us, u1, u2⟩ := h.h4
  exact ⟨(upd_ne n.n15).trans h.h1, (upd_ne n.n25).trans h.h2, (upd_ne n.n35).trans h.h3, ⟨us, (upd_ne n.n45).trans u1, rows_upd u2 (h.notup _ (by simp))⟩, upd_same, h.nd⟩
/-- each of the five is a list -/
theorem Five.lst (h : Five H a L) : ∀ b ∈ a.all, ∃ xs, H b = some (.lst xs) := by
  obtain ⟨us, u1, _⟩ := h.h4
  intro b hb
  simp only [Adr.all, List.mem_cons, List.not_mem_nil, or_false] at hb
  rcases hb with rfl | rfl | rfl | rfl | rfl
  · exact ⟨_, h.h1⟩
  · exact ⟨_, h.h2⟩
  · exact ⟨_, h.h3⟩
  · exact ⟨_, u1⟩
  · exact ⟨_, h.h5⟩
theorem Five.nelst (h : Five H a L) {d : Addr} {o : HO} (hd : H d = some o) (ho : ∀ xs, o ≠ .lst xs) : ∀ b ∈ a.all, d ≠ b := fun b hb => by
  obtain ⟨xs, e⟩ := h.lst b hb
  exact ne_kind hd e (ho xs)
theorem HereAt.off {d : Addr} (h : HereAt H d a L) : ∀ b ∈ a.all, d ≠ b := h.f.nelst h.d fun _ z => by cases z
theorem HereAt.up1 {d : Addr} {w : List Int} (h : HereAt H d a L) : HereAt (upd H a.a1 (.lst (vI w))) d a { L with ws := w } := ⟨(upd_ne (h.off _ (by simp))).trans h.d, h.f.up1⟩
theorem HereAt.up2 {d : Addr} {w : List Nat} (h : HereAt H d a L) : HereAt (upd H a.a2 (.lst (vN w))) d a { L with st := w } := ⟨(upd_ne (h.off _ (by simp))).trans h.d, h.f.up2⟩
theorem HereAt.up3 {d : Addr} {w : List Nat} (h : HereAt H d a L) : HereAt (upd H a.a3 (.lst (vN w))) d a { L with gn := w } := ⟨(upd_ne (h.off _ (by simp))).trans h.d, h.f.up3⟩
theorem HereAt.up4 {d : Addr} {us : List V} {w : List (Nat × Int)} (h : HereAt H d a L) (r : Rows H us w) : HereAt (upd H a.a4 (.lst us)) d a { L with rs := w } := ⟨(upd_ne (h.off _ (by simp))).trans h.d, h.f.up4 r⟩
theorem HereAt.up5 {d : Addr} {w : List Nat} (h : HereAt H d a L) : HereAt (upd H a.a5 (.lst (vN w))) d a { L with lo := w } := ⟨(upd_ne (h.off _ (by simp))).trans h.d, h.f.up5⟩
theorem HereAt.same {H' : Hp} {d : Addr} (h : HereAt H d a L) (e : Same H H') : HereAt H' d a L := ⟨e _ _ h.d, h.f.same e⟩
variable {K : PySem.W.Frag} {x : Addr}
theorem LineAt.off (h : LineAt K H x a L) : ∀ b ∈ a.all, x ≠ b := by
  obtain ⟨dx, hx⟩ := h.x
  exact h.f.nelst hx fun _ z => by cases z
theorem LineAt.up1 {w : List Int} (h : LineAt K H x a L) : LineAt K (upd H a.a1 (.lst (vI w))) x a { L with ws := w } := ⟨h.x.imp fun dx e => (upd_ne (h.off _ (by simp))).trans e, h.f.up1⟩
theorem LineAt.up2 {w : List Nat} (h : LineAt K H x a L) : LineAt K (upd H a.a2 (.lst (vN w))) x a { L with st := w } := ⟨h.x.imp fun dx e => (upd_ne (h.off _ (by simp))).trans e, h.f.up2⟩
theorem LineAt.up3 {w : List Nat} (h : LineAt K H x a L) : LineAt K (upd H a.a3 (.lst (vN w))) x a { L with gn := w } := ⟨h.x.imp fun dx e => (upd_ne (h.off _ (by simp))).trans e, h.f.up3⟩
theorem LineAt.up4 {us : List V} {w : List (Nat × Int)} (h : LineAt K H x a L) (r : Rows H us w) : LineAt K (upd H a.a4 (.lst us)) x a { L with rs := w } := ⟨h.x.imp fun dx e => (upd_ne (h.off _ (by simp))).trans e, h.f.up4 r⟩
theorem LineAt.up5 {w : List Nat} (h : LineAt K H x a L) : LineAt K (upd H a.a5 (.lst (vN w))) x a { L with lo := w } := ⟨h.x.imp fun dx e => (upd_ne (h.off _ (by simp))).trans e, h.f.up5⟩
theorem LineAt.same {H' : Hp} (h : LineAt K H x a L) (e : Same H H') : LineAt K H' x a L := ⟨h.x.imp fun dx e2 => e _ _ e2, h.f.same e⟩
end
/-- an int or a truth value -/
def Plain (v : V) : Prop := (∃ i, v = .int i) ∨ ∃ b, v = .bl b
theorem vN_app (l : List Nat) (n : Nat) : vN (l ++ [n]) = vN l ++ [.int (n : Int)] := by simp [vN]
theorem vI_app (l : List Int) (n : Int) : vI (l ++ [n]) = vI l ++ [.int n] := by simp [vI]
theorem r_seqG {ts tr : TS} {D : Ends} {σ : L2.St} {H : Hp} (N : L2.St → Hp → Prop) (k : ∀ nx : L2.St → Hp → Prop, (∀ σ H, N σ H → nx σ H) → ts { D with nx := nx } σ H) (hN : ∀ σ H, N σ H → tr D σ H) : tSeq ts tr D σ H := k _ hN
/-- no more than so many of anything -/
structure LnSmall (L : BM.Ln) : Prop where
  ok : L.Ok
  rs : L.rs.length ≤ 400
  lo : L.lo.length ≤ 400
end BW
namespace BW
open PySem PySem.Spec PyProof.Rows L2
/-! ### LineError.__init__(self) -/
section
variable {X : Cx} {x : Str} {CL : Addr} {e : Expr} {es : List Expr} {ta : TA} {p1 p2 pos : Pos}
theorem pe_leinit {pl : Sem Bool} (L : LeIni X.K CL) (hm : X.mg x = some (.ref CL)) (ha : PA X (e :: es) ta) (hg : Gl X x := by rfl) (hdb : (x == ("__debug__" : Str)) = false := by decide)
    (hc : eval (.Call (.Attribute (.Name x p1) "__init__" p2) (e :: es) [] pos) X.env = (do
      let ov ← eval (.Name x p1) X.env
      standAt p2.atName
      let (f, first) ← holding [ov] (getMethod ov "__init__" pl)
      callWith pos f first (backTo pos (starEach (e :: es) X.env)) (backToKw pos (keywordEach [] X.env))) := by rfl)
    (he : starEach (e :: es) X.env = (false, eval e X.env) :: starEach es X.env := by rfl) (hpl : (backTo pos (starEach es X.env)).any (·.1) = false := by rfl) :
    PE X (.Call (.Attribute (.Name x p1) "__init__" p2) (e :: es) [] pos) (tVeI X.K ta) := by
  refine ⟨fun pins s σ H Q I h => ?_⟩
  refine PySem.W.methodCall_KW (ld_glob I hg hm ?_ hdb) hc
  obtain ⟨m, fr⟩ := I.fr
  refine PySem.W.method_of_cls fr I.ok.mod.kin L.sg (PySem.W.cls_val fr I.ok.mod.kin L.ty L.rd L.fi (by decide +kernel) ?_)
  show wpAny _ _ (callWith pos (Value.builtin "ValueError.__init__") [] (backTo pos (starEach (e :: es) X.env)) []) _ _ _
  refine PyProof.Rows.callWith_method1 (thn (ha.run pos pins _ σ H _ (I.tok _) h) fun us s1 ⟨vs, H1, I1, r1, a, C, ws, ev, hl, T, ea, q⟩ => ?_) he hpl
  subst ev
  cases r1 with
  | @cons _ u0 _ ur ra rw' =>
    obtain rfl : u0 = Value.ref a := ra
    have hlen : ur.length ≤ sizeLine := by
      rw [← Paired.length rw', sizeLine_eq]
      omega
    exact oinit_ok T I1 ea hlen fun s' J => ⟨.non, H1, J, rfl, q⟩
theorem r_vei {K : PySem.W.Frag} {σ : L2.St} {H : Hp} {Q : VK} (k : ta σ H fun vs H1 => ∃ (a C : Addr) (ws : List V), vs = .ref a :: ws ∧ ws.length ≤ 1000 ∧ OexC K C ∧ H1 a = some (exo a C none) ∧ Q .non H1) : tVeI K ta σ H Q := k
end
/-! ### the making of an own exception with its own __init__ -/
section
variable {X : Cx} {k : Nat} {C fI : Addr} {ps : List Str} {sp : Sp}
theorem oex_run {pins : List (Addr × Obj)} {σ : L2.St} {H1 : Hp} {s1 : Shared} {us : List Value} {vs : List V} (T : OexC X.K C) (iC : PySem.W.findIn X.K (.ref C) "__init__" = some (some (.ref fI))) (tI : PySem.W.typeIn X.K (.ref fI) = some (.type "function"))
    (D : Def X.prog X.w X.K X.mg X.base CX0 k fI ps sp) (hr : Room (k + 1) X.A) (I1 : Inv X pins σ H1 s1) (r1 : Vals vs us) (hz : vs.length ≤ 1000) {Fin : Addr → Hp → Prop} (hq : ∀ a, H1 a = none → sp (.ref a :: vs) (upd H1 a (exo a C none)) (fun v H2 => v = .non ∧ Fin a H2) E0)
    {R : Value → Shared → Prop} (hR : ∀ hp2 a H2 (s' : Shared), s1.heap.objs.size ≤ a → (∀ b o, s1.heap.get? b = some o → hp2.get? b = some o) → Un (frs X.stack) [] (upd H1 a (exo a C none)) H2 hp2 s'.heap → HOk X.prog X.w H2 s'.heap → s'.os = s1.os → AllBare s'.gens → Fin a H2 → R (.ref a) s') :
    wpAny (model X.prog X.w) X.A (call (.ref C) us) R X.xe s1 := by
  obtain ⟨⟨fd, F1, hb⟩, _⟩ := D
  obtain ⟨nm, q, N, bs, bm, sn, sub, ab, col, dd, k0, k1, k2, k3, k5, hC, hbm⟩ := T.cls
  obtain ⟨hp, g, d, tk, os⟩ := s1
  have hsz : hp.objs.size ≤ hp.objs.size + 1 := Nat.le_succ _
  have old : ∀ b o, hp.get? b = some o → ((hp.push (PySem.W.kdv_tup us)).push (PySem.HandSPX.excO C hp.objs.size)).get? b = some o := fun b o e => Heap.get?_push_of_some _ (Heap.get?_push_of_some _ e)
  have new : ((hp.push (PySem.W.kdv_tup us)).push (PySem.HandSPX.excO C hp.objs.size)).get? (hp.objs.size + 1) = some (PySem.HandSPX.excO C hp.objs.size) := by heap_get
  have ask := hq (hp.objs.size + 1) (I1.hok.fresh hsz)
  have J : Inv X pins σ (upd H1 (hp.objs.size + 1) (exo (hp.objs.size + 1) C none)) ⟨(hp.push (PySem.W.kdv_tup us)).push (PySem.HandSPX.excO C hp.objs.size), g, d, tk, os⟩ :=
    I1.laid (t' := tk) (a := hp.objs.size + 1) (o := exo (hp.objs.size + 1) C none) (h' := (hp.push (PySem.W.kdv_tup us)).push (PySem.HandSPX.excO C hp.objs.size)) old hsz (exo_ok new)
  have args : Vals (V.ref (hp.objs.size + 1) :: vs) (Value.ref (hp.objs.size + 1) :: us) := .cons rfl r1
  have few : us.length ≤ sizeLine := by
    rw [← Paired.length r1, sizeLine_eq]
    omega
  have bound := hb _ (Value.ref (hp.objs.size + 1) :: us) J.kIn (by rw [List.append_nil, ← F1.len _ _ _ _ ask]; exact args.length.symm)
  rw [List.append_nil] at bound
  have ran := F1.run _ X.stack _ _ ⟨Value.ref (hp.objs.size + 1) :: us, []⟩ (Value.ref (hp.objs.size + 1) :: us) _ _ E0 (hr.make C us []) (J.env0.make C us []) bound args ask
  refine wpAny_call (PySem.HandSPX.call_own F.excBase_ValueError (fun Y => PySem.HandSPX.refsVE_contains Y bm hbm) (I1.kIn _ _ hC) (PySem.W.looks_findIn I1.kIn iC) (fun self => PySem.W.bind_fn I1.kIn self tI) few (codeAny_mono ran fun r s' hq' => ?_))
  cases r with
  | error er => exact (show False from hq').elim
  | ok fl =>
    cases fl with
    | ret u =>
      obtain ⟨v, H2, os2, bare2, un2, hok2, rv, ev, fin⟩ := hq'
      subst ev
      exact ⟨rv, hR _ _ H2 s' hsz old un2 hok2 os2 bare2 fin⟩
    | next => exact False.elim hq'
    | brk => exact False.elim hq'
    | cont => exact False.elim hq'
/-- one that stores nothing: it is let go, the heap is as it was -/
theorem let_go {pins : List (Addr × Obj)} {σ : L2.St} {H1 : Hp} {hp2 : Heap} {s1 s' : Shared} {a : Addr} (I1 : Inv X pins σ H1 s1) (ha : s1.heap.objs.size ≤ a) (old : ∀ b o, s1.heap.get? b = some o → hp2.get? b = some o)
    (un : Un (frs X.stack) [] (upd H1 a (exo a C none)) (upd H1 a (exo a C none)) hp2 s'.heap) (hok : HOk X.prog X.w (upd H1 a (exo a C none)) s'.heap) (ho : s'.os = s1.os) (hb : AllBare s'.gens) :
    ∃ (t0 : Addr) (G : Heap), Inv X pins σ H1 { s' with heap := G } ∧ (∀ b o, G.get? b = some o → s'.heap.get? b = some o) ∧ G.get? a = none ∧ s'.heap.get? a = some ({ cls := .ref C, dict := none, data := .fields #[.ref t0, .none, .none, .none, .bool false, .none] } : Obj) := by
  obtain ⟨t0, here⟩ := exo_at hok upd_same
  have na : H1 a = none := I1.hok.fresh ha
  obtain ⟨G, same, gone⟩ := restrict s'.heap fun b => decide (b ≠ a)
  have at_ : ∀ b, b ≠ a → G.get? b = s'.heap.get? b := fun b q => same b (decide_eq_true q)
  have out : G.get? a = none := gone a (by simp)
  have below : ∀ {b : Addr} {o : Obj}, s1.heap.get? b = some o → b ≠ a := fun q => Nat.ne_of_lt (Nat.lt_of_lt_of_le (Heap.lt_size q) ha)
  have off : ∀ {b : Addr} {o : Obj}, s1.heap.get? b = some o → H1 b = none → upd H1 a (exo a C none) b = none := fun q n => (upd_ne (below q)).trans n
  have U : Un (frs X.stack) [] H1 H1 s1.heap G := by
    refine ⟨fun b o q n h1 h2 => ?_, fun b o q n h1 h2 => ?_, fun b o q n h1 => n, fun b o q h1 => ?_, fun b xs q => q, fun b o u q => q, fun b ps q => ⟨#[], by rw [q]; simp⟩⟩
    · exact (at_ b (below q)).trans (un.keep b o (old b o q) (off q n) h1 h2)
    · obtain ⟨sl, z⟩ := un.slot b o (old b o q) (off q n) h1 h2
      exact ⟨sl, (at_ b (below q)).trans z⟩
    · obtain ⟨o', z⟩ := un.there b o (old b o q) h1
      exact ⟨o', (at_ b (below q)).trans z⟩
  have K1 : HOk X.prog X.w H1 G := fun b o q => by
    have hba : b ≠ a := ne_of_none q na
    refine (hok b o ((upd_ne hba).trans q)).stay (fun c v hc y => ?_) (fun c hc => ?_) (fun c xs hc => ?_)
    · refine (at_ c ?_).trans y
      rcases hc with rfl | hc
      · exact hba
      · intro e
        rw [e, upd_same] at hc
        exact exo_own (Option.some.inj hc)
    · by_cases e : c = a
      · rw [e, upd_same] at hc
        exact (exo_own (Option.some.inj hc)).elim
      · rwa [upd_ne e] at hc
    · by_cases e : c = a
      · rw [e, upd_same] at hc
        exact (exo_tup (Option.some.inj hc)).elim
      · rwa [upd_ne e] at hc
  refine ⟨t0, G, I1.call' (s' := { s' with heap := G }) (ch := []) ho U K1 hb (fun b z => absurd z (by simp)), fun b o q => ?_, out, here⟩
  by_cases e : b = a
  · rw [e, out] at q
    cases q
  · exact (at_ b e).symm.trans q
variable {x : Str} {p pos : Pos} {e : Expr} {es : List Expr} {ta : TA}
/-- C(), nothing stored -/
def tMkN (C : Addr) (sp : Sp) : L2.St → Hp → XK → Prop := fun _ H Q => (∀ a, H a = none → sp [.ref a] (upd H a (exo a C none)) (fun v H2 => v = .non ∧ H2 = upd H a (exo a C none)) E0) ∧ Q (.ref C) none H
theorem pmkN_0 (T : OexC X.K C) (iC : PySem.W.findIn X.K (.ref C) "__init__" = some (some (.ref fI))) (tI : PySem.W.typeIn X.K (.ref fI) = some (.type "function")) (D : Def X.prog X.w X.K X.mg X.base CX0 k fI ps sp) (hr : Room (k + 1) X.A) (hm : X.mg x = some (.ref C))
    (hg : Gl X x := by rfl) (hdb : (x == ("__debug__" : Str)) = false := by decide) : L2N.PMk X (.Call (.Name x p) [] [] pos) (tMkN C sp) := by
  intro pins s σ H Q I h
  refine wpAny_Call_Name_kw (ld_glob I hg hm ?_ hdb)
  refine PySem.W.callWith_K0 I.kIn T.kC (oex_run (us := []) (vs := []) T iC tI D hr I .nil (by simp) (Fin := fun a H2 => H2 = upd H a (exo a C none)) h.1 fun hp2 a H2 s' ha old un hok ho hb fin => ?_)
  subst fin
  obtain ⟨t0, G, J, kG, ge, hoe⟩ := let_go I ha old un hok ho hb
  exact ⟨a, _, _, { s' with heap := G }, H, .ref C, none, rfl, J, kG, ge, hoe, ⟨rfl, rfl, fun vs e => by cases e; rfl⟩, rfl, rfl, I.hok.fresh ha, rfl, hb, raises_own T.exC T.tyC, h.2⟩
/-- C(e, ..), a field stored -/
theorem pmkN_1 (T : OexC X.K C) (iC : PySem.W.findIn X.K (.ref C) "__init__" = some (some (.ref fI))) (tI : PySem.W.typeIn X.K (.ref fI) = some (.type "function")) (D : Def X.prog X.w X.K X.mg X.base CX0 k fI ps sp) (hr : Room (k + 1) X.A) (hm : X.mg x = some (.ref C))
    (ha : PA X (e :: es) ta) (hg : Gl X x := by rfl) (hdb : (x == ("__debug__" : Str)) = false := by decide) (he : starEach (e :: es) X.env = (false, eval e X.env) :: starEach es X.env := by rfl) (hpl : (backTo pos (starEach es X.env)).any (·.1) = false := by rfl) :
    L2N.PMk X (.Call (.Name x p) (e :: es) [] pos) (tMkO C sp [] ta) := by
  intro pins s σ H Q I h
  refine wpAny_Call_Name_kw (ld_glob I hg hm ?_ hdb)
  refine PySem.W.callWith_K (h₀ := X.base) I.ok.mod.kin T.kC (thn (ha.run pos pins s σ H _ I h) fun us s1 ⟨vs, H1, I1, r1, hz, q1⟩ => ⟨I1.kIn, ?_⟩) he hpl
  refine oex_run T iC tI D hr I1 r1 hz (Fin := fun a H2 => ∃ (d : Addr) (fs : List (Str × V)), H2 a = some (exo a C (some d)) ∧ H2 d = some (exd d fs) ∧ H1 d = none ∧ Q (.ref C) (some d) (upd (del H2 a) d (.xd fs))) (fun a na => by
    have z := q1 a na
    rw [List.append_nil] at z
    exact z) fun hp2 a H2 s' ha' old un hok ho hb ⟨d, fs, ea, ed, hd1, q2⟩ => ?_
  obtain ⟨h2, g2, d2, t2, os'⟩ := s'
  obtain ⟨hp, g, dr, tk, os⟩ := s1
  obtain ⟨t0, G, J, kG, ge, hoe, na⟩ := mk_end0 (d2 := d2) (t2 := t2) I1 ha' old un hok ho hb ea ed hd1
  exact ⟨a, _, _, ⟨G, g2, d2, t2, os'⟩, _, .ref C, some d, rfl, J, kG, ge, hoe, ⟨rfl, rfl, fun vs e => by cases e; rfl⟩, rfl, rfl, na, rfl, hb, raises_own T.exC T.tyC, q2⟩
end
theorem r_ost {K : PySem.W.Frag} {σ : L2.St} {H : Hp} {D : Ends} {f : Str} {to te : TE} (k : te σ H fun y H1 => to σ H1 fun x H2 => ∃ a C : Addr, x = .ref a ∧ OexC K C ∧ PySem.W.findIn K (.ref C) f = some none ∧
  ((H2 a = some (exo a C none) ∧ ∀ dx, H2 dx = none → dx ≠ a → D.nx σ (upd (upd H2 dx (exd dx [(f, y)])) a (exo a C (some dx)))) ∨
    ∃ (dx : Addr) (fs : List (Str × V)), H2 a = some (exo a C (some dx)) ∧ H2 dx = some (exd dx fs) ∧ fs.length ≤ 900 ∧ D.nx σ (upd H2 dx (exd dx ((f, y) :: fs))))) : tOst K f to te D σ H := k
end BW
namespace BW
open PySem PySem.Spec PyProof.Rows L2
/-- o.m(e, ..) in a try: what it lets out may hang on the slots -/
def tMtS (C : Addr) (m : Str) (sp : Sp) (E : L2.St → XK) (ta : TE) (t : TA) : TE := fun σ H Q => ta σ H fun x H1 => ∃ a dx fs, x = .ref a ∧ H1 a = some (.ins C dx fs) ∧ fs.lookup m = none ∧ t σ H1 fun vs H2 => sp (x :: vs) H2 Q (E σ)
section
variable {X : Cx} {CX : CXT} {k : Nat} {f C : Addr} {ps : List Str} {sp : Sp} {E : L2.St → XK} {m : Str} {apos pos : Pos} {e o : Expr} {es : List Expr} {t : TA} {ta : TE}
theorem pe_mtS {pl : Sem Bool} (he : PE X o ta) (c : Cls X.K C) (hm : Meth X.K C m f) (D : Def X.prog X.w X.K X.mg X.base CX k f ps sp) (hr : Room k X.A) (hx : ∀ σ, PassesAt CX X σ (E σ)) (ha : PA X (e :: es) t)
    (hst : starEach (e :: es) X.env = (false, eval e X.env) :: starEach es X.env := by rfl) (hpl : (backTo pos (starEach es X.env)).any (·.1) = false := by rfl)
    (ht : eval (.Call (.Attribute o m apos) (e :: es) [] pos) X.env = (do
      let ov ← eval o X.env
      standAt apos.atName
      let (f, first) ← holding [ov] (getMethod ov m pl)
      callWith pos f first (backTo pos (starEach (e :: es) X.env)) (backToKw pos (keywordEach [] X.env))) := by rfl) : PE X (.Call (.Attribute o m apos) (e :: es) [] pos) (tMtS C m sp E ta t) := by
  obtain ⟨⟨fd, F, b⟩, _⟩ := D
  refine ⟨fun pins s σ H Q I h => PySem.W.methodCall_KW (pl := pl) (thn (he.run pins s σ H _ I h) fun u s1 hu => ?_) ht⟩
  obtain ⟨x, H1, I1, rx, a, dx, fs, rfl, ea, l, q⟩ := hu
  obtain rfl : u = Value.ref a := rx
  refine getmeth_ok I1 ea c hm l (PySem.W.callWith_K (first := [.ref a]) (h₀ := X.base) I.ok.mod.kin hm.kp (thn (ha.run pos pins s1 σ H1 _ I1 q) fun us s2 hv => ?_) hst hpl)
  obtain ⟨vs, H2, I2, r, q2⟩ := hv
  exact ⟨I2.kIn, run_fnS (us := .ref a :: us) (vs := .ref a :: vs) F hr b (hx σ) I2 (.cons rfl r) q2⟩
theorem r_mtS {σ : L2.St} {H : Hp} {Q : VK} (k : ta σ H fun x H1 => ∃ a dx fs, x = .ref a ∧ H1 a = some (.ins C dx fs) ∧ fs.lookup m = none ∧ t σ H1 fun vs H2 => sp (x :: vs) H2 Q (E σ)) : tMtS C m sp E ta t σ H Q := k
end
open L2H (FnH Hot1 RoomH HotC cxH fn_ofH)
/-- a def that is called while an exception is handled -/
def DefH (P : Program) (w : World) (K : PySem.W.Frag) (mg : Str → Option Value) (base : Heap) (k : Nat) (f : Addr) (ps : List Str) (sp : Sp) : Prop := ∃ fd, FnH P w K mg base CX0 k f fd ps sp ∧ Binds K fd ps []
theorem mkH {P : Program} {w : World} {K : PySem.W.Frag} {mg : Str → Option Value} {base : Heap} {x qual : Str} {st : Stmt} {f : Addr} {N ps : List Str} {k : Nat} {sp : Sp} (F : ∃ fd, FnP K x qual st f fd) (S : FnScope N ps (defScope st)) (hb : BindsN x qual st ps) (len : ∀ vs H Q E, sp vs H Q E → vs.length = ps.length)
    (body : ∀ (cdv : Value) (A : Around) (outer : List Env) (s : Shared) (H : Hp) (vs : List V) (Q : VK) (E : XK) (p : Addr × Obj), Hot1 A p → RoomH k (A.deeper (envOfC qual (defScope st) s.heap.objs.size f cdv)) → sp vs H Q E →
      ∃ t, PSs (cxH CX0 P w K mg base N qual (defScope st) f cdv A outer s H E p) (defBody st) t ∧ t { nx := fun _ H' => Q .non H', rt := Q } (start N vs) H) : DefH P w K mg base (k + 1) f ps sp := by
  obtain ⟨fd, F⟩ := F
  refine ⟨fd, ?_, F.bindsN hb⟩
  obtain ⟨oc, od, dV, kV, doc, pm, an, cdv, ct, osl, rfl, lk, hcd, _, _⟩ := F.ex
  exact fn_ofH lk hcd S len fun A outer s H vs Q E p hot hr hsp => body cdv A outer s H vs Q E p hot hr hsp
/-- C(e, ..) in an except suite -/
theorem pmkH_1 {X : Cx} {x : Str} {e : Expr} {es : List Expr} {ta : TA} {p pos : Pos} {C fI : Addr} {k : Nat} {ps : List Str} {sp : Sp} (T : OexC X.K C) (iC : PySem.W.findIn X.K (.ref C) "__init__" = some (some (.ref fI))) (tI : PySem.W.typeIn X.K (.ref fI) = some (.type "function"))
    (D : DefH X.prog X.w X.K X.mg X.base k fI ps sp) (hr : RoomH (k + 1) X.A) (hc : HotC X) (hm : X.mg x = some (.ref C)) (ha : PA X (e :: es) ta) (hg : Gl X x := by rfl)
    (hdb : (x == ("__debug__" : Str)) = false := by decide) (he : starEach (e :: es) X.env = (false, eval e X.env) :: starEach es X.env := by rfl) (hpl : (backTo pos (starEach es X.env)).any (·.1) = false := by rfl) :
    L2N.PMk X (.Call (.Name x p) (e :: es) [] pos) (tMkO C sp [] ta) := by
  obtain ⟨fd, F, b⟩ := D
  exact (L2H.pmk5_oexH T iC tI F hr hc b pass0 hg hm ha hdb he hpl).pmk
end BW
namespace BW
open PySem PySem.Spec PyProof.Rows L2
/-- an exception with context None is an exception -/
theorem cx_of_n {P : Program} {w : World} {outer : List Env} {H : Hp} {s : Shared} {E : XK} {u : Value} {s' : Shared} (c : L2N.CX P w outer H s E u s') : L2.CX P w outer H s E u s' := by
  obtain ⟨a, B, H', cls, d, e, fl, hok, ub, na, os, ag, hE⟩ := c
  exact ⟨a, B, H', cls, d, e, L2H.flyingZ_imp (fun o z => z.zc) fl, hok, ub, na, os, ag, hE⟩
theorem passNL {X : Cx} {W : WX} {E : XK} (tk : L2.Takes X W) (hW : ∀ cls d σ H, E cls d H → W cls d σ H) : Passes (L2N.CX X.prog X.w) X E := fun pins σ H s e s' I c => passes_call tk hW pins σ H s e s' I (cx_of_n c)
theorem passAtN {X : Cx} {W : WX} (tk : L2.Takes X W) (σ : L2.St) : PassesAt (L2N.CX X.prog X.w) X σ (WE W σ) := fun pins H s e s' I c => passAt tk σ pins H s e s' I (cx_of_n c)
section
variable {X : Cx} {CX : CXT} {k : Nat} {f C : Addr} {ps : List Str} {sp : Sp} {E : L2.St → XK} {m : Str} {apos pos : Pos} {o : Expr} {ta : TE}
theorem pe_mtS0 {pl : Sem Bool} (he : PE X o ta) (c : Cls X.K C) (hm : Meth X.K C m f) (D : Def X.prog X.w X.K X.mg X.base CX k f ps sp) (hr : Room k X.A) (hx : ∀ σ, PassesAt CX X σ (E σ))
    (ht : eval (.Call (.Attribute o m apos) [] [] pos) X.env = (do
      let ov ← eval o X.env
      standAt apos.atName
      let (f, first) ← holding [ov] (getMethod ov m pl)
      callWith pos f first (backTo pos (starEach [] X.env)) (backToKw pos (keywordEach [] X.env))) := by rfl) : PE X (.Call (.Attribute o m apos) [] [] pos) (tMtS C m sp E ta tNil) := by
  obtain ⟨⟨fd, F, b⟩, _⟩ := D
  refine ⟨fun pins s σ H Q I h => PySem.W.methodCall_KW (pl := pl) (thn (he.run pins s σ H _ I h) fun u s1 hu => ?_) ht⟩
  obtain ⟨x, H1, I1, rx, a, dx, fs, rfl, ea, l, q⟩ := hu
  obtain rfl : u = Value.ref a := rx
  refine getmeth_ok I1 ea c hm l (PySem.W.callWith_K0 (first := [.ref a]) I1.kIn hm.kp ?_)
  exact run_fnS (us := [.ref a]) (vs := [.ref a]) F hr b (hx σ) I1 (.cons rfl .nil) q
end
section
variable {X : Cx} {K : PySem.W.Frag} {a : Addr} {oe : Obj} {cls : Value} {d : Option Addr} {pn : List (Addr × Obj)}
/-- isinstance(e, c), e the handled one -/
def rIsEV (K : PySem.W.Frag) (cls : Value) (d : Option Addr) (a : Addr) : List V → Hp → VK → Prop := fun xs H Q => ∃ (D : Addr) (c : V) (cv : Value) (b : Bool), cls = .ref D ∧ d = none ∧ ExcC K D ∧ xs = [.ref a, c] ∧ ClsV c cv ∧ PySem.W.kitOne K (.ref D) cv = some b ∧ Q (.bl b) H
theorem call_isEV (hK : X.K = K) (hz : Zc cls d oe) (hf : ∃ vs, oe.data = .fields vs) : CallR (X.suite a ((a, oe) :: pn)) (.builtin "isinstance") (rIsEV K cls d a) := by
  subst hK
  intro pins s σ H xs us Q I r h
  obtain ⟨D, c, cv, b, rfl, rfl, C, rfl, hc, e, q⟩ := h
  exact call_isE C hz hf pins s σ H _ us Q I r ⟨c, cv, b, rfl, fun u ru => hc.eq ru, e, q⟩
/-- isinstance(e, (c1, ..)) -/
def rIsET (K : PySem.W.Frag) (cls : Value) (d : Option Addr) (a : Addr) : List V → Hp → VK → Prop := fun xs H Q => ∃ (D tp : Addr) (cs : List V) (us : List Value) (b : Bool), cls = .ref D ∧ d = none ∧ ExcC K D ∧ xs = [.ref a, .ref tp] ∧ H tp = some (.tup cs) ∧ Paired ClsV cs us ∧ PySem.W.kitAny K (.ref D) us = some b ∧ Q (.bl b) H
theorem call_isET (hK : X.K = K) (hz : Zc cls d oe) (hf : ∃ vs, oe.data = .fields vs) : CallR (X.suite a ((a, oe) :: pn)) (.builtin "isinstance") (rIsET K cls d a) := by
  subst hK
  intro pins s σ H xs us Q I r h
  obtain ⟨D, tp, cs, ws, b, rfl, rfl, C, rfl, hT, hc, e, q⟩ := h
  obtain ⟨u1, u2, rfl, r1, r2⟩ := vals2 r
  cases r1
  cases r2
  obtain ⟨hget, _⟩ := I.pin (a, oe) (List.mem_append.mpr (.inl List.mem_cons_self))
  obtain ⟨vs, hv⟩ := hf
  have J : PySem.W.InstAt s.heap a oe D none := by
    obtain ⟨oc, od, oda, osl⟩ := oe
    obtain ⟨h1, h2⟩ := hz
    dsimp only at h1 h2 hv
    subst h1 h2 hv
    exact ⟨hget, rfl, rfl, trivial⟩
  obtain ⟨_, its, rv, o, h1, h2, n, h3⟩ := (show ObjOk X.prog X.w H s.heap tp (.tup cs) from I.hok tp _ hT)
  have e3 := ClsV.all hc rv
  subst e3
  obtain ⟨oc, od, dt, sl⟩ := o
  simp only at h2 h3
  subst h2 h3
  exact PySem.W.kia_tup (PySem.W.handS_kitx_exc C.hg C.hk C.hs C.hd C.ha C.hn C.ht C.hm) I.kIn J h1 e (fun z => nomatch z) fun tk => ⟨.bl b, H, I.kept (t' := tk) fun _ _ z => z, rfl, q⟩
end
end BW
namespace BW
open PySem PySem.Spec PyProof.Rows L2
/-! ### where no repr is under way -/
/-- nothing is being shown -/
abbrev Gd (A : Around) : Prop := A.guards = some []
section
variable (P : Program) (w : World) (K : PySem.W.Frag) (mg : Str → Option Value) (base : Heap)
/-- what a def promises where nothing is being shown -/
structure FnG (k : Nat) (f : Addr) (fd : FuncData) (ps : List Str) (sp : Sp) : Prop where
  len : ∀ vs H Q E, sp vs H Q E → vs.length = ps.length
  run : ∀ (A : Around) (outer : List Env) (s : Shared) (H : Hp) (args : Args) (us : List Value) (vs : List V) (Q : VK), Room k A → Gd A → Env0 P w K mg base A outer s H → BindsTo s fd args (ps.zip us) → Vals vs us → sp vs H Q E0 →
    codeAny (model P w) A (.call (.ref f) args) (CR CX0 outer P w H s Q E0) s
def DefG (k : Nat) (f : Addr) (ps : List Str) (sp : Sp) : Prop := (∃ fd, FnG P w K mg base k f fd ps sp ∧ Binds K fd ps []) ∧ PySem.W.keepIn K (.ref f) = true
end
section
variable {P : Program} {w : World} {K : PySem.W.Frag} {mg : Str → Option Value} {base : Heap}
theorem mkG {x qual : Str} {st : Stmt} {f : Addr} {N ps : List Str} {k : Nat} {sp : Sp} (F : ∃ fd, FnP K x qual st f fd) (S : FnScope N ps (defScope st)) (hb : BindsN x qual st ps) (len : ∀ vs H Q E, sp vs H Q E → vs.length = ps.length)
    (body : ∀ (cdv : Value) (A : Around) (outer : List Env) (s : Shared) (H : Hp) (vs : List V) (Q : VK), Gd A → Room k (A.deeper (envOfC qual (defScope st) s.heap.objs.size f cdv)) → sp vs H Q E0 →
      ∃ t, PSs (cxOf CX0 P w K mg base N qual (defScope st) f cdv A outer s H E0) (defBody st) t ∧ t { nx := fun _ H' => Q .non H', rt := Q } (start N vs) H) : DefG P w K mg base (k + 1) f ps sp := by
  obtain ⟨fd, F⟩ := F
  refine ⟨⟨fd, ⟨len, fun A outer s H args us vs Q room gd env bound vals hsp => ?_⟩, F.bindsN hb⟩, F.kp⟩
  obtain ⟨oc, od, dV, kV, doc, pm, an, cdv, ct, osl, rfl, look, code, _, _⟩ := F.ex
  have count := len _ _ _ _ hsp
  have inK : K.In s.heap := env.mod.kin.keeps fun b o q => (env.bs b o q).1
  have slots : ∀ y ∈ ps.zip us, (defScope st).names.lookup y.1 = some .local ∨ ((defScope st).names.lookup y.1 = some .cell ∧ ((cellsFrom (s.heap.objs.size + 1) (defScope st).names []).lookup y.1).isSome = true) := by
    rintro ⟨n, v⟩ hy
    exact (S.par n (List.of_mem_zip hy).1).imp id fun q => ⟨q, PySem.W.cellsFrom_some _ _ _ (.inl q)⟩
  refine codeAny_call_function room.depth (inK _ _ look) rfl S.co S.gen rfl (PySem.W.codeRec_of inK code) (bound _ _ _ _ (wpAny_newFunctionEnv_cells S.kind slots fun e he s1 made => ?_))
  subst he
  obtain ⟨t, runs, reads⟩ := body cdv A outer s H vs Q gd (room.deeper _) hsp
  refine ⟨(env.mod.nolimit.keeps fun b o q => (env.bs b o q).1).keeps made.toInCall.keep, codeAny_func (wpAny_mono (runs.run [] s1 (start N vs) H _ (inv_start S room.hd env count vals made) reads) (fun fl s' out => ?_) fun _ _ z => z)⟩
  cases fl with
  | ret u =>
    obtain ⟨v, _, H', J, rv, q⟩ := out
    exact ⟨v, H', J.os, J.bare, J.base, J.hok, rv, q⟩
  | next =>
    obtain ⟨_, H', J, q⟩ := out
    exact ⟨V.non, H', J.os, J.bare, J.base, J.hok, rfl, q⟩
  | brk =>
    obtain ⟨_, _, _, q⟩ := out
    exact q.elim
  | cont =>
    obtain ⟨_, _, _, q⟩ := out
    exact q.elim
end
section
variable {X : Cx} {k : Nat} {f C : Addr} {ps : List Str} {sp : Sp} {x : Str} {p pos : Pos} {e : Expr} {es : List Expr} {t : TA}
theorem run_G {pins : List (Addr × Obj)} {σ : L2.St} {H : Hp} {s : Shared} {Q : VK} {us : List Value} {vs : List V} {A : Around} {R : Value → Shared → Prop} (D : DefG X.prog X.w X.K X.mg X.base k f ps sp) (hr : Room k A) (gd : Gd A) (I : Inv X pins σ H s) (env : Env0 X.prog X.w X.K X.mg X.base A X.stack s H) (r : Vals vs us) (h : sp vs H Q E0)
    (kk : ∀ u s', EP X pins σ Q u s' → R u s') {E : Value → Shared → Prop} : wpAny (model X.prog X.w) A (call (.ref f) us) R E s := by
  obtain ⟨⟨fd, F, b⟩, _⟩ := D
  have bound := b s us I.kIn (by rw [List.append_nil, ← r.length]; exact F.len _ _ _ _ h)
  rw [List.append_nil] at bound
  refine wpAny_call (codeAny_mono (F.run A X.stack s H ⟨us, []⟩ us vs Q hr gd env bound r h) fun o s' q => ?_)
  cases o with
  | error er => exact (show False from q).elim
  | ok fl =>
    cases fl with
    | ret u => exact kk u s' (I.after q)
    | next => exact False.elim q
    | brk => exact False.elim q
    | cont => exact False.elim q
theorem pe_clG (D : DefG X.prog X.w X.K X.mg X.base k f ps sp) (hr : Room k X.A) (gd : Gd X.A) (hm : X.mg x = some (.ref f)) (ha : PA X (e :: es) t) (hg : Gl X x := by rfl) (hdb : (x == ("__debug__" : Str)) = false := by decide)
    (he : starEach (e :: es) X.env = (false, eval e X.env) :: starEach es X.env := by rfl) (hpl : (backTo pos (starEach es X.env)).any (·.1) = false := by rfl) : PE X (.Call (.Name x p) (e :: es) [] pos) (tCall sp [] E0 t) := by
  refine ⟨fun pins s σ H Q I h => wpAny_Call_Name_kw (ld_glob I hg hm (PySem.W.callWith_K (h₀ := X.base) I.ok.mod.kin D.2 (thn (ha.run pos pins s σ H _ I h) fun us s1 hv => ?_) he hpl) hdb)⟩
  obtain ⟨vs, H1, I1, r, q⟩ := hv
  rw [List.append_nil] at q
  exact ⟨I1.kIn, run_G D hr gd I1 I1.env0 r q fun _ _ z => z⟩
end
/-! ### repr -/
structure Shw (d : PyData) : Prop where
  s : d.showable = true
  l : d.canLay0 = true
  dp : d.depth ≤ 60
  z : d.shown.length ≤ sizeLine
/-- repr(x), x data -/
def rRepr (K : PySem.W.Frag) : List V → Hp → VK → Prop := fun xs H Q => ∃ (a : Addr) (d : PyData), xs = [.ref a] ∧ Dp K H (.ref a) d ∧ Shw d ∧ Q (.str d.shown) H
theorem cr_repr {X : Cx} {K : PySem.W.Frag} {k : Nat} (hK : X.K = K) (gd : Gd X.A) (hr : Room k X.A) : CallR X (.builtin "repr") (rRepr K) := by
  subst hK
  intro pins s σ H xs us Q I r h
  obtain ⟨a, d, rfl, hd, sh, q⟩ := h
  obtain rfl := Vals.ref1 r
  obtain ⟨as, rd⟩ := Dp.reads I d _ (.ref a) hd rfl
  have hu := hr.units
  have := sh.dp
  exact repr_of_reads' rd sh.s (PyData.noDict_hsm (PyData.hasDict_of_canLay d sh.l)) gd (by omega) (fun _ _ z => z) (fun h' u tk kp => ⟨.str d.shown, H, I.kept (t' := tk) kp, ⟨u, rfl⟩, q⟩) sh.z
end BW
namespace BW
open PySem PySem.Spec PyProof.Rows L2
/-- the text of None or an int -/
def txtO : Option Int → Str
  | none => "None"
  | some i => toString i
/-- repr of data, of an int or None -/
def rReprP (K : PySem.W.Frag) : List V → Hp → VK → Prop := fun xs H Q => rRepr K xs H Q ∨ ∃ o : Option Int, xs = [oV o] ∧ (∀ i, o = some i → i.natAbs.log2 < 1920) ∧ Q (.str (txtO o)) H
theorem cr_reprP {X : Cx} {K : PySem.W.Frag} {k : Nat} (hK : X.K = K) (gd : Gd X.A) (hr : Room k X.A) : CallR X (.builtin "repr") (rReprP K) := by
  intro pins s σ H xs us Q I r h
  rcases h with h | ⟨o, rfl, hz, q⟩
  · exact cr_repr hK gd hr pins s σ H xs us Q I r h
  · cases o with
    | none =>
      obtain ⟨u, rfl, ru⟩ := vals1 r
      obtain rfl : u = Value.none := ru
      exact PySem.P.repr_of_none ⟨.str _, H, I.tok _, ⟨_, rfl⟩, q⟩
    | some i =>
      obtain ⟨u, rfl, t, rfl⟩ := vals1 r
      exact PySem.P.repr_of_int (hz i rfl) ⟨.str _, H, I.tok _, ⟨_, rfl⟩, q⟩
/-- repr of an own object -/
def rReprO (C : Addr) (sp : Sp) : List V → Hp → VK → Prop := fun xs H Q => ∃ a dx fs, xs = [.ref a] ∧ H a = some (.ins C dx fs) ∧ sp [.ref a] H (fun v H' => ∃ z : Str, v = .str z ∧ Q (.str z) H') E0
theorem cr_reprO {X : Cx} {k : Nat} {C f : Addr} {ps : List Str} {sp : Sp} (D : DefG X.prog X.w X.K X.mg X.base k f ps sp) (m : Meth X.K C "__repr__" f) (gd : Gd X.A) (hr : Room (k + 1) X.A) : CallR X (.builtin "repr") (rReprO C sp) := by
  intro pins s σ H xs us Q I r h
  obtain ⟨a, dx, fs, rfl, ha, q⟩ := h
  obtain rfl := Vals.ref1 r
  obtain ⟨mA, O, _⟩ := ins_get I.hok ha
  obtain ⟨od, J, _⟩ := O.look
  obtain ⟨m0, F⟩ := I.fr
  have hu : X.A.in1.units < cLine := by
    have := hr.in1.un
    omega
  refine PySem.W.repr_K hu F I.mod.kin J m.at_ m.fn (run_G D hr.in1 gd I I.env0.in1 r q fun u s' hq => ?_)
  obtain ⟨v, H', I', rv, z, rfl, q2⟩ := hq
  obtain ⟨t, rfl⟩ := rv
  exact ⟨.str z, H', I', ⟨t, rfl⟩, q2⟩
/-- {x}, x data, in an f-string -/
def tFmtD (K : PySem.W.Frag) (te : TE) : TE := fun σ H Q => te σ H fun x H1 => ∃ (a : Addr) (d : PyData), x = .ref a ∧ Dp K H1 (.ref a) d ∧ Shw d ∧ Q (.str d.shown) H1
theorem pe_fmtD {X : Cx} {K : PySem.W.Frag} {k : Nat} {e : Expr} {te : TE} {pos : Pos} (hK : X.K = K) (gd : Gd X.A) (hr : Room k X.A) (he : PE X e te) : PE X (.FormattedValue e (-1) none pos) (tFmtD K te) := by
  subst hK
  refine ⟨fun pins s σ H Q I h => ?_⟩
  refine wpAny_FormattedValue_plain (thn (he.run pins s σ H _ I h) fun v s1 hv => ?_)
  obtain ⟨x, H1, I1, r1, a, d, rfl, hd, sh, q⟩ := hv
  obtain rfl : v = Value.ref a := r1
  obtain ⟨as, rd⟩ := Dp.reads I1 d _ (.ref a) hd rfl
  have hu := hr.units
  have := sh.dp
  exact formatField_of_reads rd sh.s (PyData.noDict_hsm (PyData.hasDict_of_canLay d sh.l)) gd (by omega) (fun _ _ z => z) (fun h' u tk kp => ⟨.str d.shown, H1, I1.kept (t' := tk) kp, ⟨u, rfl⟩, q⟩) sh.z
theorem r_fmtD {K : PySem.W.Frag} {σ : L2.St} {H : Hp} {Q : VK} {te : TE} (k : te σ H fun x H1 => ∃ (a : Addr) (d : PyData), x = .ref a ∧ Dp K H1 (.ref a) d ∧ Shw d ∧ Q (.str d.shown) H1) : tFmtD K te σ H Q := k
theorem r_fmt {σ : L2.St} {H : Hp} {Q : VK} {te : TE} (k : te σ H fun x H1 => (∃ y : Str, x = .str y ∧ y.length ≤ sizeLine ∧ Q (.str y) H1) ∨ ∃ i : Int, x = .int i ∧ i.natAbs.log2 < 1920 ∧ Q (.str (toString i)) H1) : tFmt te σ H Q := k
end BW
namespace BW
open PySem PySem.Spec PyProof.Rows L2
/-- data that are short enough to be shown -/
structure Sa (ds : List PyData) (b k : Nat) : Prop where
  s : PyData.showableAll ds = true
  l : PyData.canLayAll0 ds = true
  ls : PyData.leavesShortAll 60 ds = true
  bu : PyData.bulkAll ds ≤ b
  dp : PyData.depthAll ds ≤ k
/-- an int of at most fifty digits -/
def I50 (i : Int) : Prop := i.natAbs < 10 ^ 50
theorem I50.len {i : Int} (h : I50 i) : (Str.ofString (toString i)).length ≤ 60 := by
  have e := int_text_length_le10 (k := 50) (by decide) h
  rw [PySem.ofString_length]
  omega
theorem I50.log {i : Int} (h : I50 i) : i.natAbs.log2 < 1920 := by
  by_cases z : i.natAbs = 0
  · rw [z]; decide
  · have h1 : i.natAbs < 2 ^ 1920 := Nat.lt_of_lt_of_le h (by decide +kernel)
    exact (Nat.log2_lt z).mpr h1
theorem Sa.nil : Sa [] 0 0 := ⟨rfl, rfl, rfl, Nat.le_refl _, Nat.le_refl _⟩
theorem Sa.int {ds : List PyData} {b k : Nat} {i : Int} (h : Sa ds b k) (hi : I50 i) : Sa (.int i :: ds) (b + 1) k := by
  have h1 := hi.len
  refine ⟨?_, h.l, ?_, ?_, ?_⟩
  · show (decide (i.natAbs.log2 < 1920) && PyData.showableAll ds) = true
    rw [h.s, decide_eq_true hi.log]; rfl
  · show (decide ((PyData.shown (.int i)).length ≤ 60) && PyData.leavesShortAll 60 ds) = true
    rw [h.ls, decide_eq_true (show (PyData.shown (.int i)).length ≤ 60 from h1)]; rfl
  · have := h.bu
    show 0 + 1 + PyData.bulkAll ds ≤ b + 1
    omega
  · have := h.dp
    show max 0 (PyData.depthAll ds) ≤ k
    omega
theorem Sa.bool {ds : List PyData} {b k : Nat} {i : Bool} (h : Sa ds b k) : Sa (.bool i :: ds) (b + 1) k := by
  refine ⟨h.s, h.l, h.ls, ?_, ?_⟩
  · have := h.bu
    show 0 + 1 + PyData.bulkAll ds ≤ b + 1
    omega
  · have := h.dp
    show max 0 (PyData.depthAll ds) ≤ k
    omega
theorem Sa.str {ds : List PyData} {b k n : Nat} {x : Str} (h : Sa ds b k) (h1 : PyData.canLay0 (.str x) = true) (h2 : PyData.leavesShort 60 (.str x) = true) (h3 : x.cps.size ≤ n) : Sa (.str x :: ds) (b + n + 1) k := by
  refine ⟨h.s, ?_, ?_, ?_, ?_⟩
  · show (PyData.canLay0 (.str x) && PyData.canLayAll0 ds) = true
    rw [h1, h.l]; rfl
  · show (PyData.leavesShort 60 (.str x) && PyData.leavesShortAll 60 ds) = true
    rw [h2, h.ls]; rfl
  · have := h.bu
    show x.cps.size + 1 + PyData.bulkAll ds ≤ b + n + 1
    omega
  · have := h.dp
    show max 0 (PyData.depthAll ds) ≤ k
    omega
theorem Sa.list {ds xs : List PyData} {b k b1 k1 : Nat} (h : Sa ds b k) (h1 : Sa xs b1 k1) : Sa (.list xs :: ds) (b + b1 + 1) (max (k1 + 1) k) := by
  refine ⟨?_, ?_, ?_, ?_, ?_⟩
  · show (PyData.showableAll xs && PyData.showableAll ds) = true
    rw [h.s, h1.s]; rfl
  · show (PyData.canLayAll0 xs && PyData.canLayAll0 ds) = true
    rw [h.l, h1.l]; rfl
  · show (PyData.leavesShortAll 60 xs && PyData.leavesShortAll 60 ds) = true
    rw [h.ls, h1.ls]; rfl
  · have := h.bu
    have := h1.bu
    show PyData.bulkAll xs + 1 + PyData.bulkAll ds ≤ b + b1 + 1
    omega
  · have := h.dp
    have := h1.dp
    show max (PyData.depthAll xs + 1) (PyData.depthAll ds) ≤ max (k1 + 1) k
    omega
theorem Sa.tuple {ds xs : List PyData} {b k b1 k1 : Nat} (h : Sa ds b k) (h1 : Sa xs b1 k1) : Sa (.tuple xs :: ds) (b + b1 + 1) (max (k1 + 1) k) := by
  have q := h.list h1
  exact ⟨q.s, q.l, q.ls, q.bu, q.dp⟩
theorem Sa.mono {ds : List PyData} {b k b' k' : Nat} (h : Sa ds b k) (h1 : b ≤ b') (h2 : k ≤ k') : Sa ds b' k' := ⟨h.s, h.l, h.ls, Nat.le_trans h.bu h1, Nat.le_trans h.dp h2⟩
theorem Sa.ints : ∀ {l : List Int}, (∀ i ∈ l, I50 i) → Sa (dI l) l.length 0
  | [], _ => .nil
  | i :: l, h => (Sa.ints fun j hj => h j (by simp [hj])).int (h i (by simp))
theorem fit (xs : List PyData) {b k : Nat} (h : Sa xs b k) (hb : b ≤ 200000) : (PyData.shown (.list xs)).length ≤ sizeLine ∧ (PyData.shown (.tuple xs)).length ≤ sizeLine := by
  have e1 := PyData.shown_le_bulk 60 (by decide) (.list xs) h.ls
  have e2 := PyData.shown_le_bulk 60 (by decide) (.tuple xs) h.ls
  have e3 : PyData.bulk (.list xs) ≤ 200000 := Nat.le_trans h.bu hb
  have e4 : PyData.bulk (.tuple xs) ≤ 200000 := Nat.le_trans h.bu hb
  rw [sizeLine_eq]
  omega
theorem Sa.shwL {xs : List PyData} {b k : Nat} (h : Sa xs b k) (hb : b ≤ 200000) (hk : k ≤ 50) : Shw (.list xs) := ⟨h.s, h.l, by
  show PyData.depthAll xs + 1 ≤ 60
  have := h.dp
  omega, (fit xs h hb).1⟩
theorem Sa.shwT {xs : List PyData} {b k : Nat} (h : Sa xs b k) (hb : b ≤ 200000) (hk : k ≤ 50) : Shw (.tuple xs) := ⟨h.s, h.l, by
  show PyData.depthAll xs + 1 ≤ 60
  have := h.dp
  omega, (fit xs h hb).2⟩
/-! ### comparisons, ranks -/
def dR (c : Nat × Int) : PyData := .tuple [.int (c.1 : Int), .int c.2]
theorem i50_nat {n : Nat} (h : n ≤ 100000) : I50 (n : Int) := by
  unfold I50
  have : (100000 : Nat) < 10 ^ 50 := by decide +kernel
  omega
theorem i50_le {i : Int} (h0 : 0 ≤ i) (h : i ≤ 1000 * 10 ^ 18) : I50 i := by
  unfold I50
  have : (1000 * 10 ^ 18 : Nat) < 10 ^ 50 := by decide +kernel
  omega
theorem Sa.rows {n : Nat} : ∀ {cs : List (Nat × Int)}, n ≤ 12 → (∀ c ∈ cs, 1 ≤ c.1 ∧ c.1 + 1 ≤ n) → (∀ c ∈ cs, 0 ≤ c.2 ∧ c.2 ≤ 10 ^ 18) → Sa (cs.map dR) (3 * cs.length) 1
  | [], _, _, _ => Sa.nil.mono (by simp) (by decide)
  | c :: cs, hn, hg, hp => by
    have h1 := hg c (by simp)
    have h2 := hp c (by simp)
    have ih := Sa.rows (cs := cs) hn (fun d hd => hg d (by simp [hd])) (fun d hd => hp d (by simp [hd]))
    exact (ih.tuple ((Sa.nil.int (i50_le h2.1 (by omega))).int (i50_nat (n := c.1) (by omega)))).mono (by simp; omega) (by omega)
theorem Sa.nats {l : List Nat} (h : ∀ n ∈ l, n ≤ 100000) : Sa (dI (l.map fun n : Nat => (n : Int))) l.length 0 := by
  have := Sa.ints (l := l.map fun n : Nat => (n : Int)) fun i hi => by
    obtain ⟨n, hn, rfl⟩ := List.mem_map.mp hi
    exact i50_nat (h n hn)
  rw [List.length_map] at this
  exact this
theorem dp_rows {K : PySem.W.Frag} {H : Hp} : ∀ {us : List V} {cs : List (Nat × Int)}, Rows H us cs → DpAll K H us (cs.map dR)
  | _, _, .nil => .nil
  | _, _, .cons h t => by
    obtain ⟨q, rfl, hq⟩ := h
    exact .cons (.tup (st_of hq) (.cons (.int _) (.cons (.int _) .nil))) (dp_rows t)
end BW
namespace BW
open PySem PySem.Spec PyProof.Rows L2
section
variable {P : Program} {w : World} {A : Around} {E : Value → Shared → Prop} {s : Shared}
theorem setOf_list {l : Addr} {items : Array Value} (ns : List Int) {Q : Value → Shared → Prop} (hh : A.handled = none) (hl : s.heap.IsList l items) (hit : IntsAre items.toList ns) (hb : ns.length + 1 < scanBound)
    (h : ∀ (h' : Heap) (tk c : Nat), SetR w h' s.heap.objs.size (fun j => decide (j ∈ ns)) c → c ≤ ns.length → (∀ b o, s.heap.get? b = some o → h'.get? b = some o) → Q (.ref s.heap.objs.size) { s with heap := h', toks := tk }) :
    wpAny (model P w) A (call (.type "set") [.ref l]) Q E s := by
  have hisz : items.size = ns.length := by
    have q := IntsAre.length hit
    rw [Array.length_toList] at q
    exact q
  obtain ⟨c, tl, hmro⟩ := F.called_set.mro
  have hmade := F.called_set.made
  have hsub := F.called_set.sub
  refine wpAny_call (codeAny_of_tree ?_)
  show wpAny _ _ (callAny (.type "set") _) _ _ _
  refine wpAny_pure ⟨Code.quiet_builtin _ (by decide +kernel), codeAny_builtin F.entry_type_call ?_⟩
  rw [Around.under_plain (weight_type_call_type "set" [.ref l] []) rfl]
  have h1 := F.called_set.notType
  have h2 := F.called_set.canCreate
  have hct := F.typeCall_set_1 (.ref l)
  repeat (any_goals (first | assumption | wp_step))

  refine codeAny_mono (code_set_led1 (.ref l) (E := E) (Q₁ := fun obj s₁ => obj = .ref s.heap.objs.size ∧ s₁ = { s with heap := s.heap.push { cls := .type "set", dict := none, data := .set #[] 0 (.fresh 0 0 (!w.params.followText "set-order")) } }) ⟨rfl, rfl⟩) fun r s₁ hr => ?_
  cases r with
  | error e => exact hr
  | ok fl =>
    cases fl with
    | ret obj =>
      obtain ⟨rfl, rfl⟩ := hr
      have hS : (s.heap.push { cls := .type "set", dict := none, data := .set #[] 0 (.fresh 0 0 (!w.params.followText "set-order")) }).get? s.heap.objs.size = some { cls := .type "set", dict := none, data := .set #[] 0 (.fresh 0 0 (!w.params.followText "set-order")) } := Heap.get?_push_size _ rfl
      have hT : Shared.TypeIs { s with heap := s.heap.push { cls := .type "set", dict := none, data := .set #[] 0 (.fresh 0 0 (!w.params.followText "set-order")) } } (.ref s.heap.objs.size) "set" := ⟨_, hS, rfl⟩
      have hli := F.called_set.init.lookup
      have hbi := F.called_set.init.bind (.ref s.heap.objs.size)
      repeat (any_goals (first | assumption | wp_step))

      refine codeAny_mono (codeAny_call_builtin (R := wants (fun r s₂ => r = .none ∧ ∃ h' tk c, s₂ = { s with heap := h', toks := tk } ∧ SetR w h' s.heap.objs.size (fun j => decide (j ∈ ns)) c ∧ c ≤ ns.length ∧
          (∀ b o, s.heap.get? b = some o → h'.get? b = some o)) E) F.called_set.init.plain F.entry_set_init (check_set_init_1 hT ?_)) fun r₂ s₂ hr₂ => ?_
      · obtain ⟨ol, hol, hcl, nl, hdl⟩ := hl
        obtain ⟨ocls, odict, odata, oslots⟩ := ol
        simp only at hcl hdl
        subst hcl; subst hdl
        have hol' : (s.heap.push { cls := .type "set", dict := none, data := .set #[] 0 (.fresh 0 0 (!w.params.followText "set-order")) }).get? l = some { cls := .type "list", dict := odict, data := .seq items nl, slots := oslots } := Heap.get?_push_of_some _ hol
        have hsls := PySem.F.sub_list_set
        have hslf := PySem.F.sub_list_frozenset
        have hne : (Value.type "tuple" == Value.type "dict") = false := by decide
        have hl1 : (s.heap.push { cls := .type "set", dict := none, data := .set #[] 0 (.fresh 0 0 (!w.params.followText "set-order")) }).IsList l items := ⟨_, hol', rfl, nl, rfl⟩
        unfold Builtin.«set.__init__» noKeywords Builtin.Frozenset.updateFrom
        generalize hPI : pyIter = PI
        wp_walk
        subst hPI

        refine wpAny_pyIter_list hl1 ?_
        refine wpAny_bind (wpAny_runValue ?_)
        have hlS : l < s.heap.objs.size := Heap.lt_size hol
        have hh3 : A.in1.in1.in1.handled = none := by simp [hh]
        have hz1 : (s.heap.push { cls := .type "set", dict := none, data := .set #[] 0 (.fresh 0 0 (!w.params.followText "set-order")) }).objs.size = s.heap.objs.size + 1 := Heap.size_push ..
        have hneI : l ≠ (s.heap.push { cls := .type "set", dict := none, data := .set #[] 0 (.fresh 0 0 (!w.params.followText "set-order")) }).objs.size := by
          rw [Heap.size_push]; exact Nat.ne_of_lt (Nat.lt_succ_of_lt hlS)
        have hSf : s.heap.objs.size ∉ [(s.heap.push { cls := .type "set", dict := none, data := .set #[] 0 (.fresh 0 0 (!w.params.followText "set-order")) }).objs.size, l] := by
          rw [Heap.size_push]; simp only [List.mem_cons, List.mem_singleton, List.not_mem_nil, or_false, not_or]
          exact ⟨Nat.ne_of_lt (Nat.lt_succ_self _), Nat.ne_of_gt hlS⟩
        have hval : ∀ (i : Nat) (v : Value), items[i]? = some v → ∃ k t, ns[i]? = some k ∧ v = .int k t := fun i v hv => by
          have hi : i < ns.length := by rw [← hisz]; exact (Array.getElem?_eq_some_iff.mp hv).1
          obtain ⟨t, e⟩ := PyProof.Rows.IntsAre.int_at hit i v (by rw [Array.getElem?_toList]; exact hv)
          refine ⟨ns[i], t, List.getElem?_eq_getElem hi, ?_⟩
          rw [e, List.getD_eq_getElem?_getD, List.getElem?_eq_getElem hi] <;> rfl
        refine set_update_ints ((Walks.list hh3 _ l hneI items).toS) s.heap.objs.size
          hSf ns hisz hb hval (items.size - 0) 0 _ (by omega) (Nat.zero_le _)
          ⟨⟨_, Heap.get?_push_size _ rfl, rfl, rfl⟩, (hl1.push _)⟩ ?hS0 ?hR
        case hS0 =>
          have hget : ((s.heap.push { cls := .type "set", dict := none, data := .set #[] 0 (.fresh 0 0 (!w.params.followText "set-order")) }).push { cls := .type "list_iterator", data := .fields #[.ref l, .int 0 0] }).get? s.heap.objs.size
              = some { cls := .type "set", dict := none, data := .set #[] 0 (.fresh 0 0 (!w.params.followText "set-order")) } := Heap.get?_push_of_some _ hS
          exact ⟨0, Nat.le_refl 0, setR_new_at hget⟩
        case hR =>
          intro s' c' hm hc' hS'
          obtain ⟨h', g2, d', tk', os'⟩ := s'
          have eg : g2 = s.gens := hm.gens
          have ed : d' = s.drawn := hm.drawn
          have eo : os' = s.os := hm.os
          subst eg; subst ed; subst eo
          show wpAny _ _ _ _ _ _
          refine wpAny_pure ?_
          show wpAny _ _ (ret Value.none) _ _ _
          rw [hisz] at hc'
          refine wpAny_pure ⟨rfl, h', tk', c', rfl, hS', hc', fun b o e => ?_⟩
          have hb0 : b < s.heap.objs.size := Heap.lt_size e
          have hb1 : b ≠ s.heap.objs.size := Nat.ne_of_lt hb0
          have hb2 : b ≠ (s.heap.push { cls := .type "set", dict := none, data := .set #[] 0 (.fresh 0 0 (!w.params.followText "set-order")) }).objs.size := by
            rw [Heap.size_push]; exact Nat.ne_of_lt (Nat.lt_succ_of_lt hb0)
          exact hm.heap b o (by simp only [List.mem_cons, List.mem_singleton, List.not_mem_nil, or_false, not_or]; exact ⟨hb1, hb2⟩) (Heap.get?_push_of_some _ (Heap.get?_push_of_some _ e))

      · cases r₂ with
        | error e => exact hr₂
        | ok fl₂ =>
          cases fl₂ with
          | ret r =>
            obtain ⟨rfl, h', tk, c', rfl, hS', hc', hk'⟩ := hr₂
            repeat (any_goals (first | assumption | wp_step))
            exact h _ _ _ hS' hc' hk'
          | _ => exact hr₂.elim
    | _ => exact hr.elim

end
/-- set(xs) of a list of numbers -/
def rSetL (w : World) : List V → Hp → VK → Prop := fun vs H Q => ∃ (a : Addr) (ns : List Int), vs = [V.ref a] ∧ H a = some (.lst (ns.map V.int)) ∧ ns.length + 1 < scanBound ∧
  ∀ (p : Addr) (n : Nat), n ≤ ns.length → H p = none → Q (.ref p) (upd H p (SetO w p (fun k => decide (k ∈ ns)) n))
theorem cr_setL {X : Cx} (hc : X.calm = true) : CallR X (.type "set") (rSetL X.w) := by
  intro pins s σ H vs us Q I r h
  obtain ⟨a, ns, rfl, ha, hb, q⟩ := h
  rw [Vals.ref1 r]
  obtain ⟨items, rv, pl, hz⟩ := I.list (.of ha)
  have hi : IntsAre items.toArray.toList ns := ints_of_vals rv
  refine setOf_list ns (I.ok.hd hc) (by obtain ⟨o, n, e, c, _, d⟩ := pl; exact ⟨o, e, c, n, d⟩) hi hb fun h' tk c R hcn k => ?_
  exact ⟨.ref _, upd H s.heap.objs.size (SetO X.w s.heap.objs.size (fun k => decide (k ∈ ns)) c), I.laid (t' := tk) (fun b u e => k b u e) (Nat.le_refl _) (setO_new R), rfl, q _ _ hcn (I.hok.fresh (Nat.le_refl _))⟩
end BW
namespace BW
open PySem PySem.Spec PyProof.Rows L2
theorem cr_setLK {X : Cx} {w : World} (hw : X.w = w) (hc : X.calm = true) : CallR X (.type "set") (rSetL w) := hw ▸ cr_setL hc
theorem cr_sortedSetK {X : Cx} {w : World} (hw : X.w = w) (hc : X.calm = true) : CallR X (.builtin "sorted") (rSortedSet w) := hw ▸ cr_sortedSet hc
theorem rise_eq : ∀ {a b : List Int}, a.Pairwise (· < ·) → b.Pairwise (· < ·) → (∀ k, k ∈ a ↔ k ∈ b) → a = b
  | [], [], _, _, _ => rfl
  | [], y :: b, _, _, h => absurd ((h y).mpr List.mem_cons_self) (by simp)
  | x :: a, [], _, _, h => absurd ((h x).mp List.mem_cons_self) (by simp)
  | x :: a, y :: b, ha, hb, h => by
    obtain ⟨h1, h2⟩ := List.pairwise_cons.mp ha
    obtain ⟨h3, h4⟩ := List.pairwise_cons.mp hb
    have e : x = y := by
      rcases List.mem_cons.mp ((h x).mp List.mem_cons_self) with q | q
      · exact q
      · rcases List.mem_cons.mp ((h y).mpr List.mem_cons_self) with r | r
        · exact r.symm
        · have := h1 y r
          have := h3 x q
          omega
    subst e
    have := rise_eq h2 h4 fun k => by
      constructor
      · intro q
        rcases List.mem_cons.mp ((h k).mp (List.mem_cons_of_mem _ q)) with r | r
        · have := h1 k q
          omega
        · exact r
      · intro q
        rcases List.mem_cons.mp ((h k).mpr (List.mem_cons_of_mem _ q)) with r | r
        · have := h3 k q
          omega
        · exact r
    rw [this]
theorem r_setL {w w' : World} {H : Hp} {Q : VK} {a : Addr} {ns : List Int} (hw : w' = w) (h : H a = some (.lst (vI ns))) (hb : ns.length + 1 < scanBound)
    (k : ∀ p n H', n ≤ ns.length → Same H H' → H p = none → H' p = some (SetO w p (fun k => decide (k ∈ ns)) n) → Q (.ref p) H') : rSetL w' [.ref a] H Q := by
  subst hw
  exact ⟨a, ns, rfl, h, hb, fun p n hn hp => k p n _ hn (same_new hp) hp upd_same⟩
theorem r_sortSet {w w' : World} {H : Hp} {Q : VK} {a : Addr} {S : Int → Bool} {n : Nat} (hw : w' = w) (h : H a = some (SetO w a S n)) (hn : n < 64)
    (k : ∀ ns p H', ns.Pairwise (· < ·) → (∀ k, k ∈ ns ↔ S k = true) → Same H H' → H p = none → H' p = some (.lst (vI ns)) → Q (.ref p) H') : rSortedSet w' [.ref a] H Q := by
  subst hw
  exact ⟨a, S, n, rfl, h, hn, fun ns p h1 h2 _ hp => k ns p _ h1 h2 (same_new hp) hp upd_same⟩
theorem r_sortInts {K : PySem.W.Frag} {H : Hp} {Q : VK} {a : Addr} {ns : List Int} (h : H a = some (.lst (vI ns)))
    (k : ∀ out p H', out.Perm ns → out.Pairwise (· ≤ ·) → Same H H' → H p = none → H' p = some (.lst (vI out)) → Q (.ref p) H') : rSortedI K [.ref a] H Q :=
  ⟨a, ns, rfl, sl_of h, fun out p h1 h2 hp => k out p _ h1 h2 (same_new hp) hp upd_same⟩
end BW
local macro_rules | `(tactic| walk_at "s1") => `(tactic| first
  | with_reducible refine BW.r_seq ?_
  | ((with_reducible apply BW.r_var); · rfl)
  | with_reducible refine BW.r_c ?_
  | with_reducible refine BW.r_op ?_
  | with_reducible refine BW.r_un ?_
  | with_reducible refine BW.r_test ?_
  | with_reducible refine BW.r_tB ?_
  | with_reducible refine BW.r_asg ?_
  | with_reducible refine BW.r_name ?_
  | with_reducible refine BW.r_ret ?_
  | with_reducible refine BW.r_retN ?_
  | with_reducible refine BW.r_next ?_
  | with_reducible refine BW.r_drop ?_
  | with_reducible refine BW.r_if ?_
  | with_reducible refine BW.r_ifE ?_
  | with_reducible refine BW.r_and ?_
  | with_reducible refine BW.r_or ?_
  | with_reducible refine BW.r_not ?_
  | with_reducible refine BW.r_andV ?_
  | with_reducible refine BW.r_orV ?_
  | with_reducible refine BW.r_notV ?_
  | with_reducible refine BW.r_blF ?_
  | with_reducible refine BW.r_chain ?_
  | with_reducible refine BW.r_nil ?_
  | with_reducible refine BW.r_cons ?_
  | with_reducible refine BW.r_call ?_
  | with_reducible refine BW.r_cb ?_
  | with_reducible refine BW.r_tup ?_
  | with_reducible refine BW.r_lst ?_
  | with_reducible refine BW.r_I0 ?_
  | with_reducible refine BW.r_ckw ?_
  | with_reducible refine BW.r_mtS ?_
  | with_reducible refine BW.r_vei ?_
  | with_reducible refine BW.r_ost ?_
  | with_reducible refine BW.r_dget ?_
  | with_reducible refine BW.r_prop ?_
  | with_reducible refine BW.r_meth0 ?_
  | with_reducible refine BW.r_sfld ?_
  | with_reducible refine BW.r_make ?_
  | with_reducible refine BW.r_revL ?_
  | with_reducible refine BW.r_bm ?_
  | with_reducible refine BW.r_bm0 ?_
  | with_reducible refine BW.r_abs ?_
  | with_reducible refine BW.r_lc ?_
  | with_reducible refine BW.r_for ?_
  | with_reducible refine BW.r_ienum ?_
  | with_reducible refine BW.r_ilist ?_
  | with_reducible refine BW.r_irng1 ?_
  | with_reducible refine BW.r_irng2 ?_
  | with_reducible refine BW.r_irng3 ?_
  | with_reducible refine BW.r_gcons ?_
  | with_reducible refine BW.r_gnil ?_
  | with_reducible refine BW.r_yes ?_
  | with_reducible refine BW.r_augS ?_
  | with_reducible refine BW.r_slice ?_
  | with_reducible refine BW.r_nopart ?_
  | with_reducible refine BW.r_part ?_
  | with_reducible refine BW.r_partI ?_
  | with_reducible refine BW.r_par ?_
  | with_reducible refine BW.r_par2 ?_
  | with_reducible refine BW.r_sub ?_
  | with_reducible refine BW.r_fld0 ?_
  | with_reducible refine BW.r_U ?_
  | with_reducible refine BW.r_eqI ?_
  | with_reducible refine BW.r_neI ?_
  | with_reducible refine BW.r_eqS ?_
  | with_reducible refine BW.r_neS ?_
  | with_reducible refine BW.r_isN' ?_
  | with_reducible refine BW.iteT' ?_
  | with_reducible refine BW.iteF' ?_
  | with_reducible refine BW.iteNT ?_
  | with_reducible refine BW.iteNF ?_
  | (intros; dsimp only; done))
local macro_rules | `(tactic| walk_at "go") => `(tactic| repeat walk_at "s1")
namespace BW
open PySem PySem.Spec PyProof.Rows L2
section
variable {P : Program} {w : World} {K : PySem.W.Frag} {mg : Str → Option Value} {base : Heap}

theorem kit_tt : PySem.W.kitOne K (.type "tuple") (.type "tuple") = some true := kit_ty (by decide +kernel)
theorem kit_ii : PySem.W.kitOne K (.type "int") (.type "int") = some true := kit_ty (by decide +kernel)
theorem kit_ib : PySem.W.kitOne K (.type "int") (.type "bool") = some false := kit_ty (by decide +kernel)
/-! ### kinds: only asked of what is right -/
def spInt : Sp := fun vs H Q _ => ∃ i, vs = [.int i] ∧ Q (.bl true) H
theorem sc_is_integer : FnScope ["thing"] ["thing"] (defScope s_is_integer) := ⟨rfl, rfl, rfl, by decide +kernel, rfl, by decide +kernel, by decide +kernel⟩
theorem ok_is_integer (T : Tx K mg) : Def P w K mg base CX0 1 (He.ga K "is_integer") ["thing"] spInt := by
  refine mk0 T.f_is_integer sc_is_integer (fun _ _ _ _ _ _ us hl => match us, hl with | [_], _ => rfl) (fun vs H Q E h => ?_) (fun cdv A outer s H vs Q E hr h => ?_)
  · obtain ⟨i, rfl, _⟩ := h
    rfl
  · obtain ⟨i, rfl, k⟩ := h
    refine ⟨_, (pss_one (ps_ret (pe_and (pe_callB (call_isiK rfl) (by rfl) T.n_isinstance (by decide +kernel) (pa_cons (pv 0) (pa_cons (pe_ty T.n_int (by decide +kernel) (n := "int")) pa_nil))) (pe_one (pe_not (pe_callB (call_isiK rfl) (by rfl) T.n_isinstance (by decide +kernel) (pa_cons (pv 0) (pa_cons (pe_ty T.n_bool (by decide +kernel) (n := "bool")) pa_nil)))))))), ?_⟩
    walk_at "go"
    refine r_isi (.ty _) (.base (.int i)) kit_ii ?_
    walk_at "go"
    refine r_isi (.ty _) (.base (.int i)) kit_ib ?_
    walk_at "go"
    exact k
def spBetween : Sp := fun vs H Q _ => ∃ i lo hi : Int, vs = [.int i, .int lo, .int hi] ∧ lo ≤ i ∧ i ≤ hi ∧ Q (.bl true) H
theorem sc_is_between : FnScope ["thing", "low", "high"] ["thing", "low", "high"] (defScope s_is_between) := ⟨rfl, rfl, rfl, by decide +kernel, rfl, by decide +kernel, by decide +kernel⟩
theorem ok_is_between (T : Tx K mg) : Def P w K mg base CX0 2 (He.ga K "is_between") ["thing", "low", "high"] spBetween := by
  have G_is_integer := ok_is_integer (P := P) (w := w) (base := base) T
  refine mk0 T.f_is_between sc_is_between (fun _ _ _ _ _ _ us hl => match us, hl with | [_, _, _], _ => rfl) (fun vs H Q E h => ?_) (fun cdv A outer s H vs Q E hr h => ?_)
  · obtain ⟨i, lo, hi, rfl, _⟩ := h
    rfl
  · obtain ⟨i, lo, hi, rfl, h1, h2, k⟩ := h
    refine ⟨_, (pss_one (ps_ret (pe_and (pe_cl G_is_integer (hr.mono (by decide)) T.g_is_integer pass0 (pa_cons (pv 0) pa_nil)) (pe_one (pe_chain op_le op_le (pv 1) (pv 0) (pv 2)))))), ?_⟩
    walk_at "go"
    refine ⟨i, rfl, ?_⟩
    walk_at "go"
    refine iteYes h1 ?_
    walk_at "go"
    rw [decide_eq_true h2]
    exact k
def spPrice : Sp := fun vs H Q _ => ∃ i : Int, vs = [.int i] ∧ 0 ≤ i ∧ i ≤ 10 ^ 18 ∧ Q (.bl true) H
theorem sc_is_price : FnScope ["thing"] ["thing"] (defScope s_is_price) := ⟨rfl, rfl, rfl, by decide +kernel, rfl, by decide +kernel, by decide +kernel⟩
theorem ok_is_price (T : Tx K mg) : Def P w K mg base CX0 3 (He.ga K "is_price") ["thing"] spPrice := by
  have G_is_between := ok_is_between (P := P) (w := w) (base := base) T
  refine mk0 T.f_is_price sc_is_price (fun _ _ _ _ _ _ us hl => match us, hl with | [_], _ => rfl) (fun vs H Q E h => ?_) (fun cdv A outer s H vs Q E hr h => ?_)
  · obtain ⟨i, rfl, _⟩ := h
    rfl
  · obtain ⟨i, rfl, h1, h2, k⟩ := h
    refine ⟨_, (pss_one (ps_ret (pe_cl G_is_between (hr.mono (by decide)) T.g_is_between pass0 (pa_cons (pv 0) (pa_cons pe_int (pa_cons (pe_gi T.i_MAX_PRICE) pa_nil)))))), ?_⟩
    walk_at "go"
    refine ⟨i, 0, 10 ^ 18, rfl, h1, h2, ?_⟩
    exact k
/-- a comparison of so many places -/
def spComparison : Sp := fun vs H Q _ => ∃ (q : Addr) (c : Nat × Int) (n : Nat), vs = [.ref q, .int (n : Int)] ∧ H q = some (.tup [.int (c.1 : Int), .int c.2]) ∧ 1 ≤ c.1 ∧ c.1 + 1 ≤ n ∧ 0 ≤ c.2 ∧ c.2 ≤ 10 ^ 18 ∧ Q (.bl true) H
theorem sc_is_comparison : FnScope ["thing", "places"] ["thing", "places"] (defScope s_is_comparison) := ⟨rfl, rfl, rfl, by decide +kernel, rfl, by decide +kernel, by decide +kernel⟩
theorem ok_is_comparison (T : Tx K mg) : Def P w K mg base CX0 4 (He.ga K "is_comparison") ["thing", "places"] spComparison := by
  have G_is_between := ok_is_between (P := P) (w := w) (base := base) T
  have G_is_price := ok_is_price (P := P) (w := w) (base := base) T
  refine mk0 T.f_is_comparison sc_is_comparison (fun _ _ _ _ _ _ us hl => match us, hl with | [_, _], _ => rfl) (fun vs H Q E h => ?_) (fun cdv A outer s H vs Q E hr h => ?_)
  · obtain ⟨q, c, n, rfl, _⟩ := h
    rfl
  · obtain ⟨q, c, n, rfl, hq, h1, h2, h3, h4, k⟩ := h
    refine ⟨_, (pss_cons (ps_if (PW.pt (pw_or (pt_not (pt_val (pe_callB (call_isiK rfl) (by rfl) T.n_isinstance (by decide +kernel) (pa_cons (pv 0) (pa_cons (pe_ty T.n_tuple (by decide +kernel) (n := "tuple")) pa_nil))))) (pw_or1 (pt_cmpR op_ne (pe_callB (call_lenK rfl) (by rfl) T.n_len PySem.boot_len (pa_cons (pv 0) pa_nil)) pe_int (nomark _)))))
    (pss_one (ps_ret pe_bl)) pss_nil)
    (pss_one (ps_ret (pe_and (pe_cl G_is_between (hr.mono (by decide)) T.g_is_between pass0 (pa_cons (pe_ix (ix_tupK rfl) (pv 0) pe_int (fun _ _ => rfl)) (pa_cons pe_int (pa_cons (pe_op op_sub (pv 1) pe_int) pa_nil)))) (pe_one (pe_cl G_is_price (hr.mono (by decide)) T.g_is_price pass0 (pa_cons (pe_ix (ix_tupK rfl) (pv 0) pe_int (fun _ _ => rfl)) pa_nil))))))), ?_⟩
    walk_at "go"
    refine r_isi (.ty _) (.base (.tup hq)) kit_tt ?_
    walk_at "go"
    refine r_lenT hq ?_
    walk_at "go"
    refine iteNoN rfl ?_
    walk_at "go"
    refine r_ixT hq (j := 0) rfl rfl ?_
    walk_at "go"
    refine ⟨c.1, 1, (n : Int) - 1, rfl, by omega, by omega, ?_⟩
    walk_at "go"
    refine r_ixT hq (j := 1) rfl rfl ?_
    walk_at "go"
    exact ⟨c.2, rfl, h3, h4, k⟩
end
end BW
namespace BW
open PySem PySem.Spec PyProof.Rows L2
section
variable {P : Program} {w : World} {K : PySem.W.Frag} {mg : Str → Option Value} {base : Heap}

/-- ranks(priorities) -/
def spRanks : Sp := fun vs H Q _ => ∃ (a : Addr) (ws : List Int), vs = [.ref a] ∧ H a = some (.lst (vI ws)) ∧ ws.length ≤ 12 ∧ ∀ p H', Same H H' → H p = none → H' p = some (.lst (vN (BM.ranksM ws))) → Q (.ref p) H'
/-- the ranks that are told after t turns -/
def ranksTo (ws : List Int) (its : List Nat) (t : Nat) : List Nat := (List.range ws.length).map fun i => if i ∈ its.take t then BM.rankOf ws i else 0
theorem ranksTo_zero (ws : List Int) (its : List Nat) : ranksTo ws its 0 = List.replicate ws.length 0 := by
  unfold ranksTo
  apply List.ext_getElem?
  intro i
  simp [List.getElem?_replicate, List.getElem?_range]
  by_cases h : i < ws.length <;> simp [h]
theorem ranksTo_all {ws : List Int} {its : List Nat} (hp : its.Perm (List.range ws.length)) : ranksTo ws its its.length = BM.ranksM ws := by
  unfold ranksTo BM.ranksM
  apply List.map_congr_left
  intro i hi
  rw [List.take_length, if_pos (hp.mem_iff.mpr hi)]
theorem ranksTo_succ {ws : List Int} {its : List Nat} (hp : its.Perm (List.range ws.length)) (hs : its.Pairwise fun a b => BM.urg ws b a = false) {t i : Nat} (ht : its[t]? = some i) : vN (ranksTo ws its (t + 1)) = (vN (ranksTo ws its t)).set i (.int (t : Int)) := by
  have hi : i < ws.length := List.mem_range.mp (hp.mem_iff.mp (List.mem_of_getElem? ht))
  unfold vN ranksTo
  apply List.ext_getElem?
  intro j
  rw [List.getElem?_set]
  by_cases hj : j < ws.length
  · rw [List.getElem?_map, List.getElem?_map, List.getElem?_map, List.getElem?_map, List.getElem?_range hj, BM.take_snoc ht]
    by_cases e : i = j
    · subst e
      rw [if_pos rfl, if_pos (by simpa using hj)]
      simp [BM.rank_at hp hs ht]
    · rw [if_neg e]
      have : (j ∈ its.take t ++ [i]) ↔ j ∈ its.take t := by simp [Ne.symm e]
      simp [this, Ne.symm e]
  · have e : i ≠ j := by omega
    simp [e, hj]
theorem sc_ranks : FnScope ["priorities", "line", "item", "priority", "found", "rank"] ["priorities"] (defScope s_ranks) := ⟨rfl, rfl, rfl, by decide +kernel, rfl, by decide +kernel, by decide +kernel⟩
theorem ok_ranks (T : Tx K mg) : Def P w K mg base CX0 1 (He.ga K "ranks") ["priorities"] spRanks := by
  refine mk0 T.f_ranks sc_ranks (fun _ _ _ _ _ _ us hl => match us, hl with | [_], _ => rfl) (fun vs H Q E h => ?_) (fun cdv A outer s H vs Q E hr h => ?_)
  · obtain ⟨a, ws, rfl, _⟩ := h
    rfl
  · obtain ⟨a, ws, rfl, ha, hn, k⟩ := h
    refine ⟨_, (pss_cons (ps_set (i := 1) sc_ranks.nd rfl (Or.inl rfl) (pe_callB (cr_sortedPOK rfl) (by rfl) T.n_sorted (by decide +kernel) (pa_cons (pe_lc (own := [("item", 2), ("priority", 3)]) (by rfl) sc_ranks.nd (pi_enumK rfl (by rfl) T.n_enumerate (pa_cons (pv 0) pa_nil)) (blkOk_by (by kernel_rfl)) (fun _ _ _ _ _ => (pg_tupK (n := 2) rfl rfl (pgs_cons (pg_name (i := 2) sc_ranks.nd rfl (Or.inl rfl)) (pgs_cons (pg_name (i := 3) sc_ranks.nd rfl (Or.inl rfl)) pgs_nil)))) (fun _ _ _ _ _ => pts_nil) (fun _ _ _ _ _ => (pe_tup (pa_cons (pv 3) (pa_cons (pv 2) pa_nil))))) pa_nil)))
    (pss_cons (ps_set (i := 4) sc_ranks.nd rfl (Or.inl rfl) (pe_op op_rep (pe_lst (pa_cons pe_int pa_nil)) (pe_callB (call_lenK rfl) (by rfl) T.n_len PySem.boot_len (pa_cons (pv 1) pa_nil))))
    (pss_cons (ps_for PassesOwn.never rfl (pi_enumK rfl (by rfl) T.n_enumerate (pa_cons (pv 1) pa_nil)) (pg_tupK (n := 2) rfl rfl (pgs_cons (pg_name (i := 5) sc_ranks.nd rfl (Or.inl rfl)) (pgs_cons (pg_tupK (n := 2) rfl rfl (pgs_cons (pg_name (i := 3) sc_ranks.nd rfl (Or.inl rfl)) (pgs_cons (pg_name (i := 2) sc_ranks.nd rfl (Or.inl rfl)) pgs_nil))) pgs_nil)))
    (pss_one (ps_asg (pv 5) (pg_sub (pv 4) (pv 2) set_list))))
    (pss_one (ps_ret (pv 4)))))), ?_⟩
    walk_at "go"
    refine r_en ha ?_
    intro D hD
    refine lc_new walk_enum hD (fun i => pairO ws i) (by rw [vI_len]; omega) (fun H1 e => sl_of (e _ _ ha)) (fun i H x H' y => ?_) (fun i x H1 H' QY QN hi e y k1 => ?_) (fun H1 ys e hD1 hy => ?_)
    · obtain ⟨T, x, y, rfl, hT, rfl, _⟩ := y
      exact same_new hT
    · obtain ⟨T, x, y, rfl, hT, rfl, hx, hy⟩ := y
      cases hx
      obtain ⟨hi, rfl⟩ := vI_of hy
      refine r_gtup upd_same rfl ?_
      walk_at "go"
      refine ⟨rfl, ?_⟩
      walk_at "go"
      refine r_new (by simp) fun p H4 e4 hp h4 => ?_
      exact k1 p _ (none_below (same_new hT) hp) e4 h4
    · rw [vI_len] at hy
      walk_at "go"
      refine r_sortP hD1 hy fun ys2 its p hy2 hp hs H2 e2 hpn hp2 => ?_
      walk_at "go"
      refine r_new (by simp) fun q H3 e3 hq hq3 => ?_
      walk_at "go"
      refine r_lenL (e3 _ _ hp2) ?_
      walk_at "go"
      have hlen : ys2.length = ws.length := by rw [hy2.length, hp.length_eq, List.length_range]
      have hli : its.length = ws.length := by rw [hp.length_eq, List.length_range]
      refine r_rep hq3 (by omega) (by omega) (by simp; omega) fun f H4 e4 hf hf4 => ?_
      have s4 : Same H2 H4 := same_trans e3 e4
      have s0 : Same H H4 := same_trans e (same_trans e2 s4)
      have hf0 : H f = none := none_below (same_trans e (same_trans e2 e3)) hf
      have pf : p ≠ f := ne_of_none (e3 _ _ hp2) hf
      walk_at "go"
      refine r_en (s4 _ _ hp2) ?_
      refine for_it (walk_enum (xs := ys2)) (fun t σ H5 => (∃ o2 o3 o5 : Option V, σ = [some (.ref a), some (.ref p), o2, o3, some (.ref f), o5]) ∧ But [f] H4 H5 ∧ H5 f = some (.lst (vN (ranksTo ws its t)))) ⟨⟨_, _, _, rfl⟩, fun c o z _ => z, ?_⟩ (fun t σ H5 _ z => ?_) (fun t x σ H5 H6 ht z y => ?_) (fun σ H5 z => ?_)
      · rw [hf4, fl_rep, ranksTo_zero, hlen]
        simp [vN]
      · obtain ⟨_, b, _⟩ := z
        exact sl_of (b _ _ (s4 _ _ hp2) (by simp [pf]))
      · obtain ⟨⟨o2, o3, o5, rfl⟩, b, h5⟩ := z
        obtain ⟨T', x, y, rfl, hT, rfl, hx, hy'⟩ := y
        cases hx
        obtain ⟨i, hi, hsd⟩ := pair_atL hy2 hy'
        obtain ⟨g, rfl, hg⟩ := hsd
        have hg5 : upd H5 T' (.tup [.int (t : Int), .ref g]) g = some (pairO ws i) := upd_old (b _ _ (s4 _ _ (e2 _ _ hg)) (by simp [ne_of_none (e3 _ _ (e2 _ _ hg)) hf])) hT
        refine r_gtup upd_same rfl ?_
        walk_at "go"
        refine r_gtup hg5 rfl ?_
        walk_at "go"
        have hil : i < ws.length := List.mem_range.mp (hp.mem_iff.mp (List.mem_of_getElem? hi))
        refine r_set (upd_old h5 hT) rfl (by rw [vN_len]; simp [ranksTo]; exact hil) ?_
        refine ⟨⟨_, _, _, rfl⟩, fun c o z nc => ?_, ?_⟩
        · rw [upd_ne (by simpa using nc)]
          exact upd_old (b _ _ z nc) hT
        · rw [upd_same, ranksTo_succ hp hs hi]
      · obtain ⟨⟨o2, o3, o5, rfl⟩, b, h5⟩ := z
        walk_at "go"
        rw [show ys2.length = its.length by omega, ranksTo_all hp] at h5
        exact k f _ (fun c o z => b _ _ (s0 _ _ z) (by simp [ne_of_none z hf0])) hf0 h5
end
end BW
namespace BW
open PySem PySem.Spec PyProof.Rows L2
section
variable {P : Program} {w : World} {K : PySem.W.Frag} {mg : Str → Option Value} {base : Heap}

/-- least_of(prices) -/
def spLeast : Sp := fun vs H Q _ => ∃ (a : Addr) (l : List (Option Int)), vs = [.ref a] ∧ H a = some (.lst (vO l)) ∧ l.length ≤ 100 ∧ ∀ H', Same H H' → Q (oV (BM.leastL l)) H'
theorem list_range {α : Type} (l : List α) (d : α) : (List.range l.length).map (fun i => l.getD i d) = l := by
  apply List.ext_getElem?
  intro i
  by_cases h : i < l.length
  · rw [range_map_at _ h, List.getElem?_eq_getElem h, BM.getD_lt d h]
  · rw [List.getElem?_eq_none (by simpa using h), List.getElem?_eq_none (by simpa using h)]
theorem somes_map (g : Nat → Option Int) : ∀ L : List Nat, (L.filter fun i => (g i).isSome).map (fun i => oV (g i)) = vI (L.filterMap g)
  | [] => rfl
  | i :: L => by
    cases h : g i with
    | none => rw [List.filter_cons_of_neg (by simp [h]), List.filterMap_cons_none h, somes_map g L]
    | some z => rw [List.filter_cons_of_pos (by simp [h]), List.filterMap_cons_some h, List.map_cons, somes_map g L, h]; rfl
theorem somes (l : List (Option Int)) : ((List.range l.length).filter fun i => (l.getD i none).isSome).map (fun i => oV (l.getD i none)) = vI (l.filterMap id) := by
  rw [somes_map]
  congr 1
  conv => rhs; rw [← list_range l none]
  rw [List.filterMap_map]
  rfl
theorem sc_least_of : FnScope ["prices", "price"] ["prices"] (defScope s_least_of) := ⟨rfl, rfl, rfl, by decide +kernel, rfl, by decide +kernel, by decide +kernel⟩
theorem ok_least_of (T : Tx K mg) : Def P w K mg base CX0 1 (He.ga K "least_of") ["prices"] spLeast := by
  refine mk0 T.f_least_of sc_least_of (fun _ _ _ _ _ _ us hl => match us, hl with | [_], _ => rfl) (fun vs H Q E h => ?_) (fun cdv A outer s H vs Q E hr h => ?_)
  · obtain ⟨a, l, rfl, _⟩ := h
    rfl
  · obtain ⟨a, l, rfl, ha, hn, k⟩ := h
    refine ⟨_, (pss_one (ps_ret (pe_callBK (cr_minD rfl rfl (hu_of hr)) (by rfl) T.n_min (by decide +kernel) (pa_cons (pe_lc (own := [("price", 1)]) (by rfl) sc_least_of.nd (pi_listK rfl (pv 0)) (blkOk_by (by kernel_rfl)) (fun _ _ _ _ _ => (pg_name (i := 1) sc_least_of.nd rfl (Or.inl rfl))) (fun _ _ _ _ _ => pts_one (pt_cmpR op_notN (pv 1) pe_non (nomark _))) (fun _ _ _ _ _ => (pv 1))) pa_nil) (pk_cons pe_non pk_nil)))), ?_⟩
    walk_at "go"
    refine r_li ha ?_
    intro D hD
    refine lc_vals (walk_list (xs := vO l)) hD (fun i => (l.getD i none).isSome) (fun i => oV (l.getD i none)) (by rw [vO_len]; omega) (fun H1 e => sl_of (e _ _ ha)) (fun i H x H' y => ?_) (fun i x H1 H' QY QN hi e y kY kN => ?_) (fun H1 e hD1 => ?_)
    · obtain ⟨rfl, _⟩ := y
      exact same_refl _
    · obtain ⟨rfl, y⟩ := y
      have hi' : i < l.length := by rw [vO_len] at hi; exact hi
      have ex : x = oV (l.getD i none) := by
        unfold vO at y
        rw [List.getElem?_map, List.getElem?_eq_getElem hi'] at y
        rw [BM.getD_lt none hi']
        exact (Option.some.inj y).symm
      subst ex
      walk_at "go"
      refine ⟨rfl, ?_⟩
      walk_at "go"
      cases q : l.getD i none with
      | none =>
        rw [q] at kN
        walk_at "go"
        refine iteNoN rfl ?_
        exact kN rfl _ (same_refl _)
      | some z =>
        rw [q] at kY
        walk_at "go"
        refine iteYesN (fun z => by cases z) ?_
        walk_at "go"
        exact kY rfl _ (same_refl _)
    · rw [vO_len, somes] at hD1
      walk_at "go"
      refine r_minD hD1 ?_
      rw [minO_least]
      exact k _ e
end
end BW
namespace BW
open PySem PySem.Spec PyProof.Rows L2
section
variable {P : Program} {w : World} {K : PySem.W.Frag} {mg : Str → Option Value} {base : Heap}

/-- first_prices(places, k, steps) -/
def spFirst : Sp := fun vs H Q _ => ∃ (n k m : Nat), vs = [.int (n : Int), .int (k : Int), .int (m : Int)] ∧ n ≤ 20 ∧ m ≤ 20 ∧ ∀ p ys H', Same H H' → H p = none → H' p = some (.lst ys) → Paired (fun u row => Lst H' u (vO row)) ys (tabO (n + 1) (m + 1) (BM.first k)) → Q (.ref p) H'
theorem sc_first_prices : FnScope ["places", "k", "steps", "r", "j"] ["places", "k", "steps"] (defScope s_first_prices) := ⟨rfl, rfl, rfl, by decide +kernel, rfl, by decide +kernel, by decide +kernel⟩
theorem ok_first_prices (T : Tx K mg) : Def P w K mg base CX0 1 (He.ga K "first_prices") ["places", "k", "steps"] spFirst := by
  refine mk0 T.f_first_prices sc_first_prices (fun _ _ _ _ _ _ us hl => match us, hl with | [_, _, _], _ => rfl) (fun vs H Q E h => ?_) (fun cdv A outer s H vs Q E hr h => ?_)
  · obtain ⟨n, k, m, rfl, _⟩ := h
    rfl
  · obtain ⟨n, k, m, rfl, hn, hm, kk⟩ := h
    refine ⟨_, (pss_one (ps_ret (pe_lc (own := [("j", 4)]) (by rfl) sc_first_prices.nd (pi_range1 (by rfl) T.n_range (pa_cons (pe_op op_add (pv 0) pe_int) pa_nil)) (blkOk_by (by kernel_rfl)) (fun _ _ _ _ _ => (pg_name (i := 4) sc_first_prices.nd rfl (Or.inr rfl))) (fun _ _ _ _ _ => pts_nil) (fun _ _ _ _ _ => (pe_lc (own := [("r", 3)]) (by rfl) sc_first_prices.nd (pi_range1 (by rfl) T.n_range (pa_cons (pe_op op_add (pv 2) pe_int) pa_nil)) (blkOk_by (by kernel_rfl)) (fun _ _ _ _ _ => (pg_name (i := 3) sc_first_prices.nd rfl (Or.inl rfl))) (fun _ _ _ _ _ => pts_nil) (fun _ _ _ _ _ => (pe_ifExp (pt_cmpR op_le (pe_callB (call_max2 rfl) (by rfl) T.n_max (by decide +kernel) (pa_cons (pe_op op_sub (pv 1) (pv 4)) (pa_cons pe_int pa_nil))) (pv 3) (nomark _)) pe_int pe_non))))))), ?_⟩
    walk_at "go"
    refine r_ra (by omega) (by omega) ?_
    rw [show ((n : Int) + 1).toNat = n + 1 by omega]
    intro D hD
    refine lc_new walk_range hD (fun j => .lst (vO ((List.range (m + 1)).map (BM.first k j)))) (by omega) (fun H1 e => trivial) (fun i H x H' y => ?_) (fun j x H1 H' QY QN hj e y k1 => ?_) (fun H1 ys e hD1 hy => ?_)
    · obtain ⟨rfl, _⟩ := y
      exact same_refl _
    · obtain ⟨rfl, rfl⟩ := y
      walk_at "go"
      refine ⟨rfl, ?_⟩
      walk_at "go"
      refine r_ra (by omega) (by omega) ?_
      rw [show ((m : Int) + 1).toNat = m + 1 by omega]
      intro D2 hD2
      refine lc_vals walk_range hD2 (fun _ => true) (fun r => oV (BM.first k j r)) (by omega) (fun H1 e => trivial) (fun i H x H' y => ?_) (fun r x H2 H3 QY2 QN2 hr2 e2 y2 kY kN => ?_) (fun H2 e2 hD3 => ?_)
      · obtain ⟨rfl, _⟩ := y
        exact same_refl _
      · obtain ⟨rfl, rfl⟩ := y2
        walk_at "go"
        refine ⟨rfl, ?_⟩
        walk_at "go"
        refine r_max2 ?_
        walk_at "go"
        have kr := kY rfl _ (same_refl _)
        refine iteD (fun h => ?_) (fun h => ?_)
        · have e1 : BM.first k j r = some 0 := if_pos (by split at h <;> omega)
          rw [e1] at kr
          walk_at "go"
          exact kr
        · have e1 : BM.first k j r = none := if_neg (by split at h <;> omega)
          rw [e1] at kr
          walk_at "go"
          exact kr
      · rw [List.filter_eq_self.mpr (fun _ _ => rfl)] at hD3
        refine k1 D2 _ hD2 e2 ?_
        rw [hD3]
        unfold vO
        rw [List.map_map]
        rfl
    · walk_at "go"
      refine kk D ys _ e hD hD1 ?_
      refine pair_map ?_
      exact hy
end
end BW
namespace BW
open PySem PySem.Spec PyProof.Rows L2
section
variable {P : Program} {w : World} {K : PySem.W.Frag} {mg : Str → Option Value} {base : Heap}

/-- with_unit_prices(comparisons) -/
def spUnit : Sp := fun vs H Q _ => ∃ (a : Addr) (us : List V) (cs : List (Nat × Int)), vs = [.ref a] ∧ H a = some (.lst us) ∧ Rows H us cs ∧ cs.length ≤ 1000 ∧ ∀ p ys H', Same H H' → H p = none → H' p = some (.lst ys) → Rows H' ys (BM.unit cs) → Q (.ref p) H'
theorem sc_with_unit_prices : FnScope ["comparisons", "gate", "price"] ["comparisons"] (defScope s_with_unit_prices) := ⟨rfl, rfl, rfl, by decide +kernel, rfl, by decide +kernel, by decide +kernel⟩
theorem ok_with_unit_prices (T : Tx K mg) : Def P w K mg base CX0 1 (He.ga K "with_unit_prices") ["comparisons"] spUnit := by
  refine mk0 T.f_with_unit_prices sc_with_unit_prices (fun _ _ _ _ _ _ us hl => match us, hl with | [_], _ => rfl) (fun vs H Q E h => ?_) (fun cdv A outer s H vs Q E hr h => ?_)
  · obtain ⟨a, us, cs, rfl, _⟩ := h
    rfl
  · obtain ⟨a, us, cs, rfl, ha, hc, hn, kk⟩ := h
    refine ⟨_, (pss_one (ps_ret (pe_lc (own := [("gate", 1), ("price", 2)]) (by rfl) sc_with_unit_prices.nd (pi_listK rfl (pv 0)) (blkOk_by (by kernel_rfl)) (fun _ _ _ _ _ => (pg_tupK (n := 2) rfl rfl (pgs_cons (pg_name (i := 1) sc_with_unit_prices.nd rfl (Or.inl rfl)) (pgs_cons (pg_name (i := 2) sc_with_unit_prices.nd rfl (Or.inl rfl)) pgs_nil)))) (fun _ _ _ _ _ => pts_nil) (fun _ _ _ _ _ => (pe_tup (pa_cons (pv 1) (pa_cons pe_int pa_nil))))))), ?_⟩
    walk_at "go"
    refine r_li ha ?_
    intro D hD
    have hl : us.length = cs.length := hc.length
    refine lc_new (walk_list (xs := us)) hD (fun i => .tup [.int ((cs.getD i (0, 0)).1 : Int), .int 1]) (by omega) (fun H1 e => sl_of (e _ _ ha)) (fun i H x H' y => ?_) (fun i x H1 H' QY QN hi e y k1 => ?_) (fun H1 ys e hD1 hy => ?_)
    · obtain ⟨rfl, _⟩ := y
      exact same_refl _
    · obtain ⟨rfl, y⟩ := y
      obtain ⟨c, hc1, q, rfl, hq⟩ := pair_atL hc y
      have ec : cs.getD i (0, 0) = c := by rw [List.getD_eq_getElem?_getD, hc1]; rfl
      refine r_gtup (e _ _ hq) rfl ?_
      walk_at "go"
      refine ⟨rfl, ?_⟩
      walk_at "go"
      refine r_new (by simp) fun p H4 e4 hp h4 => ?_
      refine k1 p _ hp e4 ?_
      rw [ec]
      exact h4
    · walk_at "go"
      refine kk D ys _ e hD hD1 ?_
      have e2 : BM.unit cs = (List.range us.length).map fun i => ((cs.getD i (0, 0)).1, (1 : Int)) := by
        unfold BM.unit
        rw [hl]
        apply List.ext_getElem?
        intro i
        by_cases h : i < cs.length
        · rw [range_map_at _ h, List.getElem?_map, List.getElem?_eq_getElem h, BM.getD_lt _ h]
          rfl
        · rw [List.getElem?_eq_none (by simpa using h), List.getElem?_eq_none (by simpa using h)]
      rw [e2]
      exact pair_map hy
end
end BW
namespace BW
open PySem PySem.Spec PyProof.Rows L2
section
variable {P : Program} {w : World} {K : PySem.W.Frag} {mg : Str → Option Value} {base : Heap}

theorem tabN_succ (k m : Nat) (f : Nat → Nat → Nat) : tabN (k + 1) m f = tabN k m f ++ [(List.range m).map (f k)] := by
  unfold tabN
  rw [List.range_succ, List.map_append]
  rfl
theorem dem_succ {x : List Nat} {k t : Nat} (h : k < x.length) : BM.dem x (k + 1) t = BM.dem x k t + if t ≤ x.getD k 0 then 1 else 0 := by
  unfold BM.dem
  rw [BM.cntTo_succ h]
  unfold BM.ge
  simp
theorem dem_zero (x : List Nat) (t : Nat) : BM.dem x 0 t = 0 := rfl
/-- demands(order) -/
def spDemands : Sp := fun vs H Q _ => ∃ (a : Addr) (x : List Nat), vs = [.ref a] ∧ H a = some (.lst (vN x)) ∧ x.length ≤ 20 ∧ ∀ p ys H', Same H H' → H p = none → H' p = some (.lst ys) → Paired (fun u row => Lst H' u (vN row)) ys (tabN (x.length + 1) (x.length + 1) (BM.dem x)) → Q (.ref p) H'
theorem sc_demands : FnScope ["order", "found", "rank", "t", "many"] ["order"] (defScope s_demands) := ⟨rfl, rfl, rfl, by decide +kernel, rfl, by decide +kernel, by decide +kernel⟩
theorem ok_demands (T : Tx K mg) : Def P w K mg base CX0 1 (He.ga K "demands") ["order"] spDemands := by
  refine mk0 T.f_demands sc_demands (fun _ _ _ _ _ _ us hl => match us, hl with | [_], _ => rfl) (fun vs H Q E h => ?_) (fun cdv A outer s H vs Q E hr h => ?_)
  · obtain ⟨a, x, rfl, _⟩ := h
    rfl
  · obtain ⟨a, x, rfl, ha, hn, kk⟩ := h
    refine ⟨_, (pss_cons (ps_set (i := 1) sc_demands.nd rfl (Or.inl rfl) (pe_lst (pa_cons (pe_op op_rep (pe_lst (pa_cons pe_int pa_nil)) (pe_op op_add (pe_callB (call_lenK rfl) (by rfl) T.n_len PySem.boot_len (pa_cons (pv 0) pa_nil)) pe_int)) pa_nil)))
    (pss_cons (ps_for PassesOwn.never rfl (pi_listK rfl (pv 0)) (pg_name (i := 2) sc_demands.nd rfl (Or.inr rfl))
    (pss_one (ps_expr (pe_bmK rfl PySem.F.plainAttrs_list PySem.F.slot_list_append PySem.F.type_list_append mt_append (pv 1) (pa_cons (pe_lc (own := [("t", 3), ("many", 4)]) (by rfl) sc_demands.nd (pi_enumK rfl (by rfl) T.n_enumerate (pa_cons (pe_ix (ix_listK rfl) (pv 1) (pe_un un_neg pe_int) (fun _ _ => rfl)) pa_nil)) (blkOk_by (by kernel_rfl)) (fun _ _ _ _ _ => (pg_tupK (n := 2) rfl rfl (pgs_cons (pg_name (i := 3) sc_demands.nd rfl (Or.inl rfl)) (pgs_cons (pg_name (i := 4) sc_demands.nd rfl (Or.inl rfl)) pgs_nil)))) (fun _ _ _ _ _ => pts_nil) (fun _ _ _ _ _ => (pe_op op_add (pv 4) (pe_callTy call_int1 (by rfl) T.n_int (by decide +kernel) (pa_cons (pe_cmpR op_ge (pv 2) (pv 3) (nomark _)) pa_nil))))) pa_nil)))))
    (pss_one (ps_ret (pv 1))))), ?_⟩
    walk_at "go"
    refine r_new (by simp) fun p1 H1 e1 hp1 h1 => ?_
    walk_at "go"
    refine r_lenL (e1 _ _ ha) ?_
    walk_at "go"
    rw [vN_len]
    refine r_rep h1 (by omega) (by omega) (by simp; omega) fun p2 H2 e2 hp2 h2 => ?_
    rw [fl_rep, show ((x.length : Int) + 1).toNat = x.length + 1 by omega] at h2
    walk_at "go"
    refine r_new (by simp) fun f H3 e3 hf h3 => ?_
    walk_at "go"
    have s2 : Same H H2 := same_trans e1 e2
    have hf0 : H f = none := none_below s2 hf
    refine r_li (e3 _ _ (s2 _ _ ha)) ?_
    refine for_it (walk_list (xs := vN x)) (fun t σ H5 => (∃ o2 o3 o4 : Option V, σ = [some (.ref a), some (.ref f), o2, o3, o4]) ∧ Kn H f (fun B ys => Paired (fun u row => Lst B u (vN row)) ys (tabN (t + 1) (x.length + 1) (BM.dem x))) H5) ⟨⟨_, _, _, rfl⟩, ?_⟩ (fun t σ H5 _ z => ?_) (fun t v σ H5 H6 ht z y => ?_) (fun σ H5 z => ?_)
    · refine ⟨H2, _, s2, e3, hf, h3, .cons ⟨p2, rfl, ?_⟩ .nil⟩
      rw [h2]
      congr 2
      apply List.ext_getElem?
      intro i
      by_cases h : i < x.length + 1
      · rw [vNr_at _ h, List.getElem?_replicate, if_pos h, dem_zero]
        rfl
      · rw [List.getElem?_eq_none (by simpa using h), List.getElem?_eq_none (by simpa [vN] using h)]
    · obtain ⟨_, B, ys, z1, z2, _⟩ := z
      exact sl_of (z2 _ _ (z1 _ _ ha))
    · obtain ⟨⟨o2, o3, o4, rfl⟩, B, ys, z1, z2, z3, z4, z5⟩ := z
      obtain ⟨rfl, y⟩ := y
      obtain ⟨hi, rfl⟩ := vN_of y
      have z6 := z5
      rw [tabN_succ] at z6
      walk_at "go"
      have hys : ys.length = t + 1 := by rw [z5.length]; simp [tabN]
      obtain ⟨ys0, u, rfl, hy0⟩ := snoc_of hys
      obtain ⟨q, rfl, hq⟩ := (pair_snoc z6).2
      refine r_tyL z4 ?_
      walk_at "go"
      refine r_ixLast z4 ?_
      walk_at "go"
      refine r_en (z2 _ _ hq) ?_
      intro D hD
      refine lc_vals walk_enum hD (fun _ => true) (fun i => .int ((BM.dem x (t + 1) i : Nat) : Int)) (by rw [vN_len]; simp; omega) (fun H1 e => sl_of (e _ _ (z2 _ _ hq))) (fun i H x H' y => ?_) (fun i v H7 H8 QY QN hi2 e7 y kY kN => ?_) (fun H7 e7 hD7 => ?_)
      · exact en_same y
      · obtain ⟨T, y1, rfl, hT, e8, h8, hy⟩ := en_of y
        have hi3 : i < x.length + 1 := by rw [vN_len] at hi2; simpa using hi2
        rw [vNr_at _ hi3] at hy
        cases hy
        refine r_gtup h8 rfl ?_
        walk_at "go"
        refine ⟨rfl, ?_⟩
        walk_at "go"
        refine .inr ⟨_, rfl, ?_⟩
        walk_at "go"
        have ev := kY rfl _ (same_refl _)
        rw [dem_succ hi] at ev
        by_cases h : i ≤ x.getD t 0
        · rw [if_pos h] at ev
          rw [if_pos (by simpa using h)]
          simpa using ev
        · rw [if_neg h] at ev
          rw [if_neg (by simpa using h)]
          simpa using ev
      · rw [List.filter_eq_self.mpr (fun _ _ => rfl)] at hD7
        walk_at "go"
        refine r_app (e7 _ _ z4) (by omega) ?_
        refine ⟨⟨_, _, _, rfl⟩, ?_⟩
        refine kn_app z1 z2 z3 z4 hD e7 hD7 ?_
        rw [tabN_succ (t + 1)]
        have bD : B D = none := none_below z2 hD
        refine pair_app (pair_mono z5 fun u row l => l.mono (same_new bD)) (.cons ⟨D, rfl, ?_⟩ .nil)
        rw [upd_same, vN_len]
        unfold vN
        rw [List.map_map]
        simp
    · obtain ⟨⟨o2, o3, o4, rfl⟩, B, ys, z1, z2, z3, z4, z5⟩ := z
      walk_at "go"
      rw [vN_len] at z5
      exact kk f ys _ (same_trans z1 z2) hf0 z4 (pair_mono z5 fun u row l => l.mono z2)
end
end BW
namespace BW
open PySem PySem.Spec PyProof.Rows L2
section
variable {P : Program} {w : World} {K : PySem.W.Frag} {mg : Str → Option Value} {base : Heap}

/-- _law_play(gates, order, gone) -/
def spPlay : Sp := fun vs H Q _ => ∃ (g o m : Addr) (gs x mi : List Nat), vs = [.ref g, .ref o, .ref m] ∧ H g = some (.lst (vN gs)) ∧ H o = some (.lst (vN x)) ∧ H m = some (.lst (vN mi)) ∧ (∀ c ∈ gs, 1 ≤ c ∧ c < x.length) ∧
  ∀ p H', Same H H' → H p = none → H' p = some (.lst (vN (BM.play gs x mi))) → Q (.ref p) H'
theorem vN_set (l : List Nat) (i a : Nat) : vN (l.set i a) = (vN l).set i (.int (a : Int)) := by
  unfold vN
  rw [List.map_set]
theorem sc_law_play : FnScope ["_law_gates", "_law_order", "_law_gone", "_law_now", "_law_at", "_law_gate"] ["_law_gates", "_law_order", "_law_gone"] (defScope s_law_play) := ⟨rfl, rfl, rfl, by decide +kernel, rfl, by decide +kernel, by decide +kernel⟩
theorem ok_law_play (T : Tx K mg) : Def P w K mg base CX0 1 (He.ga K "_law_play") ["_law_gates", "_law_order", "_law_gone"] spPlay := by
  refine mk0 T.f_law_play sc_law_play (fun _ _ _ _ _ _ us hl => match us, hl with | [_, _, _], _ => rfl) (fun vs H Q E h => ?_) (fun cdv A outer s H vs Q E hr h => ?_)
  · obtain ⟨g, o, m, gs, x, mi, rfl, _⟩ := h
    rfl
  · obtain ⟨g, o, m, gs, x, mi, rfl, hg, ho, hm, hgs, kk⟩ := h
    refine ⟨_, (pss_cons (ps_set (i := 3) sc_law_play.nd rfl (Or.inl rfl) (pe_callTy (call_listK rfl) (by rfl) T.n_list (by decide +kernel) (pa_cons (pv 1) pa_nil)))
    (pss_cons (ps_for PassesOwn.never rfl (pi_enumK rfl (by rfl) T.n_enumerate (pa_cons (pv 0) pa_nil)) (pg_tupK (n := 2) rfl rfl (pgs_cons (pg_name (i := 4) sc_law_play.nd rfl (Or.inl rfl)) (pgs_cons (pg_name (i := 5) sc_law_play.nd rfl (Or.inl rfl)) pgs_nil)))
    (pss_one (ps_if (PW.pt (pw_and (pt_cmpR (op_notInK rfl) (pv 4) (pv 2) (by rfl)) (pw_and1 (pt_cmpR op_gt (pe_ix (ix_listK rfl) (pv 3) (pe_op op_sub (pv 5) pe_int) (fun _ _ => rfl)) (pe_ix (ix_listK rfl) (pv 3) (pv 5) (fun _ _ => rfl)) (nomark _)))))
    (pss_one (ps_asg (pe_tup (pa_cons (pe_ix (ix_listK rfl) (pv 3) (pv 5) (fun _ _ => rfl)) (pa_cons (pe_ix (ix_listK rfl) (pv 3) (pe_op op_sub (pv 5) pe_int) (fun _ _ => rfl)) pa_nil))) (pg_tupK (n := 2) rfl rfl (pgs_cons (pg_sub (pv 3) (pe_op op_sub (pv 5) pe_int) set_list) (pgs_cons (pg_sub (pv 3) (pv 5) set_list) pgs_nil))))) pss_nil)))
    (pss_one (ps_ret (pv 3))))), ?_⟩
    walk_at "go"
    refine r_listL ho ?_
    intro p hp
    have e1 := same_new (o := HO.lst (vN x)) hp
    have h1 : upd H p (HO.lst (vN x)) p = some (.lst (vN x)) := upd_same
    walk_at "go"
    generalize upd H p (HO.lst (vN x)) = H1 at *
    refine r_en (e1 _ _ hg) ?_
    refine for_it (walk_enum (xs := vN gs)) (fun t σ H5 => (∃ o4 o5 : Option V, σ = [some (.ref g), some (.ref o), some (.ref m), some (.ref p), o4, o5]) ∧ Kn H p (fun _ ys => ys = vN (BM.play (gs.take t) x mi)) H5) ⟨⟨_, _, rfl⟩, H, _, same_refl _, e1, hp, h1, rfl⟩ (fun t σ H5 _ z => ?_) (fun t v σ H5 H6 ht z y => ?_) (fun σ H5 z => ?_)
    · obtain ⟨_, B, ys, z1, z2, _⟩ := z
      exact sl_of (z2 _ _ (z1 _ _ hg))
    · obtain ⟨⟨o4, o5, rfl⟩, B, ys, z1, z2, z3, z4, rfl⟩ := z
      obtain ⟨T', y1, rfl, hT, e8, h8, hy⟩ := en_of y
      obtain ⟨hi, rfl⟩ := vN_of hy
      obtain ⟨c, hc⟩ : ∃ c, gs[t]? = some c := ⟨_, List.getElem?_eq_getElem hi⟩
      have ec : gs.getD t 0 = c := by rw [List.getD_eq_getElem?_getD, hc]; rfl
      rw [ec] at h8
      obtain ⟨g1, g2⟩ := hgs c (List.mem_of_getElem? hc)
      have z4 := e8 _ _ z4
      have z2 := same_trans z2 e8
      have pl : BM.play (gs.take (t + 1)) x mi = if t ∈ mi then BM.play (gs.take t) x mi else BM.cmpAt (BM.play (gs.take t) x mi) c := by
        rw [BM.take_snoc hc, BM.play_snoc, List.length_take, Nat.min_eq_left (by omega)]
      have hln : (BM.play (gs.take t) x mi).length = x.length := BM.play_len _ _ _
      generalize BM.play (gs.take t) x mi = now at *
      refine r_gtup h8 rfl ?_
      walk_at "go"
      refine r_notIn (z2 _ _ (z1 _ _ hm)) ?_
      walk_at "go"
      refine iteDN (fun hn => ?_) (fun hn => ?_)
      · rw [if_neg hn] at pl
        walk_at "go"
        refine r_ixL z4 (j := c - 1) (by omega) (vN_at (by omega)) ?_
        walk_at "go"
        refine r_ixL z4 rfl (vN_at (by omega)) ?_
        walk_at "go"
        refine iteD (fun h => ?_) (fun h => ?_)
        · have e : BM.cmpAt now c = BM.swapAt now (c - 1) c 0 := if_pos (by omega)
          rw [e] at pl
          walk_at "go"
          refine r_ixL z4 rfl (vN_at (by omega)) ?_
          walk_at "go"
          refine r_ixL z4 (j := c - 1) (by omega) (vN_at (by omega)) ?_
          walk_at "go"
          refine r_new (by simp) fun T2 H7 e7 hT2 h7 => ?_
          walk_at "go"
          refine r_gtup h7 rfl ?_
          walk_at "go"
          refine r_set (j := c - 1) (e7 _ _ z4) (by omega) (by rw [vN_len]; omega) ?_
          walk_at "go"
          refine r_set (j := c) upd_same rfl (by rw [List.length_set, vN_len]; omega) ?_
          walk_at "go"
          refine ⟨⟨_, _, rfl⟩, B, _, z1, fun q o e => ?_, z3, upd_same, ?_⟩
          · rw [upd_ne (ne_of_none e z3), upd_ne (ne_of_none e z3)]
            exact e7 _ _ (z2 _ _ e)
          · rw [pl]
            unfold BM.swapAt
            rw [vN_set, vN_set]
        · have e : BM.cmpAt now c = now := if_neg (by omega)
          rw [e] at pl
          walk_at "go"
          exact ⟨⟨_, _, rfl⟩, B, _, z1, z2, z3, z4, by rw [pl]⟩
      · rw [if_pos hn] at pl
        walk_at "go"
        exact ⟨⟨_, _, rfl⟩, B, _, z1, z2, z3, z4, by rw [pl]⟩
    · obtain ⟨⟨o4, o5, rfl⟩, B, ys, z1, z2, z3, z4, rfl⟩ := z
      walk_at "go"
      rw [vN_len, List.take_length] at z4
      exact kk p _ (same_trans z1 z2) hp z4
/-- _law_new() -/
def spNew : Sp := fun vs H Q _ => vs = [] ∧ ∀ d a H', Same H H' → H d = none → (∀ x ∈ a.all, H x = none) → d ∉ a.all → HereAt H' d a .zero → Q (.ref d) H'
theorem sc_law_new : FnScope [] [] (defScope s_law_new) := ⟨rfl, rfl, rfl, by decide +kernel, rfl, by decide +kernel, by decide +kernel⟩
theorem ok_law_new (T : Tx K mg) : Def P w K mg base CX0 1 (He.ga K "_law_new") [] spNew := by
  refine mk0 T.f_law_new sc_law_new (fun _ _ _ _ _ _ us hl => match us, hl with | [], _ => rfl) (fun vs H Q E h => ?_) (fun cdv A outer s H vs Q E hr h => ?_)
  · obtain ⟨rfl, _⟩ := h
    rfl
  · obtain ⟨rfl, kk⟩ := h
    refine ⟨_, (pss_one (ps_ret (pe_disp (pps_cons pe_str (pe_lst pa_nil) (pps_cons pe_str (pe_lst pa_nil) (pps_cons pe_str (pe_lst pa_nil) (pps_cons pe_str (pe_lst pa_nil) (pps_cons pe_str (pe_lst pa_nil) pps_nil))))) (by rfl) (by rfl) (fun z => by cases z) (by decide)))), ?_⟩
    walk_at "go"
    intro d hd
    have e0 := same_new (o := HO.dK []) hd
    have h0 : upd H d (HO.dK []) d = some (.dK []) := upd_same
    show tPairs _ _ _ _
    unfold tPairs
    walk_at "go"
    refine r_new (by simp) fun a1 H1 e1 n1 h1 => ?_
    unfold tPairs
    walk_at "go"
    refine r_new (by simp) fun a2 H2 e2 n2 h2 => ?_
    unfold tPairs
    walk_at "go"
    refine r_new (by simp) fun a3 H3 e3 n3 h3 => ?_
    unfold tPairs
    walk_at "go"
    refine r_new (by simp) fun a4 H4 e4 n4 h4 => ?_
    unfold tPairs
    walk_at "go"
    refine r_new (by simp) fun a5 H5 e5 n5 h5 => ?_
    unfold tPairs
    have s1 := same_trans e0 e1
    have s2 := same_trans s1 e2
    have s3 := same_trans s2 e3
    have s4 := same_trans s3 e4
    have s5 := same_trans s4 e5
    refine ⟨e5 _ _ (e4 _ _ (e3 _ _ (e2 _ _ (e1 _ _ h0)))), herV ⟨a1, a2, a3, a4, a5⟩, rfl, by simp, ?_⟩
    have d1 : d ≠ a1 := ne_of_none h0 n1
    have d2 : d ≠ a2 := ne_of_none (e1 _ _ h0) n2
    have d3 : d ≠ a3 := ne_of_none (e2 _ _ (e1 _ _ h0)) n3
    have d4 : d ≠ a4 := ne_of_none (e3 _ _ (e2 _ _ (e1 _ _ h0))) n4
    have d5 : d ≠ a5 := ne_of_none (e4 _ _ (e3 _ _ (e2 _ _ (e1 _ _ h0)))) n5
    have q12 : a1 ≠ a2 := ne_of_none h1 n2
    have q13 : a1 ≠ a3 := ne_of_none (e2 _ _ h1) n3
    have q14 : a1 ≠ a4 := ne_of_none (e3 _ _ (e2 _ _ h1)) n4
    have q15 : a1 ≠ a5 := ne_of_none (e4 _ _ (e3 _ _ (e2 _ _ h1))) n5
    have q23 : a2 ≠ a3 := ne_of_none h2 n3
    have q24 : a2 ≠ a4 := ne_of_none (e3 _ _ h2) n4
    have q25 : a2 ≠ a5 := ne_of_none (e4 _ _ (e3 _ _ h2)) n5
    have q34 : a3 ≠ a4 := ne_of_none h3 n4
    have q35 : a3 ≠ a5 := ne_of_none (e4 _ _ h3) n5
    have q45 : a4 ≠ a5 := ne_of_none h4 n5
    refine kk d ⟨a1, a2, a3, a4, a5⟩ _ (same_upd s5 hd) hd ?_ ?_ ⟨upd_same, ⟨?_, ?_, ?_, ⟨[], ?_, .nil⟩, ?_, ?_⟩⟩
    · intro x hx
      simp only [Adr.all, List.mem_cons, List.not_mem_nil, or_false] at hx
      rcases hx with rfl | rfl | rfl | rfl | rfl
      · exact none_below e0 n1
      · exact none_below s1 n2
      · exact none_below s2 n3
      · exact none_below s3 n4
      · exact none_below s4 n5
    · simp [d1, d2, d3, d4, d5]
    · exact (upd_ne (Ne.symm d1)).trans (e5 _ _ (e4 _ _ (e3 _ _ (e2 _ _ h1))))
    · exact (upd_ne (Ne.symm d2)).trans (e5 _ _ (e4 _ _ (e3 _ _ h2)))
    · exact (upd_ne (Ne.symm d3)).trans (e5 _ _ (e4 _ _ h3))
    · exact (upd_ne (Ne.symm d4)).trans (e5 _ _ h4)
    · exact (upd_ne (Ne.symm d5)).trans h5
    · simp [q12, q13, q14, q15, q23, q24, q25, q34, q35, q45]
end
end BW
namespace BW
open PySem PySem.Spec PyProof.Rows L2
section
variable {P : Program} {w : World} {K : PySem.W.Frag} {mg : Str → Option Value} {base : Heap}

theorem r_optIf {σ : L2.St} {H : Hp} {Q : VK} {o : Option Int} {p : Int} {i j : Nat} (h1 : σ[i]? = some (some (oV o))) (h2 : σ[j]? = some (some (.int p))) (k : Q (oV (o.map (· + p))) H) : if decide (oV o = V.non) = true then tC V.non σ H Q else tOp (rI0 fun i j => V.int (i + j)) (tVar i) (tVar j) σ H Q := by
  cases o with
  | none => exact iteYes rfl k
  | some z => exact iteNo (fun z => by cases z) ⟨_, h1, _, h2, ⟨_, _, rfl, rfl, k⟩⟩
theorem tabO_at {H : Hp} {cols : List V} {n m : Nat} {f : Nat → Nat → Option Int} (h : Paired (fun u row => Lst H u (vO row)) cols (tabO n m f)) {j : Nat} (hj : j < n) : ∃ u, cols[j]? = some (.ref u) ∧ H u = some (.lst (vO ((List.range m).map (f j)))) := by
  obtain ⟨a, h1, q, rfl, h2⟩ := pair_atR (i := j) h (by unfold tabO; exact range_map_at _ hj)
  exact ⟨q, h1, h2⟩
theorem vO_snoc (k : Nat) (e : Nat → Option Int) : vO ((List.range (k + 1)).map e) = vO ((List.range k).map e) ++ [oV (e k)] := by
  simp [vO, List.range_succ]
/-- column_after(prices, gate, price) -/
def spColumn : Sp := fun vs H Q _ => ∃ (a : Addr) (cols : List V) (n m g : Nat) (price : Int) (prev : BM.Row), vs = [.ref a, .int (g : Int), .int price] ∧ H a = some (.lst cols) ∧ Paired (fun u row => Lst H u (vO row)) cols (tabO (n + 1) m prev) ∧ 1 ≤ g ∧ g + 1 ≤ n ∧ m ≤ 20 ∧
  ∀ p H', Same H H' → H p = none → H' p = some (.lst (vO ((List.range m).map (BM.entry prev g price)))) → Q (.ref p) H'
theorem sc_column_after : FnScope ["prices", "gate", "price", "found", "r", "elder", "some"] ["prices", "gate", "price"] (defScope s_column_after) := ⟨rfl, rfl, rfl, by decide +kernel, rfl, by decide +kernel, by decide +kernel⟩
theorem ok_column_after (T : Tx K mg) : Def P w K mg base CX0 2 (He.ga K "column_after") ["prices", "gate", "price"] spColumn := by
  have G_least_of := ok_least_of (P := P) (w := w) (base := base) T
  refine mk0 T.f_column_after sc_column_after (fun _ _ _ _ _ _ us hl => match us, hl with | [_, _, _], _ => rfl) (fun vs H Q E h => ?_) (fun cdv A outer s H vs Q E hr h => ?_)
  · obtain ⟨a, cols, n, m, g, price, prev, rfl, _⟩ := h
    rfl
  · obtain ⟨a, cols, n, m, g, price, prev, rfl, ha, hc, hg, hgn, hm, kk⟩ := h
    refine ⟨_, (pss_cons (ps_set (i := 3) sc_column_after.nd rfl (Or.inl rfl) (pe_lst pa_nil))
    (pss_cons (ps_for PassesOwn.never rfl (pi_enumK rfl (by rfl) T.n_enumerate (pa_cons (pe_ix (ix_listK rfl) (pv 0) (pv 1) (fun _ _ => rfl)) pa_nil)) (pg_tupK (n := 2) rfl rfl (pgs_cons (pg_name (i := 4) sc_column_after.nd rfl (Or.inl rfl)) (pgs_cons (pg_name (i := 5) sc_column_after.nd rfl (Or.inl rfl)) pgs_nil)))
    (pss_cons (ps_set (i := 6) sc_column_after.nd rfl (Or.inl rfl) (pe_lst (pa_cons (pe_ix (ix_listK rfl) (pe_ix (ix_listK rfl) (pv 0) (pe_op op_sub (pv 1) pe_int) (fun _ _ => rfl)) (pv 4) (fun _ _ => rfl)) (pa_cons (pe_ifExp (pt_cmpR op_isN (pv 5) pe_non (nomark _)) pe_non (pe_op op_add (pv 5) (pv 2))) pa_nil))))
    (pss_cons (ps_if (pt_cmpR op_gt (pv 4) pe_int (nomark _))
    (pss_one (ps_expr (pe_bmK rfl PySem.F.plainAttrs_list PySem.F.slot_list_append PySem.F.type_list_append mt_append (pv 6) (pa_cons (pe_ix (ix_listK rfl) (pe_ix (ix_listK rfl) (pv 0) (pe_op op_add (pv 1) pe_int) (fun _ _ => rfl)) (pe_op op_sub (pv 4) pe_int) (fun _ _ => rfl)) pa_nil)))) pss_nil)
    (pss_one (ps_expr (pe_bmK rfl PySem.F.plainAttrs_list PySem.F.slot_list_append PySem.F.type_list_append mt_append (pv 3) (pa_cons (pe_cl G_least_of (hr.mono (by decide)) T.g_least_of pass0 (pa_cons (pv 6) pa_nil)) pa_nil)))))))
    (pss_one (ps_ret (pv 3))))), ?_⟩
    obtain ⟨ug, cg, hug⟩ := tabO_at hc (j := g) (by omega)
    obtain ⟨ul, cl, hul⟩ := tabO_at hc (j := g - 1) (by omega)
    obtain ⟨uu, cu, huu⟩ := tabO_at hc (j := g + 1) (by omega)
    walk_at "go"
    refine r_new (by simp) fun f H1 e1 hf hf1 => ?_
    walk_at "go"
    refine r_ixL (e1 _ _ ha) rfl cg ?_
    walk_at "go"
    refine r_en (e1 _ _ hug) ?_
    refine for_it (walk_enum (xs := vO ((List.range m).map (prev g)))) (fun t σ H5 => (∃ o4 o5 o6 : Option V, σ = [some (.ref a), some (.int (g : Int)), some (.int price), some (.ref f), o4, o5, o6]) ∧ Kn H f (fun B ys => ys = vO ((List.range t).map (BM.entry prev g price))) H5) ⟨⟨_, _, _, rfl⟩, H, _, same_refl _, e1, hf, hf1, rfl⟩ (fun t σ H5 _ z => ?_) (fun t v σ H5 H6 ht z y => ?_) (fun σ H5 z => ?_)
    · obtain ⟨_, B, ys, z1, z2, _⟩ := z
      exact sl_of (z2 _ _ (z1 _ _ hug))
    · obtain ⟨⟨o4, o5, o6, rfl⟩, B, ys, z1, z2, z3, z4, rfl⟩ := z
      obtain ⟨T', y1, rfl, hT, e8, h8, hy⟩ := en_of y
      have htm : t < m := by rw [vO_len] at ht; simpa using ht
      rw [vO_at _ htm] at hy
      cases hy
      have zH : Same H H6 := same_trans z1 (same_trans z2 e8)
      refine r_gtup h8 rfl ?_
      walk_at "go"
      refine r_ixL (zH _ _ ha) (j := g - 1) (by omega) cl ?_
      walk_at "go"
      refine r_ixL (zH _ _ hul) rfl (vO_at _ htm) ?_
      walk_at "go"
      refine r_optIf rfl rfl ?_
      walk_at "go"
      refine r_new (by simp) fun sm H7 e7 hsm hs7 => ?_
      have bsm : B sm = none := none_below (same_trans z2 e8) hsm
      have smf : sm ≠ f := fun e => by
        rw [e, e8 _ _ z4] at hsm
        cases hsm
      have zB : Same B H7 := same_trans z2 (same_trans e8 e7)
      walk_at "go"
      have fin : ∀ H8, Same B H8 → Kn H f (fun B ys => ys = vO ((List.range (t + 1)).map (BM.entry prev g price))) (upd H8 f (.lst (vO ((List.range t).map (BM.entry prev g price)) ++ [oV (BM.entry prev g price t)]))) := fun H8 e8 => kn_appV z1 e8 z3 (vO_snoc t _).symm
      have hlen : (vO ((List.range t).map (BM.entry prev g price))).length ≤ 10000 := by rw [vO_len]; simp; omega
      refine iteD (fun h => ?_) (fun h => ?_)
      · walk_at "go"
        refine r_tyL hs7 ?_
        walk_at "go"
        have zH7 : Same H H7 := same_trans zH e7
        refine r_ixL (zH7 _ _ ha) (j := g + 1) (by omega) cu ?_
        walk_at "go"
        refine r_ixL (zH7 _ _ huu) (j := t - 1) (by omega) (vO_at _ (by omega)) ?_
        walk_at "go"
        refine r_app hs7 (by simp) ?_
        walk_at "go"
        have zB8 := same_upd (o := .lst ([oV (prev (g - 1) t), oV ((prev g t).map (· + price))] ++ [oV (prev (g + 1) (t - 1))])) zB bsm
        refine r_tyL ((upd_ne (Ne.symm smf)).trans (e7 _ _ (e8 _ _ z4))) ?_
        walk_at "go"
        refine ⟨sm, [prev (g - 1) t, (prev g t).map (· + price), prev (g + 1) (t - 1)], rfl, upd_same, by simp, fun H9 e9 => ?_⟩
        walk_at "go"
        refine r_app (e9 _ _ ((upd_ne (Ne.symm smf)).trans (e7 _ _ (e8 _ _ z4)))) hlen ?_
        refine ⟨⟨_, _, _, rfl⟩, ?_⟩
        have ee : BM.leastL [prev (g - 1) t, (prev g t).map (· + price), prev (g + 1) (t - 1)] = BM.entry prev g price t := by
          unfold BM.entry
          rw [if_pos (by omega)]
          rfl
        rw [ee]
        exact fin _ (same_trans zB8 e9)
      · walk_at "go"
        refine r_tyL (e7 _ _ (e8 _ _ z4)) ?_
        walk_at "go"
        refine ⟨sm, [prev (g - 1) t, (prev g t).map (· + price)], rfl, hs7, by simp, fun H9 e9 => ?_⟩
        walk_at "go"
        refine r_app (e9 _ _ (e7 _ _ (e8 _ _ z4))) hlen ?_
        refine ⟨⟨_, _, _, rfl⟩, ?_⟩
        have ee : BM.leastL [prev (g - 1) t, (prev g t).map (· + price)] = BM.entry prev g price t := by
          unfold BM.entry
          rw [if_neg (by omega)]
          rfl
        rw [ee]
        exact fin _ (same_trans zB e9)
    · obtain ⟨⟨o4, o5, o6, rfl⟩, B, ys, z1, z2, z3, z4, rfl⟩ := z
      walk_at "go"
      rw [vO_len, List.length_map, List.length_range] at z4
      exact kk f _ (same_trans z1 z2) hf z4
end
end BW
namespace BW
open PySem PySem.Spec PyProof.Rows L2
section
variable {P : Program} {w : World} {K : PySem.W.Frag} {mg : Str → Option Value} {base : Heap}

abbrev schF (n : Int) (l : Addr) : List (Str × V) := [("place_count", .int n), ("rows", .ref l)]
/-- a Schedule with its own list -/
def SchAt (K : PySem.W.Frag) (H : Hp) (x : Addr) (n : Nat) (cs : List (Nat × Int)) : Prop := ∃ dx l us, H x = some (.ins (He.ga K "Schedule") dx (schF (n : Int) l)) ∧ H l = some (.lst us) ∧ Rows H us cs
theorem SchAt.mono {H H' : Hp} {x : Addr} {n : Nat} {cs : List (Nat × Int)} (h : SchAt K H x n cs) (e : Same H H') : SchAt K H' x n cs := by
  obtain ⟨dx, l, us, h1, h2, h3⟩ := h
  exact ⟨dx, l, us, e _ _ h1, e _ _ h2, h3.mono e⟩
/-- what a list of comparisons keeps -/
structure CsOk (n : Nat) (cs : List (Nat × Int)) : Prop where
  g : ∀ c ∈ cs, 1 ≤ c.1 ∧ c.1 + 1 ≤ n
  p : ∀ c ∈ cs, 0 ≤ c.2 ∧ c.2 ≤ 10 ^ 18
  l : cs.length ≤ 400
  n1 : 1 ≤ n
  n12 : n ≤ 12
theorem kit_ll : PySem.W.kitOne K (.type "list") (.type "list") = some true := kit_ty (by decide +kernel)
def spSchInit (K : PySem.W.Frag) : Sp := fun vs H Q _ => ∃ (x dx a : Addr) (us : List V) (cs : List (Nat × Int)) (n : Nat), vs = [.ref x, .int (n : Int), .ref a] ∧ H x = some (.ins (He.ga K "Schedule") dx []) ∧ H a = some (.lst us) ∧ Rows H us cs ∧ CsOk n cs ∧
  ∀ l H1, Same H H1 → H l = none → H1 l = some (.lst us) → Q .non (upd H1 x (.ins (He.ga K "Schedule") dx (schF (n : Int) l)))
theorem sc_Schedule_init : FnScope ["self", "places", "comparisons", "at", "comparison"] ["self", "places", "comparisons"] (defScope s_Schedule_init) := ⟨rfl, rfl, rfl, by decide +kernel, rfl, by decide +kernel, by decide +kernel⟩
theorem ok_Schedule_init (T : Tx K mg) : Def P w K mg base CX0 5 (He.ma K (He.ga K "Schedule") "__init__") ["self", "places", "comparisons"] (spSchInit K) := by
  have G_is_between := ok_is_between (P := P) (w := w) (base := base) T
  have G_is_comparison := ok_is_comparison (P := P) (w := w) (base := base) T
  refine mk0 T.f_Schedule_init sc_Schedule_init (fun _ _ _ _ _ _ us hl => match us, hl with | [_, _, _], _ => rfl) (fun vs H Q E h => ?_) (fun cdv A outer s H vs Q E hr h => ?_)
  · obtain ⟨x, dx, a, us, cs, n, rfl, _⟩ := h
    rfl
  · obtain ⟨x, dx, a, us, cs, n, rfl, hx, ha, hc, ok, kk⟩ := h
    refine ⟨_, (pss_cons (ps_if (pt_not (pt_val (pe_cl G_is_between (hr.mono (by decide)) T.g_is_between pass0 (pa_cons (pv 1) (pa_cons pe_int (pa_cons (pe_gi T.i_MAX_PLACES) pa_nil))))))
    pss_never pss_nil)
    (pss_cons (ps_if (PW.pt (pw_or (pt_not (pt_val (pe_callB (call_isiK rfl) (by rfl) T.n_isinstance (by decide +kernel) (pa_cons (pv 2) (pa_cons (pe_ty T.n_list (by decide +kernel) (n := "list")) pa_nil))))) (pw_or1 (pt_cmpR op_gt (pe_callB (call_lenK rfl) (by rfl) T.n_len PySem.boot_len (pa_cons (pv 2) pa_nil)) (pe_gi T.i_MAX_COMPARISONS) (nomark _)))))
    pss_never pss_nil)
    (pss_cons (ps_for PassesOwn.never rfl (pi_enumK rfl (by rfl) T.n_enumerate (pa_cons (pv 2) pa_nil)) (pg_tupK (n := 2) rfl rfl (pgs_cons (pg_name (i := 3) sc_Schedule_init.nd rfl (Or.inl rfl)) (pgs_cons (pg_name (i := 4) sc_Schedule_init.nd rfl (Or.inl rfl)) pgs_nil)))
    (pss_one (ps_if (pt_not (pt_val (pe_cl G_is_comparison (hr.mono (by decide)) T.g_is_comparison pass0 (pa_cons (pv 4) (pa_cons (pv 1) pa_nil)))))
    pss_never pss_nil)))
    (pss_cons (ps_fldK rfl (pv 0) (pv 1) rfl)
    (pss_one (ps_fldK rfl (pv 0) (pe_callTy (call_listK rfl) (by rfl) T.n_list (by decide +kernel) (pa_cons (pv 2) pa_nil)) rfl)))))), ?_⟩
    have hl : us.length = cs.length := hc.length
    have := ok.l
    walk_at "go"
    refine ⟨n, 1, 12, rfl, by have := ok.n1; omega, by have := ok.n12; omega, ?_⟩
    walk_at "go"
    refine r_isi (.ty _) (.base (.lst ha)) kit_ll ?_
    walk_at "go"
    refine r_lenL ha ?_
    walk_at "go"
    refine iteNo (by omega) ?_
    walk_at "go"
    refine r_en ha ?_
    refine for_it (walk_enum (xs := us)) (fun t σ H5 => (∃ o3 o4 : Option V, σ = [some (.ref x), some (.int (n : Int)), some (.ref a), o3, o4]) ∧ Same H H5) ⟨⟨_, _, rfl⟩, same_refl _⟩ (fun t σ H5 _ z => sl_of (z.2 _ _ ha)) (fun t v σ H5 H6 ht z y => ?_) (fun σ H5 z => ?_)
    · obtain ⟨⟨o3, o4, rfl⟩, z2⟩ := z
      obtain ⟨T', y1, rfl, hT, e8, h8, hy⟩ := en_of y
      obtain ⟨c, hc1, q, rfl, hq⟩ := pair_atL hc hy
      obtain ⟨g1, g2⟩ := ok.g c (List.mem_of_getElem? hc1)
      obtain ⟨p1, p2⟩ := ok.p c (List.mem_of_getElem? hc1)
      refine r_gtup h8 rfl ?_
      walk_at "go"
      refine ⟨q, c, n, rfl, e8 _ _ (z2 _ _ hq), g1, g2, p1, p2, ?_⟩
      walk_at "go"
      exact ⟨⟨_, _, rfl⟩, same_trans z2 e8⟩
    · obtain ⟨⟨o3, o4, rfl⟩, z2⟩ := z
      walk_at "go"
      refine r_sf (z2 _ _ hx) T.c_Schedule T.a_Schedule_place_count (by simp) ?_
      walk_at "go"
      have hax : a ≠ x := fun e => by
        rw [e, hx] at ha
        cases ha
      refine r_listL ((upd_ne hax).trans (z2 _ _ ha)) ?_
      intro l hl7
      have e7 := same_new (o := HO.lst us) hl7
      have h7 : upd (upd H5 x (HO.ins (He.ga K (Str.ofString "Schedule")) dx (putF (Str.ofString "place_count") (V.int ↑n) []))) l (HO.lst us) l = some (.lst us) := upd_same
      walk_at "go"
      generalize upd (upd H5 x (HO.ins (He.ga K (Str.ofString "Schedule")) dx (putF (Str.ofString "place_count") (V.int ↑n) []))) l (HO.lst us) = H7 at *
      have hl0 : H5 l = none := by
        by_cases e : l = x
        · rw [e, upd_same] at hl7
          cases hl7
        · rwa [upd_ne e] at hl7
      refine r_sf (e7 _ _ upd_same) T.c_Schedule T.a_Schedule_rows (by simp [putF]) ?_
      have hxl : x ≠ l := fun e => by
        rw [← e, z2 _ _ hx] at hl0
        cases hl0
      have q := kk l (fun c => if c = x then some (.ins (He.ga K "Schedule") dx []) else H7 c) (fun c o e => ?_) (none_below z2 hl0) ?_
      · have e : upd (fun c => if c = x then some (.ins (He.ga K "Schedule") dx []) else H7 c) x (.ins (He.ga K "Schedule") dx (schF (n : Int) l)) = upd H7 x (.ins (He.ga K "Schedule") dx (schF (n : Int) l)) := by
          funext c
          by_cases e : c = x
          · rw [e, upd_same, upd_same]
          · rw [upd_ne e, upd_ne e, if_neg e]
        rw [e] at q
        exact q
      · show (if c = x then some (.ins (He.ga K "Schedule") dx []) else H7 c) = some o
        by_cases e1 : c = x
        · rw [if_pos e1]
          rw [e1, hx] at e
          exact e
        · rw [if_neg e1]
          exact e7 _ _ ((upd_ne e1).trans (z2 _ _ e))
      · show (if l = x then some (.ins (He.ga K "Schedule") dx []) else H7 l) = some (.lst us)
        rw [if_neg (Ne.symm hxl)]
        exact h7
/-- a new Schedule -/
def SchNew (K : PySem.W.Frag) (H H' : Hp) (x : Addr) (n : Nat) (cs : List (Nat × Int)) : Prop := ∃ dx l us, H' x = some (.ins (He.ga K "Schedule") dx (schF (n : Int) l)) ∧ H' l = some (.lst us) ∧ Rows H' us cs ∧ H x = none ∧ H l = none
theorem SchNew.at_ {H H' : Hp} {x : Addr} {n : Nat} {cs : List (Nat × Int)} (h : SchNew K H H' x n cs) : SchAt K H' x n cs := by
  obtain ⟨dx, l, us, h1, h2, h3, _⟩ := h
  exact ⟨dx, l, us, h1, h2, h3⟩
theorem SchNew.since {H0 H H' : Hp} {x : Addr} {n : Nat} {cs : List (Nat × Int)} (h : SchNew K H H' x n cs) (e : Same H0 H) : SchNew K H0 H' x n cs := by
  obtain ⟨dx, l, us, h1, h2, h3, h4, h5⟩ := h
  exact ⟨dx, l, us, h1, h2, h3, none_below e h4, none_below e h5⟩
theorem SchNew.mono {H H' H'' : Hp} {x : Addr} {n : Nat} {cs : List (Nat × Int)} (h : SchNew K H H' x n cs) (e : Same H' H'') : SchNew K H H'' x n cs := by
  obtain ⟨dx, l, us, h1, h2, h3, h4, h5⟩ := h
  exact ⟨dx, l, us, e _ _ h1, e _ _ h2, h3.mono e, h4, h5⟩
theorem r_mkSchN {H : Hp} {F : Addr → Hp → Prop} {E : XK} {a : Addr} {us : List V} {cs : List (Nat × Int)} {n : Nat} (ha : H a = some (.lst us)) (hc : Rows H us cs) (ok : CsOk n cs) (k : ∀ x H', Same H H' → SchNew K H H' x n cs → F x H') :
    ∀ x dx, H x = none → H dx = none → dx ≠ x → spSchInit K (.ref x :: ([.int (n : Int), .ref a] ++ [])) (upd (upd H dx (.own x)) x (.ins (He.ga K "Schedule") dx [])) (fun v H2 => v = .non ∧ F x H2) E := by
  intro x dx hx hdx hne
  have e1 : Same H (upd (upd H dx (.own x)) x (.ins (He.ga K "Schedule") dx [])) := same_upd (same_new hdx) hx
  refine ⟨x, dx, a, us, cs, n, rfl, upd_same, e1 _ _ ha, hc.mono e1, ok, fun l H1 e2 hl h1 => ⟨rfl, k x _ (same_upd (same_trans e1 e2) hx) ?_⟩⟩
  have hlx : l ≠ x := fun e => by
    rw [e, upd_same] at hl
    cases hl
  exact ⟨dx, l, us, upd_same, (upd_ne hlx).trans h1, hc.mono (same_upd (same_trans e1 e2) hx), hx, none_below e1 hl⟩
theorem r_mkSch {H : Hp} {F : Addr → Hp → Prop} {E : XK} {a : Addr} {us : List V} {cs : List (Nat × Int)} {n : Nat} (ha : H a = some (.lst us)) (hc : Rows H us cs) (ok : CsOk n cs) (k : ∀ x H', Same H H' → H x = none → SchAt K H' x n cs → F x H') :
    ∀ x dx, H x = none → H dx = none → dx ≠ x → spSchInit K (.ref x :: ([.int (n : Int), .ref a] ++ [])) (upd (upd H dx (.own x)) x (.ins (He.ga K "Schedule") dx [])) (fun v H2 => v = .non ∧ F x H2) E :=
  r_mkSchN ha hc ok fun x H' e h => k x H' e (by obtain ⟨_, _, _, _, _, _, q, _⟩ := h; exact q) h.at_
/-- schedule.comparisons() -/
def spSchCs (K : PySem.W.Frag) : Sp := fun vs H Q _ => ∃ (x dx l : Addr) (us : List V) (n : Int), vs = [.ref x] ∧ H x = some (.ins (He.ga K "Schedule") dx (schF n l)) ∧ H l = some (.lst us) ∧ ∀ p H', Same H H' → H p = none → H' p = some (.lst us) → Q (.ref p) H'
theorem sc_Schedule_comparisons : FnScope ["self"] ["self"] (defScope s_Schedule_comparisons) := ⟨rfl, rfl, rfl, by decide +kernel, rfl, by decide +kernel, by decide +kernel⟩
theorem ok_Schedule_comparisons (T : Tx K mg) : Def P w K mg base CX0 1 (He.ma K (He.ga K "Schedule") "comparisons") ["self"] (spSchCs K) := by
  refine mk0 T.f_Schedule_comparisons sc_Schedule_comparisons (fun _ _ _ _ _ _ us hl => match us, hl with | [_], _ => rfl) (fun vs H Q E h => ?_) (fun cdv A outer s H vs Q E hr h => ?_)
  · obtain ⟨x, dx, l, us, n, rfl, _⟩ := h
    rfl
  · obtain ⟨x, dx, l, us, n, rfl, hx, hl, kk⟩ := h
    refine ⟨_, (pss_one (ps_ret (pe_callTy (call_listK rfl) (by rfl) T.n_list (by decide +kernel) (pa_cons (pe_fldK rfl (pv 0) rfl) pa_nil)))), ?_⟩
    walk_at "go"
    refine r_fld hx T.c_Schedule T.a_Schedule_rows rfl ?_
    walk_at "go"
    refine r_listL hl ?_
    exact fun p hp => kk p _ (same_new hp) hp upd_same
/-- len(schedule) -/
def spSchLen (K : PySem.W.Frag) : Sp := fun vs H Q _ => ∃ (x dx l : Addr) (us : List V) (n : Int), vs = [.ref x] ∧ H x = some (.ins (He.ga K "Schedule") dx (schF n l)) ∧ H l = some (.lst us) ∧ Q (.int (us.length : Int)) H
theorem sc_Schedule_len : FnScope ["self"] ["self"] (defScope s_Schedule_len) := ⟨rfl, rfl, rfl, by decide +kernel, rfl, by decide +kernel, by decide +kernel⟩
theorem ok_Schedule_len (T : Tx K mg) : Def P w K mg base CX0 1 (He.ma K (He.ga K "Schedule") "__len__") ["self"] (spSchLen K) := by
  refine mk0 T.f_Schedule_len sc_Schedule_len (fun _ _ _ _ _ _ us hl => match us, hl with | [_], _ => rfl) (fun vs H Q E h => ?_) (fun cdv A outer s H vs Q E hr h => ?_)
  · obtain ⟨x, dx, l, us, n, rfl, _⟩ := h
    rfl
  · obtain ⟨x, dx, l, us, n, rfl, hx, hl, kk⟩ := h
    refine ⟨_, (pss_one (ps_ret (pe_callB (call_lenK rfl) (by rfl) T.n_len PySem.boot_len (pa_cons (pe_fldK rfl (pv 0) rfl) pa_nil)))), ?_⟩
    walk_at "go"
    refine r_fld hx T.c_Schedule T.a_Schedule_rows rfl ?_
    walk_at "go"
    refine r_lenL hl ?_
    exact kk
/-- schedule.places -/
def spSchPl (K : PySem.W.Frag) : Sp := fun vs H Q _ => ∃ (x dx l : Addr) (n : Int), vs = [.ref x] ∧ H x = some (.ins (He.ga K "Schedule") dx (schF n l)) ∧ Q (.int n) H
theorem sc_Schedule_places : FnScope ["self"] ["self"] (defScope s_Schedule_places) := ⟨rfl, rfl, rfl, by decide +kernel, rfl, by decide +kernel, by decide +kernel⟩
theorem ok_places (T : Tx K mg) : ∃ p g, PropOf K (He.ga K "Schedule") "places" p g ∧ Def P w K mg base CX0 1 g ["self"] (spSchPl K) := by
  obtain ⟨p, g, fd, hp, F⟩ := T.x.places
  refine ⟨p, g, hp, ?_⟩
  refine mk0 ⟨fd, F⟩ sc_Schedule_places (fun _ _ _ _ _ _ us hl => match us, hl with | [_], _ => rfl) (fun vs H Q E h => ?_) (fun cdv A outer s H vs Q E hr h => ?_)
  · obtain ⟨x, dx, l, n, rfl, _⟩ := h
    rfl
  · obtain ⟨x, dx, l, n, rfl, hx, kk⟩ := h
    refine ⟨_, (pss_one (ps_ret (pe_fldK rfl (pv 0) rfl))), ?_⟩
    walk_at "go"
    refine r_fld hx T.c_Schedule T.a_Schedule_place_count rfl ?_
    exact kk
end
end BW
namespace BW
open PySem PySem.Spec PyProof.Rows L2
section
variable {P : Program} {w : World} {K : PySem.W.Frag} {mg : Str → Option Value} {base : Heap}

theorem upd_upd (H : Hp) (p : Addr) (o o' : HO) : upd (upd H p o) p o' = upd H p o' := by
  funext c
  by_cases e : c = p
  · rw [e, upd_same, upd_same]
  · rw [upd_ne e, upd_ne e, upd_ne e]
/-- _law_do(here, deed) -/
def spDo : Sp := fun vs H Q _ => ∃ (d : Addr) (a : Adr) (L : BM.Ln) (v : V) (dd : BM.Deed), vs = [.ref d, v] ∧ HereAt H d a L ∧ LnSmall L ∧ DeedAt H v dd ∧
  (L.step dd = none → ∀ q H' xs, Same H H' → H q = none → H' q = some (.tup xs) → Q (.ref q) H') ∧
  (∀ L', L.step dd = some L' → ∀ r H', But a.all H H' → HereAt H' d a L' → Plain r → Q r H')
theorem sc_law_do : FnScope ["_law_here", "_law_deed_here", "_law_at", "_law_line", "_law_one", "_law_other"] ["_law_here", "_law_deed_here"] (defScope s_law_do) := ⟨rfl, rfl, rfl, by decide +kernel, rfl, by decide +kernel, by decide +kernel⟩
theorem ok_law_do (T : Tx K mg) : Def P w K mg base CX0 1 (He.ga K "_law_do") ["_law_here", "_law_deed_here"] spDo := by
  refine mk0 T.f_law_do sc_law_do (fun _ _ _ _ _ _ us hl => match us, hl with | [_, _], _ => rfl) (fun vs H Q E h => ?_) (fun cdv A outer s H vs Q E hr h => ?_)
  · obtain ⟨d, a, L, v, dd, rfl, _⟩ := h
    rfl
  · obtain ⟨d, a, L, v, dd, rfl, hh, sm, ⟨q, rfl, hq⟩, kN, kS⟩ := h
    refine ⟨_, (pss_cons (ps_if (pt_cmpR op_eq (pe_ix (ix_tupK rfl) (pv 1) pe_int (fun _ _ => rfl)) pe_str (nomark _))
    (pss_cons (ps_if (pt_cmpR op_eq (pe_callB (call_lenK rfl) (by rfl) T.n_len PySem.boot_len (pa_cons (pe_dget (hu_of hr) (pv 0) pe_str (fun _ _ => rfl)) pa_nil)) pe_int (nomark _))
    (pss_one (ps_ret (pe_tup (pa_cons pe_str (pa_cons pe_int pa_nil))))) pss_nil)
    (pss_cons (ps_expr (pe_bmK rfl PySem.F.plainAttrs_list PySem.F.slot_list_append PySem.F.type_list_append mt_append (pe_dget (hu_of hr) (pv 0) pe_str (fun _ _ => rfl)) (pa_cons (pe_ix (ix_tupK rfl) (pv 1) pe_int (fun _ _ => rfl)) pa_nil)))
    (pss_cons (ps_expr (pe_bmK rfl PySem.F.plainAttrs_list PySem.F.slot_list_append PySem.F.type_list_append mt_append (pe_dget (hu_of hr) (pv 0) pe_str (fun _ _ => rfl)) (pa_cons (pe_op op_sub (pe_callB (call_lenK rfl) (by rfl) T.n_len PySem.boot_len (pa_cons (pe_dget (hu_of hr) (pv 0) pe_str (fun _ _ => rfl)) pa_nil)) pe_int) pa_nil)))
    (pss_one (ps_ret (pe_op op_sub (pe_callB (call_lenK rfl) (by rfl) T.n_len PySem.boot_len (pa_cons (pe_dget (hu_of hr) (pv 0) pe_str (fun _ _ => rfl)) pa_nil)) pe_int)))))) pss_nil)
    (pss_cons (ps_if (pt_cmpR op_eq (pe_ix (ix_tupK rfl) (pv 1) pe_int (fun _ _ => rfl)) pe_str (nomark _))
    (pss_cons (ps_if (pt_cmpR (op_eqDK rfl hr.units) (pe_dget (hu_of hr) (pv 0) pe_str (fun _ _ => rfl)) (pe_lst pa_nil) (nomark _))
    (pss_one (ps_ret (pe_tup (pa_cons pe_str pa_nil)))) pss_nil)
    (pss_cons (ps_expr (pe_bmK rfl PySem.F.plainAttrs_list PySem.F.slot_list_append PySem.F.type_list_append mt_append (pe_dget (hu_of hr) (pv 0) pe_str (fun _ _ => rfl)) (pa_cons (pe_bmK rfl PySem.F.plainAttrs_list PySem.F.slot_list_pop PySem.F.type_list_pop mt_popAt (pe_dget (hu_of hr) (pv 0) pe_str (fun _ _ => rfl)) (pa_cons pe_int pa_nil)) pa_nil)))
    (pss_one (ps_ret (pe_ix (ix_listK rfl) (pe_dget (hu_of hr) (pv 0) pe_str (fun _ _ => rfl)) (pe_un un_neg pe_int) (fun _ _ => rfl)))))) pss_nil)
    (pss_cons (ps_par (i := 2) (j := 3) (by rfl) sc_law_do.nd rfl rfl (by decide) rfl rfl (pa_cons (pe_ix (ix_tupK rfl) (pv 1) pe_int (fun _ _ => rfl)) (pa_cons (pe_dget (hu_of hr) (pv 0) pe_str (fun _ _ => rfl)) pa_nil)) (by rfl))
    (pss_cons (ps_if (pt_cmpR op_gt (pe_op op_add (pv 2) pe_int) (pe_callB (call_lenK rfl) (by rfl) T.n_len PySem.boot_len (pa_cons (pv 3) pa_nil)) (nomark _))
    (pss_one (ps_ret (pe_tup (pa_cons pe_str pa_nil)))) pss_nil)
    (pss_cons (ps_expr (pe_bmK rfl PySem.F.plainAttrs_list PySem.F.slot_list_append PySem.F.type_list_append mt_append (pe_dget (hu_of hr) (pv 0) pe_str (fun _ _ => rfl)) (pa_cons (pe_tup (pa_cons (pe_op op_add (pe_op op_add (pe_callB (call_lenK rfl) (by rfl) T.n_len PySem.boot_len (pa_cons (pe_dget (hu_of hr) (pv 0) pe_str (fun _ _ => rfl)) pa_nil)) (pv 2)) pe_int) (pa_cons (pe_ix (ix_tupK rfl) (pv 1) pe_int (fun _ _ => rfl)) pa_nil))) pa_nil)))
    (pss_cons (ps_if (pt_not (pt_val (pe_ix (ix_tupK rfl) (pv 1) pe_int (fun _ _ => rfl))))
    (pss_cons (ps_expr (pe_bmK rfl PySem.F.plainAttrs_list PySem.F.slot_list_append PySem.F.type_list_append mt_append (pe_dget (hu_of hr) (pv 0) pe_str (fun _ _ => rfl)) (pa_cons (pe_op op_sub (pe_callB (call_lenK rfl) (by rfl) T.n_len PySem.boot_len (pa_cons (pe_dget (hu_of hr) (pv 0) pe_str (fun _ _ => rfl)) pa_nil)) pe_int) pa_nil)))
    (pss_one (ps_ret pe_bl))) pss_nil)
    (pss_cons (ps_par (i := 4) (j := 5) (by rfl) sc_law_do.nd rfl rfl (by decide) rfl rfl (pa_cons (pe_ix (ix_listK rfl) (pv 3) (pv 2) (fun _ _ => rfl)) (pa_cons (pe_ix (ix_listK rfl) (pv 3) (pe_op op_add (pv 2) pe_int) (fun _ _ => rfl)) pa_nil)) (by rfl))
    (pss_cons (ps_if (pt_cmpR (op_ltTK rfl hr.units0) (pe_tup (pa_cons (pe_ix (ix_listK rfl) (pe_dget (hu_of hr) (pv 0) pe_str (fun _ _ => rfl)) (pv 4) (fun _ _ => rfl)) (pa_cons (pv 4) pa_nil))) (pe_tup (pa_cons (pe_ix (ix_listK rfl) (pe_dget (hu_of hr) (pv 0) pe_str (fun _ _ => rfl)) (pv 5) (fun _ _ => rfl)) (pa_cons (pv 5) pa_nil))) (nomark _))
    (pss_one (ps_ret pe_bl)) pss_nil)
    (pss_cons (ps_asg (pe_tup (pa_cons (pv 5) (pa_cons (pv 4) pa_nil))) (pg_tupK (n := 2) rfl rfl (pgs_cons (pg_sub (pv 3) (pv 2) set_list) (pgs_cons (pg_sub (pv 3) (pe_op op_add (pv 2) pe_int) set_list) pgs_nil))))
    (pss_one (ps_ret pe_bl))))))))))), ?_⟩
    have hlen := sm.ok.len
    have h12 := sm.ok.n12
    have hrs := sm.rs
    have hlo := sm.lo
    cases dd with
    | arrive p =>
      walk_at "go"
      refine r_ixT hq (j := 0) rfl rfl ?_
      walk_at "go"
      refine iteYes rfl ?_
      walk_at "go"
      refine r_dg hh.d rfl ?_
      walk_at "go"
      refine r_lenL hh.f.h1 ?_
      walk_at "go"
      rw [vI_len]
      refine iteD (fun h => ?_) (fun h => ?_)
      · walk_at "go"
        refine r_new (by simp) fun p2 H2 e2 hp2 h2 => ?_
        exact kN (if_pos (by omega)) p2 H2 _ e2 hp2 h2
      · walk_at "go"
        refine r_dg hh.d rfl ?_
        refine r_tyL hh.f.h1 ?_
        walk_at "go"
        refine r_ixT hq (j := 1) rfl rfl ?_
        walk_at "go"
        refine r_app hh.f.h1 (by rw [vI_len]; omega) ?_
        rw [← vI_app]
        have hh1 := hh.up1 (w := L.ws ++ [p])
        have b1 : But a.all H (upd H a.a1 (.lst (vI (L.ws ++ [p])))) := but_upd (but_refl _ _) (by simp)
        generalize upd H a.a1 (.lst (vI (L.ws ++ [p]))) = H1 at *
        walk_at "go"
        refine r_dg hh1.d rfl ?_
        refine r_tyL hh1.f.h2 ?_
        walk_at "go"
        refine r_dg hh1.d rfl ?_
        walk_at "go"
        refine r_lenL hh1.f.h1 ?_
        walk_at "go"
        rw [vI_len, List.length_append, List.length_singleton, show ((L.ws.length + 1 : Nat) : Int) - 1 = (L.ws.length : Int) by omega]
        refine r_app hh1.f.h2 (by rw [vN_len]; simp only []; omega) ?_
        rw [← vN_app]
        have hh2 := hh1.up2 (w := L.st ++ [L.ws.length])
        have b2 : But a.all H (upd H1 a.a2 (.lst (vN (L.st ++ [L.ws.length])))) := but_upd b1 (by simp)
        generalize upd H1 a.a2 (.lst (vN (L.st ++ [L.ws.length]))) = H2 at *
        walk_at "go"
        refine r_dg hh2.d rfl ?_
        walk_at "go"
        refine r_lenL hh2.f.h1 ?_
        walk_at "go"
        exact kS _ (if_neg (by omega)) _ _ b2 hh2 (.inl ⟨_, rfl⟩)
    | serve =>
      walk_at "go"
      refine r_ixT hq (j := 0) rfl rfl ?_
      walk_at "go"
      refine iteNo (by decide) ?_
      walk_at "go"
      refine r_ixT hq (j := 0) rfl rfl ?_
      walk_at "go"
      refine iteYes rfl ?_
      walk_at "go"
      refine r_dg hh.d rfl ?_
      walk_at "go"
      refine r_new (by simp) fun e0 H1 e1 he0 h1 => ?_
      refine r_eqN (m := []) (e1 _ _ hh.f.h2) h1 ?_
      walk_at "go"
      refine iteD (fun h => ?_) (fun h => ?_)
      · walk_at "go"
        refine r_new (by simp) fun p2 H2 e2 hp2 h2 => ?_
        refine kN ?_ p2 H2 _ (same_trans e1 e2) (none_below e1 hp2) h2
        unfold BM.Ln.step
        rw [h]
      · obtain ⟨i, st, hst⟩ : ∃ i st, L.st = i :: st := by
          cases hc : L.st with
          | nil => exact absurd hc h
          | cons i st => exact ⟨i, st, rfl⟩
        have hh1 := hh.same e1
        have b1 : But a.all H H1 := But.same e1 _
        walk_at "go"
        refine r_dg hh1.d rfl ?_
        refine r_tyL hh1.f.h3 ?_
        walk_at "go"
        refine r_dg hh1.d rfl ?_
        refine r_tyL hh1.f.h2 ?_
        walk_at "go"
        have e2 := hh1.f.h2
        rw [hst] at e2
        refine r_pop0 (y := .int (i : Int)) (ys := vN st) e2 ?_
        have hh2 := hh1.up2 (w := st)
        have b2 : But a.all H (upd H1 a.a2 (.lst (vN st))) := but_upd b1 (by simp)
        generalize upd H1 a.a2 (.lst (vN st)) = H2 at *
        walk_at "go"
        refine r_app hh2.f.h3 (by rw [vN_len]; simp only []; omega) ?_
        rw [← vN_app]
        have hh3 := hh2.up3 (w := L.gn ++ [i])
        have b3 : But a.all H (upd H2 a.a3 (.lst (vN (L.gn ++ [i])))) := but_upd b2 (by simp)
        generalize upd H2 a.a3 (.lst (vN (L.gn ++ [i]))) = H3 at *
        walk_at "go"
        refine r_dg hh3.d rfl ?_
        walk_at "go"
        refine r_ixEnd hh3.f.h3 (n := L.gn.length) (by rw [vN_len]; simp) (by rw [vN_at (by simp)]) ?_
        refine kS _ ?_ _ _ b3 hh3 (.inl ⟨_, rfl⟩)
        unfold BM.Ln.step
        rw [hst]
    | compare pos price done =>
      walk_at "go"
      refine r_ixT hq (j := 0) rfl rfl ?_
      walk_at "go"
      refine iteNo (by decide) ?_
      walk_at "go"
      refine r_ixT hq (j := 0) rfl rfl ?_
      walk_at "go"
      refine iteNo (by decide) ?_
      walk_at "go"
      refine r_ixT hq (j := 1) rfl rfl ?_
      walk_at "go"
      refine r_dg hh.d rfl ?_
      walk_at "go"
      refine r_lenL hh.f.h2 ?_
      walk_at "go"
      rw [vN_len]
      refine iteD (fun h => ?_) (fun h => ?_)
      · walk_at "go"
        refine r_new (by simp) fun p2 H2 e2 hp2 h2 => ?_
        exact kN (if_pos (by omega)) p2 H2 _ e2 hp2 h2
      · have hst : pos + 2 ≤ L.st.length := by omega
        have step : L.step (.compare pos price done) = some { L with
          rs := L.rs ++ [(L.gn.length + pos + 1, price)]
          lo := if done then L.lo else L.lo ++ [L.rs.length]
          st := if done && BM.urg L.ws (L.st.getD (pos + 1) 0) (L.st.getD pos 0) then BM.swapAt L.st pos (pos + 1) 0 else L.st } := if_neg (by omega)
        walk_at "go"
        refine r_dg hh.d rfl ?_
        obtain ⟨us, u1, u2⟩ := hh.f.h4
        refine r_tyL u1 ?_
        walk_at "go"
        refine r_dg hh.d rfl ?_
        walk_at "go"
        refine r_lenL hh.f.h3 ?_
        walk_at "go"
        refine r_ixT hq (j := 2) rfl rfl ?_
        walk_at "go"
        refine r_new (by simp) fun t H1 e1 ht h1 => ?_
        walk_at "go"
        refine r_app (e1 _ _ u1) (by rw [u2.length]; omega) ?_
        rw [vN_len, show (L.gn.length : Int) + (pos : Int) + 1 = ((L.gn.length + pos + 1 : Nat) : Int) by omega] at h1
        have hh1 := (hh.same e1).up4 (us := us ++ [.ref t]) (w := L.rs ++ [(L.gn.length + pos + 1, price)]) (pair_app (u2.mono e1) (.cons ⟨t, rfl, h1⟩ .nil))
        have b1 : But a.all H (upd H1 a.a4 (.lst (us ++ [.ref t]))) := but_upd (But.same e1 _) (by simp)
        have hq1 : upd H1 a.a4 (.lst (us ++ [.ref t])) q = some (.tup (vD (.compare pos price done))) := (upd_ne (ne_kind (e1 _ _ hq) (e1 _ _ u1) (by intro z; cases z))).trans (e1 _ _ hq)
        generalize upd H1 a.a4 (.lst (us ++ [.ref t])) = H2 at *
        walk_at "go"
        refine r_ixT hq1 (j := 3) rfl rfl ?_
        walk_at "go"
        cases done with
        | false =>
          walk_at "go"
          refine r_dg hh1.d rfl ?_
          refine r_tyL hh1.f.h5 ?_
          walk_at "go"
          refine r_dg hh1.d rfl ?_
          walk_at "go"
          obtain ⟨us', v1, v2⟩ := hh1.f.h4
          refine r_lenL v1 ?_
          walk_at "go"
          have hul : us'.length = L.rs.length + 1 := by rw [v2.length]; simp
          rw [show (us'.length : Int) - 1 = (L.rs.length : Int) by omega]
          refine r_app hh1.f.h5 (by rw [vN_len]; simp only []; omega) ?_
          rw [← vN_app]
          have hh2 := hh1.up5 (w := L.lo ++ [L.rs.length])
          have b2 : But a.all H (upd H2 a.a5 (.lst (vN (L.lo ++ [L.rs.length])))) := but_upd b1 (by simp)
          walk_at "go"
          exact kS _ step _ _ b2 hh2 (.inr ⟨_, rfl⟩)
        | true =>
          have i1 : L.st.getD pos 0 < L.ws.length := sm.ok.memst (by rw [BM.getD_lt 0 (by omega)]; exact List.getElem_mem _)
          have i2 : L.st.getD (pos + 1) 0 < L.ws.length := sm.ok.memst (by rw [BM.getD_lt 0 (by omega)]; exact List.getElem_mem _)
          have i3 : L.st.getD pos 0 ≠ L.st.getD (pos + 1) 0 := by
            rw [BM.getD_lt 0 (by omega), BM.getD_lt 0 (by omega)]
            exact List.pairwise_iff_getElem.mp sm.ok.ndst pos (pos + 1) (by omega) (by omega) (by omega)
          walk_at "go"
          refine r_ixL hh1.f.h2 rfl (vN_at (by simp only []; omega)) ?_
          walk_at "go"
          refine r_ixL hh1.f.h2 (j := pos + 1) (by omega) (vN_at (by simp only []; omega)) ?_
          walk_at "go"
          simp only [Bool.true_and] at step
          generalize g1 : L.st.getD pos 0 = one at *
          generalize g2 : L.st.getD (pos + 1) 0 = other at *
          refine r_dg hh1.d rfl ?_
          walk_at "go"
          refine r_ixL hh1.f.h1 rfl (vI_at (by simp only []; omega)) ?_
          walk_at "go"
          refine r_new (by simp) fun t1 H3 e3 ht1 h3 => ?_
          walk_at "go"
          refine r_dg (e3 _ _ hh1.d) rfl ?_
          walk_at "go"
          refine r_ixL (e3 _ _ hh1.f.h1) rfl (vI_at (by simp only []; omega)) ?_
          walk_at "go"
          refine r_new (by simp) fun t2 H4 e4 ht2 h4 => ?_
          refine r_ltT (e4 _ _ h3) h4 ?_
          walk_at "go"
          have e24 := same_trans e3 e4
          have hh2 := hh1.same e24
          have b2 : But a.all H H4 := b1.trans (But.same e24 _)
          refine iteD (fun h => ?_) (fun h => ?_)
          · have hu : BM.urg L.ws other one = false := by
              unfold BM.urg
              rw [decide_eq_false]
              simp only [] at h
              omega
            rw [hu] at step
            walk_at "go"
            exact kS _ step _ _ b2 hh2 (.inr ⟨_, rfl⟩)
          · have hu : BM.urg L.ws other one = true := by
              unfold BM.urg
              rw [decide_eq_true]
              simp only [] at h
              omega
            rw [hu] at step
            walk_at "go"
            refine r_new (by simp) fun t3 H5 e5 ht3 h5 => ?_
            walk_at "go"
            refine r_gtup h5 rfl ?_
            walk_at "go"
            refine r_set (j := pos) (e5 _ _ hh2.f.h2) rfl (by rw [vN_len]; simp only []; omega) ?_
            walk_at "go"
            refine r_set (j := pos + 1) upd_same (by omega) (by rw [List.length_set, vN_len]; simp only []; omega) ?_
            walk_at "go"
            have sw : ((vN L.st).set pos (.int (other : Int))).set (pos + 1) (.int (one : Int)) = vN (BM.swapAt L.st pos (pos + 1) 0) := by
              unfold BM.swapAt
              rw [g1, g2, vN_set, vN_set]
            rw [upd_upd, sw]
            have hh3 := (hh2.same e5).up2 (w := BM.swapAt L.st pos (pos + 1) 0)
            exact kS _ step _ _ (but_upd (b2.trans (But.same e5 _)) (by simp)) hh3 (.inr ⟨_, rfl⟩)
end
end BW
namespace BW
open PySem PySem.Spec PyProof.Rows L2
section
variable {P : Program} {w : World} {K : PySem.W.Frag} {mg : Str → Option Value} {base : Heap}

theorem same_add {B H : Hp} {p : Addr} {o : HO} (e : Same B H) (h : H p = some o) : Same (upd B p o) H := fun c o' q => by
  have q : upd B p o c = some o' := q
  by_cases e1 : c = p
  · subst e1
    rw [upd_same] at q
    rw [← q]
    exact h
  · rw [upd_ne e1] at q
    exact e _ _ q
theorem tabO_len (n m : Nat) (f : Nat → Nat → Option Int) : (tabO n m f).length = n := by simp [tabO]
theorem tabO_get {n m : Nat} {f : Nat → Nat → Option Int} {j : Nat} (h : j < n) : (tabO n m f)[j]? = some ((List.range m).map (f j)) := by
  unfold tabO
  exact range_map_at _ h
theorem tabO_after {n m : Nat} {prev : BM.Row} {c : Nat × Int} (h : c.1 < n) : tabO n m (BM.after prev c) = (tabO n m prev).take c.1 ++ [(List.range m).map (BM.entry prev c.1 c.2)] ++ (tabO n m prev).drop (c.1 + 1) := by
  apply List.ext_getElem?
  intro j
  by_cases hj : j < n
  · rw [tabO_get hj]
    have hl : ((tabO n m prev).take c.1).length = c.1 := by rw [List.length_take, tabO_len]; omega
    by_cases h1 : j < c.1
    · rw [List.append_assoc, List.getElem?_append_left (by omega), List.getElem?_take_of_lt h1, tabO_get hj]
      have : BM.after prev c j = prev j := by
        funext r
        exact if_neg (by omega)
      rw [this]
    · by_cases h2 : j = c.1
      · subst h2
        rw [List.append_assoc, List.getElem?_append_right (by omega), hl, Nat.sub_self]
        have : BM.after prev c c.1 = BM.entry prev c.1 c.2 := by
          funext r
          exact if_pos rfl
        rw [this]
        rfl
      · rw [List.getElem?_append_right (by simp; omega), List.length_append, hl, List.getElem?_drop]
        have : BM.after prev c j = prev j := by
          funext r
          exact if_neg h2
        rw [this, show c.1 + 1 + (j - (c.1 + [(List.range m).map (BM.entry prev c.1 c.2)].length)) = j by simp; omega, tabO_get hj]
  · rw [List.getElem?_eq_none (by rw [tabO_len]; omega), List.getElem?_eq_none (by simp [tabO_len]; omega)]
/-- walk_prices(places, comparisons, k, steps) -/
def spWalk : Sp := fun vs H Q _ => ∃ (a : Addr) (us : List V) (cs : List (Nat × Int)) (n k m : Nat), vs = [.int (n : Int), .ref a, .int (k : Int), .int (m : Int)] ∧ H a = some (.lst us) ∧ Rows H us cs ∧ cs.length ≤ 1000 ∧ n ≤ 12 ∧ m ≤ 12 ∧ (∀ c ∈ cs, 1 ≤ c.1 ∧ c.1 + 1 ≤ n) ∧
  ∀ p ys H', Same H H' → H p = none → H' p = some (.lst ys) → Paired (fun u i => Tb vO H' u (tabO (n + 1) (m + 1) (BM.walk k (cs.take i)))) ys (List.range (cs.length + 1)) → Q (.ref p) H'
theorem sc_walk_prices : FnScope ["places", "comparisons", "k", "steps", "found", "gate", "price", "last"] ["places", "comparisons", "k", "steps"] (defScope s_walk_prices) := ⟨rfl, rfl, rfl, by decide +kernel, rfl, by decide +kernel, by decide +kernel⟩
theorem ok_walk_prices (T : Tx K mg) : Def P w K mg base CX0 3 (He.ga K "walk_prices") ["places", "comparisons", "k", "steps"] spWalk := by
  have G_first_prices := ok_first_prices (P := P) (w := w) (base := base) T
  have G_column_after := ok_column_after (P := P) (w := w) (base := base) T
  refine mk0 T.f_walk_prices sc_walk_prices (fun _ _ _ _ _ _ us hl => match us, hl with | [_, _, _, _], _ => rfl) (fun vs H Q E h => ?_) (fun cdv A outer s H vs Q E hr h => ?_)
  · obtain ⟨a, us, cs, n, k, m, rfl, _⟩ := h
    rfl
  · obtain ⟨a, us, cs, n, k, m, rfl, ha, hc, hcl, hn, hm, hg, kk⟩ := h
    refine ⟨_, (pss_cons (ps_set (i := 4) sc_walk_prices.nd rfl (Or.inl rfl) (pe_lst (pa_cons (pe_cl G_first_prices (hr.mono (by decide)) T.g_first_prices pass0 (pa_cons (pv 0) (pa_cons (pv 2) (pa_cons (pv 3) pa_nil)))) pa_nil)))
    (pss_cons (ps_for PassesOwn.never rfl (pi_listK rfl (pv 1)) (pg_tupK (n := 2) rfl rfl (pgs_cons (pg_name (i := 5) sc_walk_prices.nd rfl (Or.inl rfl)) (pgs_cons (pg_name (i := 6) sc_walk_prices.nd rfl (Or.inl rfl)) pgs_nil)))
    (pss_cons (ps_set (i := 7) sc_walk_prices.nd rfl (Or.inl rfl) (pe_ix (ix_listK rfl) (pv 4) (pe_un un_neg pe_int) (fun _ _ => rfl)))
    (pss_one (ps_expr (pe_bmK rfl PySem.F.plainAttrs_list PySem.F.slot_list_append PySem.F.type_list_append mt_append (pv 4) (pa_cons (pe_op op_cat (pe_op op_cat (pe_slice (sl_listK rfl) (pv 7) po_none (po_some (pv 5))) (pe_lst (pa_cons (pe_cl G_column_after (hr.mono (by decide)) T.g_column_after pass0 (pa_cons (pv 7) (pa_cons (pv 5) (pa_cons (pv 6) pa_nil)))) pa_nil))) (pe_slice (sl_listK rfl) (pv 7) (po_some (pe_op op_add (pv 5) pe_int)) po_none)) pa_nil))))))
    (pss_one (ps_ret (pv 4))))), ?_⟩
    walk_at "go"
    refine ⟨n, k, m, rfl, by omega, by omega, fun p1 ys1 H1 e1 hp1 h1 hys1 => ?_⟩
    walk_at "go"
    refine r_new (by simp) fun f H2 e2 hf hf2 => ?_
    walk_at "go"
    have hf0 := none_below e1 hf
    refine r_li (e2 _ _ (e1 _ _ ha)) ?_
    refine for_it (walk_list (xs := us)) (fun t σ H5 => (∃ o5 o6 o7 : Option V, σ = [some (.int (n : Int)), some (.ref a), some (.int (k : Int)), some (.int (m : Int)), some (.ref f), o5, o6, o7]) ∧
      Kn H f (fun B ys => Paired (fun u i => Tb vO B u (tabO (n + 1) (m + 1) (BM.walk k (cs.take i)))) ys (List.range (t + 1))) H5) ⟨⟨_, _, _, rfl⟩, H1, _, e1, e2, hf, hf2, .cons ⟨ys1, ⟨p1, rfl, h1⟩, hys1⟩ .nil⟩ (fun t σ H5 _ z => ?_) (fun t v σ H5 H6 ht z y => ?_) (fun σ H5 z => ?_)
    · obtain ⟨_, B, ys, z1, z2, _⟩ := z
      exact sl_of (z2 _ _ (z1 _ _ ha))
    · obtain ⟨⟨o5, o6, o7, rfl⟩, B, ys, z1, z2, z3, z4, z5⟩ := z
      obtain ⟨rfl, y⟩ := y
      obtain ⟨c, hct, q, rfl, hq⟩ := pair_atL hc y
      obtain ⟨g1, g2⟩ := hg c (List.mem_of_getElem? hct)
      refine r_gtup (z2 _ _ (z1 _ _ hq)) rfl ?_
      have hyl : ys.length = t + 1 := by rw [z5.length, List.length_range]
      obtain ⟨ys0, u, rfl, hy0⟩ := snoc_of hyl
      have z6 := z5
      rw [List.range_succ] at z6
      obtain ⟨cols, ⟨tb, rfl, htb⟩, hcols⟩ := (pair_snoc z6).2
      have hcolen : cols.length = n + 1 := by rw [hcols.length, tabO_len]
      walk_at "go"
      refine r_ixLast z4 ?_
      walk_at "go"
      refine r_tyL z4 ?_
      walk_at "go"
      refine r_slTo (z2 _ _ htb) rfl (by omega) fun s1 H7 e7 hs1 h7 => ?_
      walk_at "go"
      have zB7 : Same B H7 := same_trans z2 e7
      refine ⟨tb, cols, n, m + 1, c.1, c.2, BM.walk k (cs.take t), rfl, zB7 _ _ htb, pair_mono hcols fun u row l => l.mono zB7, g1, g2, by omega, fun col H8 e8 hcol h8 => ?_⟩
      walk_at "go"
      refine r_new (by simp) fun s2 H9 e9 hs2 h9 => ?_
      walk_at "go"
      refine r_cat (e9 _ _ (e8 _ _ h7)) h9 (by simp; omega) fun s3 H10 e10 hs3 h10 => ?_
      walk_at "go"
      have zB10 : Same B H10 := same_trans zB7 (same_trans e8 (same_trans e9 e10))
      refine r_slFrom (i := c.1 + 1) (zB10 _ _ htb) (by omega) (by omega) fun s4 H11 e11 hs4 h11 => ?_
      walk_at "go"
      refine r_cat (e11 _ _ h10) h11 (by simp; omega) fun s5 H12 e12 hs5 h12 => ?_
      walk_at "go"
      have zB12 : Same B H12 := same_trans zB10 (same_trans e11 e12)
      have z12 : Same H6 H12 := same_trans e7 (same_trans e8 (same_trans e9 (same_trans e10 (same_trans e11 e12))))
      refine r_app (z12 _ _ z4) (by rw [hyl]; have := (List.getElem?_eq_some_iff.mp hct).1; omega) ?_
      refine ⟨⟨_, _, _, rfl⟩, ?_⟩
      have bcol : B col = none := none_below zB7 hcol
      have bs5 : B s5 = none := none_below (same_trans zB10 e11) hs5
      have hcolv : H12 col = some (.lst (vO ((List.range (m + 1)).map (BM.entry (BM.walk k (cs.take t)) c.1 c.2)))) := e12 _ _ (e11 _ _ (e10 _ _ (e9 _ _ h8)))
      have s5col : s5 ≠ col := fun e => by
        rw [e, e11 _ _ (e10 _ _ (e9 _ _ h8))] at hs5
        cases hs5
      have colf : col ≠ f := fun e => by
        rw [e, e7 _ _ z4] at hcol
        cases hcol
      have s5f : s5 ≠ f := fun e => by
        rw [e, e11 _ _ (e10 _ _ (e9 _ _ (e8 _ _ (e7 _ _ z4))))] at hs5
        cases hs5
      have b1 : Same B (upd B col (.lst (vO ((List.range (m + 1)).map (BM.entry (BM.walk k (cs.take t)) c.1 c.2))))) := same_new bcol
      have b2 := same_trans b1 (same_new (H := upd B col (.lst (vO ((List.range (m + 1)).map (BM.entry (BM.walk k (cs.take t)) c.1 c.2))))) (p := s5) (o := .lst (cols.take c.1 ++ [.ref col] ++ cols.drop (c.1 + 1))) ((upd_ne s5col).trans bs5))
      refine kn_appV (same_trans z1 b2) (same_add (same_add zB12 hcolv) h12) ((upd_ne (Ne.symm s5f)).trans ((upd_ne (Ne.symm colf)).trans z3)) ?_
      rw [show List.range (t + 1 + 1) = List.range (t + 1) ++ [t + 1] from List.range_succ]
      refine pair_app (pair_mono z5 fun u i l => l.mono b2) (.cons ⟨_, ⟨s5, rfl, upd_same⟩, ?_⟩ .nil)
      rw [BM.take_snoc hct, BM.walk_snoc, tabO_after (by omega)]
      refine pair_app (pair_app (pair_take _ (pair_mono hcols fun u row l => l.mono b2)) (.cons ⟨col, rfl, ?_⟩ .nil)) (pair_drop _ (pair_mono hcols fun u row l => l.mono b2))
      exact (upd_ne (Ne.symm s5col)).trans upd_same
    · obtain ⟨⟨o5, o6, o7, rfl⟩, B, ys, z1, z2, z3, z4, z5⟩ := z
      walk_at "go"
      rw [hc.length] at z5
      exact kk f ys _ (same_trans z1 z2) hf0 z4 (pair_mono z5 fun u i l => l.mono z2)
end
end BW
namespace BW
open PySem PySem.Spec PyProof.Rows L2
section
variable {P : Program} {w : World} {K : PySem.W.Frag} {mg : Str → Option Value} {base : Heap}

theorem kit_is : PySem.W.kitOne K (.type "int") (.type "tuple") = some false := kit_ty (by decide +kernel)
theorem kit_bt : PySem.W.kitOne K (.type "bool") (.type "tuple") = some false := kit_ty (by decide +kernel)
theorem kit_tt' : PySem.W.kitOne K (.type "tuple") (.type "tuple") = some true := kit_ty (by decide +kernel)
theorem kit_nt : PySem.W.kitOne K (.type "NoneType") (.type "tuple") = some false := kit_ty (by decide +kernel)
theorem kit_ii' : PySem.W.kitOne K (.type "int") (.type "int") = some true := kit_ty (by decide +kernel)
theorem kit_ib' : PySem.W.kitOne K (.type "int") (.type "bool") = some false := kit_ty (by decide +kernel)
theorem kit_bb : PySem.W.kitOne K (.type "bool") (.type "bool") = some true := kit_ty (by decide +kernel)
theorem kit_ss : PySem.W.kitOne K (.type "str") (.type "str") = some true := kit_ty (by decide +kernel)
/-- _law_is_whole(thing, least): asked of ints that are -/
def spWhole : Sp := fun vs H Q _ => ∃ i l : Int, vs = [.int i, .int l] ∧ l ≤ i ∧ Q (.bl true) H
theorem sc_law_is_whole : FnScope ["_law_thing", "_law_least"] ["_law_thing", "_law_least"] (defScope s_law_is_whole) := ⟨rfl, rfl, rfl, by decide +kernel, rfl, by decide +kernel, by decide +kernel⟩
theorem ok_law_is_whole (T : Tx K mg) : Def P w K mg base CX0 1 (He.ga K "_law_is_whole") ["_law_thing", "_law_least"] spWhole := by
  refine mk0 T.f_law_is_whole sc_law_is_whole (fun _ _ _ _ _ _ us hl => match us, hl with | [_, _], _ => rfl) (fun vs H Q E h => ?_) (fun cdv A outer s H vs Q E hr h => ?_)
  · obtain ⟨i, l, rfl, _⟩ := h
    rfl
  · obtain ⟨i, l, rfl, hl, k⟩ := h
    refine ⟨_, (pss_one (ps_ret (pe_and (pe_callB (call_isiK rfl) (by rfl) T.n_isinstance (by decide +kernel) (pa_cons (pv 0) (pa_cons (pe_ty T.n_int (by decide +kernel) (n := "int")) pa_nil))) (pe_and (pe_not (pe_callB (call_isiK rfl) (by rfl) T.n_isinstance (by decide +kernel) (pa_cons (pv 0) (pa_cons (pe_ty T.n_bool (by decide +kernel) (n := "bool")) pa_nil)))) (pe_one (pe_cmpR op_ge (pv 0) (pv 1) (nomark _))))))), ?_⟩
    walk_at "go"
    refine r_isi (.ty _) (.base (.int i)) kit_ii' ?_
    walk_at "go"
    refine r_isi (.ty _) (.base (.int i)) kit_ib' ?_
    walk_at "go"
    rw [decide_eq_true hl]
    exact k
/-- _law_is_deed(thing) -/
def spIsDeed : Sp := fun vs H Q _ => ∃ v, vs = [v] ∧ ((∃ dd : BM.Deed, DeedAt H v dd ∧ dd.ok ∧ Q (.bl true) H) ∨ (v = .non ∧ Q (.bl false) H))
theorem sc_law_is_deed : FnScope ["_law_thing"] ["_law_thing"] (defScope s_law_is_deed) := ⟨rfl, rfl, rfl, by decide +kernel, rfl, by decide +kernel, by decide +kernel⟩
theorem ok_law_is_deed (T : Tx K mg) : Def P w K mg base CX0 2 (He.ga K "_law_is_deed") ["_law_thing"] spIsDeed := by
  have G_law_is_whole := ok_law_is_whole (P := P) (w := w) (base := base) T
  refine mk0 T.f_law_is_deed sc_law_is_deed (fun _ _ _ _ _ _ us hl => match us, hl with | [_], _ => rfl) (fun vs H Q E h => ?_) (fun cdv A outer s H vs Q E hr h => ?_)
  · obtain ⟨v, rfl, _⟩ := h
    rfl
  · obtain ⟨v, rfl, h⟩ := h
    refine ⟨_, (pss_cons (ps_if (PW.pt (pw_or (pt_not (pt_val (pe_callB (call_isiK rfl) (by rfl) T.n_isinstance (by decide +kernel) (pa_cons (pv 0) (pa_cons (pe_ty T.n_tuple (by decide +kernel) (n := "tuple")) pa_nil))))) (pw_or (pt_cmpR op_eq (pe_callB (call_lenK rfl) (by rfl) T.n_len PySem.boot_len (pa_cons (pv 0) pa_nil)) pe_int (nomark _)) (pw_or1 (pt_not (pt_val (pe_callB (call_isiK rfl) (by rfl) T.n_isinstance (by decide +kernel) (pa_cons (pe_ix (ix_tupK rfl) (pv 0) pe_int (fun _ _ => rfl)) (pa_cons (pe_ty T.n_str (by decide +kernel) (n := "str")) pa_nil)))))))))
    (pss_one (ps_ret pe_bl)) pss_nil)
    (pss_cons (ps_if (pt_cmpR op_eq (pe_ix (ix_tupK rfl) (pv 0) pe_int (fun _ _ => rfl)) pe_str (nomark _))
    (pss_one (ps_ret (pe_and (pe_cmpR op_eq (pe_callB (call_lenK rfl) (by rfl) T.n_len PySem.boot_len (pa_cons (pv 0) pa_nil)) pe_int (nomark _)) (pe_and (pe_callB (call_isiK rfl) (by rfl) T.n_isinstance (by decide +kernel) (pa_cons (pe_ix (ix_tupK rfl) (pv 0) pe_int (fun _ _ => rfl)) (pa_cons (pe_ty T.n_int (by decide +kernel) (n := "int")) pa_nil))) (pe_one (pe_not (pe_callB (call_isiK rfl) (by rfl) T.n_isinstance (by decide +kernel) (pa_cons (pe_ix (ix_tupK rfl) (pv 0) pe_int (fun _ _ => rfl)) (pa_cons (pe_ty T.n_bool (by decide +kernel) (n := "bool")) pa_nil))))))))) pss_nil)
    (pss_cons (ps_if (pt_cmpR op_eq (pe_ix (ix_tupK rfl) (pv 0) pe_int (fun _ _ => rfl)) pe_str (nomark _))
    (pss_one (ps_ret (pe_cmpR op_eq (pe_callB (call_lenK rfl) (by rfl) T.n_len PySem.boot_len (pa_cons (pv 0) pa_nil)) pe_int (nomark _)))) pss_nil)
    (pss_cons (ps_if (PW.pt (pw_or (pt_cmpR op_ne (pe_ix (ix_tupK rfl) (pv 0) pe_int (fun _ _ => rfl)) pe_str (nomark _)) (pw_or (pt_cmpR op_ne (pe_callB (call_lenK rfl) (by rfl) T.n_len PySem.boot_len (pa_cons (pv 0) pa_nil)) pe_int (nomark _)) (pw_or1 (pt_not (pt_val (pe_cl G_law_is_whole (hr.mono (by decide)) T.g_law_is_whole pass0 (pa_cons (pe_ix (ix_tupK rfl) (pv 0) pe_int (fun _ _ => rfl)) (pa_cons pe_int pa_nil)))))))))
    (pss_one (ps_ret pe_bl)) pss_nil)
    (pss_one (ps_ret (pe_and (pe_cl G_law_is_whole (hr.mono (by decide)) T.g_law_is_whole pass0 (pa_cons (pe_ix (ix_tupK rfl) (pv 0) pe_int (fun _ _ => rfl)) (pa_cons pe_int pa_nil))) (pe_and (pe_cmpR op_le (pe_ix (ix_tupK rfl) (pv 0) pe_int (fun _ _ => rfl)) (pe_op op_pow pe_int pe_int) (nomark _)) (pe_one (pe_callB (call_isiK rfl) (by rfl) T.n_isinstance (by decide +kernel) (pa_cons (pe_ix (ix_tupK rfl) (pv 0) pe_int (fun _ _ => rfl)) (pa_cons (pe_ty T.n_bool (by decide +kernel) (n := "bool")) pa_nil)))))))))))), ?_⟩
    walk_at "go"
    rcases h with ⟨dd, ⟨q, rfl, hq⟩, ok, k⟩ | ⟨rfl, k⟩
    · refine r_isi (.ty _) (.base (.tup hq)) kit_tt' ?_
      walk_at "go"
      refine r_lenT hq ?_
      cases dd with
      | arrive p =>
        walk_at "go"
        refine iteNo (by simp [vD]) ?_
        walk_at "go"
        refine r_ixT hq (j := 0) rfl rfl ?_
        walk_at "go"
        refine r_isi (.ty _) (.base (.str _)) kit_ss ?_
        walk_at "go"
        refine r_ixT hq (j := 0) rfl rfl ?_
        walk_at "go"
        refine iteYes rfl ?_
        walk_at "go"
        refine r_lenT hq ?_
        walk_at "go"
        refine iteYes rfl ?_
        walk_at "go"
        refine r_ixT hq (j := 1) rfl rfl ?_
        walk_at "go"
        refine r_isi (.ty _) (.base (.int p)) kit_ii' ?_
        walk_at "go"
        refine r_ixT hq (j := 1) rfl rfl ?_
        walk_at "go"
        refine r_isi (.ty _) (.base (.int p)) kit_ib' ?_
        walk_at "go"
        exact k
      | serve =>
        walk_at "go"
        refine iteNo (by decide) ?_
        walk_at "go"
        refine r_ixT hq (j := 0) rfl rfl ?_
        walk_at "go"
        refine r_isi (.ty _) (.base (.str _)) kit_ss ?_
        walk_at "go"
        refine r_ixT hq (j := 0) rfl rfl ?_
        walk_at "go"
        refine iteNo (by decide) ?_
        walk_at "go"
        refine r_ixT hq (j := 0) rfl rfl ?_
        walk_at "go"
        refine iteYes rfl ?_
        walk_at "go"
        refine r_lenT hq ?_
        walk_at "go"
        exact k
      | compare pos price done =>
        walk_at "go"
        refine iteNo (by simp [vD]) ?_
        walk_at "go"
        refine r_ixT hq (j := 0) rfl rfl ?_
        walk_at "go"
        refine r_isi (.ty _) (.base (.str _)) kit_ss ?_
        walk_at "go"
        refine r_ixT hq (j := 0) rfl rfl ?_
        walk_at "go"
        refine iteNo (by decide) ?_
        walk_at "go"
        refine r_ixT hq (j := 0) rfl rfl ?_
        walk_at "go"
        refine iteNo (by decide) ?_
        walk_at "go"
        refine r_ixT hq (j := 0) rfl rfl ?_
        walk_at "go"
        refine iteNoN rfl ?_
        walk_at "go"
        refine r_lenT hq ?_
        walk_at "go"
        refine iteNoN rfl ?_
        walk_at "go"
        refine r_ixT hq (j := 1) rfl rfl ?_
        walk_at "go"
        refine ⟨pos, 0, rfl, by omega, ?_⟩
        walk_at "go"
        refine r_ixT hq (j := 2) rfl rfl ?_
        walk_at "go"
        refine ⟨price, 0, rfl, ok.1, ?_⟩
        walk_at "go"
        refine r_ixT hq (j := 2) rfl rfl ?_
        walk_at "go"
        refine r_I ⟨by decide, by decide, by decide⟩ ?_
        walk_at "go"
        refine iteYes (by have := ok.2; exact this) ?_
        walk_at "go"
        refine r_ixT hq (j := 3) rfl rfl ?_
        walk_at "go"
        refine r_isi (.ty _) (.base (.bl done)) kit_bb ?_
        exact k
    · refine r_isi (.ty _) (.base .non) kit_nt ?_
      walk_at "go"
      exact k
theorem asc_len : ∀ {l : List Nat} {m : Nat}, l.Pairwise (· < ·) → (∀ a ∈ l, a < m) → l.length ≤ m
  | [], _, _, _ => Nat.zero_le _
  | a :: l, m, h, hm => by
    obtain ⟨h1, h2⟩ := List.pairwise_cons.mp h
    have : ∀ {l : List Nat} {b m : Nat}, l.Pairwise (· < ·) → (∀ x ∈ l, b < x) → (∀ x ∈ l, x < m) → b < m → l.length + b + 1 ≤ m := by
      intro l
      induction l with
      | nil => intro b m _ _ _ h; simp; omega
      | cons c l ih =>
        intro b m h hb hm hbm
        obtain ⟨h1, h2⟩ := List.pairwise_cons.mp h
        have := ih (b := c) (m := m) h2 h1 (fun x hx => hm x (by simp [hx])) (hm c (by simp))
        have := hb c (by simp)
        simp
        omega
    have := this (b := a) h2 h1 (fun x hx => hm x (by simp [hx])) (hm a (by simp))
    simp
    omega
theorem small_of {l : List BM.Deed} {L : BM.Ln} (hd : ∀ d ∈ l, d.ok) (e : BM.replay l = some L) (hl : l.length ≤ 400) : LnSmall L := by
  obtain ⟨h1, h2⟩ := BM.replay_ok hd e
  refine ⟨h1, by omega, ?_⟩
  have := asc_len h1.los h1.lob
  omega
theorem replay_take {l : List BM.Deed} {t : Nat} {dd : BM.Deed} (h : l[t]? = some dd) : BM.replay (l.take (t + 1)) = (BM.replay (l.take t)).bind fun L => L.step dd := by
  rw [BM.take_snoc h]
  exact BM.runL_snoc _ _ _
theorem replay_none {l : List BM.Deed} {t : Nat} (h : BM.replay (l.take t) = none) : BM.replay l = none := by
  have e : l = l.take t ++ l.drop t := (List.take_append_drop t l).symm
  rw [e]
  show BM.runL .zero (l.take t ++ l.drop t) = none
  rw [BM.runL_append]
  show (BM.replay (l.take t)).bind _ = none
  rw [h]
  rfl
/-- _law_replay(log) -/
def spReplay : Sp := fun vs H Q _ => ∃ (g : Addr) (us : List V), vs = [.ref g] ∧ H g = some (.lst us) ∧
  ((∃ ds, Deeds H us ds ∧ (∀ d ∈ ds, d.ok) ∧ ds.length ≤ 400 ∧ (BM.replay ds = none → ∀ i H', Same H H' → Q (.int i) H') ∧
    (∀ L, BM.replay ds = some L → ∀ d a H', Same H H' → H d = none → (∀ x ∈ a.all, H x = none) → HereAt H' d a L → Q (.ref d) H')) ∨
  (us = [.non] ∧ ∀ i H', Same H H' → Q (.int i) H'))
theorem sc_law_replay : FnScope ["_law_log", "_law_here", "_law_at", "_law_deed_here"] ["_law_log"] (defScope s_law_replay) := ⟨rfl, rfl, rfl, by decide +kernel, rfl, by decide +kernel, by decide +kernel⟩
theorem ok_law_replay (T : Tx K mg) : Def P w K mg base CX0 3 (He.ga K "_law_replay") ["_law_log"] spReplay := by
  have G_law_is_deed := ok_law_is_deed (P := P) (w := w) (base := base) T
  have G_law_do := ok_law_do (P := P) (w := w) (base := base) T
  have G_law_new := ok_law_new (P := P) (w := w) (base := base) T
  refine mk0 T.f_law_replay sc_law_replay (fun _ _ _ _ _ _ us hl => match us, hl with | [_], _ => rfl) (fun vs H Q E h => ?_) (fun cdv A outer s H vs Q E hr h => ?_)
  · obtain ⟨g, us, rfl, _⟩ := h
    rfl
  · obtain ⟨g, us, rfl, hg, h⟩ := h
    refine ⟨_, (pss_cons (ps_set (i := 1) sc_law_replay.nd rfl (Or.inl rfl) (pe_cl0 G_law_new (hr.mono (by decide)) T.g_law_new pass0))
    (pss_cons (ps_for PassesOwn.never rfl (pi_enumK rfl (by rfl) T.n_enumerate (pa_cons (pv 0) pa_nil)) (pg_tupK (n := 2) rfl rfl (pgs_cons (pg_name (i := 2) sc_law_replay.nd rfl (Or.inl rfl)) (pgs_cons (pg_name (i := 3) sc_law_replay.nd rfl (Or.inl rfl)) pgs_nil)))
    (pss_one (ps_if (PW.pt (pw_or (pt_not (pt_val (pe_cl G_law_is_deed (hr.mono (by decide)) T.g_law_is_deed pass0 (pa_cons (pv 3) pa_nil)))) (pw_or1 (pt_val (pe_callB (call_isiK rfl) (by rfl) T.n_isinstance (by decide +kernel) (pa_cons (pe_cl G_law_do (hr.mono (by decide)) T.g_law_do pass0 (pa_cons (pv 1) (pa_cons (pv 3) pa_nil))) (pa_cons (pe_ty T.n_tuple (by decide +kernel) (n := "tuple")) pa_nil)))))))
    (pss_one (ps_ret (pv 2))) pss_nil)))
    (pss_one (ps_ret (pv 1))))), ?_⟩
    walk_at "go"
    refine ⟨rfl, fun d a H1 e1 hd0 ha0 hda hh => ?_⟩
    walk_at "go"
    refine r_en (e1 _ _ hg) ?_
    rcases h with ⟨ds, hds, ok, hl, kN, kS⟩ | ⟨rfl, kN⟩
    · refine for_it (walk_enum (xs := us)) (fun t σ H5 => (∃ o2 o3 : Option V, σ = [some (.ref g), some (.ref d), o2, o3]) ∧ Same H H5 ∧ ∃ L, BM.replay (ds.take t) = some L ∧ HereAt H5 d a L) ⟨⟨_, _, rfl⟩, e1, _, rfl, hh⟩ (fun t σ H5 _ z => sl_of (z.2.1 _ _ hg)) (fun t v σ H5 H6 ht z y => ?_) (fun σ H5 z => ?_)
      · obtain ⟨⟨o2, o3, rfl⟩, z2, L, z3, z4⟩ := z
        obtain ⟨T', y1, rfl, hT, e8, h8, hy⟩ := en_of y
        obtain ⟨dd, hd1, hd2⟩ := pair_atL hds hy
        have hok := ok dd (List.mem_of_getElem? hd1)
        have sm : LnSmall L := small_of (l := ds.take t) (fun x hx => ok x (List.mem_of_mem_take hx)) z3 (by rw [List.length_take]; omega)
        have z5 := hd2.mono (same_trans z2 e8)
        have rt := replay_take hd1
        rw [z3] at rt
        have rt : BM.replay (ds.take (t + 1)) = L.step dd := rt
        refine r_gtup h8 rfl ?_
        walk_at "go"
        refine ⟨y1, rfl, .inl ⟨dd, z5, hok, ?_⟩⟩
        walk_at "go"
        refine ⟨d, a, L, y1, dd, rfl, z4.same e8, sm, z5, fun hs q H7 xs e7 hq h7 => ?_, fun L' hs r H7 b7 h7 hp => ?_⟩
        · walk_at "go"
          refine r_isi (.ty _) (.base (.tup h7)) kit_tt' ?_
          walk_at "go"
          exact kN (replay_none (t := t + 1) (rt.trans hs)) _ _ (same_trans z2 (same_trans e8 e7))
        · walk_at "go"
          have e7 : Same H H7 := fun c o e => b7 c o (e8 _ _ (z2 _ _ e)) fun hc => by
            rw [ha0 c hc] at e
            cases e
          have fin : (∃ o2 o3 : Option V, (([some (.ref g), some (.ref d), o2, o3] : L2.St).set 2 (some (.int (t : Int)))).set 3 (some y1) = [some (.ref g), some (.ref d), o2, o3]) ∧ Same H H7 ∧ ∃ L, BM.replay (ds.take (t + 1)) = some L ∧ HereAt H7 d a L := ⟨⟨_, _, rfl⟩, e7, L', rt.trans hs, h7⟩
          rcases hp with ⟨i, rfl⟩ | ⟨b, rfl⟩
          · refine r_isi (.ty _) (.base (.int i)) kit_is ?_
            walk_at "go"
            exact fin
          · refine r_isi (.ty _) (.base (.bl b)) kit_bt ?_
            walk_at "go"
            exact fin
      · obtain ⟨⟨o2, o3, rfl⟩, z2, L, z3, z4⟩ := z
        walk_at "go"
        rw [hds.length, List.take_length] at z3
        exact kS L z3 d a _ z2 hd0 ha0 z4
    · refine for_it (walk_enum (xs := [.non])) (fun t σ H5 => t = 0 ∧ (∃ o2 o3 : Option V, σ = [some (.ref g), some (.ref d), o2, o3]) ∧ Same H H5) ⟨rfl, ⟨_, _, rfl⟩, e1⟩ (fun t σ H5 _ z => sl_of (z.2.2 _ _ hg)) (fun t v σ H5 H6 ht z y => ?_) (fun σ H5 z => ?_)
      · obtain ⟨rfl, ⟨o2, o3, rfl⟩, z2⟩ := z
        obtain ⟨T', y1, rfl, hT, e8, h8, hy⟩ := en_of y
        obtain rfl : V.non = y1 := Option.some.inj hy
        refine r_gtup h8 rfl ?_
        walk_at "go"
        refine ⟨.non, rfl, .inr ⟨rfl, ?_⟩⟩
        walk_at "go"
        exact kN _ _ (same_trans z2 e8)
      · exact absurd z.1 (by simp)
end
end BW
namespace BW
open PySem PySem.Spec PyProof.Rows L2
section
variable {P : Program} {w : World} {K : PySem.W.Frag} {mg : Str → Option Value} {base : Heap}

/-- __init__ of an error that stores one thing -/
def spOex1 (C : Addr) (f : Str) : Sp := fun vs H Q _ => ∃ (a : Addr) (v : V), vs = [.ref a, v] ∧ H a = some (exo a C none) ∧ ∀ d, H d = none → d ≠ a → Q .non (upd (upd H d (exd d [(f, v)])) a (exo a C (some d)))
theorem sc_TooMany_init : FnScope ["self", "limit"] ["self", "limit"] (defScope s_TooMany_init) := ⟨rfl, rfl, rfl, by decide +kernel, rfl, by decide +kernel, by decide +kernel⟩
theorem ok_TooMany_init (T : Tx K mg) : Def P w K mg base CX0 1 (He.ma K (He.ga K "TooMany") "__init__") ["self", "limit"] (spOex1 (He.ga K "TooMany") "limit") := by
  refine mk0 T.f_TooMany_init sc_TooMany_init (fun _ _ _ _ _ _ us hl => match us, hl with | [_, _], _ => rfl) (fun vs H Q E h => ?_) (fun cdv A outer s H vs Q E hr h => ?_)
  · obtain ⟨a, v, rfl, _⟩ := h
    rfl
  · obtain ⟨a, v, rfl, ha, k⟩ := h
    refine ⟨_, (pss_cons (ps_expr (pe_leinit T.x.le T.g_LineError (pa_cons (pv 0) pa_nil)))
    (pss_one (ps_ost (pv 0) (pv 1)))), ?_⟩
    walk_at "go"
    refine ⟨a, _, [], rfl, by simp, T.x.tm.c, ha, ?_⟩
    walk_at "go"
    exact ⟨a, _, rfl, T.x.tm.c, T.x.fl, .inl ⟨ha, k⟩⟩
def spOex0 (C : Addr) : Sp := fun vs H Q _ => ∃ a : Addr, vs = [.ref a] ∧ H a = some (exo a C none) ∧ Q .non H
theorem sc_NoItems_init : FnScope ["self"] ["self"] (defScope s_NoItems_init) := ⟨rfl, rfl, rfl, by decide +kernel, rfl, by decide +kernel, by decide +kernel⟩
theorem ok_NoItems_init (T : Tx K mg) : Def P w K mg base CX0 1 (He.ma K (He.ga K "NoItems") "__init__") ["self"] (spOex0 (He.ga K "NoItems")) := by
  refine mk0 T.f_NoItems_init sc_NoItems_init (fun _ _ _ _ _ _ us hl => match us, hl with | [_], _ => rfl) (fun vs H Q E h => ?_) (fun cdv A outer s H vs Q E hr h => ?_)
  · obtain ⟨a, rfl, _⟩ := h
    rfl
  · obtain ⟨a, rfl, ha, k⟩ := h
    refine ⟨_, (pss_one (ps_expr (pe_leinit T.x.le T.g_LineError (pa_cons (pv 0) pa_nil)))), ?_⟩
    walk_at "go"
    refine ⟨a, _, [], rfl, by simp, T.x.ni.c, ha, ?_⟩
    exact k
/-- raise TooMany(..): what the raising leaves -/
theorem r_raise1 {C : Addr} {f : Str} {σ : L2.St} {H : Hp} {E : XK} {ta : TA} {v : V} (h : ta σ H fun vs H1 => vs = [v] ∧ H1 = H) (k : ∀ d H', Same H H' → E (.ref C) d H') (mono : ∀ (Q1 Q2 : List V → Hp → Prop), (∀ vs H1, Q1 vs H1 → Q2 vs H1) → ta σ H Q1 → ta σ H Q2) : tMkO C (spOex1 C f) [] ta σ H E := by
  refine mono _ _ (fun vs H1 q => ?_) h
  obtain ⟨rfl, rfl⟩ := q
  refine ⟨by simp, fun a na => ⟨a, v, rfl, upd_same, fun d hd hda => ⟨rfl, d, [(f, v)], upd_same, ?_, ?_, ?_⟩⟩⟩
  · rw [upd_ne hda, upd_same]
  · rwa [upd_ne hda] at hd
  · refine k _ _ fun c o e => ?_
    have c1 : c ≠ a := ne_of_none e na
    have c2 : c ≠ d := fun z => by
      rw [upd_ne hda] at hd
      rw [z, hd] at e
      cases e
    rw [upd_ne c2, del_ne c1, upd_ne c1, upd_ne c2, upd_ne c1]
    exact e
theorem r_raise0 {C : Addr} {σ : L2.St} {H : Hp} {E : XK} (k : E (.ref C) none H) : tMkN C (spOex0 C) σ H E := ⟨fun a na => ⟨a, rfl, upd_same, rfl, rfl⟩, k⟩
/-- self of a Line, made -/
def spLineInit (K : PySem.W.Frag) : Sp := fun vs H Q _ => ∃ (x dx : Addr), vs = [.ref x] ∧ H x = some (.ins (He.ga K "Line") dx []) ∧ ∀ a H', But [x] H H' → (∀ y ∈ a.all, H y = none) → LineAt K H' x a .zero → Q .non H'
theorem sc_Line_init : FnScope ["self"] ["self"] (defScope s_Line_init) := ⟨rfl, rfl, rfl, by decide +kernel, rfl, by decide +kernel, by decide +kernel⟩
theorem ok_Line_init (T : Tx K mg) : Def P w K mg base CX0 1 (He.ma K (He.ga K "Line") "__init__") ["self"] (spLineInit K) := by
  refine mk0 T.f_Line_init sc_Line_init (fun _ _ _ _ _ _ us hl => match us, hl with | [_], _ => rfl) (fun vs H Q E h => ?_) (fun cdv A outer s H vs Q E hr h => ?_)
  · obtain ⟨x, dx, rfl, _⟩ := h
    rfl
  · obtain ⟨x, dx, rfl, hx, k⟩ := h
    refine ⟨_, (pss_cons (ps_fldK rfl (pv 0) (pe_lst pa_nil) rfl)
    (pss_cons (ps_fldK rfl (pv 0) (pe_lst pa_nil) rfl)
    (pss_cons (ps_fldK rfl (pv 0) (pe_lst pa_nil) rfl)
    (pss_cons (ps_fldK rfl (pv 0) (pe_lst pa_nil) rfl)
    (pss_one (ps_fldK rfl (pv 0) (pe_lst pa_nil) rfl)))))), ?_⟩
    -- one field after another
    have step : ∀ (H0 : Hp) (fs : List (Str × V)) (f : Str), But [x] H H0 → H0 x = some (.ins (He.ga K "Line") dx fs) → ∀ p H1, Same H0 H1 → H0 p = none → H1 p = some (.lst []) →
        H p = none ∧ p ≠ x ∧ But [x] H (upd H1 x (.ins (He.ga K "Line") dx (putF f (.ref p) fs))) ∧ upd H1 x (.ins (He.ga K "Line") dx (putF f (.ref p) fs)) x = some (.ins (He.ga K "Line") dx (putF f (.ref p) fs)) ∧ upd H1 x (.ins (He.ga K "Line") dx (putF f (.ref p) fs)) p = some (.lst []) := by
      intro H0 fs f b0 h0 p H1 e1 hp h1
      have px : p ≠ x := fun e => by
        rw [e, h0] at hp
        cases hp
      exact ⟨b0.none hp (by simp [px]), px, but_upd (b0.trans (But.same e1 _)) (by simp), upd_same, (upd_ne px).trans h1⟩
    walk_at "go"
    refine r_new (by simp) fun a1 H1 e1 n1 h1 => ?_
    obtain ⟨m1, x1, b1, s1, l1⟩ := step H [] "worths" (but_refl _ _) hx a1 H1 e1 n1 h1
    walk_at "go"
    refine r_sf (e1 _ _ hx) T.c_Line T.a_Line_worths (by simp) ?_
    generalize hG1 : upd H1 x (.ins (He.ga K "Line") dx (putF "worths" (.ref a1) [])) = G1 at *
    walk_at "go"
    refine r_new (by simp) fun a2 H2 e2 n2 h2 => ?_
    obtain ⟨m2, x2, b2, s2, l2⟩ := step G1 _ "standing" b1 s1 a2 H2 e2 n2 h2
    have q12 : a1 ≠ a2 := ne_of_none l1 n2
    have k1 := (upd_ne (o := HO.ins (He.ga K "Line") dx (putF "standing" (.ref a2) (putF "worths" (.ref a1) []))) x1).trans (e2 _ _ l1)
    walk_at "go"
    refine r_sf (e2 _ _ s1) T.c_Line T.a_Line_standing (Nat.le_of_ble_eq_true rfl) ?_
    generalize hG2 : upd H2 x (.ins (He.ga K "Line") dx (putF "standing" (.ref a2) (putF "worths" (.ref a1) []))) = G2 at *
    walk_at "go"
    refine r_new (by simp) fun a3 H3 e3 n3 h3 => ?_
    obtain ⟨m3, x3, b3, s3, l3⟩ := step G2 _ "gone" b2 s2 a3 H3 e3 n3 h3
    have q13 : a1 ≠ a3 := ne_of_none k1 n3
    have q23 : a2 ≠ a3 := ne_of_none l2 n3
    have k1 := (upd_ne (o := HO.ins (He.ga K "Line") dx (putF "gone" (.ref a3) (putF "standing" (.ref a2) (putF "worths" (.ref a1) [])))) x1).trans (e3 _ _ k1)
    have k2 := (upd_ne (o := HO.ins (He.ga K "Line") dx (putF "gone" (.ref a3) (putF "standing" (.ref a2) (putF "worths" (.ref a1) [])))) x2).trans (e3 _ _ l2)
    walk_at "go"
    refine r_sf (e3 _ _ s2) T.c_Line T.a_Line_gone (Nat.le_of_ble_eq_true rfl) ?_
    generalize hG3 : upd H3 x (.ins (He.ga K "Line") dx (putF "gone" (.ref a3) (putF "standing" (.ref a2) (putF "worths" (.ref a1) [])))) = G3 at *
    walk_at "go"
    refine r_new (by simp) fun a4 H4 e4 n4 h4 => ?_
    obtain ⟨m4, x4, b4, s4, l4⟩ := step G3 _ "rows" b3 s3 a4 H4 e4 n4 h4
    have q14 : a1 ≠ a4 := ne_of_none k1 n4
    have q24 : a2 ≠ a4 := ne_of_none k2 n4
    have q34 : a3 ≠ a4 := ne_of_none l3 n4
    have k1 := (upd_ne (o := HO.ins (He.ga K "Line") dx (putF "rows" (.ref a4) (putF "gone" (.ref a3) (putF "standing" (.ref a2) (putF "worths" (.ref a1) []))))) x1).trans (e4 _ _ k1)
    have k2 := (upd_ne (o := HO.ins (He.ga K "Line") dx (putF "rows" (.ref a4) (putF "gone" (.ref a3) (putF "standing" (.ref a2) (putF "worths" (.ref a1) []))))) x2).trans (e4 _ _ k2)
    have k3 := (upd_ne (o := HO.ins (He.ga K "Line") dx (putF "rows" (.ref a4) (putF "gone" (.ref a3) (putF "standing" (.ref a2) (putF "worths" (.ref a1) []))))) x3).trans (e4 _ _ l3)
    walk_at "go"
    refine r_sf (e4 _ _ s3) T.c_Line T.a_Line_rows (Nat.le_of_ble_eq_true rfl) ?_
    generalize hG4 : upd H4 x (.ins (He.ga K "Line") dx (putF "rows" (.ref a4) (putF "gone" (.ref a3) (putF "standing" (.ref a2) (putF "worths" (.ref a1) []))))) = G4 at *
    walk_at "go"
    refine r_new (by simp) fun a5 H5 e5 n5 h5 => ?_
    obtain ⟨m5, x5, b5, s5, l5⟩ := step G4 _ "left_out" b4 s4 a5 H5 e5 n5 h5
    have q15 : a1 ≠ a5 := ne_of_none k1 n5
    have q25 : a2 ≠ a5 := ne_of_none k2 n5
    have q35 : a3 ≠ a5 := ne_of_none k3 n5
    have q45 : a4 ≠ a5 := ne_of_none l4 n5
    walk_at "go"
    refine r_sf (e5 _ _ s4) T.c_Line T.a_Line_left_out (Nat.le_of_ble_eq_true rfl) ?_
    refine k ⟨a1, a2, a3, a4, a5⟩ _ b5 ?_ ⟨⟨dx, s5⟩, (upd_ne x1).trans (e5 _ _ k1), (upd_ne x2).trans (e5 _ _ k2), (upd_ne x3).trans (e5 _ _ k3), ⟨[], (upd_ne x4).trans (e5 _ _ l4), .nil⟩, l5, by simp [q12, q13, q14, q15, q23, q24, q25, q34, q35, q45]⟩
    intro y hy
    simp only [Adr.all, List.mem_cons, List.not_mem_nil, or_false] at hy
    rcases hy with rfl | rfl | rfl | rfl | rfl <;> assumption
/-- the making of one -/
theorem r_mkLine {H : Hp} {F : Addr → Hp → Prop} {E : XK} (k : ∀ x a H', Same H H' → H x = none → (∀ y ∈ a.all, H y = none) → LineAt K H' x a .zero → F x H') :
    ∀ x dx, H x = none → H dx = none → dx ≠ x → spLineInit K (.ref x :: ([] ++ [])) (upd (upd H dx (.own x)) x (.ins (He.ga K "Line") dx [])) (fun v H2 => v = .non ∧ F x H2) E := by
  intro x dx hx hdx hne
  have e1 : Same H (upd (upd H dx (.own x)) x (.ins (He.ga K "Line") dx [])) := same_upd (same_new hdx) hx
  refine ⟨x, dx, rfl, upd_same, fun a H' b n l => ⟨rfl, k x a H' (fun c o e => b c o (e1 _ _ e) (by simp [ne_of_none e hx])) hx (fun y hy => none_below e1 (n y hy)) l⟩⟩
end
end BW
namespace BW
open PySem PySem.Spec PyProof.Rows L2
section
variable {P : Program} {w : World} {K : PySem.W.Frag} {mg : Str → Option Value} {base : Heap}

theorem oV_inj {a b : Option Int} (h : oV a = oV b) : a = b := by
  cases a <;> cases b <;> simp_all [oV]
theorem r_eqO {a b : Option Int} {H : Hp} {Q : VK} (k : Q (.bl (decide (a = b))) H) : rEq (oV a) (oV b) H Q := by
  refine ⟨?_, ?_⟩
  · cases a <;> cases b <;> rfl
  · have e : decide (oV a = oV b) = decide (a = b) := by
      by_cases h : a = b
      · rw [h]; simp
      · rw [decide_eq_false h]; exact decide_eq_false fun z => h (oV_inj z)
    rw [e]
    exact k
theorem vO_get {m : Nat} {f : Nat → Option Int} {r : Nat} (h : r < m) : (vO ((List.range m).map f))[r]? = some (oV (f r)) := vO_at f h
/-- the walk's tables stand at ys -/
abbrev Tabs (H : Hp) (ys : List V) (cs : List (Nat × Int)) (n m k : Nat) : Prop := Paired (fun u i => Tb vO H u (tabO (n + 1) (m + 1) (BM.walk k (cs.take i)))) ys (List.range (cs.length + 1))
theorem cell_at {H : Hp} {ys : List V} {cs : List (Nat × Int)} {n m k i j : Nat} (h : Tabs H ys cs n m k) (hi : i ≤ cs.length) (hj : j ≤ n) :
    ∃ tb cols cl, ys[i]? = some (.ref tb) ∧ H tb = some (.lst cols) ∧ cols[j]? = some (.ref cl) ∧ H cl = some (.lst (vO ((List.range (m + 1)).map (BM.walk k (cs.take i) j)))) := by
  obtain ⟨u, h1, cols, ⟨tb, rfl, h2⟩, h3⟩ := pair_atR (i := i) (b := i) h (by rw [List.getElem?_range (by omega)])
  obtain ⟨cl, h4, h5⟩ := tabO_at h3 (j := j) (by omega)
  exact ⟨tb, cols, cl, h1, h2, h4, h5⟩
/-- walk_misses(comparisons, found, column, r) -/
def spMiss : Sp := fun vs H Q _ => ∃ (a fd : Addr) (us ys : List V) (cs : List (Nat × Int)) (n k m col r : Nat), vs = [.ref a, .ref fd, .int (col : Int), .int (r : Int)] ∧ H a = some (.lst us) ∧ Rows H us cs ∧ cs.length ≤ 1000 ∧ (∀ c ∈ cs, 1 ≤ c.1 ∧ c.1 + 1 ≤ n) ∧ H fd = some (.lst ys) ∧ Tabs H ys cs n m k ∧ col ≤ n ∧ r ≤ m ∧
  ∀ p H', Same H H' → H p = none → H' p = some (.lst (vN (BM.miss k cs cs.length col r))) → Q (.ref p) H'
theorem sc_walk_misses : FnScope ["comparisons", "found", "column", "r", "missed", "at", "here", "before"] ["comparisons", "found", "column", "r"] (defScope s_walk_misses) := ⟨rfl, rfl, rfl, by decide +kernel, rfl, by decide +kernel, by decide +kernel⟩
theorem ok_walk_misses (T : Tx K mg) : Def P w K mg base CX0 1 (He.ga K "walk_misses") ["comparisons", "found", "column", "r"] spMiss := by
  refine mk0 T.f_walk_misses sc_walk_misses (fun _ _ _ _ _ _ us hl => match us, hl with | [_, _, _, _], _ => rfl) (fun vs H Q E h => ?_) (fun cdv A outer s H vs Q E hr h => ?_)
  · obtain ⟨a, fd, us, ys, cs, n, k, m, col, r, rfl, _⟩ := h
    rfl
  · obtain ⟨a, fd, us, ys, cs, n, k, m, col0, r0, rfl, ha, hc, hcl, hg, hfd, ht, hcol, hr0, kk⟩ := h
    refine ⟨_, (pss_cons (ps_set (i := 4) sc_walk_misses.nd rfl (Or.inl rfl) (pe_lst pa_nil))
    (pss_cons (ps_for PassesOwn.never rfl (pi_range3 (by rfl) T.n_range (pa_cons (pe_op op_sub (pe_callB (call_lenK rfl) (by rfl) T.n_len PySem.boot_len (pa_cons (pv 0) pa_nil)) pe_int) (pa_cons (pe_un un_neg pe_int) (pa_cons (pe_un un_neg pe_int) pa_nil)))) (pg_name (i := 5) sc_walk_misses.nd rfl (Or.inl rfl))
    (pss_one (ps_if (pt_cmpR op_eq (pe_ix (ix_tupK rfl) (pe_ix (ix_listK rfl) (pv 0) (pv 5) (fun _ _ => rfl)) pe_int (fun _ _ => rfl)) (pv 2) (nomark _))
    (pss_cons (ps_par (i := 6) (j := 7) (by rfl) sc_walk_misses.nd rfl rfl (by decide) rfl rfl (pa_cons (pe_ix (ix_listK rfl) (pe_ix (ix_listK rfl) (pe_ix (ix_listK rfl) (pv 1) (pe_op op_add (pv 5) pe_int) (fun _ _ => rfl)) (pv 2) (fun _ _ => rfl)) (pv 3) (fun _ _ => rfl)) (pa_cons (pe_ix (ix_listK rfl) (pv 1) (pv 5) (fun _ _ => rfl)) pa_nil)) (by rfl))
    (pss_one (ps_if (pt_cmpR op_eq (pe_ix (ix_listK rfl) (pe_ix (ix_listK rfl) (pv 7) (pe_op op_sub (pv 2) pe_int) (fun _ _ => rfl)) (pv 3) (fun _ _ => rfl)) (pv 6) (nomark _))
    (pss_one (ps_aug (i := 2) sc_walk_misses.nd rfl (Or.inl rfl) pe_int ip_sub)) (pss_one (ps_if (PW.pt (pw_and (pt_cmpR op_gt (pv 3) pe_int (nomark _)) (pw_and1 (pt_cmpR op_eq (pe_ix (ix_listK rfl) (pe_ix (ix_listK rfl) (pv 7) (pe_op op_add (pv 2) pe_int) (fun _ _ => rfl)) (pe_op op_sub (pv 3) pe_int) (fun _ _ => rfl)) (pv 6) (nomark _)))))
    (pss_one (ps_par (i := 2) (j := 3) (by rfl) sc_walk_misses.nd rfl rfl (by decide) rfl rfl (pa_cons (pe_op op_add (pv 2) pe_int) (pa_cons (pe_op op_sub (pv 3) pe_int) pa_nil)) (by rfl))) (pss_one (ps_expr (pe_bmK rfl PySem.F.plainAttrs_list PySem.F.slot_list_append PySem.F.type_list_append mt_append (pv 4) (pa_cons (pv 5) pa_nil))))))))) pss_nil)))
    (pss_one (ps_ret (pe_revLK rfl (pv 4)))))), ?_⟩
    walk_at "go"
    refine r_new (by simp) fun f H1 e1 hf h1 => ?_
    walk_at "go"
    refine r_lenL (e1 _ _ ha) ?_
    walk_at "go"
    have hul : us.length = cs.length := hc.length
    refine ⟨_, _, _, _, rfl, RgC.neg (by omega) (by omega) (by omega) (by omega), ?_⟩
    rw [show ((us.length : Int) - 1 - -1).toNat = cs.length by omega]
    refine for_it (walk_rangeC (lo := (us.length : Int) - 1) (c := -1) (n := cs.length)) (fun t σ H5 => ∃ (col r : Nat) (acc : List Nat), (∃ o5 o6 o7 : Option V, σ = [some (.ref a), some (.ref fd), some (.int (col : Int)), some (.int (r : Int)), some (.ref f), o5, o6, o7]) ∧ col ≤ n ∧ r ≤ m ∧ acc.length ≤ t ∧
      Kn H f (fun _ ys => ys = vN acc) H5 ∧ BM.miss k cs cs.length col0 r0 = BM.miss k cs (cs.length - t) col r ++ acc.reverse) ⟨col0, r0, [], ⟨_, _, _, rfl⟩, hcol, hr0, by simp, ⟨H, _, same_refl _, e1, hf, h1, rfl⟩, by simp⟩ (fun t σ H5 _ z => trivial) (fun t v σ H5 H6 htl z y => ?_) (fun σ H5 z => ?_)
    · obtain ⟨col, r, acc, ⟨o5, o6, o7, rfl⟩, zc, zr, zl, ⟨B, _, z1, z2, z3, z4, rfl⟩, z6⟩ := z
      obtain ⟨rfl, ey⟩ := y
      obtain ⟨i, hi⟩ : ∃ i, cs.length - t = i + 1 := ⟨cs.length - t - 1, by omega⟩
      have hil : i < cs.length := by omega
      have zH := same_trans z1 z2
      obtain ⟨c, hci⟩ : ∃ c, cs[i]? = some c := ⟨_, List.getElem?_eq_getElem hil⟩
      obtain ⟨u, hui, q, rfl, hq⟩ := pair_atR hc hci
      obtain ⟨g1, g2⟩ := hg c (List.mem_of_getElem? hci)
      have eat : (us.length : Int) - 1 + (t : Int) * -1 = (i : Int) := by omega
      rw [hi] at z6
      have em : BM.miss k cs (i + 1) col r = (if c.1 = col then
        (if BM.walk k (cs.take i) (col - 1) r = BM.walk k (cs.take (i + 1)) col r then BM.miss k cs i (col - 1) r
        else if 0 < r ∧ BM.walk k (cs.take i) (col + 1) (r - 1) = BM.walk k (cs.take (i + 1)) col r then BM.miss k cs i (col + 1) (r - 1)
        else BM.miss k cs i col r ++ [i])
        else BM.miss k cs i col r) := by
        conv => lhs; unfold BM.miss
        rw [hci]
      rw [em] at z6
      have ey : v = .int (i : Int) := by rw [ey]; exact congrArg V.int eat
      subst ey
      walk_at "go"
      refine r_ixL (zH _ _ ha) rfl hui ?_
      walk_at "go"
      refine r_ixT (zH _ _ hq) (j := 0) rfl rfl ?_
      walk_at "go"
      refine iteD (fun h => ?_) (fun h => ?_)
      · have h : c.1 = col := by omega
        rw [if_pos h] at z6
        obtain ⟨tb1, cols1, cl1, b1, b2, b3, b4⟩ := cell_at ht (i := i + 1) (j := col) (by omega) zc
        obtain ⟨tb2, cols2, cl2, d1, d2, d3, d4⟩ := cell_at ht (i := i) (j := col - 1) (by omega) (by omega)
        obtain ⟨tb3, cols3, cl3, f1, f2, f3, f4⟩ := cell_at ht (i := i) (j := col + 1) (by omega) (by omega)
        rw [d1] at f1
        cases f1
        rw [d2] at f2
        cases f2
        walk_at "go"
        refine r_ixL (zH _ _ hfd) (j := i + 1) (by omega) b1 ?_
        walk_at "go"
        refine r_ixL (zH _ _ b2) rfl b3 ?_
        walk_at "go"
        refine r_ixL (zH _ _ b4) rfl (vO_get (by omega)) ?_
        walk_at "go"
        refine r_ixL (zH _ _ hfd) rfl d1 ?_
        walk_at "go"
        refine r_ixL (zH _ _ d2) (j := col - 1) (by omega) d3 ?_
        walk_at "go"
        refine r_ixL (zH _ _ d4) rfl (vO_get (by omega)) ?_
        walk_at "go"
        refine r_eqO ?_
        walk_at "go"
        refine iteD (fun h2 => ?_) (fun h2 => ?_)
        · rw [if_pos h2] at z6
          refine r_aug rfl ?_
          walk_at "go"
          refine ⟨_, _, rfl, rfl, ?_⟩
          refine ⟨col - 1, r, acc, ?_, by omega, zr, by omega, ⟨B, _, z1, z2, z3, z4, rfl⟩, by rw [show cs.length - (t + 1) = i by omega]; exact z6⟩
          rw [show ((col - 1 : Nat) : Int) = (col : Int) - 1 by omega]
          exact ⟨_, _, _, rfl⟩
        · rw [if_neg h2] at z6
          walk_at "go"
          have miss : ¬ (0 < r ∧ BM.walk k (cs.take i) (col + 1) (r - 1) = BM.walk k (cs.take (i + 1)) col r) → Kn H f (fun _ ys => ys = vN (acc ++ [i])) (upd H6 f (.lst (vN acc ++ [.int (i : Int)]))) ∧ BM.miss k cs cs.length col0 r0 = BM.miss k cs (cs.length - (t + 1)) col r ++ (acc ++ [i]).reverse := fun h3 => by
            rw [if_neg h3] at z6
            refine ⟨kn_appV z1 z2 z3 (by simp [vN]), ?_⟩
            rw [show cs.length - (t + 1) = i by omega, z6]
            simp
          refine iteD (fun h3 => ?_) (fun h3 => ?_)
          · walk_at "go"
            refine r_ixL (zH _ _ d2) (j := col + 1) (by omega) f3 ?_
            walk_at "go"
            refine r_ixL (zH _ _ f4) (j := r - 1) (by omega) (vO_get (by omega)) ?_
            walk_at "go"
            refine r_eqO ?_
            walk_at "go"
            refine iteD (fun h4 => ?_) (fun h4 => ?_)
            · rw [if_pos ⟨by omega, h4⟩] at z6
              walk_at "go"
              refine ⟨col + 1, r - 1, acc, ?_, by omega, by omega, by omega, ⟨B, _, z1, z2, z3, z4, rfl⟩, by rw [show cs.length - (t + 1) = i by omega]; exact z6⟩
              rw [show ((r - 1 : Nat) : Int) = (r : Int) - 1 by omega]
              exact ⟨_, _, _, rfl⟩
            · obtain ⟨m1, m2⟩ := miss fun z => h4 z.2
              walk_at "go"
              refine r_tyL z4 ?_
              walk_at "go"
              refine r_app z4 (by rw [vN_len]; omega) ?_
              exact ⟨col, r, acc ++ [i], ⟨_, _, _, rfl⟩, zc, zr, by simp; omega, m1, m2⟩
          · obtain ⟨m1, m2⟩ := miss fun z => h3 (by omega)
            walk_at "go"
            refine r_tyL z4 ?_
            walk_at "go"
            refine r_app z4 (by rw [vN_len]; omega) ?_
            exact ⟨col, r, acc ++ [i], ⟨_, _, _, rfl⟩, zc, zr, by simp; omega, m1, m2⟩
      · rw [if_neg (by omega)] at z6
        walk_at "go"
        exact ⟨col, r, acc, ⟨_, _, _, rfl⟩, zc, zr, by omega, ⟨B, _, z1, z2, z3, z4, rfl⟩, by rw [show cs.length - (t + 1) = i by omega]; exact z6⟩
    · obtain ⟨col, r, acc, ⟨o5, o6, o7, rfl⟩, zc, zr, zl, ⟨B, _, z1, z2, z3, z4, rfl⟩, z6⟩ := z
      walk_at "go"
      refine r_rev z4 ?_
      refine r_al fun p H7 e7 hp h7 => ?_
      rw [Nat.sub_self] at z6
      have e : BM.miss k cs cs.length col0 r0 = acc.reverse := by rw [z6]; rfl
      have s7 := same_trans z1 (same_trans z2 e7)
      refine kk p _ s7 (none_below (same_trans z1 z2) hp) ?_
      rw [h7, e]
      simp [vN]
end
end BW
namespace BW
open PySem PySem.Spec PyProof.Rows L2
section
variable {P : Program} {w : World} {K : PySem.W.Frag} {mg : Str → Option Value} {base : Heap}

/-- the law's bag of numbers -/
def BagAt (H : Hp) (b c : Addr) : Prop := ∃ (z s : Int) (i : Nat) (cells : List Int), H b = some (.lst [.int z, .int s, .int (i : Int), .ref c]) ∧ H c = some (.lst (vI cells)) ∧ 0 ≤ z ∧ ∀ x ∈ cells, 0 ≤ x
theorem BagAt.ne {H : Hp} {b c : Addr} (h : BagAt H b c) : c ≠ b := by
  obtain ⟨z, s, i, cells, h1, h2, _, h4⟩ := h
  intro e
  rw [e, h1] at h2
  cases cells with
  | nil => cases h2
  | cons x l =>
    have e : [V.int z, .int s, .int (i : Int), .ref c] = vI (x :: l) := HO.lst.inj (Option.some.inj h2)
    have e3 : ([V.int z, .int s, .int (i : Int), .ref c])[3]? = (vI (x :: l))[3]? := by rw [e]
    unfold vI at e3
    rw [List.getElem?_map] at e3
    cases q : (x :: l)[3]? with
    | none => rw [q] at e3; cases e3
    | some y => rw [q] at e3; cases e3
theorem BagAt.but {H H' : Hp} {b c : Addr} {fp : List Addr} (h : BagAt H b c) (e : But fp H H') (hb : b ∉ fp) (hc : c ∉ fp) : BagAt H' b c := by
  obtain ⟨z, s, i, cells, h1, h2, h3⟩ := h
  exact ⟨z, s, i, cells, e _ _ h1 hb, e _ _ h2 hc, h3⟩
theorem BagAt.same {H H' : Hp} {b c : Addr} (h : BagAt H b c) (e : Same H H') : BagAt H' b c := h.but (But.same e []) (by simp) (by simp)
/-- _law_bag(script) -/
def spBag (K : PySem.W.Frag) : Sp := fun vs H Q _ => ∃ (a : Addr) (xs : List Int), vs = [.ref a] ∧ SqL K H a (vI xs) ∧ ∀ b c H', Same H H' → H b = none → H c = none → BagAt H' b c → Q (.ref b) H'
theorem cut63 (xs : List Int) : cutV (vI xs) none (some 63) = vI (xs.take 63) := by
  unfold cutV
  rw [show (63 : Int) = ((63 : Nat) : Int) from rfl, HT.sIx_nat, HT.sIx_none, List.drop_zero, Nat.sub_zero, vI_len]
  unfold vI
  rw [List.map_take]
  by_cases h : 63 ≤ xs.length
  · rw [Nat.min_eq_left h]
  · rw [Nat.min_eq_right (by omega), List.take_of_length_le (by simp), List.take_of_length_le (by simp; omega)]
theorem r_slS {K : PySem.W.Frag} {H : Hp} {Q : VK} {a : Addr} {xs : List V} {lo hi : Option Int} (h : SqL K H a xs) (k : ∀ p H', Same H H' → H p = none → H' p = some (.lst (cutV xs lo hi)) → Q (.ref p) H') : rSlL K (.ref a) lo hi H Q := ⟨a, xs, rfl, h, al_ k⟩
def absI (z : Int) : Int := if z < 0 then -z else z
theorem same_kind {H : Hp} : Same H H := fun _ _ h => h
theorem sc_law_bag : FnScope ["_law_script", "_law_cell"] ["_law_script"] (defScope s_law_bag) := ⟨rfl, rfl, rfl, by decide +kernel, rfl, by decide +kernel, by decide +kernel⟩
theorem ok_law_bag (T : Tx K mg) : Def P w K mg base CX0 1 (He.ga K "_law_bag") ["_law_script"] (spBag K) := by
  refine mk0 T.f_law_bag sc_law_bag (fun _ _ _ _ _ _ us hl => match us, hl with | [_], _ => rfl) (fun vs H Q E h => ?_) (fun cdv A outer s H vs Q E hr h => ?_)
  · obtain ⟨a, xs, rfl, _⟩ := h
    rfl
  · obtain ⟨a, xs, rfl, ha, kk⟩ := h
    refine ⟨_, (pss_one (ps_ret (pe_lst (pa_cons pe_int (pa_cons pe_int (pa_cons pe_int (pa_cons (pe_lc (own := [("_law_cell", 1)]) (by rfl) sc_law_bag.nd (pi_listK rfl (pe_slice (sl_listK rfl) (pv 0) po_none (po_some pe_int))) (blkOk_by (by kernel_rfl)) (fun _ _ _ _ _ => (pg_name (i := 1) sc_law_bag.nd rfl (Or.inl rfl))) (fun _ _ _ _ _ => pts_nil) (fun _ _ _ _ _ => (pe_callB call_abs (by rfl) T.n_abs (by decide +kernel) (pa_cons (pv 1) pa_nil)))) pa_nil))))))), ?_⟩
    walk_at "go"
    refine r_slS ha fun p H1 e1 hp h1 => ?_
    rw [cut63] at h1
    refine r_li h1 ?_
    intro D hD
    refine lc_vals (walk_list (xs := vI (xs.take 63))) hD (fun _ => true) (fun i => .int (absI ((xs.take 63).getD i 0))) (by rw [vI_len, List.length_take]; omega) (fun H1 e => sl_of (e _ _ h1)) (fun i H x H' y => at_same y) (fun i x H2 H3 QY QN hi e y kY kN => ?_) (fun H2 e hD1 => ?_)
    · obtain ⟨rfl, y⟩ := y
      obtain ⟨hi2, rfl⟩ := vI_of y
      walk_at "go"
      refine ⟨rfl, ?_⟩
      walk_at "go"
      exact kY rfl _ (same_refl _)
    · rw [List.filter_eq_self.mpr (fun _ _ => rfl)] at hD1
      walk_at "go"
      refine r_new (by simp) fun b H3 e3 hb h3 => ?_
      have e13 := same_trans e1 (same_trans e e3)
      refine kk b D H3 e13 (none_below (same_trans e1 e) hb) (none_below e1 hD) ⟨0, 1234567891, 0, (List.range (vI (xs.take 63)).length).map fun i => absI ((xs.take 63).getD i 0), h3, ?_, by decide, fun x hx => ?_⟩
      · rw [e3 _ _ hD1]
        unfold vI
        rw [List.map_map]
        rfl
      · obtain ⟨i, _, rfl⟩ := List.mem_map.mp hx
        unfold absI
        split <;> omega
/-- _law_take(bag, many) -/
def spTake : Sp := fun vs H Q _ => ∃ (b c : Addr) (m : Int), vs = [.ref b, .int m] ∧ BagAt H b c ∧ 0 < m ∧ m ≤ 10 ^ 40 ∧ ∀ v H', But [b] H H' → BagAt H' b c → 0 ≤ v → v < m → Q (.int v) H'
theorem r_getN {K : PySem.W.Frag} {H : Hp} {Q : VK} {a : Addr} {xs : List V} {j : Nat} {v : V} {z : Int} (h : H a = some (.lst xs)) (e : z = (j : Int)) (hj : xs[j]? = some v) (k : Q v H) : rGetN K (.ref a) (.int z) H Q := ⟨a, xs, j, v, rfl, by rw [e], sl_of h, hj, k⟩
theorem wide40 {m : Int} (h : 0 < m) (h2 : m ≤ 10 ^ 40) : CDivW 0 m := wide_div (b := 140) h (Nat.lt_of_le_of_lt (m := 10 ^ 40) (by omega) (by decide)) (by decide) (by decide)
theorem sc_law_take : FnScope ["_law_bag_here", "_law_many", "_law_cell", "_law_value", "_law_first", "_law_second"] ["_law_bag_here", "_law_many"] (defScope s_law_take) := ⟨rfl, rfl, rfl, by decide +kernel, rfl, by decide +kernel, by decide +kernel⟩
theorem ok_law_take (T : Tx K mg) : Def P w K mg base CX0 1 (He.ga K "_law_take") ["_law_bag_here", "_law_many"] spTake := by
  refine mk0 T.f_law_take sc_law_take (fun _ _ _ _ _ _ us hl => match us, hl with | [_, _], _ => rfl) (fun vs H Q E h => ?_) (fun cdv A outer s H vs Q E hr h => ?_)
  · obtain ⟨b, c, m, rfl, _⟩ := h
    rfl
  · obtain ⟨b, c, m, rfl, hb, m0, m40, kk⟩ := h
    refine ⟨_, (pss_cons (ps_if (pt_cmpR op_eq (pe_ix (ix_listK rfl) (pv 0) pe_int (fun _ _ => rfl)) pe_int (nomark _))
    (pss_cons (ps_set (i := 2) sc_law_take.nd rfl (Or.inl rfl) pe_int)
    (pss_cons (ps_if (pt_cmpR op_lt (pe_ix (ix_listK rfl) (pv 0) pe_int (fun _ _ => rfl)) (pe_callB (call_lenK rfl) (by rfl) T.n_len PySem.boot_len (pa_cons (pe_ix (ix_listK rfl) (pv 0) pe_int (fun _ _ => rfl)) pa_nil)) (nomark _))
    (pss_one (ps_set (i := 2) sc_law_take.nd rfl (Or.inl rfl) (pe_ix (ix_listK rfl) (pe_ix (ix_listK rfl) (pv 0) pe_int (fun _ _ => rfl)) (pe_ix (ix_listK rfl) (pv 0) pe_int (fun _ _ => rfl)) (fun _ _ => rfl)))) pss_nil)
    (pss_cons (ps_augS (pv 0) pe_int (get_list rfl) pe_int ip_add set_list)
    (pss_cons (ps_if (pt_cmpR op_ge (pv 2) pe_int (nomark _))
    (pss_one (ps_asg (pv 2) (pg_sub (pv 0) pe_int set_list))) pss_nil)
    (pss_one (ps_asg (pe_op op_mod (pe_op op_add (pe_op op_add (pe_op op_mul (pe_ix (ix_listK rfl) (pv 0) pe_int (fun _ _ => rfl)) pe_int) (pe_op op_mod (pv 2) pe_int)) (pe_op op_mul pe_int (pe_ix (ix_listK rfl) (pv 0) pe_int (fun _ _ => rfl)))) pe_int) (pg_sub (pv 0) pe_int set_list))))))) pss_nil)
    (pss_cons (ps_if (pt_cmpR op_gt (pe_ix (ix_listK rfl) (pv 0) pe_int (fun _ _ => rfl)) pe_int (nomark _))
    (pss_cons (ps_set (i := 3) sc_law_take.nd rfl (Or.inl rfl) (pe_op op_mod (pe_ix (ix_listK rfl) (pv 0) pe_int (fun _ _ => rfl)) (pv 1)))
    (pss_cons (ps_asg (pe_op op_fdivW (pe_ix (ix_listK rfl) (pv 0) pe_int (fun _ _ => rfl)) (pv 1)) (pg_sub (pv 0) pe_int set_list))
    (pss_one (ps_ret (pv 3))))) pss_nil)
    (pss_cons (ps_set (i := 4) sc_law_take.nd rfl (Or.inl rfl) (pe_op op_mod (pe_op op_mul (pe_op op_add (pe_ix (ix_listK rfl) (pv 0) pe_int (fun _ _ => rfl)) pe_int) pe_int) pe_int))
    (pss_cons (ps_set (i := 5) sc_law_take.nd rfl (Or.inl rfl) (pe_op op_mod (pe_op op_mul (pe_op op_mod (pe_op op_mul (pv 4) (pv 4)) pe_int) pe_int) pe_int))
    (pss_cons (ps_if (pt_cmpR op_gt (pv 1) pe_int (nomark _))
    (pss_one (ps_ret (pe_op op_mod (pe_op op_add (pe_op op_mul (pv 5) pe_int) (pv 4)) (pv 1)))) pss_nil)
    (pss_one (ps_ret (pe_op op_mod (pe_op op_fdivW (pv 5) pe_int) (pv 1))))))))), ?_⟩
    with_reducible refine r_seqG (fun σ H1 => (∃ o2, σ = [some (.ref b), some (.int m), o2, none, none, none]) ∧ But [b] H H1 ∧ BagAt H1 b c) (fun nx hnx => ?_) (fun σ H1 z => ?_)
    · have hcb := hb.ne
      obtain ⟨z, s1, i, cells, h1, h2, hz, hcs⟩ := hb
      walk_at "go"
      refine r_ixL h1 (j := 0) rfl rfl ?_
      walk_at "go"
      refine iteD (fun h => ?_) (fun h => ?_)
      · refine r_seq (r_asg (r_c (r_name ?_)))
        with_reducible refine r_seqG (fun σ H1 => ∃ cell : Int, 0 ≤ cell ∧ σ = [some (.ref b), some (.int m), some (.int cell), none, none, none] ∧ H1 = H) (fun nx2 hnx2 => ?_) (fun σ H1 y => ?_)
        · walk_at "go"
          refine r_ixL h1 (j := 2) rfl rfl ?_
          walk_at "go"
          refine r_ixL h1 (j := 3) rfl rfl ?_
          walk_at "go"
          refine r_lenL h2 ?_
          walk_at "go"
          rw [vI_len]
          refine iteD (fun h => ?_) (fun h => ?_)
          · walk_at "go"
            refine r_ixL h1 (j := 3) rfl rfl ?_
            walk_at "go"
            refine r_ixL h1 (j := 2) rfl rfl ?_
            walk_at "go"
            refine r_ixL h2 rfl (vI_at (by omega)) ?_
            walk_at "go"
            refine hnx2 _ _ ⟨cells.getD i 0, ?_, rfl, rfl⟩
            rw [BM.getD_lt 0 (by omega)]
            exact hcs _ (List.getElem_mem _)
          · walk_at "go"
            exact hnx2 _ _ ⟨0, by decide, rfl, rfl⟩
        · obtain ⟨cell, hc0, rfl, rfl⟩ := y
          walk_at "go"
          refine r_getN h1 (j := 2) rfl rfl ?_
          walk_at "go"
          refine ⟨_, _, rfl, rfl, ?_⟩
          refine r_set h1 (j := 2) rfl (by simp) ?_
          have b1 : But [b] H1 (upd H1 b (.lst (([V.int z, .int s1, .int (i : Int), .ref c] : List V).set 2 (.int ((i : Int) + 1))))) := but_upd (but_refl _ _) (by simp)
          have h1' : upd H1 b (.lst (([V.int z, .int s1, .int (i : Int), .ref c] : List V).set 2 (.int ((i : Int) + 1)))) b = some (.lst [V.int z, .int s1, .int ((i : Int) + 1), .ref c]) := upd_same
          generalize upd H1 b (.lst (([V.int z, .int s1, .int (i : Int), .ref c] : List V).set 2 (.int ((i : Int) + 1)))) = H2 at *
          with_reducible refine r_seqG (fun σ H3 => ∃ z2 : Int, 0 ≤ z2 ∧ σ = [some (.ref b), some (.int m), some (.int cell), none, none, none] ∧ But [b] H1 H3 ∧ H3 b = some (.lst [V.int z2, .int s1, .int ((i : Int) + 1), .ref c])) (fun nx3 hnx3 => ?_) (fun σ H3 y => ?_)
          · walk_at "go"
            refine iteD (fun h => ?_) (fun h => ?_)
            · walk_at "go"
              refine r_set h1' (j := 0) rfl (by simp) ?_
              refine hnx3 _ _ ⟨cell, hc0, rfl, but_upd b1 (by simp), upd_same⟩
            · walk_at "go"
              exact hnx3 _ _ ⟨z, hz, rfl, b1, h1'⟩
          · obtain ⟨z2, hz2, rfl, b3, h3⟩ := y
            walk_at "go"
            refine r_ixL h3 (j := 1) rfl rfl ?_
            walk_at "go"
            refine r_I (.inr (by decide)) ?_
            walk_at "go"
            refine r_I (by decide) ?_
            walk_at "go"
            refine r_ixL h3 (j := 2) rfl rfl ?_
            walk_at "go"
            refine r_I (.inl (by decide)) ?_
            walk_at "go"
            refine r_I (by decide) ?_
            walk_at "go"
            refine r_set h3 (j := 1) rfl (by simp) ?_
            walk_at "go"
            refine hnx _ _ ⟨⟨_, rfl⟩, but_upd b3 (by simp), z2, _, i + 1, cells, upd_same, ?_, hz2, hcs⟩
            exact (upd_ne hcb).trans (b3 _ _ h2 (by simp [hcb]))
      · walk_at "go"
        exact hnx _ _ ⟨⟨_, rfl⟩, but_refl _ _, z, s1, i, cells, h1, h2, hz, hcs⟩
    · obtain ⟨⟨o2, rfl⟩, b1, hb1⟩ := z
      have hcb := hb1.ne
      obtain ⟨z, s1, i, cells, h1, h2, hz, hcs⟩ := hb1
      have hw := wide40 m0 m40
      walk_at "go"
      refine r_ixL h1 (j := 0) rfl rfl ?_
      walk_at "go"
      refine iteD (fun h => ?_) (fun h => ?_)
      · walk_at "go"
        refine r_ixL h1 (j := 0) rfl rfl ?_
        walk_at "go"
        refine r_I m0 ?_
        walk_at "go"
        refine r_ixL h1 (j := 0) rfl rfl ?_
        walk_at "go"
        refine r_I hw ?_
        walk_at "go"
        refine r_set h1 (j := 0) rfl (by simp) ?_
        walk_at "go"
        refine kk _ _ (but_upd b1 (by simp)) ⟨z / m, s1, i, cells, upd_same, (upd_ne hcb).trans h2, Int.ediv_nonneg hz (by omega), hcs⟩ (Int.emod_nonneg _ (by omega)) (Int.emod_lt_of_pos _ m0)
      · have hb1 : BagAt H1 b c := ⟨z, s1, i, cells, h1, h2, hz, hcs⟩
        walk_at "go"
        refine r_ixL h1 (j := 1) rfl rfl ?_
        walk_at "go"
        refine r_I (.inr (by decide)) ?_
        walk_at "go"
        refine r_I (by decide) ?_
        walk_at "go"
        have f1 : 0 ≤ (s1 + 1) * 39373 % 1000000007 := Int.emod_nonneg _ (by decide)
        have f2 : (s1 + 1) * 39373 % 1000000007 < 1000000007 := Int.emod_lt_of_pos _ (by decide)
        generalize (s1 + 1) * 39373 % 1000000007 = first at *
        refine r_I (.inl (by omega)) ?_
        walk_at "go"
        refine r_I (by decide) ?_
        walk_at "go"
        refine r_I (.inr (by decide)) ?_
        walk_at "go"
        refine r_I (by decide) ?_
        walk_at "go"
        refine iteD (fun h => ?_) (fun h => ?_)
        · walk_at "go"
          refine r_I (.inr (by decide)) ?_
          walk_at "go"
          refine r_I m0 ?_
          exact kk _ _ b1 hb1 (Int.emod_nonneg _ (by omega)) (Int.emod_lt_of_pos _ m0)
        · walk_at "go"
          refine r_I ⟨by decide, by decide⟩ ?_
          walk_at "go"
          refine r_I m0 ?_
          exact kk _ _ b1 hb1 (Int.emod_nonneg _ (by omega)) (Int.emod_lt_of_pos _ m0)
end
end BW
namespace BW
open PySem PySem.Spec PyProof.Rows L2
section
variable {P : Program} {w : World} {K : PySem.W.Frag} {mg : Str → Option Value} {base : Heap}

theorem hu65 {A : Around} {k : Nat} (hr : Room k A) : A.units + 65 < cLine := by
  have := hr.un
  omega
def dP (ws : List Int) (i : Nat) : PyData := .tuple [.int (ws.getD i 0), .int (i : Int)]
theorem sh_P (ws : List Int) (i : Nat) : SeqAt.shaped (dP ws i) = true := by
  unfold SeqAt.shaped
  rw [show PyData.canLay0 (dP ws i) = true from rfl, show (dP ws i).depth = 1 from rfl]
  rfl
theorem lay_Ps (ws : List Int) : ∀ l : List Nat, PyData.canLayAll0 (l.map (dP ws)) = true ∧ PyData.depthAll (l.map (dP ws)) ≤ 1
  | [] => ⟨rfl, Nat.zero_le _⟩
  | i :: l => by
    obtain ⟨h1, h2⟩ := lay_Ps ws l
    refine ⟨?_, ?_⟩
    · show (true && PyData.canLayAll0 (l.map (dP ws))) = true
      rw [h1]
      rfl
    · show max 1 (PyData.depthAll (l.map (dP ws))) ≤ 1
      omega
theorem sh_Ps (ws : List Int) (l : List Nat) : SeqAt.shaped (.list (l.map (dP ws))) = true := by
  unfold SeqAt.shaped
  obtain ⟨h1, h2⟩ := lay_Ps ws l
  rw [show PyData.canLay0 (.list (l.map (dP ws))) = PyData.canLayAll0 (l.map (dP ws)) from rfl, h1, show (PyData.list (l.map (dP ws))).depth = PyData.depthAll (l.map (dP ws)) + 1 from rfl, decide_eq_true (by omega)]
  rfl
theorem eqv_P (ws : List Int) (i j : Nat) : PyData.eqv (dP ws i) (dP ws j) = decide (i = j) := by
  unfold dP
  simp only [PyData.eqv, PyData.eqvAll]
  by_cases h : i = j
  · subst h; simp
  · rw [decide_eq_false h]
    simp
    omega
theorem dp_P {H : Hp} {ws : List Int} {u : V} {i : Nat} (h : Stands H u (pairO ws i)) : Dp K H u (dP ws i) := by
  obtain ⟨p, rfl, e⟩ := h
  exact .tup (st_of e) (.cons (.int _) (.cons (.int _) .nil))
theorem dp_Ps {H : Hp} {ws : List Int} : ∀ {us : List V} {l : List Nat}, Paired (fun u i => Stands H u (pairO ws i)) us l → DpAll K H us (l.map (dP ws))
  | _, _, .nil => .nil
  | _, _, .cons h t => .cons (dp_P h) (dp_Ps t)
theorem sc_law_ranks : FnScope ["_law_worths", "_law_line", "_law_item", "_law_worth"] ["_law_worths"] (defScope s_law_ranks) := ⟨rfl, rfl, rfl, by decide +kernel, rfl, by decide +kernel, by decide +kernel⟩
theorem ok_law_ranks (T : Tx K mg) : Def P w K mg base CX0 1 (He.ga K "_law_ranks") ["_law_worths"] spRanks := by
  refine mk0 T.f_law_ranks sc_law_ranks (fun _ _ _ _ _ _ us hl => match us, hl with | [_], _ => rfl) (fun vs H Q E h => ?_) (fun cdv A outer s H vs Q E hr h => ?_)
  · obtain ⟨a, ws, rfl, _⟩ := h
    rfl
  · obtain ⟨a, ws, rfl, ha, hn, k⟩ := h
    refine ⟨_, (pss_cons (ps_set (i := 1) sc_law_ranks.nd rfl (Or.inr rfl) (pe_callB (cr_sortedPOK rfl) (by rfl) T.n_sorted (by decide +kernel) (pa_cons (pe_lc (own := [("_law_item", 2), ("_law_worth", 3)]) (by rfl) sc_law_ranks.nd (pi_enumK rfl (by rfl) T.n_enumerate (pa_cons (pv 0) pa_nil)) (blkOk_by (by kernel_rfl)) (fun _ _ _ _ _ => (pg_tupK (n := 2) rfl rfl (pgs_cons (pg_name (i := 2) sc_law_ranks.nd rfl (Or.inl rfl)) (pgs_cons (pg_name (i := 3) sc_law_ranks.nd rfl (Or.inl rfl)) pgs_nil)))) (fun _ _ _ _ _ => pts_nil) (fun _ _ _ _ _ => (pe_tup (pa_cons (pv 3) (pa_cons (pv 2) pa_nil))))) pa_nil)))
    (pss_one (ps_ret (pe_lc (own := [("_law_item", 2), ("_law_worth", 3)]) (by rfl) sc_law_ranks.nd (pi_enumK rfl (by rfl) T.n_enumerate (pa_cons (pv 0) pa_nil)) (blkOk_by (by kernel_rfl)) (fun _ _ _ _ _ => (pg_tupK (n := 2) rfl rfl (pgs_cons (pg_name (i := 2) sc_law_ranks.nd rfl (Or.inl rfl)) (pgs_cons (pg_name (i := 3) sc_law_ranks.nd rfl (Or.inl rfl)) pgs_nil)))) (fun _ _ _ _ _ => pts_nil) (fun _ _ _ _ _ => (pe_bmK rfl PySem.F.plainAttrs_list PySem.F.slot_list_index PySem.F.type_list_index (mt_indexK rfl (hu65 hr)) (pv 1) (pa_cons (pe_tup (pa_cons (pv 3) (pa_cons (pv 2) pa_nil))) pa_nil))))))), ?_⟩
    walk_at "go"
    refine r_en ha ?_
    intro D hD
    refine lc_new walk_enum hD (fun i => pairO ws i) (by rw [vI_len]; omega) (fun H1 e => sl_of (e _ _ ha)) (fun i H x H' y => en_same y) (fun i x H1 H' QY QN hi e y k1 => ?_) (fun H1 ys e hD1 hy => ?_)
    · obtain ⟨T', y1, rfl, hT, e8, h8, hy⟩ := en_of y
      obtain ⟨hi, rfl⟩ := vI_of hy
      refine r_gtup h8 rfl ?_
      walk_at "go"
      refine ⟨rfl, ?_⟩
      walk_at "go"
      refine r_new (by simp) fun p H4 e4 hp h4 => ?_
      exact k1 p _ (none_below e8 hp) e4 h4
    · rw [vI_len] at hy
      walk_at "go"
      refine r_sortP hD1 hy fun ys2 its p hy2 hp hs H2 e2 hpn hp2 => ?_
      walk_at "go"
      refine r_en (e2 _ _ (e _ _ ha)) ?_
      intro D2 hD2
      refine lc_vals walk_enum hD2 (fun _ => true) (fun i => .int ((BM.rankOf ws i : Nat) : Int)) (by rw [vI_len]; omega) (fun H3 e3 => sl_of (e3 _ _ (e2 _ _ (e _ _ ha)))) (fun i H x H' y => en_same y) (fun i x H3 H4 QY QN hi e3 y kY kN => ?_) (fun H3 e3 hD3 => ?_)
      · obtain ⟨T', y1, rfl, hT, e8, h8, hy⟩ := en_of y
        obtain ⟨hi, rfl⟩ := vI_of hy
        refine r_gtup h8 rfl ?_
        walk_at "go"
        refine ⟨rfl, ?_⟩
        walk_at "go"
        refine r_tyL (e8 _ _ (e3 _ _ hp2)) ?_
        walk_at "go"
        refine r_new (by simp) fun q H5 e5 hq h5 => ?_
        have e25 : Same H2 H5 := same_trans e3 (same_trans e8 e5)
        have rb : BM.rankOf ws i < its.length := by
          rw [hp.length_eq, List.length_range]
          exact BM.rank_bound hi
        refine ⟨p, .ref q, dP ws i, its.map (dP ws), BM.rankOf ws i, dP ws i, rfl, rfl, .lst (sl_of (e25 _ _ hp2)) (dp_Ps (pair_mono hy2 fun u i z => z.mono (same_trans e2 e25))), dp_P ⟨q, rfl, h5⟩, sh_Ps ws its, sh_P ws i, ?_, by rw [eqv_P]; simp, fun m z hm hz => ?_, ?_⟩
        · rw [List.getElem?_map, BM.rank_pos hp hs hi]
          rfl
        · rw [List.getElem?_map] at hz
          cases q : its[m]? with
          | none => rw [q] at hz; cases hz
          | some j =>
            rw [q] at hz
            cases hz
            rw [eqv_P, decide_eq_false]
            intro e
            have := BM.rank_at hp hs q
            rw [e] at this
            omega
        · exact kY rfl _ e5
      · rw [List.filter_eq_self.mpr (fun _ _ => rfl), vI_len] at hD3
        walk_at "go"
        refine k D2 H3 (same_trans e (same_trans e2 e3)) (none_below (same_trans e e2) hD2) ?_
        rw [hD3]
        unfold BM.ranksM vN
        rw [List.map_map]
        rfl
end
end BW
namespace BW
open PySem PySem.Spec PyProof.Rows L2
section
variable {P : Program} {w : World} {K : PySem.W.Frag} {mg : Str → Option Value} {base : Heap}

/-- what a deed done on a line asks and gives -/
structure LineGo (K : PySem.W.Frag) (H : Hp) (x : Addr) (a : Adr) (L : BM.Ln) (o : Option BM.Ln) (Q : VK) (E : XK) : Prop where
  l : LineAt K H x a L
  s : LnSmall L
  n : o = none → ∀ C d H', C = He.ga K "TooMany" ∨ C = He.ga K "NoItems" → Same H H' → E (.ref C) d H'
  y : ∀ L', o = some L' → ∀ r H', But a.all H H' → LineAt K H' x a L' → Plain r → Q r H'
def spArrive (K : PySem.W.Frag) : Sp := fun vs H Q E => ∃ (x : Addr) (a : Adr) (L : BM.Ln) (p : Int), vs = [.ref x, .int p] ∧ LineGo K H x a L (L.step (.arrive p)) Q E
def spServe (K : PySem.W.Frag) : Sp := fun vs H Q E => ∃ (x : Addr) (a : Adr) (L : BM.Ln), vs = [.ref x] ∧ LineGo K H x a L (L.step .serve) Q E
def spCompare (K : PySem.W.Frag) : Sp := fun vs H Q E => ∃ (x : Addr) (a : Adr) (L : BM.Ln) (pos : Nat) (price : Int) (done : Bool), vs = [.ref x, .int (pos : Int), .int price, .bl done] ∧ LineGo K H x a L (L.step (.compare pos price done)) Q E
theorem sc_Line_arrive : FnScope ["self", "priority", "item"] ["self", "priority"] (defScope s_Line_arrive) := ⟨rfl, rfl, rfl, by decide +kernel, rfl, by decide +kernel, by decide +kernel⟩
theorem ok_Line_arrive (T : Tx K mg) : Def P w K mg base (L2N.CX P w) 3 (He.ma K (He.ga K "Line") "arrive") ["self", "priority"] (spArrive K) := by
  have G_TooMany_init := ok_TooMany_init (P := P) (w := w) (base := base) T
  refine mkX T.f_Line_arrive sc_Line_arrive (fun _ _ _ _ _ _ us hl => match us, hl with | [_, _], _ => rfl) (fun vs H Q E h => ?_) (fun cdv A outer s H vs Q E hr h => ?_)
  · obtain ⟨x, a, L, p, rfl, _⟩ := h
    rfl
  · obtain ⟨x, a, L, p, rfl, hl, sm, kN, kS⟩ := h
    refine ⟨_, (pss_cons (ps_set (i := 2) sc_Line_arrive.nd rfl (Or.inl rfl) (pe_callB (call_lenK rfl) (by rfl) T.n_len PySem.boot_len (pa_cons (pe_fldK rfl (pv 0) rfl) pa_nil)))
    (pss_cons (ps_if (pt_cmpR op_eq (pv 2) (pe_gi T.i_MAX_PLACES) (nomark _))
    (pss_one (L2N.ps_raise rfl (L2N.takes_of rfl rfl rfl rfl) (pmkN_1 T.x.tm.c T.x.tm.i T.x.tm.t G_TooMany_init (hr.mono (by decide)) T.g_TooMany (pa_cons (pe_gi T.i_MAX_PLACES) pa_nil)))) pss_nil)
    (pss_cons (ps_expr (pe_bmK rfl PySem.F.plainAttrs_list PySem.F.slot_list_append PySem.F.type_list_append mt_append (pe_fldK rfl (pv 0) rfl) (pa_cons (pv 1) pa_nil)))
    (pss_cons (ps_expr (pe_bmK rfl PySem.F.plainAttrs_list PySem.F.slot_list_append PySem.F.type_list_append mt_append (pe_fldK rfl (pv 0) rfl) (pa_cons (pv 2) pa_nil)))
    (pss_one (ps_ret (pv 2))))))), ?_⟩
    have h12 := sm.ok.n12
    have hlen := sm.ok.len
    obtain ⟨dx, hx⟩ := hl.x
    walk_at "go"
    refine r_fld hx T.c_Line T.a_Line_worths rfl ?_
    walk_at "go"
    refine r_lenL hl.f.h1 ?_
    walk_at "go"
    rw [vI_len]
    refine iteD (fun h => ?_) (fun h => ?_)
    · refine r_raise1 ⟨rfl, rfl⟩ (fun d H' e => kN (if_pos (by omega)) _ d H' (.inl rfl) e) (fun Q1 Q2 q z => q _ _ z)
    · walk_at "go"
      refine r_fld hx T.c_Line T.a_Line_worths rfl ?_
      refine r_tyL hl.f.h1 ?_
      walk_at "go"
      refine r_app hl.f.h1 (by rw [vI_len]; omega) ?_
      rw [← vI_app]
      have hl1 := hl.up1 (w := L.ws ++ [p])
      have b1 : But a.all H (upd H a.a1 (.lst (vI (L.ws ++ [p])))) := but_upd (but_refl _ _) (by simp)
      generalize upd H a.a1 (.lst (vI (L.ws ++ [p]))) = H1 at *
      obtain ⟨dx1, hx1⟩ := hl1.x
      walk_at "go"
      refine r_fld hx1 T.c_Line T.a_Line_standing rfl ?_
      refine r_tyL hl1.f.h2 ?_
      walk_at "go"
      refine r_app hl1.f.h2 (by rw [vN_len]; simp only []; omega) ?_
      rw [← vN_app]
      have hl2 := hl1.up2 (w := L.st ++ [L.ws.length])
      have b2 : But a.all H (upd H1 a.a2 (.lst (vN (L.st ++ [L.ws.length])))) := but_upd b1 (by simp)
      walk_at "go"
      exact kS _ (if_neg (by omega)) _ _ b2 hl2 (.inl ⟨_, rfl⟩)
theorem sc_Line_serve : FnScope ["self"] ["self"] (defScope s_Line_serve) := ⟨rfl, rfl, rfl, by decide +kernel, rfl, by decide +kernel, by decide +kernel⟩
theorem ok_Line_serve (T : Tx K mg) : Def P w K mg base (L2N.CX P w) 3 (He.ma K (He.ga K "Line") "serve") ["self"] (spServe K) := by
  have G_NoItems_init := ok_NoItems_init (P := P) (w := w) (base := base) T
  refine mkX T.f_Line_serve sc_Line_serve (fun _ _ _ _ _ _ us hl => match us, hl with | [_], _ => rfl) (fun vs H Q E h => ?_) (fun cdv A outer s H vs Q E hr h => ?_)
  · obtain ⟨x, a, L, rfl, _⟩ := h
    rfl
  · obtain ⟨x, a, L, rfl, hl, sm, kN, kS⟩ := h
    refine ⟨_, (pss_cons (ps_if (pt_cmpR (op_eqDK rfl hr.units) (pe_fldK rfl (pv 0) rfl) (pe_lst pa_nil) (nomark _))
    (pss_one (L2N.ps_raise rfl (L2N.takes_of rfl rfl rfl rfl) (pmkN_0 T.x.ni.c T.x.ni.i T.x.ni.t G_NoItems_init (hr.mono (by decide)) T.g_NoItems))) pss_nil)
    (pss_cons (ps_expr (pe_bmK rfl PySem.F.plainAttrs_list PySem.F.slot_list_append PySem.F.type_list_append mt_append (pe_fldK rfl (pv 0) rfl) (pa_cons (pe_bmK rfl PySem.F.plainAttrs_list PySem.F.slot_list_pop PySem.F.type_list_pop mt_popAt (pe_fldK rfl (pv 0) rfl) (pa_cons pe_int pa_nil)) pa_nil)))
    (pss_one (ps_ret (pe_ix (ix_listK rfl) (pe_fldK rfl (pv 0) rfl) (pe_un un_neg pe_int) (fun _ _ => rfl)))))), ?_⟩
    have h12 := sm.ok.n12
    have hlen := sm.ok.len
    obtain ⟨dx, hx⟩ := hl.x
    walk_at "go"
    refine r_fld hx T.c_Line T.a_Line_standing rfl ?_
    walk_at "go"
    refine r_new (by simp) fun e0 H1 e1 he0 h1 => ?_
    refine r_eqN (m := []) (e1 _ _ hl.f.h2) h1 ?_
    walk_at "go"
    refine iteD (fun h => ?_) (fun h => ?_)
    · refine r_raise0 (kN ?_ _ none H1 (.inr rfl) e1)
      unfold BM.Ln.step
      rw [h]
    · obtain ⟨i, st, hst⟩ : ∃ i st, L.st = i :: st := by
        cases hc : L.st with
        | nil => exact absurd hc h
        | cons i st => exact ⟨i, st, rfl⟩
      have hl1 := hl.same e1
      have hx1 := e1 _ _ hx
      have b1 : But a.all H H1 := But.same e1 _
      walk_at "go"
      refine r_fld hx1 T.c_Line T.a_Line_gone rfl ?_
      refine r_tyL hl1.f.h3 ?_
      walk_at "go"
      refine r_fld hx1 T.c_Line T.a_Line_standing rfl ?_
      refine r_tyL hl1.f.h2 ?_
      walk_at "go"
      have e2 := hl1.f.h2
      rw [hst] at e2
      refine r_pop0 (y := .int (i : Int)) (ys := vN st) e2 ?_
      have hl2 := hl1.up2 (w := st)
      have b2 : But a.all H (upd H1 a.a2 (.lst (vN st))) := but_upd b1 (by simp)
      generalize upd H1 a.a2 (.lst (vN st)) = H2 at *
      walk_at "go"
      refine r_app hl2.f.h3 (by rw [vN_len]; simp only []; omega) ?_
      rw [← vN_app]
      have hl3 := hl2.up3 (w := L.gn ++ [i])
      have b3 : But a.all H (upd H2 a.a3 (.lst (vN (L.gn ++ [i])))) := but_upd b2 (by simp)
      generalize upd H2 a.a3 (.lst (vN (L.gn ++ [i]))) = H3 at *
      obtain ⟨dx3, hx3⟩ := hl3.x
      walk_at "go"
      refine r_fld hx3 T.c_Line T.a_Line_gone rfl ?_
      walk_at "go"
      refine r_ixEnd hl3.f.h3 (n := L.gn.length) (by rw [vN_len]; simp) (by rw [vN_at (by simp)]) ?_
      refine kS _ ?_ _ _ b3 hl3 (.inl ⟨_, rfl⟩)
      unfold BM.Ln.step
      rw [hst]
theorem sc_Line_compare : FnScope ["self", "position", "price", "done", "one", "other", "swaps"] ["self", "position", "price", "done"] (defScope s_Line_compare) := ⟨rfl, rfl, rfl, by decide +kernel, rfl, by decide +kernel, by decide +kernel⟩
theorem ok_Line_compare (T : Tx K mg) : Def P w K mg base (L2N.CX P w) 3 (He.ma K (He.ga K "Line") "compare") ["self", "position", "price", "done"] (spCompare K) := by
  have G_NoItems_init := ok_NoItems_init (P := P) (w := w) (base := base) T
  refine mkX T.f_Line_compare sc_Line_compare (fun _ _ _ _ _ _ us hl => match us, hl with | [_, _, _, _], _ => rfl) (fun vs H Q E h => ?_) (fun cdv A outer s H vs Q E hr h => ?_)
  · obtain ⟨x, a, L, pos, price, done, rfl, _⟩ := h
    rfl
  · obtain ⟨x, a, L, pos, price, done, rfl, hl, sm, kN, kS⟩ := h
    refine ⟨_, (pss_cons (ps_if (pt_cmpR op_gt (pe_op op_add (pv 1) pe_int) (pe_callB (call_lenK rfl) (by rfl) T.n_len PySem.boot_len (pa_cons (pe_fldK rfl (pv 0) rfl) pa_nil)) (nomark _))
    (pss_one (L2N.ps_raise rfl (L2N.takes_of rfl rfl rfl rfl) (pmkN_0 T.x.ni.c T.x.ni.i T.x.ni.t G_NoItems_init (hr.mono (by decide)) T.g_NoItems))) pss_nil)
    (pss_cons (ps_if (pt_not (pt_val (pv 3)))
    (pss_one (ps_expr (pe_bmK rfl PySem.F.plainAttrs_list PySem.F.slot_list_append PySem.F.type_list_append mt_append (pe_fldK rfl (pv 0) rfl) (pa_cons (pe_callB (call_lenK rfl) (by rfl) T.n_len PySem.boot_len (pa_cons (pe_fldK rfl (pv 0) rfl) pa_nil)) pa_nil)))) pss_nil)
    (pss_cons (ps_expr (pe_bmK rfl PySem.F.plainAttrs_list PySem.F.slot_list_append PySem.F.type_list_append mt_append (pe_fldK rfl (pv 0) rfl) (pa_cons (pe_tup (pa_cons (pe_op op_add (pe_op op_add (pe_callB (call_lenK rfl) (by rfl) T.n_len PySem.boot_len (pa_cons (pe_fldK rfl (pv 0) rfl) pa_nil)) (pv 1)) pe_int) (pa_cons (pv 2) pa_nil))) pa_nil)))
    (pss_cons (ps_par (i := 4) (j := 5) (by rfl) sc_Line_compare.nd rfl rfl (by decide) rfl rfl (pa_cons (pe_ix (ix_listK rfl) (pe_fldK rfl (pv 0) rfl) (pv 1) (fun _ _ => rfl)) (pa_cons (pe_ix (ix_listK rfl) (pe_fldK rfl (pv 0) rfl) (pe_op op_add (pv 1) pe_int) (fun _ _ => rfl)) pa_nil)) (by rfl))
    (pss_cons (ps_set (i := 6) sc_Line_compare.nd rfl (Or.inl rfl) (pe_and (pv 3) (pe_one (pe_cmpR (op_ltTK rfl hr.units0) (pe_tup (pa_cons (pe_ix (ix_listK rfl) (pe_fldK rfl (pv 0) rfl) (pv 5) (fun _ _ => rfl)) (pa_cons (pv 5) pa_nil))) (pe_tup (pa_cons (pe_ix (ix_listK rfl) (pe_fldK rfl (pv 0) rfl) (pv 4) (fun _ _ => rfl)) (pa_cons (pv 4) pa_nil))) (nomark _)))))
    (pss_cons (ps_if (pt_val (pv 6))
    (pss_one (ps_asg (pe_tup (pa_cons (pv 5) (pa_cons (pv 4) pa_nil))) (pg_tupK (n := 2) rfl rfl (pgs_cons (pg_sub (pe_fldK rfl (pv 0) rfl) (pv 1) set_list) (pgs_cons (pg_sub (pe_fldK rfl (pv 0) rfl) (pe_op op_add (pv 1) pe_int) set_list) pgs_nil))))) pss_nil)
    (pss_one (ps_ret (pv 6))))))))), ?_⟩
    have h12 := sm.ok.n12
    have hlen := sm.ok.len
    have hrs := sm.rs
    have hlo := sm.lo
    obtain ⟨dx, hx⟩ := hl.x
    walk_at "go"
    refine r_fld hx T.c_Line T.a_Line_standing rfl ?_
    walk_at "go"
    refine r_lenL hl.f.h2 ?_
    walk_at "go"
    rw [vN_len]
    refine iteD (fun h => ?_) (fun h => ?_)
    · exact r_raise0 (kN (if_pos (by omega)) _ none H (.inr rfl) (same_refl _))
    · have step : L.step (.compare pos price done) = some { L with
        rs := L.rs ++ [(L.gn.length + pos + 1, price)]
        lo := if done then L.lo else L.lo ++ [L.rs.length]
        st := if done && BM.urg L.ws (L.st.getD (pos + 1) 0) (L.st.getD pos 0) then BM.swapAt L.st pos (pos + 1) 0 else L.st } := if_neg (by omega)
      refine r_next ?_
      with_reducible refine r_seqG (fun σ H1 => σ = [some (.ref x), some (.int (pos : Int)), some (.int price), some (.bl done), none, none, none] ∧ But a.all H H1 ∧ LineAt K H1 x a { L with lo := if done then L.lo else L.lo ++ [L.rs.length] }) (fun nx hnx => ?_) (fun σ H1 z => ?_)
      · walk_at "go"
        cases done with
        | true =>
          walk_at "go"
          exact hnx _ _ ⟨rfl, but_refl _ _, hl⟩
        | false =>
          walk_at "go"
          refine r_fld hx T.c_Line T.a_Line_left_out rfl ?_
          refine r_tyL hl.f.h5 ?_
          walk_at "go"
          refine r_fld hx T.c_Line T.a_Line_rows rfl ?_
          walk_at "go"
          obtain ⟨us, u1, u2⟩ := hl.f.h4
          refine r_lenL u1 ?_
          walk_at "go"
          rw [u2.length]
          refine r_app hl.f.h5 (by rw [vN_len]; omega) ?_
          rw [← vN_app]
          exact hnx _ _ ⟨rfl, but_upd (but_refl _ _) (by simp), hl.up5⟩
      · obtain ⟨rfl, b1, hl1⟩ := z
        obtain ⟨dx1, hx1⟩ := hl1.x
        obtain ⟨us, u1, u2⟩ := hl1.f.h4
        walk_at "go"
        refine r_fld hx1 T.c_Line T.a_Line_rows rfl ?_
        refine r_tyL u1 ?_
        walk_at "go"
        refine r_fld hx1 T.c_Line T.a_Line_gone rfl ?_
        walk_at "go"
        refine r_lenL hl1.f.h3 ?_
        walk_at "go"
        refine r_new (by simp) fun t H2 e2 ht h2 => ?_
        walk_at "go"
        refine r_app (e2 _ _ u1) (by rw [u2.length]; simp only []; omega) ?_
        rw [vN_len, show (L.gn.length : Int) + (pos : Int) + 1 = ((L.gn.length + pos + 1 : Nat) : Int) by omega] at h2
        have hl2 := (hl1.same e2).up4 (us := us ++ [.ref t]) (w := L.rs ++ [(L.gn.length + pos + 1, price)]) (pair_app (u2.mono e2) (.cons ⟨t, rfl, h2⟩ .nil))
        have b2 : But a.all H (upd H2 a.a4 (.lst (us ++ [.ref t]))) := but_upd (b1.trans (But.same e2 _)) (by simp)
        generalize upd H2 a.a4 (.lst (us ++ [.ref t])) = H3 at *
        obtain ⟨dx2, hx2⟩ := hl2.x
        have i1 : L.st.getD pos 0 < L.ws.length := sm.ok.memst (by rw [BM.getD_lt 0 (by omega)]; exact List.getElem_mem _)
        have i2 : L.st.getD (pos + 1) 0 < L.ws.length := sm.ok.memst (by rw [BM.getD_lt 0 (by omega)]; exact List.getElem_mem _)
        walk_at "go"
        refine r_fld hx2 T.c_Line T.a_Line_standing rfl ?_
        walk_at "go"
        refine r_ixL hl2.f.h2 rfl (vN_at (by simp only []; omega)) ?_
        walk_at "go"
        refine r_fld hx2 T.c_Line T.a_Line_standing rfl ?_
        walk_at "go"
        refine r_ixL hl2.f.h2 (j := pos + 1) (by omega) (vN_at (by simp only []; omega)) ?_
        walk_at "go"
        generalize g1 : L.st.getD pos 0 = one at *
        generalize g2 : L.st.getD (pos + 1) 0 = other at *
        cases done with
        | false =>
          walk_at "go"
          exact kS _ step _ _ b2 hl2 (.inr ⟨_, rfl⟩)
        | true =>
          simp only [Bool.true_and] at step
          walk_at "go"
          refine r_fld hx2 T.c_Line T.a_Line_worths rfl ?_
          walk_at "go"
          refine r_ixL hl2.f.h1 rfl (vI_at (by simp only []; omega)) ?_
          walk_at "go"
          refine r_new (by simp) fun t1 H4 e4 ht1 h4 => ?_
          walk_at "go"
          refine r_fld (e4 _ _ hx2) T.c_Line T.a_Line_worths rfl ?_
          walk_at "go"
          refine r_ixL (e4 _ _ hl2.f.h1) rfl (vI_at (by simp only []; omega)) ?_
          walk_at "go"
          refine r_new (by simp) fun t2 H5 e5 ht2 h5 => ?_
          refine r_ltT (e5 _ _ h4) h5 ?_
          walk_at "go"
          have e45 := same_trans e4 e5
          have hl5 := hl2.same e45
          have hx5 := e45 _ _ hx2
          have b5 : But a.all H H5 := b2.trans (But.same e45 _)
          refine iteD (fun h => ?_) (fun h => ?_)
          · have hu : BM.urg L.ws other one = true := by
              unfold BM.urg
              rw [decide_eq_true]
              simp only [] at h
              omega
            rw [hu] at step
            rw [decide_eq_true h]
            walk_at "go"
            refine r_new (by simp) fun t3 H6 e6 ht3 h6 => ?_
            walk_at "go"
            refine r_gtup h6 rfl ?_
            walk_at "go"
            refine r_fld (e6 _ _ hx5) T.c_Line T.a_Line_standing rfl ?_
            walk_at "go"
            refine r_set (j := pos) (e6 _ _ hl5.f.h2) rfl (by rw [vN_len]; simp only []; omega) ?_
            walk_at "go"
            refine r_fld ((upd_ne (hl5.off _ (by simp))).trans (e6 _ _ hx5)) T.c_Line T.a_Line_standing rfl ?_
            walk_at "go"
            refine r_set (j := pos + 1) upd_same (by omega) (by rw [List.length_set, vN_len]; simp only []; omega) ?_
            walk_at "go"
            have sw : ((vN L.st).set pos (.int (other : Int))).set (pos + 1) (.int (one : Int)) = vN (BM.swapAt L.st pos (pos + 1) 0) := by
              unfold BM.swapAt
              rw [g1, g2, vN_set, vN_set]
            rw [upd_upd, sw]
            have hl6 := (hl5.same e6).up2 (w := BM.swapAt L.st pos (pos + 1) 0)
            exact kS _ step _ _ (but_upd (b5.trans (But.same e6 _)) (by simp)) hl6 (.inr ⟨_, rfl⟩)
          · have hu : BM.urg L.ws other one = false := by
              unfold BM.urg
              rw [decide_eq_false]
              simp only [] at h
              omega
            rw [hu] at step
            rw [decide_eq_false h]
            walk_at "go"
            exact kS _ step _ _ b5 hl5 (.inr ⟨_, rfl⟩)
end
end BW
namespace BW
open PySem PySem.Spec PyProof.Rows L2
section
variable {P : Program} {w : World} {K : PySem.W.Frag} {mg : Str → Option Value} {base : Heap}

/-- a spoil that is new since H -/
def SpNew (H H' : Hp) (v : V) : Option BM.Spoil → Prop
  | none => v = .non
  | some b => ∃ q l, v = .ref q ∧ H q = none ∧ H l = none ∧ H' q = some (.tup [.int b.1, .int (b.2.1 : Int), .int (b.2.2.1 : Int), .ref l]) ∧ H' l = some (.lst (vN b.2.2.2))
theorem SpNew.mono {H H' H'' : Hp} {v : V} {b : Option BM.Spoil} (h : SpNew H H' v b) (e : Same H' H'') : SpNew H H'' v b := by
  cases b with
  | none => exact h
  | some b =>
    obtain ⟨q, l, h1, h2, h3, h4, h5⟩ := h
    exact ⟨q, l, h1, h2, h3, e _ _ h4, e _ _ h5⟩
/-- the table of demands -/
abbrev TabD (H : Hp) (rows : List V) (n : Nat) (D : Nat → Nat → Nat) : Prop := Paired (fun u row => Lst H u (vN row)) rows (tabN (n + 1) (n + 1) D)
theorem tabD_at {H : Hp} {rows : List V} {n : Nat} {D : Nat → Nat → Nat} (h : TabD H rows n D) {k : Nat} (hk : k ≤ n) : ∃ u, rows[k]? = some (.ref u) ∧ H u = some (.lst (vN ((List.range (n + 1)).map (D k)))) := by
  obtain ⟨a, h1, q, rfl, h2⟩ := pair_atR (i := k) h (by unfold tabN; exact range_map_at _ (by omega))
  exact ⟨q, h1, h2⟩
/-- least_spoil(places, comparisons, table) -/
def spSpoil : Sp := fun vs H Q _ => ∃ (a tb : Addr) (us rows : List V) (cs : List (Nat × Int)) (n : Nat) (D : Nat → Nat → Nat), vs = [.int (n : Int), .ref a, .ref tb] ∧ H a = some (.lst us) ∧ Rows H us cs ∧ cs.length ≤ 1000 ∧ (∀ c ∈ cs, 1 ≤ c.1 ∧ c.1 + 1 ≤ n) ∧ 1 ≤ n ∧ n ≤ 12 ∧ H tb = some (.lst rows) ∧ TabD H rows n D ∧ (∀ k t, D k t ≤ k) ∧
  ∀ v H', Same H H' → SpNew H H' v (BM.leastSpoil n cs D) → Q v H'
theorem sc_least_spoil : FnScope ["places", "comparisons", "table", "best", "k", "found", "t", "price"] ["places", "comparisons", "table"] (defScope s_least_spoil) := ⟨rfl, rfl, rfl, by decide +kernel, rfl, by decide +kernel, by decide +kernel⟩
theorem ok_least_spoil (T : Tx K mg) : Def P w K mg base CX0 4 (He.ga K "least_spoil") ["places", "comparisons", "table"] spSpoil := by
  have G_walk_prices := ok_walk_prices (P := P) (w := w) (base := base) T
  have G_walk_misses := ok_walk_misses (P := P) (w := w) (base := base) T
  refine mk0 T.f_least_spoil sc_least_spoil (fun _ _ _ _ _ _ us hl => match us, hl with | [_, _, _], _ => rfl) (fun vs H Q E h => ?_) (fun cdv A outer s H vs Q E hr h => ?_)
  · obtain ⟨a, tb, us, rows, cs, n, D, rfl, _⟩ := h
    rfl
  · obtain ⟨a, tb, us, rows, cs, n, D, rfl, ha, hc, hcl, hg, hn1, hn12, htb, htd, hD, kk⟩ := h
    refine ⟨_, (pss_cons (ps_set (i := 3) sc_least_spoil.nd rfl (Or.inl rfl) pe_non)
    (pss_cons (ps_for PassesOwn.never rfl (pi_range2 (by rfl) T.n_range (pa_cons pe_int (pa_cons (pv 0) pa_nil))) (pg_name (i := 4) sc_least_spoil.nd rfl (Or.inl rfl))
    (pss_cons (ps_set (i := 5) sc_least_spoil.nd rfl (Or.inl rfl) (pe_cl G_walk_prices (hr.mono (by decide)) T.g_walk_prices pass0 (pa_cons (pv 0) (pa_cons (pv 1) (pa_cons (pv 4) (pa_cons (pe_op op_sub (pv 4) pe_int) pa_nil))))))
    (pss_one (ps_for PassesOwn.never rfl (pi_range2 (by rfl) T.n_range (pa_cons pe_int (pa_cons (pv 0) pa_nil))) (pg_name (i := 6) sc_least_spoil.nd rfl (Or.inl rfl))
    (pss_cons (ps_set (i := 7) sc_least_spoil.nd rfl (Or.inl rfl) (pe_ifExp (pt_cmpR op_gt (pe_ix (ix_listK rfl) (pe_ix (ix_listK rfl) (pv 2) (pv 4) (fun _ _ => rfl)) (pv 6) (fun _ _ => rfl)) pe_int (nomark _)) (pe_ix (ix_listK rfl) (pe_ix (ix_listK rfl) (pe_ix (ix_listK rfl) (pv 5) (pe_un un_neg pe_int) (fun _ _ => rfl)) (pv 6) (fun _ _ => rfl)) (pe_op op_sub (pe_ix (ix_listK rfl) (pe_ix (ix_listK rfl) (pv 2) (pv 4) (fun _ _ => rfl)) (pv 6) (fun _ _ => rfl)) pe_int) (fun _ _ => rfl)) pe_non))
    (pss_one (ps_if (PW.pt (pw_and (pt_cmpR op_notN (pv 7) pe_non (nomark _)) (pw_and1 (PW.pt (pw_or (pt_cmpR op_isN (pv 3) pe_non (nomark _)) (pw_or1 (pt_cmpR op_lt (pv 7) (pe_ix (ix_tupK rfl) (pv 3) pe_int (fun _ _ => rfl)) (nomark _))))))))
    (pss_one (ps_set (i := 3) sc_least_spoil.nd rfl (Or.inl rfl) (pe_tup (pa_cons (pv 7) (pa_cons (pv 4) (pa_cons (pv 6) (pa_cons (pe_cl G_walk_misses (hr.mono (by decide)) T.g_walk_misses pass0 (pa_cons (pv 1) (pa_cons (pv 5) (pa_cons (pv 6) (pa_cons (pe_op op_sub (pe_ix (ix_listK rfl) (pe_ix (ix_listK rfl) (pv 2) (pv 4) (fun _ _ => rfl)) (pv 6) (fun _ _ => rfl)) pe_int) pa_nil))))) pa_nil))))))) pss_nil)))))))
    (pss_one (ps_ret (pv 3))))), ?_⟩
    walk_at "go"
    refine r_ra2 (by omega) ?_
    rw [show ((n : Int) - 1).toNat = n - 1 by omega]
    refine for_it (walk_range (lo := 1) (n := n - 1)) (fun i σ H5 => ∃ v, (∃ o4 o5 o6 o7 : Option V, σ = [some (.int (n : Int)), some (.ref a), some (.ref tb), some v, o4, o5, o6, o7]) ∧ Same H H5 ∧ SpNew H H5 v (BM.bestTo n cs D i)) ⟨_, ⟨_, _, _, _, rfl⟩, same_refl _, rfl⟩ (fun t σ H5 _ z => trivial) (fun i v σ H5 H6 hi z y => ?_) (fun σ H5 z => ?_)
    · obtain ⟨v0, ⟨o4, o5, o6, o7, rfl⟩, z1, z2⟩ := z
      obtain ⟨rfl, ey⟩ := y
      have ey : v = .int ((i + 1 : Nat) : Int) := by
        rw [ey]
        exact congrArg V.int (show (1 : Int) + (i : Int) = ((i + 1 : Nat) : Int) by omega)
      subst ey
      walk_at "go"
      refine ⟨a, us, cs, n, i + 1, i, by rw [show ((i + 1 : Nat) : Int) - 1 = (i : Int) by omega]; rfl, z1 _ _ ha, hc.mono z1, hcl, hn12, by omega, hg, fun fd ys H7 e7 hfd h7 hys => ?_⟩
      walk_at "go"
      have zH : Same H H7 := same_trans z1 e7
      refine r_ra2 (by omega) ?_
      rw [show ((n : Int) - 1).toNat = n - 1 by omega]
      obtain ⟨rw_, rk, hrk⟩ := tabD_at htd (k := i + 1) (by omega)
      refine for_it (walk_range (lo := 1) (n := n - 1)) (fun j σ H5 => ∃ v, (∃ o6 o7 : Option V, σ = [some (.int (n : Int)), some (.ref a), some (.ref tb), some v, some (.int ((i + 1 : Nat) : Int)), some (.ref fd), o6, o7]) ∧ Same H7 H5 ∧ SpNew H H5 v (BM.bestIn cs D (i + 1) (BM.bestTo n cs D i) j)) ⟨_, ⟨_, _, rfl⟩, same_refl _, z2.mono e7⟩ (fun t σ H5 _ z => trivial) (fun j v σ H8 H9 hj z y => ?_) (fun σ H8 z => ?_)
      · obtain ⟨v1, ⟨o6, o7, rfl⟩, y1, y2⟩ := z
        obtain ⟨rfl, ey⟩ := y
        have ey : v = .int ((j + 1 : Nat) : Int) := by
          rw [ey]
          exact congrArg V.int (show (1 : Int) + (j : Int) = ((j + 1 : Nat) : Int) by omega)
        subst ey
        have zH9 : Same H H9 := same_trans zH y1
        have hd := hD (i + 1) (j + 1)
        obtain ⟨tb1, cols, cl, c1, c2, c3, c4⟩ := cell_at hys (i := cs.length) (j := j + 1) (Nat.le_refl _) (by omega)
        rw [List.take_length] at c4
        have hylen : ys.length = cs.length + 1 := by rw [hys.length, List.length_range]
        walk_at "go"
        refine r_ixL (zH9 _ _ htb) rfl rk ?_
        walk_at "go"
        refine r_ixL (zH9 _ _ hrk) rfl (vNr_at _ (by omega)) ?_
        walk_at "go"
        have step : BM.bestIn cs D (i + 1) (BM.bestTo n cs D i) (j + 1) = BM.stepT cs D (i + 1) (BM.bestIn cs D (i + 1) (BM.bestTo n cs D i) j) (j + 1) := BM.bestIn_succ _ _ _ _ _
        generalize BM.bestIn cs D (i + 1) (BM.bestTo n cs D i) j = best at *
        refine iteD (fun h => ?_) (fun h => ?_)
        · have h : 0 < D (i + 1) (j + 1) := by omega
          have ep : BM.priceAt cs D (i + 1) (j + 1) = BM.walk (i + 1) cs (j + 1) (D (i + 1) (j + 1) - 1) := if_pos h
          walk_at "go"
          refine r_ixEnd (y1 _ _ h7) hylen c1 ?_
          walk_at "go"
          refine r_ixL (y1 _ _ c2) rfl c3 ?_
          walk_at "go"
          refine r_ixL (zH9 _ _ htb) rfl rk ?_
          walk_at "go"
          refine r_ixL (zH9 _ _ hrk) rfl (vNr_at _ (by omega)) ?_
          walk_at "go"
          refine r_ixL (y1 _ _ c4) (j := D (i + 1) (j + 1) - 1) (by omega) (vO_get (by omega)) ?_
          walk_at "go"
          cases q : BM.walk (i + 1) cs (j + 1) (D (i + 1) (j + 1) - 1) with
          | none =>
            refine iteNoN rfl ?_
            walk_at "go"
            refine ⟨v1, ⟨_, _, rfl⟩, y1, ?_⟩
            rw [step]
            unfold BM.stepT
            rw [ep, q]
            exact y2
          | some p =>
            refine iteYesN (fun z => by cases z) ?_
            walk_at "go"
            have mk : ∀ (k2 : BM.stepT cs D (i + 1) best (j + 1) = some (p, i + 1, j + 1, BM.miss (i + 1) cs cs.length (j + 1) (D (i + 1) (j + 1) - 1))) (l q : Addr) (Hx Hy : Hp), Same H9 Hx → H l = none → Hx l = some (.lst (vN (BM.miss (i + 1) cs cs.length (j + 1) (D (i + 1) (j + 1) - 1)))) → Same Hx Hy → Hx q = none → Hy q = some (.tup [.int p, .int ((i + 1 : Nat) : Int), .int ((j + 1 : Nat) : Int), .ref l]) → SpNew H Hy (.ref q) (BM.bestIn cs D (i + 1) (BM.bestTo n cs D i) (j + 1)) := fun k2 l q Hx Hy s1 hl hl2 s2 hq hq2 => by
              rw [step, k2]
              exact ⟨q, l, rfl, none_below (same_trans zH9 s1) hq, hl, hq2, s2 _ _ hl2⟩
            cases best with
            | none =>
              obtain rfl : v1 = .non := y2
              refine iteYes rfl ?_
              walk_at "go"
              refine r_ixL (zH9 _ _ htb) rfl rk ?_
              walk_at "go"
              refine r_ixL (zH9 _ _ hrk) rfl (vNr_at _ (by omega)) ?_
              walk_at "go"
              refine ⟨a, fd, us, ys, cs, n, i + 1, i, j + 1, D (i + 1) (j + 1) - 1, by rw [show ((D (i + 1) (j + 1) - 1 : Nat) : Int) = (D (i + 1) (j + 1) : Int) - 1 by omega]; rfl, zH9 _ _ ha, hc.mono zH9, hcl, hg, y1 _ _ h7, pair_mono hys fun u i l => l.mono y1, by omega, by omega, fun l H10 e10 hl h10 => ?_⟩
              walk_at "go"
              refine r_new (by simp) fun q2 H11 e11 hq h11 => ?_
              walk_at "go"
              refine ⟨.ref q2, ⟨_, _, rfl⟩, same_trans y1 (same_trans e10 e11), ?_⟩
              refine mk ?_ l q2 H10 H11 e10 (none_below zH9 hl) h10 e11 hq h11
              unfold BM.stepT
              rw [ep, q]
            | some b =>
              obtain ⟨qb, lb, rfl, f1, f2, f3, f4⟩ := y2
              refine iteNo (fun z => by cases z) ?_
              walk_at "go"
              refine r_ixT f3 (j := 0) rfl rfl ?_
              refine r_I0 (i1 := p) ?_
              walk_at "go"
              refine iteD (fun h5 => ?_) (fun h5 => ?_)
              · walk_at "go"
                refine r_ixL (zH9 _ _ htb) rfl rk ?_
                walk_at "go"
                refine r_ixL (zH9 _ _ hrk) rfl (vNr_at _ (by omega)) ?_
                walk_at "go"
                refine ⟨a, fd, us, ys, cs, n, i + 1, i, j + 1, D (i + 1) (j + 1) - 1, by rw [show ((D (i + 1) (j + 1) - 1 : Nat) : Int) = (D (i + 1) (j + 1) : Int) - 1 by omega]; rfl, zH9 _ _ ha, hc.mono zH9, hcl, hg, y1 _ _ h7, pair_mono hys fun u i l => l.mono y1, by omega, by omega, fun l H10 e10 hl h10 => ?_⟩
                walk_at "go"
                refine r_new (by simp) fun q2 H11 e11 hq h11 => ?_
                walk_at "go"
                refine ⟨.ref q2, ⟨_, _, rfl⟩, same_trans y1 (same_trans e10 e11), ?_⟩
                refine mk ?_ l q2 H10 H11 e10 (none_below zH9 hl) h10 e11 hq h11
                unfold BM.stepT
                rw [ep, q]
                exact if_pos h5
              · walk_at "go"
                refine ⟨_, ⟨_, _, rfl⟩, y1, ?_⟩
                rw [step]
                unfold BM.stepT
                rw [ep, q]
                show SpNew H H9 (.ref qb) (if p < b.1 then _ else some b)
                rw [if_neg h5]
                exact ⟨qb, lb, rfl, f1, f2, f3, f4⟩
        · have ep : BM.priceAt cs D (i + 1) (j + 1) = none := if_neg (by omega)
          walk_at "go"
          refine iteNoN rfl ?_
          walk_at "go"
          refine ⟨v1, ⟨_, _, rfl⟩, y1, ?_⟩
          rw [step]
          unfold BM.stepT
          rw [ep]
          exact y2
      · obtain ⟨v1, ⟨o6, o7, rfl⟩, y1, y2⟩ := z
        walk_at "go"
        refine ⟨v1, ⟨_, _, _, _, rfl⟩, same_trans zH y1, ?_⟩
        rw [BM.bestTo_succ]
        exact y2
    · obtain ⟨v0, ⟨o4, o5, o6, o7, rfl⟩, z1, z2⟩ := z
      walk_at "go"
      exact kk v0 _ z1 z2
end
end BW
namespace BW
open PySem PySem.Spec PyProof.Rows L2
section
variable {P : Program} {w : World} {K : PySem.W.Frag} {mg : Str → Option Value} {base : Heap}

theorem list_rangeN (l : List Nat) : (List.range l.length).map (fun i => l.getD i 0) = l := by
  apply List.ext_getElem?
  intro i
  by_cases h : i < l.length
  · rw [range_map_at _ h, List.getElem?_eq_getElem h, BM.getD_lt 0 h]
  · rw [List.getElem?_eq_none (by simpa using h), List.getElem?_eq_none (by simpa using h)]
theorem count_range (l : List Nat) (p : Nat → Bool) : ((List.range l.length).filter fun i => p (l.getD i 0)).length = l.countP p := by
  conv => rhs; rw [← list_rangeN l]
  rw [List.countP_map, List.countP_eq_length_filter]
  rfl
/-- the members of a list that are at least t, counted -/
theorem lc_ge {H1 : Hp} {l : List Nat} {a D : Addr} {t : Nat} {σ : L2.St} {i : Nat} {vs : List Nat} {Qd : Hp → Prop} {tt : TT} {te : TE} (ha : H1 a = some (.lst (vN l))) (hD : H1 D = none) (hl : l.length ≤ 100)
    (hs : ∀ (n : Nat) (H : Hp) (QY : VK) (QN : Hp → Prop), (t ≤ n → QY (.int (n : Int)) H) → (¬ t ≤ n → QN H) → wipe ((wipe σ vs).set i (some (.int (n : Int)))) vs = wipe σ vs ∧ tt ((wipe σ vs).set i (some (.int (n : Int)))) H fun b H3 => if b = true then te ((wipe σ vs).set i (some (.int (n : Int)))) H3 QY else QN H3)
    (hd : ∀ H ys, Same H1 H → H D = some (.lst ys) → ys.length = l.countP (BM.ge t) → Qd H) :
    ∃ W : Nat → Nat → Hp → Prop, (∃ m, W 0 m (upd H1 D (.lst []))) ∧ ∀ j m H, W j m H →
      ((Itl K a).stop j H ∧ Qd H) ∨ ((Itl K a).go j H ∧ ∃ Nx : Hp → Prop, (∀ H', Nx H' → ∃ m', m' < m ∧ W (j + 1) m' H') ∧ ∀ x H', (Itl K a).yld j H x H' → gName i x (wipe σ vs) H' fun σ2 H2 => wipe σ2 vs = wipe σ vs ∧ tt σ2 H2 fun b H3 =>
        if b = true then te σ2 H3 fun y H4 => ∃ acc, H4 D = some (.lst acc) ∧ acc.length < sizeLine ∧ Nx (upd H4 D (.lst (acc ++ [y]))) else Nx H3) := by
  refine lc_vals (walk_list (xs := vN l)) hD (fun i => BM.ge t (l.getD i 0)) (fun i => .int ((l.getD i 0 : Nat) : Int)) (by rw [vN_len]; omega) (fun H1 e => sl_of (e _ _ ha)) (fun i H x H' y => at_same y) (fun j x H2 H3 QY QN hj e y kY kN => ?_) (fun H2 e hD1 => ?_)
  · obtain ⟨rfl, y⟩ := y
    obtain ⟨hj, rfl⟩ := vN_of y
    exact hs (l.getD j 0) H3 QY QN (fun h => kY (decide_eq_true h) _ (same_refl _)) (fun h => kN (decide_eq_false h) _ (same_refl _))
  · refine hd H2 _ e hD1 ?_
    rw [List.length_map, vN_len, count_range]
/-- _law_demands(order) -/
theorem sc_law_demands : FnScope ["_law_order", "_law_size", "_law_rank", "_law_t", "_law_k"] ["_law_order"] (defScope s_law_demands) := ⟨rfl, rfl, rfl, by decide +kernel, rfl, by decide +kernel, by decide +kernel⟩
theorem ok_law_demands (T : Tx K mg) : Def P w K mg base CX0 1 (He.ga K "_law_demands") ["_law_order"] spDemands := by
  refine mk0 T.f_law_demands sc_law_demands (fun _ _ _ _ _ _ us hl => match us, hl with | [_], _ => rfl) (fun vs H Q E h => ?_) (fun cdv A outer s H vs Q E hr h => ?_)
  · obtain ⟨a, x, rfl, _⟩ := h
    rfl
  · obtain ⟨a, x, rfl, ha, hn, kk⟩ := h
    refine ⟨_, (pss_cons (ps_set (i := 1) sc_law_demands.nd rfl (Or.inr rfl) (pe_op op_add (pe_callB (call_lenK rfl) (by rfl) T.n_len PySem.boot_len (pa_cons (pv 0) pa_nil)) pe_int))
    (pss_one (ps_ret (pe_lc (own := [("_law_k", 4)]) (by rfl) sc_law_demands.nd (pi_range1 (by rfl) T.n_range (pa_cons (pv 1) pa_nil)) (blkOk_by (by kernel_rfl)) (fun _ _ _ _ _ => (pg_name (i := 4) sc_law_demands.nd rfl (Or.inr rfl))) (fun _ _ _ _ _ => pts_nil) (fun _ _ _ _ _ => (pe_lc (own := [("_law_t", 3)]) (by rfl) sc_law_demands.nd (pi_range1 (by rfl) T.n_range (pa_cons (pv 1) pa_nil)) (blkOk_by (by kernel_rfl)) (fun _ _ _ _ _ => (pg_name (i := 3) sc_law_demands.nd rfl (Or.inr rfl))) (fun _ _ _ _ _ => pts_nil) (fun _ _ _ _ _ => (pe_callB (call_lenK rfl) (by rfl) T.n_len PySem.boot_len (pa_cons (pe_lc (own := [("_law_rank", 2)]) (by rfl) sc_law_demands.nd (pi_listK rfl (pe_slice (sl_listK rfl) (pv 0) po_none (po_some (pv 4)))) (blkOk_by (by kernel_rfl)) (fun _ _ _ _ _ => (pg_name (i := 2) sc_law_demands.nd rfl (Or.inl rfl))) (fun _ _ _ _ _ => pts_one (pt_cmpR op_ge (pv 2) (pv 3) (nomark _))) (fun _ _ _ _ _ => (pv 2))) pa_nil))))))))), ?_⟩
    walk_at "go"
    refine r_lenL ha ?_
    walk_at "go"
    rw [vN_len]
    refine r_ra (by omega) (by omega) ?_
    rw [show ((x.length : Int) + 1).toNat = x.length + 1 by omega]
    intro D hD
    refine lc_new walk_range hD (fun k => .lst (vN ((List.range (x.length + 1)).map (BM.dem x k)))) (by omega) (fun H1 e => trivial) (fun i H x H' y => fn_same y) (fun k v H1 H' QY QN hk e y k1 => ?_) (fun H1 ys e hD1 hy => ?_)
    · obtain ⟨rfl, ey⟩ := y
      have ey : v = .int (k : Int) := by rw [ey]; exact congrArg V.int (by omega)
      subst ey
      walk_at "go"
      refine ⟨rfl, ?_⟩
      walk_at "go"
      refine r_ra (by omega) (by omega) ?_
      rw [show ((x.length : Int) + 1).toNat = x.length + 1 by omega]
      intro D2 hD2
      refine lc_vals walk_range hD2 (fun _ => true) (fun t => .int ((BM.dem x k t : Nat) : Int)) (by omega) (fun H1 e => trivial) (fun i H x H' y => fn_same y) (fun t v H2 H3 QY2 QN2 ht e2 y kY kN => ?_) (fun H2 e2 hD3 => ?_)
      · obtain ⟨rfl, ey⟩ := y
        have ey : v = .int (t : Int) := by rw [ey]; exact congrArg V.int (by omega)
        subst ey
        walk_at "go"
        refine ⟨rfl, ?_⟩
        walk_at "go"
        refine r_slTo (i := k) (e2 _ _ (e _ _ ha)) rfl (by rw [vN_len]; omega) fun p H4 e4 hp h4 => ?_
        have h4 : H4 p = some (.lst (vN (x.take k))) := by
          rw [h4]
          unfold vN
          rw [List.map_take]
        refine r_li h4 ?_
        intro D3 hD3
        refine lc_ge (t := t) h4 hD3 (by rw [List.length_take]; omega) (fun n H5 QY3 QN3 q1 q2 => ⟨rfl, ?_⟩) (fun H5 ys e5 h5 hc => ?_)
        · walk_at "go"
          refine iteD (fun h => ?_) (fun h => ?_)
          · walk_at "go"
            exact q1 (by omega)
          · walk_at "go"
            exact q2 (by omega)
        · walk_at "go"
          refine r_lenL h5 ?_
          rw [hc]
          exact kY rfl _ (same_trans e4 e5)
      · rw [List.filter_eq_self.mpr (fun _ _ => rfl)] at hD3
        refine k1 D2 _ hD2 e2 ?_
        rw [hD3]
        unfold vN
        rw [List.map_map]
        rfl
    · walk_at "go"
      refine kk D ys _ e hD hD1 (pair_map hy)
end
end BW
namespace BW
open PySem PySem.Spec PyProof.Rows L2
section
variable {P : Program} {w : World} {K : PySem.W.Frag} {mg : Str → Option Value} {base : Heap}

theorem HereAt.but {H H' : Hp} {d : Addr} {a : Adr} {L : BM.Ln} {fp : List Addr} (h : HereAt H d a L) (e : But fp H H') (hf : ∀ x ∈ a.all, x ∉ fp) (hd : d ∉ fp) (ht : ∀ b ∈ fp, ∀ xs, H b ≠ some (.tup xs)) : HereAt H' d a L := ⟨e _ _ h.d hd, h.f.but e hf ht⟩
theorem BagAt.lst {H : Hp} {b c : Addr} (h : BagAt H b c) : ∃ xs, H b = some (.lst xs) := by
  obtain ⟨z, s, i, cells, h1, _⟩ := h
  exact ⟨_, h1⟩
theorem BagAt.notup {H : Hp} {b c : Addr} (h : BagAt H b c) : ∀ x ∈ [b], ∀ xs, H x ≠ some (.tup xs) := by
  obtain ⟨ys, e⟩ := h.lst
  intro x hx xs z
  rw [List.mem_singleton.mp hx, e] at z
  cases z
/-- the bag and the line -/
structure BagHere (H : Hp) (b c d : Addr) (a : Adr) (L : BM.Ln) : Prop where
  bag : BagAt H b c
  here : HereAt H d a L
  off : b ∉ a.all
theorem BagHere.but {H H' : Hp} {b c d : Addr} {a : Adr} {L : BM.Ln} (h : BagHere H b c d a L) (e : But [b] H H') (hb : BagAt H' b c) : BagHere H' b c d a L := by
  obtain ⟨ys, e1⟩ := h.bag.lst
  refine ⟨hb, h.here.but e (fun x hx z => h.off (by rw [← List.mem_singleton.mp z]; exact hx)) (fun z => ?_) h.bag.notup, h.off⟩
  have := List.mem_singleton.mp z
  rw [← this, h.here.d] at e1
  cases e1
theorem BagHere.same {H H' : Hp} {b c d : Addr} {a : Adr} {L : BM.Ln} (h : BagHere H b c d a L) (e : Same H H') : BagHere H' b c d a L := ⟨h.bag.same e, h.here.same e, h.off⟩
/-- _law_deed(bag, here) -/
def spDeed : Sp := fun vs H Q _ => ∃ (b c d : Addr) (a : Adr) (L : BM.Ln), vs = [.ref b, .ref d] ∧ BagHere H b c d a L ∧ LnSmall L ∧ ∀ v H' dd, But [b] H H' → BagHere H' b c d a L → DeedAt H' v dd → dd.ok → Q v H'
theorem sc_law_deed : FnScope ["_law_bag_here", "_law_here", "_law_way", "_law_most", "_law_cost"] ["_law_bag_here", "_law_here"] (defScope s_law_deed) := ⟨rfl, rfl, rfl, by decide +kernel, rfl, by decide +kernel, by decide +kernel⟩
theorem ok_law_deed (T : Tx K mg) : Def P w K mg base CX0 2 (He.ga K "_law_deed") ["_law_bag_here", "_law_here"] spDeed := by
  have G_law_take := ok_law_take (P := P) (w := w) (base := base) T
  refine mk0 T.f_law_deed sc_law_deed (fun _ _ _ _ _ _ us hl => match us, hl with | [_, _], _ => rfl) (fun vs H Q E h => ?_) (fun cdv A outer s H vs Q E hr h => ?_)
  · obtain ⟨b, c, d, a, L, rfl, _⟩ := h
    rfl
  · obtain ⟨b, c, d, a, L, rfl, hh, sm, kk⟩ := h
    refine ⟨_, (pss_cons (ps_set (i := 2) sc_law_deed.nd rfl (Or.inl rfl) (pe_cl G_law_take (hr.mono (by decide)) T.g_law_take pass0 (pa_cons (pv 0) (pa_cons pe_int pa_nil))))
    (pss_cons (ps_if (PW.pt (pw_or (pt_cmpR op_eq (pv 2) pe_int (nomark _)) (pw_or1 (PW.pt (pw_and (pt_cmpR op_lt (pe_callB (call_lenK rfl) (by rfl) T.n_len PySem.boot_len (pa_cons (pe_dget (hu_of hr) (pv 1) pe_str (fun _ _ => rfl)) pa_nil)) pe_int (nomark _)) (pw_and1 (pt_cmpR op_lt (pv 2) pe_int (nomark _))))))))
    (pss_one (ps_ret (pe_tup (pa_cons pe_str (pa_cons (pe_ix (ix_listK rfl) (pe_lst (pa_cons (pe_op op_sub (pe_cl G_law_take (hr.mono (by decide)) T.g_law_take pass0 (pa_cons (pv 0) (pa_cons pe_int pa_nil))) pe_int) (pa_cons (pe_op op_sub (pe_cl G_law_take (hr.mono (by decide)) T.g_law_take pass0 (pa_cons (pv 0) (pa_cons (pe_op op_pow pe_int pe_int) pa_nil))) (pe_op op_pow pe_int pe_int)) pa_nil))) (pe_callTy call_int1 (by rfl) T.n_int (by decide +kernel) (pa_cons (pe_cmpR op_eq (pe_cl G_law_take (hr.mono (by decide)) T.g_law_take pass0 (pa_cons (pv 0) (pa_cons pe_int pa_nil))) pe_int (nomark _)) pa_nil)) (fun _ _ => rfl)) pa_nil))))) pss_nil)
    (pss_cons (ps_if (PW.pt (pw_or (PW.pt (pw_and (pt_cmpR op_eq (pv 2) pe_int (nomark _)) (pw_and1 (pt_cmpR (op_neDK rfl hr.units) (pe_dget (hu_of hr) (pv 1) pe_str (fun _ _ => rfl)) (pe_lst pa_nil) (nomark _))))) (pw_or1 (pt_cmpR op_eq (pv 2) pe_int (nomark _)))))
    (pss_one (ps_ret (pe_tup (pa_cons pe_str pa_nil)))) pss_nil)
    (pss_cons (ps_set (i := 3) sc_law_deed.nd rfl (Or.inl rfl) (pe_op op_add (pe_callB (call_max2 rfl) (by rfl) T.n_max (by decide +kernel) (pa_cons pe_int (pa_cons (pe_op op_sub (pe_callB (call_lenK rfl) (by rfl) T.n_len PySem.boot_len (pa_cons (pe_dget (hu_of hr) (pv 1) pe_str (fun _ _ => rfl)) pa_nil)) pe_int) pa_nil))) (pe_callTy call_int1 (by rfl) T.n_int (by decide +kernel) (pa_cons (pe_cmpR op_eq (pe_cl G_law_take (hr.mono (by decide)) T.g_law_take pass0 (pa_cons (pv 0) (pa_cons pe_int pa_nil))) pe_int (nomark _)) pa_nil))))
    (pss_cons (ps_set (i := 4) sc_law_deed.nd rfl (Or.inl rfl) (pe_ix (ix_listK rfl) (pe_lst (pa_cons pe_int (pa_cons (pe_cl G_law_take (hr.mono (by decide)) T.g_law_take pass0 (pa_cons (pv 0) (pa_cons pe_int pa_nil))) (pa_cons (pe_op op_pow pe_int pe_int) pa_nil)))) (pe_cl G_law_take (hr.mono (by decide)) T.g_law_take pass0 (pa_cons (pv 0) (pa_cons pe_int pa_nil))) (fun _ _ => rfl)))
    (pss_one (ps_ret (pe_tup (pa_cons pe_str (pa_cons (pe_cl G_law_take (hr.mono (by decide)) T.g_law_take pass0 (pa_cons (pv 0) (pa_cons (pv 3) pa_nil))) (pa_cons (pv 4) (pa_cons (pe_cmpR op_gt (pe_cl G_law_take (hr.mono (by decide)) T.g_law_take pass0 (pa_cons (pv 0) (pa_cons pe_int pa_nil))) pe_int (nomark _)) pa_nil)))))))))))), ?_⟩
    have hlen := sm.ok.len
    have h12 := sm.ok.n12
    refine r_seqG (fun σ H1 => ∃ way : Int, 0 ≤ way ∧ way < 6 ∧ σ = [some (.ref b), some (.ref d), some (.int way), none, none] ∧ But [b] H H1 ∧ BagHere H1 b c d a L) (fun nx hnx => ?_) (fun σ H1 z => ?_)
    · walk_at "go"
      refine ⟨b, c, 6, rfl, hh.bag, by decide, by decide, fun way H1 b1 g1 w0 w6 => ?_⟩
      walk_at "go"
      exact hnx _ _ ⟨way, w0, w6, rfl, b1, hh.but b1 g1⟩
    · obtain ⟨way, w0, w6, rfl, b1, hh1⟩ := z
      have serve : ∀ H2, Same H1 H2 → ∀ p H3, Same H2 H3 → H3 p = some (.tup [.str "serve"]) → Q (.ref p) H3 := fun H2 e2 p H3 e3 h3 =>
        kk _ _ .serve (b1.trans ((But.same (same_trans e2 e3) _))) (hh1.same (same_trans e2 e3)) ⟨p, rfl, h3⟩ trivial
      -- an arrival
      have arr : ∀ (N : L2.St → Hp → Prop) (p : Int) H2 H3 q, (-(10 ^ 40) ≤ p ∧ p ≤ 10 ^ 40) → But [b] H H2 → BagHere H2 b c d a L → Same H2 H3 → H3 q = some (.tup [.str "arrive", .int p]) → Q (.ref q) H3 := fun N p H2 H3 q hp b2 g2 e3 h3 =>
        kk _ _ (.arrive p) (b2.trans (But.same e3 _)) (g2.same e3) ⟨q, rfl, h3⟩ hp
      refine r_seqG (fun σ H2 => ¬ way = 0 ∧ σ = [some (.ref b), some (.ref d), some (.int way), none, none] ∧ H2 = H1) (fun nx hnx => ?_) (fun σ H2 z => ?_)
      · have one : tRet (tTup (tCons (tC (V.str "arrive")) (tCons (tOp (rIxL K) (tLst (tCons (tOp (rI0 fun i j => V.int (i - j)) (tCall spTake [] E0 (tCons (tVar 0) (tCons (tC (V.int 6)) tNil))) (tC (V.int 2))) (tCons (tOp (rI0 fun i j => V.int (i - j)) (tCall spTake [] E0 (tCons (tVar 0) (tCons (tOp (rI CPow fun i j => V.int (i ^ j.toNat)) (tC (V.int 10)) (tC (V.int 40))) tNil))) (tOp (rI CPow fun i j => V.int (i ^ j.toNat)) (tC (V.int 10)) (tC (V.int 39)))) tNil)))
            (tCB (fun xs H Q => (∃ i, xs = [V.int i] ∧ Q (V.int i) H) ∨ ∃ k, xs = [V.bl k] ∧ Q (V.int (if k = true then 1 else 0)) H) (tCons (tOp rEq (tCall spTake [] E0 (tCons (tVar 0) (tCons (tC (V.int 8)) tNil))) (tC (V.int 0))) tNil))) tNil)))
            { nx := nx, rt := Q } ([some (.ref b), some (.ref d), some (.int way), none, none] : L2.St) H1 := by
          walk_at "go"
          refine ⟨b, c, 6, rfl, hh1.bag, by decide, by decide, fun v1 H2 b2 g2 s0 s6 => ?_⟩
          have hh2 := hh1.but b2 g2
          walk_at "go"
          refine r_I ⟨by decide, by decide, by decide⟩ ?_
          walk_at "go"
          refine ⟨b, c, _, rfl, hh2.bag, by decide, by decide, fun v2 H3 b3 g3 s20 s21 => ?_⟩
          have hh3 := hh2.but b3 g3
          walk_at "go"
          refine r_I ⟨by decide, by decide, by decide⟩ ?_
          walk_at "go"
          refine r_new (by simp) fun p H4 e4 hp h4 => ?_
          walk_at "go"
          have hh4 := hh3.same e4
          refine ⟨b, c, 8, rfl, hh4.bag, by decide, by decide, fun v3 H5 b5 g5 _ _ => ?_⟩
          have hh5 := hh4.but b5 g5
          have pb : p ∉ [b] := fun z => by
            have e := List.mem_singleton.mp z
            obtain ⟨ys, q⟩ := hh3.bag.lst
            rw [e, q] at hp
            cases hp
          have h5 := b5 _ _ h4 pb
          walk_at "go"
          refine .inr ⟨_, rfl, ?_⟩
          have b15 : But [b] H H5 := b1.trans (b2.trans (b3.trans ((But.same e4 _).trans b5)))
          by_cases hv : v3 = 0
          · rw [if_pos (decide_eq_true hv)]
            refine r_ixL h5 (j := 1) rfl rfl ?_
            walk_at "go"
            refine r_new (by simp) fun q H6 e6 hq h6 => ?_
            refine arr (fun _ _ => True) _ H5 H6 q ?_ b15 hh5 e6 h6
            have : v2 < 10 ^ 40 := s21
            show -(10 ^ 40) ≤ v2 - 10 ^ 39 ∧ v2 - 10 ^ 39 ≤ 10 ^ 40
            omega
          · rw [if_neg (by simp [hv])]
            refine r_ixL h5 (j := 0) rfl rfl ?_
            walk_at "go"
            refine r_new (by simp) fun q H6 e6 hq h6 => ?_
            refine arr (fun _ _ => True) _ H5 H6 q ?_ b15 hh5 e6 h6
            show -(10 ^ 40) ≤ v1 - 2 ∧ v1 - 2 ≤ 10 ^ 40
            omega
        walk_at "go"
        refine iteD (fun h => iteT' one) (fun h => ?_)
        walk_at "go"
        refine r_dg hh1.here.d rfl ?_
        walk_at "go"
        refine r_lenL hh1.here.f.h2 ?_
        walk_at "go"
        refine iteD (fun h2 => ?_) (fun h2 => ?_)
        · walk_at "go"
          refine iteD (fun h3 => ?_) (fun h3 => ?_)
          · exact one
          · exact hnx _ _ ⟨h, rfl, rfl⟩
        · walk_at "go"
          exact hnx _ _ ⟨h, rfl, rfl⟩
      · obtain ⟨w1, rfl, rfl⟩ := z
        refine r_seqG (fun σ H3 => σ = [some (.ref b), some (.ref d), some (.int way), none, none] ∧ Same H2 H3) (fun nx hnx => ?_) (fun σ H3 z => ?_)
        · walk_at "go"
          refine iteD (fun h => ?_) (fun h => ?_)
          · walk_at "go"
            refine r_dg hh1.here.d rfl ?_
            walk_at "go"
            refine r_new (by simp) fun q H3 e3 hq h3 => ?_
            refine r_neN (m := []) (e3 _ _ hh1.here.f.h2) h3 ?_
            walk_at "go"
            refine iteDN (fun h2 => ?_) (fun h2 => ?_)
            · walk_at "go"
              refine r_new (by simp) fun p H4 e4 hp h4 => ?_
              exact serve H3 e3 p H4 e4 h4
            · walk_at "go"
              refine iteD (fun h3 => ?_) (fun h3 => ?_)
              · walk_at "go"
                refine r_new (by simp) fun p H4 e4 hp h4 => ?_
                exact serve H3 e3 p H4 e4 h4
              · walk_at "go"
                exact hnx _ _ ⟨rfl, e3⟩
          · walk_at "go"
            refine iteD (fun h3 => ?_) (fun h3 => ?_)
            · walk_at "go"
              refine r_new (by simp) fun p H4 e4 hp h4 => ?_
              exact serve H2 (same_refl _) p H4 e4 h4
            · walk_at "go"
              exact hnx _ _ ⟨rfl, same_refl _⟩
        · obtain ⟨rfl, e3⟩ := z
          have hh3 := hh1.same e3
          have b3 : But [b] H H3 := b1.trans (But.same e3 _)
          walk_at "go"
          refine r_dg hh3.here.d rfl ?_
          walk_at "go"
          refine r_lenL hh3.here.f.h2 ?_
          walk_at "go"
          rw [vN_len]
          refine r_max2 ?_
          walk_at "go"
          refine ⟨b, c, 8, rfl, hh3.bag, by decide, by decide, fun v1 H4 b4 g4 _ _ => ?_⟩
          have hh4 := hh3.but b4 g4
          have b4 := b3.trans b4
          walk_at "go"
          refine .inr ⟨_, rfl, ?_⟩
          walk_at "go"
          obtain ⟨most, hm, m1, m2⟩ : ∃ most : Int, most = (if (L.st.length : Int) - 1 > 1 then (L.st.length : Int) - 1 else 1) + (if decide (v1 = 0) = true then 1 else 0) ∧ 0 < most ∧ most ≤ 10 ^ 40 := ⟨_, rfl, by split <;> split <;> omega, by split <;> split <;> omega⟩
          rw [← hm]
          refine ⟨b, c, 5, rfl, hh4.bag, by decide, by decide, fun v2 H5 b5 g5 y0 y5 => ?_⟩
          have hh5 := hh4.but b5 g5
          have b5 := b4.trans b5
          walk_at "go"
          refine r_I ⟨by decide, by decide, by decide⟩ ?_
          walk_at "go"
          refine r_new (by simp) fun p H6 e6 hp h6 => ?_
          walk_at "go"
          have hh6 := hh5.same e6
          have b6 := b5.trans (But.same e6 _)
          refine ⟨b, c, 3, rfl, hh6.bag, by decide, by decide, fun v3 H7 b7 g7 z0 z3 => ?_⟩
          have pb : p ∉ [b] := fun z => by
            have e := List.mem_singleton.mp z
            obtain ⟨ys, q⟩ := hh5.bag.lst
            rw [e, q] at hp
            cases hp
          have h7 := b7 _ _ h6 pb
          have hh7 := hh6.but b7 g7
          have b7 := b6.trans b7
          obtain ⟨cost, hcost, c0, c1⟩ : ∃ cost : Int, ([V.int 1, .int v2, .int (10 ^ (18 : Int).toNat)] : List V)[v3.toNat]? = some (.int cost) ∧ 0 ≤ cost ∧ cost ≤ 10 ^ 18 := by
            rcases (show v3.toNat = 0 ∨ v3.toNat = 1 ∨ v3.toNat = 2 by omega) with e | e | e
            · rw [e]; exact ⟨1, rfl, by decide, by decide⟩
            · rw [e]; exact ⟨v2, rfl, by omega, by omega⟩
            · rw [e]; exact ⟨_, rfl, by decide, by decide⟩
          walk_at "go"
          refine r_ixL h7 (j := v3.toNat) (by omega) hcost ?_
          walk_at "go"
          refine ⟨b, c, most, rfl, hh7.bag, m1, m2, fun v4 H8 b8 g8 p0 p1 => ?_⟩
          have hh8 := hh7.but b8 g8
          have b8 := b7.trans b8
          walk_at "go"
          refine ⟨b, c, 4, rfl, hh8.bag, by decide, by decide, fun v5 H9 b9 g9 _ _ => ?_⟩
          have hh9 := hh8.but b9 g9
          have b9 := b8.trans b9
          walk_at "go"
          refine r_new (by simp) fun q H10 e10 hq h10 => ?_
          refine kk _ _ (.compare v4.toNat cost (decide (0 < v5))) (b9.trans (But.same e10 _)) (hh9.same e10) ⟨q, rfl, ?_⟩ ⟨c0, c1⟩
          rw [h10]
          show _ = some (HO.tup [.str "compare", .int ((v4.toNat : Nat) : Int), .int cost, .bl (decide (0 < v5))])
          rw [show ((v4.toNat : Nat) : Int) = v4 by omega]
end
end BW
namespace BW
open PySem PySem.Spec PyProof.Rows L2
section
variable {P : Program} {w : World} {K : PySem.W.Frag} {mg : Str → Option Value} {base : Heap}

def spLineDo (K : PySem.W.Frag) : Sp := fun vs H Q E => ∃ (x : Addr) (a : Adr) (L : BM.Ln) (v : V) (dd : BM.Deed), vs = [.ref x, v] ∧ DeedAt H v dd ∧ LineGo K H x a L (L.step dd) Q E
theorem sc_Line_do : FnScope ["self", "deed"] ["self", "deed"] (defScope s_Line_do) := ⟨rfl, rfl, rfl, by decide +kernel, rfl, by decide +kernel, by decide +kernel⟩
theorem ok_Line_do (T : Tx K mg) : Def P w K mg base (L2N.CX P w) 4 (He.ma K (He.ga K "Line") "do") ["self", "deed"] (spLineDo K) := by
  have G_Line_arrive := ok_Line_arrive (P := P) (w := w) (base := base) T
  have G_Line_serve := ok_Line_serve (P := P) (w := w) (base := base) T
  have G_Line_compare := ok_Line_compare (P := P) (w := w) (base := base) T
  refine mkX T.f_Line_do sc_Line_do (fun _ _ _ _ _ _ us hl => match us, hl with | [_, _], _ => rfl) (fun vs H Q E h => ?_) (fun cdv A outer s H vs Q E hr h => ?_)
  · obtain ⟨x, a, L, v, dd, rfl, _⟩ := h
    rfl
  · obtain ⟨x, a, L, v, dd, rfl, ⟨q, rfl, hq⟩, go⟩ := h
    refine ⟨_, (pss_cons (ps_if (pt_cmpR op_eq (pe_ix (ix_tupK rfl) (pv 1) pe_int (fun _ _ => rfl)) pe_str (nomark _))
    (pss_one (ps_ret (pe_mt (pv 0) T.c_Line T.m_Line_arrive G_Line_arrive (hr.mono (by decide)) (L2N.passes_call (L2N.takes_of rfl rfl rfl rfl) (fun _ _ _ _ h => h)) (pa_cons (pe_ix (ix_tupK rfl) (pv 1) pe_int (fun _ _ => rfl)) pa_nil)))) pss_nil)
    (pss_cons (ps_if (pt_cmpR op_eq (pe_ix (ix_tupK rfl) (pv 1) pe_int (fun _ _ => rfl)) pe_str (nomark _))
    (pss_one (ps_ret (pe_mt0 (pv 0) T.c_Line T.m_Line_serve G_Line_serve (hr.mono (by decide)) (L2N.passes_call (L2N.takes_of rfl rfl rfl rfl) (fun _ _ _ _ h => h))))) pss_nil)
    (pss_one (ps_ret (pe_mt (pv 0) T.c_Line T.m_Line_compare G_Line_compare (hr.mono (by decide)) (L2N.passes_call (L2N.takes_of rfl rfl rfl rfl) (fun _ _ _ _ h => h)) (pa_cons (pe_ix (ix_tupK rfl) (pv 1) pe_int (fun _ _ => rfl)) (pa_cons (pe_ix (ix_tupK rfl) (pv 1) pe_int (fun _ _ => rfl)) (pa_cons (pe_ix (ix_tupK rfl) (pv 1) pe_int (fun _ _ => rfl)) pa_nil)))))))), ?_⟩
    obtain ⟨dx, hx⟩ := go.l.x
    cases dd with
    | arrive p =>
      walk_at "go"
      refine r_ixT hq (j := 0) rfl rfl ?_
      walk_at "go"
      refine iteYes rfl ?_
      walk_at "go"
      refine r_meth hx rfl ?_
      walk_at "go"
      refine r_ixT hq (j := 1) rfl rfl ?_
      walk_at "go"
      exact ⟨x, a, L, p, rfl, go⟩
    | serve =>
      walk_at "go"
      refine r_ixT hq (j := 0) rfl rfl ?_
      walk_at "go"
      refine iteNo (by decide) ?_
      walk_at "go"
      refine r_ixT hq (j := 0) rfl rfl ?_
      walk_at "go"
      refine iteYes rfl ?_
      walk_at "go"
      refine r_meth hx rfl ?_
      walk_at "go"
      exact ⟨x, a, L, rfl, go⟩
    | compare pos price done =>
      walk_at "go"
      refine r_ixT hq (j := 0) rfl rfl ?_
      walk_at "go"
      refine iteNo (by decide) ?_
      walk_at "go"
      refine r_ixT hq (j := 0) rfl rfl ?_
      walk_at "go"
      refine iteNo (by decide) ?_
      walk_at "go"
      refine r_meth hx rfl ?_
      walk_at "go"
      refine r_ixT hq (j := 1) rfl rfl ?_
      walk_at "go"
      refine r_ixT hq (j := 2) rfl rfl ?_
      walk_at "go"
      refine r_ixT hq (j := 3) rfl rfl ?_
      walk_at "go"
      exact ⟨x, a, L, pos, price, done, rfl, go⟩
/-- is_deed(thing): asked of deeds -/
def spIsDeedP : Sp := fun vs H Q _ => ∃ (v : V) (dd : BM.Deed), vs = [v] ∧ DeedAt H v dd ∧ dd.ok ∧ Q (.bl true) H
theorem sc_is_deed : FnScope ["thing"] ["thing"] (defScope s_is_deed) := ⟨rfl, rfl, rfl, by decide +kernel, rfl, by decide +kernel, by decide +kernel⟩
theorem ok_is_deed (T : Tx K mg) : Def P w K mg base CX0 4 (He.ga K "is_deed") ["thing"] spIsDeedP := by
  have G_is_integer := ok_is_integer (P := P) (w := w) (base := base) T
  have G_is_price := ok_is_price (P := P) (w := w) (base := base) T
  refine mk0 T.f_is_deed sc_is_deed (fun _ _ _ _ _ _ us hl => match us, hl with | [_], _ => rfl) (fun vs H Q E h => ?_) (fun cdv A outer s H vs Q E hr h => ?_)
  · obtain ⟨v, dd, rfl, _⟩ := h
    rfl
  · obtain ⟨v, dd, rfl, ⟨q, rfl, hq⟩, ok, k⟩ := h
    refine ⟨_, (pss_cons (ps_if (PW.pt (pw_or (pt_not (pt_val (pe_callB (call_isiK rfl) (by rfl) T.n_isinstance (by decide +kernel) (pa_cons (pv 0) (pa_cons (pe_ty T.n_tuple (by decide +kernel) (n := "tuple")) pa_nil))))) (pw_or (pt_cmpR op_eq (pe_callB (call_lenK rfl) (by rfl) T.n_len PySem.boot_len (pa_cons (pv 0) pa_nil)) pe_int (nomark _)) (pw_or1 (pt_not (pt_val (pe_callB (call_isiK rfl) (by rfl) T.n_isinstance (by decide +kernel) (pa_cons (pe_ix (ix_tupK rfl) (pv 0) pe_int (fun _ _ => rfl)) (pa_cons (pe_ty T.n_str (by decide +kernel) (n := "str")) pa_nil)))))))))
    (pss_one (ps_ret pe_bl)) pss_nil)
    (pss_cons (ps_if (pt_cmpR op_eq (pe_ix (ix_tupK rfl) (pv 0) pe_int (fun _ _ => rfl)) pe_str (nomark _))
    (pss_one (ps_ret (pe_and (pe_cmpR op_eq (pe_callB (call_lenK rfl) (by rfl) T.n_len PySem.boot_len (pa_cons (pv 0) pa_nil)) pe_int (nomark _)) (pe_one (pe_cl G_is_integer (hr.mono (by decide)) T.g_is_integer pass0 (pa_cons (pe_ix (ix_tupK rfl) (pv 0) pe_int (fun _ _ => rfl)) pa_nil)))))) pss_nil)
    (pss_cons (ps_if (pt_cmpR op_eq (pe_ix (ix_tupK rfl) (pv 0) pe_int (fun _ _ => rfl)) pe_str (nomark _))
    (pss_one (ps_ret (pe_cmpR op_eq (pe_callB (call_lenK rfl) (by rfl) T.n_len PySem.boot_len (pa_cons (pv 0) pa_nil)) pe_int (nomark _)))) pss_nil)
    (pss_cons (ps_if (PW.pt (pw_or (pt_cmpR op_ne (pe_ix (ix_tupK rfl) (pv 0) pe_int (fun _ _ => rfl)) pe_str (nomark _)) (pw_or (pt_cmpR op_ne (pe_callB (call_lenK rfl) (by rfl) T.n_len PySem.boot_len (pa_cons (pv 0) pa_nil)) pe_int (nomark _)) (pw_or (pt_not (pt_val (pe_cl G_is_integer (hr.mono (by decide)) T.g_is_integer pass0 (pa_cons (pe_ix (ix_tupK rfl) (pv 0) pe_int (fun _ _ => rfl)) pa_nil)))) (pw_or1 (pt_cmpR op_lt (pe_ix (ix_tupK rfl) (pv 0) pe_int (fun _ _ => rfl)) pe_int (nomark _)))))))
    (pss_one (ps_ret pe_bl)) pss_nil)
    (pss_one (ps_ret (pe_and (pe_cl G_is_price (hr.mono (by decide)) T.g_is_price pass0 (pa_cons (pe_ix (ix_tupK rfl) (pv 0) pe_int (fun _ _ => rfl)) pa_nil)) (pe_one (pe_callB (call_isiK rfl) (by rfl) T.n_isinstance (by decide +kernel) (pa_cons (pe_ix (ix_tupK rfl) (pv 0) pe_int (fun _ _ => rfl)) (pa_cons (pe_ty T.n_bool (by decide +kernel) (n := "bool")) pa_nil))))))))))), ?_⟩
    walk_at "go"
    refine r_isi (.ty _) (.base (.tup hq)) kit_tt ?_
    walk_at "go"
    refine r_lenT hq ?_
    cases dd with
    | arrive p =>
      walk_at "go"
      refine iteNo (by simp [vD]) ?_
      walk_at "go"
      refine r_ixT hq (j := 0) rfl rfl ?_
      walk_at "go"
      refine r_isi (.ty _) (.base (.str _)) kit_ss ?_
      walk_at "go"
      refine r_ixT hq (j := 0) rfl rfl ?_
      walk_at "go"
      refine iteYes rfl ?_
      walk_at "go"
      refine r_lenT hq ?_
      walk_at "go"
      refine iteYes rfl ?_
      walk_at "go"
      refine r_ixT hq (j := 1) rfl rfl ?_
      walk_at "go"
      exact ⟨p, rfl, k⟩
    | serve =>
      walk_at "go"
      refine iteNo (by decide) ?_
      walk_at "go"
      refine r_ixT hq (j := 0) rfl rfl ?_
      walk_at "go"
      refine r_isi (.ty _) (.base (.str _)) kit_ss ?_
      walk_at "go"
      refine r_ixT hq (j := 0) rfl rfl ?_
      walk_at "go"
      refine iteNo (by decide) ?_
      walk_at "go"
      refine r_ixT hq (j := 0) rfl rfl ?_
      walk_at "go"
      refine iteYes rfl ?_
      walk_at "go"
      refine r_lenT hq ?_
      walk_at "go"
      exact k
    | compare pos price done =>
      walk_at "go"
      refine iteNo (by simp [vD]) ?_
      walk_at "go"
      refine r_ixT hq (j := 0) rfl rfl ?_
      walk_at "go"
      refine r_isi (.ty _) (.base (.str _)) kit_ss ?_
      walk_at "go"
      refine r_ixT hq (j := 0) rfl rfl ?_
      walk_at "go"
      refine iteNo (by decide) ?_
      walk_at "go"
      refine r_ixT hq (j := 0) rfl rfl ?_
      walk_at "go"
      refine iteNo (by decide) ?_
      walk_at "go"
      refine r_ixT hq (j := 0) rfl rfl ?_
      walk_at "go"
      refine iteNoN rfl ?_
      walk_at "go"
      refine r_lenT hq ?_
      walk_at "go"
      refine iteNoN rfl ?_
      walk_at "go"
      refine r_ixT hq (j := 1) rfl rfl ?_
      walk_at "go"
      refine ⟨pos, rfl, ?_⟩
      walk_at "go"
      refine r_ixT hq (j := 1) rfl rfl ?_
      walk_at "go"
      refine iteNo (by omega) ?_
      walk_at "go"
      refine r_ixT hq (j := 2) rfl rfl ?_
      walk_at "go"
      refine ⟨price, rfl, ok.1, ok.2, ?_⟩
      walk_at "go"
      refine r_ixT hq (j := 3) rfl rfl ?_
      walk_at "go"
      refine r_isi (.ty _) (.base (.bl done)) kit_bb ?_
      exact k
theorem sc_Broken_init : FnScope ["self", "at"] ["self", "at"] (defScope s_Broken_init) := ⟨rfl, rfl, rfl, by decide +kernel, rfl, by decide +kernel, by decide +kernel⟩
theorem ok_Broken_init (T : Tx K mg) : DefH P w K mg base 1 (He.ma K (He.ga K "Broken") "__init__") ["self", "at"] (spOex1 (He.ga K "Broken") "at") := by
  refine mkH T.f_Broken_init sc_Broken_init (fun _ _ _ _ _ _ us hl => match us, hl with | [_, _], _ => rfl) (fun vs H Q E h => ?_) (fun cdv A outer s H vs Q E p hot hr h => ?_)
  · obtain ⟨a, v, rfl, _⟩ := h
    rfl
  · obtain ⟨a, v, rfl, ha, k⟩ := h
    refine ⟨_, (pss_cons (ps_expr (pe_leinit T.x.le T.g_LineError (pa_cons (pv 0) pa_nil)))
    (pss_one (ps_ost (pv 0) (pv 1)))), ?_⟩
    walk_at "go"
    refine ⟨a, _, [], rfl, by simp, T.x.br.c, ha, ?_⟩
    walk_at "go"
    exact ⟨a, _, rfl, T.x.br.c, T.x.fat, .inl ⟨ha, k⟩⟩
/-- played(deeds) -/
def spPlayed (K : PySem.W.Frag) : Sp := fun vs H Q E => ∃ (g : Addr) (us : List V) (ds : List BM.Deed), vs = [.ref g] ∧ H g = some (.lst us) ∧ Deeds H us ds ∧ (∀ d ∈ ds, d.ok) ∧ ds.length ≤ 400 ∧
  (BM.replay ds = none → ∀ d H', Same H H' → E (.ref (He.ga K "Broken")) d H') ∧
  (∀ L, BM.replay ds = some L → ∀ x a H', Same H H' → H x = none → (∀ y ∈ a.all, H y = none) → LineAt K H' x a L → Q (.ref x) H')
theorem sc_played : FnScope ["deeds", "line", "at", "deed"] ["deeds"] (defScope s_played) := ⟨rfl, rfl, rfl, by decide +kernel, rfl, by decide +kernel, by decide +kernel⟩
theorem ok_played (T : Tx K mg) : Def P w K mg base (L2.CX P w) 5 (He.ga K "played") ["deeds"] (spPlayed K) := by
  have G_Line_init := ok_Line_init (P := P) (w := w) (base := base) T
  have G_is_deed := ok_is_deed (P := P) (w := w) (base := base) T
  have G_Line_do := ok_Line_do (P := P) (w := w) (base := base) T
  have G_Broken_init := ok_Broken_init (P := P) (w := w) (base := base) T
  refine mkX T.f_played sc_played (fun _ _ _ _ _ _ us hl => match us, hl with | [_], _ => rfl) (fun vs H Q E h => ?_) (fun cdv A outer s H vs Q E hr h => ?_)
  · obtain ⟨g, us, ds, rfl, _⟩ := h
    rfl
  · obtain ⟨g, us, ds, rfl, hg, hds, ok, hl, kN, kS⟩ := h
    refine ⟨_, (pss_cons (ps_set (i := 1) sc_played.nd rfl (Or.inl rfl) (pe_mk0 T.k_Line G_Line_init (hr.mono (by decide)) T.g_Line pass0))
    (pss_cons (ps_for (passes_of rfl) rfl (pi_enumK rfl (by rfl) T.n_enumerate (pa_cons (pv 0) pa_nil)) (pg_tupK (n := 2) rfl rfl (pgs_cons (pg_name (i := 2) sc_played.nd rfl (Or.inl rfl)) (pgs_cons (pg_name (i := 3) sc_played.nd rfl (Or.inl rfl)) pgs_nil)))
    (pss_cons (ps_if (pt_not (pt_val (pe_cl G_is_deed (hr.mono (by decide)) T.g_is_deed pass0 (pa_cons (pv 3) pa_nil))))
    pss_never pss_nil)
    (pss_one (L2H.ps_try_onlyX rfl rfl ⟨rfl, by decide, .inl T.g_LineError⟩ (fun hd => L2H.passesAt_of rfl hd) (takes_of rfl rfl rfl rfl) (fun W pn xe tk tk2 _ => (pss_one (ps_expr (pe_mtS (pv 1) T.c_Line T.m_Line_do G_Line_do (hr.mono (by decide)) (fun σ => L2N.passAt tk σ) (pa_cons (pv 3) pa_nil)))))
    (fun a oe cls d pn hz hf tkS hot => (pss_one (L2H.ps_raiseH hot tkS (pmkH_1 T.x.br.c T.x.br.i T.x.br.t G_Broken_init (L2H.roomH_mark (hr.mono (by decide)) _) hot T.g_Broken (pa_cons (pv 2) pa_nil)))))))))
    (pss_one (ps_ret (pv 1))))), ?_⟩
    walk_at "go"
    refine r_mkLine fun x a H1 e1 hx0 ha0 hl1 => ?_
    walk_at "go"
    refine r_en (e1 _ _ hg) ?_
    refine for_it (walk_enum (xs := us)) (fun t σ H5 => (∃ o2 o3 : Option V, σ = [some (.ref g), some (.ref x), o2, o3]) ∧ Same H H5 ∧ ∃ L, BM.replay (ds.take t) = some L ∧ LineAt K H5 x a L) ⟨⟨_, _, rfl⟩, e1, _, rfl, hl1⟩ (fun t σ H5 _ z => sl_of (z.2.1 _ _ hg)) (fun t v σ H5 H6 ht z y => ?_) (fun σ H5 z => ?_)
    · obtain ⟨⟨o2, o3, rfl⟩, z2, L, z3, z4⟩ := z
      obtain ⟨T', y1, rfl, hT, e8, h8, hy⟩ := en_of y
      obtain ⟨dd, hd1, hd2⟩ := pair_atL hds hy
      have hok := ok dd (List.mem_of_getElem? hd1)
      have sm : LnSmall L := small_of (l := ds.take t) (fun x hx => ok x (List.mem_of_mem_take hx)) z3 (by rw [List.length_take]; omega)
      have z5 := hd2.mono (same_trans z2 e8)
      have z6 := z4.same e8
      have rt := replay_take hd1
      rw [z3] at rt
      have rt : BM.replay (ds.take (t + 1)) = L.step dd := rt
      refine r_gtup h8 rfl ?_
      walk_at "go"
      refine ⟨y1, dd, rfl, z5, hok, ?_⟩
      walk_at "go"
      obtain ⟨dx, hx⟩ := z6.x
      refine r_meth hx rfl ?_
      walk_at "go"
      refine ⟨x, a, L, y1, dd, rfl, z5, z6, sm, fun hs C d H' hC e => ?_, fun L' hs r H7 b7 h7 hp => ?_⟩
      · refine ⟨true, ?_, fun _ b hb => ?_, fun q => by cases q⟩
        · rcases hC with rfl | rfl
          · exact T.e_TooMany
          · exact T.e_NoItems
        · refine r_raise1 ⟨_, rfl, rfl, rfl⟩ (fun d2 H2 e2 => ?_) (fun Q1 Q2 q z => ?_)
          · exact kN (replay_none (t := t + 1) (rt.trans hs)) d2 H2 (same_trans z2 (same_trans e8 (same_trans e e2)))
          · obtain ⟨v2, hv2, z⟩ := z
            exact ⟨v2, hv2, q _ _ z⟩
      · have e7 : Same H H7 := fun c o e => b7 c o (e8 _ _ (z2 _ _ e)) fun hc => by
          rw [ha0 c hc] at e
          cases e
        walk_at "go"
        exact ⟨⟨_, _, rfl⟩, e7, L', rt.trans hs, h7⟩
    · obtain ⟨⟨o2, o3, rfl⟩, z2, L, z3, z4⟩ := z
      walk_at "go"
      rw [hds.length, List.take_length] at z3
      exact kS L z3 x a _ z2 hx0 ha0 z4
end
end BW
namespace BW
open PySem PySem.Spec PyProof.Rows L2
section
variable {P : Program} {w : World} {K : PySem.W.Frag} {mg : Str → Option Value} {base : Heap}

theorem CsOk.unit {n : Nat} {cs : List (Nat × Int)} (h : CsOk n cs) : ∀ c ∈ BM.unit cs, 1 ≤ c.1 ∧ c.1 + 1 ≤ n := by
  intro c hc
  obtain ⟨d, hd, rfl⟩ := List.mem_map.mp hc
  exact h.g d hd
theorem unit_len (cs : List (Nat × Int)) : (BM.unit cs).length = cs.length := by simp [BM.unit]
/-- fewest_spoil(schedule, table) -/
def spFewest (K : PySem.W.Frag) : Sp := fun vs H Q _ => ∃ (x tb : Addr) (rows : List V) (cs : List (Nat × Int)) (n : Nat) (D : Nat → Nat → Nat), vs = [.ref x, .ref tb] ∧ SchAt K H x n cs ∧ CsOk n cs ∧ H tb = some (.lst rows) ∧ TabD H rows n D ∧ (∀ k t, D k t ≤ k) ∧ ∀ v H', Same H H' → SpNew H H' v (BM.leastSpoil n (BM.unit cs) D) → Q v H'
theorem SpNew.since {H0 H H' : Hp} {v : V} {b : Option BM.Spoil} (h : SpNew H H' v b) (e : Same H0 H) : SpNew H0 H' v b := by
  cases b with
  | none => exact h
  | some b =>
    obtain ⟨q, l, h1, h2, h3, h4, h5⟩ := h
    exact ⟨q, l, h1, none_below e h2, none_below e h3, h4, h5⟩
theorem sc_fewest_spoil : FnScope ["schedule", "table"] ["schedule", "table"] (defScope s_fewest_spoil) := ⟨rfl, rfl, rfl, by decide +kernel, rfl, by decide +kernel, by decide +kernel⟩
theorem ok_fewest_spoil (T : Tx K mg) : Def P w K mg base CX0 6 (He.ga K "fewest_spoil") ["schedule", "table"] (spFewest K) := by
  obtain ⟨pp, pg, G_prop, G_places⟩ := ok_places (P := P) (w := w) (base := base) T
  have G_least_spoil := ok_least_spoil (P := P) (w := w) (base := base) T
  have G_with_unit_prices := ok_with_unit_prices (P := P) (w := w) (base := base) T
  have G_Schedule_comparisons := ok_Schedule_comparisons (P := P) (w := w) (base := base) T
  refine mk0 T.f_fewest_spoil sc_fewest_spoil (fun _ _ _ _ _ _ us hl => match us, hl with | [_, _], _ => rfl) (fun vs H Q E h => ?_) (fun cdv A outer s H vs Q E hr h => ?_)
  · obtain ⟨x, tb, rows, cs, n, D, rfl, _⟩ := h
    rfl
  · obtain ⟨x, tb, rows, cs, n, D, rfl, hx, ok, htb, ht, hD, kk⟩ := h
    refine ⟨_, (pss_one (ps_ret (pe_cl G_least_spoil (hr.mono (by decide)) T.g_least_spoil pass0 (pa_cons (pe_pl G_prop G_places (hr.mono (by decide)) T.c_Schedule (pv 0)) (pa_cons (pe_cl G_with_unit_prices (hr.mono (by decide)) T.g_with_unit_prices pass0 (pa_cons (pe_mt0 (pv 0) T.c_Schedule T.m_Schedule_comparisons G_Schedule_comparisons (hr.mono (by decide)) pass0) pa_nil)) (pa_cons (pv 1) pa_nil)))))), ?_⟩
    obtain ⟨dx, l, us, h1, h2, h3⟩ := hx
    have := ok.l
    walk_at "go"
    refine ⟨x, dx, _, rfl, h1, x, dx, l, n, rfl, h1, ?_⟩
    walk_at "go"
    refine r_meth h1 rfl ?_
    walk_at "go"
    refine ⟨x, dx, l, us, n, rfl, h1, h2, fun p H1 e1 hp hp1 => ?_⟩
    walk_at "go"
    refine ⟨p, us, cs, rfl, hp1, h3.mono e1, by omega, fun p2 ys H2 e2 hp2 h2' hys => ?_⟩
    walk_at "go"
    have e12 := same_trans e1 e2
    refine ⟨p2, tb, ys, rows, BM.unit cs, n, D, rfl, h2', hys, by rw [unit_len]; omega, ok.unit, ok.n1, ok.n12, e12 _ _ htb, pair_mono ht fun u r z => z.mono e12, hD, fun v H3 e3 h3' => ?_⟩
    exact kk v H3 (same_trans e12 e3) (h3'.since e12)
def borneV (cs : List (Nat × Int)) : Option BM.Spoil → Option Int
  | none => some (cs.length : Int)
  | some b => if 0 < b.1 then some (b.1 - 1) else none
def spBorneOf (K : PySem.W.Frag) : Sp := fun vs H Q _ => ∃ (x : Addr) (v : V) (cs : List (Nat × Int)) (n : Nat) (b : Option BM.Spoil) (H0 : Hp), vs = [.ref x, v] ∧ SchAt K H x n cs ∧ cs.length ≤ 400 ∧ SpNew H0 H v b ∧ Q (oV (borneV cs b)) H
theorem sc_borne_of : FnScope ["schedule", "spoil"] ["schedule", "spoil"] (defScope s_borne_of) := ⟨rfl, rfl, rfl, by decide +kernel, rfl, by decide +kernel, by decide +kernel⟩
theorem ok_borne_of (T : Tx K mg) : Def P w K mg base CX0 3 (He.ga K "borne_of") ["schedule", "spoil"] (spBorneOf K) := by
  have G_Schedule_len := ok_Schedule_len (P := P) (w := w) (base := base) T
  refine mk0 T.f_borne_of sc_borne_of (fun _ _ _ _ _ _ us hl => match us, hl with | [_, _], _ => rfl) (fun vs H Q E h => ?_) (fun cdv A outer s H vs Q E hr h => ?_)
  · obtain ⟨x, v, cs, n, b, H0, rfl, _⟩ := h
    rfl
  · obtain ⟨x, v, cs, n, b, H0, rfl, hx, hl, hb, kk⟩ := h
    refine ⟨_, (pss_cons (ps_if (pt_cmpR op_isN (pv 1) pe_non (nomark _))
    (pss_one (ps_ret (pe_callB (cr_lenO G_Schedule_len T.m_Schedule_len (hr.mono (by decide))) (by rfl) T.n_len PySem.boot_len (pa_cons (pv 0) pa_nil)))) pss_nil)
    (pss_one (ps_ret (pe_ifExp (pt_cmpR op_gt (pe_ix (ix_tupK rfl) (pv 1) pe_int (fun _ _ => rfl)) pe_int (nomark _)) (pe_op op_sub (pe_ix (ix_tupK rfl) (pv 1) pe_int (fun _ _ => rfl)) pe_int) pe_non)))), ?_⟩
    obtain ⟨dx, l, us, h1, h2, h3⟩ := hx
    walk_at "go"
    cases b with
    | none =>
      obtain rfl : v = .non := hb
      refine iteYes rfl ?_
      walk_at "go"
      refine ⟨x, dx, _, rfl, h1, x, dx, l, us, n, rfl, h1, h2, us.length, rfl, ?_, ?_⟩
      · rw [h3.length]
        omega
      · rw [h3.length]
        exact kk
    | some b =>
      obtain ⟨q, l2, rfl, f1, f2, f3, f4⟩ := hb
      refine iteNo (fun z => by cases z) ?_
      walk_at "go"
      refine r_ixT f3 (j := 0) rfl rfl ?_
      walk_at "go"
      refine iteD (fun h => ?_) (fun h => ?_)
      · walk_at "go"
        refine r_ixT f3 (j := 0) rfl rfl ?_
        walk_at "go"
        have e : borneV cs (some b) = some (b.1 - 1) := if_pos h
        rw [e] at kk
        exact kk
      · walk_at "go"
        have e : borneV cs (some b) = none := if_neg h
        rw [e] at kk
        exact kk
def borneM (n : Nat) (cs : List (Nat × Int)) (x : List Nat) : Option Int := borneV cs (BM.leastSpoil n (BM.unit cs) (BM.dem x))
def spBorne (K : PySem.W.Frag) : Sp := fun vs H Q _ => ∃ (x o : Addr) (cs : List (Nat × Int)) (ord : List Nat), vs = [.ref x, .ref o] ∧ SchAt K H x ord.length cs ∧ CsOk ord.length cs ∧ H o = some (.lst (vN ord)) ∧ ∀ H', Same H H' → Q (oV (borneM ord.length cs ord)) H'
theorem sc_borne : FnScope ["schedule", "order"] ["schedule", "order"] (defScope s_borne_bearing) := ⟨rfl, rfl, rfl, by decide +kernel, rfl, by decide +kernel, by decide +kernel⟩
theorem ok_borne (T : Tx K mg) : Def P w K mg base CX0 7 (He.ga K "borne_bearing") ["schedule", "order"] (spBorne K) := by
  have G_borne_of := ok_borne_of (P := P) (w := w) (base := base) T
  have G_fewest_spoil := ok_fewest_spoil (P := P) (w := w) (base := base) T
  have G_demands := ok_demands (P := P) (w := w) (base := base) T
  refine mk0 T.f_borne_bearing sc_borne (fun _ _ _ _ _ _ us hl => match us, hl with | [_, _], _ => rfl) (fun vs H Q E h => ?_) (fun cdv A outer s H vs Q E hr h => ?_)
  · obtain ⟨x, o, cs, ord, rfl, _⟩ := h
    rfl
  · obtain ⟨x, o, cs, ord, rfl, hx, ok, ho, kk⟩ := h
    refine ⟨_, (pss_one (ps_ret (pe_cl G_borne_of (hr.mono (by decide)) T.g_borne_of pass0 (pa_cons (pv 0) (pa_cons (pe_cl G_fewest_spoil (hr.mono (by decide)) T.g_fewest_spoil pass0 (pa_cons (pv 0) (pa_cons (pe_cl G_demands (hr.mono (by decide)) T.g_demands pass0 (pa_cons (pv 1) pa_nil)) pa_nil))) pa_nil))))), ?_⟩
    have h12 := ok.n12
    walk_at "go"
    refine ⟨o, ord, rfl, ho, by omega, fun p ys H1 e1 hp h1 hys => ?_⟩
    walk_at "go"
    refine ⟨x, p, ys, cs, ord.length, BM.dem ord, rfl, hx.mono e1, ok, h1, hys, BM.dem_le ord, fun v H2 e2 h2 => ?_⟩
    walk_at "go"
    exact ⟨x, v, cs, ord.length, _, _, rfl, hx.mono (same_trans e1 e2), ok.l, h2, kk _ (same_trans e1 e2)⟩
/-- what is told of a spoil: ns says which numbers -/
def Told (ns : BM.Spoil → List Int) (H H' : Hp) (v : V) : Option BM.Spoil → Prop
  | none => ∃ q, v = .ref q ∧ H q = none ∧ H' q = some (.tup [.str "never"])
  | some b => ∃ q l, v = .ref q ∧ H q = none ∧ H l = none ∧ H' q = some (.tup (.str "misses" :: .ref l :: vI (ns b))) ∧ H' l = some (.lst (vN b.2.2.2))
theorem Told.mono {ns : BM.Spoil → List Int} {H H' H'' : Hp} {v : V} {b : Option BM.Spoil} (h : Told ns H H' v b) (e : Same H' H'') : Told ns H H'' v b := by
  cases b with
  | none =>
    obtain ⟨q, h1, h2, h3⟩ := h
    exact ⟨q, h1, h2, e _ _ h3⟩
  | some b =>
    obtain ⟨q, l, h1, h2, h3, h4, h5⟩ := h
    exact ⟨q, l, h1, h2, h3, e _ _ h4, e _ _ h5⟩
theorem Told.since {ns : BM.Spoil → List Int} {H0 H H' : Hp} {v : V} {b : Option BM.Spoil} (h : Told ns H H' v b) (e : Same H0 H) : Told ns H0 H' v b := by
  cases b with
  | none =>
    obtain ⟨q, h1, h2, h3⟩ := h
    exact ⟨q, h1, none_below e h2, h3⟩
  | some b =>
    obtain ⟨q, l, h1, h2, h3, h4, h5⟩ := h
    exact ⟨q, l, h1, none_below e h2, none_below e h3, h4, h5⟩
abbrev nsS (b : BM.Spoil) : List Int := [(b.2.1 : Int), (b.2.2.1 : Int)]
abbrev nsC (b : BM.Spoil) : List Int := [b.1, (b.2.1 : Int), (b.2.2.1 : Int)]
def spSpoiling (K : PySem.W.Frag) : Sp := fun vs H Q _ => ∃ (x o : Addr) (cs : List (Nat × Int)) (ord : List Nat), vs = [.ref x, .ref o] ∧ SchAt K H x ord.length cs ∧ CsOk ord.length cs ∧ H o = some (.lst (vN ord)) ∧ ∀ v H', Same H H' → Told nsS H H' v (BM.leastSpoil ord.length (BM.unit cs) (BM.dem ord)) → Q v H'
theorem sc_spoiling : FnScope ["schedule", "order", "spoil", "price", "k", "t", "missed"] ["schedule", "order"] (defScope s_spoiling_bearing) := ⟨rfl, rfl, rfl, by decide +kernel, rfl, by decide +kernel, by decide +kernel⟩
theorem ok_spoiling (T : Tx K mg) : Def P w K mg base CX0 7 (He.ga K "spoiling_bearing") ["schedule", "order"] (spSpoiling K) := by
  have G_fewest_spoil := ok_fewest_spoil (P := P) (w := w) (base := base) T
  have G_demands := ok_demands (P := P) (w := w) (base := base) T
  refine mk0 T.f_spoiling_bearing sc_spoiling (fun _ _ _ _ _ _ us hl => match us, hl with | [_, _], _ => rfl) (fun vs H Q E h => ?_) (fun cdv A outer s H vs Q E hr h => ?_)
  · obtain ⟨x, o, cs, ord, rfl, _⟩ := h
    rfl
  · obtain ⟨x, o, cs, ord, rfl, hx, ok, ho, kk⟩ := h
    refine ⟨_, (pss_cons (ps_set (i := 2) sc_spoiling.nd rfl (Or.inl rfl) (pe_cl G_fewest_spoil (hr.mono (by decide)) T.g_fewest_spoil pass0 (pa_cons (pv 0) (pa_cons (pe_cl G_demands (hr.mono (by decide)) T.g_demands pass0 (pa_cons (pv 1) pa_nil)) pa_nil))))
    (pss_cons (ps_if (pt_cmpR op_isN (pv 2) pe_non (nomark _))
    (pss_one (ps_ret (pe_tup (pa_cons pe_str pa_nil)))) pss_nil)
    (pss_cons (ps_asg (pv 2) (pg_tupK (n := 4) rfl rfl (pgs_cons (pg_name (i := 3) sc_spoiling.nd rfl (Or.inl rfl)) (pgs_cons (pg_name (i := 4) sc_spoiling.nd rfl (Or.inl rfl)) (pgs_cons (pg_name (i := 5) sc_spoiling.nd rfl (Or.inl rfl)) (pgs_cons (pg_name (i := 6) sc_spoiling.nd rfl (Or.inl rfl)) pgs_nil))))))
    (pss_one (ps_ret (pe_tup (pa_cons pe_str (pa_cons (pv 6) (pa_cons (pv 4) (pa_cons (pv 5) pa_nil)))))))))), ?_⟩
    have h12 := ok.n12
    walk_at "go"
    refine ⟨o, ord, rfl, ho, by omega, fun p ys H1 e1 hp h1 hys => ?_⟩
    walk_at "go"
    refine ⟨x, p, ys, cs, ord.length, BM.dem ord, rfl, hx.mono e1, ok, h1, hys, BM.dem_le ord, fun v H2 e2 h2 => ?_⟩
    walk_at "go"
    have e12 := same_trans e1 e2
    cases q : BM.leastSpoil ord.length (BM.unit cs) (BM.dem ord) with
    | none =>
      rw [q] at h2 kk
      obtain rfl : v = .non := h2
      refine iteYes rfl ?_
      walk_at "go"
      refine r_new (by simp) fun p2 H3 e3 hp2 h3 => ?_
      exact kk _ _ (same_trans e12 e3) ⟨p2, rfl, none_below e12 hp2, h3⟩
    | some b =>
      rw [q] at h2 kk
      obtain ⟨s1, l, rfl, f1, f2, f3, f4⟩ := h2
      refine iteNo (fun z => by cases z) ?_
      walk_at "go"
      refine r_gtup f3 rfl ?_
      walk_at "go"
      refine r_new (by simp) fun p2 H3 e3 hp2 h3 => ?_
      exact kk _ _ (same_trans e12 e3) ⟨p2, l, rfl, none_below e12 hp2, none_below e1 f2, h3, e3 _ _ f4⟩
def spCheapest (K : PySem.W.Frag) : Sp := fun vs H Q _ => ∃ (x o : Addr) (cs : List (Nat × Int)) (ord : List Nat), vs = [.ref x, .ref o] ∧ SchAt K H x ord.length cs ∧ CsOk ord.length cs ∧ H o = some (.lst (vN ord)) ∧ ∀ v H', Same H H' → Told nsC H H' v (BM.leastSpoil ord.length cs (BM.dem ord)) → Q v H'
theorem sc_cheapest : FnScope ["schedule", "order", "spoil", "price", "k", "t", "missed"] ["schedule", "order"] (defScope s_cheapest_prices) := ⟨rfl, rfl, rfl, by decide +kernel, rfl, by decide +kernel, by decide +kernel⟩
theorem ok_cheapest (T : Tx K mg) : Def P w K mg base CX0 6 (He.ga K "cheapest_prices") ["schedule", "order"] (spCheapest K) := by
  obtain ⟨pp, pg, G_prop, G_places⟩ := ok_places (P := P) (w := w) (base := base) T
  have G_least_spoil := ok_least_spoil (P := P) (w := w) (base := base) T
  have G_Schedule_comparisons := ok_Schedule_comparisons (P := P) (w := w) (base := base) T
  have G_demands := ok_demands (P := P) (w := w) (base := base) T
  refine mk0 T.f_cheapest_prices sc_cheapest (fun _ _ _ _ _ _ us hl => match us, hl with | [_, _], _ => rfl) (fun vs H Q E h => ?_) (fun cdv A outer s H vs Q E hr h => ?_)
  · obtain ⟨x, o, cs, ord, rfl, _⟩ := h
    rfl
  · obtain ⟨x, o, cs, ord, rfl, hx, ok, ho, kk⟩ := h
    refine ⟨_, (pss_cons (ps_set (i := 2) sc_cheapest.nd rfl (Or.inl rfl) (pe_cl G_least_spoil (hr.mono (by decide)) T.g_least_spoil pass0 (pa_cons (pe_pl G_prop G_places (hr.mono (by decide)) T.c_Schedule (pv 0)) (pa_cons (pe_mt0 (pv 0) T.c_Schedule T.m_Schedule_comparisons G_Schedule_comparisons (hr.mono (by decide)) pass0) (pa_cons (pe_cl G_demands (hr.mono (by decide)) T.g_demands pass0 (pa_cons (pv 1) pa_nil)) pa_nil)))))
    (pss_cons (ps_if (pt_cmpR op_isN (pv 2) pe_non (nomark _))
    (pss_one (ps_ret (pe_tup (pa_cons pe_str pa_nil)))) pss_nil)
    (pss_cons (ps_asg (pv 2) (pg_tupK (n := 4) rfl rfl (pgs_cons (pg_name (i := 3) sc_cheapest.nd rfl (Or.inl rfl)) (pgs_cons (pg_name (i := 4) sc_cheapest.nd rfl (Or.inl rfl)) (pgs_cons (pg_name (i := 5) sc_cheapest.nd rfl (Or.inl rfl)) (pgs_cons (pg_name (i := 6) sc_cheapest.nd rfl (Or.inl rfl)) pgs_nil))))))
    (pss_one (ps_ret (pe_tup (pa_cons pe_str (pa_cons (pv 6) (pa_cons (pv 3) (pa_cons (pv 4) (pa_cons (pv 5) pa_nil))))))))))), ?_⟩
    have h12 := ok.n12
    have hl := ok.l
    obtain ⟨dx, l, us, h1, h2, h3⟩ := hx
    walk_at "go"
    refine ⟨x, dx, _, rfl, h1, x, dx, l, _, rfl, h1, ?_⟩
    walk_at "go"
    refine r_meth h1 rfl ?_
    walk_at "go"
    refine ⟨x, dx, l, us, _, rfl, h1, h2, fun p H1 e1 hp hp1 => ?_⟩
    walk_at "go"
    refine ⟨o, ord, rfl, e1 _ _ ho, by omega, fun p2 ys H2 e2 hp2 h2' hys => ?_⟩
    walk_at "go"
    have e12 := same_trans e1 e2
    refine ⟨p, p2, us, ys, cs, ord.length, BM.dem ord, rfl, e2 _ _ hp1, h3.mono e12, by omega, ok.g, ok.n1, ok.n12, h2', hys, BM.dem_le ord, fun v H3 e3 h3' => ?_⟩
    have e13 := same_trans e12 e3
    replace h3' := h3'.since e12
    walk_at "go"
    cases q : BM.leastSpoil ord.length cs (BM.dem ord) with
    | none =>
      rw [q] at h3' kk
      obtain rfl : v = .non := h3'
      refine iteYes rfl ?_
      walk_at "go"
      refine r_new (by simp) fun p3 H4 e4 hp3 h4 => ?_
      exact kk _ _ (same_trans e13 e4) ⟨p3, rfl, none_below e13 hp3, h4⟩
    | some b =>
      rw [q] at h3' kk
      obtain ⟨s1, l, rfl, f1, f2, f3, f4⟩ := h3'
      refine iteNo (fun z => by cases z) ?_
      walk_at "go"
      refine r_gtup f3 rfl ?_
      walk_at "go"
      refine r_new (by simp) fun p3 H4 e4 hp3 h4 => ?_
      exact kk _ _ (same_trans e13 e4) ⟨p3, l, rfl, none_below e13 hp3, f2, h4, e4 _ _ f4⟩
end
end BW
namespace BW
open PySem PySem.Spec PyProof.Rows L2
section
variable {P : Program} {w : World} {K : PySem.W.Frag} {mg : Str → Option Value} {base : Heap}

theorem r_lrg {σ : L2.St} {H : Hp} {Q : VK} {te : TE} (k : te σ H fun x H1 => ∃ n, x = .int n ∧ RgOk 0 n ∧ Al (.lst (rgV 0 n)) H1 Q) : tLstRg (tRg1 te) σ H Q := k
theorem rgV_N (n : Nat) : rgV 0 (n : Int) = vN (List.range n) := by
  unfold rgV vN
  rw [show ((n : Int) - 0).toNat = n by omega]
  exact List.map_congr_left fun i _ => by simp
def heldF (gs mi : List Nat) (n k t : Nat) : Nat := BM.cntFrom (BM.ge (n - k)) (BM.play gs (BM.falling n) mi) t
/-- _law_held(gates, places, gone) -/
def spHeld : Sp := fun vs H Q _ => ∃ (g m : Addr) (gs mi : List Nat) (n : Nat), vs = [.ref g, .int (n : Int), .ref m] ∧ H g = some (.lst (vN gs)) ∧ H m = some (.lst (vN mi)) ∧ (∀ c ∈ gs, 1 ≤ c ∧ c < n) ∧ n ≤ 20 ∧
  ∀ p ys H', Same H H' → H p = none → H' p = some (.lst ys) → Paired (fun u row => Lst H' u (vN row)) ys (tabN (n + 1) (n + 1) (heldF gs mi n)) → Q (.ref p) H'
theorem sc_law_held : FnScope ["_law_gates", "_law_places", "_law_gone", "_law_last", "_law_size", "_law_rank", "_law_t", "_law_k"] ["_law_gates", "_law_places", "_law_gone"] (defScope s_law_held) := ⟨rfl, rfl, rfl, by decide +kernel, rfl, by decide +kernel, by decide +kernel⟩
theorem ok_law_held (T : Tx K mg) : Def P w K mg base CX0 2 (He.ga K "_law_held") ["_law_gates", "_law_places", "_law_gone"] spHeld := by
  have G_law_play := ok_law_play (P := P) (w := w) (base := base) T
  refine mk0 T.f_law_held sc_law_held (fun _ _ _ _ _ _ us hl => match us, hl with | [_, _, _], _ => rfl) (fun vs H Q E h => ?_) (fun cdv A outer s H vs Q E hr h => ?_)
  · obtain ⟨g, m, gs, mi, n, rfl, _⟩ := h
    rfl
  · obtain ⟨g, m, gs, mi, n, rfl, hg, hm, hgs, hn, kk⟩ := h
    refine ⟨_, (pss_cons (ps_set (i := 3) sc_law_held.nd rfl (Or.inr rfl) (pe_cl G_law_play (hr.mono (by decide)) T.g_law_play pass0 (pa_cons (pv 0) (pa_cons (pe_revLK rfl (pe_listRg rfl (by rfl) T.n_list (prg_1 (by rfl) T.n_range (pv 1)))) (pa_cons (pv 2) pa_nil)))))
    (pss_cons (ps_set (i := 4) sc_law_held.nd rfl (Or.inr rfl) (pe_op op_add (pv 1) pe_int))
    (pss_one (ps_ret (pe_lc (own := [("_law_k", 7)]) (by rfl) sc_law_held.nd (pi_range1 (by rfl) T.n_range (pa_cons (pv 4) pa_nil)) (blkOk_by (by kernel_rfl)) (fun _ _ _ _ _ => (pg_name (i := 7) sc_law_held.nd rfl (Or.inr rfl))) (fun _ _ _ _ _ => pts_nil) (fun _ _ _ _ _ => (pe_lc (own := [("_law_t", 6)]) (by rfl) sc_law_held.nd (pi_range1 (by rfl) T.n_range (pa_cons (pv 4) pa_nil)) (blkOk_by (by kernel_rfl)) (fun _ _ _ _ _ => (pg_name (i := 6) sc_law_held.nd rfl (Or.inl rfl))) (fun _ _ _ _ _ => pts_nil) (fun _ _ _ _ _ => (pe_callB (call_lenK rfl) (by rfl) T.n_len PySem.boot_len (pa_cons (pe_lc (own := [("_law_rank", 5)]) (by rfl) sc_law_held.nd (pi_listK rfl (pe_slice (sl_listK rfl) (pv 3) (po_some (pv 6)) po_none)) (blkOk_by (by kernel_rfl)) (fun _ _ _ _ _ => (pg_name (i := 5) sc_law_held.nd rfl (Or.inl rfl))) (fun _ _ _ _ _ => pts_one (pt_cmpR op_ge (pv 5) (pe_op op_sub (pv 1) (pv 7)) (nomark _))) (fun _ _ _ _ _ => (pv 5))) pa_nil)))))))))), ?_⟩
    walk_at "go"
    refine r_lrg ?_
    walk_at "go"
    refine ⟨RgOk.of_le (by decide) (by omega) (by decide) (by omega), r_al fun p0 H1 e1 hp0 h1 => ?_⟩
    rw [rgV_N] at h1
    refine r_rev h1 ?_
    refine r_al fun p1 H2 e2 hp1 h2 => ?_
    have h2 : H2 p1 = some (.lst (vN (BM.falling n))) := by
      rw [h2]
      unfold vN BM.falling
      rw [List.map_reverse]
    walk_at "go"
    have e12 := same_trans e1 e2
    refine ⟨g, p1, m, gs, BM.falling n, mi, rfl, e12 _ _ hg, h2, e12 _ _ hm, fun c hc => by rw [BM.falling_len]; exact hgs c hc, fun la H3 e3 hla h3 => ?_⟩
    have e13 := same_trans e12 e3
    have hlast : (BM.play gs (BM.falling n) mi).length = n := by rw [BM.play_len, BM.falling_len]
    walk_at "go"
    refine r_ra (by omega) (by omega) ?_
    rw [show ((n : Int) + 1).toNat = n + 1 by omega]
    intro D hD
    refine lc_new walk_range hD (fun k => .lst (vN ((List.range (n + 1)).map (heldF gs mi n k)))) (by omega) (fun H1 e => trivial) (fun i H x H' y => fn_same y) (fun k v H4 H' QY QN hk e y k1 => ?_) (fun H4 ys e hD1 hy => ?_)
    · obtain ⟨rfl, ey⟩ := y
      have ey : v = .int (k : Int) := by rw [ey]; exact congrArg V.int (by omega)
      subst ey
      walk_at "go"
      refine ⟨rfl, ?_⟩
      walk_at "go"
      refine r_ra (by omega) (by omega) ?_
      rw [show ((n : Int) + 1).toNat = n + 1 by omega]
      intro D2 hD2
      refine lc_vals walk_range hD2 (fun _ => true) (fun t => .int ((heldF gs mi n k t : Nat) : Int)) (by omega) (fun H1 e => trivial) (fun i H x H' y => fn_same y) (fun t v H5 H6 QY2 QN2 ht e2' y kY kN => ?_) (fun H5 e2' hD3 => ?_)
      · obtain ⟨rfl, ey⟩ := y
        have ey : v = .int (t : Int) := by rw [ey]; exact congrArg V.int (by omega)
        subst ey
        walk_at "go"
        refine ⟨rfl, ?_⟩
        walk_at "go"
        refine r_slFrom (i := t) (e2' _ _ (e _ _ h3)) rfl (by rw [vN_len]; omega) fun p H7 e7 hp h7 => ?_
        have h7 : H7 p = some (.lst (vN ((BM.play gs (BM.falling n) mi).drop t))) := by
          rw [h7]
          unfold vN
          rw [List.map_drop]
        refine r_li h7 ?_
        intro D3 hD3
        refine lc_ge (t := n - k) h7 hD3 (by rw [List.length_drop]; omega) (fun r H8 QY3 QN3 q1 q2 => ⟨rfl, ?_⟩) (fun H8 ys e8 h8 hc => ?_)
        · walk_at "go"
          refine iteD (fun h => ?_) (fun h => ?_)
          · walk_at "go"
            exact q1 (by omega)
          · walk_at "go"
            exact q2 (by omega)
        · walk_at "go"
          refine r_lenL h8 ?_
          rw [hc]
          exact kY rfl _ (same_trans e7 e8)
      · rw [List.filter_eq_self.mpr (fun _ _ => rfl)] at hD3
        refine k1 D2 _ hD2 e2' ?_
        rw [hD3]
        unfold vN
        rw [List.map_map]
        rfl
    · walk_at "go"
      refine kk D ys _ (same_trans e13 e) (none_below e13 hD) hD1 (pair_map hy)
end
end BW
namespace BW
open PySem PySem.Spec PyProof.Rows L2
section
variable {P : Program} {w : World} {K : PySem.W.Frag} {mg : Str → Option Value} {base : Heap}

def flipD : BM.Deed → BM.Deed
  | .compare pos price done => .compare pos price (!done)
  | d => d
def isCmp : BM.Deed → Bool
  | .compare _ _ _ => true
  | _ => false
/-- the changed log -/
def laterD (ds : List BM.Deed) (way : Int) (at_ : Nat) (dd : BM.Deed) : Option (List BM.Deed) :=
  if way = 3 then some (ds.take at_ ++ [dd] ++ ds.drop at_)
  else match ds[at_]? with
    | none => none
    | some e => if way = 5 ∧ isCmp e = false then none
      else if way = 4 then some (ds.take at_ ++ ds.drop (at_ + 1))
      else some (ds.take at_ ++ [flipD e] ++ ds.drop (at_ + 1))
def LogAt (H : Hp) (us : List V) : Option (List BM.Deed) → Prop
  | none => us = [.non]
  | some ds => Deeds H us ds
/-- _law_later(log, way, at, deed) -/
def spLater : Sp := fun vs H Q _ => ∃ (g : Addr) (us : List V) (ds : List BM.Deed) (way : Int) (at_ : Nat) (v : V) (dd : BM.Deed), vs = [.ref g, .int way, .int (at_ : Int), v] ∧ H g = some (.lst us) ∧ Deeds H us ds ∧ ds.length ≤ 1000 ∧ at_ ≤ ds.length ∧ 3 ≤ way ∧ way ≤ 5 ∧ DeedAt H v dd ∧
  ∀ p us' H', Same H H' → H p = none → H' p = some (.lst us') → LogAt H' us' (laterD ds way at_ dd) → Q (.ref p) H'
theorem sc_law_later : FnScope ["_law_log", "_law_way", "_law_at", "_law_deed_here"] ["_law_log", "_law_way", "_law_at", "_law_deed_here"] (defScope s_law_later) := ⟨rfl, rfl, rfl, by decide +kernel, rfl, by decide +kernel, by decide +kernel⟩
theorem ok_law_later (T : Tx K mg) : Def P w K mg base CX0 1 (He.ga K "_law_later") ["_law_log", "_law_way", "_law_at", "_law_deed_here"] spLater := by
  refine mk0 T.f_law_later sc_law_later (fun _ _ _ _ _ _ us hl => match us, hl with | [_, _, _, _], _ => rfl) (fun vs H Q E h => ?_) (fun cdv A outer s H vs Q E hr h => ?_)
  · obtain ⟨g, us, ds, way, at_, v, dd, rfl, _⟩ := h
    rfl
  · obtain ⟨g, us, ds, way, at_, v, dd, rfl, hg, hd, hl, hat, w3, w5, hv, kk⟩ := h
    refine ⟨_, (pss_cons (ps_if (pt_cmpR op_eq (pv 1) pe_int (nomark _))
    (pss_one (ps_ret (pe_op op_cat (pe_op op_cat (pe_slice (sl_listK rfl) (pv 0) po_none (po_some (pv 2))) (pe_lst (pa_cons (pv 3) pa_nil))) (pe_slice (sl_listK rfl) (pv 0) (po_some (pv 2)) po_none)))) pss_nil)
    (pss_cons (ps_if (PW.pt (pw_or (pt_cmpR op_eq (pv 2) (pe_callB (call_lenK rfl) (by rfl) T.n_len PySem.boot_len (pa_cons (pv 0) pa_nil)) (nomark _)) (pw_or1 (PW.pt (pw_and (pt_cmpR op_eq (pv 1) pe_int (nomark _)) (pw_and1 (pt_cmpR op_ne (pe_ix (ix_tupK rfl) (pe_ix (ix_listK rfl) (pv 0) (pv 2) (fun _ _ => rfl)) pe_int (fun _ _ => rfl)) pe_str (nomark _))))))))
    (pss_one (ps_ret (pe_lst (pa_cons pe_non pa_nil)))) pss_nil)
    (pss_cons (ps_if (pt_cmpR op_eq (pv 1) pe_int (nomark _))
    (pss_one (ps_ret (pe_op op_cat (pe_slice (sl_listK rfl) (pv 0) po_none (po_some (pv 2))) (pe_slice (sl_listK rfl) (pv 0) (po_some (pe_op op_add (pv 2) pe_int)) po_none)))) pss_nil)
    (pss_one (ps_ret (pe_op op_cat (pe_op op_cat (pe_slice (sl_listK rfl) (pv 0) po_none (po_some (pv 2))) (pe_lst (pa_cons (pe_op (op_catTK rfl) (pe_slice (sl_tupK rfl) (pe_ix (ix_listK rfl) (pv 0) (pv 2) (fun _ _ => rfl)) po_none (po_some pe_int)) (pe_tup (pa_cons (pe_not (pe_ix (ix_tupK rfl) (pe_ix (ix_listK rfl) (pv 0) (pv 2) (fun _ _ => rfl)) pe_int (fun _ _ => rfl))) pa_nil))) pa_nil))) (pe_slice (sl_listK rfl) (pv 0) (po_some (pe_op op_add (pv 2) pe_int)) po_none))))))), ?_⟩
    have hul : us.length = ds.length := hd.length
    walk_at "go"
    refine iteD (fun h => ?_) (fun h => ?_)
    · have e : laterD ds way at_ dd = some (ds.take at_ ++ [dd] ++ ds.drop at_) := if_pos h
      rw [e] at kk
      walk_at "go"
      refine r_slTo hg rfl (by omega) fun p1 H1 e1 hp1 h1 => ?_
      walk_at "go"
      refine r_new (by simp) fun p2 H2 e2 hp2 h2 => ?_
      walk_at "go"
      refine r_cat (e2 _ _ h1) h2 (by simp; omega) fun p3 H3 e3 hp3 h3 => ?_
      walk_at "go"
      refine r_slFrom (e3 _ _ (e2 _ _ (e1 _ _ hg))) rfl (by omega) fun p4 H4 e4 hp4 h4 => ?_
      walk_at "go"
      refine r_cat (e4 _ _ h3) h4 (by simp; omega) fun p5 H5 e5 hp5 h5 => ?_
      have e04 := same_trans e1 (same_trans e2 (same_trans e3 e4))
      have e05 := same_trans e04 e5
      exact kk p5 _ H5 e05 (none_below e04 hp5) h5 (pair_app (pair_app (pair_take _ (deeds_mono hd e05)) (.cons (hv.mono e05) .nil)) (pair_drop _ (deeds_mono hd e05)))
    · refine r_next ?_
      with_reducible refine r_seqG (fun σ H1 => H1 = H ∧ σ = [some (.ref g), some (.int way), some (.int (at_ : Int)), some v] ∧ ∃ de, ds[at_]? = some de ∧ ¬ (way = 5 ∧ isCmp de = false)) (fun nx hnx => ?_) (fun σ H1 z => ?_)
      · walk_at "go"
        refine r_lenL hg ?_
        walk_at "go"
        refine iteD (fun h2 => ?_) (fun h2 => ?_)
        · have e : laterD ds way at_ dd = none := by
            unfold laterD
            rw [if_neg h, List.getElem?_eq_none (by omega)]
          rw [e] at kk
          walk_at "go"
          refine r_new (by simp) fun p1 H1 e1 hp1 h1 => ?_
          exact kk p1 _ H1 e1 hp1 h1 rfl
        · obtain ⟨de, hde⟩ : ∃ de, ds[at_]? = some de := ⟨_, List.getElem?_eq_getElem (by omega)⟩
          obtain ⟨ue, hue, q, rfl, hq⟩ := pair_atR hd hde
          have le : laterD ds way at_ dd = if way = 5 ∧ isCmp de = false then none
            else if way = 4 then some (ds.take at_ ++ ds.drop (at_ + 1))
            else some (ds.take at_ ++ [flipD de] ++ ds.drop (at_ + 1)) := by
            unfold laterD
            rw [if_neg h, hde]
          have hzc : ∃ z, (vD de)[0]? = some (.str z) ∧ decide (z = (Str.ofString "compare")) = isCmp de := by
            cases de with
            | arrive p => exact ⟨Str.ofString "arrive", rfl, by show decide (Str.ofString "arrive" = Str.ofString "compare") = false; decide +kernel⟩
            | serve => exact ⟨Str.ofString "serve", rfl, by show decide (Str.ofString "serve" = Str.ofString "compare") = false; decide +kernel⟩
            | compare pos price done => exact ⟨Str.ofString "compare", rfl, by simp [isCmp]⟩
          obtain ⟨z, hz, hzc⟩ := hzc
          walk_at "go"
          refine iteD (fun h3 => ?_) (fun h3 => ?_)
          · walk_at "go"
            refine r_ixL hg rfl hue ?_
            walk_at "go"
            refine r_ixT hq (j := 0) rfl hz ?_
            walk_at "go"
            rw [hzc]
            cases hc : isCmp de with
            | true =>
              walk_at "go"
              exact hnx _ _ ⟨rfl, rfl, de, hde, by simp [hc]⟩
            | false =>
              rw [le, if_pos ⟨h3, hc⟩] at kk
              walk_at "go"
              refine r_new (by simp) fun p1 H1 e1 hp1 h1 => ?_
              exact kk p1 _ H1 e1 hp1 h1 rfl
          · walk_at "go"
            exact hnx _ _ ⟨rfl, rfl, de, hde, fun z => h3 z.1⟩
      · obtain ⟨rfl, rfl, de, hde, hno⟩ := z
        have hal : at_ < ds.length := (List.getElem?_eq_some_iff.mp hde).1
        obtain ⟨ue, hue, q, rfl, hq⟩ := pair_atR hd hde
        have le : laterD ds way at_ dd = if way = 4 then some (ds.take at_ ++ ds.drop (at_ + 1))
            else some (ds.take at_ ++ [flipD de] ++ ds.drop (at_ + 1)) := by
          unfold laterD
          rw [if_neg h, hde]
          exact if_neg hno
        rw [le] at kk
        walk_at "go"
        refine iteD (fun h2 => ?_) (fun h2 => ?_)
        · rw [if_pos h2] at kk
          walk_at "go"
          refine r_slTo hg rfl (by omega) fun p1 H2 e1 hp1 h1 => ?_
          walk_at "go"
          refine r_slFrom (i := at_ + 1) (e1 _ _ hg) (by omega) (by omega) fun p4 H4 e4 hp4 h4 => ?_
          walk_at "go"
          refine r_cat (e4 _ _ h1) h4 (by simp; omega) fun p5 H5 e5 hp5 h5 => ?_
          have e04 := same_trans e1 e4
          have e05 := same_trans e04 e5
          exact kk p5 _ H5 e05 (none_below e04 hp5) h5 (pair_app (pair_take _ (deeds_mono hd e05)) (pair_drop _ (deeds_mono hd e05)))
        · rw [if_neg h2] at kk
          have w5 : way = 5 := by omega
          cases de with
          | arrive p => exact absurd ⟨w5, rfl⟩ hno
          | serve => exact absurd ⟨w5, rfl⟩ hno
          | compare pos price done =>
            walk_at "go"
            refine r_slTo hg rfl (by omega) fun p1 H2 e1 hp1 h1 => ?_
            walk_at "go"
            refine r_ixL (e1 _ _ hg) rfl hue ?_
            walk_at "go"
            refine r_slTToT (i := 3) (e1 _ _ hq) rfl (by simp [vD]) fun t1 H3 e3 ht1 h3 => ?_
            walk_at "go"
            refine r_ixL (e3 _ _ (e1 _ _ hg)) rfl hue ?_
            walk_at "go"
            refine r_ixT (e3 _ _ (e1 _ _ hq)) (j := 3) rfl rfl ?_
            walk_at "go"
            refine r_new (by simp) fun t2 H4 e4 ht2 h4 => ?_
            refine r_catT (e4 _ _ h3) h4 (by simp [vD]) (by simp) (by simp [vD]) fun t3 H5 e5 ht3 h5 => ?_
            walk_at "go"
            refine r_new (by simp) fun p2 H6 e6 hp2 h6 => ?_
            walk_at "go"
            have e36 : Same H2 H6 := same_trans e3 (same_trans e4 (same_trans e5 e6))
            refine r_cat (e36 _ _ h1) h6 (by simp; omega) fun p3 H7 e7 hp3 h7 => ?_
            walk_at "go"
            refine r_slFrom (i := at_ + 1) (e7 _ _ (e36 _ _ (e1 _ _ hg))) (by omega) (by omega) fun p4 H8 e8 hp4 h8 => ?_
            walk_at "go"
            refine r_cat (e8 _ _ h7) h8 (by simp; omega) fun p5 H9 e9 hp5 h9 => ?_
            have e08 := same_trans e1 (same_trans e36 (same_trans e7 e8))
            have e09 := same_trans e08 e9
            exact kk p5 _ H9 e09 (none_below e08 hp5) h9 (pair_app (pair_app (pair_take _ (deeds_mono hd e09)) (.cons ⟨t3, rfl, e9 _ _ (e8 _ _ (e7 _ _ (e6 _ _ h5)))⟩ .nil)) (pair_drop _ (deeds_mono hd e09)))
end
end BW
namespace BW
open PySem PySem.Spec PyProof.Rows L2
section
variable {P : Program} {w : World} {K : PySem.W.Frag} {mg : Str → Option Value} {base : Heap}

abbrev bokF (dl ll x : Addr) : List (Str × V) := [("deeds", .ref dl), ("later", .ref ll), ("line", .ref x)]
/-- what is read of a Book -/
def BookRd (K : PySem.W.Frag) (H : Hp) (b : Addr) (L : BM.Ln) : Prop := ∃ (dx dl ll x : Addr) (a : Adr), H b = some (.ins (He.ga K "Book") dx (bokF dl ll x)) ∧ LineAt K H x a L
theorem BookRd.same {H H' : Hp} {b : Addr} {L : BM.Ln} (h : BookRd K H b L) (e : Same H H') : BookRd K H' b L := by
  obtain ⟨dx, dl, ll, x, a, h1, h2⟩ := h
  exact ⟨dx, dl, ll, x, a, e _ _ h1, h2.same e⟩
structure BkGo (K : PySem.W.Frag) (H : Hp) (b : Addr) (L : BM.Ln) (E : XK) : Prop where
  rd : BookRd K H b L
  s : LnSmall L
  n : L.ws = [] → ∀ H', Same H H' → E (.ref (He.ga K "NoItems")) none H'
theorem BkGo.same {H H' : Hp} {b : Addr} {L : BM.Ln} {E : XK} (h : BkGo K H b L E) (e : Same H H') : BkGo K H' b L E := ⟨h.rd.same e, h.s, fun q H2 e2 => h.n q H2 (same_trans e e2)⟩
theorem csOk {L : BM.Ln} (s : LnSmall L) (h : L.ws ≠ []) : CsOk L.ws.length L.rs := ⟨s.ok.gate, s.ok.price, s.rs, by
  cases q : L.ws with
  | nil => exact absurd q h
  | cons x l => simp, s.ok.n12⟩
def spNeed (K : PySem.W.Frag) : Sp := fun vs H Q E => ∃ (b : Addr) (L : BM.Ln), vs = [.ref b] ∧ BkGo K H b L E ∧ (L.ws ≠ [] → ∀ H', Same H H' → Q .non H')
theorem sc_Book_need_items : FnScope ["self"] ["self"] (defScope s_Book_need_items) := ⟨rfl, rfl, rfl, by decide +kernel, rfl, by decide +kernel, by decide +kernel⟩
theorem ok_Book_need_items (T : Tx K mg) : Def P w K mg base (L2N.CX P w) 3 (He.ma K (He.ga K "Book") "need_items") ["self"] (spNeed K) := by
  have G_NoItems_init := ok_NoItems_init (P := P) (w := w) (base := base) T
  refine mkX T.f_Book_need_items sc_Book_need_items (fun _ _ _ _ _ _ us hl => match us, hl with | [_], _ => rfl) (fun vs H Q E h => ?_) (fun cdv A outer s H vs Q E hr h => ?_)
  · obtain ⟨b, L, rfl, _⟩ := h
    rfl
  · obtain ⟨b, L, rfl, ⟨⟨dx, dl, ll, x, a, hb, hl⟩, sm, kN⟩, kS⟩ := h
    refine ⟨_, (pss_one (ps_if (pt_cmpR (op_eqDK rfl hr.units) (pe_fldK rfl (pe_fldK rfl (pv 0) rfl) rfl) (pe_lst pa_nil) (nomark _))
    (pss_one (L2N.ps_raise rfl (L2N.takes_of rfl rfl rfl rfl) (pmkN_0 T.x.ni.c T.x.ni.i T.x.ni.t G_NoItems_init (hr.mono (by decide)) T.g_NoItems))) pss_nil)), ?_⟩
    obtain ⟨dx2, hx⟩ := hl.x
    walk_at "go"
    refine r_fld hb T.c_Book T.a_Book_line rfl ?_
    walk_at "go"
    refine r_fld hx T.c_Line T.a_Line_worths rfl ?_
    walk_at "go"
    refine r_new (by simp) fun e0 H1 e1 he0 h1 => ?_
    refine r_eqL (m := []) (e1 _ _ hl.f.h1) h1 ?_
    walk_at "go"
    refine iteD (fun h => ?_) (fun h => ?_)
    · exact r_raise0 (kN h H1 e1)
    · walk_at "go"
      exact kS h _ e1
def spBkSched (K : PySem.W.Frag) : Sp := fun vs H Q E => ∃ (b : Addr) (L : BM.Ln), vs = [.ref b] ∧ BkGo K H b L E ∧ (L.ws ≠ [] → ∀ s H', Same H H' → SchNew K H H' s L.ws.length L.rs → Q (.ref s) H')
theorem sc_Book_schedule : FnScope ["self"] ["self"] (defScope s_Book_schedule) := ⟨rfl, rfl, rfl, by decide +kernel, rfl, by decide +kernel, by decide +kernel⟩
theorem ok_Book_schedule (T : Tx K mg) : Def P w K mg base (L2N.CX P w) 7 (He.ma K (He.ga K "Book") "schedule") ["self"] (spBkSched K) := by
  have G_Book_need_items := ok_Book_need_items (P := P) (w := w) (base := base) T
  have G_Schedule_init := ok_Schedule_init (P := P) (w := w) (base := base) T
  refine mkX T.f_Book_schedule sc_Book_schedule (fun _ _ _ _ _ _ us hl => match us, hl with | [_], _ => rfl) (fun vs H Q E h => ?_) (fun cdv A outer s H vs Q E hr h => ?_)
  · obtain ⟨b, L, rfl, _⟩ := h
    rfl
  · obtain ⟨b, L, rfl, go, kS⟩ := h
    refine ⟨_, (pss_cons (ps_expr (pe_mt0 (pv 0) T.c_Book T.m_Book_need_items G_Book_need_items (hr.mono (by decide)) (L2N.passes_call (L2N.takes_of rfl rfl rfl rfl) (fun _ _ _ _ h => h))))
    (pss_one (ps_ret (pe_mk T.k_Schedule G_Schedule_init (hr.mono (by decide)) T.g_Schedule pass0 (pa_cons (pe_callB (call_lenK rfl) (by rfl) T.n_len PySem.boot_len (pa_cons (pe_fldK rfl (pe_fldK rfl (pv 0) rfl) rfl) pa_nil)) (pa_cons (pe_fldK rfl (pe_fldK rfl (pv 0) rfl) rfl) pa_nil)))))), ?_⟩
    have rd := go.rd
    obtain ⟨dx, dl, ll, x, a, hb, hl⟩ := go.rd
    walk_at "go"
    refine r_meth hb rfl ?_
    walk_at "go"
    refine ⟨b, L, rfl, go, fun ne H1 e1 => ?_⟩
    have hl1 := hl.same e1
    have hb1 := e1 _ _ hb
    obtain ⟨dx2, hx⟩ := hl1.x
    walk_at "go"
    refine r_fld hb1 T.c_Book T.a_Book_line rfl ?_
    walk_at "go"
    refine r_fld hx T.c_Line T.a_Line_worths rfl ?_
    walk_at "go"
    refine r_lenL hl1.f.h1 ?_
    walk_at "go"
    refine r_fld hb1 T.c_Book T.a_Book_line rfl ?_
    walk_at "go"
    refine r_fld hx T.c_Line T.a_Line_rows rfl ?_
    walk_at "go"
    obtain ⟨us, u1, u2⟩ := hl1.f.h4
    rw [vI_len]
    exact r_mkSchN u1 u2 (csOk go.s ne) fun s H2 e2 h2 => kS ne s H2 (same_trans e1 e2) (h2.since e1)
def spBkOrder (K : PySem.W.Frag) : Sp := fun vs H Q E => ∃ (b : Addr) (L : BM.Ln), vs = [.ref b] ∧ BkGo K H b L E ∧ (L.ws ≠ [] → ∀ p H', Same H H' → H p = none → H' p = some (.lst (vN (BM.ranksM L.ws))) → Q (.ref p) H')
theorem sc_Book_order : FnScope ["self"] ["self"] (defScope s_Book_order) := ⟨rfl, rfl, rfl, by decide +kernel, rfl, by decide +kernel, by decide +kernel⟩
theorem ok_Book_order (T : Tx K mg) : Def P w K mg base (L2N.CX P w) 4 (He.ma K (He.ga K "Book") "order") ["self"] (spBkOrder K) := by
  have G_Book_need_items := ok_Book_need_items (P := P) (w := w) (base := base) T
  have G_ranks := ok_ranks (P := P) (w := w) (base := base) T
  refine mkX T.f_Book_order sc_Book_order (fun _ _ _ _ _ _ us hl => match us, hl with | [_], _ => rfl) (fun vs H Q E h => ?_) (fun cdv A outer s H vs Q E hr h => ?_)
  · obtain ⟨b, L, rfl, _⟩ := h
    rfl
  · obtain ⟨b, L, rfl, go, kS⟩ := h
    refine ⟨_, (pss_cons (ps_expr (pe_mt0 (pv 0) T.c_Book T.m_Book_need_items G_Book_need_items (hr.mono (by decide)) (L2N.passes_call (L2N.takes_of rfl rfl rfl rfl) (fun _ _ _ _ h => h))))
    (pss_one (ps_ret (pe_cl G_ranks (hr.mono (by decide)) T.g_ranks pass0 (pa_cons (pe_fldK rfl (pe_fldK rfl (pv 0) rfl) rfl) pa_nil))))), ?_⟩
    obtain ⟨dx, dl, ll, x, a, hb, hl⟩ := go.rd
    walk_at "go"
    refine r_meth hb rfl ?_
    walk_at "go"
    refine ⟨b, L, rfl, go, fun ne H1 e1 => ?_⟩
    have hl1 := hl.same e1
    obtain ⟨dx2, hx⟩ := hl1.x
    walk_at "go"
    refine r_fld (e1 _ _ hb) T.c_Book T.a_Book_line rfl ?_
    walk_at "go"
    refine r_fld hx T.c_Line T.a_Line_worths rfl ?_
    walk_at "go"
    exact ⟨a.a1, L.ws, rfl, hl1.f.h1, go.s.ok.n12, fun p H2 e2 hp h2 => kS ne p H2 (same_trans e1 e2) (none_below e1 hp) h2⟩
def spBkMissed (K : PySem.W.Frag) : Sp := fun vs H Q _ => ∃ (b : Addr) (L : BM.Ln), vs = [.ref b] ∧ BookRd K H b L ∧ ∀ p H', Same H H' → H p = none → H' p = some (.lst (vN L.lo)) → Q (.ref p) H'
theorem sc_Book_missed : FnScope ["self"] ["self"] (defScope s_Book_missed) := ⟨rfl, rfl, rfl, by decide +kernel, rfl, by decide +kernel, by decide +kernel⟩
theorem ok_Book_missed (T : Tx K mg) : Def P w K mg base CX0 1 (He.ma K (He.ga K "Book") "missed") ["self"] (spBkMissed K) := by
  refine mk0 T.f_Book_missed sc_Book_missed (fun _ _ _ _ _ _ us hl => match us, hl with | [_], _ => rfl) (fun vs H Q E h => ?_) (fun cdv A outer s H vs Q E hr h => ?_)
  · obtain ⟨b, L, rfl, _⟩ := h
    rfl
  · obtain ⟨b, L, rfl, ⟨dx, dl, ll, x, a, hb, hl⟩, kS⟩ := h
    refine ⟨_, (pss_one (ps_ret (pe_callTy (call_listK rfl) (by rfl) T.n_list (by decide +kernel) (pa_cons (pe_fldK rfl (pe_fldK rfl (pv 0) rfl) rfl) pa_nil)))), ?_⟩
    obtain ⟨dx2, hx⟩ := hl.x
    walk_at "go"
    refine r_fld hb T.c_Book T.a_Book_line rfl ?_
    walk_at "go"
    refine r_fld hx T.c_Line T.a_Line_left_out rfl ?_
    walk_at "go"
    refine r_listL hl.f.h5 ?_
    exact fun p hp => kS p _ (same_new hp) hp upd_same
def spBkSpoil (K : PySem.W.Frag) : Sp := fun vs H Q E => ∃ (b : Addr) (L : BM.Ln), vs = [.ref b] ∧ BkGo K H b L E ∧ (L.ws ≠ [] → ∀ v H', Same H H' → Told nsS H H' v (BM.leastSpoil L.ws.length (BM.unit L.rs) (BM.dem (BM.ranksM L.ws))) → Q v H')
theorem sc_Book_spoiling : FnScope ["self"] ["self"] (defScope s_Book_spoiling) := ⟨rfl, rfl, rfl, by decide +kernel, rfl, by decide +kernel, by decide +kernel⟩
theorem ok_Book_spoiling (T : Tx K mg) : Def P w K mg base (L2N.CX P w) 8 (He.ma K (He.ga K "Book") "spoiling") ["self"] (spBkSpoil K) := by
  have G_Book_schedule := ok_Book_schedule (P := P) (w := w) (base := base) T
  have G_Book_order := ok_Book_order (P := P) (w := w) (base := base) T
  have G_spoiling_bearing := ok_spoiling (P := P) (w := w) (base := base) T
  refine mkX T.f_Book_spoiling sc_Book_spoiling (fun _ _ _ _ _ _ us hl => match us, hl with | [_], _ => rfl) (fun vs H Q E h => ?_) (fun cdv A outer s H vs Q E hr h => ?_)
  · obtain ⟨b, L, rfl, _⟩ := h
    rfl
  · obtain ⟨b, L, rfl, go, kS⟩ := h
    refine ⟨_, (pss_one (ps_ret (pe_cl G_spoiling_bearing (hr.mono (by decide)) T.g_spoiling_bearing pass0 (pa_cons (pe_mt0 (pv 0) T.c_Book T.m_Book_schedule G_Book_schedule (hr.mono (by decide)) (L2N.passes_call (L2N.takes_of rfl rfl rfl rfl) (fun _ _ _ _ h => h))) (pa_cons (pe_mt0 (pv 0) T.c_Book T.m_Book_order G_Book_order (hr.mono (by decide)) (L2N.passes_call (L2N.takes_of rfl rfl rfl rfl) (fun _ _ _ _ h => h))) pa_nil))))), ?_⟩
    obtain ⟨dx, dl, ll, x, a, hb, hl⟩ := go.rd
    walk_at "go"
    refine r_meth hb rfl ?_
    walk_at "go"
    refine ⟨b, L, rfl, go, fun ne s H1 e1 hsN => ?_⟩
    have h1 := hsN.at_
    walk_at "go"
    refine r_meth (e1 _ _ hb) rfl ?_
    walk_at "go"
    refine ⟨b, L, rfl, go.same e1, fun _ p H2 e2 hp h2 => ?_⟩
    walk_at "go"
    have e12 := same_trans e1 e2
    have ln := BM.ranksM_len L.ws
    refine ⟨s, p, L.rs, BM.ranksM L.ws, rfl, by rw [ln]; exact h1.mono e2, by rw [ln]; exact csOk go.s ne, h2, fun v H3 e3 h3 => ?_⟩
    rw [ln] at h3
    exact kS ne v H3 (same_trans e12 e3) (h3.since e12)
def spBkCheap (K : PySem.W.Frag) : Sp := fun vs H Q E => ∃ (b : Addr) (L : BM.Ln), vs = [.ref b] ∧ BkGo K H b L E ∧ (L.ws ≠ [] → ∀ v H', Same H H' → Told nsC H H' v (BM.leastSpoil L.ws.length L.rs (BM.dem (BM.ranksM L.ws))) → Q v H')
theorem sc_Book_cheapest : FnScope ["self"] ["self"] (defScope s_Book_cheapest) := ⟨rfl, rfl, rfl, by decide +kernel, rfl, by decide +kernel, by decide +kernel⟩
theorem ok_Book_cheapest (T : Tx K mg) : Def P w K mg base (L2N.CX P w) 8 (He.ma K (He.ga K "Book") "cheapest") ["self"] (spBkCheap K) := by
  have G_Book_schedule := ok_Book_schedule (P := P) (w := w) (base := base) T
  have G_Book_order := ok_Book_order (P := P) (w := w) (base := base) T
  have G_cheapest_prices := ok_cheapest (P := P) (w := w) (base := base) T
  refine mkX T.f_Book_cheapest sc_Book_cheapest (fun _ _ _ _ _ _ us hl => match us, hl with | [_], _ => rfl) (fun vs H Q E h => ?_) (fun cdv A outer s H vs Q E hr h => ?_)
  · obtain ⟨b, L, rfl, _⟩ := h
    rfl
  · obtain ⟨b, L, rfl, go, kS⟩ := h
    refine ⟨_, (pss_one (ps_ret (pe_cl G_cheapest_prices (hr.mono (by decide)) T.g_cheapest_prices pass0 (pa_cons (pe_mt0 (pv 0) T.c_Book T.m_Book_schedule G_Book_schedule (hr.mono (by decide)) (L2N.passes_call (L2N.takes_of rfl rfl rfl rfl) (fun _ _ _ _ h => h))) (pa_cons (pe_mt0 (pv 0) T.c_Book T.m_Book_order G_Book_order (hr.mono (by decide)) (L2N.passes_call (L2N.takes_of rfl rfl rfl rfl) (fun _ _ _ _ h => h))) pa_nil))))), ?_⟩
    obtain ⟨dx, dl, ll, x, a, hb, hl⟩ := go.rd
    walk_at "go"
    refine r_meth hb rfl ?_
    walk_at "go"
    refine ⟨b, L, rfl, go, fun ne s H1 e1 hsN => ?_⟩
    have h1 := hsN.at_
    walk_at "go"
    refine r_meth (e1 _ _ hb) rfl ?_
    walk_at "go"
    refine ⟨b, L, rfl, go.same e1, fun _ p H2 e2 hp h2 => ?_⟩
    walk_at "go"
    have e12 := same_trans e1 e2
    have ln := BM.ranksM_len L.ws
    refine ⟨s, p, L.rs, BM.ranksM L.ws, rfl, by rw [ln]; exact h1.mono e2, by rw [ln]; exact csOk go.s ne, h2, fun v H3 e3 h3 => ?_⟩
    rw [ln] at h3
    exact kS ne v H3 (same_trans e12 e3) (h3.since e12)
def spBkBorne (K : PySem.W.Frag) : Sp := fun vs H Q E => ∃ (b : Addr) (L : BM.Ln), vs = [.ref b] ∧ BkGo K H b L E ∧ (L.ws ≠ [] → ∀ H', Same H H' → Q (oV (borneM L.ws.length L.rs (BM.ranksM L.ws))) H')
theorem sc_Book_borne : FnScope ["self"] ["self"] (defScope s_Book_borne) := ⟨rfl, rfl, rfl, by decide +kernel, rfl, by decide +kernel, by decide +kernel⟩
theorem ok_Book_borne (T : Tx K mg) : Def P w K mg base (L2N.CX P w) 8 (He.ma K (He.ga K "Book") "borne") ["self"] (spBkBorne K) := by
  have G_Book_schedule := ok_Book_schedule (P := P) (w := w) (base := base) T
  have G_Book_order := ok_Book_order (P := P) (w := w) (base := base) T
  have G_borne_bearing := ok_borne (P := P) (w := w) (base := base) T
  refine mkX T.f_Book_borne sc_Book_borne (fun _ _ _ _ _ _ us hl => match us, hl with | [_], _ => rfl) (fun vs H Q E h => ?_) (fun cdv A outer s H vs Q E hr h => ?_)
  · obtain ⟨b, L, rfl, _⟩ := h
    rfl
  · obtain ⟨b, L, rfl, go, kS⟩ := h
    refine ⟨_, (pss_one (ps_ret (pe_cl G_borne_bearing (hr.mono (by decide)) T.g_borne_bearing pass0 (pa_cons (pe_mt0 (pv 0) T.c_Book T.m_Book_schedule G_Book_schedule (hr.mono (by decide)) (L2N.passes_call (L2N.takes_of rfl rfl rfl rfl) (fun _ _ _ _ h => h))) (pa_cons (pe_mt0 (pv 0) T.c_Book T.m_Book_order G_Book_order (hr.mono (by decide)) (L2N.passes_call (L2N.takes_of rfl rfl rfl rfl) (fun _ _ _ _ h => h))) pa_nil))))), ?_⟩
    obtain ⟨dx, dl, ll, x, a, hb, hl⟩ := go.rd
    walk_at "go"
    refine r_meth hb rfl ?_
    walk_at "go"
    refine ⟨b, L, rfl, go, fun ne s H1 e1 hsN => ?_⟩
    have h1 := hsN.at_
    walk_at "go"
    refine r_meth (e1 _ _ hb) rfl ?_
    walk_at "go"
    refine ⟨b, L, rfl, go.same e1, fun _ p H2 e2 hp h2 => ?_⟩
    walk_at "go"
    have e12 := same_trans e1 e2
    have ln := BM.ranksM_len L.ws
    refine ⟨s, p, L.rs, BM.ranksM L.ws, rfl, by rw [ln]; exact h1.mono e2, by rw [ln]; exact csOk go.s ne, h2, fun H3 e3 => ?_⟩
    rw [ln]
    exact kS ne H3 (same_trans e12 e3)
end
end BW
namespace BW
open PySem PySem.Spec PyProof.Rows L2
section
variable {P : Program} {w : World} {K : PySem.W.Frag} {mg : Str → Option Value} {base : Heap}

theorem passL0 {X : Cx} {P : Program} {w : World} : Passes (L2.CX P w) X E0 := fun _ _ _ _ _ _ _ h => by
  obtain ⟨_, _, _, _, _, _, _, _, _, _, _, _, hE⟩ := h
  exact hE.elim
theorem passN0 {X : Cx} {P : Program} {w : World} : Passes (L2N.CX P w) X E0 := fun _ _ _ _ _ _ _ h => by
  obtain ⟨_, _, _, _, _, _, _, _, _, _, _, _, hE⟩ := h
  exact hE.elim
theorem deedAt_but {fp : List Addr} {H H' : Hp} {v : V} {d : BM.Deed} (h : DeedAt H v d) (e : But fp H H') (hf : ∀ a ∈ fp, ∀ xs, H a ≠ some (.tup xs)) : DeedAt H' v d := by
  obtain ⟨q, h1, h2⟩ := h
  exact ⟨q, h1, e _ _ h2 fun z => hf q z _ h2⟩
theorem deeds_but {fp : List Addr} {H H' : Hp} {us : List V} {ds : List BM.Deed} (h : Deeds H us ds) (e : But fp H H') (hf : ∀ a ∈ fp, ∀ xs, H a ≠ some (.tup xs)) : Deeds H' us ds := pair_mono h fun _ _ z => deedAt_but z e hf
theorem LineAt.but {H H' : Hp} {x : Addr} {a : Adr} {L : BM.Ln} {fp : List Addr} (h : LineAt K H x a L) (e : But fp H H') (hx : x ∉ fp) (ha : ∀ y ∈ a.all, y ∉ fp) (ht : ∀ b ∈ fp, ∀ xs, H b ≠ some (.tup xs)) : LineAt K H' x a L :=
  ⟨h.x.imp fun dx z => e _ _ z hx, h.f.but e ha ht⟩
structure BkA where
  dl : Addr
  ll : Addr
  x : Addr
  a : Adr
abbrev BkA.lists (B : BkA) : List Addr := B.dl :: B.ll :: B.a.all
abbrev BkA.foot (b : Addr) (B : BkA) : List Addr := b :: B.lists
theorem BkA.m1 (B : BkA) : B.dl ∈ B.lists := List.mem_cons_self ..
theorem BkA.m2 (B : BkA) : B.ll ∈ B.lists := List.mem_cons_of_mem _ (List.mem_cons_self ..)
theorem BkA.m3 (B : BkA) {y : Addr} (h : y ∈ B.a.all) : y ∈ B.lists := List.mem_cons_of_mem _ (List.mem_cons_of_mem _ h)
theorem BkA.f0 (B : BkA) (b : Addr) : b ∈ B.foot b := List.mem_cons_self ..
theorem BkA.f1 (B : BkA) (b : Addr) {y : Addr} (h : y ∈ B.lists) : y ∈ B.foot b := List.mem_cons_of_mem _ h
theorem BkA.cases {B : BkA} {y : Addr} (h : y ∈ B.lists) : y = B.dl ∨ y = B.ll ∨ y ∈ B.a.all := by
  rcases List.mem_cons.mp h with h | h
  · exact .inl h
  · exact .inr (List.mem_cons.mp h)
theorem nd4 {B : BkA} (h : B.lists.Nodup) : B.dl ≠ B.ll ∧ B.dl ∉ B.a.all ∧ B.ll ∉ B.a.all ∧ B.a.all.Nodup := by
  obtain ⟨h1, h2⟩ := List.nodup_cons.mp h
  obtain ⟨h3, h4⟩ := List.nodup_cons.mp h2
  exact ⟨fun z => h1 (by rw [z]; exact List.mem_cons_self ..), fun z => h1 (List.mem_cons_of_mem _ z), h3, h4⟩
theorem of4 {B : BkA} (h : B.dl ≠ B.ll ∧ B.dl ∉ B.a.all ∧ B.ll ∉ B.a.all ∧ B.a.all.Nodup) : B.lists.Nodup :=
  List.nodup_cons.mpr ⟨fun z => (List.mem_cons.mp z).elim h.1 h.2.1, List.nodup_cons.mpr h.2.2⟩
structure BookAt (K : PySem.W.Frag) (H : Hp) (b : Addr) (B : BkA) (log und : List BM.Deed) (L : BM.Ln) : Prop where
  h : ∃ dx, H b = some (.ins (He.ga K "Book") dx (bokF B.dl B.ll B.x))
  d : ∃ us, H B.dl = some (.lst us) ∧ Deeds H us log
  l : ∃ us, H B.ll = some (.lst us) ∧ Deeds H us und
  ln : LineAt K H B.x B.a L
  nd : B.lists.Nodup
theorem BookAt.rd {H : Hp} {b : Addr} {B : BkA} {log und : List BM.Deed} {L : BM.Ln} (h : BookAt K H b B log und L) : BookRd K H b L := by
  obtain ⟨dx, e⟩ := h.h
  exact ⟨dx, B.dl, B.ll, B.x, B.a, e, h.ln⟩
theorem BookAt.same {H H' : Hp} {b : Addr} {B : BkA} {log und : List BM.Deed} {L : BM.Ln} (h : BookAt K H b B log und L) (e : Same H H') : BookAt K H' b B log und L := by
  obtain ⟨us, d1, d2⟩ := h.d
  obtain ⟨vs, l1, l2⟩ := h.l
  exact ⟨h.h.imp fun dx z => e _ _ z, ⟨us, e _ _ d1, deeds_mono d2 e⟩, ⟨vs, e _ _ l1, deeds_mono l2 e⟩, h.ln.same e, h.nd⟩
section
variable {H : Hp} {b : Addr} {B : BkA} {log und : List BM.Deed} {L : BM.Ln}
theorem BookAt.lst (h : BookAt K H b B log und L) : ∀ p ∈ B.lists, ∃ xs, H p = some (.lst xs) := by
  obtain ⟨us, d1, _⟩ := h.d
  obtain ⟨vs, l1, _⟩ := h.l
  intro p hp
  rcases List.mem_cons.mp hp with rfl | hp
  · exact ⟨_, d1⟩
  · rcases List.mem_cons.mp hp with rfl | hp
    · exact ⟨_, l1⟩
    · exact h.ln.f.lst p hp
theorem BookAt.notup (h : BookAt K H b B log und L) : ∀ p ∈ B.foot b, ∀ xs, H p ≠ some (.tup xs) := by
  intro p hp xs z
  rcases List.mem_cons.mp hp with rfl | hp
  · obtain ⟨dx, e⟩ := h.h
    rw [e] at z
    cases z
  · obtain ⟨ys, e⟩ := h.lst p hp
    rw [e] at z
    cases z
theorem BookAt.boff (h : BookAt K H b B log und L) : b ∉ B.lists := fun hp => by
  obtain ⟨dx, e⟩ := h.h
  obtain ⟨ys, e2⟩ := h.lst b hp
  rw [e] at e2
  cases e2
theorem BookAt.xoff (h : BookAt K H b B log und L) : B.x ∉ B.lists := fun hp => by
  obtain ⟨dx, e⟩ := h.ln.x
  obtain ⟨ys, e2⟩ := h.lst _ hp
  rw [e] at e2
  cases e2
theorem BookAt.xb (h : BookAt K H b B log und L) : B.x ≠ b := fun z => by
  obtain ⟨dx, e⟩ := h.ln.x
  obtain ⟨dx2, e2⟩ := h.h
  rw [z, e2] at e
  have e3 := (HO.ins.inj (Option.some.inj e)).2.2
  have e4 := congrArg List.length e3
  simp at e4
/-- kept while other things change -/
theorem BookAt.but {H' : Hp} {fp : List Addr} (h : BookAt K H b B log und L) (e : But fp H H') (hd : ∀ p ∈ B.foot b, p ∉ fp) (hx : B.x ∉ fp) (hf : ∀ p ∈ fp, ∀ xs, H p ≠ some (.tup xs)) : BookAt K H' b B log und L := by
  obtain ⟨us, d1, d2⟩ := h.d
  obtain ⟨vs, l1, l2⟩ := h.l
  exact ⟨h.h.imp fun dx z => e _ _ z (hd _ (B.f0 b)), ⟨us, e _ _ d1 (hd _ (B.f1 b B.m1)), deeds_but d2 e hf⟩, ⟨vs, e _ _ l1 (hd _ (B.f1 b B.m2)), deeds_but l2 e hf⟩, h.ln.but e hx (fun y hy => hd y (B.f1 b (B.m3 hy))) hf, h.nd⟩
end
/-- what an operation leaves -/
structure BkNew (K : PySem.W.Frag) (H H' : Hp) (b : Addr) (B B' : BkA) (log und : List BM.Deed) (L : BM.Ln) : Prop where
  bt : But (B.foot b) H H'
  fr : ∀ p ∈ B'.foot b, p ∈ B.foot b ∨ H p = none
  at_ : BookAt K H' b B' log und L
/-- self.later = [] at the end: a new list stands in the field -/
theorem book_later {H0 H H' : Hp} {b p dx : Addr} {B B0 : BkA} {log und : List BM.Deed} {L : BM.Ln} (h : BookAt K H b B log und L) (e : Same H H') (hp : H p = none) (h' : H' p = some (.lst [])) (hb : H b = some (.ins (He.ga K "Book") dx (bokF B.dl B.ll B.x))) (bt : But (B0.foot b) H0 H) (fr : ∀ q ∈ B.foot b, q ∈ B0.foot b ∨ H0 q = none) (hp0 : H0 p = none) :
    BkNew K H0 (upd H' b (.ins (He.ga K "Book") dx (putF "later" (.ref p) (bokF B.dl B.ll B.x)))) b B0 { B with ll := p } log [] L := by
  have h2 := h.same e
  have pl : p ∉ B.lists := fun z => by
    obtain ⟨ys, q⟩ := h.lst p z
    rw [hp] at q
    cases q
  have pb : p ≠ b := fun z => by
    rw [z, hb] at hp
    cases hp
  have bb : But [b] H' (upd H' b (.ins (He.ga K "Book") dx (putF "later" (.ref p) (bokF B.dl B.ll B.x)))) := but_upd (but_refl _ _) (by simp)
  have nt : ∀ q ∈ [b], ∀ xs, H' q ≠ some (.tup xs) := fun q hq xs z => by
    rw [List.mem_singleton.mp hq, e _ _ hb] at z
    cases z
  have off : ∀ q ∈ B.lists, q ∉ [b] := fun q hq z => h.boff (by rw [← List.mem_singleton.mp z]; exact hq)
  obtain ⟨us, d1, d2⟩ := h2.d
  obtain ⟨n1, n2, n3, n4⟩ := nd4 h.nd
  refine ⟨but_upd (bt.trans (But.same e _)) (B0.f0 b), fun q hq => ?_, ⟨dx, upd_same⟩, ⟨us, bb _ _ d1 (off _ B.m1), deeds_but d2 bb nt⟩, ⟨[], bb _ _ h' (by simp [pb]), .nil⟩, h2.ln.but bb (by simp [h.xb]) (fun y hy => off y (B.m3 hy)) nt, ?_⟩
  · rcases List.mem_cons.mp hq with rfl | hq
    · exact .inl (B0.f0 _)
    · rcases BkA.cases hq with rfl | rfl | hq
      · exact fr _ (B.f1 b B.m1)
      · exact .inr hp0
      · exact fr q (B.f1 b (B.m3 hq))
  · exact of4 ⟨fun z => pl (by have z : B.dl = p := z; rw [← z]; exact B.m1), n2, fun z => pl (B.m3 z), n4⟩
def spBkDo (K : PySem.W.Frag) : Sp := fun vs H Q E => ∃ (b : Addr) (B : BkA) (log und : List BM.Deed) (L : BM.Ln) (v : V) (dd : BM.Deed), vs = [.ref b, v] ∧ BookAt K H b B log und L ∧ LnSmall L ∧ log.length ≤ 150 ∧ DeedAt H v dd ∧ dd.ok ∧
  (L.step dd = none → ∀ C d H', C = He.ga K "TooMany" ∨ C = He.ga K "NoItems" → Same H H' → E (.ref C) d H') ∧ (∀ L', L.step dd = some L' → ∀ r B' H', BkNew K H H' b B B' (log ++ [dd]) [] L' → Q r H')
theorem sc_Book_do : FnScope ["self", "deed", "told"] ["self", "deed"] (defScope s_Book_do) := ⟨rfl, rfl, rfl, by decide +kernel, rfl, by decide +kernel, by decide +kernel⟩
theorem ok_Book_do (T : Tx K mg) : Def P w K mg base (L2N.CX P w) 5 (He.ma K (He.ga K "Book") "do") ["self", "deed"] (spBkDo K) := by
  have G_is_deed := ok_is_deed (P := P) (w := w) (base := base) T
  have G_Line_do := ok_Line_do (P := P) (w := w) (base := base) T
  refine mkX T.f_Book_do sc_Book_do (fun _ _ _ _ _ _ us hl => match us, hl with | [_, _], _ => rfl) (fun vs H Q E h => ?_) (fun cdv A outer s H vs Q E hr h => ?_)
  · obtain ⟨b, B, log, und, L, v, dd, rfl, _⟩ := h
    rfl
  · obtain ⟨b, B, log, und, L, v, dd, rfl, hb, sm, hl, hv, ok, kN, kS⟩ := h
    refine ⟨_, (pss_cons (ps_if (pt_not (pt_val (pe_cl G_is_deed (hr.mono (by decide)) T.g_is_deed pass0 (pa_cons (pv 1) pa_nil))))
    pss_never pss_nil)
    (pss_cons (ps_if (pt_cmpR op_eq (pe_callB (call_lenK rfl) (by rfl) T.n_len PySem.boot_len (pa_cons (pe_fldK rfl (pv 0) rfl) pa_nil)) (pe_gi T.i_MAX_DEEDS) (nomark _))
    pss_never pss_nil)
    (pss_cons (ps_set (i := 2) sc_Book_do.nd rfl (Or.inl rfl) (pe_mt (pe_fldK rfl (pv 0) rfl) T.c_Line T.m_Line_do G_Line_do (hr.mono (by decide)) (L2N.passes_call (L2N.takes_of rfl rfl rfl rfl) (fun _ _ _ _ h => h)) (pa_cons (pv 1) pa_nil)))
    (pss_cons (ps_expr (pe_bmK rfl PySem.F.plainAttrs_list PySem.F.slot_list_append PySem.F.type_list_append mt_append (pe_fldK rfl (pv 0) rfl) (pa_cons (pv 1) pa_nil)))
    (pss_cons (ps_fldK rfl (pv 0) (pe_lst pa_nil) rfl)
    (pss_one (ps_ret (pv 2)))))))), ?_⟩
    obtain ⟨dx, hi⟩ := hb.h
    obtain ⟨us, d1, d2⟩ := hb.d
    obtain ⟨dx2, hx⟩ := hb.ln.x
    walk_at "go"
    refine ⟨v, dd, rfl, hv, ok, ?_⟩
    walk_at "go"
    refine r_fld hi T.c_Book T.a_Book_deeds rfl ?_
    walk_at "go"
    refine r_lenL d1 ?_
    walk_at "go"
    refine iteNo (by rw [d2.length]; omega) ?_
    walk_at "go"
    refine r_fld hi T.c_Book T.a_Book_line rfl ?_
    refine r_meth hx rfl ?_
    walk_at "go"
    refine ⟨B.x, B.a, L, v, dd, rfl, hv, hb.ln, sm, kN, fun L' hs r H1 b1 h1 _ => ?_⟩
    obtain ⟨n1, n2, n3, n4⟩ := nd4 hb.nd
    have nt : ∀ q ∈ B.a.all, ∀ xs, H q ≠ some (.tup xs) := hb.ln.f.notup
    have boff := hb.boff
    have hi1 := b1 _ _ hi fun z => boff (B.m3 z)
    have e1 := b1 _ _ d1 n2
    have e2 := deeds_but d2 b1 nt
    have hv1 := deedAt_but hv b1 nt
    obtain ⟨vs, l1, l2⟩ := hb.l
    have l1 := b1 _ _ l1 n3
    have l2 := deeds_but l2 b1 nt
    walk_at "go"
    refine r_fld hi1 T.c_Book T.a_Book_deeds rfl ?_
    refine r_tyL e1 ?_
    walk_at "go"
    refine r_app e1 (by rw [d2.length]; omega) ?_
    have b2 : But [B.dl] H1 (upd H1 B.dl (.lst (us ++ [v]))) := but_upd (but_refl _ _) (by simp)
    have nt2 : ∀ q ∈ [B.dl], ∀ xs, H1 q ≠ some (.tup xs) := fun q hq xs z => by
      rw [List.mem_singleton.mp hq, e1] at z
      cases z
    have hd2 : upd H1 B.dl (.lst (us ++ [v])) B.dl = some (.lst (us ++ [v])) := upd_same
    generalize upd H1 B.dl (.lst (us ++ [v])) = H2 at *
    have xl : B.x ≠ B.dl := fun z => hb.xoff (by rw [z]; exact B.m1)
    have bl : b ≠ B.dl := fun z => hb.boff (by rw [z]; exact B.m1)
    have hi2 := b2 _ _ hi1 (by simp [bl])
    have bk : BookAt K H2 b B (log ++ [dd]) und L' := ⟨⟨dx, hi2⟩, ⟨_, hd2, pair_app (deeds_but e2 b2 nt2) (.cons (deedAt_but hv1 b2 nt2) .nil)⟩, ⟨vs, b2 _ _ l1 (by simp [Ne.symm n1]), deeds_but l2 b2 nt2⟩, h1.but b2 (by simp [xl]) (fun y hy z => n2 (by rw [← List.mem_singleton.mp z]; exact hy)) nt2, hb.nd⟩
    have bt : But (B.foot b) H H2 := (b1.mono fun y hy => B.f1 b (B.m3 hy)).trans (b2.mono fun y hy => by rw [List.mem_singleton.mp hy]; exact B.f1 b B.m1)
    walk_at "go"
    refine r_new (by simp) fun p H3 e3 hp h3 => ?_
    walk_at "go"
    refine r_sf (e3 _ _ hi2) T.c_Book T.a_Book_later (by simp) ?_
    walk_at "go"
    have pf : p ∉ B.foot b := fun z => by
      rcases List.mem_cons.mp z with rfl | z
      · rw [hi2] at hp
        cases hp
      · obtain ⟨ys, q⟩ := bk.lst p z
        rw [q] at hp
        cases hp
    exact kS L' hs _ _ _ (book_later bk e3 hp h3 hi2 bt (fun q hq => .inl hq) (bt.none hp pf))
end
end BW
namespace BW
open PySem PySem.Spec PyProof.Rows L2
section
variable {P : Program} {w : World} {K : PySem.W.Frag} {mg : Str → Option Value} {base : Heap}

/-- deeds, line replaced -/
def spChange (K : PySem.W.Frag) : Sp := fun vs H Q E => ∃ (b g : Addr) (B : BkA) (log und : List BM.Deed) (L : BM.Ln) (us : List V) (ds : List BM.Deed), vs = [.ref b, .ref g] ∧ BookAt K H b B log und L ∧ H g = some (.lst us) ∧ Deeds H us ds ∧ (∀ d ∈ ds, d.ok) ∧ ds.length ≤ 400 ∧ g ≠ b ∧
  (BM.replay ds = none → ∀ d H', Same H H' → E (.ref (He.ga K "Broken")) d H') ∧
  (∀ L', BM.replay ds = some L' → ∀ B' H', But [b] H H' → B'.dl = g → (∀ p ∈ B'.ll :: B'.a.all, H p = none) → BookAt K H' b B' ds [] L' → Q .non H')
theorem sc_Book_change : FnScope ["self", "deeds"] ["self", "deeds"] (defScope s_Book_change) := ⟨rfl, rfl, rfl, by decide +kernel, rfl, by decide +kernel, by decide +kernel⟩
theorem ok_Book_change (T : Tx K mg) : Def P w K mg base (L2.CX P w) 6 (He.ma K (He.ga K "Book") "change") ["self", "deeds"] (spChange K) := by
  have G_played := ok_played (P := P) (w := w) (base := base) T
  refine mkX T.f_Book_change sc_Book_change (fun _ _ _ _ _ _ us hl => match us, hl with | [_, _], _ => rfl) (fun vs H Q E h => ?_) (fun cdv A outer s H vs Q E hr h => ?_)
  · obtain ⟨b, g, B, log, und, L, us, ds, rfl, _⟩ := h
    rfl
  · obtain ⟨b, g, B, log, und, L, us, ds, rfl, hb, hg, hd, ok, hl, gb, kN, kS⟩ := h
    refine ⟨_, (pss_cons (ps_fldK rfl (pv 0) (pe_cl G_played (hr.mono (by decide)) T.g_played (passes_call (takes_of rfl rfl rfl rfl) (fun _ _ _ _ h => h)) (pa_cons (pv 1) pa_nil)) rfl)
    (pss_cons (ps_fldK rfl (pv 0) (pv 1) rfl)
    (pss_one (ps_fldK rfl (pv 0) (pe_lst pa_nil) rfl)))), ?_⟩
    obtain ⟨dx, hi⟩ := hb.h
    walk_at "go"
    refine ⟨g, us, ds, rfl, hg, hd, ok, hl, kN, fun L' hs x a H1 e1 hx0 ha0 h1 => ?_⟩
    walk_at "go"
    have bx : b ≠ x := ne_of_none hi hx0
    have gx : g ≠ x := ne_of_none hg hx0
    have s1 : putF "line" (.ref x) (bokF B.dl B.ll B.x) = bokF B.dl B.ll x := rfl
    have s2 : putF "deeds" (.ref g) (bokF B.dl B.ll x) = bokF g B.ll x := rfl
    refine r_sf (e1 _ _ hi) T.c_Book T.a_Book_line (by simp) ?_
    have b2 : But [b] H (upd H1 b (.ins (He.ga K "Book") dx (putF "line" (.ref x) (bokF B.dl B.ll B.x)))) := but_upd (But.same e1 _) (by simp)
    have i2 : upd H1 b (.ins (He.ga K "Book") dx (putF "line" (.ref x) (bokF B.dl B.ll B.x))) b = some (.ins (He.ga K "Book") dx (bokF B.dl B.ll x)) := by rw [upd_same, s1]
    have l2 : LineAt K (upd H1 b (.ins (He.ga K "Book") dx (putF "line" (.ref x) (bokF B.dl B.ll B.x)))) x a L' := by
      refine h1.but (fp := [b]) (but_upd (but_refl _ _) (by simp)) (by simp [Ne.symm bx]) (fun y hy z => ?_) (fun q hq xs z => ?_)
      · have := ha0 y hy
        rw [List.mem_singleton.mp z, hi] at this
        cases this
      · rw [List.mem_singleton.mp hq, e1 _ _ hi] at z
        cases z
    generalize upd H1 b (.ins (He.ga K "Book") dx (putF "line" (.ref x) (bokF B.dl B.ll B.x))) = H2 at *
    walk_at "go"
    refine r_sf i2 T.c_Book T.a_Book_deeds (by simp) ?_
    have b3 : But [b] H (upd H2 b (.ins (He.ga K "Book") dx (putF "deeds" (.ref g) (bokF B.dl B.ll x)))) := but_upd b2 (by simp)
    have i3 : upd H2 b (.ins (He.ga K "Book") dx (putF "deeds" (.ref g) (bokF B.dl B.ll x))) b = some (.ins (He.ga K "Book") dx (bokF g B.ll x)) := by rw [upd_same, s2]
    have nta : ∀ q ∈ [b], ∀ xs, H2 q ≠ some (.tup xs) := fun q hq xs z => by
      rw [List.mem_singleton.mp hq, i2] at z
      cases z
    have ab : ∀ y ∈ a.all, y ∉ [b] := fun y hy z => by
      have := ha0 y hy
      rw [List.mem_singleton.mp z, hi] at this
      cases this
    have l3 : LineAt K (upd H2 b (.ins (He.ga K "Book") dx (putF "deeds" (.ref g) (bokF B.dl B.ll x)))) x a L' := l2.but (fp := [b]) (but_upd (but_refl _ _) (by simp)) (by simp [Ne.symm bx]) ab nta
    generalize upd H2 b (.ins (He.ga K "Book") dx (putF "deeds" (.ref g) (bokF B.dl B.ll x))) = H3 at *
    walk_at "go"
    refine r_new (by simp) fun p H4 e4 hp h4 => ?_
    walk_at "go"
    refine r_sf (e4 _ _ i3) T.c_Book T.a_Book_later (by simp) ?_
    walk_at "go"
    have pb : p ≠ b := fun z => by
      rw [z, i3] at hp
      cases hp
    have hp0 : H p = none := b3.none hp (by simp [pb])
    have nt : ∀ q ∈ [b], ∀ xs, H q ≠ some (.tup xs) := fun q hq xs z => by
      rw [List.mem_singleton.mp hq, hi] at z
      cases z
    have hg3 := b3 _ _ hg (by simp [gb])
    have bk : BookAt K H3 b ⟨g, B.ll, x, a⟩ ds [] L' → True := fun _ => trivial
    have b5 : But [b] H (upd H4 b (.ins (He.ga K "Book") dx (putF "later" (.ref p) (bokF g B.ll x)))) := but_upd (b3.trans (But.same e4 _)) (by simp)
    have s4 : putF "later" (.ref p) (bokF g B.ll x) = bokF g p x := rfl
    have pa : ∀ y ∈ a.all, y ≠ p := fun y hy z => by
      obtain ⟨ys, q⟩ := l3.f.lst y hy
      rw [z, hp] at q
      cases q
    have ga : g ∉ a.all := fun z => by
      have := ha0 g z
      rw [hg] at this
      cases this
    have gp : g ≠ p := ne_of_none hg3 hp
    refine kS L' hs ⟨g, p, x, a⟩ _ b5 rfl (fun q hq => ?_) ⟨⟨dx, by rw [upd_same, s4]⟩, ⟨us, b5 _ _ hg (by simp [gb]), deeds_but hd b5 nt⟩, ⟨[], (upd_ne pb).trans h4, .nil⟩, ?_, of4 ⟨gp, ga, fun z => pa p z rfl, l3.f.nd⟩⟩
    · rcases List.mem_cons.mp hq with rfl | hq
      · exact hp0
      · exact ha0 q hq
    · refine (l3.same e4).but (fp := [b]) (but_upd (but_refl _ _) (by simp)) (by simp [Ne.symm bx]) ab (fun q hq xs z => ?_)
      rw [List.mem_singleton.mp hq, e4 _ _ i3] at z
      cases z
/-- what a changed Book is: all but the Book itself is new -/
def BkFresh (K : PySem.W.Frag) (H : Hp) (b : Addr) (ds : List BM.Deed) (Q : VK) (E : XK) : Prop :=
  (BM.replay ds = none → ∀ d H', Same H H' → E (.ref (He.ga K "Broken")) d H') ∧ (∀ L', BM.replay ds = some L' → ∀ B' H', But [b] H H' → (∀ p ∈ B'.lists, H p = none) → BookAt K H' b B' ds [] L' → Q .non H')
theorem to_change {H H1 : Hp} {b g : Addr} {B : BkA} {log und : List BM.Deed} {L : BM.Ln} {us : List V} {ds : List BM.Deed} {Q : VK} {E : XK} (h : BkFresh K H b ds Q E) (hb : BookAt K H b B log und L) (e : Same H H1) (hg0 : H g = none) (hg : H1 g = some (.lst us)) (hd : Deeds H1 us ds) (ok : ∀ d ∈ ds, d.ok) (hl : ds.length ≤ 400) : spChange K [.ref b, .ref g] H1 Q E := by
  obtain ⟨dx, hi⟩ := hb.h
  refine ⟨b, g, B, log, und, L, us, ds, rfl, hb.same e, hg, hd, ok, hl, Ne.symm (ne_of_none hi hg0), fun hn d H' e2 => h.1 hn d H' (same_trans e e2), fun L' hs B' H' bt hdl hfr hbk => ?_⟩
  refine h.2 L' hs B' H' ((But.same e _).trans bt) (fun p hp => ?_) hbk
  rcases BkA.cases hp with rfl | hp | hp
  · rw [hdl]
    exact hg0
  · exact none_below e (hfr p (by rw [hp]; exact List.mem_cons_self ..))
  · exact none_below e (hfr p (List.mem_cons_of_mem _ hp))
def spInsert (K : PySem.W.Frag) : Sp := fun vs H Q E => ∃ (b : Addr) (B : BkA) (log und : List BM.Deed) (L : BM.Ln) (i : Nat) (v : V) (dd : BM.Deed), vs = [.ref b, .int (i : Int), v] ∧ BookAt K H b B log und L ∧ (∀ d ∈ log, d.ok) ∧ log.length ≤ 150 ∧ i ≤ log.length ∧ DeedAt H v dd ∧ dd.ok ∧ BkFresh K H b (log.take i ++ [dd] ++ log.drop i) Q E
theorem sc_Book_insert : FnScope ["self", "at", "deed"] ["self", "at", "deed"] (defScope s_Book_insert) := ⟨rfl, rfl, rfl, by decide +kernel, rfl, by decide +kernel, by decide +kernel⟩
theorem ok_Book_insert (T : Tx K mg) : Def P w K mg base (L2.CX P w) 7 (He.ma K (He.ga K "Book") "insert") ["self", "at", "deed"] (spInsert K) := by
  have G_is_between := ok_is_between (P := P) (w := w) (base := base) T
  have G_Book_change := ok_Book_change (P := P) (w := w) (base := base) T
  refine mkX T.f_Book_insert sc_Book_insert (fun _ _ _ _ _ _ us hl => match us, hl with | [_, _, _], _ => rfl) (fun vs H Q E h => ?_) (fun cdv A outer s H vs Q E hr h => ?_)
  · obtain ⟨b, B, log, und, L, i, v, dd, rfl, _⟩ := h
    rfl
  · obtain ⟨b, B, log, und, L, i, v, dd, rfl, hb, lok, hl, hi2, hv, dok, kk⟩ := h
    refine ⟨_, (pss_cons (ps_if (pt_not (pt_val (pe_cl G_is_between (hr.mono (by decide)) T.g_is_between pass0 (pa_cons (pv 1) (pa_cons pe_int (pa_cons (pe_callB (call_lenK rfl) (by rfl) T.n_len PySem.boot_len (pa_cons (pe_fldK rfl (pv 0) rfl) pa_nil)) pa_nil))))))
    pss_never pss_nil)
    (pss_cons (ps_if (pt_cmpR op_eq (pe_callB (call_lenK rfl) (by rfl) T.n_len PySem.boot_len (pa_cons (pe_fldK rfl (pv 0) rfl) pa_nil)) (pe_gi T.i_MAX_DEEDS) (nomark _))
    pss_never pss_nil)
    (pss_one (ps_expr (pe_mt (pv 0) T.c_Book T.m_Book_change G_Book_change (hr.mono (by decide)) (passes_call (takes_of rfl rfl rfl rfl) (fun _ _ _ _ h => h)) (pa_cons (pe_op op_cat (pe_op op_cat (pe_slice (sl_listK rfl) (pe_fldK rfl (pv 0) rfl) po_none (po_some (pv 1))) (pe_lst (pa_cons (pv 2) pa_nil))) (pe_slice (sl_listK rfl) (pe_fldK rfl (pv 0) rfl) (po_some (pv 1)) po_none)) pa_nil)))))), ?_⟩
    obtain ⟨dx, hi⟩ := hb.h
    obtain ⟨us, d1, d2⟩ := hb.d
    have ul := d2.length
    walk_at "go"
    refine r_fld hi T.c_Book T.a_Book_deeds rfl ?_
    walk_at "go"
    refine r_lenL d1 ?_
    walk_at "go"
    refine ⟨i, 0, us.length, rfl, by omega, by omega, ?_⟩
    walk_at "go"
    refine r_fld hi T.c_Book T.a_Book_deeds rfl ?_
    walk_at "go"
    refine r_lenL d1 ?_
    walk_at "go"
    refine iteNo (by omega) ?_
    walk_at "go"
    refine r_meth hi rfl ?_
    walk_at "go"
    refine r_fld hi T.c_Book T.a_Book_deeds rfl ?_
    walk_at "go"
    refine r_slTo d1 rfl (by omega) fun p1 H1 e1 hp1 h1 => ?_
    walk_at "go"
    refine r_new (by simp) fun p2 H2 e2 hp2 h2 => ?_
    walk_at "go"
    refine r_cat (e2 _ _ h1) h2 (by simp; omega) fun p3 H3 e3 hp3 h3 => ?_
    walk_at "go"
    have e03 := same_trans e1 (same_trans e2 e3)
    refine r_fld (e03 _ _ hi) T.c_Book T.a_Book_deeds rfl ?_
    walk_at "go"
    refine r_slFrom (e03 _ _ d1) rfl (by omega) fun p4 H4 e4 hp4 h4 => ?_
    walk_at "go"
    refine r_cat (e4 _ _ h3) h4 (by simp; omega) fun p5 H5 e5 hp5 h5 => ?_
    walk_at "go"
    have e04 := same_trans e03 e4
    have e05 := same_trans e04 e5
    refine to_change kk hb e05 (none_below e04 hp5) h5 (pair_app (pair_app (pair_take _ (deeds_mono d2 e05)) (.cons (hv.mono e05) .nil)) (pair_drop _ (deeds_mono d2 e05))) (fun d hd => ?_) (by simp; omega)
    rcases List.mem_append.mp hd with hd | hd
    · rcases List.mem_append.mp hd with hd | hd
      · exact lok d (List.mem_of_mem_take hd)
      · rw [List.mem_singleton.mp hd]; exact dok
    · exact lok d (List.mem_of_mem_drop hd)
def spRemove (K : PySem.W.Frag) : Sp := fun vs H Q E => ∃ (b : Addr) (B : BkA) (log und : List BM.Deed) (L : BM.Ln) (i : Nat), vs = [.ref b, .int (i : Int)] ∧ BookAt K H b B log und L ∧ (∀ d ∈ log, d.ok) ∧ log.length ≤ 150 ∧ i < log.length ∧ BkFresh K H b (log.take i ++ log.drop (i + 1)) Q E
theorem sc_Book_remove : FnScope ["self", "at"] ["self", "at"] (defScope s_Book_remove) := ⟨rfl, rfl, rfl, by decide +kernel, rfl, by decide +kernel, by decide +kernel⟩
theorem ok_Book_remove (T : Tx K mg) : Def P w K mg base (L2.CX P w) 7 (He.ma K (He.ga K "Book") "remove") ["self", "at"] (spRemove K) := by
  have G_is_between := ok_is_between (P := P) (w := w) (base := base) T
  have G_Book_change := ok_Book_change (P := P) (w := w) (base := base) T
  refine mkX T.f_Book_remove sc_Book_remove (fun _ _ _ _ _ _ us hl => match us, hl with | [_, _], _ => rfl) (fun vs H Q E h => ?_) (fun cdv A outer s H vs Q E hr h => ?_)
  · obtain ⟨b, B, log, und, L, i, rfl, _⟩ := h
    rfl
  · obtain ⟨b, B, log, und, L, i, rfl, hb, lok, hl, hi2, kk⟩ := h
    refine ⟨_, (pss_cons (ps_if (pt_not (pt_val (pe_cl G_is_between (hr.mono (by decide)) T.g_is_between pass0 (pa_cons (pv 1) (pa_cons pe_int (pa_cons (pe_op op_sub (pe_callB (call_lenK rfl) (by rfl) T.n_len PySem.boot_len (pa_cons (pe_fldK rfl (pv 0) rfl) pa_nil)) pe_int) pa_nil))))))
    pss_never pss_nil)
    (pss_one (ps_expr (pe_mt (pv 0) T.c_Book T.m_Book_change G_Book_change (hr.mono (by decide)) (passes_call (takes_of rfl rfl rfl rfl) (fun _ _ _ _ h => h)) (pa_cons (pe_op op_cat (pe_slice (sl_listK rfl) (pe_fldK rfl (pv 0) rfl) po_none (po_some (pv 1))) (pe_slice (sl_listK rfl) (pe_fldK rfl (pv 0) rfl) (po_some (pe_op op_add (pv 1) pe_int)) po_none)) pa_nil))))), ?_⟩
    obtain ⟨dx, hi⟩ := hb.h
    obtain ⟨us, d1, d2⟩ := hb.d
    have ul := d2.length
    walk_at "go"
    refine r_fld hi T.c_Book T.a_Book_deeds rfl ?_
    walk_at "go"
    refine r_lenL d1 ?_
    walk_at "go"
    refine ⟨i, 0, (us.length : Int) - 1, rfl, by omega, by omega, ?_⟩
    walk_at "go"
    refine r_meth hi rfl ?_
    walk_at "go"
    refine r_fld hi T.c_Book T.a_Book_deeds rfl ?_
    walk_at "go"
    refine r_slTo d1 rfl (by omega) fun p1 H1 e1 hp1 h1 => ?_
    walk_at "go"
    refine r_fld (e1 _ _ hi) T.c_Book T.a_Book_deeds rfl ?_
    walk_at "go"
    refine r_slFrom (i := i + 1) (e1 _ _ d1) (by omega) (by omega) fun p4 H4 e4 hp4 h4 => ?_
    walk_at "go"
    refine r_cat (e4 _ _ h1) h4 (by simp; omega) fun p5 H5 e5 hp5 h5 => ?_
    walk_at "go"
    have e04 := same_trans e1 e4
    have e05 := same_trans e04 e5
    refine to_change kk hb e05 (none_below e04 hp5) h5 (pair_app (pair_take _ (deeds_mono d2 e05)) (pair_drop _ (deeds_mono d2 e05))) (fun d hd => ?_) (by simp; omega)
    rcases List.mem_append.mp hd with hd | hd
    · exact lok d (List.mem_of_mem_take hd)
    · exact lok d (List.mem_of_mem_drop hd)
def spMark (K : PySem.W.Frag) : Sp := fun vs H Q E => ∃ (b : Addr) (B : BkA) (log und : List BM.Deed) (L : BM.Ln) (i pos : Nat) (price : Int) (done done' : Bool), vs = [.ref b, .int (i : Int), .bl done'] ∧ BookAt K H b B log und L ∧ (∀ d ∈ log, d.ok) ∧ log.length ≤ 150 ∧ log[i]? = some (.compare pos price done) ∧
  BkFresh K H b (log.take i ++ [.compare pos price done'] ++ log.drop (i + 1)) Q E
theorem sc_Book_mark : FnScope ["self", "at", "done"] ["self", "at", "done"] (defScope s_Book_mark) := ⟨rfl, rfl, rfl, by decide +kernel, rfl, by decide +kernel, by decide +kernel⟩
theorem ok_Book_mark (T : Tx K mg) : Def P w K mg base (L2.CX P w) 7 (He.ma K (He.ga K "Book") "mark") ["self", "at", "done"] (spMark K) := by
  have G_is_between := ok_is_between (P := P) (w := w) (base := base) T
  have G_Book_change := ok_Book_change (P := P) (w := w) (base := base) T
  refine mkX T.f_Book_mark sc_Book_mark (fun _ _ _ _ _ _ us hl => match us, hl with | [_, _, _], _ => rfl) (fun vs H Q E h => ?_) (fun cdv A outer s H vs Q E hr h => ?_)
  · obtain ⟨b, B, log, und, L, i, pos, price, done, done', rfl, _⟩ := h
    rfl
  · obtain ⟨b, B, log, und, L, i, pos, price, done, done', rfl, hb, lok, hl, hi2, kk⟩ := h
    refine ⟨_, (pss_cons (ps_if (PW.pt (pw_or (pt_not (pt_val (pe_cl G_is_between (hr.mono (by decide)) T.g_is_between pass0 (pa_cons (pv 1) (pa_cons pe_int (pa_cons (pe_op op_sub (pe_callB (call_lenK rfl) (by rfl) T.n_len PySem.boot_len (pa_cons (pe_fldK rfl (pv 0) rfl) pa_nil)) pe_int) pa_nil)))))) (pw_or1 (pt_cmpR op_ne (pe_ix (ix_tupK rfl) (pe_ix (ix_listK rfl) (pe_fldK rfl (pv 0) rfl) (pv 1) (fun _ _ => rfl)) pe_int (fun _ _ => rfl)) pe_str (nomark _)))))
    pss_never pss_nil)
    (pss_cons (ps_if (pt_not (pt_val (pe_callB (call_isiK rfl) (by rfl) T.n_isinstance (by decide +kernel) (pa_cons (pv 2) (pa_cons (pe_ty T.n_bool (by decide +kernel) (n := "bool")) pa_nil)))))
    pss_never pss_nil)
    (pss_one (ps_expr (pe_mt (pv 0) T.c_Book T.m_Book_change G_Book_change (hr.mono (by decide)) (passes_call (takes_of rfl rfl rfl rfl) (fun _ _ _ _ h => h)) (pa_cons (pe_op op_cat (pe_op op_cat (pe_slice (sl_listK rfl) (pe_fldK rfl (pv 0) rfl) po_none (po_some (pv 1))) (pe_lst (pa_cons (pe_op (op_catTK rfl) (pe_slice (sl_tupK rfl) (pe_ix (ix_listK rfl) (pe_fldK rfl (pv 0) rfl) (pv 1) (fun _ _ => rfl)) po_none (po_some pe_int)) (pe_tup (pa_cons (pv 2) pa_nil))) pa_nil))) (pe_slice (sl_listK rfl) (pe_fldK rfl (pv 0) rfl) (po_some (pe_op op_add (pv 1) pe_int)) po_none)) pa_nil)))))), ?_⟩
    obtain ⟨dx, hi⟩ := hb.h
    obtain ⟨us, d1, d2⟩ := hb.d
    have ul := d2.length
    have il : i < log.length := (List.getElem?_eq_some_iff.mp hi2).1
    obtain ⟨ue, hue, q, rfl, hq⟩ := pair_atR d2 hi2
    walk_at "go"
    refine r_fld hi T.c_Book T.a_Book_deeds rfl ?_
    walk_at "go"
    refine r_lenL d1 ?_
    walk_at "go"
    refine ⟨i, 0, (us.length : Int) - 1, rfl, by omega, by omega, ?_⟩
    walk_at "go"
    refine r_fld hi T.c_Book T.a_Book_deeds rfl ?_
    walk_at "go"
    refine r_ixL d1 rfl hue ?_
    walk_at "go"
    refine r_ixT hq (j := 0) rfl rfl ?_
    walk_at "go"
    refine iteNoN rfl ?_
    walk_at "go"
    refine r_isi (.ty _) (.base (.bl done')) kit_bb ?_
    walk_at "go"
    refine r_meth hi rfl ?_
    walk_at "go"
    refine r_fld hi T.c_Book T.a_Book_deeds rfl ?_
    walk_at "go"
    refine r_slTo d1 rfl (by omega) fun p1 H1 e1 hp1 h1 => ?_
    walk_at "go"
    refine r_fld (e1 _ _ hi) T.c_Book T.a_Book_deeds rfl ?_
    walk_at "go"
    refine r_ixL (e1 _ _ d1) rfl hue ?_
    walk_at "go"
    refine r_slTToT (i := 3) (e1 _ _ hq) rfl (by simp [vD]) fun t1 H3 e3 ht1 h3 => ?_
    walk_at "go"
    refine r_new (by simp) fun t2 H4 e4 ht2 h4 => ?_
    refine r_catT (e4 _ _ h3) h4 (by simp [vD]) (by simp) (by simp [vD]) fun t3 H5 e5 ht3 h5 => ?_
    walk_at "go"
    refine r_new (by simp) fun p2 H6 e6 hp2 h6 => ?_
    walk_at "go"
    have e36 : Same H1 H6 := same_trans e3 (same_trans e4 (same_trans e5 e6))
    refine r_cat (e36 _ _ h1) h6 (by simp; omega) fun p3 H7 e7 hp3 h7 => ?_
    walk_at "go"
    have e07 := same_trans e1 (same_trans e36 e7)
    refine r_fld (e07 _ _ hi) T.c_Book T.a_Book_deeds rfl ?_
    walk_at "go"
    refine r_slFrom (i := i + 1) (e07 _ _ d1) (by omega) (by omega) fun p4 H8 e8 hp4 h8 => ?_
    walk_at "go"
    refine r_cat (e8 _ _ h7) h8 (by simp; omega) fun p5 H9 e9 hp5 h9 => ?_
    walk_at "go"
    have e08 := same_trans e07 e8
    have e09 := same_trans e08 e9
    refine to_change kk hb e09 (none_below e08 hp5) h9 (pair_app (pair_app (pair_take _ (deeds_mono d2 e09)) (.cons ⟨t3, rfl, e9 _ _ (e8 _ _ (e7 _ _ (e6 _ _ h5)))⟩ .nil)) (pair_drop _ (deeds_mono d2 e09))) (fun d hd => ?_) (by simp; omega)
    rcases List.mem_append.mp hd with hd | hd
    · rcases List.mem_append.mp hd with hd | hd
      · exact lok d (List.mem_of_mem_take hd)
      · rw [List.mem_singleton.mp hd]; exact (show 0 ≤ price ∧ price ≤ 10 ^ 18 from lok _ (List.mem_of_getElem? hi2))
    · exact lok d (List.mem_of_mem_drop hd)
end
end BW
namespace BW
open PySem PySem.Spec PyProof.Rows L2
section
variable {P : Program} {w : World} {K : PySem.W.Frag} {mg : Str → Option Value} {base : Heap}

def spBookInit (K : PySem.W.Frag) : Sp := fun vs H Q _ => ∃ (b dx : Addr), vs = [.ref b] ∧ H b = some (.ins (He.ga K "Book") dx []) ∧ ∀ B H', But [b] H H' → (∀ p ∈ B.lists, H p = none) → BookAt K H' b B [] [] .zero → Q .non H'
theorem sc_Book_init : FnScope ["self"] ["self"] (defScope s_Book_init) := ⟨rfl, rfl, rfl, by decide +kernel, rfl, by decide +kernel, by decide +kernel⟩
theorem ok_Book_init (T : Tx K mg) : Def P w K mg base CX0 3 (He.ma K (He.ga K "Book") "__init__") ["self"] (spBookInit K) := by
  have G_Line_init := ok_Line_init (P := P) (w := w) (base := base) T
  refine mk0 T.f_Book_init sc_Book_init (fun _ _ _ _ _ _ us hl => match us, hl with | [_], _ => rfl) (fun vs H Q E h => ?_) (fun cdv A outer s H vs Q E hr h => ?_)
  · obtain ⟨b, dx, rfl, _⟩ := h
    rfl
  · obtain ⟨b, dx, rfl, hb, k⟩ := h
    refine ⟨_, (pss_cons (ps_fldK rfl (pv 0) (pe_lst pa_nil) rfl)
    (pss_cons (ps_fldK rfl (pv 0) (pe_lst pa_nil) rfl)
    (pss_one (ps_fldK rfl (pv 0) (pe_mk0 T.k_Line G_Line_init (hr.mono (by decide)) T.g_Line pass0) rfl)))), ?_⟩
    walk_at "go"
    refine r_new (by simp) fun p1 H1 e1 n1 h1 => ?_
    walk_at "go"
    refine r_sf (e1 _ _ hb) T.c_Book T.a_Book_deeds (by simp) ?_
    have pb1 : p1 ≠ b := fun z => by
      rw [z, hb] at n1
      cases n1
    have b1 : But [b] H (upd H1 b (.ins (He.ga K "Book") dx (putF "deeds" (.ref p1) []))) := but_upd (But.same e1 _) (by simp)
    have i1 : upd H1 b (.ins (He.ga K "Book") dx (putF "deeds" (.ref p1) [])) b = some (.ins (He.ga K "Book") dx [("deeds", .ref p1)]) := upd_same
    have l1 := (upd_ne (o := HO.ins (He.ga K "Book") dx (putF "deeds" (.ref p1) [])) pb1).trans h1
    generalize upd H1 b (.ins (He.ga K "Book") dx (putF "deeds" (.ref p1) [])) = G1 at *
    walk_at "go"
    refine r_new (by simp) fun p2 H2 e2 n2 h2 => ?_
    walk_at "go"
    refine r_sf (e2 _ _ i1) T.c_Book T.a_Book_later (by simp) ?_
    have pb2 : p2 ≠ b := fun z => by
      rw [z, i1] at n2
      cases n2
    have p12 : p1 ≠ p2 := ne_of_none l1 n2
    have m2 : H p2 = none := b1.none n2 (by simp [pb2])
    have b2 : But [b] H (upd H2 b (.ins (He.ga K "Book") dx (putF "later" (.ref p2) [("deeds", .ref p1)]))) := but_upd (b1.trans (But.same e2 _)) (by simp)
    have i2 : upd H2 b (.ins (He.ga K "Book") dx (putF "later" (.ref p2) [("deeds", .ref p1)])) b = some (.ins (He.ga K "Book") dx [("deeds", .ref p1), ("later", .ref p2)]) := upd_same
    have l2 := (upd_ne (o := HO.ins (He.ga K "Book") dx (putF "later" (.ref p2) [("deeds", .ref p1)])) pb2).trans h2
    have l1 := (upd_ne (o := HO.ins (He.ga K "Book") dx (putF "later" (.ref p2) [("deeds", .ref p1)])) pb1).trans (e2 _ _ l1)
    generalize upd H2 b (.ins (He.ga K "Book") dx (putF "later" (.ref p2) [("deeds", .ref p1)])) = G2 at *
    walk_at "go"
    refine r_mkLine fun x a H3 e3 hx0 ha0 hl => ?_
    walk_at "go"
    refine r_sf (e3 _ _ i2) T.c_Book T.a_Book_line (by simp) ?_
    have b3 : But [b] H3 (upd H3 b (.ins (He.ga K "Book") dx (putF "line" (.ref x) [("deeds", .ref p1), ("later", .ref p2)]))) := but_upd (but_refl _ _) (by simp)
    have xb : x ≠ b := fun z => by
      rw [z, i2] at hx0
      cases hx0
    have ab : ∀ y ∈ a.all, y ∉ [b] := fun y hy z => by
      have := ha0 y hy
      rw [List.mem_singleton.mp z, i2] at this
      cases this
    have a1 : p1 ∉ a.all := fun z => by
      have := ha0 _ z
      rw [l1] at this
      cases this
    have a2 : p2 ∉ a.all := fun z => by
      have := ha0 _ z
      rw [l2] at this
      cases this
    refine k ⟨p1, p2, x, a⟩ _ (b2.trans ((But.same e3 _).trans b3)) (fun p hp => ?_) ⟨⟨dx, upd_same⟩, ⟨[], b3 _ _ (e3 _ _ l1) (by simp [pb1]), .nil⟩, ⟨[], b3 _ _ (e3 _ _ l2) (by simp [pb2]), .nil⟩, hl.but b3 (by simp [xb]) ab (fun q hq xs z => ?_), of4 ⟨p12, a1, a2, hl.f.nd⟩⟩
    · rcases BkA.cases hp with rfl | rfl | hp
      · exact n1
      · exact m2
      · exact b2.none (ha0 p hp) (ab p hp)
    · rw [List.mem_singleton.mp hq, e3 _ _ i2] at z
      cases z
theorem r_mkBook {H : Hp} {F : Addr → Hp → Prop} {E : XK} (k : ∀ b B H', Same H H' → H b = none → (∀ p ∈ B.lists, H p = none) → BookAt K H' b B [] [] .zero → F b H') :
    ∀ x dx, H x = none → H dx = none → dx ≠ x → spBookInit K (.ref x :: ([] ++ [])) (upd (upd H dx (.own x)) x (.ins (He.ga K "Book") dx [])) (fun v H2 => v = .non ∧ F x H2) E := by
  intro x dx hx hdx hne
  have e1 : Same H (upd (upd H dx (.own x)) x (.ins (He.ga K "Book") dx [])) := same_upd (same_new hdx) hx
  exact ⟨x, dx, rfl, upd_same, fun B H' b n l => ⟨rfl, k x B H' (fun c o e => b c o (e1 _ _ e) (by simp [ne_of_none e hx])) hx (fun y hy => none_below e1 (n y hy)) l⟩⟩
def spAgain (K : PySem.W.Frag) : Sp := fun vs H Q _ => ∃ (b : Addr) (B : BkA) (log und : List BM.Deed) (dd : BM.Deed) (L L' : BM.Ln), vs = [.ref b] ∧ BookAt K H b B log (und ++ [dd]) L ∧ LnSmall L ∧ log.length ≤ 150 ∧ L.step dd = some L' ∧ ∀ r B' H', BkNew K H H' b B B' (log ++ [dd]) und L' → DeedAt H' r dd → Q r H'
theorem sc_Book_again : FnScope ["self"] ["self"] (defScope s_Book_again) := ⟨rfl, rfl, rfl, by decide +kernel, rfl, by decide +kernel, by decide +kernel⟩
theorem ok_Book_again (T : Tx K mg) : Def P w K mg base CX0 5 (He.ma K (He.ga K "Book") "again") ["self"] (spAgain K) := by
  have G_Line_do := ok_Line_do (P := P) (w := w) (base := base) T
  refine mk0 T.f_Book_again sc_Book_again (fun _ _ _ _ _ _ us hl => match us, hl with | [_], _ => rfl) (fun vs H Q E h => ?_) (fun cdv A outer s H vs Q E hr h => ?_)
  · obtain ⟨b, B, log, und, dd, L, L', rfl, _⟩ := h
    rfl
  · obtain ⟨b, B, log, und, dd, L, L', rfl, hb, sm, hl, hs, kk⟩ := h
    refine ⟨_, (pss_cons (ps_if (pt_cmpR (op_eqDK rfl hr.units) (pe_fldK rfl (pv 0) rfl) (pe_lst pa_nil) (nomark _))
    pss_never pss_nil)
    (pss_cons (ps_expr (pe_mt (pe_fldK rfl (pv 0) rfl) T.c_Line T.m_Line_do G_Line_do (hr.mono (by decide)) passN0 (pa_cons (pe_ix (ix_listK rfl) (pe_fldK rfl (pv 0) rfl) (pe_un un_neg pe_int) (fun _ _ => rfl)) pa_nil)))
    (pss_cons (ps_expr (pe_bmK rfl PySem.F.plainAttrs_list PySem.F.slot_list_append PySem.F.type_list_append mt_append (pe_fldK rfl (pv 0) rfl) (pa_cons (pe_bm0 PySem.F.plainAttrs_list PySem.F.slot_list_pop PySem.F.type_list_pop mt_pop (pe_fldK rfl (pv 0) rfl)) pa_nil)))
    (pss_one (ps_ret (pe_ix (ix_listK rfl) (pe_fldK rfl (pv 0) rfl) (pe_un un_neg pe_int) (fun _ _ => rfl))))))), ?_⟩
    obtain ⟨dx, hi⟩ := hb.h
    obtain ⟨us, d1, d2⟩ := hb.d
    obtain ⟨vs0, l1, l2⟩ := hb.l
    obtain ⟨vs, v, rfl, _⟩ := snoc_of (l := vs0) (n := und.length) (by rw [l2.length]; simp)
    obtain ⟨l3, hv⟩ := pair_snoc l2
    obtain ⟨dx2, hx⟩ := hb.ln.x
    walk_at "go"
    refine r_fld hi T.c_Book T.a_Book_later rfl ?_
    walk_at "go"
    refine r_new (by simp) fun p0 H1 e1 hp0 h1 => ?_
    refine r_eqDs (e1 _ _ l1) (deeds_mono l2 e1) h1 ?_
    walk_at "go"
    refine iteNo (by simp) ?_
    walk_at "go"
    refine r_fld (e1 _ _ hi) T.c_Book T.a_Book_line rfl ?_
    refine r_meth (e1 _ _ hx) rfl ?_
    walk_at "go"
    refine r_fld (e1 _ _ hi) T.c_Book T.a_Book_later rfl ?_
    walk_at "go"
    refine r_ixLast (e1 _ _ l1) ?_
    walk_at "go"
    have hb1 := hb.same e1
    refine ⟨B.x, B.a, L, v, dd, rfl, hv.mono e1, hb1.ln, sm, fun z => (by rw [hs] at z; cases z), fun L2 hs2 r H2 b2 h2 _ => ?_⟩
    rw [hs] at hs2
    cases hs2
    obtain ⟨n1, n2, n3, n4⟩ := nd4 hb.nd
    have nt : ∀ q ∈ B.a.all, ∀ xs, H1 q ≠ some (.tup xs) := hb1.ln.f.notup
    have boff := hb.boff
    have hi2 := b2 _ _ (e1 _ _ hi) fun z => boff (B.m3 z)
    have d21 := b2 _ _ (e1 _ _ d1) n2
    have d22 := deeds_but (deeds_mono d2 e1) b2 nt
    have l21 := b2 _ _ (e1 _ _ l1) n3
    have l22 := deeds_but (deeds_mono l3 e1) b2 nt
    have hv2 := deedAt_but (hv.mono e1) b2 nt
    walk_at "go"
    refine r_fld hi2 T.c_Book T.a_Book_deeds rfl ?_
    refine r_tyL d21 ?_
    walk_at "go"
    refine r_fld hi2 T.c_Book T.a_Book_later rfl ?_
    refine r_tyL l21 ?_
    refine r_popL l21 ?_
    have bb : But [B.ll] H2 (upd H2 B.ll (.lst vs)) := but_upd (but_refl _ _) (by simp)
    have nt3 : ∀ q ∈ [B.ll], ∀ xs, H2 q ≠ some (.tup xs) := fun q hq xs z => by
      rw [List.mem_singleton.mp hq, l21] at z
      cases z
    have bl : b ≠ B.ll := fun z => boff (by rw [z]; exact B.m2)
    have xl : B.x ≠ B.ll := fun z => hb.xoff (by rw [z]; exact B.m2)
    have hb3 : BookAt K (upd H2 B.ll (.lst vs)) b B log und L' := ⟨⟨dx, bb _ _ hi2 (by simp [bl])⟩, ⟨us, bb _ _ d21 (by simp [n1]), deeds_but d22 bb nt3⟩, ⟨vs, upd_same, deeds_but l22 bb nt3⟩, h2.but bb (by simp [xl]) (fun y hy z => n3 (by rw [← List.mem_singleton.mp z]; exact hy)) nt3, hb.nd⟩
    have hv3 := deedAt_but hv2 bb nt3
    have bt3 : But (B.foot b) H (upd H2 B.ll (.lst vs)) := (But.same e1 _).trans ((b2.mono fun y hy => B.f1 b (B.m3 hy)).trans (bb.mono fun y hy => by rw [List.mem_singleton.mp hy]; exact B.f1 b B.m2))
    have d31 := bb _ _ d21 (by simp [n1])
    generalize upd H2 B.ll (.lst vs) = H3 at *
    walk_at "go"
    refine r_app d31 (by rw [d2.length]; omega) ?_
    have bb4 : But [B.dl] H3 (upd H3 B.dl (.lst (us ++ [v]))) := but_upd (but_refl _ _) (by simp)
    have nt4 : ∀ q ∈ [B.dl], ∀ xs, H3 q ≠ some (.tup xs) := fun q hq xs z => by
      rw [List.mem_singleton.mp hq, d31] at z
      cases z
    have bl4 : b ≠ B.dl := fun z => boff (by rw [z]; exact B.m1)
    have xl4 : B.x ≠ B.dl := fun z => hb.xoff (by rw [z]; exact B.m1)
    obtain ⟨dx3, hi3⟩ := hb3.h
    obtain ⟨us3, d33, d34⟩ := hb3.d
    rw [d31] at d33
    cases d33
    obtain ⟨vs3, l33, l34⟩ := hb3.l
    have hb4 : BookAt K (upd H3 B.dl (.lst (us ++ [v]))) b B (log ++ [dd]) und L' := ⟨⟨dx3, bb4 _ _ hi3 (by simp [bl4])⟩, ⟨_, upd_same, pair_app (deeds_but d34 bb4 nt4) (.cons (deedAt_but hv3 bb4 nt4) .nil)⟩, ⟨vs3, bb4 _ _ l33 (by simp [Ne.symm n1]), deeds_but l34 bb4 nt4⟩, hb3.ln.but bb4 (by simp [xl4]) (fun y hy z => n2 (by rw [← List.mem_singleton.mp z]; exact hy)) nt4, hb.nd⟩
    have hv4 := deedAt_but hv3 bb4 nt4
    have bt4 : But (B.foot b) H (upd H3 B.dl (.lst (us ++ [v]))) := bt3.trans (bb4.mono fun y hy => by rw [List.mem_singleton.mp hy]; exact B.f1 b B.m1)
    have d41 : upd H3 B.dl (.lst (us ++ [v])) B.dl = some (.lst (us ++ [v])) := upd_same
    obtain ⟨dx4, hi4⟩ := hb4.h
    generalize upd H3 B.dl (.lst (us ++ [v])) = H4 at *
    walk_at "go"
    refine r_fld hi4 T.c_Book T.a_Book_deeds rfl ?_
    walk_at "go"
    refine r_ixLast d41 ?_
    exact kk v B H4 ⟨bt4, fun p hp => .inl hp, hb4⟩ hv4
def spBack (K : PySem.W.Frag) : Sp := fun vs H Q _ => ∃ (b : Addr) (B : BkA) (log und : List BM.Deed) (dd : BM.Deed) (L L' : BM.Ln), vs = [.ref b] ∧ BookAt K H b B (log ++ [dd]) und L ∧ (∀ d ∈ log, d.ok) ∧ log.length ≤ 150 ∧ und.length ≤ 150 ∧ BM.replay log = some L' ∧ ∀ r B' H', BkNew K H H' b B B' log (und ++ [dd]) L' → DeedAt H' r dd → Q r H'
theorem sc_Book_back : FnScope ["self"] ["self"] (defScope s_Book_back) := ⟨rfl, rfl, rfl, by decide +kernel, rfl, by decide +kernel, by decide +kernel⟩
theorem ok_Book_back (T : Tx K mg) : Def P w K mg base CX0 6 (He.ma K (He.ga K "Book") "back") ["self"] (spBack K) := by
  have G_played := ok_played (P := P) (w := w) (base := base) T
  refine mk0 T.f_Book_back sc_Book_back (fun _ _ _ _ _ _ us hl => match us, hl with | [_], _ => rfl) (fun vs H Q E h => ?_) (fun cdv A outer s H vs Q E hr h => ?_)
  · obtain ⟨b, B, log, und, dd, L, L', rfl, _⟩ := h
    rfl
  · obtain ⟨b, B, log, und, dd, L, L', rfl, hb, lok, hl, hu, hs, kk⟩ := h
    refine ⟨_, (pss_cons (ps_if (pt_cmpR (op_eqDK rfl hr.units) (pe_fldK rfl (pv 0) rfl) (pe_lst pa_nil) (nomark _))
    pss_never pss_nil)
    (pss_cons (ps_expr (pe_bmK rfl PySem.F.plainAttrs_list PySem.F.slot_list_append PySem.F.type_list_append mt_append (pe_fldK rfl (pv 0) rfl) (pa_cons (pe_bm0 PySem.F.plainAttrs_list PySem.F.slot_list_pop PySem.F.type_list_pop mt_pop (pe_fldK rfl (pv 0) rfl)) pa_nil)))
    (pss_cons (ps_fldK rfl (pv 0) (pe_cl G_played (hr.mono (by decide)) T.g_played passL0 (pa_cons (pe_fldK rfl (pv 0) rfl) pa_nil)) rfl)
    (pss_one (ps_ret (pe_ix (ix_listK rfl) (pe_fldK rfl (pv 0) rfl) (pe_un un_neg pe_int) (fun _ _ => rfl))))))), ?_⟩
    obtain ⟨dx, hi⟩ := hb.h
    obtain ⟨us0, d1, d2⟩ := hb.d
    obtain ⟨vs, l1, l2⟩ := hb.l
    obtain ⟨us, v, rfl, _⟩ := snoc_of (l := us0) (n := log.length) (by rw [d2.length]; simp)
    obtain ⟨d3, hv⟩ := pair_snoc d2
    obtain ⟨n1, n2, n3, n4⟩ := nd4 hb.nd
    have boff := hb.boff
    have bl : b ≠ B.ll := fun z => boff (by rw [z]; exact B.m2)
    have bd : b ≠ B.dl := fun z => boff (by rw [z]; exact B.m1)
    walk_at "go"
    refine r_fld hi T.c_Book T.a_Book_deeds rfl ?_
    walk_at "go"
    refine r_new (by simp) fun p0 H1 e1 hp0 h1 => ?_
    refine r_eqDs (e1 _ _ d1) (deeds_mono d2 e1) h1 ?_
    walk_at "go"
    refine iteNo (by simp) ?_
    walk_at "go"
    refine r_fld (e1 _ _ hi) T.c_Book T.a_Book_later rfl ?_
    refine r_tyL (e1 _ _ l1) ?_
    walk_at "go"
    refine r_fld (e1 _ _ hi) T.c_Book T.a_Book_deeds rfl ?_
    refine r_tyL (e1 _ _ d1) ?_
    refine r_popL (e1 _ _ d1) ?_
    have b2 : But [B.dl] H1 (upd H1 B.dl (.lst us)) := but_upd (but_refl _ _) (by simp)
    have nt2 : ∀ q ∈ [B.dl], ∀ xs, H1 q ≠ some (.tup xs) := fun q hq xs z => by
      rw [List.mem_singleton.mp hq, e1 _ _ d1] at z
      cases z
    have i2 := b2 _ _ (e1 _ _ hi) (by simp [bd])
    have l21 := b2 _ _ (e1 _ _ l1) (by simp [Ne.symm n1])
    have l22 := deeds_but (deeds_mono l2 e1) b2 nt2
    have d21 : upd H1 B.dl (.lst us) B.dl = some (.lst us) := upd_same
    have d22 := deeds_but (deeds_mono d3 e1) b2 nt2
    have hv2 := deedAt_but (hv.mono e1) b2 nt2
    have bt2 : But (B.foot b) H (upd H1 B.dl (.lst us)) := (But.same e1 _).trans (b2.mono fun y hy => by rw [List.mem_singleton.mp hy]; exact B.f1 b B.m1)
    generalize upd H1 B.dl (.lst us) = H2 at *
    walk_at "go"
    refine r_app l21 (by rw [l2.length]; omega) ?_
    have b3 : But [B.ll] H2 (upd H2 B.ll (.lst (vs ++ [v]))) := but_upd (but_refl _ _) (by simp)
    have nt3 : ∀ q ∈ [B.ll], ∀ xs, H2 q ≠ some (.tup xs) := fun q hq xs z => by
      rw [List.mem_singleton.mp hq, l21] at z
      cases z
    have i3 := b3 _ _ i2 (by simp [bl])
    have d31 := b3 _ _ d21 (by simp [n1])
    have d32 := deeds_but d22 b3 nt3
    have l31 : upd H2 B.ll (.lst (vs ++ [v])) B.ll = some (.lst (vs ++ [v])) := upd_same
    have hv3 := deedAt_but hv2 b3 nt3
    have l32 : Deeds (upd H2 B.ll (.lst (vs ++ [v]))) (vs ++ [v]) (und ++ [dd]) := pair_app (deeds_but l22 b3 nt3) (.cons hv3 .nil)
    have bt3 : But (B.foot b) H (upd H2 B.ll (.lst (vs ++ [v]))) := bt2.trans (b3.mono fun y hy => by rw [List.mem_singleton.mp hy]; exact B.f1 b B.m2)
    generalize upd H2 B.ll (.lst (vs ++ [v])) = H3 at *
    walk_at "go"
    refine r_fld i3 T.c_Book T.a_Book_deeds rfl ?_
    walk_at "go"
    refine ⟨B.dl, us, log, rfl, d31, d32, lok, by omega, fun z => (by rw [hs] at z; cases z), fun L2 hs2 x a H4 e4 hx0 ha0 h4 => ?_⟩
    rw [hs] at hs2
    cases hs2
    walk_at "go"
    refine r_sf (e4 _ _ i3) T.c_Book T.a_Book_line (by simp) ?_
    have s4 : putF "line" (.ref x) (bokF B.dl B.ll B.x) = bokF B.dl B.ll x := rfl
    rw [s4]
    have b5 : But [b] H4 (upd H4 b (.ins (He.ga K "Book") dx (bokF B.dl B.ll x))) := but_upd (but_refl _ _) (by simp)
    have nt5 : ∀ q ∈ [b], ∀ xs, H4 q ≠ some (.tup xs) := fun q hq xs z => by
      rw [List.mem_singleton.mp hq, e4 _ _ i3] at z
      cases z
    have xb : x ≠ b := fun z => by
      rw [z, i3] at hx0
      cases hx0
    have ab : ∀ y ∈ a.all, y ∉ [b] := fun y hy z => by
      have := ha0 y hy
      rw [List.mem_singleton.mp z, i3] at this
      cases this
    have a1 : B.dl ∉ a.all := fun z => by
      have := ha0 _ z
      rw [d31] at this
      cases this
    have a2 : B.ll ∉ a.all := fun z => by
      have := ha0 _ z
      rw [l31] at this
      cases this
    have i5 : upd H4 b (.ins (He.ga K "Book") dx (bokF B.dl B.ll x)) b = some (.ins (He.ga K "Book") dx (bokF B.dl B.ll x)) := upd_same
    have l51 := b5 _ _ (e4 _ _ l31) (by simp [Ne.symm bl])
    have hb5 : BookAt K (upd H4 b (.ins (He.ga K "Book") dx (bokF B.dl B.ll x))) b ⟨B.dl, B.ll, x, a⟩ log (und ++ [dd]) L' := ⟨⟨dx, upd_same⟩, ⟨us, b5 _ _ (e4 _ _ d31) (by simp [Ne.symm bd]), deeds_but (deeds_mono d32 e4) b5 nt5⟩, ⟨_, l51, deeds_but (deeds_mono l32 e4) b5 nt5⟩, h4.but b5 (by simp [xb]) ab nt5, of4 ⟨n1, a1, a2, h4.f.nd⟩⟩
    have hv5 := deedAt_but (hv3.mono e4) b5 nt5
    have bt5 : But (B.foot b) H (upd H4 b (.ins (He.ga K "Book") dx (bokF B.dl B.ll x))) := bt3.trans ((But.same e4 _).trans (b5.mono fun y hy => by rw [List.mem_singleton.mp hy]; exact B.f0 b))
    generalize upd H4 b (.ins (He.ga K "Book") dx (bokF B.dl B.ll x)) = H5 at *
    walk_at "go"
    refine r_fld i5 T.c_Book T.a_Book_later rfl ?_
    walk_at "go"
    refine r_ixLast l51 ?_
    refine kk v ⟨B.dl, B.ll, x, a⟩ H5 ⟨bt5, fun p hp => ?_, hb5⟩ hv5
    rcases List.mem_cons.mp hp with rfl | hp
    · exact .inl (B.f0 _)
    · rcases BkA.cases hp with rfl | rfl | hp
      · exact .inl (B.f1 b B.m1)
      · exact .inl (B.f1 b B.m2)
      · have pn := ha0 p hp
        by_cases hpf : p ∈ B.foot b
        · exact .inl hpf
        · exact .inr (bt3.none pn hpf)
end
end BW
namespace BW
open PySem PySem.Spec PyProof.Rows L2
section
variable {P : Program} {w : World} {K : PySem.W.Frag} {mg : Str → Option Value} {base : Heap}

/-- _law_changed(book, way, at, deed, later) -/
def spChanged (K : PySem.W.Frag) : Sp := fun vs H Q _ => ∃ (b g : Addr) (B : BkA) (log und ds : List BM.Deed) (L L' : BM.Ln) (way : Int) (i : Nat) (v : V) (dd : BM.Deed) (us : List V), vs = [.ref b, .int way, .int (i : Int), v, .ref g] ∧ BookAt K H b B log und L ∧ (∀ d ∈ log, d.ok) ∧ log.length ≤ 150 ∧ i ≤ log.length ∧ 3 ≤ way ∧ way ≤ 5 ∧ DeedAt H v dd ∧ dd.ok ∧
  H g = some (.lst us) ∧ Deeds H us ds ∧ laterD log way i dd = some ds ∧ BM.replay ds = some L' ∧ ∀ r B' H', But [b] H H' → (∀ p ∈ B'.lists, H p = none) → BookAt K H' b B' ds [] L' → Q r H'
theorem sc_law_changed : FnScope ["_law_book", "_law_way", "_law_at", "_law_deed_here", "_law_later_here"] ["_law_book", "_law_way", "_law_at", "_law_deed_here", "_law_later_here"] (defScope s_law_changed) := ⟨rfl, rfl, rfl, by decide +kernel, rfl, by decide +kernel, by decide +kernel⟩
theorem ok_law_changed (T : Tx K mg) : Def P w K mg base CX0 8 (He.ga K "_law_changed") ["_law_book", "_law_way", "_law_at", "_law_deed_here", "_law_later_here"] (spChanged K) := by
  have G_Book_insert := ok_Book_insert (P := P) (w := w) (base := base) T
  have G_Book_remove := ok_Book_remove (P := P) (w := w) (base := base) T
  have G_Book_mark := ok_Book_mark (P := P) (w := w) (base := base) T
  refine mk0 T.f_law_changed sc_law_changed (fun _ _ _ _ _ _ us hl => match us, hl with | [_, _, _, _, _], _ => rfl) (fun vs H Q E h => ?_) (fun cdv A outer s H vs Q E hr h => ?_)
  · obtain ⟨b, g, B, log, und, ds, L, L', way, i, v, dd, us, rfl, _⟩ := h
    rfl
  · obtain ⟨b, g, B, log, und, ds, L, L', way, i, v, dd, us, rfl, hb, ok, hl, hil, w3, w5, hv, dok, hg, hds, hlat, hrep, kk⟩ := h
    refine ⟨_, (pss_cons (ps_if (pt_cmpR op_eq (pv 1) pe_int (nomark _))
    (pss_one (ps_ret (pe_mt (pv 0) T.c_Book T.m_Book_insert G_Book_insert (hr.mono (by decide)) passL0 (pa_cons (pv 2) (pa_cons (pv 3) pa_nil))))) pss_nil)
    (pss_one (ps_ret (pe_ifExp (pt_cmpR op_eq (pv 1) pe_int (nomark _)) (pe_mt (pv 0) T.c_Book T.m_Book_remove G_Book_remove (hr.mono (by decide)) passL0 (pa_cons (pv 2) pa_nil)) (pe_mt (pv 0) T.c_Book T.m_Book_mark G_Book_mark (hr.mono (by decide)) passL0 (pa_cons (pv 2) (pa_cons (pe_ix (ix_tupK rfl) (pe_ix (ix_listK rfl) (pv 4) (pv 2) (fun _ _ => rfl)) pe_int (fun _ _ => rfl)) pa_nil))))))), ?_⟩
    obtain ⟨dx, hi⟩ := hb.h
    have fresh : ∀ ds', ds' = ds → BkFresh K H b ds' (fun r H' => Q r H') E0 := fun ds' e => by
      subst e
      exact ⟨fun z => (by rw [hrep] at z; cases z), fun L2 h2 B' H' bt fr bk => by
        rw [hrep] at h2
        cases h2
        exact kk .non B' H' bt fr bk⟩
    walk_at "go"
    refine iteD (fun h => ?_) (fun h => ?_)
    · have e : laterD log way i dd = some (log.take i ++ [dd] ++ log.drop i) := if_pos h
      rw [e] at hlat
      have hlat := Option.some.inj hlat
      walk_at "go"
      refine r_meth hi rfl ?_
      walk_at "go"
      exact ⟨b, B, log, und, L, i, v, dd, rfl, hb, ok, hl, hil, hv, dok, fresh _ hlat⟩
    · obtain ⟨de, hde⟩ : ∃ de, log[i]? = some de := by
        cases q : log[i]? with
        | some de => exact ⟨de, rfl⟩
        | none =>
          unfold laterD at hlat
          rw [if_neg h, q] at hlat
          cases hlat
      have hii : i < log.length := (List.getElem?_eq_some_iff.mp hde).1
      have le : laterD log way i dd = if way = 5 ∧ isCmp de = false then none
          else if way = 4 then some (log.take i ++ log.drop (i + 1))
          else some (log.take i ++ [flipD de] ++ log.drop (i + 1)) := by
          unfold laterD
          rw [if_neg h, hde]
      walk_at "go"
      refine iteD (fun h2 => ?_) (fun h2 => ?_)
      · rw [le, if_neg (by omega), if_pos h2] at hlat
        have hlat := Option.some.inj hlat
        walk_at "go"
        refine r_meth hi rfl ?_
        walk_at "go"
        exact ⟨b, B, log, und, L, i, rfl, hb, ok, hl, hii, fresh _ hlat⟩
      · have w5 : way = 5 := by omega
        have hc : isCmp de = true := by
          cases q : isCmp de with
          | true => rfl
          | false =>
            rw [le, if_pos ⟨w5, q⟩] at hlat
            cases hlat
        rw [le, if_neg (by simp [hc]), if_neg h2] at hlat
        have hlat := Option.some.inj hlat
        cases de with
        | arrive p => cases hc
        | serve => cases hc
        | compare pos price done =>
          have hat2 : ds[i]? = some (.compare pos price (!done)) := by
            rw [← hlat, List.append_assoc, List.getElem?_append_right (by simp; omega)]
            simp [flipD, Nat.min_eq_left (Nat.le_of_lt hii)]
          obtain ⟨ue, hue, q, rfl, hq⟩ := pair_atR hds hat2
          walk_at "go"
          refine r_meth hi rfl ?_
          walk_at "go"
          refine r_ixL hg rfl hue ?_
          walk_at "go"
          refine r_ixT hq (j := 3) rfl rfl ?_
          walk_at "go"
          exact ⟨b, B, log, und, L, i, pos, price, done, !done, rfl, hb, ok, hl, hde, fresh _ hlat⟩
/-- _law_refused(book, way, at, deed): asked where it is refused -/
def spRefused (K : PySem.W.Frag) : Sp := fun vs H Q _ => ∃ (b : Addr) (B : BkA) (log und : List BM.Deed) (L : BM.Ln) (way : Int) (i : Nat) (v : V) (dd : BM.Deed), vs = [.ref b, .int way, .int (i : Int), v] ∧ BookAt K H b B log und L ∧ LnSmall L ∧ (∀ d ∈ log, d.ok) ∧ log.length ≤ 150 ∧ i ≤ log.length ∧ DeedAt H v dd ∧ dd.ok ∧
  ((way = 3 ∧ BM.replay (log.take i ++ [dd] ++ log.drop i) = none) ∨ (way = 4 ∧ i < log.length ∧ BM.replay (log.take i ++ log.drop (i + 1)) = none) ∨ (way ≠ 3 ∧ way ≠ 4 ∧ L.step dd = none)) ∧ ∀ H', Same H H' → Q (.bl true) H'
theorem sc_law_refused : FnScope ["_law_book", "_law_way", "_law_at", "_law_deed_here"] ["_law_book", "_law_way", "_law_at", "_law_deed_here"] (defScope s_law_refused) := ⟨rfl, rfl, rfl, by decide +kernel, rfl, by decide +kernel, by decide +kernel⟩
theorem ok_law_refused (T : Tx K mg) : Def P w K mg base CX0 8 (He.ga K "_law_refused") ["_law_book", "_law_way", "_law_at", "_law_deed_here"] (spRefused K) := by
  have G_Book_insert := ok_Book_insert (P := P) (w := w) (base := base) T
  have G_Book_remove := ok_Book_remove (P := P) (w := w) (base := base) T
  have G_Book_do := ok_Book_do (P := P) (w := w) (base := base) T
  refine mk0 T.f_law_refused sc_law_refused (fun _ _ _ _ _ _ us hl => match us, hl with | [_, _, _, _], _ => rfl) (fun vs H Q E h => ?_) (fun cdv A outer s H vs Q E hr h => ?_)
  · obtain ⟨b, B, log, und, L, way, i, v, dd, rfl, _⟩ := h
    rfl
  · obtain ⟨b, B, log, und, L, way, i, v, dd, rfl, hb, sm, ok, hl, hil, hv, dok, hw, kk⟩ := h
    refine ⟨_, (pss_cons (ps_try_only rfl rfl ⟨rfl, by decide, .inl T.g_LineError⟩ takes0 (fun W pn xe tk _ => (pss_one (ps_if (pt_cmpR op_eq (pv 1) pe_int (nomark _))
    (pss_one (ps_expr (pe_mt (pv 0) T.c_Book T.m_Book_insert G_Book_insert (hr.mono (by decide)) (passes_call (E := fun cls d H => ∀ σ, W cls d σ H) tk (fun _ _ σ _ h => h σ)) (pa_cons (pv 2) (pa_cons (pv 3) pa_nil))))) (pss_one (ps_if (pt_cmpR op_eq (pv 1) pe_int (nomark _))
    (pss_one (ps_expr (pe_mt (pv 0) T.c_Book T.m_Book_remove G_Book_remove (hr.mono (by decide)) (passes_call (E := fun cls d H => ∀ σ, W cls d σ H) tk (fun _ _ σ _ h => h σ)) (pa_cons (pv 2) pa_nil)))) (pss_one (ps_expr (pe_mt (pv 0) T.c_Book T.m_Book_do G_Book_do (hr.mono (by decide)) (passNL (E := fun cls d H => ∀ σ, W cls d σ H) tk (fun _ _ σ _ h => h σ)) (pa_cons (pv 3) pa_nil)))))))))
    (fun a oe cls d pn _ _ => (pss_one (ps_ret pe_bl))))
    (pss_one (ps_ret pe_bl))), ?_⟩
    obtain ⟨dx, hi⟩ := hb.h
    walk_at "go"
    rcases hw with ⟨rfl, hn⟩ | ⟨rfl, hii, hn⟩ | ⟨w3, w4, hn⟩
    · refine iteYes rfl ?_
      walk_at "go"
      refine r_meth hi rfl ?_
      walk_at "go"
      refine ⟨b, B, log, und, L, i, v, dd, rfl, hb, ok, hl, hil, hv, dok, fun _ d H' e σ => ?_, fun L' hs => (by rw [hn] at hs; cases hs)⟩
      exact ⟨true, T.e_Broken, fun _ a ha => kk H' e, fun z => by cases z⟩
    · refine iteNo (by decide) ?_
      walk_at "go"
      refine iteYes rfl ?_
      walk_at "go"
      refine r_meth hi rfl ?_
      walk_at "go"
      refine ⟨b, B, log, und, L, i, rfl, hb, ok, hl, hii, fun _ d H' e σ => ?_, fun L' hs => (by rw [hn] at hs; cases hs)⟩
      exact ⟨true, T.e_Broken, fun _ a ha => kk H' e, fun z => by cases z⟩
    · refine iteNo w3 ?_
      walk_at "go"
      refine iteNo w4 ?_
      walk_at "go"
      refine r_meth hi rfl ?_
      walk_at "go"
      refine ⟨b, B, log, und, L, v, dd, rfl, hb, sm, hl, hv, dok, fun _ C d H' hC e σ => ?_, fun L' hs => (by rw [hn] at hs; cases hs)⟩
      refine ⟨true, ?_, fun _ a ha => kk H' e, fun z => by cases z⟩
      rcases hC with rfl | rfl
      · exact T.e_TooMany
      · exact T.e_NoItems
/-- _law_empty(book, way): asked where nothing has arrived -/
def spEmpty (K : PySem.W.Frag) : Sp := fun vs H Q _ => ∃ (b : Addr) (L : BM.Ln) (way : Int), vs = [.ref b, .int way] ∧ BookRd K H b L ∧ LnSmall L ∧ L.ws = [] ∧ ∀ H', Same H H' → Q (.bl true) H'
theorem sc_law_empty : FnScope ["_law_book", "_law_way", "e"] ["_law_book", "_law_way"] (defScope s_law_empty) := ⟨rfl, rfl, rfl, by decide +kernel, rfl, by decide +kernel, by decide +kernel⟩
theorem ok_law_empty (T : Tx K mg) : Def P w K mg base CX0 9 (He.ga K "_law_empty") ["_law_book", "_law_way"] (spEmpty K) := by
  have G_Book_schedule := ok_Book_schedule (P := P) (w := w) (base := base) T
  have G_Book_order := ok_Book_order (P := P) (w := w) (base := base) T
  have G_Book_spoiling := ok_Book_spoiling (P := P) (w := w) (base := base) T
  have G_Book_cheapest := ok_Book_cheapest (P := P) (w := w) (base := base) T
  have G_Book_borne := ok_Book_borne (P := P) (w := w) (base := base) T
  refine mk0 T.f_law_empty sc_law_empty (fun _ _ _ _ _ _ us hl => match us, hl with | [_, _], _ => rfl) (fun vs H Q E h => ?_) (fun cdv A outer s H vs Q E hr h => ?_)
  · obtain ⟨b, L, way, rfl, _⟩ := h
    rfl
  · obtain ⟨b, L, way, rfl, hb, sm, hws, kk⟩ := h
    refine ⟨_, (pss_cons (ps_try_as (i := 2) rfl rfl sc_law_empty.nd rfl rfl ⟨rfl, by decide, .inl T.g_LineError⟩ takes0 (fun W pn xe tk _ => (pss_one (ps_if (pt_cmpR op_eq (pv 1) pe_int (nomark _))
    (pss_one (ps_expr (pe_mtS0 (pv 0) T.c_Book T.m_Book_schedule G_Book_schedule (hr.mono (by decide)) (fun σ => passAtN tk σ)))) (pss_one (ps_if (pt_cmpR op_eq (pv 1) pe_int (nomark _))
    (pss_one (ps_expr (pe_mtS0 (pv 0) T.c_Book T.m_Book_order G_Book_order (hr.mono (by decide)) (fun σ => passAtN tk σ)))) (pss_one (ps_if (pt_cmpR op_eq (pv 1) pe_int (nomark _))
    (pss_one (ps_expr (pe_mtS0 (pv 0) T.c_Book T.m_Book_spoiling G_Book_spoiling (hr.mono (by decide)) (fun σ => passAtN tk σ)))) (pss_one (ps_if (pt_cmpR op_eq (pv 1) pe_int (nomark _))
    (pss_one (ps_expr (pe_mtS0 (pv 0) T.c_Book T.m_Book_cheapest G_Book_cheapest (hr.mono (by decide)) (fun σ => passAtN tk σ)))) (pss_one (ps_expr (pe_mtS0 (pv 0) T.c_Book T.m_Book_borne G_Book_borne (hr.mono (by decide)) (fun σ => passAtN tk σ)))))))))))))
    (fun a oe cls d pn hz hf => (pss_one (ps_ret (pe_and (pe_callB (call_isEV rfl hz hf) (by rfl) T.n_isinstance (by decide +kernel) (pa_cons (pv 2) (pa_cons (pe_glob (by rfl) T.g_NoItems rfl (v := .ref (He.ga K "NoItems"))) pa_nil))) (pe_one (pe_not (pe_callB (call_isET rfl hz hf) (by rfl) T.n_isinstance (by decide +kernel) (pa_cons (pv 2) (pa_cons (pe_tup (pa_cons (pe_glob (by rfl) T.g_NoDeed rfl (v := .ref (He.ga K "NoDeed"))) (pa_cons (pe_glob (by rfl) T.g_Nothing rfl (v := .ref (He.ga K "Nothing"))) pa_nil))) pa_nil))))))))))
    (pss_one (ps_ret pe_bl))), ?_⟩
    obtain ⟨dx, dl, ll, x, a, hi, hln⟩ := id hb
    have ki : PySem.W.kitOne K (.ref (He.ga K "NoItems")) (.ref (He.ga K "NoItems")) = some true := if_pos (by simp)
    walk_at "go"
    -- what the suite answers
    have suite : ∀ (σ : L2.St) (H2 : Hp) (q : Addr) (Qs : VK), σ = [some (.ref b), some (.int way), some (.ref q)] → Same H H2 → (∀ H3, Same H2 H3 → Qs (.bl true) H3) →
        tAndV (tCB (rIsEV K (.ref (He.ga K "NoItems")) none q) (tCons (tVar 2) (tCons (tC (.ref (He.ga K "NoItems"))) tNil))) (tNotV (tCB (rIsET K (.ref (He.ga K "NoItems")) none q) (tCons (tVar 2) (tCons (tTup (tCons (tC (.ref (He.ga K "NoDeed"))) (tCons (tC (.ref (He.ga K "Nothing"))) tNil))) tNil)))) σ H2 Qs := by
      intro σ H2 q Qs hσ e k
      subst hσ
      walk_at "go"
      refine ⟨_, _, _, true, rfl, rfl, T.x.xni, rfl, .own _, ki, ?_⟩
      walk_at "go"
      refine r_new (by simp) fun p H3 e3 hp h3 => ?_
      refine ⟨_, p, _, _, false, rfl, rfl, T.x.xni, rfl, h3, .cons (.own _) (.cons (.own _) .nil), ?_, ?_⟩
      · unfold PySem.W.kitAny
        rw [T.x.kd]
        show PySem.W.kitAny K (.ref (He.ga K "NoItems")) [.ref (He.ga K "Nothing")] = some false
        unfold PySem.W.kitAny
        rw [T.x.kn]
        rfl
      · walk_at "go"
        exact k H3 e3
    have fin : ∀ (E : XK), (∀ H2, Same H H2 → E (.ref (He.ga K "NoItems")) none H2) → BkGo K H b L E := fun E k => ⟨hb, sm, fun _ H2 e2 => k H2 e2⟩
    refine iteD (fun h => ?_) (fun h => ?_)
    · walk_at "go"
      refine r_meth hi rfl ?_
      walk_at "go"
      exact ⟨b, L, rfl, fin _ fun H2 e2 => ⟨true, T.e_NoItems, fun _ q hq => suite _ H2 q _ rfl e2 fun H3 e3 => kk H3 (same_trans e2 e3), fun z => by cases z⟩, fun ne => absurd hws ne⟩
    · walk_at "go"
      refine iteD (fun h => ?_) (fun h => ?_)
      · walk_at "go"
        refine r_meth hi rfl ?_
        walk_at "go"
        exact ⟨b, L, rfl, fin _ fun H2 e2 => ⟨true, T.e_NoItems, fun _ q hq => suite _ H2 q _ rfl e2 fun H3 e3 => kk H3 (same_trans e2 e3), fun z => by cases z⟩, fun ne => absurd hws ne⟩
      · walk_at "go"
        refine iteD (fun h => ?_) (fun h => ?_)
        · walk_at "go"
          refine r_meth hi rfl ?_
          walk_at "go"
          exact ⟨b, L, rfl, fin _ fun H2 e2 => ⟨true, T.e_NoItems, fun _ q hq => suite _ H2 q _ rfl e2 fun H3 e3 => kk H3 (same_trans e2 e3), fun z => by cases z⟩, fun ne => absurd hws ne⟩
        · walk_at "go"
          refine iteD (fun h => ?_) (fun h => ?_)
          · walk_at "go"
            refine r_meth hi rfl ?_
            walk_at "go"
            exact ⟨b, L, rfl, fin _ fun H2 e2 => ⟨true, T.e_NoItems, fun _ q hq => suite _ H2 q _ rfl e2 fun H3 e3 => kk H3 (same_trans e2 e3), fun z => by cases z⟩, fun ne => absurd hws ne⟩
          · walk_at "go"
            refine r_meth hi rfl ?_
            walk_at "go"
            exact ⟨b, L, rfl, fin _ fun H2 e2 => ⟨true, T.e_NoItems, fun _ q hq => suite _ H2 q _ rfl e2 fun H3 e3 => kk H3 (same_trans e2 e3), fun z => by cases z⟩, fun ne => absurd hws ne⟩
end
end BW
namespace BW
open PySem PySem.Spec PyProof.Rows L2
section
variable {P : Program} {w : World} {K : PySem.W.Frag} {mg : Str → Option Value} {base : Heap}

theorem Sa.lenL {xs : List PyData} {b k : Nat} (h : Sa xs b k) : (PyData.shown (.list xs)).length ≤ 62 * b + 60 := by
  have e1 := PyData.shown_le_bulk 60 (by decide) (.list xs) h.ls
  have e2 : PyData.bulk (.list xs) ≤ b := h.bu
  have := Nat.mul_le_mul_left 62 e2
  omega
/-- the text of a Schedule -/
def schTxt (n : Nat) (cs : List (Nat × Int)) : Str := ((((Str.empty ++ Str.ofString "Schedule(") ++ Str.ofString (toString (n : Int))) ++ Str.ofString ", ") ++ PyData.shown (.list (cs.map dR))) ++ Str.ofString ")"
def spSchRepr (K : PySem.W.Frag) : Sp := fun vs H Q _ => ∃ (x : Addr) (n : Nat) (cs : List (Nat × Int)), vs = [.ref x] ∧ SchAt K H x n cs ∧ CsOk n cs ∧ Q (.str (schTxt n cs)) H
theorem saRows {n : Nat} {cs : List (Nat × Int)} (h : CsOk n cs) : Sa (cs.map dR) (3 * cs.length) 1 := Sa.rows h.n12 h.g h.p
theorem sc_Schedule_repr : FnScope ["self"] ["self"] (defScope s_Schedule_repr) := ⟨rfl, rfl, rfl, by decide +kernel, rfl, by decide +kernel, by decide +kernel⟩
theorem ok_Schedule_repr (T : Tx K mg) : DefG P w K mg base 1 (He.ma K (He.ga K "Schedule") "__repr__") ["self"] (spSchRepr K) := by
  refine mkG T.f_Schedule_repr sc_Schedule_repr (fun _ _ _ _ _ _ us hl => match us, hl with | [_], _ => rfl) (fun vs H Q E h => ?_) (fun cdv A outer s H vs Q gd hr h => ?_)
  · obtain ⟨x, n, cs, rfl, _⟩ := h
    rfl
  · obtain ⟨x, n, cs, rfl, ⟨dx, l, us, hx, hl, hu⟩, ok, kk⟩ := h
    refine ⟨_, (pss_one (ps_ret (pe_joined (.cons pe_str (.cons (pe_fmt (pe_fldK rfl (pv 0) rfl)) (.cons pe_str (.cons (pe_fmtD rfl gd hr (pe_fldK rfl (pv 0) rfl)) (.cons pe_str .nil)))))))), ?_⟩
    have sa := saRows ok
    have len := sa.lenL
    have cl := ok.l
    have n1 : I50 (n : Int) := i50_nat (by have := ok.n12; omega)
    have nl := n1.len
    have l1 : (Str.empty ++ Str.ofString "Schedule(").length ≤ 20 := by decide +kernel
    have l2 : (Str.ofString ", ").length ≤ 2 := by decide +kernel
    have l3 : (Str.ofString ")").length ≤ 1 := by decide +kernel
    have zz := sizeLine_eq
    walk_at "go"
    show tJs _ _ _ _ _
    refine ⟨_, rfl, by omega, ?_⟩
    refine r_fmt ?_
    walk_at "go"
    refine r_fld hx T.c_Schedule T.a_Schedule_place_count rfl ?_
    refine .inr ⟨_, rfl, n1.log, ?_⟩
    refine ⟨_, rfl, by rw [strLen_append]; omega, ?_⟩
    refine ⟨_, rfl, by rw [strLen_append, strLen_append]; omega, ?_⟩
    refine r_fmtD ?_
    walk_at "go"
    refine r_fld hx T.c_Schedule T.a_Schedule_rows rfl ?_
    refine ⟨l, _, rfl, .lst (sl_of hl) (dp_rows hu), sa.shwL (by omega) (by omega), ?_⟩
    refine ⟨_, rfl, by rw [strLen_append, strLen_append, strLen_append]; omega, ?_⟩
    refine ⟨_, rfl, by rw [strLen_append, strLen_append, strLen_append, strLen_append]; omega, ?_⟩
    exact kk
end
end BW
namespace BW
open PySem PySem.Spec PyProof.Rows L2
section
variable {P : Program} {w : World} {K : PySem.W.Frag} {mg : Str → Option Value} {base : Heap}

theorem shwD {d : BM.Deed} {L L' : BM.Ln} (h : d.ok) (hL : L.Ok) (hs : L.step d = some L') : Shw (dD d) := by
  cases d with
  | arrive p =>
    have hp : I50 p := by
      have : (10 ^ 40 : Nat) < 10 ^ 50 := by decide +kernel
      have h1 : -(10 ^ 40) ≤ p ∧ p ≤ 10 ^ 40 := h
      unfold I50
      omega
    exact ((Sa.nil.int hp).str (x := "arrive") (n := 10) (by decide +kernel) (by decide +kernel) (by decide +kernel)).shwT (by omega) (by omega)
  | serve => exact (Sa.nil.str (x := "serve") (n := 10) (by decide +kernel) (by decide +kernel) (by decide +kernel)).shwT (by omega) (by omega)
  | compare pos price done =>
    have h1 : 0 ≤ price ∧ price ≤ 10 ^ 18 := h
    have hp : pos ≤ 100 := by
      by_cases q : L.st.length < pos + 2
      · have e : L.step (.compare pos price done) = none := if_pos q
        rw [e] at hs
        cases hs
      · have := hL.len
        have := hL.n12
        omega
    exact ((((Sa.nil.bool).int (i50_le h1.1 (by omega))).int (i50_nat (n := pos) (by omega))).str (x := "compare") (n := 10) (by decide +kernel) (by decide +kernel) (by decide +kernel)).shwT (by omega) (by omega)
/-- one step back or again -/
def StepD (way : Int) (log und log' und' : List BM.Deed) : Prop :=
  (way = 0 ∧ ((log = [] ∧ log' = [] ∧ und' = und) ∨ ∃ dd, log = log' ++ [dd] ∧ und' = und ++ [dd])) ∨ (way = 1 ∧ ((und = [] ∧ und' = [] ∧ log' = log) ∨ ∃ dd, und = und' ++ [dd] ∧ log' = log ++ [dd]))
/-- the law's lists beside the Book -/
structure Side (K : PySem.W.Frag) (H : Hp) (b lg un : Addr) (B : BkA) (log und : List BM.Deed) (L : BM.Ln) : Prop where
  bk : BookAt K H b B log und L
  glog : ∃ us, H lg = some (.lst us) ∧ Deeds H us log
  gund : ∃ us, H un = some (.lst us) ∧ Deeds H us und
  ne : lg ≠ un
  ol : lg ∉ B.foot b
  ou : un ∉ B.foot b
/-- what holds of the logs -/
structure Logs (log und : List BM.Deed) (L : BM.Ln) : Prop where
  r : BM.replay log = some L
  ok : ∀ d ∈ log ++ und, d.ok
  n : log.length + und.length ≤ 100
  u : ∃ M, BM.replay (log ++ und.reverse) = some M
theorem Logs.small {log und : List BM.Deed} {L : BM.Ln} (h : Logs log und L) : LnSmall L := small_of (fun d hd => h.ok d (by simp [hd])) h.r (by have := h.n; omega)
theorem run_prefix {l m : List BM.Deed} {M : BM.Ln} (h : BM.replay (l ++ m) = some M) : ∃ L, BM.replay l = some L := by
  cases q : BM.replay l with
  | some L => exact ⟨L, rfl⟩
  | none =>
    have e : BM.replay (l ++ m) = none := by
      show BM.runL .zero (l ++ m) = none
      rw [BM.runL_append]
      show (BM.replay l).bind _ = none
      rw [q]
      rfl
    rw [e] at h
    cases h
theorem Logs.back {log und : List BM.Deed} {dd : BM.Deed} {L : BM.Ln} (h : Logs (log ++ [dd]) und L) : ∃ L0, Logs log (und ++ [dd]) L0 := by
  obtain ⟨L0, e⟩ := run_prefix h.r
  obtain ⟨M, hM⟩ := h.u
  refine ⟨L0, e, fun d hd => h.ok d ?_, ?_, M, ?_⟩
  · simp only [List.mem_append, List.mem_singleton] at hd ⊢
    rcases hd with hd | hd | hd
    · exact .inl (.inl hd)
    · exact .inr hd
    · exact .inl (.inr hd)
  · have := h.n
    simp at this ⊢
    omega
  · rw [List.reverse_append]
    simpa using hM
theorem Logs.again {log und : List BM.Deed} {dd : BM.Deed} {L : BM.Ln} (h : Logs log (und ++ [dd]) L) : ∃ L', L.step dd = some L' ∧ Logs (log ++ [dd]) und L' := by
  obtain ⟨M, hM⟩ := h.u
  have e1 : BM.replay ((log ++ [dd]) ++ und.reverse) = some M := by
    rw [List.reverse_append] at hM
    simpa using hM
  obtain ⟨L', e2⟩ := run_prefix e1
  have e3 : BM.replay (log ++ [dd]) = L.step dd := by
    show BM.runL .zero (log ++ [dd]) = _
    rw [BM.runL_snoc]
    show (BM.replay log).bind _ = _
    rw [h.r]
    rfl
  refine ⟨L', by rw [← e3]; exact e2, e2, fun d hd => h.ok d ?_, ?_, M, e1⟩
  · simp only [List.mem_append, List.mem_singleton] at hd ⊢
    rcases hd with (hd | hd) | hd
    · exact .inl hd
    · exact .inr (.inr hd)
    · exact .inr (.inl hd)
  · have := h.n
    simp at this ⊢
    omega
theorem replay_snoc {l : List BM.Deed} {d : BM.Deed} {L : BM.Ln} (h : BM.replay l = some L) : BM.replay (l ++ [d]) = L.step d := by
  show BM.runL .zero (l ++ [d]) = _
  rw [BM.runL_snoc]
  show (BM.replay l).bind _ = _
  rw [h]
  rfl
/-- what a step leaves -/
structure Moved (K : PySem.W.Frag) (H H' : Hp) (b lg un : Addr) (B B' : BkA) (way : Int) (log und log' und' : List BM.Deed) (L' : BM.Ln) : Prop where
  st : StepD way log und log' und'
  bt : But (lg :: un :: B.foot b) H H'
  fr : ∀ p ∈ B'.foot b, p ∈ B.foot b ∨ H p = none
  sd : Side K H' b lg un B' log' und' L'
  lo : Logs log' und' L'
theorem moved_lists {H : Hp} {b one other : Addr} {B : BkA} {log und la lb : List BM.Deed} {L : BM.Ln} {us vs : List V} {v : V} {dd : BM.Deed} (bk : BookAt K H b B log und L) (h1 : H one = some (.lst (us ++ [v]))) (d1 : Deeds H us la) (hv : DeedAt H v dd) (h2 : H other = some (.lst vs)) (d2 : Deeds H vs lb) (ne : one ≠ other) (o1 : one ∉ B.foot b) (o2 : other ∉ B.foot b) :
    BookAt K (upd (upd H one (.lst us)) other (.lst (vs ++ [v]))) b B log und L ∧ upd (upd H one (.lst us)) other (.lst (vs ++ [v])) one = some (.lst us) ∧ Deeds (upd (upd H one (.lst us)) other (.lst (vs ++ [v]))) us la ∧ upd (upd H one (.lst us)) other (.lst (vs ++ [v])) other = some (.lst (vs ++ [v])) ∧
    Deeds (upd (upd H one (.lst us)) other (.lst (vs ++ [v]))) (vs ++ [v]) (lb ++ [dd]) ∧ But [one, other] H (upd (upd H one (.lst us)) other (.lst (vs ++ [v]))) := by
  have bt : But [one, other] H (upd (upd H one (.lst us)) other (.lst (vs ++ [v]))) := but_upd (but_upd (but_refl _ _) (by simp)) (by simp)
  have nt : ∀ p ∈ [one, other], ∀ xs, H p ≠ some (.tup xs) := fun p hp xs z => by
    simp only [List.mem_cons, List.not_mem_nil, or_false] at hp
    rcases hp with rfl | rfl
    · rw [h1] at z; cases z
    · rw [h2] at z; cases z
  refine ⟨bk.but bt (fun p hp z => ?_) (fun z => ?_) nt, (upd_ne ne).trans upd_same, deeds_but d1 bt nt, upd_same, pair_app (deeds_but d2 bt nt) (.cons (deedAt_but hv bt nt) .nil), bt⟩
  · simp only [List.mem_cons, List.not_mem_nil, or_false] at z
    rcases z with rfl | rfl
    · exact o1 hp
    · exact o2 hp
  · obtain ⟨dx, hx⟩ := bk.ln.x
    simp only [List.mem_cons, List.not_mem_nil, or_false] at z
    rcases z with z | z
    · rw [z, h1] at hx; cases hx
    · rw [z, h2] at hx; cases hx
def spStepped (K : PySem.W.Frag) : Sp := fun vs H Q _ => ∃ (b lg un : Addr) (B : BkA) (log und : List BM.Deed) (L : BM.Ln) (way : Int), vs = [.ref b, .ref lg, .ref un, .int way] ∧ Side K H b lg un B log und L ∧ Logs log und L ∧ (way = 0 ∨ way = 1) ∧ ∀ B' log' und' L' H', Moved K H H' b lg un B B' way log und log' und' L' → Q (.bl true) H'
theorem r_repr {H : Hp} {Q : VK} {a : Addr} {d : PyData} (h : Dp K H (.ref a) d) (s : Shw d) (k : Q (.str d.shown) H) : rReprP K [.ref a] H Q := .inl ⟨a, d, rfl, h, s, k⟩
theorem sc_law_stepped : FnScope ["_law_book", "_law_log", "_law_undone", "_law_way", "_law_one", "_law_other", "_law_told"] ["_law_book", "_law_log", "_law_undone", "_law_way"] (defScope s_law_stepped) := ⟨rfl, rfl, rfl, by decide +kernel, rfl, by decide +kernel, by decide +kernel⟩
theorem ok_law_stepped (T : Tx K mg) : DefG P w K mg base 7 (He.ga K "_law_stepped") ["_law_book", "_law_log", "_law_undone", "_law_way"] (spStepped K) := by
  have G_Book_back := ok_Book_back (P := P) (w := w) (base := base) T
  have G_Book_again := ok_Book_again (P := P) (w := w) (base := base) T
  refine mkG T.f_law_stepped sc_law_stepped (fun _ _ _ _ _ _ us hl => match us, hl with | [_, _, _, _], _ => rfl) (fun vs H Q E h => ?_) (fun cdv A outer s H vs Q gd hr h => ?_)
  · obtain ⟨b, lg, un, B, log, und, L, way, rfl, _⟩ := h
    rfl
  · obtain ⟨b, lg, un, B, log, und, L, way, rfl, sd, lo, hw, kk⟩ := h
    refine ⟨_, (pss_cons (ps_asg (pe_ix (ix_listK rfl) (pe_lst (pa_cons (pe_tup (pa_cons (pv 1) (pa_cons (pv 2) pa_nil))) (pa_cons (pe_tup (pa_cons (pv 2) (pa_cons (pv 1) pa_nil))) pa_nil))) (pv 3) (fun _ _ => rfl)) (pg_tupK (n := 2) rfl rfl (pgs_cons (pg_name (i := 4) sc_law_stepped.nd rfl (Or.inl rfl)) (pgs_cons (pg_name (i := 5) sc_law_stepped.nd rfl (Or.inl rfl)) pgs_nil))))
    (pss_cons (ps_if (pt_cmpR (op_eqDK rfl hr.units) (pv 4) (pe_lst pa_nil) (nomark _))
    (pss_one (ps_ret pe_bl)) pss_nil)
    (pss_cons (ps_expr (pe_bmK rfl PySem.F.plainAttrs_list PySem.F.slot_list_append PySem.F.type_list_append mt_append (pv 5) (pa_cons (pe_bm0 PySem.F.plainAttrs_list PySem.F.slot_list_pop PySem.F.type_list_pop mt_pop (pv 4)) pa_nil)))
    (pss_cons (ps_set (i := 6) sc_law_stepped.nd rfl (Or.inl rfl) (pe_ifExp (pt_cmpR op_eq (pv 3) pe_int (nomark _)) (pe_mt0 (pv 0) T.c_Book T.m_Book_back G_Book_back (hr.mono (by decide)) pass0) (pe_mt0 (pv 0) T.c_Book T.m_Book_again G_Book_again (hr.mono (by decide)) pass0)))
    (pss_one (ps_ret (pe_cmpR op_eq (pe_callB (cr_reprP rfl gd hr) (by rfl) T.n_repr (by decide +kernel) (pa_cons (pv 6) pa_nil)) (pe_callB (cr_reprP rfl gd hr) (by rfl) T.n_repr (by decide +kernel) (pa_cons (pe_ix (ix_listK rfl) (pv 5) (pe_un un_neg pe_int) (fun _ _ => rfl)) pa_nil)) (nomark _)))))))), ?_⟩
    walk_at "go"
    refine r_new (by simp) fun t1 H1 e1 ht1 h1 => ?_
    walk_at "go"
    refine r_new (by simp) fun t2 H2 e2 ht2 h2 => ?_
    walk_at "go"
    refine r_new (by simp) fun l3 H3 e3 hl3 h3 => ?_
    walk_at "go"
    have e03 := same_trans e1 (same_trans e2 e3)
    have bk3 := sd.bk.same e03
    have sm := lo.small
    have ln := lo.n
    rcases hw with rfl | rfl
    · refine r_ixL h3 (j := 0) rfl rfl ?_
      refine r_gtup (e3 _ _ (e2 _ _ h1)) rfl ?_
      walk_at "go"
      refine r_new (by simp) fun p0 H4 e4 hp0 h4 => ?_
      have e04 := same_trans e03 e4
      obtain ⟨us0, g1, g2⟩ := sd.glog
      obtain ⟨vs, u1, u2⟩ := sd.gund
      refine r_eqDs (e04 _ _ g1) (deeds_mono g2 e04) h4 ?_
      walk_at "go"
      refine iteD (fun h => ?_) (fun h => ?_)
      · walk_at "go"
        subst h
        exact kk B [] und L H4 ⟨.inl ⟨rfl, .inl ⟨rfl, rfl, rfl⟩⟩, But.same e04 _, fun p hp => .inl hp, ⟨sd.bk.same e04, ⟨us0, e04 _ _ g1, deeds_mono g2 e04⟩, ⟨vs, e04 _ _ u1, deeds_mono u2 e04⟩, sd.ne, sd.ol, sd.ou⟩, lo⟩
      · obtain ⟨log', dd, rfl, _⟩ := snoc_of (l := log) (n := log.length - 1) (by cases log; exact absurd rfl h; simp)
        obtain ⟨us, v, rfl, _⟩ := snoc_of (l := us0) (n := log'.length) (by rw [g2.length]; simp)
        obtain ⟨g3, hv⟩ := pair_snoc g2
        obtain ⟨L0, lo0⟩ := lo.back
        walk_at "go"
        refine r_tyL (e04 _ _ u1) ?_
        walk_at "go"
        refine r_tyL (e04 _ _ g1) ?_
        refine r_popL (e04 _ _ g1) ?_
        obtain ⟨b6, one6, d6, oth6, d62, bt6⟩ := moved_lists (sd.bk.same e04) (e04 _ _ g1) (deeds_mono g3 e04) (hv.mono e04) (e04 _ _ u1) (deeds_mono u2 e04) sd.ne sd.ol sd.ou
        have hu5 : upd H4 lg (.lst us) un = some (.lst vs) := (upd_ne (Ne.symm sd.ne)).trans (e04 _ _ u1)
        generalize hG5 : upd H4 lg (.lst us) = H5 at *
        walk_at "go"
        refine r_app hu5 (by rw [u2.length]; omega) ?_
        generalize hG6 : upd H5 un (.lst (vs ++ [v])) = H6 at *
        walk_at "go"
        refine iteYes rfl ?_
        obtain ⟨dx, hi⟩ := b6.h
        walk_at "go"
        refine r_meth hi rfl ?_
        walk_at "go"
        refine ⟨b, B, log', und, dd, L, L0, rfl, b6, fun d hd => lo.ok d (by simp [hd]), by have := lo.n; simp at this; omega, by omega, lo0.r, fun r B' H7 bn hr7 => ?_⟩
        walk_at "go"
        have ol7 := bn.bt _ _ one6 sd.ol
        have ou7 := bn.bt _ _ oth6 sd.ou
        have nt7 := b6.notup
        obtain ⟨q, rfl, hq⟩ := id hr7
        obtain ⟨_, hv7⟩ := pair_snoc (deeds_but d62 bn.bt nt7)
        have okd : dd.ok := lo.ok dd (by simp)
        have stp : L0.step dd = some L := by rw [← replay_snoc lo0.r]; exact lo.r
        have sh := shwD okd lo0.small.ok stp
        refine r_repr (dp_D hr7) sh ?_
        walk_at "go"
        refine r_ixLast ou7 ?_
        obtain ⟨q2, rfl, hq2⟩ := id hv7
        refine r_repr (dp_D hv7) sh ?_
        walk_at "go"
        rw [decide_eq_true rfl]
        have f6 : But (lg :: un :: B.foot b) H H7 := (But.same e04 _).trans ((bt6.mono fun p hp => by simp only [List.mem_cons, List.not_mem_nil, or_false] at hp; rcases hp with rfl | rfl <;> simp).trans (bn.bt.mono fun p hp => List.mem_cons_of_mem _ (List.mem_cons_of_mem _ hp)))
        have none6 : ∀ p, H6 p = none → H p = none := fun p hp => none_below e04 (bt6.none hp fun z => by
          simp only [List.mem_cons, List.not_mem_nil, or_false] at z
          rcases z with rfl | rfl
          · rw [one6] at hp; cases hp
          · rw [oth6] at hp; cases hp)
        have off : ∀ y, H6 y ≠ none → y ∉ B.foot b → y ∉ B'.foot b := fun y hy hn hp => (bn.fr y hp).elim hn hy
        exact kk B' log' (und ++ [dd]) L0 H7 ⟨.inl ⟨rfl, .inr ⟨dd, rfl, rfl⟩⟩, f6, fun p hp => (bn.fr p hp).imp id (none6 p), ⟨bn.at_, ⟨us, ol7, deeds_but d6 bn.bt nt7⟩, ⟨_, ou7, deeds_but d62 bn.bt nt7⟩, sd.ne, off lg (by rw [one6]; simp) sd.ol, off un (by rw [oth6]; simp) sd.ou⟩, lo0⟩
    · refine r_ixL h3 (j := 1) rfl rfl ?_
      refine r_gtup (e3 _ _ h2) rfl ?_
      walk_at "go"
      refine r_new (by simp) fun p0 H4 e4 hp0 h4 => ?_
      have e04 := same_trans e03 e4
      obtain ⟨us, g1, g2⟩ := sd.glog
      obtain ⟨vs0, u1, u2⟩ := sd.gund
      refine r_eqDs (e04 _ _ u1) (deeds_mono u2 e04) h4 ?_
      walk_at "go"
      refine iteD (fun h => ?_) (fun h => ?_)
      · walk_at "go"
        subst h
        exact kk B log [] L H4 ⟨.inr ⟨rfl, .inl ⟨rfl, rfl, rfl⟩⟩, But.same e04 _, fun p hp => .inl hp, ⟨sd.bk.same e04, ⟨us, e04 _ _ g1, deeds_mono g2 e04⟩, ⟨vs0, e04 _ _ u1, deeds_mono u2 e04⟩, sd.ne, sd.ol, sd.ou⟩, lo⟩
      · obtain ⟨und', dd, rfl, _⟩ := snoc_of (l := und) (n := und.length - 1) (by cases und; exact absurd rfl h; simp)
        obtain ⟨vs, v, rfl, _⟩ := snoc_of (l := vs0) (n := und'.length) (by rw [u2.length]; simp)
        obtain ⟨u3, hv⟩ := pair_snoc u2
        obtain ⟨L', stp, lo'⟩ := lo.again
        walk_at "go"
        refine r_tyL (e04 _ _ g1) ?_
        walk_at "go"
        refine r_tyL (e04 _ _ u1) ?_
        refine r_popL (e04 _ _ u1) ?_
        obtain ⟨b6, one6, d6, oth6, d62, bt6⟩ := moved_lists (sd.bk.same e04) (e04 _ _ u1) (deeds_mono u3 e04) (hv.mono e04) (e04 _ _ g1) (deeds_mono g2 e04) (Ne.symm sd.ne) sd.ou sd.ol
        have hu5 : upd H4 un (.lst vs) lg = some (.lst us) := (upd_ne sd.ne).trans (e04 _ _ g1)
        generalize hG5 : upd H4 un (.lst vs) = H5 at *
        walk_at "go"
        refine r_app hu5 (by rw [g2.length]; omega) ?_
        generalize hG6 : upd H5 lg (.lst (us ++ [v])) = H6 at *
        walk_at "go"
        refine iteNo (by decide) ?_
        obtain ⟨dx, hi⟩ := b6.h
        walk_at "go"
        refine r_meth hi rfl ?_
        walk_at "go"
        refine ⟨b, B, log, und', dd, L, L', rfl, b6, sm, by have := lo.n; simp at this; omega, stp, fun r B' H7 bn hr7 => ?_⟩
        walk_at "go"
        have ou7 := bn.bt _ _ one6 sd.ou
        have ol7 := bn.bt _ _ oth6 sd.ol
        have nt7 := b6.notup
        obtain ⟨q, rfl, hq⟩ := id hr7
        obtain ⟨_, hv7⟩ := pair_snoc (deeds_but d62 bn.bt nt7)
        have okd : dd.ok := lo.ok dd (by simp)
        have sh := shwD okd sm.ok stp
        refine r_repr (dp_D hr7) sh ?_
        walk_at "go"
        refine r_ixLast ol7 ?_
        obtain ⟨q2, rfl, hq2⟩ := id hv7
        refine r_repr (dp_D hv7) sh ?_
        walk_at "go"
        rw [decide_eq_true rfl]
        have f6 : But (lg :: un :: B.foot b) H H7 := (But.same e04 _).trans ((bt6.mono fun p hp => by simp only [List.mem_cons, List.not_mem_nil, or_false] at hp; rcases hp with rfl | rfl <;> simp).trans (bn.bt.mono fun p hp => List.mem_cons_of_mem _ (List.mem_cons_of_mem _ hp)))
        have none6 : ∀ p, H6 p = none → H p = none := fun p hp => none_below e04 (bt6.none hp fun z => by
          simp only [List.mem_cons, List.not_mem_nil, or_false] at z
          rcases z with rfl | rfl
          · rw [one6] at hp; cases hp
          · rw [oth6] at hp; cases hp)
        have off : ∀ y, H6 y ≠ none → y ∉ B.foot b → y ∉ B'.foot b := fun y hy hn hp => (bn.fr y hp).elim hn hy
        exact kk B' (log ++ [dd]) und' L' H7 ⟨.inr ⟨rfl, .inr ⟨dd, rfl, rfl⟩⟩, f6, fun p hp => (bn.fr p hp).imp id (none6 p), ⟨bn.at_, ⟨_, ol7, deeds_but d62 bn.bt nt7⟩, ⟨vs, ou7, deeds_but d6 bn.bt nt7⟩, sd.ne, off lg (by rw [oth6]; simp) sd.ol, off un (by rw [one6]; simp) sd.ou⟩, lo'⟩
end
end BW
namespace BW
open PySem PySem.Spec PyProof.Rows L2
section
variable {P : Program} {w : World} {K : PySem.W.Frag} {mg : Str → Option Value} {base : Heap}

/-- _law_is_spoil of misses that are right -/
def spIsSpoil : Sp := fun vs H Q _ => ∃ (g o a m : Addr) (gs x S : List Nat) (k t : Nat), vs = [.ref g, .ref o, .ref a] ∧ H g = some (.lst (vN gs)) ∧ H o = some (.lst (vN x)) ∧ H a = some (.tup [.str (Str.ofString "misses"), .ref m, .int (k : Int), .int (t : Int)]) ∧ H m = some (.lst (vN S)) ∧
  (∀ c ∈ gs, 1 ≤ c ∧ c < x.length) ∧ x.length ≤ 20 ∧ gs.length ≤ 400 ∧ S.Pairwise (· < ·) ∧ (∀ b ∈ S, b < gs.length) ∧ S.length < 60 ∧ k ≤ x.length ∧ t ≤ x.length ∧ ¬ (BM.play gs x S).Pairwise (· ≤ ·) ∧ heldF gs S x.length k t < BM.dem x k t ∧
  ∀ H', Same H H' → Q (.bl true) H'
def nI (l : List Nat) : List Int := l.map (fun n : Nat => (n : Int))
theorem vN_nI (l : List Nat) : vN l = vI (nI l) := by
  unfold vN vI nI
  rw [List.map_map]
  rfl
theorem rise_nI {S : List Nat} (h : S.Pairwise (· < ·)) : (nI S).Pairwise (· < ·) := by
  unfold nI
  rw [List.pairwise_map]
  exact h.imp fun q => by omega
theorem tab_row {H : Hp} {ys : List V} {rows : List (List Nat)} {k : Nat} {r : List Nat} (h : Paired (fun u row => Lst H u (vN row)) ys rows) (e : rows[k]? = some r) : ∃ u, ys[k]? = some (.ref u) ∧ H u = some (.lst (vN r)) := by
  obtain ⟨a, h1, q, rfl, h2⟩ := pair_atR h e
  exact ⟨q, h1, h2⟩
theorem tabN_row {n m k : Nat} {f : Nat → Nat → Nat} (h : k < n) : (tabN n m f)[k]? = some ((List.range m).map (f k)) := by
  unfold tabN
  exact range_map_at _ h
theorem row_at {m t : Nat} {f : Nat → Nat} (h : t < m) : (vN ((List.range m).map f))[t]? = some (.int ((f t : Nat) : Int)) := by
  unfold vN
  rw [List.map_map]
  exact range_map_at _ h
theorem sc_law_is_spoil : FnScope ["_law_gates", "_law_order", "_law_spoil", "_law_word", "_law_gone", "_law_k", "_law_t", "_law_one", "_law_at"] ["_law_gates", "_law_order", "_law_spoil"] (defScope s_law_is_spoil) := ⟨rfl, rfl, rfl, by decide +kernel, rfl, by decide +kernel, by decide +kernel⟩
theorem ok_law_is_spoil (T : Tx K mg) : Def P w K mg base CX0 3 (He.ga K "_law_is_spoil") ["_law_gates", "_law_order", "_law_spoil"] spIsSpoil := by
  have G_law_play := ok_law_play (P := P) (w := w) (base := base) T
  have G_law_demands := ok_law_demands (P := P) (w := w) (base := base) T
  have G_law_held := ok_law_held (P := P) (w := w) (base := base) T
  refine mk0 T.f_law_is_spoil sc_law_is_spoil (fun _ _ _ _ _ _ us hl => match us, hl with | [_, _, _], _ => rfl) (fun vs H Q E h => ?_) (fun cdv A outer s H vs Q E hr h => ?_)
  · obtain ⟨g, o, a, m, gs, x, S, k, t, rfl, _⟩ := h
    rfl
  · obtain ⟨g, o, a, m, gs, x, S, k, t, rfl, hg, ho, ha, hm, hgs, hx, hgl, hS, hSb, hSl, hk, ht, hpl, hh, kk⟩ := h
    refine ⟨_, (pss_cons (ps_if (PW.pt (pw_or (pt_not (pt_val (pe_callB (call_isiK rfl) (by rfl) T.n_isinstance (by decide +kernel) (pa_cons (pv 2) (pa_cons (pe_ty T.n_tuple (by decide +kernel) (n := "tuple")) pa_nil))))) (pw_or (pt_cmpR op_ne (pe_callB (call_lenK rfl) (by rfl) T.n_len PySem.boot_len (pa_cons (pv 2) pa_nil)) pe_int (nomark _)) (pw_or (pt_cmpR op_ne (pe_ix (ix_tupK rfl) (pv 2) pe_int (fun _ _ => rfl)) pe_str (nomark _)) (pw_or1 (pt_not (pt_val (pe_callB (call_isiK rfl) (by rfl) T.n_isinstance (by decide +kernel) (pa_cons (pe_ix (ix_tupK rfl) (pv 2) pe_int (fun _ _ => rfl)) (pa_cons (pe_ty T.n_list (by decide +kernel) (n := "list")) pa_nil))))))))))
    (pss_one (ps_ret pe_bl)) pss_nil)
    (pss_cons (ps_asg (pv 2) (pg_tupK (n := 4) rfl rfl (pgs_cons (pg_name (i := 3) sc_law_is_spoil.nd rfl (Or.inl rfl)) (pgs_cons (pg_name (i := 4) sc_law_is_spoil.nd rfl (Or.inl rfl)) (pgs_cons (pg_name (i := 5) sc_law_is_spoil.nd rfl (Or.inl rfl)) (pgs_cons (pg_name (i := 6) sc_law_is_spoil.nd rfl (Or.inl rfl)) pgs_nil))))))
    (pss_cons (ps_if (pt_cmpR (op_neDK rfl hr.units) (pe_lc (own := [("_law_one", 7)]) (by rfl) sc_law_is_spoil.nd (pi_listK rfl (pe_op op_cat (pv 4) (pe_lst (pa_cons (pv 5) (pa_cons (pv 6) pa_nil))))) (blkOk_by (by kernel_rfl)) (fun _ _ _ _ _ => (pg_name (i := 7) sc_law_is_spoil.nd rfl (Or.inl rfl))) (fun _ _ _ _ _ => pts_one (PW.pt (pw_or (pt_not (pt_val (pe_callB (call_isiK rfl) (by rfl) T.n_isinstance (by decide +kernel) (pa_cons (pv 7) (pa_cons (pe_ty T.n_int (by decide +kernel) (n := "int")) pa_nil))))) (pw_or1 (pt_val (pe_callB (call_isiK rfl) (by rfl) T.n_isinstance (by decide +kernel) (pa_cons (pv 7) (pa_cons (pe_ty T.n_bool (by decide +kernel) (n := "bool")) pa_nil)))))))) (fun _ _ _ _ _ => (pv 7))) (pe_lst pa_nil) (nomark _))
    (pss_one (ps_ret pe_bl)) pss_nil)
    (pss_cons (ps_if (PW.pt (pw_or (pt_cmpR (op_neDK rfl hr.units) (pv 4) (pe_callB (cr_sortedSetK rfl rfl) (by rfl) T.n_sorted (by decide +kernel) (pa_cons (pe_callTy (cr_setLK rfl rfl) (by rfl) T.n_set (by decide +kernel) (pa_cons (pv 4) pa_nil)) pa_nil)) (nomark _)) (pw_or1 (pt_cmpR (op_neDK rfl hr.units) (pe_lc (own := [("_law_at", 8)]) (by rfl) sc_law_is_spoil.nd (pi_listK rfl (pv 4)) (blkOk_by (by kernel_rfl)) (fun _ _ _ _ _ => (pg_name (i := 8) sc_law_is_spoil.nd rfl (Or.inl rfl))) (fun _ _ _ _ _ => pts_one (pt_not (pt_chain op_le op_lt pe_int (pv 8) (pe_callB (call_lenK rfl) (by rfl) T.n_len PySem.boot_len (pa_cons (pv 0) pa_nil))))) (fun _ _ _ _ _ => (pv 8))) (pe_lst pa_nil) (nomark _)))))
    (pss_one (ps_ret pe_bl)) pss_nil)
    (pss_cons (ps_if (PW.pt (pw_or (pt_not (pt_chain op_le op_le pe_int (pv 5) (pe_callB (call_lenK rfl) (by rfl) T.n_len PySem.boot_len (pa_cons (pv 1) pa_nil)))) (pw_or (pt_not (pt_chain op_le op_le pe_int (pv 6) (pe_callB (call_lenK rfl) (by rfl) T.n_len PySem.boot_len (pa_cons (pv 1) pa_nil)))) (pw_or1 (pt_cmpR (op_eqDK rfl hr.units) (pe_cl G_law_play (hr.mono (by decide)) T.g_law_play pass0 (pa_cons (pv 0) (pa_cons (pv 1) (pa_cons (pv 4) pa_nil)))) (pe_callB (cr_sortedIK rfl) (by rfl) T.n_sorted (by decide +kernel) (pa_cons (pv 1) pa_nil)) (nomark _))))))
    (pss_one (ps_ret pe_bl)) pss_nil)
    (pss_one (ps_ret (pe_cmpR op_gt (pe_ix (ix_listK rfl) (pe_ix (ix_listK rfl) (pe_cl G_law_demands (hr.mono (by decide)) T.g_law_demands pass0 (pa_cons (pv 1) pa_nil)) (pv 5) (fun _ _ => rfl)) (pv 6) (fun _ _ => rfl)) (pe_ix (ix_listK rfl) (pe_ix (ix_listK rfl) (pe_cl G_law_held (hr.mono (by decide)) T.g_law_held pass0 (pa_cons (pv 0) (pa_cons (pe_callB (call_lenK rfl) (by rfl) T.n_len PySem.boot_len (pa_cons (pv 1) pa_nil)) (pa_cons (pv 4) pa_nil)))) (pv 5) (fun _ _ => rfl)) (pv 6) (fun _ _ => rfl)) (nomark _))))))))), ?_⟩
    walk_at "go"
    refine r_isi (.ty _) (.base (.tup ha)) kit_tt' ?_
    walk_at "go"
    refine r_lenT ha ?_
    walk_at "go"
    refine iteNoN rfl ?_
    walk_at "go"
    refine r_ixT (j := 0) ha rfl rfl ?_
    walk_at "go"
    refine iteNoN rfl ?_
    walk_at "go"
    refine r_ixT (j := 1) ha rfl rfl ?_
    walk_at "go"
    refine r_isi (.ty _) (.base (.lst hm)) kit_ll ?_
    walk_at "go"
    refine r_gtup ha rfl ?_
    walk_at "go"
    refine r_new (by simp) fun p1 H1 e1 hp1 h1 => ?_
    walk_at "go"
    refine r_cat (e1 _ _ hm) h1 (by rw [vN_len]; simp; omega) fun p2 H2 e2 hp2 h2 => ?_
    refine r_li h2 ?_
    intro D hD
    refine lc_vals (walk_list (xs := vN (S ++ [k, t]))) hD (fun _ => false) (fun _ => .non) (by rw [vN_len]; simp; omega) (fun H1 e => sl_of (e _ _ (by rw [h2]; simp [vN]))) (fun i H x H' y => at_same y) (fun j x H3 H4 QY QN hj e y kY kN => ?_) (fun H3 e hD1 => ?_)
    · obtain ⟨rfl, y⟩ := y
      obtain ⟨hj, rfl⟩ := vN_of y
      refine ⟨rfl, ?_⟩
      walk_at "go"
      refine r_isi (.ty _) (.base (.int _)) kit_ii' ?_
      walk_at "go"
      refine r_isi (.ty _) (.base (.int _)) kit_ib' ?_
      walk_at "go"
      exact kN rfl _ (same_refl _)
    · rw [List.filter_eq_nil_iff.mpr (fun _ _ => by simp)] at hD1
      walk_at "go"
      refine r_new (by simp) fun p4 H4 e4 hp4 h4 => ?_
      walk_at "go"
      refine r_neN (l := []) (m := []) (e4 _ _ hD1) h4 ?_
      refine ⟨_, rfl, ?_⟩
      refine iteNoN rfl ?_
      have e24 := same_trans (same_trans e1 e2) (same_trans e e4)
      have hm4 : H4 m = some (.lst (vI (nI S))) := by rw [e24 _ _ hm, vN_nI]
      walk_at "go"
      refine r_setL (w := w) rfl hm4 (by unfold nI scanBound; rw [List.length_map]; omega) fun p5 n5 H5 hn5 e5 hp5 h5 => ?_
      walk_at "go"
      refine r_sortSet (w := w) rfl h5 (by unfold nI at hn5; rw [List.length_map] at hn5; omega) fun ns p6 H6 hr6 hk6 e6 hp6 h6 => ?_
      have en : ns = nI S := rise_eq hr6 (rise_nI hS) fun k => (hk6 k).trans (by simp)
      subst en
      have e46 := same_trans e5 e6
      refine r_neL (e46 _ _ hm4) h6 ?_
      refine ⟨_, rfl, ?_⟩
      refine iteNoN rfl ?_
      walk_at "go"
      have e06 := same_trans e24 e46
      have hm6 := e06 _ _ hm
      have hg6 := e06 _ _ hg
      have ho6 := e06 _ _ ho
      refine r_li hm6 ?_
      intro D2 hD2
      refine lc_vals (walk_list (xs := vN S)) hD2 (fun _ => false) (fun _ => .non) (by rw [vN_len]; omega) (fun H1 e => sl_of (e _ _ hm6)) (fun i H x H' y => at_same y) (fun j x H7 H8 QY QN hj e y kY kN => ?_) (fun H7 e7 hD7 => ?_)
      · obtain ⟨rfl, y⟩ := y
        obtain ⟨hj, rfl⟩ := vN_of y
        have hb : S.getD j 0 < gs.length := hSb _ (by rw [List.getD_eq_getElem?_getD, List.getElem?_eq_getElem hj]; exact List.getElem_mem hj)
        refine ⟨rfl, ?_⟩
        walk_at "go"
        refine iteYes (by omega) ?_
        walk_at "go"
        refine r_lenL (e _ _ hg6) ?_
        walk_at "go"
        refine iteNoN (by rw [vN_len]; omega) ?_
        exact kN rfl _ (same_refl _)
      · rw [List.filter_eq_nil_iff.mpr (fun _ _ => by simp)] at hD7
        walk_at "go"
        refine r_new (by simp) fun p8 H8 e8 hp8 h8 => ?_
        walk_at "go"
        refine r_neN (l := []) (m := []) (e8 _ _ hD7) h8 ?_
        refine ⟨_, rfl, ?_⟩
        refine iteNoN rfl ?_
        have e08 := same_trans e06 (same_trans e7 e8)
        walk_at "go"
        refine iteYes (by omega) ?_
        walk_at "go"
        refine r_lenL (e08 _ _ ho) ?_
        walk_at "go"
        refine iteNoN (by rw [vN_len]; omega) ?_
        walk_at "go"
        refine iteYes (by omega) ?_
        walk_at "go"
        refine r_lenL (e08 _ _ ho) ?_
        walk_at "go"
        refine iteNoN (by rw [vN_len]; omega) ?_
        walk_at "go"
        refine ⟨g, o, m, gs, x, S, rfl, e08 _ _ hg, e08 _ _ ho, e08 _ _ hm, hgs, fun p9 H9 e9 hp9 h9 => ?_⟩
        have e09 := same_trans e08 e9
        have ho9 := e09 _ _ ho
        rw [vN_nI] at ho9 h9
        walk_at "go"
        refine r_sortInts ho9 fun out p10 H10 _ hs10 e10 hp10 h10 => ?_
        refine r_eqL (e10 _ _ h9) h10 ?_
        have hne : ¬ nI (BM.play gs x S) = out := fun e => hpl (by
          subst e
          unfold nI at hs10
          rw [List.pairwise_map] at hs10
          exact hs10.imp fun q => by omega)
        refine ⟨_, rfl, ?_⟩
        refine iteNo hne ?_
        have e0 := same_trans e09 e10
        walk_at "go"
        refine ⟨o, x, rfl, e0 _ _ ho, hx, fun p11 ys H11 e11 hp11 h11 hys => ?_⟩
        obtain ⟨u1, hu1, hr1⟩ := tab_row hys (tabN_row (show k < x.length + 1 by omega))
        walk_at "go"
        refine r_ixL (j := k) h11 rfl hu1 ?_
        walk_at "go"
        refine r_ixL (j := t) hr1 rfl (row_at (by omega)) ?_
        walk_at "go"
        have e1 := same_trans e0 e11
        refine r_lenL (e1 _ _ ho) ?_
        walk_at "go"
        refine ⟨g, m, gs, S, x.length, by rw [vN_len]; rfl, e1 _ _ hg, e1 _ _ hm, hgs, hx, fun p12 zs H12 e12 hp12 h12 hzs => ?_⟩
        obtain ⟨u2, hu2, hr2⟩ := tab_row hzs (tabN_row (show k < x.length + 1 by omega))
        walk_at "go"
        refine r_ixL (j := k) h12 rfl hu2 ?_
        walk_at "go"
        refine r_ixL (j := t) hr2 rfl (row_at (by omega)) ?_
        walk_at "go"
        show Q (.bl _) H12
        rw [decide_eq_true (by omega)]
        exact kk _ (same_trans e1 e12)
end
end BW
namespace BW
open PySem PySem.Spec PyProof.Rows L2
section
variable {P : Program} {w : World} {K : PySem.W.Frag} {mg : Str → Option Value} {base : Heap}

theorem mkGx {x qual : Str} {st : Stmt} {f : Addr} {N ps : List Str} {k : Nat} {sp : Sp} (F : ∃ fd, FnP K x qual st f fd) (S : FnScope N ps (defScope st)) (hb : BindsN x qual st ps) (len : ∀ vs H Q E, sp vs H Q E → vs.length = ps.length)
    (body : ∀ (cdv : Value) (A : Around) (outer : List Env) (s : Shared) (H : Hp) (vs : List V) (Q : VK), Gd A → Room k (A.deeper (envOfC qual (defScope st) s.heap.objs.size f cdv)) → sp vs H Q E0 →
      ∃ t, PSs (cxOf CX0 P w K mg base N qual (defScope st) f cdv A outer s H E0).nox (defBody st) t ∧ t { nx := fun _ H' => Q .non H', rt := Q } (start N vs) H) : DefG P w K mg base (k + 1) f ps sp := mkG F S hb len fun cdv A outer s H vs Q gd r h => by
  obtain ⟨t, a, b⟩ := body cdv A outer s H vs Q gd r h
  exact ⟨t, a.nox, b⟩
theorem unit_fst (cs : List (Nat × Int)) : (BM.unit cs).map (·.1) = cs.map (·.1) := by
  unfold BM.unit
  rw [List.map_map]
  rfl
/-- what is told -/
def dT (ns : BM.Spoil → List Int) : Option BM.Spoil → PyData
  | none => .tuple [.str "never"]
  | some b => .tuple (.str "misses" :: .list (dI (nI b.2.2.2)) :: dI (ns b))
theorem dp_T {ns : BM.Spoil → List Int} {H H' : Hp} {v : V} {b : Option BM.Spoil} (h : Told ns H H' v b) : Dp K H' v (dT ns b) := by
  cases b with
  | none =>
    obtain ⟨q, rfl, _, h⟩ := h
    exact .tup (st_of h) (.cons (.str _) .nil)
  | some b =>
    obtain ⟨q, l, rfl, _, _, h, hl⟩ := h
    rw [vN_nI] at hl
    exact .tup (st_of h) (.cons (.str _) (.cons (dp_L hl) (dp_I _)))
theorem Shw.sh {d : PyData} (h : Shw d) : SeqAt.shaped d = true := by
  have := h.dp
  unfold SeqAt.shaped
  rw [h.l, decide_eq_true (by omega)]
  rfl
theorem sa_T {ns : BM.Spoil → List Int} {b : Option BM.Spoil} {ds : List PyData} {m k : Nat} (h : Sa ds m k) (hb : ∀ c, b = some c → (∀ n ∈ c.2.2.2, n ≤ 100000) ∧ c.2.2.2.length ≤ 400 ∧ ∀ i ∈ ns c, I50 i) (hl : ∀ c, (ns c).length ≤ 10) : Sa (dT ns b :: ds) (m + 1000) (max 2 k) := by
  cases b with
  | none => exact (h.tuple (Sa.nil.str (x := "never") (n := 10) (by decide +kernel) (by decide +kernel) (by decide +kernel))).mono (by omega) (by omega)
  | some c =>
    obtain ⟨h1, h2, h3⟩ := hb c rfl
    have q : Sa (dI (nI c.2.2.2)) (nI c.2.2.2).length 0 := by
      have := Sa.nats h1
      unfold nI
      rw [List.length_map]
      exact this
    have e : (nI c.2.2.2).length = c.2.2.2.length := by unfold nI; rw [List.length_map]
    have := hl c
    exact (h.tuple (((Sa.ints h3).list q).str (x := "misses") (n := 10) (by decide +kernel) (by decide +kernel) (by decide +kernel))).mono (by omega) (by omega)
theorem range_get {α : Type} (f : Nat → α) : ∀ l : List Nat, (List.range l.length).map (fun j => f (l.getD j 0)) = l.map f := by
  intro l
  apply List.ext_getElem?
  intro i
  by_cases h : i < l.length
  · rw [range_map_at _ h, List.getElem?_map, List.getElem?_eq_getElem h, BM.getD_lt _ h]
    rfl
  · rw [List.getElem?_eq_none (by simpa using h), List.getElem?_eq_none (by simpa using h)]
theorem sum_le {f : Nat → Int} : ∀ {l : List Nat}, (∀ a ∈ l, 0 ≤ f a ∧ f a ≤ 10 ^ 18) → 0 ≤ (l.map f).sum ∧ (l.map f).sum ≤ l.length * 10 ^ 18
  | [], _ => by simp
  | a :: l, h => by
    have h1 := h a List.mem_cons_self
    have h2 := sum_le (l := l) fun b hb => h b (List.mem_cons_of_mem _ hb)
    simp only [List.map_cons, List.sum_cons, List.length_cons]
    omega
/-- the price of told misses -/
theorem spoil_price {n : Nat} {cs : List (Nat × Int)} {x : List Nat} {b : BM.Spoil} (h : BM.IsSpoil n cs (BM.dem x) b) : (b.2.2.2.map fun a => (cs.getD a (0, 0)).2).sum = b.1 := by
  rw [h.m]
  exact BM.miss_price _ cs cs.length _ _ b.1 (Nat.le_refl _) (by rw [List.take_length]; exact h.w)
theorem spoil_i50 {n : Nat} {cs : List (Nat × Int)} {x : List Nat} {b : BM.Spoil} (h : BM.IsSpoil n cs (BM.dem x) b) (ok : CsOk n cs) (h1 : ∀ a ∈ b.2.2.2, a < cs.length) (h2 : b.2.2.2.length ≤ 400) : I50 b.1 := by
  have q := sum_le (f := fun a => (cs.getD a (0, 0)).2) (l := b.2.2.2) fun a ha => by
    have := ok.p (cs.getD a (0, 0)) (by rw [BM.getD_lt _ (h1 a ha)]; exact List.getElem_mem _)
    exact this
  rw [spoil_price h] at q
  exact i50_le q.1 (by omega)
/-- _law_answers_right of what a Book told -/
def spAnswers (K : PySem.W.Frag) : Sp := fun vs H Q _ => ∃ (tl sx o rw : Addr) (v1 v2 : V) (us : List V) (cs : List (Nat × Int)) (x : List Nat) (H0 H1 H2 : Hp), vs = [.ref tl, .ref sx, .ref o, .ref rw] ∧ Same H0 H1 ∧ Same H1 H2 ∧ Same H2 H ∧ H tl = some (.lst [v1, v2]) ∧ H2 tl = none ∧
  Told nsS H0 H1 v1 (BM.leastSpoil x.length (BM.unit cs) (BM.dem x)) ∧ Told nsC H1 H2 v2 (BM.leastSpoil x.length cs (BM.dem x)) ∧ SchAt K H0 sx x.length cs ∧ CsOk x.length cs ∧ cs.length ≤ 40 ∧ x.Perm (List.range x.length) ∧ H0 o = some (.lst (vN x)) ∧ H0 rw = some (.lst us) ∧ Rows H0 us cs ∧
  ∀ H', Same H0 H' → Q (.bl true) H'
theorem sc_law_answers_right : FnScope ["_law_told", "_law_schedule", "_law_order", "_law_rows", "_law_due", "_law_gates", "_law_gate", "_law_cost", "_law_at", "_law_some"] ["_law_told", "_law_schedule", "_law_order", "_law_rows"] (defScope s_law_answers_right) := ⟨rfl, rfl, rfl, by decide +kernel, rfl, by decide +kernel, by decide +kernel⟩
theorem ok_law_answers_right (T : Tx K mg) : DefG P w K mg base 8 (He.ga K "_law_answers_right") ["_law_told", "_law_schedule", "_law_order", "_law_rows"] (spAnswers K) := by
  have G_spoiling_bearing := ok_spoiling (P := P) (w := w) (base := base) T
  have G_cheapest_prices := ok_cheapest (P := P) (w := w) (base := base) T
  have G_law_is_spoil := ok_law_is_spoil (P := P) (w := w) (base := base) T
  refine mkGx T.f_law_answers_right sc_law_answers_right (fun _ _ _ _ _ _ us hl => match us, hl with | [_, _, _, _], _ => rfl) (fun vs H Q E h => ?_) (fun cdv A outer s H vs Q gd hr h => ?_)
  · obtain ⟨tl, sx, o, rw, v1, v2, us, cs, x, H0, H1, H2, rfl, _⟩ := h
    rfl
  · obtain ⟨tl, sx, o, rw, v1, v2, us, cs, x, H0, H1, H2, rfl, e01, e12, e2, htl, htn, t1, t2, hs, ok, h40, hp, ho, hrw, hrows, kk⟩ := h
    refine ⟨_, (pss_cons (ps_set (i := 4) sc_law_answers_right.nd rfl (Or.inl rfl) (pe_lst (pa_cons (pe_cl G_spoiling_bearing (hr.mono (by decide)) T.g_spoiling_bearing pass0 (pa_cons (pv 1) (pa_cons (pv 2) pa_nil))) (pa_cons (pe_cl G_cheapest_prices (hr.mono (by decide)) T.g_cheapest_prices pass0 (pa_cons (pv 1) (pa_cons (pv 2) pa_nil))) pa_nil))))
    (pss_cons (ps_if (pt_cmpR (op_eqDK rfl hr.units) (pe_ix (ix_listK rfl) (pv 4) pe_int (fun _ _ => rfl)) (pe_tup (pa_cons pe_str pa_nil)) (nomark _))
    (pss_one (ps_ret (pe_cmpR op_eq (pe_callB (cr_reprP rfl gd hr) (by rfl) T.n_repr (by decide +kernel) (pa_cons (pv 0) pa_nil)) (pe_callB (cr_reprP rfl gd hr) (by rfl) T.n_repr (by decide +kernel) (pa_cons (pv 4) pa_nil)) (nomark _)))) pss_nil)
    (pss_cons (ps_setLc (i := 5) (own := [("_law_gate", 6), ("_law_cost", 7)]) (by rfl) sc_law_answers_right.nd rfl rfl (sw_true rfl rfl rfl (by decide +kernel)) (pi_listK rfl (pv 3)) (blkOk_by (by kernel_rfl)) (fun _ _ _ _ _ => (pg_tupK (n := 2) rfl rfl (pgs_cons (pg_name (i := 6) sc_law_answers_right.nd rfl (Or.inl rfl)) (pgs_cons (pg_name (i := 7) sc_law_answers_right.nd rfl (Or.inl rfl)) pgs_nil)))) (fun _ _ _ _ _ => pts_nil) (fun _ _ _ _ _ => (pv 6)))
    (pss_cons (ps_if (PW.pt (pw_or (pt_not (pt_val (pe_callB (call_isiK rfl) (by rfl) T.n_isinstance (by decide +kernel) (pa_cons (pe_ix (ix_listK rfl) (pv 0) pe_int (fun _ _ => rfl)) (pa_cons (pe_ty T.n_tuple (by decide +kernel) (n := "tuple")) pa_nil))))) (pw_or (pt_cmpR op_ne (pe_callB (call_lenK rfl) (by rfl) T.n_len PySem.boot_len (pa_cons (pe_ix (ix_listK rfl) (pv 0) pe_int (fun _ _ => rfl)) pa_nil)) pe_int (nomark _)) (pw_or1 (pt_not (pt_val (pe_cl G_law_is_spoil (hr.mono (by decide)) T.g_law_is_spoil pass0 (pa_cons (pv 5) (pa_cons (pv 2) (pa_cons (pe_ix (ix_listK rfl) (pv 0) pe_int (fun _ _ => rfl)) pa_nil))))))))))
    (pss_one (ps_ret pe_bl)) pss_nil)
    (pss_cons (ps_if (PW.pt (pw_or (pt_not (pt_val (pe_cl G_law_is_spoil (hr.mono (by decide)) T.g_law_is_spoil pass0 (pa_cons (pv 5) (pa_cons (pv 2) (pa_cons (pe_op (op_catTK rfl) (pe_slice (sl_tupK rfl) (pe_ix (ix_listK rfl) (pv 0) pe_int (fun _ _ => rfl)) po_none (po_some pe_int)) (pe_slice (sl_tupK rfl) (pe_ix (ix_listK rfl) (pv 0) pe_int (fun _ _ => rfl)) (po_some pe_int) po_none)) pa_nil)))))) (pw_or1 (pt_cmpR op_ne (pe_callB (call_lenK rfl) (by rfl) T.n_len PySem.boot_len (pa_cons (pe_ix (ix_tupK rfl) (pe_ix (ix_listK rfl) (pv 0) pe_int (fun _ _ => rfl)) pe_int (fun _ _ => rfl)) pa_nil)) (pe_callB (call_lenK rfl) (by rfl) T.n_len PySem.boot_len (pa_cons (pe_ix (ix_tupK rfl) (pe_ix (ix_listK rfl) (pv 4) pe_int (fun _ _ => rfl)) pe_int (fun _ _ => rfl)) pa_nil)) (nomark _)))))
    (pss_one (ps_ret pe_bl)) pss_nil)
    (pss_cons (ps_if (PW.pt (pw_or (pt_cmpR op_ne (pe_callB (cr_reprP rfl gd hr) (by rfl) T.n_repr (by decide +kernel) (pa_cons (pe_ix (ix_tupK rfl) (pe_ix (ix_listK rfl) (pv 0) pe_int (fun _ _ => rfl)) pe_int (fun _ _ => rfl)) pa_nil)) (pe_callB (cr_reprP rfl gd hr) (by rfl) T.n_repr (by decide +kernel) (pa_cons (pe_ix (ix_tupK rfl) (pe_ix (ix_listK rfl) (pv 4) pe_int (fun _ _ => rfl)) pe_int (fun _ _ => rfl)) pa_nil)) (nomark _)) (pw_or1 (pt_cmpR op_ne (pe_callB (cr_sumK rfl rfl) (by rfl) T.n_sum (by decide +kernel) (pa_cons (pe_lc (own := [("_law_at", 8)]) (by rfl) sc_law_answers_right.nd (pi_listK rfl (pe_ix (ix_tupK rfl) (pe_ix (ix_listK rfl) (pv 0) pe_int (fun _ _ => rfl)) pe_int (fun _ _ => rfl))) (blkOk_by (by kernel_rfl)) (fun _ _ _ _ _ => (pg_name (i := 8) sc_law_answers_right.nd rfl (Or.inl rfl))) (fun _ _ _ _ _ => pts_nil) (fun _ _ _ _ _ => (pe_ix (ix_tupK rfl) (pe_ix (ix_listK rfl) (pv 3) (pv 8) (fun _ _ => rfl)) pe_int (fun _ _ => rfl)))) pa_nil)) (pe_ix (ix_tupK rfl) (pe_ix (ix_listK rfl) (pv 4) pe_int (fun _ _ => rfl)) pe_int (fun _ _ => rfl)) (nomark _)))))
    (pss_one (ps_ret pe_bl)) pss_nil)
    (pss_cons (ps_for PassesOwn.never rfl (pi_listK rfl (pv 0)) (pg_name (i := 9) sc_law_answers_right.nd rfl (Or.inl rfl))
    (pss_one (ps_expr (pe_bmK rfl PySem.F.plainAttrs_list PySem.F.slot_list_append PySem.F.type_list_append mt_append (pe_ix (ix_tupK rfl) (pv 9) pe_int (fun _ _ => rfl)) (pa_cons pe_int pa_nil)))))
    (pss_one (ps_ret pe_bl))))))))), ?_⟩
    have e0 := same_trans e01 (same_trans e12 e2)
    walk_at "go"
    refine ⟨sx, o, cs, x, rfl, hs.mono e0, ok, e0 _ _ ho, fun u1 H3 e3 s1 => ?_⟩
    walk_at "go"
    refine ⟨sx, o, cs, x, rfl, hs.mono (same_trans e0 e3), ok, e3 _ _ (e0 _ _ ho), fun u2 H4 e4 s2 => ?_⟩
    walk_at "go"
    refine r_new (by simp) fun du H5 e5 hdu h5 => ?_
    walk_at "go"
    refine r_ixL (j := 0) h5 rfl rfl ?_
    walk_at "go"
    refine r_new (by simp) fun q6 H6 e6 hq6 h6 => ?_
    have hu := BM.leastSpoil_unit x.length cs (BM.dem x)
    have t1 := t1.mono (same_trans e12 (same_trans e2 (same_trans e3 (same_trans e4 (same_trans e5 e6)))))
    have t2 := t2.mono (same_trans e2 (same_trans e3 (same_trans e4 (same_trans e5 e6))))
    have s1 := s1.mono (same_trans e4 (same_trans e5 e6))
    have s2 := s2.mono (same_trans e5 e6)
    have e06 := same_trans e0 (same_trans e3 (same_trans e4 (same_trans e5 e6)))
    generalize hb1 : BM.leastSpoil x.length (BM.unit cs) (BM.dem x) = b1 at *
    generalize hb2 : BM.leastSpoil x.length cs (BM.dem x) = b2 at *
    cases b1 with
    | none =>
      obtain rfl : b2 = none := by
        cases b2 with
        | none => rfl
        | some c => cases hu
      have sh1 : Shw (dT nsS none) := (Sa.nil.str (x := "never") (n := 10) (by decide +kernel) (by decide +kernel) (by decide +kernel)).shwT (by omega) (by omega)
      have sh2 : Shw (.list [dT nsS none, dT nsC none]) := ((sa_T (Sa.nil) (fun c z => by cases z) (by simp)).tuple (Sa.nil.str (x := "never") (n := 10) (by decide +kernel) (by decide +kernel) (by decide +kernel))).shwL (by omega) (by omega)
      have dq : Dp K H6 (.ref q6) (dT nsS none) := .tup (st_of h6) (.cons (.str _) .nil)
      refine r_eqD (dp_T s1) dq sh1.sh sh1.sh (c := true) (by decide +kernel) ?_
      walk_at "go"
      refine r_repr (.lst (sl_of ((same_trans e3 (same_trans e4 (same_trans e5 e6))) _ _ htl)) (.cons (dp_T t1) (.cons (dp_T t2) .nil))) sh2 ?_
      walk_at "go"
      refine r_repr (.lst (sl_of (e6 _ _ h5)) (.cons (dp_T s1) (.cons (dp_T s2) .nil))) sh2 ?_
      refine r_eqS ?_
      rw [decide_eq_true rfl]
      exact kk _ e06
    | some c1 =>
      obtain ⟨c2, rfl⟩ : ∃ c2, b2 = some c2 := by
        cases b2 with
        | none => cases hu
        | some c => exact ⟨c, rfl⟩
      have G1 : BM.Gates x.length (BM.unit cs) := ⟨fun c hc => by
        have := ok.unit c hc
        omega⟩
      have G2 : BM.Gates x.length cs := ⟨fun c hc => by
        have := ok.g c hc
        omega⟩
      have i1 := BM.leastSpoil_is ok.n1 hb1
      have i2 := BM.leastSpoil_is ok.n1 hb2
      obtain ⟨a1, a2, a3, a4, a5, a6, a7⟩ := BM.spoil_all G1 rfl hp i1
      obtain ⟨d1, d2, d3, d4, d5, d6, d7⟩ := BM.spoil_all G2 rfl hp i2
      rw [unit_fst] at a6 a7
      rw [unit_len] at a2 a3
      obtain ⟨p1, m1, rfl, n11, n12, t11, t12⟩ := t1
      obtain ⟨p2, m2, rfl, n21, n22, t21, t22⟩ := t2
      obtain ⟨p3, m3, rfl, n31, n32, t31, t32⟩ := s1
      obtain ⟨p4, m4, rfl, n41, n42, t41, t42⟩ := s2
      have dq : Dp K H6 (.ref q6) (dT nsS none) := .tup (st_of h6) (.cons (.str _) .nil)
      have sh1 : Shw (dT nsS none) := (Sa.nil.str (x := "never") (n := 10) (by decide +kernel) (by decide +kernel) (by decide +kernel)).shwT (by omega) (by omega)
      have shc : Shw (dT nsS (some c1)) := by
        have h12 := ok.n12
        have q : Sa (dI (nI c1.2.2.2)) (nI c1.2.2.2).length 0 := by
          have := Sa.nats (l := c1.2.2.2) fun n hn => by
            have := a2 n hn
            omega
          unfold nI
          rw [List.length_map]
          exact this
        have e : (nI c1.2.2.2).length = c1.2.2.2.length := by unfold nI; rw [List.length_map]
        have r : ∀ i ∈ nsS c1, I50 i := fun i hi => by
          simp only [List.mem_cons, List.not_mem_nil, or_false] at hi
          rcases hi with rfl | rfl
          · exact i50_nat (by omega)
          · exact i50_nat (by omega)
        exact (((Sa.ints r).list q).str (x := "misses") (n := 10) (by decide +kernel) (by decide +kernel) (by decide +kernel)).shwT (by simp [nsS]; omega) (by omega)
      refine r_eqD (.tup (st_of t31) (.cons (.str _) (.cons (dp_L (by rw [vN_nI] at t32; exact t32)) (dp_I _))) : Dp K H6 (.ref p3) (dT nsS (some c1))) dq shc.sh sh1.sh (c := false) (by simp [dT, PyData.eqv, PyData.eqvAll]) ?_
      walk_at "go"
      have hr6 := hrows.mono e06
      have hl6 : us.length = cs.length := pair_len hrows
      have gate : ∀ j (h : j < cs.length), ∃ q, us[j]? = some (.ref q) ∧ H6 q = some (.tup [.int ((cs.getD j (0, 0)).1 : Int), .int (cs.getD j (0, 0)).2]) := fun j h => by
        obtain ⟨u, hu, q, rfl, z⟩ := pair_atR hr6 (List.getElem?_eq_getElem h)
        refine ⟨q, hu, ?_⟩
        rw [List.getD_eq_getElem?_getD, List.getElem?_eq_getElem h]
        exact z
      refine r_li (e06 _ _ hrw) ?_
      intro D hD
      refine lc_vals (walk_list (xs := us)) hD (fun _ => true) (fun j => .int ((cs.getD j (0, 0)).1 : Int)) (by omega) (fun H1 e => sl_of (e _ _ (e06 _ _ hrw))) (fun i H x H' y => at_same y) (fun j v H7 H8 QY QN hj e y kY kN => ?_) (fun H7 e7 hD7 => ?_)
      · obtain ⟨rfl, y⟩ := y
        obtain ⟨q, y2, z⟩ := gate j (by omega)
        obtain rfl : v = .ref q := by rw [y2] at y; exact (Option.some.inj y).symm
        refine r_gtup (e _ _ z) rfl ?_
        walk_at "go"
        refine ⟨rfl, ?_⟩
        walk_at "go"
        exact kY rfl _ (same_refl _)
      · have hD7 : H7 D = some (.lst (vN (cs.map (·.1)))) := by
          rw [hD7, List.filter_eq_self.mpr (fun _ _ => rfl), hl6]
          unfold vN
          rw [List.map_map]
          congr 2
          apply List.ext_getElem?
          intro i
          by_cases h : i < cs.length
          · rw [range_map_at _ h, List.getElem?_map, List.getElem?_eq_getElem h, BM.getD_lt _ h]
            rfl
          · rw [List.getElem?_eq_none (by simpa using h), List.getElem?_eq_none (by simpa using h)]
        have e07 := same_trans e06 e7
        walk_at "go"
        refine r_ixL (j := 1) ((same_trans e3 (same_trans e4 (same_trans e5 (same_trans e6 e7)))) _ _ htl) rfl rfl ?_
        walk_at "go"
        refine r_isi (.ty _) (.base (.tup (e7 _ _ t21))) kit_tt' ?_
        walk_at "go"
        refine r_ixL (j := 1) ((same_trans e3 (same_trans e4 (same_trans e5 (same_trans e6 e7)))) _ _ htl) rfl rfl ?_
        walk_at "go"
        refine r_lenT (e7 _ _ t21) ?_
        walk_at "go"
        refine iteNoN rfl ?_
        walk_at "go"
        have e37 := same_trans e3 (same_trans e4 (same_trans e5 (same_trans e6 e7)))
        refine r_ixL (j := 0) (e37 _ _ htl) rfl rfl ?_
        walk_at "go"
        have gl : (cs.map (·.1)).length = cs.length := List.length_map _
        have gok : ∀ c ∈ cs.map (·.1), 1 ≤ c ∧ c < x.length := fun c hc => by
          obtain ⟨d, hd, rfl⟩ := List.mem_map.mp hc
          exact G2.g d hd
        refine ⟨D, o, p1, m1, (cs.map fun c : Nat × Int => c.1), x, c1.2.2.2, c1.2.1, c1.2.2.1, rfl, hD7, e07 _ _ ho, e7 _ _ t11, e7 _ _ t12, gok, by have := ok.n12; omega, by omega, a1, by rw [gl]; exact a2, by omega, a4, a5, a6, a7, fun H8 e8 => ?_⟩
        walk_at "go"
        refine r_ixL (j := 1) (e8 _ _ (e37 _ _ htl)) rfl rfl ?_
        walk_at "go"
        have t28 := e8 _ _ (e7 _ _ t21)
        refine r_slTToT (i := 2) t28 rfl (by simp [vI]) fun q9 H9 e9 hq9 h9 => ?_
        walk_at "go"
        refine r_ixL (j := 1) (e9 _ _ (e8 _ _ (e37 _ _ htl))) rfl rfl ?_
        walk_at "go"
        refine r_slTFrom (i := 3) (e9 _ _ t28) rfl (by simp [vI]) (by omega) fun q10 H10 e10 hq10 h10 => ?_
        refine r_catT (e10 _ _ h9) h10 (by simp) (by simp [vI]) (by simp [vI]) fun q11 H11 e11 hq11 h11 => ?_
        have e711 := same_trans e8 (same_trans e9 (same_trans e10 e11))
        refine ⟨D, o, q11, m2, (cs.map fun c : Nat × Int => c.1), x, c2.2.2.2, c2.2.1, c2.2.2.1, rfl, e711 _ _ hD7, e711 _ _ (e07 _ _ ho), h11, e711 _ _ (e7 _ _ t22), gok, by have := ok.n12; omega, by omega, d1, by rw [gl]; exact d2, by omega, d4, d5, d6, d7, fun H12 e12' => ?_⟩
        have e712 := same_trans e711 e12'
        have e612 := same_trans e7 e712
        walk_at "go"
        refine r_ixL (j := 0) (e712 _ _ (e37 _ _ htl)) rfl rfl ?_
        walk_at "go"
        refine r_ixT (j := 1) (e612 _ _ t11) rfl rfl ?_
        walk_at "go"
        refine r_lenL (e612 _ _ t12) ?_
        walk_at "go"
        refine r_ixL (j := 0) (e612 _ _ (e6 _ _ h5)) rfl rfl ?_
        walk_at "go"
        refine r_ixT (j := 1) (e612 _ _ t31) rfl rfl ?_
        walk_at "go"
        refine r_lenL (e612 _ _ t32) ?_
        walk_at "go"
        refine iteNoN rfl ?_
        have lg : c2.1.natAbs.log2 < 1920 := (spoil_i50 i2 ok d2 (by omega)).log
        walk_at "go"
        refine r_ixL (j := 1) (e712 _ _ (e37 _ _ htl)) rfl rfl ?_
        walk_at "go"
        refine r_ixT (j := 2) (e612 _ _ t21) rfl rfl ?_
        walk_at "go"
        refine .inr ⟨some c2.1, rfl, fun i hi => by cases hi; exact lg, ?_⟩
        walk_at "go"
        refine r_ixL (j := 1) (e612 _ _ (e6 _ _ h5)) rfl rfl ?_
        walk_at "go"
        refine r_ixT (j := 2) (e612 _ _ t41) rfl rfl ?_
        walk_at "go"
        refine .inr ⟨some c2.1, rfl, fun i hi => by cases hi; exact lg, ?_⟩
        refine r_neS ?_
        walk_at "go"
        refine iteNoN rfl ?_
        walk_at "go"
        refine r_ixL (j := 1) (e712 _ _ (e37 _ _ htl)) rfl rfl ?_
        walk_at "go"
        refine r_ixT (j := 1) (e612 _ _ t21) rfl rfl ?_
        have hm2 := e612 _ _ t22
        have e012 := same_trans e06 e612
        refine r_li hm2 ?_
        intro D2 hD2
        refine lc_vals (walk_list (xs := vN c2.2.2.2)) hD2 (fun _ => true) (fun j => .int (cs.getD (c2.2.2.2.getD j 0) (0, 0)).2) (by rw [vN_len]; omega) (fun H1 e => sl_of (e _ _ hm2)) (fun i H x H' y => at_same y) (fun j v H13 H14 QY QN hj e y kY kN => ?_) (fun H13 e13 hD13 => ?_)
        · obtain ⟨rfl, y⟩ := y
          obtain ⟨hj, rfl⟩ := vN_of y
          have hb : c2.2.2.2.getD j 0 < cs.length := d2 _ (by rw [List.getD_eq_getElem?_getD, List.getElem?_eq_getElem hj]; exact List.getElem_mem hj)
          obtain ⟨q, y2, z⟩ := gate _ hb
          refine ⟨rfl, ?_⟩
          walk_at "go"
          refine r_ixL (j := c2.2.2.2.getD j 0) (e _ _ (e012 _ _ hrw)) rfl y2 ?_
          walk_at "go"
          refine r_ixT (j := 1) (e _ _ (e612 _ _ z)) rfl rfl ?_
          exact kY rfl _ (same_refl _)
        · rw [List.filter_eq_self.mpr (fun _ _ => rfl), vN_len] at hD13
          have hsum : ((List.range c2.2.2.2.length).map fun j => (cs.getD (c2.2.2.2.getD j 0) (0, 0)).2).sum = c2.1 := by
            rw [range_get fun a => (cs.getD a (0, 0)).2]
            exact spoil_price i2
          walk_at "go"
          refine ⟨D2, (List.range c2.2.2.2.length).map fun j => (cs.getD (c2.2.2.2.getD j 0) (0, 0)).2, rfl, sl_of (by rw [hD13, List.map_map]; rfl), ?_⟩
          walk_at "go"
          refine r_ixL (j := 1) (e13 _ _ (e612 _ _ (e6 _ _ h5))) rfl rfl ?_
          walk_at "go"
          refine r_ixT (j := 2) (e13 _ _ (e612 _ _ t41)) rfl rfl ?_
          rw [hsum]
          refine r_neI ?_
          walk_at "go"
          refine iteNoN rfl ?_
          walk_at "go"
          have e113 := same_trans e612 e13
          have htl13 := e13 _ _ (e712 _ _ (e37 _ _ htl))
          have f1 := e113 _ _ t11
          have f2 := e113 _ _ t21
          have g1 := e113 _ _ t12
          have g2 := e113 _ _ t22
          have z2 : H0 m2 = none := none_below e01 n22
          have nt1 : tl ≠ m1 := fun z => by
            rw [z, g1] at htl13
            have := HO.lst.inj (Option.some.inj htl13)
            cases q : c1.2.2.2 <;> rw [q] at this <;> cases this
          have nt2 : tl ≠ m2 := fun z => by
            rw [z, g2] at htl13
            have := HO.lst.inj (Option.some.inj htl13)
            cases q : c2.2.2.2 <;> rw [q] at this <;> cases this
          refine r_li htl13 ?_
          refine for_it (walk_list (xs := [.ref p1, .ref p2])) (fun t σ H5 => (∃ o6 o7 o8 o9 : Option V, σ = [some (.ref tl), some (.ref sx), some (.ref o), some (.ref rw), some (.ref du), some (.ref D), o6, o7, o8, o9]) ∧ But [m1, m2] H13 H5 ∧ (∃ ys, H5 m1 = some (.lst ys) ∧ ys.length ≤ 100 + t) ∧ ∃ ys, H5 m2 = some (.lst ys) ∧ ys.length ≤ 100 + t) ?_ (fun t σ H5 _ z => ?_) (fun t v σ H5 H6 ht z y => ?_) (fun σ H5 z => ?_)
          · exact ⟨⟨_, _, _, _, rfl⟩, but_refl _ _, ⟨_, g1, by rw [vN_len]; omega⟩, ⟨_, g2, by rw [vN_len]; omega⟩⟩
          · obtain ⟨_, z1, _⟩ := z
            exact sl_of (z1 _ _ htl13 (by simp [nt1, nt2]))
          · obtain ⟨⟨o6, o7, o8, o9, rfl⟩, z1, ⟨ys1, y1, l1⟩, ys2, y2, l2⟩ := z
            obtain ⟨rfl, y⟩ := y
            have ht : t < 2 := ht
            have no : ∀ p xs, H13 p = some (.tup xs) → p ∉ [m1, m2] := fun p xs h z => by
              simp only [List.mem_cons, List.not_mem_nil, or_false] at z
              rcases z with rfl | rfl
              · rw [g1] at h; cases h
              · rw [g2] at h; cases h
            rcases (show t = 0 ∨ t = 1 by omega) with rfl | rfl
            · obtain rfl : v = .ref p1 := (Option.some.inj y).symm
              walk_at "go"
              refine r_ixT (j := 1) (z1 _ _ f1 (no _ _ f1)) rfl rfl ?_
              walk_at "go"
              refine r_tyL y1 ?_
              walk_at "go"
              refine r_app y1 (by omega) ?_
              refine ⟨⟨_, _, _, _, rfl⟩, but_upd z1 (by simp), ⟨_, upd_same, by simp; omega⟩, ?_⟩
              by_cases q : m2 = m1
              · subst q
                exact ⟨_, upd_same, by simp; omega⟩
              · exact ⟨_, (upd_ne q).trans y2, by omega⟩
            · obtain rfl : v = .ref p2 := (Option.some.inj y).symm
              walk_at "go"
              refine r_ixT (j := 1) (z1 _ _ f2 (no _ _ f2)) rfl rfl ?_
              walk_at "go"
              refine r_tyL y2 ?_
              walk_at "go"
              refine r_app y2 (by omega) ?_
              refine ⟨⟨_, _, _, _, rfl⟩, but_upd z1 (by simp), ?_, ⟨_, upd_same, by simp; omega⟩⟩
              by_cases q : m1 = m2
              · subst q
                exact ⟨_, upd_same, by simp; omega⟩
              · exact ⟨_, (upd_ne q).trans y1, by omega⟩
          · obtain ⟨⟨o6, o7, o8, o9, rfl⟩, z1, _⟩ := z
            walk_at "go"
            refine kk _ fun c oo hc => z1 c oo ((same_trans e012 e13) c oo hc) fun z => ?_
            simp only [List.mem_cons, List.not_mem_nil, or_false] at z
            rcases z with rfl | rfl
            · rw [n12] at hc; cases hc
            · rw [z2] at hc; cases hc
end
end BW
namespace BW
open PySem PySem.Spec PyProof.Rows L2
section
variable {P : Program} {w : World} {K : PySem.W.Frag} {mg : Str → Option Value} {base : Heap}

theorem ranksM_perm (ws : List Int) : (BM.ranksM ws).Perm (List.range ws.length) := by
  have hn := BM.ranksM_nodup ws
  refine (List.perm_ext_iff_of_nodup hn List.nodup_range).mpr fun r => ⟨fun h => List.mem_range.mpr (BM.ranksM_lt ws r h), fun h => ?_⟩
  rcases Classical.em (r ∈ BM.ranksM ws) with q | q
  · exact q
  · have := L2.nat_nodup_len (r :: BM.ranksM ws) (List.range ws.length) (List.nodup_cons.mpr ⟨q, hn⟩) fun y hy => by
      rcases List.mem_cons.mp hy with e | e
      · rw [e]; exact h
      · exact List.mem_range.mpr (BM.ranksM_lt ws y e)
    rw [List.length_cons, List.length_range, BM.ranksM_len] at this
    omega
theorem shw_told {ns : BM.Spoil → List Int} {c : BM.Spoil} {m : Nat} (h1 : ∀ a ∈ c.2.2.2, a < m) (h2 : c.2.2.2.length ≤ m) (hm : m ≤ 400) (h3 : ∀ i ∈ ns c, I50 i) (h4 : (ns c).length ≤ 10) : Shw (dT ns (some c)) := by
  have q : Sa (dI (nI c.2.2.2)) (nI c.2.2.2).length 0 := by
    have := Sa.nats (l := c.2.2.2) fun n hn => by
      have := h1 n hn
      omega
    unfold nI
    rw [List.length_map]
    exact this
  have e : (nI c.2.2.2).length = c.2.2.2.length := by unfold nI; rw [List.length_map]
  exact (((Sa.ints h3).list q).str (x := "misses") (n := 10) (by decide +kernel) (by decide +kernel) (by decide +kernel)).shwT (by omega) (by omega)
/-- _law_one_right(bag, book, here) -/
def spOneRight (K : PySem.W.Frag) : Sp := fun vs H Q _ => ∃ (g c b d : Addr) (a : Adr) (L : BM.Ln), vs = [.ref g, .ref b, .ref d] ∧ BagAt H g c ∧ (∀ H', But [g] H H' → BookRd K H' b L ∧ HereAt H' d a L) ∧ LnSmall L ∧ L.ws ≠ [] ∧ L.rs.length ≤ 40 ∧ L.ws.length ≤ 12 ∧
  ∀ H', But [g] H H' → BagAt H' g c → Q (.bl true) H'
theorem sc_law_one_right : FnScope ["_law_bag_here", "_law_book", "_law_here", "_law_order", "_law_way", "_law_schedule", "_law_told", "_law_due"] ["_law_bag_here", "_law_book", "_law_here"] (defScope s_law_one_right) := ⟨rfl, rfl, rfl, by decide +kernel, rfl, by decide +kernel, by decide +kernel⟩
theorem ok_law_one_right (T : Tx K mg) : DefG P w K mg base 11 (He.ga K "_law_one_right") ["_law_bag_here", "_law_book", "_law_here"] (spOneRight K) := by
  have G_law_ranks := ok_law_ranks (P := P) (w := w) (base := base) T
  have G_law_take := ok_law_take (P := P) (w := w) (base := base) T
  have G_Book_order := ok_Book_order (P := P) (w := w) (base := base) T
  have G_Book_missed := ok_Book_missed (P := P) (w := w) (base := base) T
  have G_Book_spoiling := ok_Book_spoiling (P := P) (w := w) (base := base) T
  have G_Book_cheapest := ok_Book_cheapest (P := P) (w := w) (base := base) T
  have G_Schedule_init := ok_Schedule_init (P := P) (w := w) (base := base) T
  have G_spoiling_bearing := ok_spoiling (P := P) (w := w) (base := base) T
  have G_cheapest_prices := ok_cheapest (P := P) (w := w) (base := base) T
  refine mkGx T.f_law_one_right sc_law_one_right (fun _ _ _ _ _ _ us hl => match us, hl with | [_, _, _], _ => rfl) (fun vs H Q E h => ?_) (fun cdv A outer s H vs Q gd hr h => ?_)
  · obtain ⟨g, c, b, d, a, L, rfl, _⟩ := h
    rfl
  · obtain ⟨g, c, b, d, a, L, rfl, hg, st, hs, hw, h40, h12, kk⟩ := h
    refine ⟨_, (pss_cons (ps_par (i := 3) (j := 4) (by rfl) sc_law_one_right.nd rfl rfl (by decide) rfl rfl (pa_cons (pe_cl G_law_ranks (hr.mono (by decide)) T.g_law_ranks pass0 (pa_cons (pe_dget (hu_of hr) (pv 2) pe_str (fun _ _ => rfl)) pa_nil)) (pa_cons (pe_cl G_law_take (hr.mono (by decide)) T.g_law_take pass0 (pa_cons (pv 0) (pa_cons pe_int pa_nil))) pa_nil)) (by rfl))
    (pss_cons (ps_if (pt_cmpR op_eq (pv 4) pe_int (nomark _))
    (pss_one (ps_ret (pe_cmpR op_eq (pe_callB (cr_reprP rfl gd hr) (by rfl) T.n_repr (by decide +kernel) (pa_cons (pe_mt0 (pv 1) T.c_Book T.m_Book_order G_Book_order (hr.mono (by decide)) passN0) pa_nil)) (pe_callB (cr_reprP rfl gd hr) (by rfl) T.n_repr (by decide +kernel) (pa_cons (pv 3) pa_nil)) (nomark _)))) pss_nil)
    (pss_cons (ps_if (pt_cmpR op_eq (pv 4) pe_int (nomark _))
    (pss_one (ps_ret (pe_cmpR op_eq (pe_callB (cr_reprP rfl gd hr) (by rfl) T.n_repr (by decide +kernel) (pa_cons (pe_mt0 (pv 1) T.c_Book T.m_Book_missed G_Book_missed (hr.mono (by decide)) pass0) pa_nil)) (pe_callB (cr_reprP rfl gd hr) (by rfl) T.n_repr (by decide +kernel) (pa_cons (pe_dget (hu_of hr) (pv 2) pe_str (fun _ _ => rfl)) pa_nil)) (nomark _)))) pss_nil)
    (pss_cons (ps_set (i := 5) sc_law_one_right.nd rfl (Or.inl rfl) (pe_mk T.k_Schedule G_Schedule_init (hr.mono (by decide)) T.g_Schedule pass0 (pa_cons (pe_callB (call_lenK rfl) (by rfl) T.n_len PySem.boot_len (pa_cons (pv 3) pa_nil)) (pa_cons (pe_callTy (call_listK rfl) (by rfl) T.n_list (by decide +kernel) (pa_cons (pe_dget (hu_of hr) (pv 2) pe_str (fun _ _ => rfl)) pa_nil)) pa_nil))))
    (pss_cons (ps_if (pt_cmpR op_eq (pv 4) pe_int (nomark _))
    (pss_cons (ps_par (i := 6) (j := 7) (by rfl) sc_law_one_right.nd rfl rfl (by decide) rfl rfl (pa_cons (pe_mt0 (pv 1) T.c_Book T.m_Book_spoiling G_Book_spoiling (hr.mono (by decide)) passN0) (pa_cons (pe_cl G_spoiling_bearing (hr.mono (by decide)) T.g_spoiling_bearing pass0 (pa_cons (pv 5) (pa_cons (pv 3) pa_nil))) pa_nil)) (by rfl))
    (pss_one (ps_ret (pe_ifExp (pt_cmpR (op_eqDK rfl hr.units) (pv 7) (pe_tup (pa_cons pe_str pa_nil)) (nomark _)) (pe_cmpR (op_eqDK rfl hr.units) (pv 6) (pv 7) (nomark _)) (pe_and (pe_cmpR op_eq (pe_callB (call_lenK rfl) (by rfl) T.n_len PySem.boot_len (pa_cons (pv 6) pa_nil)) pe_int (nomark _)) (pe_one (pe_cmpR op_eq (pe_callB (call_lenK rfl) (by rfl) T.n_len PySem.boot_len (pa_cons (pe_ix (ix_tupK rfl) (pv 6) pe_int (fun _ _ => rfl)) pa_nil)) (pe_callB (call_lenK rfl) (by rfl) T.n_len PySem.boot_len (pa_cons (pe_ix (ix_tupK rfl) (pv 7) pe_int (fun _ _ => rfl)) pa_nil)) (nomark _)))))))) pss_nil)
    (pss_cons (ps_par (i := 6) (j := 7) (by rfl) sc_law_one_right.nd rfl rfl (by decide) rfl rfl (pa_cons (pe_mt0 (pv 1) T.c_Book T.m_Book_cheapest G_Book_cheapest (hr.mono (by decide)) passN0) (pa_cons (pe_cl G_cheapest_prices (hr.mono (by decide)) T.g_cheapest_prices pass0 (pa_cons (pv 5) (pa_cons (pv 3) pa_nil))) pa_nil)) (by rfl))
    (pss_one (ps_ret (pe_ifExp (pt_cmpR (op_eqDK rfl hr.units) (pv 7) (pe_tup (pa_cons pe_str pa_nil)) (nomark _)) (pe_cmpR (op_eqDK rfl hr.units) (pv 6) (pv 7) (nomark _)) (pe_and (pe_cmpR op_eq (pe_callB (call_lenK rfl) (by rfl) T.n_len PySem.boot_len (pa_cons (pv 6) pa_nil)) pe_int (nomark _)) (pe_one (pe_cmpR op_eq (pe_callB (cr_reprP rfl gd hr) (by rfl) T.n_repr (by decide +kernel) (pa_cons (pe_ix (ix_tupK rfl) (pv 6) pe_int (fun _ _ => rfl)) pa_nil)) (pe_callB (cr_reprP rfl gd hr) (by rfl) T.n_repr (by decide +kernel) (pa_cons (pe_ix (ix_tupK rfl) (pv 7) pe_int (fun _ _ => rfl)) pa_nil)) (nomark _))))))))))))), ?_⟩
    obtain ⟨rd0, hh0⟩ := st H (but_refl _ _)
    walk_at "go"
    refine r_dg hh0.d rfl ?_
    walk_at "go"
    refine ⟨a.a1, L.ws, rfl, hh0.f.h1, h12, fun p H1 e1 hp h1 => ?_⟩
    walk_at "go"
    have hg1 : BagAt H1 g c := by
      obtain ⟨z, s, i, cells, q1, q2, q3⟩ := hg
      exact ⟨z, s, i, cells, e1 _ _ q1, e1 _ _ q2, q3⟩
    have npg : p ≠ g := fun e => by
      obtain ⟨z, s, i, cells, q1, q2, q3⟩ := hg
      rw [e, q1] at hp
      cases hp
    refine ⟨g, c, 4, rfl, hg1, by omega, by decide, fun v H2 b2 hg2 v0 v4 => ?_⟩
    have h2 := b2 _ _ h1 (by simp [npg])
    have bt : But [g] H H2 := fun c o q n => b2 c o (e1 c o q) n
    obtain ⟨rd, hh⟩ := st H2 bt
    have go : BkGo K H2 b L E0 := ⟨rd, hs, fun z => absurd z hw⟩
    have fin : ∀ H', Same H2 H' → Q (.bl true) H' := fun H' e => kk H' (fun c o q n => e c o (bt c o q n)) (by
      obtain ⟨z, s, i, cells, q1, q2, q3⟩ := hg2
      exact ⟨z, s, i, cells, e _ _ q1, e _ _ q2, q3⟩)
    walk_at "go"
    have rd' := rd
    obtain ⟨dx, dl, ll, xx, ad, hi, ln⟩ := rd'
    have shR : Shw (.list (dI (nI (BM.ranksM L.ws)))) := by
      refine (Sa.nats fun n hn => ?_).shwL (b := (BM.ranksM L.ws).length) (k := 0) (by rw [BM.ranksM_len]; omega) (by omega)
      have := BM.ranksM_lt L.ws n hn
      omega
    refine iteD (fun w0 => ?_) (fun w0 => ?_)
    · walk_at "go"
      refine r_meth hi rfl ?_
      walk_at "go"
      refine ⟨b, L, rfl, go, fun _ p3 H3 e3 hp3 h3 => ?_⟩
      walk_at "go"
      rw [vN_nI] at h3 h2
      refine r_repr (dp_L h3) shR ?_
      walk_at "go"
      refine r_repr (dp_L (e3 _ _ h2)) shR ?_
      refine r_eqS ?_
      rw [decide_eq_true rfl]
      exact fin _ e3
    · walk_at "go"
      have shM : Shw (.list (dI (nI L.lo))) := by
        refine (Sa.nats fun n hn => ?_).shwL (b := L.lo.length) (k := 0) (by have := hs.lo; omega) (by omega)
        have := hs.ok.lob n hn
        have := hs.rs
        omega
      refine iteD (fun w1 => ?_) (fun w1 => ?_)
      · walk_at "go"
        refine r_meth hi rfl ?_
        walk_at "go"
        refine ⟨b, L, rfl, rd, fun p3 H3 e3 hp3 h3 => ?_⟩
        walk_at "go"
        rw [vN_nI] at h3
        refine r_repr (dp_L h3) shM ?_
        walk_at "go"
        refine r_dg (e3 _ _ hh.d) rfl ?_
        walk_at "go"
        have h5 := e3 _ _ hh.f.h5
        rw [vN_nI] at h5
        refine r_repr (dp_L h5) shM ?_
        refine r_eqS ?_
        rw [decide_eq_true rfl]
        exact fin _ e3
      · walk_at "go"
        refine r_lenL h2 ?_
        walk_at "go"
        refine r_dg hh.d rfl ?_
        walk_at "go"
        obtain ⟨us, hu1, hu2⟩ := hh.f.h4
        refine r_listL hu1 ?_
        intro p3 hp3
        walk_at "go"
        have e3 : Same H2 (upd H2 p3 (HO.lst us)) := same_new hp3
        have ln : ((vN (BM.ranksM L.ws)).length : Int) = (L.ws.length : Int) := by rw [vN_len, BM.ranksM_len]
        rw [ln]
        refine r_mkSch (n := L.ws.length) (cs := L.rs) upd_same (hu2.mono e3) (csOk hs hw) fun s4 H4 e4 hs4 h4 => ?_
        walk_at "go"
        have e24 := same_trans e3 e4
        have rl := BM.ranksM_len L.ws
        have hi4 := e24 _ _ hi
        have ok4 : CsOk (BM.ranksM L.ws).length L.rs := by rw [rl]; exact csOk hs hw
        have h44 : SchAt K H4 s4 (BM.ranksM L.ws).length L.rs := by rw [rl]; exact h4
        refine iteD (fun w2 => ?_) (fun w2 => ?_)
        · walk_at "go"
          refine r_meth hi4 rfl ?_
          walk_at "go"
          refine ⟨b, L, rfl, go.same e24, fun _ v1 H5 e5 t1 => ?_⟩
          walk_at "go"
          refine ⟨s4, p, L.rs, BM.ranksM L.ws, rfl, h44.mono e5, ok4, e5 _ _ (e24 _ _ h2), fun v2 H6 e6 t2 => ?_⟩
          rw [rl] at t2
          walk_at "go"
          refine r_new (by simp) fun q7 H7 e7 hq7 h7 => ?_
          have e47 := same_trans e5 (same_trans e6 e7)
          have t1 := t1.mono (same_trans e6 e7)
          have t2 := t2.mono e7
          generalize hb1 : BM.leastSpoil L.ws.length (BM.unit L.rs) (BM.dem (BM.ranksM L.ws)) = b1 at *
          have dq : Dp K H7 (.ref q7) (dT nsS none) := .tup (st_of h7) (.cons (.str _) .nil)
          have sh1 : Shw (dT nsS none) := (Sa.nil.str (x := "never") (n := 10) (by decide +kernel) (by decide +kernel) (by decide +kernel)).shwT (by omega) (by omega)
          cases b1 with
          | none =>
            refine r_eqD (dp_T t2) dq sh1.sh sh1.sh (c := true) (by decide +kernel) ?_
            walk_at "go"
            refine r_eqD (dp_T t1) (dp_T t2) sh1.sh sh1.sh (c := true) (by decide +kernel) ?_
            exact fin _ (same_trans e24 e47)
          | some c1 =>
            have ok0 := csOk hs hw
            have G1 : BM.Gates L.ws.length (BM.unit L.rs) := ⟨fun c hc => by
              have := ok0.unit c hc
              omega⟩
            obtain ⟨a1, a2, a3, a4, a5, a6, a7⟩ := BM.spoil_all G1 rl (ranksM_perm _) (BM.leastSpoil_is ok0.n1 hb1)
            rw [unit_len] at a2 a3
            have shc : Shw (dT nsS (some c1)) := shw_told a2 a3 (by omega) (fun i hi => by
              simp only [List.mem_cons, List.not_mem_nil, or_false] at hi
              rcases hi with rfl | rfl
              · exact i50_nat (by omega)
              · exact i50_nat (by omega)) (by simp)
            refine r_eqD (dp_T t2) dq shc.sh sh1.sh (c := false) (by simp [dT, PyData.eqv, PyData.eqvAll]) ?_
            obtain ⟨p1, m1, rfl, _, _, t11, t12⟩ := t1
            obtain ⟨p2, m2, rfl, _, _, t21, t22⟩ := t2
            walk_at "go"
            refine r_lenT t11 ?_
            walk_at "go"
            refine iteYes rfl ?_
            walk_at "go"
            refine r_ixT (j := 1) t11 rfl rfl ?_
            walk_at "go"
            refine r_lenL t12 ?_
            walk_at "go"
            refine r_ixT (j := 1) t21 rfl rfl ?_
            walk_at "go"
            refine r_lenL t22 ?_
            refine r_eqI ?_
            rw [decide_eq_true rfl]
            exact fin _ (same_trans e24 e47)
        · walk_at "go"
          refine r_meth hi4 rfl ?_
          walk_at "go"
          refine ⟨b, L, rfl, go.same e24, fun _ v1 H5 e5 t1 => ?_⟩
          walk_at "go"
          refine ⟨s4, p, L.rs, BM.ranksM L.ws, rfl, h44.mono e5, ok4, e5 _ _ (e24 _ _ h2), fun v2 H6 e6 t2 => ?_⟩
          rw [rl] at t2
          walk_at "go"
          refine r_new (by simp) fun q7 H7 e7 hq7 h7 => ?_
          have e47 := same_trans e5 (same_trans e6 e7)
          have t1 := t1.mono (same_trans e6 e7)
          have t2 := t2.mono e7
          generalize hb1 : BM.leastSpoil L.ws.length L.rs (BM.dem (BM.ranksM L.ws)) = b1 at *
          have dq : Dp K H7 (.ref q7) (dT nsS none) := .tup (st_of h7) (.cons (.str _) .nil)
          have sh1 : Shw (dT nsS none) := (Sa.nil.str (x := "never") (n := 10) (by decide +kernel) (by decide +kernel) (by decide +kernel)).shwT (by omega) (by omega)
          cases b1 with
          | none =>
            refine r_eqD (dp_T t2) dq sh1.sh sh1.sh (c := true) (by decide +kernel) ?_
            walk_at "go"
            refine r_eqD (dp_T t1) (dp_T t2) sh1.sh sh1.sh (c := true) (by decide +kernel) ?_
            exact fin _ (same_trans e24 e47)
          | some c1 =>
            have ok0 := csOk hs hw
            have G1 : BM.Gates L.ws.length L.rs := ⟨fun c hc => by
              have := ok0.g c hc
              omega⟩
            obtain ⟨a1, a2, a3, a4, a5, a6, a7⟩ := BM.spoil_all G1 rl (ranksM_perm _) (BM.leastSpoil_is ok0.n1 hb1)
            have shc : Shw (dT nsC (some c1)) := shw_told a2 a3 (by omega) (fun i hi => by
              simp only [List.mem_cons, List.not_mem_nil, or_false] at hi
              rcases hi with rfl | rfl | rfl
              · exact spoil_i50 (BM.leastSpoil_is ok0.n1 hb1) ok0 a2 (by omega)
              · exact i50_nat (by omega)
              · exact i50_nat (by omega)) (by simp)
            refine r_eqD (dp_T t2) dq shc.sh sh1.sh (c := false) (by simp [dT, PyData.eqv, PyData.eqvAll]) ?_
            obtain ⟨p1, m1, rfl, _, _, t11, t12⟩ := t1
            obtain ⟨p2, m2, rfl, _, _, t21, t22⟩ := t2
            walk_at "go"
            refine r_lenT t11 ?_
            walk_at "go"
            refine iteYes rfl ?_
            walk_at "go"
            have lg := (spoil_i50 (BM.leastSpoil_is ok0.n1 hb1) ok0 a2 (by omega)).log
            refine r_ixT (j := 2) t11 rfl rfl ?_
            walk_at "go"
            refine .inr ⟨some c1.1, rfl, fun i hi => by cases hi; exact lg, ?_⟩
            walk_at "go"
            refine r_ixT (j := 2) t21 rfl rfl ?_
            walk_at "go"
            refine .inr ⟨some c1.1, rfl, fun i hi => by cases hi; exact lg, ?_⟩
            refine r_eqS ?_
            rw [decide_eq_true rfl]
            exact fin _ (same_trans e24 e47)
end
end BW
namespace BW
open PySem PySem.Spec PyProof.Rows L2
section
variable {P : Program} {w : World} {K : PySem.W.Frag} {mg : Str → Option Value} {base : Heap}

theorem Told.upd {ns : BM.Spoil → List Int} {H H' : Hp} {v : V} {b : Option BM.Spoil} {p : Addr} {o u : HO} (h : Told ns H H' v b) (hp : H p = some u) : Told ns (upd H p o) (upd H' p o) v b := by
  cases b with
  | none =>
    obtain ⟨q, h1, h2, h3⟩ := h
    have n : q ≠ p := fun e => by rw [e, hp] at h2; cases h2
    exact ⟨q, h1, (upd_ne n).trans h2, (upd_ne n).trans h3⟩
  | some b =>
    obtain ⟨q, l, h1, h2, h3, h4, h5⟩ := h
    have n : q ≠ p := fun e => by rw [e, hp] at h2; cases h2
    have m : l ≠ p := fun e => by rw [e, hp] at h3; cases h3
    exact ⟨q, l, h1, (upd_ne n).trans h2, (upd_ne m).trans h3, (upd_ne n).trans h4, (upd_ne m).trans h5⟩
theorem same_upd2 {H H' : Hp} {p : Addr} {o : HO} (e : Same H H') : Same (upd H p o) (upd H' p o) := fun c z q => by
  by_cases h : c = p
  · subst h
    rw [upd_same] at q ⊢
    exact q
  · rw [upd_ne h] at q ⊢
    exact e c z q
theorem r_reprSch {H : Hp} {Q : VK} {x : Addr} {n : Nat} {cs : List (Nat × Int)} (h : SchAt K H x n cs) (ok : CsOk n cs) (k : Q (.str (schTxt n cs)) H) : rReprO (He.ga K "Schedule") (spSchRepr K) [.ref x] H Q := by
  obtain ⟨dx, l, us, h1, h2, h3⟩ := h
  exact ⟨x, dx, _, rfl, h1, x, n, cs, rfl, ⟨dx, l, us, h1, h2, h3⟩, ok, _, rfl, k⟩
theorem borne_i50 {n : Nat} {cs : List (Nat × Int)} {x : List Nat} (ok : CsOk n cs) (hl : x.length = n) (hp : x.Perm (List.range n)) : ∀ i, borneM n cs x = some i → I50 i := by
  intro i h
  have uo : CsOk n (BM.unit cs) := ⟨ok.unit, fun c hc => by
    obtain ⟨d, hd, rfl⟩ := List.mem_map.mp hc
    show (0 : Int) ≤ 1 ∧ (1 : Int) ≤ 10 ^ 18
    omega, by rw [unit_len]; exact ok.l, ok.n1, ok.n12⟩
  unfold borneM at h
  cases hb : BM.leastSpoil n (BM.unit cs) (BM.dem x) with
  | none =>
    rw [hb] at h
    obtain rfl : (cs.length : Int) = i := Option.some.inj h
    exact i50_nat (by have := ok.l; omega)
  | some b =>
    rw [hb] at h
    have i1 := BM.leastSpoil_is ok.n1 hb
    have G1 : BM.Gates n (BM.unit cs) := ⟨fun c hc => by
      have := ok.unit c hc
      omega⟩
    obtain ⟨a1, a2, a3, _⟩ := BM.spoil_all G1 hl hp i1
    have q := spoil_i50 i1 uo a2 (by rw [unit_len] at a3; have := ok.l; omega)
    by_cases p : 0 < b.1
    · have e : borneV cs (some b) = some (b.1 - 1) := if_pos p
      rw [e] at h
      obtain rfl : b.1 - 1 = i := Option.some.inj h
      unfold I50 at q ⊢
      omega
    · have e : borneV cs (some b) = none := if_neg p
      rw [e] at h
      cases h
theorem told_few {n : Nat} {cs : List (Nat × Int)} {x : List Nat} (ok : CsOk n cs) (hl : x.length = n) (hp : x.Perm (List.range n)) : ∀ c, BM.leastSpoil n cs (BM.dem x) = some c → (∀ a ∈ c.2.2.2, a ≤ 100000) ∧ c.2.2.2.length ≤ 400 ∧ I50 c.1 ∧ I50 (c.2.1 : Int) ∧ I50 (c.2.2.1 : Int) := by
  intro c h
  have i1 := BM.leastSpoil_is ok.n1 h
  have G1 : BM.Gates n cs := ⟨fun c hc => by
    have := ok.g c hc
    omega⟩
  obtain ⟨a1, a2, a3, a4, a5, _⟩ := BM.spoil_all G1 hl hp i1
  have h1 := ok.l
  have h2 := ok.n12
  exact ⟨fun a ha => by have := a2 a ha; omega, by omega, spoil_i50 i1 ok a2 (by omega), i50_nat (by omega), i50_nat (by omega)⟩
theorem unitOk {n : Nat} {cs : List (Nat × Int)} (ok : CsOk n cs) : CsOk n (BM.unit cs) := ⟨ok.unit, fun c hc => by
    obtain ⟨d, hd, rfl⟩ := List.mem_map.mp hc
    show (0 : Int) ≤ 1 ∧ (1 : Int) ≤ 10 ^ 18
    omega, by rw [unit_len]; exact ok.l, ok.n1, ok.n12⟩
/-- the text of what is told -/
def toldD (n : Nat) (cs : List (Nat × Int)) (x : List Nat) : PyData := .list [dT nsS (BM.leastSpoil n (BM.unit cs) (BM.dem x)), dT nsC (BM.leastSpoil n cs (BM.dem x))]
theorem shw_toldD {n : Nat} {cs : List (Nat × Int)} {x : List Nat} (ok : CsOk n cs) (hl : x.length = n) (hp : x.Perm (List.range n)) : Shw (toldD n cs x) := by
  refine (sa_T (sa_T Sa.nil (fun c h => ?_) (fun c => by simp)) (fun c h => ?_) (fun c => by simp)).shwL (by omega) (by omega)
  · obtain ⟨h1, h2, h3, h4, h5⟩ := told_few ok hl hp c h
    exact ⟨h1, h2, fun i hi => by
      simp only [List.mem_cons, List.not_mem_nil, or_false] at hi
      rcases hi with rfl | rfl | rfl
      · exact h3
      · exact h4
      · exact h5⟩
  · obtain ⟨h1, h2, h3, h4, h5⟩ := told_few (unitOk ok) hl hp c h
    exact ⟨h1, h2, fun i hi => by
      simp only [List.mem_cons, List.not_mem_nil, or_false] at hi
      rcases hi with rfl | rfl
      · exact h4
      · exact h5⟩
/-- _law_right(book, here) -/
def spRight (K : PySem.W.Frag) : Sp := fun vs H Q _ => ∃ (b d : Addr) (a : Adr) (L : BM.Ln), vs = [.ref b, .ref d] ∧ BookRd K H b L ∧ HereAt H d a L ∧ LnSmall L ∧ L.ws ≠ [] ∧ L.rs.length ≤ 40 ∧ BM.play (L.rs.map (·.1)) (BM.ranksM L.ws) L.lo = (L.gn ++ L.st).map (BM.rankOf L.ws) ∧
  ∀ H', Same H H' → Q (.bl true) H'
theorem sc_law_right : FnScope ["_law_book", "_law_here", "_law_order", "_law_places", "_law_schedule", "_law_gates", "_law_gate", "_law_cost", "_law_last", "_law_item", "_law_texts", "_law_again", "_law_told"] ["_law_book", "_law_here"] (defScope s_law_right) := ⟨rfl, rfl, rfl, by decide +kernel, rfl, by decide +kernel, by decide +kernel⟩
theorem ok_law_right (T : Tx K mg) : DefG P w K mg base 11 (He.ga K "_law_right") ["_law_book", "_law_here"] (spRight K) := by
  have G_law_ranks := ok_law_ranks (P := P) (w := w) (base := base) T
  have G_law_play := ok_law_play (P := P) (w := w) (base := base) T
  have G_Book_schedule := ok_Book_schedule (P := P) (w := w) (base := base) T
  have G_Book_order := ok_Book_order (P := P) (w := w) (base := base) T
  have G_Book_missed := ok_Book_missed (P := P) (w := w) (base := base) T
  have G_Book_borne := ok_Book_borne (P := P) (w := w) (base := base) T
  have G_Book_spoiling := ok_Book_spoiling (P := P) (w := w) (base := base) T
  have G_Book_cheapest := ok_Book_cheapest (P := P) (w := w) (base := base) T
  have G_Schedule_init := ok_Schedule_init (P := P) (w := w) (base := base) T
  have G_Schedule_repr := ok_Schedule_repr (P := P) (w := w) (base := base) T
  have G_borne_bearing := ok_borne (P := P) (w := w) (base := base) T
  have G_law_answers_right := ok_law_answers_right (P := P) (w := w) (base := base) T
  refine mkGx T.f_law_right sc_law_right (fun _ _ _ _ _ _ us hl => match us, hl with | [_, _], _ => rfl) (fun vs H Q E h => ?_) (fun cdv A outer s H vs Q gd hr h => ?_)
  · obtain ⟨b, d, a, L, rfl, _⟩ := h
    rfl
  · obtain ⟨b, d, a, L, rfl, rd, hh, hs, hw, h40, hpl, kk⟩ := h
    refine ⟨_, (pss_cons (ps_asg (pe_tup (pa_cons (pe_cl G_law_ranks (hr.mono (by decide)) T.g_law_ranks pass0 (pa_cons (pe_dget (hu_of hr) (pv 1) pe_str (fun _ _ => rfl)) pa_nil)) (pa_cons (pe_callB (call_lenK rfl) (by rfl) T.n_len PySem.boot_len (pa_cons (pe_dget (hu_of hr) (pv 1) pe_str (fun _ _ => rfl)) pa_nil)) pa_nil))) (pg_tupK (n := 2) rfl rfl (pgs_cons (pg_name (i := 2) sc_law_right.nd rfl (Or.inr rfl)) (pgs_cons (pg_name (i := 3) sc_law_right.nd rfl (Or.inl rfl)) pgs_nil))))
    (pss_cons (ps_par (i := 4) (j := 5) (by rfl) sc_law_right.nd rfl rfl (by decide) rfl rfl (pa_cons (pe_mt0 (pv 0) T.c_Book T.m_Book_schedule G_Book_schedule (hr.mono (by decide)) passN0) (pa_cons (pe_lc (own := [("_law_gate", 6), ("_law_cost", 7)]) (by rfl) sc_law_right.nd (pi_listK rfl (pe_dget (hu_of hr) (pv 1) pe_str (fun _ _ => rfl))) (blkOk_by (by kernel_rfl)) (fun _ _ _ _ _ => (pg_tupK (n := 2) rfl rfl (pgs_cons (pg_name (i := 6) sc_law_right.nd rfl (Or.inl rfl)) (pgs_cons (pg_name (i := 7) sc_law_right.nd rfl (Or.inl rfl)) pgs_nil)))) (fun _ _ _ _ _ => pts_nil) (fun _ _ _ _ _ => (pv 6))) pa_nil)) (by rfl))
    (pss_cons (ps_if (PW.pt (pw_or (pt_not (pt_val (pe_callB (call_isiK rfl) (by rfl) T.n_isinstance (by decide +kernel) (pa_cons (pv 4) (pa_cons (pe_glob (by rfl) T.g_Schedule rfl (v := .ref (He.ga K "Schedule"))) pa_nil))))) (pw_or1 (pt_cmpR op_ne (pe_callB (cr_reprO G_Schedule_repr T.m_Schedule_repr gd (hr.mono (by decide))) (by rfl) T.n_repr (by decide +kernel) (pa_cons (pv 4) pa_nil)) (pe_callB (cr_reprO G_Schedule_repr T.m_Schedule_repr gd (hr.mono (by decide))) (by rfl) T.n_repr (by decide +kernel) (pa_cons (pe_mk T.k_Schedule G_Schedule_init (hr.mono (by decide)) T.g_Schedule pass0 (pa_cons (pv 3) (pa_cons (pe_callTy (call_listK rfl) (by rfl) T.n_list (by decide +kernel) (pa_cons (pe_dget (hu_of hr) (pv 1) pe_str (fun _ _ => rfl)) pa_nil)) pa_nil))) pa_nil)) (nomark _)))))
    (pss_one (ps_ret pe_bl)) pss_nil)
    (pss_cons (ps_if (pt_cmpR op_ne (pe_callB (cr_reprP rfl gd hr) (by rfl) T.n_repr (by decide +kernel) (pa_cons (pe_lst (pa_cons (pe_mt0 (pv 0) T.c_Book T.m_Book_order G_Book_order (hr.mono (by decide)) passN0) (pa_cons (pe_mt0 (pv 0) T.c_Book T.m_Book_missed G_Book_missed (hr.mono (by decide)) pass0) pa_nil))) pa_nil)) (pe_callB (cr_reprP rfl gd hr) (by rfl) T.n_repr (by decide +kernel) (pa_cons (pe_lst (pa_cons (pv 2) (pa_cons (pe_dget (hu_of hr) (pv 1) pe_str (fun _ _ => rfl)) pa_nil))) pa_nil)) (nomark _))
    (pss_one (ps_ret pe_bl)) pss_nil)
    (pss_cons (ps_setLc (i := 8) (own := [("_law_item", 9)]) (by rfl) sc_law_right.nd rfl rfl (sw_true rfl rfl rfl (by decide +kernel)) (pi_listK rfl (pe_op op_cat (pe_dget (hu_of hr) (pv 1) pe_str (fun _ _ => rfl)) (pe_dget (hu_of hr) (pv 1) pe_str (fun _ _ => rfl)))) (blkOk_by (by kernel_rfl)) (fun _ _ _ _ _ => (pg_name (i := 9) sc_law_right.nd rfl (Or.inl rfl))) (fun _ _ _ _ _ => pts_nil) (fun _ _ _ _ _ => (pe_ix (ix_listK rfl) (pv 2) (pv 9) (fun _ _ => rfl))))
    (pss_cons (ps_if (pt_cmpR (op_neDK rfl hr.units) (pe_cl G_law_play (hr.mono (by decide)) T.g_law_play pass0 (pa_cons (pv 5) (pa_cons (pv 2) (pa_cons (pe_dget (hu_of hr) (pv 1) pe_str (fun _ _ => rfl)) pa_nil)))) (pv 8) (nomark _))
    (pss_one (ps_ret pe_bl)) pss_nil)
    (pss_cons (ps_if (pt_cmpR op_ne (pe_callB (cr_reprP rfl gd hr) (by rfl) T.n_repr (by decide +kernel) (pa_cons (pe_mt0 (pv 0) T.c_Book T.m_Book_borne G_Book_borne (hr.mono (by decide)) passN0) pa_nil)) (pe_callB (cr_reprP rfl gd hr) (by rfl) T.n_repr (by decide +kernel) (pa_cons (pe_cl G_borne_bearing (hr.mono (by decide)) T.g_borne_bearing pass0 (pa_cons (pv 4) (pa_cons (pv 2) pa_nil))) pa_nil)) (nomark _))
    (pss_one (ps_ret pe_bl)) pss_nil)
    (pss_cons (ps_expr (pe_bmK rfl PySem.F.plainAttrs_list PySem.F.slot_list_append PySem.F.type_list_append mt_append (pe_mt0 (pv 0) T.c_Book T.m_Book_order G_Book_order (hr.mono (by decide)) passN0) (pa_cons pe_int pa_nil)))
    (pss_cons (ps_set (i := 10) sc_law_right.nd rfl (Or.inl rfl) (pe_lst pa_nil))
    (pss_cons (ps_for PassesOwn.never rfl (pi_range1 (by rfl) T.n_range (pa_cons pe_int pa_nil)) (pg_name (i := 11) sc_law_right.nd rfl (Or.inl rfl))
    (pss_cons (ps_set (i := 12) sc_law_right.nd rfl (Or.inl rfl) (pe_lst (pa_cons (pe_mt0 (pv 0) T.c_Book T.m_Book_spoiling G_Book_spoiling (hr.mono (by decide)) passN0) (pa_cons (pe_mt0 (pv 0) T.c_Book T.m_Book_cheapest G_Book_cheapest (hr.mono (by decide)) passN0) pa_nil))))
    (pss_cons (ps_expr (pe_bmK rfl PySem.F.plainAttrs_list PySem.F.slot_list_append PySem.F.type_list_append mt_append (pv 10) (pa_cons (pe_callB (cr_reprP rfl gd hr) (by rfl) T.n_repr (by decide +kernel) (pa_cons (pv 12) pa_nil)) pa_nil)))
    (pss_one (ps_if (PW.pt (pw_or (pt_not (pt_val (pe_clG G_law_answers_right (hr.mono (by decide)) gd T.g_law_answers_right (pa_cons (pv 12) (pa_cons (pv 4) (pa_cons (pv 2) (pa_cons (pe_dget (hu_of hr) (pv 1) pe_str (fun _ _ => rfl)) pa_nil))))))) (pw_or1 (pt_cmpR op_ne (pe_callB (cr_reprP rfl gd hr) (by rfl) T.n_repr (by decide +kernel) (pa_cons (pe_mt0 (pv 0) T.c_Book T.m_Book_order G_Book_order (hr.mono (by decide)) passN0) pa_nil)) (pe_callB (cr_reprP rfl gd hr) (by rfl) T.n_repr (by decide +kernel) (pa_cons (pv 2) pa_nil)) (nomark _)))))
    (pss_one (ps_ret pe_bl)) pss_nil)))))
    (pss_one (ps_ret (pe_cmpR op_eq (pe_ix (ix_listK rfl) (pv 10) pe_int (fun _ _ => rfl)) (pe_ix (ix_listK rfl) (pv 10) pe_int (fun _ _ => rfl)) (nomark _)))))))))))))), ?_⟩
    have h12 := hs.ok.n12
    have go : BkGo K H b L E0 := ⟨rd, hs, fun z => absurd z hw⟩
    have rd' := rd
    obtain ⟨dx, dl, ll, xx, ad, hi, ln⟩ := rd'
    have rl := BM.ranksM_len L.ws
    walk_at "go"
    refine r_dg hh.d rfl ?_
    walk_at "go"
    refine ⟨a.a1, L.ws, rfl, hh.f.h1, h12, fun o H1 e1 ho h1 => ?_⟩
    walk_at "go"
    refine r_dg (e1 _ _ hh.d) rfl ?_
    walk_at "go"
    refine r_lenL (e1 _ _ hh.f.h1) ?_
    rw [vI_len]
    walk_at "go"
    refine r_new (by simp) fun t2 H2 e2 ht2 h2 => ?_
    refine r_gtup h2 rfl ?_
    walk_at "go"
    have e02 := same_trans e1 e2
    refine r_meth (e02 _ _ hi) rfl ?_
    walk_at "go"
    refine ⟨b, L, rfl, go.same e02, fun _ sx H3 e3 hsx => ?_⟩
    walk_at "go"
    have e03 := same_trans e02 e3
    refine r_dg (e03 _ _ hh.d) rfl ?_
    obtain ⟨us, hu1, hu2⟩ := hh.f.h4
    have hul : us.length = L.rs.length := pair_len hu2
    walk_at "go"
    have gate : ∀ j (h : j < L.rs.length), ∃ q, us[j]? = some (.ref q) ∧ H q = some (.tup [.int ((L.rs.getD j (0, 0)).1 : Int), .int (L.rs.getD j (0, 0)).2]) := fun j h => by
      obtain ⟨u, hu, q, rfl, z⟩ := pair_atR hu2 (List.getElem?_eq_getElem h)
      refine ⟨q, hu, ?_⟩
      rw [List.getD_eq_getElem?_getD, List.getElem?_eq_getElem h]
      exact z
    refine r_li (e03 _ _ hu1) ?_
    intro D hD
    refine lc_vals (walk_list (xs := us)) hD (fun _ => true) (fun j => .int ((L.rs.getD j (0, 0)).1 : Int)) (by omega) (fun H1 e => sl_of (e _ _ (e03 _ _ hu1))) (fun i H x H' y => at_same y) (fun j v H7 H8 QY QN hj e y kY kN => ?_) (fun H4 e4 hD4 => ?_)
    · obtain ⟨rfl, y⟩ := y
      obtain ⟨q, y2, z⟩ := gate j (by omega)
      obtain rfl : v = .ref q := by rw [y2] at y; exact (Option.some.inj y).symm
      refine r_gtup (e _ _ (e03 _ _ z)) rfl ?_
      walk_at "go"
      refine ⟨rfl, ?_⟩
      walk_at "go"
      exact kY rfl _ (same_refl _)
    have hg4 : H4 D = some (.lst (vN (L.rs.map (·.1)))) := by
      rw [hD4, List.filter_eq_self.mpr (fun _ _ => rfl), hul]
      unfold vN
      rw [List.map_map]
      congr 2
      apply List.ext_getElem?
      intro i
      by_cases h : i < L.rs.length
      · rw [range_map_at _ h, List.getElem?_map, List.getElem?_eq_getElem h, BM.getD_lt _ h]
        rfl
      · rw [List.getElem?_eq_none (by simpa using h), List.getElem?_eq_none (by simpa using h)]
    have e04 := same_trans e03 e4
    have sx4 := hsx.at_.mono e4
    have ok := csOk hs hw
    walk_at "go"
    refine r_isi (.own _) (.base (.ins (hsx.at_.mono e4).choose_spec.choose_spec.choose_spec.1 T.c_Schedule T.x.sch.ha T.x.sch.hn T.x.sch.htk T.x.sch.hm)) (if_pos (by simp)) ?_
    walk_at "go"
    refine r_reprSch sx4 ok ?_
    walk_at "go"
    refine r_dg (e04 _ _ hh.d) rfl ?_
    walk_at "go"
    refine r_listL (e04 _ _ hu1) ?_
    intro p5 hp5
    walk_at "go"
    have e5 : Same H4 (upd H4 p5 (HO.lst us)) := same_new hp5
    refine r_mkSch upd_same ((hu2.mono e04).mono e5) ok fun s6 H6 e6 hs6 h6 => ?_
    walk_at "go"
    refine r_reprSch h6 ok ?_
    refine r_neS ?_
    rw [decide_eq_true rfl]
    walk_at "go"
    have e06 := same_trans e04 (same_trans e5 e6)
    refine r_meth (e06 _ _ hi) rfl ?_
    walk_at "go"
    refine ⟨b, L, rfl, go.same e06, fun _ p7 H7 e7 hp7 h7 => ?_⟩
    walk_at "go"
    have e07 := same_trans e06 e7
    refine r_meth (e07 _ _ hi) rfl ?_
    walk_at "go"
    refine ⟨b, L, rfl, rd.same e07, fun p8 H8 e8 hp8 h8 => ?_⟩
    walk_at "go"
    refine r_new (by simp) fun p9 H9 e9 hp9 h9 => ?_
    have e09 := same_trans e07 (same_trans e8 e9)
    have saR : Sa (dI (nI (BM.ranksM L.ws))) 12 0 := (Sa.nats (l := BM.ranksM L.ws) fun n hn => by
      have := BM.ranksM_lt L.ws n hn
      omega).mono (by omega) (Nat.le_refl _)
    have saM : Sa (dI (nI L.lo)) 400 0 := (Sa.nats (l := L.lo) fun n hn => by
      have := hs.ok.lob n hn
      have := hs.rs
      omega).mono hs.lo (Nat.le_refl _)
    have shB : Shw (.list [.list (dI (nI (BM.ranksM L.ws))), .list (dI (nI L.lo))]) := ((Sa.nil.list saM).list saR).shwL (by omega) (by omega)
    have h79 := e9 _ _ (e8 _ _ h7)
    have h89 := e9 _ _ h8
    rw [vN_nI] at h79 h89
    refine r_repr (.lst (sl_of h9) (.cons (dp_L h79) (.cons (dp_L h89) .nil))) shB ?_
    walk_at "go"
    refine r_dg (e09 _ _ hh.d) rfl ?_
    walk_at "go"
    refine r_new (by simp) fun p10 H10 e10 hp10 h10 => ?_
    have e010 := same_trans e09 e10
    have ho := (same_trans e2 (same_trans e3 (same_trans e4 (same_trans e5 (same_trans e6 (same_trans e7 (same_trans e8 (same_trans e9 e10)))))))) _ _ h1
    have hm := e010 _ _ hh.f.h5
    have ho' := ho
    have hm' := hm
    rw [vN_nI] at ho' hm'
    refine r_repr (.lst (sl_of h10) (.cons (dp_L ho') (.cons (dp_L hm') .nil))) shB ?_
    refine r_neS ?_
    rw [decide_eq_true rfl]
    walk_at "go"
    refine r_dg (e010 _ _ hh.d) rfl ?_
    walk_at "go"
    refine r_dg (e010 _ _ hh.d) rfl ?_
    walk_at "go"
    have hlen := hs.ok.len
    refine r_cat (e010 _ _ hh.f.h3) (e010 _ _ hh.f.h2) (by rw [vN_len, vN_len]; omega) fun p11 H11 e11 hp11 h11 => ?_
    have e011 := same_trans e010 e11
    rw [show vN L.gn ++ vN L.st = vN (L.gn ++ L.st) by simp [vN]] at h11
    have ho11 := e11 _ _ ho
    walk_at "go"
    refine r_li h11 ?_
    intro D2 hD2
    refine lc_vals (walk_list (xs := vN (L.gn ++ L.st))) hD2 (fun _ => true) (fun j => .int ((BM.rankOf L.ws ((L.gn ++ L.st).getD j 0) : Nat) : Int)) (by rw [vN_len]; simp; omega) (fun H1 e => sl_of (e _ _ h11)) (fun i H x H' y => at_same y) (fun j v H13 H14 QY QN hj e y kY kN => ?_) (fun H12 e12 hD12 => ?_)
    · obtain ⟨rfl, y⟩ := y
      obtain ⟨hj, rfl⟩ := vN_of y
      have hb : (L.gn ++ L.st).getD j 0 < L.ws.length := hs.ok.mem (by rw [List.getD_eq_getElem?_getD, List.getElem?_eq_getElem hj]; exact List.getElem_mem hj)
      refine ⟨rfl, ?_⟩
      walk_at "go"
      have hbr : (BM.ranksM L.ws)[(L.gn ++ L.st).getD j 0]? = some (BM.rankOf L.ws ((L.gn ++ L.st).getD j 0)) := by
        unfold BM.ranksM
        exact range_map_at _ hb
      refine r_ixL (j := (L.gn ++ L.st).getD j 0) (e _ _ ho11) rfl (by unfold vN; rw [List.getElem?_map, hbr]; rfl) ?_
      exact kY rfl _ (same_refl _)
    have hl12 : H12 D2 = some (.lst (vN ((L.gn ++ L.st).map (BM.rankOf L.ws)))) := by
      rw [hD12, List.filter_eq_self.mpr (fun _ _ => rfl), vN_len]
      unfold vN
      rw [List.map_map]
      congr 2
      exact range_get (fun z => V.int ((BM.rankOf L.ws z : Nat) : Int)) _
    have e012 := same_trans e011 e12
    walk_at "go"
    refine r_dg (e012 _ _ hh.d) rfl ?_
    walk_at "go"
    have hg12 := (same_trans e5 (same_trans e6 (same_trans e7 (same_trans e8 (same_trans e9 (same_trans e10 (same_trans e11 e12))))))) _ _ hg4
    have ho12 := e12 _ _ ho11
    refine ⟨D, o, a.a5, L.rs.map (·.1), BM.ranksM L.ws, L.lo, rfl, hg12, ho12, e012 _ _ hh.f.h5, fun c hc => ?_, fun p13 H13 e13 hp13 h13 => ?_⟩
    · obtain ⟨q, hq, rfl⟩ := List.mem_map.mp hc
      have := hs.ok.gate q hq
      rw [rl]
      omega
    rw [hpl] at h13
    walk_at "go"
    refine r_neN h13 (e13 _ _ hl12) ?_
    rw [decide_eq_true rfl]
    walk_at "go"
    have e013 := same_trans e012 e13
    refine r_meth (e013 _ _ hi) rfl ?_
    walk_at "go"
    refine ⟨b, L, rfl, go.same e013, fun _ H14 e14 => ?_⟩
    have prm : (BM.ranksM L.ws).Perm (List.range L.ws.length) := ranksM_perm L.ws
    have blog : ∀ i, borneM L.ws.length L.rs (BM.ranksM L.ws) = some i → i.natAbs.log2 < 1920 := fun i h => (borne_i50 ok rl prm i h).log
    walk_at "go"
    refine .inr ⟨_, rfl, blog, ?_⟩
    walk_at "go"
    have e014 := same_trans e013 e14
    have sx14 : SchAt K H14 sx (BM.ranksM L.ws).length L.rs := by
      rw [rl]
      exact sx4.mono (same_trans e5 (same_trans e6 (same_trans e7 (same_trans e8 (same_trans e9 (same_trans e10 (same_trans e11 (same_trans e12 (same_trans e13 e14)))))))))
    have okR : CsOk (BM.ranksM L.ws).length L.rs := by rw [rl]; exact ok
    have ho14 := e14 _ _ (e13 _ _ ho12)
    refine ⟨sx, o, L.rs, BM.ranksM L.ws, rfl, sx14, okR, ho14, fun H15 e15 => ?_⟩
    rw [rl]
    walk_at "go"
    refine .inr ⟨_, rfl, blog, ?_⟩
    refine r_neS ?_
    rw [decide_eq_true rfl]
    walk_at "go"
    have e015 := same_trans e014 e15
    refine r_meth (e015 _ _ hi) rfl ?_
    walk_at "go"
    refine ⟨b, L, rfl, go.same e015, fun _ p16 H16 e16 hp16 h16 => ?_⟩
    walk_at "go"
    refine r_tyL h16 ?_
    walk_at "go"
    refine r_app h16 (by rw [vN_len]; omega) ?_
    have e17 : Same H15 (upd H16 p16 (.lst (vN (BM.ranksM L.ws) ++ [.int 5]))) := same_upd e16 hp16
    generalize hG17 : upd H16 p16 (.lst (vN (BM.ranksM L.ws) ++ [.int 5])) = H17 at *
    walk_at "go"
    refine r_new (by simp) fun tx H18 e18 htx h18 => ?_
    walk_at "go"
    have e1518 := same_trans e17 e18
    have e018 := same_trans e015 e1518
    have shT := shw_toldD ok rl prm
    have shR : Shw (.list (dI (nI (BM.ranksM L.ws)))) := saR.shwL (by omega) (by omega)
    have e017 := same_trans e015 e17
    refine r_ra (by decide) (by decide) ?_
    refine for_it (walk_range (lo := 0) (n := 2)) (fun t σ H5 => (∃ o6 o7 o9 o11 o12 : Option V, σ = [some (.ref b), some (.ref d), some (.ref o), some (.int (L.ws.length : Int)), some (.ref sx), some (.ref D), o6, o7, some (.ref D2), o9, some (.ref tx), o11, o12]) ∧ Same H17 H5 ∧ H5 tx = some (.lst (List.replicate t (.str (toldD L.ws.length L.rs (BM.ranksM L.ws)).shown)))) ⟨⟨_, _, _, _, _, rfl⟩, e18, h18⟩ (fun t σ H5 _ z => trivial) (fun t v σ H5 H6 ht z y => ?_) (fun σ H5 z => ?_)
    · obtain ⟨⟨o6, o7, o9, o11, o12, rfl⟩, z1, z2⟩ := z
      obtain ⟨rfl, rfl⟩ := y
      have g1 := same_trans e017 z1
      walk_at "go"
      refine r_meth (g1 _ _ hi) rfl ?_
      walk_at "go"
      refine ⟨b, L, rfl, go.same g1, fun _ v1 H7 e7' t1 => ?_⟩
      walk_at "go"
      have g2 := same_trans g1 e7'
      refine r_meth (g2 _ _ hi) rfl ?_
      walk_at "go"
      refine ⟨b, L, rfl, go.same g2, fun _ v2 H8' e8' t2 => ?_⟩
      walk_at "go"
      refine r_new (by simp) fun tl H9' e9' htl h9' => ?_
      walk_at "go"
      have f89 := same_trans e8' e9'
      have f59 := same_trans e7' f89
      have z9 := f59 _ _ z2
      refine r_tyL z9 ?_
      walk_at "go"
      refine r_repr (d := toldD L.ws.length L.rs (BM.ranksM L.ws)) (.lst (sl_of h9') (.cons (dp_T (t1.mono f89)) (.cons (dp_T (t2.mono e9')) .nil))) shT ?_
      walk_at "go"
      refine r_app z9 (by rw [List.length_replicate]; omega) ?_
      have z10 : upd H9' tx (.lst (List.replicate t (.str (toldD L.ws.length L.rs (BM.ranksM L.ws)).shown) ++ [.str (toldD L.ws.length L.rs (BM.ranksM L.ws)).shown])) tx = some (.lst (List.replicate (t + 1) (.str (toldD L.ws.length L.rs (BM.ranksM L.ws)).shown))) := by
        rw [upd_same, List.replicate_succ']
      have w10 : upd H6 tx (.lst (List.replicate t (.str (toldD L.ws.length L.rs (BM.ranksM L.ws)).shown) ++ [.str (toldD L.ws.length L.rs (BM.ranksM L.ws)).shown])) tx = some (.lst (List.replicate (t + 1) (.str (toldD L.ws.length L.rs (BM.ranksM L.ws)).shown))) := by
        rw [upd_same, List.replicate_succ']
      have u5 : Same H17 (upd H9' tx (.lst (List.replicate t (.str (toldD L.ws.length L.rs (BM.ranksM L.ws)).shown) ++ [.str (toldD L.ws.length L.rs (BM.ranksM L.ws)).shown]))) := same_upd (same_trans z1 f59) htx
      have w5 : Same H17 (upd H6 tx (.lst (List.replicate t (.str (toldD L.ws.length L.rs (BM.ranksM L.ws)).shown) ++ [.str (toldD L.ws.length L.rs (BM.ranksM L.ws)).shown]))) := same_upd z1 htx
      have s1 := same_upd2 (p := tx) (o := .lst (List.replicate t (.str (toldD L.ws.length L.rs (BM.ranksM L.ws)).shown) ++ [.str (toldD L.ws.length L.rs (BM.ranksM L.ws)).shown])) e7'
      have s2 := same_upd2 (p := tx) (o := .lst (List.replicate t (.str (toldD L.ws.length L.rs (BM.ranksM L.ws)).shown) ++ [.str (toldD L.ws.length L.rs (BM.ranksM L.ws)).shown])) e8'
      have s3 := same_upd2 (p := tx) (o := .lst (List.replicate t (.str (toldD L.ws.length L.rs (BM.ranksM L.ws)).shown) ++ [.str (toldD L.ws.length L.rs (BM.ranksM L.ws)).shown])) e9'
      have y1 := Told.upd (o := .lst (List.replicate t (.str (toldD L.ws.length L.rs (BM.ranksM L.ws)).shown) ++ [.str (toldD L.ws.length L.rs (BM.ranksM L.ws)).shown])) t1 z2
      have y2 := Told.upd (o := .lst (List.replicate t (.str (toldD L.ws.length L.rs (BM.ranksM L.ws)).shown) ++ [.str (toldD L.ws.length L.rs (BM.ranksM L.ws)).shown])) t2 (e7' _ _ z2)
      have tlx : tl ≠ tx := fun e => by
        rw [e, (same_trans e7' e8') _ _ z2] at htl
        cases htl
      have z11 := (upd_ne tlx (o := .lst (List.replicate t (.str (toldD L.ws.length L.rs (BM.ranksM L.ws)).shown) ++ [.str (toldD L.ws.length L.rs (BM.ranksM L.ws)).shown])) (H := H9')).trans h9'
      have z12 := (upd_ne tlx (o := .lst (List.replicate t (.str (toldD L.ws.length L.rs (BM.ranksM L.ws)).shown) ++ [.str (toldD L.ws.length L.rs (BM.ranksM L.ws)).shown])) (H := H8')).trans htl
      generalize upd H9' tx (.lst (List.replicate t (.str (toldD L.ws.length L.rs (BM.ranksM L.ws)).shown) ++ [.str (toldD L.ws.length L.rs (BM.ranksM L.ws)).shown])) = HH at *
      generalize upd H8' tx (.lst (List.replicate t (.str (toldD L.ws.length L.rs (BM.ranksM L.ws)).shown) ++ [.str (toldD L.ws.length L.rs (BM.ranksM L.ws)).shown])) = HH2 at *
      generalize upd H7 tx (.lst (List.replicate t (.str (toldD L.ws.length L.rs (BM.ranksM L.ws)).shown) ++ [.str (toldD L.ws.length L.rs (BM.ranksM L.ws)).shown])) = HH1 at *
      generalize upd H6 tx (.lst (List.replicate t (.str (toldD L.ws.length L.rs (BM.ranksM L.ws)).shown) ++ [.str (toldD L.ws.length L.rs (BM.ranksM L.ws)).shown])) = HH0 at *
      have k0 := same_trans e017 u5
      walk_at "go"
      refine r_dg (k0 _ _ hh.d) rfl ?_
      walk_at "go"
      have m0 := same_trans e017 w5
      have m15 := same_trans (same_trans e15 e17) w5
      rw [← rl] at y1 y2
      refine ⟨tl, sx, o, a.a4, v1, v2, us, L.rs, BM.ranksM L.ws, HH0, HH1, HH2, rfl, s1, s2, s3, z11, z12, y1, y2, sx14.mono m15, okR, h40, by rw [rl]; exact prm, m15 _ _ ho14, m0 _ _ hu1, hu2.mono m0, fun H12' e12' => ?_⟩
      walk_at "go"
      have n0 := same_trans m0 e12'
      refine r_meth (n0 _ _ hi) rfl ?_
      walk_at "go"
      refine ⟨b, L, rfl, go.same n0, fun _ p13' H13' e13' hp13' h13' => ?_⟩
      walk_at "go"
      rw [vN_nI] at h13'
      refine r_repr (dp_L h13') shR ?_
      walk_at "go"
      have ho13 := e13' _ _ (e12' _ _ (m15 _ _ ho14))
      rw [vN_nI] at ho13
      refine r_repr (dp_L ho13) shR ?_
      refine r_neS ?_
      rw [decide_eq_true rfl]
      walk_at "go"
      exact ⟨⟨_, _, _, _, _, rfl⟩, same_trans w5 (same_trans e12' e13'), e13' _ _ (e12' _ _ w10)⟩
    · obtain ⟨⟨o6, o7, o9, o11, o12, rfl⟩, z1, z2⟩ := z
      walk_at "go"
      refine r_ixL (j := 0) z2 rfl rfl ?_
      walk_at "go"
      refine r_ixL (j := 1) z2 rfl rfl ?_
      refine r_eqS ?_
      rw [decide_eq_true rfl]
      exact kk _ (same_trans e017 z1)
end
end BW
namespace BW
open PySem PySem.Spec PyProof.Rows L2
section
variable {P : Program} {w : World} {K : PySem.W.Frag} {mg : Str → Option Value} {base : Heap}

/-- the part of the heap that is not changed any more -/
def out (M : List Addr) (H : Hp) : Hp := fun p => if p ∈ M then none else H p
theorem out_ne {M : List Addr} {H : Hp} {p : Addr} (h : p ∉ M) : out M H p = H p := if_neg h
theorem out_some {M : List Addr} {H : Hp} {p : Addr} {o : HO} (h : out M H p = some o) : p ∉ M ∧ H p = some o := by
  by_cases q : p ∈ M
  · have e : out M H p = none := if_pos q
    rw [e] at h
    cases h
  · exact ⟨q, (out_ne (H := H) q).symm.trans h⟩
theorem out_same (M : List Addr) (H : Hp) : Same (out M H) H := fun c o h => (out_some h).2
theorem out_but {M M' : List Addr} {H H' : Hp} (e : But M H H') (fr : ∀ p ∈ M', p ∈ M ∨ H p = none) : Same (out M H) (out M' H') := fun c o h => by
  obtain ⟨h1, h2⟩ := out_some h
  have n : c ∉ M' := fun z => (fr c z).elim h1 fun q => by rw [q] at h2; cases h2
  exact (out_ne n).trans (e c o h2 h1)
/-- a kept Schedule with its text -/
def KeptAt (K : PySem.W.Frag) (H : Hp) (v : V) : Prop := ∃ (q s : Addr) (n : Nat) (cs : List (Nat × Int)), v = .ref q ∧ H q = some (.tup [.ref s, .str (schTxt n cs)]) ∧ SchAt K H s n cs ∧ CsOk n cs
theorem KeptAt.mono {H H' : Hp} {v : V} (h : KeptAt K H v) (e : Same H H') : KeptAt K H' v := by
  obtain ⟨q, s, n, cs, h1, h2, h3, h4⟩ := h
  exact ⟨q, s, n, cs, h1, e _ _ h2, h3.mono e, h4⟩
abbrev wk (b lg un : Addr) (B : BkA) (a : Adr) : List Addr := lg :: un :: (B.foot b ++ a.all)
abbrev mu (g kl b lg un : Addr) (B : BkA) (a : Adr) : List Addr := g :: kl :: wk b lg un B a
/-- what the law's lists, the Book and the bag keep -/
structure LI (K : PySem.W.Frag) (H : Hp) (g c b lg un kl d : Addr) (B : BkA) (a : Adr) (log und : List BM.Deed) (L Lh : BM.Ln) (kv : List V) : Prop where
  bag : BagAt H g c
  sd : Side K H b lg un B log und L
  lo : Logs log und L
  here : HereAt H d a Lh
  kl_ : H kl = some (.lst kv)
  co : c ∉ mu g kl b lg un B a
  ks : ∀ v ∈ kv, KeptAt K (out (mu g kl b lg un B a) H) v
  og : g ∉ kl :: wk b lg un B a
  ok : kl ∉ wk b lg un B a
  oa : ∀ x ∈ a.all, x ∉ lg :: un :: B.foot b
section
variable {H H' : Hp} {g c b lg un kl d : Addr} {B : BkA} {a : Adr} {log und : List BM.Deed} {L Lh : BM.Ln} {kv : List V}
theorem mem_wk {p : Addr} : p ∈ wk b lg un B a ↔ p ∈ lg :: un :: B.foot b ∨ p ∈ a.all := by
  simp only [wk, List.mem_cons, List.mem_append, or_assoc]
/-- all that may change are lists, and the Book -/
theorem LI.lst (I : LI K H g c b lg un kl d B a log und L Lh kv) : ∀ p ∈ mu g kl b lg un B a, p = b ∨ ∃ xs, H p = some (.lst xs) := by
  obtain ⟨us, g1, _⟩ := I.sd.glog
  obtain ⟨vs, u1, _⟩ := I.sd.gund
  intro p hp
  rcases List.mem_cons.mp hp with rfl | hp
  · exact .inr I.bag.lst
  rcases List.mem_cons.mp hp with rfl | hp
  · exact .inr ⟨_, I.kl_⟩
  rcases mem_wk.mp hp with hp | hp
  · rcases List.mem_cons.mp hp with rfl | hp
    · exact .inr ⟨_, g1⟩
    rcases List.mem_cons.mp hp with rfl | hp
    · exact .inr ⟨_, u1⟩
    rcases List.mem_cons.mp hp with rfl | hp
    · exact .inl rfl
    · exact .inr (I.sd.bk.lst p hp)
  · exact .inr (I.here.f.lst p hp)
theorem LI.bkh (I : LI K H g c b lg un kl d B a log und L Lh kv) : ∃ dx, H b = some (.ins (He.ga K "Book") dx (bokF B.dl B.ll B.x)) := I.sd.bk.h
theorem LI.some_ (I : LI K H g c b lg un kl d B a log und L Lh kv) : ∀ p ∈ mu g kl b lg un B a, H p ≠ none := fun p hp z => by
  rcases I.lst p hp with rfl | ⟨xs, e⟩
  · obtain ⟨dx, e⟩ := I.bkh
    rw [e] at z; cases z
  · rw [e] at z; cases z
theorem LI.notup (I : LI K H g c b lg un kl d B a log und L Lh kv) : ∀ p ∈ mu g kl b lg un B a, ∀ xs, H p ≠ some (.tup xs) := fun p hp xs z => by
  rcases I.lst p hp with rfl | ⟨ys, e⟩
  · obtain ⟨dx, e⟩ := I.bkh
    rw [e] at z; cases z
  · rw [e] at z; cases z
theorem LI.doff (I : LI K H g c b lg un kl d B a log und L Lh kv) : d ∉ mu g kl b lg un B a := fun hp => by
  have h := I.here.d
  rcases I.lst d hp with rfl | ⟨ys, e⟩
  · obtain ⟨dx, e⟩ := I.bkh
    rw [e] at h; cases h
  · rw [e] at h; cases h
theorem LI.xoff (I : LI K H g c b lg un kl d B a log und L Lh kv) : B.x ∉ mu g kl b lg un B a := fun hp => by
  obtain ⟨dx, h⟩ := I.sd.bk.ln.x
  rcases I.lst _ hp with q | ⟨ys, e⟩
  · exact I.sd.bk.xb q
  · rw [e] at h; cases h
/-- whatever changes among what may change -/
theorem LI.frame {lg' un' d' : Addr} {B' : BkA} {a' : Adr} {log' und' : List BM.Deed} {L' Lh' : BM.Ln} {kv' : List V} (I : LI K H g c b lg un kl d B a log und L Lh kv) (e : But (mu g kl b lg un B a) H H') (bag : BagAt H' g c) (hk : H' kl = some (.lst kv')) (sd : Side K H' b lg' un' B' log' und' L') (lo : Logs log' und' L') (here : HereAt H' d' a' Lh')
    (fr : ∀ p ∈ wk b lg' un' B' a', p ∈ wk b lg un B a ∨ H p = none) (oa : ∀ x ∈ a'.all, x ∉ lg' :: un' :: B'.foot b)
    (ks : (∀ v ∈ kv, KeptAt K (out (mu g kl b lg' un' B' a') H') v) → ∀ v ∈ kv', KeptAt K (out (mu g kl b lg' un' B' a') H') v) : LI K H' g c b lg' un' kl d' B' a' log' und' L' Lh' kv' := by
  have fr' : ∀ p ∈ mu g kl b lg' un' B' a', p ∈ mu g kl b lg un B a ∨ H p = none := fun p hp => by
    rcases List.mem_cons.mp hp with rfl | hp
    · exact .inl (List.mem_cons_self ..)
    rcases List.mem_cons.mp hp with rfl | hp
    · exact .inl (List.mem_cons_of_mem _ (List.mem_cons_self ..))
    exact (fr p hp).imp (fun q => List.mem_cons_of_mem _ (List.mem_cons_of_mem _ q)) id
  have s1 := out_but e fr'
  have g0 : H g ≠ none := I.some_ g (List.mem_cons_self ..)
  have k0 : H kl ≠ none := I.some_ kl (List.mem_cons_of_mem _ (List.mem_cons_self ..))
  have c0 : H c ≠ none := by
    obtain ⟨z, s, i, cells, _, h2, _⟩ := I.bag
    rw [h2]; simp
  refine ⟨bag, sd, lo, here, hk, fun z => (fr' c z).elim I.co c0, ks fun v hv => (I.ks v hv).mono s1, fun z => ?_, fun z => (fr kl z).elim I.ok k0, oa⟩
  rcases List.mem_cons.mp z with z | z
  · exact I.og (by rw [z]; exact List.mem_cons_self ..)
  · exact (fr g z).elim (fun q => I.og (List.mem_cons_of_mem _ q)) g0
/-- parts kept while others change -/
theorem Side.but {fp : List Addr} (h : Side K H b lg un B log und L) (e : But fp H H') (h1 : ∀ p ∈ lg :: un :: B.foot b, p ∉ fp) (hx : B.x ∉ fp) (ht : ∀ p ∈ fp, ∀ xs, H p ≠ some (.tup xs)) : Side K H' b lg un B log und L := by
  obtain ⟨us, g1, g2⟩ := h.glog
  obtain ⟨vs, u1, u2⟩ := h.gund
  exact ⟨h.bk.but e (fun p hp => h1 p (List.mem_cons_of_mem _ (List.mem_cons_of_mem _ hp))) hx ht, ⟨us, e _ _ g1 (h1 _ (List.mem_cons_self ..)), deeds_but g2 e ht⟩, ⟨vs, e _ _ u1 (h1 _ (List.mem_cons_of_mem _ (List.mem_cons_self ..))), deeds_but u2 e ht⟩, h.ne, h.ol, h.ou⟩
theorem LI.sub (I : LI K H g c b lg un kl d B a log und L Lh kv) {fp : List Addr} (h : ∀ p ∈ fp, p ∈ mu g kl b lg un B a) (e : But fp H H') : But (mu g kl b lg un B a) H H' := e.mono h
theorem LI.same (I : LI K H g c b lg un kl d B a log und L Lh kv) (e : Same H H') : LI K H' g c b lg un kl d B a log und L Lh kv :=
  I.frame (But.same e _) (I.bag.same e) (e _ _ I.kl_) (I.sd.but (But.same e []) (by simp) (by simp) (by simp)) I.lo (I.here.same e) (fun p hp => .inl hp) I.oa fun h => h
/-- the bag is drawn from -/
theorem LI.draw (I : LI K H g c b lg un kl d B a log und L Lh kv) (e : But [g] H H') (hb : BagAt H' g c) : LI K H' g c b lg un kl d B a log und L Lh kv := by
  have nt : ∀ p ∈ [g], ∀ xs, H p ≠ some (.tup xs) := I.bag.notup
  have off : ∀ p ∈ kl :: wk b lg un B a, p ∉ [g] := fun p hp z => I.og (by rw [← List.mem_singleton.mp z]; exact hp)
  have gm : g ∈ mu g kl b lg un B a := List.mem_cons_self ..
  refine I.frame (I.sub (fun p hp => by rw [List.mem_singleton.mp hp]; exact gm) e) hb (e _ _ I.kl_ (off _ (List.mem_cons_self ..))) (I.sd.but e (fun p hp => off p (List.mem_cons_of_mem _ (mem_wk.mpr (.inl hp)))) (fun z => ?_) nt) I.lo (I.here.but e (fun x hx => off x (List.mem_cons_of_mem _ (mem_wk.mpr (.inr hx)))) (fun z => ?_) nt) (fun p hp => .inl hp) I.oa fun h => h
  · exact I.xoff (by rw [List.mem_singleton.mp z]; exact gm)
  · exact I.doff (by rw [List.mem_singleton.mp z]; exact gm)
/-- a Schedule is kept -/
theorem LI.keep {v : V} (I : LI K H g c b lg un kl d B a log und L Lh kv) (hv : KeptAt K (out (mu g kl b lg un B a) H) v) : LI K (upd H kl (.lst (kv ++ [v]))) g c b lg un kl d B a log und L Lh (kv ++ [v]) := by
  have e : But [kl] H (upd H kl (.lst (kv ++ [v]))) := but_upd (but_refl _ _) (by simp)
  have km : kl ∈ mu g kl b lg un B a := List.mem_cons_of_mem _ (List.mem_cons_self ..)
  have nt : ∀ p ∈ [kl], ∀ xs, H p ≠ some (.tup xs) := fun p hp => by
    rw [List.mem_singleton.mp hp]
    exact I.notup _ km
  have off : ∀ p ∈ wk b lg un B a, p ∉ [kl] := fun p hp z => I.ok (by rw [← List.mem_singleton.mp z]; exact hp)
  have eM := I.sub (fun p hp => by rw [List.mem_singleton.mp hp]; exact km) e
  refine I.frame eM (I.bag.but e (fun z => I.og (by rw [List.mem_singleton.mp z]; exact List.mem_cons_self ..)) (fun z => I.co (by rw [List.mem_singleton.mp z]; exact km))) upd_same (I.sd.but e (fun p hp => off p (mem_wk.mpr (.inl hp))) (fun z => ?_) nt) I.lo (I.here.but e (fun x hx => off x (mem_wk.mpr (.inr hx))) (fun z => ?_) nt) (fun p hp => .inl hp) I.oa fun h v' hv' => ?_
  · exact I.xoff (by rw [List.mem_singleton.mp z]; exact km)
  · exact I.doff (by rw [List.mem_singleton.mp z]; exact km)
  · rcases List.mem_append.mp hv' with q | q
    · exact h v' q
    · rw [List.mem_singleton.mp q]
      exact hv.mono (out_but eM fun p hp => .inl hp)
end
end
end BW
namespace BW
open PySem PySem.Spec PyProof.Rows L2
section
variable {P : Program} {w : World} {K : PySem.W.Frag} {mg : Str → Option Value} {base : Heap}

section
variable {H H' : Hp} {g c b lg un kl d : Addr} {B : BkA} {a : Adr} {log und : List BM.Deed} {L Lh : BM.Ln} {kv : List V}
theorem mem_mu {p : Addr} (h : p ∈ wk b lg un B a) : p ∈ mu g kl b lg un B a := List.mem_cons_of_mem _ (List.mem_cons_of_mem _ h)
theorem mem_w1 {p : Addr} (h : p ∈ lg :: un :: B.foot b) : p ∈ wk b lg un B a := mem_wk.mpr (.inl h)
theorem mem_w2 {p : Addr} (h : p ∈ a.all) : p ∈ wk b lg un B a := mem_wk.mpr (.inr h)
theorem mem_f {p : Addr} (h : p ∈ B.foot b) : p ∈ lg :: un :: B.foot b := List.mem_cons_of_mem _ (List.mem_cons_of_mem _ h)
theorem mem_lg : lg ∈ lg :: un :: B.foot b := List.mem_cons_self ..
theorem mem_un : un ∈ lg :: un :: B.foot b := List.mem_cons_of_mem _ (List.mem_cons_self ..)
theorem LI.s_ (I : LI K H g c b lg un kl d B a log und L Lh kv) {p : Addr} (h : p ∈ wk b lg un B a) : H p ≠ none := I.some_ p (mem_mu h)
/-- only parts of the line, the Book and the logs change: the bag and the kept list stay -/
theorem LI.rest (I : LI K H g c b lg un kl d B a log und L Lh kv) {fp : List Addr} (h : ∀ p ∈ fp, p ∈ wk b lg un B a) (e : But fp H H') : BagAt H' g c ∧ H' kl = some (.lst kv) :=
  ⟨I.bag.but e (fun z => I.og (List.mem_cons_of_mem _ (h _ z))) (fun z => I.co (mem_mu (h _ z))), e _ _ I.kl_ fun z => I.ok (h _ z)⟩
theorem LI.nt (I : LI K H g c b lg un kl d B a log und L Lh kv) {fp : List Addr} (h : ∀ p ∈ fp, p ∈ wk b lg un B a) : ∀ p ∈ fp, ∀ xs, H p ≠ some (.tup xs) := fun p hp => I.notup p (mem_mu (h p hp))
/-- the bag is drawn from: the Book and the line are as they were -/
theorem LI.butg (I : LI K H g c b lg un kl d B a log und L Lh kv) (e : But [g] H H') : Side K H' b lg un B log und L ∧ HereAt H' d a Lh := by
  have nt : ∀ p ∈ [g], ∀ xs, H p ≠ some (.tup xs) := I.bag.notup
  have off : ∀ p ∈ kl :: wk b lg un B a, p ∉ [g] := fun p hp z => I.og (by rw [← List.mem_singleton.mp z]; exact hp)
  have gm : g ∈ mu g kl b lg un B a := List.mem_cons_self ..
  refine ⟨I.sd.but e (fun p hp => off p (List.mem_cons_of_mem _ (mem_w1 hp))) (fun z => ?_) nt, I.here.but e (fun x hx => off x (List.mem_cons_of_mem _ (mem_w2 hx))) (fun z => ?_) nt⟩
  · exact I.xoff (by rw [List.mem_singleton.mp z]; exact gm)
  · exact I.doff (by rw [List.mem_singleton.mp z]; exact gm)
/-- a step back or again -/
theorem LI.moved {B' : BkA} {way : Int} {log' und' : List BM.Deed} {L' : BM.Ln} (I : LI K H g c b lg un kl d B a log und L Lh kv) (m : Moved K H H' b lg un B B' way log und log' und' L') : LI K H' g c b lg un kl d B' a log' und' L' Lh kv := by
  have sub : ∀ p ∈ lg :: un :: B.foot b, p ∈ wk b lg un B a := fun p hp => mem_w1 hp
  obtain ⟨r1, r2⟩ := I.rest sub m.bt
  refine I.frame (I.sub (fun p hp => mem_mu (sub p hp)) m.bt) r1 r2 m.sd m.lo (I.here.but m.bt (fun x hx => I.oa x hx) (fun z => I.doff (mem_mu (sub _ z))) (I.nt sub)) (fun p hp => ?_) (fun x hx z => ?_) fun h => h
  · rcases mem_wk.mp hp with hp | hp
    · rcases List.mem_cons.mp hp with rfl | hp
      · exact .inl (sub _ mem_lg)
      rcases List.mem_cons.mp hp with rfl | hp
      · exact .inl (sub _ mem_un)
      · exact (m.fr p hp).imp (fun q => sub p (mem_f q)) id
    · exact .inl (mem_w2 hp)
  · rcases List.mem_cons.mp z with rfl | z
    · exact I.oa _ hx mem_lg
    rcases List.mem_cons.mp z with rfl | z
    · exact I.oa _ hx mem_un
    · exact (m.fr x z).elim (fun q => I.oa x hx (mem_f q)) (I.s_ (mem_w2 hx))
/-- the line comes anew -/
theorem LI.again {d' : Addr} {a' : Adr} {Lh' : BM.Ln} (I : LI K H g c b lg un kl d B a log und L Lh kv) (e : Same H H') (ha : ∀ x ∈ a'.all, H x = none) (h : HereAt H' d' a' Lh') : LI K H' g c b lg un kl d' B a' log und L Lh' kv := by
  refine I.frame (But.same e _) (I.bag.same e) (e _ _ I.kl_) (I.sd.but (But.same e []) (by simp) (by simp) (by simp)) I.lo h (fun p hp => ?_) (fun x hx z => I.s_ (mem_w1 z) (ha x hx)) fun h => h
  rcases mem_wk.mp hp with hp | hp
  · exact .inl (mem_w1 hp)
  · exact .inr (ha p hp)
/-- a deed is done in the line -/
theorem LI.did {Lh' : BM.Ln} (I : LI K H g c b lg un kl d B a log und L Lh kv) (e : But a.all H H') (h : HereAt H' d a Lh') : LI K H' g c b lg un kl d B a log und L Lh' kv := by
  have sub : ∀ p ∈ a.all, p ∈ wk b lg un B a := fun p hp => mem_w2 hp
  obtain ⟨r1, r2⟩ := I.rest sub e
  exact I.frame (I.sub (fun p hp => mem_mu (sub p hp)) e) r1 r2 (I.sd.but e (fun p hp z => I.oa p z hp) (fun z => I.xoff (mem_mu (sub _ z))) (I.nt sub)) I.lo h (fun p hp => .inl hp) I.oa fun h => h
/-- a deed is done in the Book, and logged -/
theorem LI.done {B' : BkA} {L' : BM.Ln} {dd : BM.Deed} {H1 H3 : Hp} {us : List V} {v : V} {un' : Addr} (I : LI K H g c b lg un kl d B a log und L Lh kv) (n : BkNew K H H1 b B B' (log ++ [dd]) [] L') (g0 : H lg = some (.lst us)) (d0 : Deeds H us log) (hv : DeedAt H v dd)
    (e3 : Same (upd H1 lg (.lst (us ++ [v]))) H3) (hu : upd H1 lg (.lst (us ++ [v])) un' = none) (h3 : H3 un' = some (.lst [])) (lo : Logs (log ++ [dd]) [] L') : LI K H3 g c b lg un' kl d B' a (log ++ [dd]) [] L' Lh kv := by
  have ntf := I.sd.bk.notup
  have g1 : H1 lg = some (.lst us) := n.bt _ _ g0 I.sd.ol
  have d1 : Deeds H1 us log := deeds_but d0 n.bt ntf
  have v1 : DeedAt H1 v dd := deedAt_but hv n.bt ntf
  have lgf : lg ∉ B'.foot b := fun z => (n.fr lg z).elim I.sd.ol (by rw [g0]; simp)
  have bt2 : But [lg] H1 (upd H1 lg (.lst (us ++ [v]))) := but_upd (but_refl _ _) (by simp)
  have nt2 : ∀ p ∈ [lg], ∀ xs, H1 p ≠ some (.tup xs) := fun p hp xs z => by
    rw [List.mem_singleton.mp hp, g1] at z
    cases z
  have xl : B'.x ∉ [lg] := fun z => by
    obtain ⟨dx, hx⟩ := n.at_.ln.x
    rw [List.mem_singleton.mp z, g1] at hx
    cases hx
  have bk2 : BookAt K (upd H1 lg (.lst (us ++ [v]))) b B' (log ++ [dd]) [] L' := n.at_.but bt2 (fun p hp z => lgf (by rw [← List.mem_singleton.mp z]; exact hp)) xl nt2
  have sub : ∀ p ∈ lg :: un :: B.foot b, p ∈ wk b lg un B a := fun p hp => mem_w1 hp
  have b02 : But (lg :: un :: B.foot b) H (upd H1 lg (.lst (us ++ [v]))) := (n.bt.mono fun p hp => mem_f hp).trans (bt2.mono fun p hp => by rw [List.mem_singleton.mp hp]; exact mem_lg)
  have b03 : But (lg :: un :: B.foot b) H H3 := b02.trans (But.same e3 _)
  have here2 := I.here.but b02 (fun x hx => I.oa x hx) (fun z => I.doff (mem_mu (sub _ z))) (I.nt sub)
  obtain ⟨r1, r2⟩ := I.rest sub b03
  have sd3 : Side K H3 b lg un' B' (log ++ [dd]) [] L' := by
    refine ⟨bk2.same e3, ⟨_, e3 _ _ upd_same, deeds_mono (pair_app (deeds_but d1 bt2 nt2) (.cons (deedAt_but v1 bt2 nt2) .nil)) e3⟩, ⟨[], h3, .nil⟩, fun z => ?_, lgf, fun z => ?_⟩
    · rw [← z, upd_same] at hu
      cases hu
    · rcases List.mem_cons.mp z with rfl | z
      · obtain ⟨dx, e⟩ := bk2.h
        rw [e] at hu
        cases hu
      · obtain ⟨xs, e⟩ := bk2.lst _ z
        rw [e] at hu
        cases hu
  refine I.frame (I.sub (fun p hp => mem_mu (sub p hp)) b03) r1 r2 sd3 lo (here2.same e3) (fun p hp => ?_) (fun x hx z => ?_) fun h => h
  · rcases mem_wk.mp hp with hp | hp
    · rcases List.mem_cons.mp hp with rfl | hp
      · exact .inl (sub _ mem_lg)
      rcases List.mem_cons.mp hp with rfl | hp
      · by_cases q : p ∈ lg :: un :: B.foot b
        · exact .inl (sub _ q)
        · exact .inr (b02.none hu q)
      · exact (n.fr p hp).imp (fun q => sub p (mem_f q)) id
    · exact .inl (mem_w2 hp)
  · rcases List.mem_cons.mp z with rfl | z
    · exact I.oa _ hx mem_lg
    rcases List.mem_cons.mp z with rfl | z
    · obtain ⟨xs, e⟩ := here2.f.lst _ hx
      rw [e] at hu
      cases hu
    · exact (n.fr x z).elim (fun q => I.oa x hx (mem_f q)) (I.s_ (mem_w2 hx))
/-- the log is changed -/
theorem LI.changed {p un' d' : Addr} {a' : Adr} {B' : BkA} {ds : List BM.Deed} {us : List V} {L' : BM.Ln} {H1 H2 H3 H4 : Hp} (I : LI K H g c b lg un kl d B a log und L Lh kv) (e1 : Same H H1) (hp : H p = none) (h1 : H1 p = some (.lst us)) (d1 : Deeds H1 us ds)
    (bt : But [b] H1 H2) (fr : ∀ q ∈ B'.lists, H1 q = none) (bk : BookAt K H2 b B' ds [] L') (e2 : Same H2 H3) (ha : ∀ x ∈ a'.all, H2 x = none) (here : HereAt H3 d' a' L') (e3 : Same H3 H4) (hu : H3 un' = none) (h4 : H4 un' = some (.lst [])) (lo : Logs ds [] L') :
    LI K H4 g c b p un' kl d' B' a' ds [] L' L' kv := by
  obtain ⟨dx, hb⟩ := I.bkh
  have bw : b ∈ wk b lg un B a := mem_w1 (mem_f (List.mem_cons_self ..))
  have sub : ∀ q ∈ [b], q ∈ wk b lg un B a := fun q hq => by
    rw [List.mem_singleton.mp hq]
    exact bw
  have pb : p ≠ b := fun z => by
    rw [z, hb] at hp
    cases hp
  have h2 : H2 p = some (.lst us) := bt _ _ h1 (by simp [pb])
  obtain ⟨dx2, hb2⟩ := bk.h
  have b02 : But [b] H H2 := (But.same e1 _).trans bt
  have b03 : But [b] H H3 := b02.trans (But.same e2 _)
  have b04 : But [b] H H4 := b03.trans (But.same e3 _)
  have nt1 : ∀ q ∈ [b], ∀ xs, H1 q ≠ some (.tup xs) := fun q hq xs z => by
    rw [List.mem_singleton.mp hq, e1 _ _ hb] at z
    cases z
  obtain ⟨r1, r2⟩ := I.rest sub b04
  have ub : un' ≠ b := fun z => by
    rw [z, e2 _ _ hb2] at hu
    cases hu
  have sd4 : Side K H4 b p un' B' ds [] L' := by
    refine ⟨bk.same (same_trans e2 e3), ⟨us, e3 _ _ (e2 _ _ h2), deeds_mono (deeds_but d1 bt nt1) (same_trans e2 e3)⟩, ⟨[], h4, .nil⟩, fun z => ?_, fun z => ?_, fun z => ?_⟩
    · rw [← z, e2 _ _ h2] at hu
      cases hu
    · rcases List.mem_cons.mp z with z | z
      · exact pb z
      · have := fr _ z
        rw [h1] at this
        cases this
    · rcases List.mem_cons.mp z with z | z
      · exact ub z
      · obtain ⟨xs, e⟩ := bk.lst _ z
        rw [e2 _ _ e] at hu
        cases hu
  refine I.frame (I.sub (fun q hq => mem_mu (sub q hq)) b04) r1 r2 sd4 lo (here.same e3) (fun q hq => ?_) (fun x hx z => ?_) fun h => h
  · rcases mem_wk.mp hq with hq | hq
    · rcases List.mem_cons.mp hq with rfl | hq
      · exact .inr hp
      rcases List.mem_cons.mp hq with rfl | hq
      · exact .inr (b03.none hu (by simp [ub]))
      rcases List.mem_cons.mp hq with rfl | hq
      · exact .inl bw
      · exact .inr (none_below e1 (fr q hq))
    · refine .inr (b02.none (ha q hq) fun z => ?_)
      have := ha q hq
      rw [List.mem_singleton.mp z, hb2] at this
      cases this
  · have x2 := ha x hx
    rcases List.mem_cons.mp z with rfl | z
    · rw [h2] at x2
      cases x2
    rcases List.mem_cons.mp z with rfl | z
    · obtain ⟨xs, e⟩ := here.f.lst _ hx
      rw [e] at hu
      cases hu
    rcases List.mem_cons.mp z with rfl | z
    · rw [hb2] at x2
      cases x2
    · obtain ⟨xs, e⟩ := bk.lst _ z
      rw [e] at x2
      cases x2
end
theorem Logs.done {log und : List BM.Deed} {L L' : BM.Ln} {dd : BM.Deed} (h : Logs log und L) (ok : dd.ok) (st : L.step dd = some L') (hn : log.length ≤ 90) : Logs (log ++ [dd]) [] L' := by
  have r : BM.replay (log ++ [dd]) = some L' := by rw [replay_snoc h.r]; exact st
  refine ⟨r, fun d hd => ?_, by simp; omega, L', by simpa using r⟩
  simp only [List.append_nil, List.mem_append, List.mem_singleton] at hd
  rcases hd with hd | rfl
  · exact h.ok d (by simp [hd])
  · exact ok
theorem Logs.fresh {ds : List BM.Deed} {L' : BM.Ln} (ok : ∀ d ∈ ds, d.ok) (r : BM.replay ds = some L') (hn : ds.length ≤ 90) : Logs ds [] L' := ⟨r, fun d hd => ok d (by simpa using hd), by simp; omega, L', by simpa using r⟩
theorem flip_ok {d : BM.Deed} (h : d.ok) : (flipD d).ok := by
  cases d with
  | arrive p => exact h
  | serve => exact h
  | compare pos price done => exact h
theorem laterD_ok {log ds : List BM.Deed} {way : Int} {i : Nat} {dd : BM.Deed} (e : laterD log way i dd = some ds) (ok : ∀ d ∈ log, d.ok) (hd : dd.ok) : (∀ d ∈ ds, d.ok) ∧ ds.length ≤ log.length + 1 := by
  have tk : ∀ n, ∀ d ∈ log.take n, d.ok := fun n d h => ok d (List.mem_of_mem_take h)
  have dr : ∀ n, ∀ d ∈ log.drop n, d.ok := fun n d h => ok d (List.mem_of_mem_drop h)
  unfold laterD at e
  split at e
  · cases e
    refine ⟨fun d h => ?_, by simp; omega⟩
    simp only [List.mem_append, List.mem_singleton] at h
    rcases h with (h | rfl) | h
    · exact tk _ d h
    · exact hd
    · exact dr _ d h
  · split at e
    · cases e
    · rename_i de hde
      have hi := (List.getElem?_eq_some_iff.mp hde).1
      have dok : de.ok := ok de (List.mem_of_getElem? hde)
      split at e
      · cases e
      · split at e
        · cases e
          refine ⟨fun d h => ?_, by simp; omega⟩
          simp only [List.mem_append] at h
          rcases h with h | h
          · exact tk _ d h
          · exact dr _ d h
        · cases e
          refine ⟨fun d h => ?_, by simp; omega⟩
          simp only [List.mem_append, List.mem_singleton] at h
          rcases h with (h | rfl) | h
          · exact tk _ d h
          · exact flip_ok dok
          · exact dr _ d h
end
end BW
namespace BW
open PySem PySem.Spec PyProof.Rows L2
section
variable {P : Program} {w : World} {K : PySem.W.Frag} {mg : Str → Option Value} {base : Heap}

/-- the law's slots -/
def LS (K : PySem.W.Frag) (a0 g c b kl : Addr) (n m : Nat) (σ : L2.St) (H : Hp) : Prop := ∃ (lg un d : Addr) (B : BkA) (a : Adr) (log und : List BM.Deed) (L : BM.Ln) (kv : List V) (o7 o8 o9 o10 o11 o12 o13 o14 : Option V),
  σ = [some (.ref a0), some (.ref g), some (.ref b), some (.ref d), some (.ref lg), some (.ref un), some (.ref kl), o7, o8, o9, o10, o11, o12, o13, o14] ∧ LI K H g c b lg un kl d B a log und L L kv ∧ log.length + und.length ≤ n ∧ kv.length ≤ m
/-- law(script) -/
def spLaw (K : PySem.W.Frag) : Sp := fun vs H Q _ => ∃ (a : Addr) (xs : List Int), vs = [.ref a] ∧ SqL K H a (vI xs) ∧ ∀ H', Q (.bl true) H'
theorem li_start {H1 H2 H3 H4 H5 H6 : Hp} {g c b d lg un kl : Addr} {B : BkA} {a : Adr} (bag : BagAt H1 g c) (e2 : Same H1 H2) (hb : H1 b = none) (hB : ∀ p ∈ B.lists, H1 p = none) (bk : BookAt K H2 b B [] [] .zero) (e3 : Same H2 H3) (ha : ∀ x ∈ a.all, H2 x = none) (hh : HereAt H3 d a .zero)
    (e4 : Same H3 H4) (hlg : H3 lg = none) (h4 : H4 lg = some (.lst [])) (e5 : Same H4 H5) (hun : H4 un = none) (h5 : H5 un = some (.lst [])) (e6 : Same H5 H6) (hkl : H5 kl = none) (h6 : H6 kl = some (.lst [])) : LI K H6 g c b lg un kl d B a [] [] .zero .zero [] := by
  obtain ⟨dx, b2⟩ := bk.h
  obtain ⟨z, s, i, cells, g1, c1, _⟩ := id bag
  have l2 := bk.lst
  have l3 := hh.f.lst
  have no : ∀ {h : Hp} {x y : Addr} {o : HO}, h x = some o → h y = none → x ≠ y := fun p q => ne_of_none p q
  have e25 := same_trans e3 (same_trans e4 e5)
  have e15 := same_trans e2 e25
  have w5 : ∀ p ∈ wk b lg un B a, ∃ o, H5 p = some o := fun p hp => by
    rcases mem_wk.mp hp with hp | hp
    · rcases List.mem_cons.mp hp with rfl | hp
      · exact ⟨_, e5 _ _ h4⟩
      rcases List.mem_cons.mp hp with rfl | hp
      · exact ⟨_, h5⟩
      rcases List.mem_cons.mp hp with rfl | hp
      · exact ⟨_, e25 _ _ b2⟩
      · obtain ⟨xs, e⟩ := l2 p hp
        exact ⟨_, e25 _ _ e⟩
    · obtain ⟨xs, e⟩ := l3 p hp
      exact ⟨_, e5 _ _ (e4 _ _ e)⟩
  have old : ∀ x o, H1 x = some o → x ∉ kl :: wk b lg un B a := fun x o hx z => by
    rcases List.mem_cons.mp z with z | z
    · exact no (e15 _ _ hx) hkl z
    rcases mem_wk.mp z with z | z
    · rcases List.mem_cons.mp z with z | z
      · exact no (e3 _ _ (e2 _ _ hx)) hlg z
      rcases List.mem_cons.mp z with z | z
      · exact no (e4 _ _ (e3 _ _ (e2 _ _ hx))) hun z
      rcases List.mem_cons.mp z with z | z
      · exact no hx hb z
      · exact no hx (hB _ z) rfl
    · exact no (e2 _ _ hx) (ha _ z) rfl
  refine ⟨bag.same (same_trans e15 e6), ⟨bk.same (same_trans e25 e6), ⟨[], e6 _ _ (e5 _ _ h4), .nil⟩, ⟨[], e6 _ _ h5, .nil⟩, no h4 hun, fun z => ?_, fun z => ?_⟩, ⟨rfl, by simp, by simp, .zero, rfl⟩, hh.same (same_trans e4 (same_trans e5 e6)), h6, fun z => ?_, fun v hv => (by cases hv), old g _ g1, fun z => ?_, fun x hx z => ?_⟩
  · rcases List.mem_cons.mp z with z | z
    · exact no (e3 _ _ b2) hlg z.symm
    · obtain ⟨xs, e⟩ := l2 _ z
      exact no (e3 _ _ e) hlg rfl
  · rcases List.mem_cons.mp z with z | z
    · exact no (e4 _ _ (e3 _ _ b2)) hun z.symm
    · obtain ⟨xs, e⟩ := l2 _ z
      exact no (e4 _ _ (e3 _ _ e)) hun rfl
  · rcases List.mem_cons.mp z with z | z
    · exact bag.ne z
    · exact old c _ c1 z
  · obtain ⟨o, e⟩ := w5 _ z
    exact no e hkl rfl
  · obtain ⟨xs, e⟩ := l3 x hx
    rcases List.mem_cons.mp z with z | z
    · exact no e hlg z
    rcases List.mem_cons.mp z with z | z
    · exact no (e4 _ _ e) hun z
    rcases List.mem_cons.mp z with z | z
    · exact no b2 (ha x hx) z.symm
    · obtain ⟨ys, e⟩ := l2 _ z
      exact no e (ha x hx) rfl
theorem r_par3 {i j l : Nat} {ta : TA} {D : Ends} {σ : L2.St} {H : Hp} (k : ta σ H fun vs H1 => ∃ u v w, vs = [u, v, w] ∧ D.nx (((σ.set i (some u)).set j (some v)).set l (some w)) H1) : tPar3 i j l ta D σ H := k
theorem r_par3' {u v w : V} {F : V → V → V → Prop} (k : F u v w) : ∃ u' v' w', [u, v, w] = [u', v', w'] ∧ F u' v' w' := ⟨u, v, w, rfl, k⟩
theorem r_ifG {t : TT} {ts tr : TS} {D : Ends} {σ : L2.St} {H : Hp} (N R : Hp → Prop) (k : ∀ QB : Bool → Hp → Prop, (∀ H1, N H1 → QB true H1) → (∀ H1, R H1 → QB false H1) → t σ H QB) (h1 : ∀ H1, N H1 → ts D σ H1) (h2 : ∀ H1, R H1 → tr D σ H1) : tIfS t ts tr D σ H :=
  k (fun b H1 => if b = true then ts D σ H1 else tr D σ H1) (fun H1 n => by rw [if_pos rfl]; exact h1 H1 n) fun H1 n => by rw [if_neg (by decide)]; exact h2 H1 n
theorem stepD_len {way : Int} {log und log' und' : List BM.Deed} (h : StepD way log und log' und') : log'.length + und'.length = log.length + und.length := by
  rcases h with ⟨_, ⟨rfl, rfl, rfl⟩ | ⟨dd, rfl, rfl⟩⟩ | ⟨_, ⟨rfl, rfl, rfl⟩ | ⟨dd, rfl, rfl⟩⟩
  · rfl
  · simp; omega
  · rfl
  · simp; omega
theorem later_cond {log ds : List BM.Deed} {way : Int} {i : Nat} {dd : BM.Deed} (e : laterD log way i dd = some ds) (n : BM.replay ds = none) (w3 : 3 ≤ way) (w5 : way < 5) :
    (way = 3 ∧ BM.replay (log.take i ++ [dd] ++ log.drop i) = none) ∨ (way = 4 ∧ i < log.length ∧ BM.replay (log.take i ++ log.drop (i + 1)) = none) := by
  unfold laterD at e
  by_cases h3 : way = 3
  · rw [if_pos h3] at e
    cases e
    exact .inl ⟨h3, n⟩
  · rw [if_neg h3] at e
    have h4 : way = 4 := by omega
    cases q : log[i]? with
    | none =>
      rw [q] at e
      cases e
    | some de =>
      rw [q] at e
      have e2 : (if way = 5 ∧ isCmp de = false then none
          else if way = 4 then some (log.take i ++ log.drop (i + 1))
          else some (log.take i ++ [flipD de] ++ log.drop (i + 1))) = some ds := e
      rw [if_neg (by omega), if_pos h4] at e2
      cases e2
      exact .inr ⟨h4, (List.getElem?_eq_some_iff.mp q).1, n⟩
theorem kt_id : PySem.W.kitOne K (.type "int") (.type "dict") = some false := kit_ty (by decide +kernel)
theorem kt_dd : PySem.W.kitOne K (.type "dict") (.type "dict") = some true := kit_ty (by decide +kernel)
theorem kt_it : PySem.W.kitOne K (.type "int") (.type "tuple") = some false := kit_ty (by decide +kernel)
theorem kt_bt : PySem.W.kitOne K (.type "bool") (.type "tuple") = some false := kit_ty (by decide +kernel)
theorem kt_tt : PySem.W.kitOne K (.type "tuple") (.type "tuple") = some true := kit_ty (by decide +kernel)
theorem eqv_non (l : List BM.Deed) : PyData.eqv (.list (l.map dD)) (.list [.none]) = false := by
  cases l with
  | nil => simp [PyData.eqv, PyData.eqvAll]
  | cons d l => cases d <;> simp [dD, PyData.eqv, PyData.eqvAll]
theorem r_all5 {H : Hp} {D : Addr} {Q : VK} (h : H D = some (.lst (((List.range 5).filter fun _ => true).map fun _ => V.bl true))) (k : Q (.bl true) H) : rAll K [.ref D] H Q := by
  refine ⟨D, List.replicate 5 true, rfl, sl_of (h.trans ?_), k⟩
  rfl
theorem LI.kept {H H1 H2 : Hp} {g c b lg un kl d : Addr} {B : BkA} {a : Adr} {log und : List BM.Deed} {L Lh : BM.Ln} {kv : List V} {s q : Addr} {n : Nat} {cs : List (Nat × Int)} (I : LI K H g c b lg un kl d B a log und L Lh kv) (e1 : Same H H1) (new : SchNew K H H1 s n cs) (e2 : Same H1 H2) (hq : H1 q = none)
    (h2 : H2 q = some (.tup [.ref s, .str (schTxt n cs)])) (ok : CsOk n cs) : KeptAt K (out (mu g kl b lg un B a) H2) (.ref q) := by
  obtain ⟨dx, l, us, s1, l1, r1, s0, l0⟩ := new
  have I2 := I.same (same_trans e1 e2)
  have fr : ∀ p, H p = none → p ∉ mu g kl b lg un B a := fun p hp z => I.some_ p z hp
  refine ⟨q, s, n, cs, rfl, (out_ne (fr q (none_below e1 hq))).trans h2, ⟨dx, l, us, (out_ne (fr s s0)).trans (e2 _ _ s1), (out_ne (fr l l0)).trans (e2 _ _ l1), pair_mono r1 fun u c z => ?_⟩, ok⟩
  obtain ⟨t, rfl, ht⟩ := z
  exact ⟨t, rfl, (out_ne (fun z => I2.notup t z _ (e2 _ _ ht))).trans (e2 _ _ ht)⟩
theorem sc_law : FnScope ["_law_script", "_law_bag_here", "_law_book", "_law_here", "_law_log", "_law_undone", "_law_kept", "_law_way", "_law_turn", "_law_deed_here", "_law_at", "_law_later_here", "_law_told", "_law_one", "_law_text"] ["_law_script"] (defScope s_law) := ⟨rfl, rfl, rfl, by decide +kernel, rfl, by decide +kernel, by decide +kernel⟩
theorem ok_law (T : Tx K mg) : DefG P w K mg base 12 (He.ga K "law") ["_law_script"] (spLaw K) := by
  have G_law_bag := ok_law_bag (P := P) (w := w) (base := base) T
  have G_law_take := ok_law_take (P := P) (w := w) (base := base) T
  have G_law_new := ok_law_new (P := P) (w := w) (base := base) T
  have G_law_do := ok_law_do (P := P) (w := w) (base := base) T
  have G_law_replay := ok_law_replay (P := P) (w := w) (base := base) T
  have G_law_deed := ok_law_deed (P := P) (w := w) (base := base) T
  have G_law_empty := ok_law_empty (P := P) (w := w) (base := base) T
  have G_law_right := ok_law_right (P := P) (w := w) (base := base) T
  have G_law_one_right := ok_law_one_right (P := P) (w := w) (base := base) T
  have G_law_stepped := ok_law_stepped (P := P) (w := w) (base := base) T
  have G_law_later := ok_law_later (P := P) (w := w) (base := base) T
  have G_law_refused := ok_law_refused (P := P) (w := w) (base := base) T
  have G_law_changed := ok_law_changed (P := P) (w := w) (base := base) T
  have G_Book_init := ok_Book_init (P := P) (w := w) (base := base) T
  have G_Book_missed := ok_Book_missed (P := P) (w := w) (base := base) T
  have G_Book_do := ok_Book_do (P := P) (w := w) (base := base) T
  have G_Book_schedule := ok_Book_schedule (P := P) (w := w) (base := base) T
  have G_Schedule_repr := ok_Schedule_repr (P := P) (w := w) (base := base) T
  refine mkGx T.f_law sc_law (fun _ _ _ _ _ _ us hl => match us, hl with | [_], _ => rfl) (fun vs H Q E h => ?_) (fun cdv A outer s H vs Q gd hr h => ?_)
  · obtain ⟨a, xs, rfl, _⟩ := h
    rfl
  · obtain ⟨a0, xs, rfl, hS, kk⟩ := h
    refine ⟨_, (pss_cons (ps_set (i := 1) sc_law.nd rfl (Or.inl rfl) (pe_cl G_law_bag (hr.mono (by decide)) T.g_law_bag pass0 (pa_cons (pv 0) pa_nil)))
    (pss_cons (ps_asg (pe_tup (pa_cons (pe_mk0 T.k_Book G_Book_init (hr.mono (by decide)) T.g_Book pass0) (pa_cons (pe_cl0 G_law_new (hr.mono (by decide)) T.g_law_new pass0) (pa_cons (pe_lst pa_nil) (pa_cons (pe_lst pa_nil) (pa_cons (pe_lst pa_nil) pa_nil)))))) (pg_tupK (n := 5) rfl rfl (pgs_cons (pg_name (i := 2) sc_law.nd rfl (Or.inr rfl)) (pgs_cons (pg_name (i := 3) sc_law.nd rfl (Or.inl rfl)) (pgs_cons (pg_name (i := 4) sc_law.nd rfl (Or.inl rfl)) (pgs_cons (pg_name (i := 5) sc_law.nd rfl (Or.inl rfl)) (pgs_cons (pg_name (i := 6) sc_law.nd rfl (Or.inl rfl)) pgs_nil)))))))
    (pss_cons (ps_if (PW.pt (pw_or (pt_cmpR (op_neDK rfl hr.units) (pe_mt0 (pv 2) T.c_Book T.m_Book_missed G_Book_missed (hr.mono (by decide)) pass0) (pe_lst pa_nil) (nomark _)) (pw_or1 (pt_not (pt_val (pe_callB (cr_allK rfl rfl) (by rfl) T.n_all (by decide +kernel) (pa_cons (pe_lc (own := [("_law_way", 7)]) (by rfl) sc_law.nd (pi_range1 (by rfl) T.n_range (pa_cons pe_int pa_nil)) (blkOk_by (by kernel_rfl)) (fun _ _ _ _ _ => (pg_name (i := 7) sc_law.nd rfl (Or.inl rfl))) (fun _ _ _ _ _ => pts_nil) (fun _ _ _ _ _ => (pe_cl G_law_empty (hr.mono (by decide)) T.g_law_empty pass0 (pa_cons (pv 2) (pa_cons (pv 7) pa_nil))))) pa_nil)))))))
    (pss_one (ps_ret pe_bl)) pss_nil)
    (pss_cons (ps_for PassesOwn.never rfl (pi_range1 (by rfl) T.n_range (pa_cons (pe_cl G_law_take (hr.mono (by decide)) T.g_law_take pass0 (pa_cons (pv 1) (pa_cons pe_int pa_nil))) pa_nil)) (pg_name (i := 8) sc_law.nd rfl (Or.inl rfl))
    (pss_cons (ps_par3 (i := 9) (j := 10) (l := 7) (by rfl) sc_law.nd rfl rfl rfl (by decide) (by decide) (by decide) rfl rfl rfl (pa_cons (pe_cl G_law_deed (hr.mono (by decide)) T.g_law_deed pass0 (pa_cons (pv 1) (pa_cons (pv 3) pa_nil))) (pa_cons (pe_cl G_law_take (hr.mono (by decide)) T.g_law_take pass0 (pa_cons (pv 1) (pa_cons (pe_op op_add (pe_callB (call_lenK rfl) (by rfl) T.n_len PySem.boot_len (pa_cons (pv 4) pa_nil)) pe_int) pa_nil))) (pa_cons (pe_cl G_law_take (hr.mono (by decide)) T.g_law_take pass0 (pa_cons (pv 1) (pa_cons pe_int pa_nil))) pa_nil))) (by rfl))
    (pss_cons (ps_set (i := 11) sc_law.nd rfl (Or.inl rfl) (pe_cl G_law_later (hr.mono (by decide)) T.g_law_later pass0 (pa_cons (pv 4) (pa_cons (pe_callB (call_min2 rfl) (by rfl) T.n_min (by decide +kernel) (pa_cons (pe_callB (call_max2 rfl) (by rfl) T.n_max (by decide +kernel) (pa_cons (pv 7) (pa_cons pe_int pa_nil))) (pa_cons pe_int pa_nil))) (pa_cons (pv 10) (pa_cons (pv 9) pa_nil))))))
    (pss_cons (ps_if (pt_cmpR op_lt (pv 7) pe_int (nomark _))
    (pss_cons (ps_if (pt_not (pt_val (pe_clG G_law_stepped (hr.mono (by decide)) gd T.g_law_stepped (pa_cons (pv 2) (pa_cons (pv 4) (pa_cons (pv 5) (pa_cons (pe_op op_fdivW (pv 7) pe_int) pa_nil)))))))
    (pss_one (ps_ret pe_bl)) pss_nil)
    (pss_one (ps_set (i := 3) sc_law.nd rfl (Or.inl rfl) (pe_cl G_law_replay (hr.mono (by decide)) T.g_law_replay pass0 (pa_cons (pv 4) pa_nil))))) (pss_one (ps_if (PW.pt (pw_and (pt_cmpR op_lt (pv 7) pe_int (nomark _)) (pw_and1 (pt_val (pe_callB (call_isiK rfl) (by rfl) T.n_isinstance (by decide +kernel) (pa_cons (pe_cl G_law_replay (hr.mono (by decide)) T.g_law_replay pass0 (pa_cons (pv 11) pa_nil)) (pa_cons (pe_ty T.n_dict (by decide +kernel) (n := "dict")) pa_nil)))))))
    (pss_cons (ps_expr (pe_cl G_law_changed (hr.mono (by decide)) T.g_law_changed pass0 (pa_cons (pv 2) (pa_cons (pv 7) (pa_cons (pv 10) (pa_cons (pv 9) (pa_cons (pv 11) pa_nil)))))))
    (pss_one (ps_par3 (i := 4) (j := 3) (l := 5) (by rfl) sc_law.nd rfl rfl rfl (by decide) (by decide) (by decide) rfl rfl rfl (pa_cons (pv 11) (pa_cons (pe_cl G_law_replay (hr.mono (by decide)) T.g_law_replay pass0 (pa_cons (pv 11) pa_nil)) (pa_cons (pe_lst pa_nil) pa_nil))) (by rfl)))) (pss_one (ps_if (PW.pt (pw_and (pt_cmpR op_lt (pv 7) pe_int (nomark _)) (pw_and1 (pt_cmpR (op_neDK rfl hr.units) (pv 11) (pe_lst (pa_cons pe_non pa_nil)) (nomark _)))))
    (pss_one (ps_if (pt_not (pt_val (pe_cl G_law_refused (hr.mono (by decide)) T.g_law_refused pass0 (pa_cons (pv 2) (pa_cons (pv 7) (pa_cons (pv 10) (pa_cons (pv 9) pa_nil)))))))
    (pss_one (ps_ret pe_bl)) pss_nil)) (pss_one (ps_if (pt_val (pe_callB (call_isiK rfl) (by rfl) T.n_isinstance (by decide +kernel) (pa_cons (pe_cl G_law_do (hr.mono (by decide)) T.g_law_do pass0 (pa_cons (pv 3) (pa_cons (pv 9) pa_nil))) (pa_cons (pe_ty T.n_tuple (by decide +kernel) (n := "tuple")) pa_nil))))
    (pss_one (ps_if (pt_not (pt_val (pe_cl G_law_refused (hr.mono (by decide)) T.g_law_refused pass0 (pa_cons (pv 2) (pa_cons pe_int (pa_cons (pv 10) (pa_cons (pv 9) pa_nil)))))))
    (pss_one (ps_ret pe_bl)) pss_nil)) (pss_cons (ps_expr (pe_mt (pv 2) T.c_Book T.m_Book_do G_Book_do (hr.mono (by decide)) passN0 (pa_cons (pv 9) pa_nil)))
    (pss_cons (ps_expr (pe_bmK rfl PySem.F.plainAttrs_list PySem.F.slot_list_append PySem.F.type_list_append mt_append (pv 4) (pa_cons (pv 9) pa_nil)))
    (pss_one (ps_set (i := 5) sc_law.nd rfl (Or.inl rfl) (pe_lst pa_nil))))))))))))
    (pss_cons (ps_if (PW.pt (pw_and (pt_cmpR (op_neDK rfl hr.units) (pe_dget (hu_of hr) (pv 3) pe_str (fun _ _ => rfl)) (pe_lst pa_nil) (nomark _)) (pw_and (pt_cmpR op_eq (pe_cl G_law_take (hr.mono (by decide)) T.g_law_take pass0 (pa_cons (pv 1) (pa_cons pe_int pa_nil))) pe_int (nomark _)) (pw_and1 (pt_not (pt_val (pe_clG G_law_one_right (hr.mono (by decide)) gd T.g_law_one_right (pa_cons (pv 1) (pa_cons (pv 2) (pa_cons (pv 3) pa_nil))))))))))
    (pss_one (ps_ret pe_bl)) pss_nil)
    (pss_cons (ps_if (PW.pt (pw_and (pt_cmpR (op_neDK rfl hr.units) (pe_dget (hu_of hr) (pv 3) pe_str (fun _ _ => rfl)) (pe_lst pa_nil) (nomark _)) (pw_and1 (pt_cmpR op_eq (pe_cl G_law_take (hr.mono (by decide)) T.g_law_take pass0 (pa_cons (pv 1) (pa_cons pe_int pa_nil))) pe_int (nomark _)))))
    (pss_cons (ps_if (pt_not (pt_val (pe_clG G_law_right (hr.mono (by decide)) gd T.g_law_right (pa_cons (pv 2) (pa_cons (pv 3) pa_nil)))))
    (pss_one (ps_ret pe_bl)) pss_nil)
    (pss_cons (ps_set (i := 12) sc_law.nd rfl (Or.inl rfl) (pe_mt0 (pv 2) T.c_Book T.m_Book_schedule G_Book_schedule (hr.mono (by decide)) passN0))
    (pss_one (ps_expr (pe_bmK rfl PySem.F.plainAttrs_list PySem.F.slot_list_append PySem.F.type_list_append mt_append (pv 6) (pa_cons (pe_tup (pa_cons (pv 12) (pa_cons (pe_callB (cr_reprO G_Schedule_repr T.m_Schedule_repr gd (hr.mono (by decide))) (by rfl) T.n_repr (by decide +kernel) (pa_cons (pv 12) pa_nil)) pa_nil))) pa_nil)))))) pss_nil)
    (pss_one (ps_if (PW.pt (pw_and (pt_cmpR (op_eqDK rfl hr.units) (pe_dget (hu_of hr) (pv 3) pe_str (fun _ _ => rfl)) (pe_lst pa_nil) (nomark _)) (pw_and1 (pt_not (pt_val (pe_callB (cr_allK rfl rfl) (by rfl) T.n_all (by decide +kernel) (pa_cons (pe_lc (own := [("_law_way", 7)]) (by rfl) sc_law.nd (pi_range1 (by rfl) T.n_range (pa_cons pe_int pa_nil)) (blkOk_by (by kernel_rfl)) (fun _ _ _ _ _ => (pg_name (i := 7) sc_law.nd rfl (Or.inl rfl))) (fun _ _ _ _ _ => pts_nil) (fun _ _ _ _ _ => (pe_cl G_law_empty (hr.mono (by decide)) T.g_law_empty pass0 (pa_cons (pv 2) (pa_cons (pv 7) pa_nil))))) pa_nil)))))))
    (pss_one (ps_ret pe_bl)) pss_nil))))))))
    (pss_cons (ps_if (pt_cmpR (op_neDK rfl hr.units) (pe_lc (own := [("_law_one", 13), ("_law_text", 14)]) (by rfl) sc_law.nd (pi_listK rfl (pv 6)) (blkOk_by (by kernel_rfl)) (fun _ _ _ _ _ => (pg_tupK (n := 2) rfl rfl (pgs_cons (pg_name (i := 13) sc_law.nd rfl (Or.inl rfl)) (pgs_cons (pg_name (i := 14) sc_law.nd rfl (Or.inl rfl)) pgs_nil)))) (fun _ _ _ _ _ => pts_one (pt_cmpR op_ne (pe_callB (cr_reprO G_Schedule_repr T.m_Schedule_repr gd (hr.mono (by decide))) (by rfl) T.n_repr (by decide +kernel) (pa_cons (pv 13) pa_nil)) (pv 14) (nomark _))) (fun _ _ _ _ _ => (pv 13))) (pe_lst pa_nil) (nomark _))
    (pss_one (ps_ret pe_bl)) pss_nil)
    (pss_one (ps_ret (pe_or (pe_cmpR (op_eqDK rfl hr.units) (pe_dget (hu_of hr) (pv 3) pe_str (fun _ _ => rfl)) (pe_lst pa_nil) (nomark _)) (pe_one (pe_clG G_law_right (hr.mono (by decide)) gd T.g_law_right (pa_cons (pv 2) (pa_cons (pv 3) pa_nil)))))))))))), ?_⟩
    walk_at "go"
    refine ⟨a0, xs, rfl, hS, fun g c H1 e1 hg hc bag => ?_⟩
    walk_at "go"
    refine r_mkBook fun b B H2 e2 hb hB bk => ?_
    walk_at "go"
    refine ⟨rfl, fun d a H3 e3 hd ha hda hh => ?_⟩
    walk_at "go"
    refine r_new (by simp) fun lg H4 e4 hlg h4 => ?_
    walk_at "go"
    refine r_new (by simp) fun un H5 e5 hun h5 => ?_
    walk_at "go"
    refine r_new (by simp) fun kl H6 e6 hkl h6 => ?_
    walk_at "go"
    have I6 : LI K H6 g c b lg un kl d B a [] [] .zero .zero [] := li_start bag e2 hb hB bk e3 ha hh e4 hlg h4 e5 hun h5 e6 hkl h6
    refine r_new (by simp) fun t7 H7 e7 ht7 h7 => ?_
    refine r_gtup h7 rfl ?_
    walk_at "go"
    have I7 := I6.same e7
    refine r_meth I7.bkh.choose_spec rfl ?_
    walk_at "go"
    refine ⟨b, .zero, rfl, I7.sd.bk.rd, fun p8 H8 e8 hp8 h8 => ?_⟩
    walk_at "go"
    refine r_new (by simp) fun p9 H9 e9 hp9 h9 => ?_
    refine r_neN (l := []) (m := []) (e9 _ _ h8) h9 ?_
    rw [decide_eq_true rfl]
    walk_at "go"
    have I9 := I7.same (same_trans e8 e9)
    refine r_ra (by decide) (by decide) ?_
    intro D hD
    refine lc_vals (walk_range (lo := 0) (n := 5)) hD (fun _ => true) (fun _ => .bl true) (by decide) (fun H1 e => trivial) (fun i H x H' y => fn_same y) (fun j v H10 H11 QY QN hj e y kY kN => ?_) (fun H10 e10 hD10 => ?_)
    · obtain ⟨rfl, rfl⟩ := y
      walk_at "go"
      refine ⟨rfl, ?_⟩
      walk_at "go"
      exact ⟨b, .zero, _, rfl, (I9.same e).sd.bk.rd, I9.lo.small, rfl, fun H12 e12 => kY rfl _ e12⟩
    walk_at "go"
    refine r_all5 hD10 ?_
    walk_at "go"
    have I10 := I9.same e10
    refine ⟨g, c, 41, rfl, I10.bag, by decide, by decide, fun v H11 e11 bag11 v0 v41 => ?_⟩
    have I11 := I10.draw e11 bag11
    clear I10 I9 I7 I6 h7 h6 h5 h4 hlg hun hkl hh hda bk bag hB ha
    walk_at "go"
    refine r_ra v0 (by omega) ?_
    refine for_it (walk_range (lo := 0) (n := v.toNat)) (fun t σ H => LS K a0 g c b kl t t σ H) ⟨lg, un, d, B, a, [], [], .zero, [], _, _, _, _, _, _, _, _, rfl, I11, by simp, by simp⟩ (fun t σ H5 _ z => trivial) (fun t v σ H5 H6 ht z y => ?_) (fun σ H5 z => ?_)
    · obtain ⟨rfl, rfl⟩ := y
      obtain ⟨lg, un, d, B, a, log, und, L, kv, o7, o8, o9, o10, o11, o12, o13, o14, rfl, I, hn, hkv⟩ := z
      walk_at "go"
      refine r_par3 ?_
      walk_at "go"
      have ht : t < v.toNat := ht
      refine ⟨g, c, d, a, L, rfl, ⟨I.bag, I.here, fun z => I.og (List.mem_cons_of_mem _ (mem_w2 z))⟩, I.lo.small, fun v9 H7 dd e7 bh7 dv7 dok => ?_⟩
      have I7 := I.draw e7 bh7.bag
      obtain ⟨us, g7, d7⟩ := I7.sd.glog
      walk_at "go"
      refine r_lenL g7 ?_
      rw [d7.length]
      walk_at "go"
      refine ⟨g, c, _, rfl, I7.bag, by omega, by omega, fun at_ H8 e8 bag8 at0 at1 => ?_⟩
      have I8 := I7.draw e8 bag8
      have dv8 : DeedAt H8 v9 dd := deedAt_but dv7 e8 I7.bag.notup
      walk_at "go"
      refine ⟨g, c, 14, rfl, I8.bag, by decide, by decide, fun way H9 e9 bag9 w0 w14 => ?_⟩
      have I9 := I8.draw e9 bag9
      have dv9 : DeedAt H9 v9 dd := deedAt_but dv8 e9 I8.bag.notup
      walk_at "go"
      refine r_par3' ?_
      walk_at "go"
      refine r_max2 ?_
      walk_at "go"
      refine r_max2 ?_
      obtain ⟨i, rfl⟩ := Int.eq_ofNat_of_zero_le at0
      obtain ⟨m, hm⟩ : ∃ m : Int, (if (5 : Int) < (if (3 : Int) > way then 3 else way) then (5 : Int) else (if (3 : Int) > way then 3 else way)) = m := ⟨_, rfl⟩
      rw [hm]
      have m3 : 3 ≤ m := by rw [← hm]; split <;> split <;> omega
      have m5 : m ≤ 5 := by rw [← hm]; split <;> split <;> omega
      have mw : 3 ≤ way → way ≤ 5 → m = way := fun h1 h2 => by rw [← hm]; split <;> split <;> omega
      have il : i ≤ log.length := by omega
      obtain ⟨us9, g9, d9⟩ := I9.sd.glog
      walk_at "go"
      refine ⟨lg, us9, log, m, i, v9, dd, rfl, g9, d9, by omega, il, m3, m5, dv9, fun p us' H10 e10 hp h10 la => ?_⟩
      refine r_name ?_
      with_reducible refine r_seqG (fun σ H => LS K a0 g c b kl (t + 1) t σ H) (fun nx hnx => ?_) (fun σ H z => ?_)
      · have I10 := I9.same e10
        have dv10 := dv9.mono e10
        have hq : Same H9 H10 := e10
        have okl : ∀ d ∈ log, d.ok := fun d hd => I.lo.ok d (by simp [hd])
        refine r_ifG (fun H11 => H11 = H10 ∧ way < 3) (fun H11 => H11 = H10 ∧ 3 ≤ way) (fun QB k1 k2 => ?_) (fun H11 q => ?_) (fun H11 q => ?_)
        · walk_at "go"
          by_cases hw : way < 3
          · rw [decide_eq_true hw]
            exact k1 _ ⟨rfl, hw⟩
          · rw [decide_eq_false hw]
            exact k2 _ ⟨rfl, by omega⟩
        · obtain ⟨rfl, hw⟩ := q
          walk_at "go"
          refine r_I ⟨by decide, by decide +kernel⟩ ?_
          walk_at "go"
          refine ⟨b, lg, un, B, log, und, L, way / 2, rfl, I10.sd, I10.lo, by omega, fun B' log' und' L' H12 mv => ?_⟩
          have I12 := I10.moved mv
          have ln := stepD_len mv.st
          obtain ⟨us12, g12, d12⟩ := I12.sd.glog
          walk_at "go"
          refine ⟨lg, us12, rfl, g12, .inl ⟨log', d12, fun d hd => I12.lo.ok d (by simp [hd]), by omega, fun z => ?_, fun L2 h2 d' a' H13 e13 hd' ha' hh' => ?_⟩⟩
          · rw [I12.lo.r] at z
            cases z
          · rw [I12.lo.r] at h2
            cases h2
            walk_at "go"
            exact hnx _ _ ⟨lg, un, d', B', a', log', und', L', kv, _, _, _, _, _, _, _, _, rfl, I12.again e13 ha' hh', by omega, hkv⟩
        · obtain ⟨rfl, hw⟩ := q
          refine r_ifG (fun H12 => ∃ ds L', laterD log m i dd = some ds ∧ BM.replay ds = some L' ∧ way < 6 ∧ Same H11 H12) (fun H12 => Same H11 H12 ∧ (way < 6 → ∀ ds, laterD log m i dd = some ds → BM.replay ds = none)) (fun QB k1 k2 => ?_) (fun H12 q => ?_) (fun H12 q => ?_)
          · walk_at "go"
            by_cases w6 : way < 6
            · rw [decide_eq_true w6]
              walk_at "go"
              cases hlat : laterD log m i dd with
              | none =>
                rw [hlat] at la
                refine ⟨p, us', rfl, h10, .inr ⟨la, fun j H12 e12 => ?_⟩⟩
                walk_at "go"
                refine r_isi (.ty _) (.base (.int _)) kt_id ?_
                walk_at "go"
                exact k2 _ ⟨e12, fun _ ds z => by rw [hlat] at z; cases z⟩
              | some ds =>
                rw [hlat] at la
                obtain ⟨okd, lnd⟩ := laterD_ok hlat okl dok
                refine ⟨p, us', rfl, h10, .inl ⟨ds, la, okd, by omega, fun z j H12 e12 => ?_, fun L' h2 d' a' H12 e12 hd' ha' hh' => ?_⟩⟩
                · walk_at "go"
                  refine r_isi (.ty _) (.base (.int _)) kt_id ?_
                  walk_at "go"
                  exact k2 _ ⟨e12, fun _ ds' z' => by rw [hlat] at z'; cases z'; exact z⟩
                · walk_at "go"
                  refine r_isi (.ty _) (.base (.dK hh'.d)) kt_dd ?_
                  walk_at "go"
                  exact k1 _ ⟨ds, L', hlat, h2, w6, e12⟩
            · rw [decide_eq_false w6]
              walk_at "go"
              exact k2 _ ⟨same_refl _, fun z => absurd z w6⟩
          · obtain ⟨ds, L', hlat, hrep, w6, e12⟩ := q
            obtain rfl := mw hw (by omega)
            have e912 := same_trans e10 e12
            have I12 := I10.same e12
            obtain ⟨okd, lnd⟩ := laterD_ok hlat okl dok
            have ds12 : Deeds H12 us' ds := by
              rw [hlat] at la
              exact deeds_mono la e12
            have h12 := e12 _ _ h10
            walk_at "go"
            refine ⟨b, p, B, log, und, ds, L, L', m, i, v9, dd, us', rfl, I12.sd.bk, okl, by omega, il, hw, by omega, dv10.mono e12, dok, h12, ds12, hlat, hrep, fun r B' H13 bt fr bk => ?_⟩
            with_reducible refine r_par3 ?_
            walk_at "go"
            have pb : p ∉ [b] := fun z => by
              obtain ⟨dx, e⟩ := I9.bkh
              rw [List.mem_singleton.mp z, e] at hp
              cases hp
            have nt1 : ∀ q ∈ [b], ∀ xs, H12 q ≠ some (.tup xs) := fun q hq xs z => by
              obtain ⟨dx, e⟩ := I12.bkh
              rw [List.mem_singleton.mp hq, e] at z
              cases z
            have ds13 := deeds_but ds12 bt nt1
            refine ⟨p, us', rfl, bt _ _ h12 pb, .inl ⟨ds, ds13, okd, by omega, fun z => (by rw [hrep] at z; cases z), fun L2 h2 d' a' H14 e14 hd' ha' hh' => ?_⟩⟩
            rw [hrep] at h2
            cases h2
            walk_at "go"
            refine r_new (by simp) fun un' H15 e15 hun' h15 => ?_
            walk_at "go"
            refine r_par3' ?_
            exact hnx _ _ ⟨p, un', d', B', a', ds, [], L', kv, _, _, _, _, _, _, _, _, rfl, I9.changed e912 hp h12 ds12 bt fr bk e14 ha' hh' e15 hun' h15 (.fresh okd hrep (by omega)), by simp; omega, hkv⟩
          · obtain ⟨e12, hlat⟩ := q
            have I12 := I10.same e12
            have e912 := same_trans e10 e12
            have dv12 := dv10.mono e12
            refine r_ifG (fun H13 => way < 5 ∧ (∃ ds, laterD log m i dd = some ds) ∧ Same H12 H13) (fun H13 => Same H12 H13) (fun QB k1 k2 => ?_) (fun H13 q => ?_) (fun H13 q => ?_)
            · walk_at "go"
              by_cases w5 : way < 5
              · rw [decide_eq_true w5]
                walk_at "go"
                refine r_new (by simp) fun p0 H13 e13 hp0 h13 => ?_
                have h12 := e13 _ _ (e12 _ _ h10)
                have dn : Dp K H13 (.ref p0) (.list [.none]) := .lst (sl_of h13) (.cons .non .nil)
                have shn : SeqAt.shaped (.list [.none]) = true := by decide +kernel
                cases hl : laterD log m i dd with
                | none =>
                  rw [hl] at la
                  obtain rfl : us' = [.non] := la
                  refine r_neD (.lst (sl_of h12) (.cons .non .nil)) dn shn shn (c := true) (by decide +kernel) ?_
                  walk_at "go"
                  exact k2 _ e13
                | some ds =>
                  rw [hl] at la
                  have la : Deeds H11 us' ds := la
                  refine r_neD (dp_DL h12 (deeds_mono la (same_trans e12 e13))) dn (sh_Ds ds) shn (c := false) (eqv_non ds) ?_
                  walk_at "go"
                  exact k1 _ ⟨w5, ⟨ds, hl⟩, e13⟩
              · rw [decide_eq_false w5]
                walk_at "go"
                exact k2 _ (same_refl _)
            · obtain ⟨w5, ⟨ds, hl⟩, e13⟩ := q
              have I13 := I12.same e13
              have hno := hlat (by omega) ds hl
              obtain rfl := mw hw (by omega)
              walk_at "go"
              refine ⟨b, B, log, und, L, m, i, v9, dd, rfl, I13.sd.bk, I13.lo.small, okl, by omega, il, dv12.mono e13, dok, (later_cond hl hno hw w5).elim .inl fun z => .inr (.inl z), fun H14 e14 => ?_⟩
              walk_at "go"
              exact hnx _ _ ⟨lg, un, d, B, a, log, und, L, kv, _, _, _, _, _, _, _, _, rfl, I13.same e14, by omega, hkv⟩
            · have I13 := I12.same q
              have dv13 := dv12.mono q
              refine r_ifG (fun H14 => L.step dd = none ∧ Same H13 H14) (fun H14 => ∃ L', L.step dd = some L' ∧ LI K H14 g c b lg un kl d B a log und L L' kv ∧ DeedAt H14 v9 dd) (fun QB k1 k2 => ?_) (fun H14 q => ?_) (fun H14 q => ?_)
              · walk_at "go"
                refine ⟨d, a, L, v9, dd, rfl, I13.here, I13.lo.small, dv13, fun hs q H14 xs e14 hq h14 => ?_, fun L' hs r H14 b14 hh14 pl => ?_⟩
                · walk_at "go"
                  refine r_isi (.ty _) (.base (.tup h14)) kt_tt ?_
                  walk_at "go"
                  exact k1 _ ⟨hs, e14⟩
                · have J : LI K H14 g c b lg un kl d B a log und L L' kv := I13.did b14 hh14
                  have dv14 : DeedAt H14 v9 dd := deedAt_but dv13 b14 (I13.nt fun p hp => mem_w2 hp)
                  walk_at "go"
                  rcases pl with ⟨z, rfl⟩ | ⟨z, rfl⟩
                  · refine r_isi (.ty _) (.base (.int _)) kt_it ?_
                    walk_at "go"
                    exact k2 _ ⟨L', hs, J, dv14⟩
                  · refine r_isi (.ty _) (.base (.bl _)) kt_bt ?_
                    walk_at "go"
                    exact k2 _ ⟨L', hs, J, dv14⟩
              · obtain ⟨hs, e14⟩ := q
                have I14 := I13.same e14
                walk_at "go"
                refine ⟨b, B, log, und, L, 6, i, v9, dd, rfl, I14.sd.bk, I14.lo.small, okl, by omega, il, dv13.mono e14, dok, .inr (.inr ⟨by decide, by decide, hs⟩), fun H15 e15 => ?_⟩
                walk_at "go"
                exact hnx _ _ ⟨lg, un, d, B, a, log, und, L, kv, _, _, _, _, _, _, _, _, rfl, I14.same e15, by omega, hkv⟩
              · obtain ⟨L', hs, I14, dv14⟩ := q
                obtain ⟨us14, g14, d14⟩ := I14.sd.glog
                walk_at "go"
                refine r_meth I14.bkh.choose_spec rfl ?_
                walk_at "go"
                refine ⟨b, B, log, und, L, v9, dd, rfl, I14.sd.bk, I14.lo.small, by omega, dv14, dok, fun z => (by rw [hs] at z; cases z), fun L2 h2 r B' H15 bn => ?_⟩
                rw [hs] at h2
                cases h2
                have g15 := bn.bt _ _ g14 I14.sd.ol
                walk_at "go"
                refine r_tyL g15 ?_
                walk_at "go"
                refine r_app g15 (by rw [d14.length]; omega) ?_
                walk_at "go"
                refine r_new (by simp) fun un' H16 e16 hun' h16 => ?_
                walk_at "go"
                exact hnx _ _ ⟨lg, un', d, B', a, log ++ [dd], [], L', kv, _, _, _, _, _, _, _, _, rfl, I14.done bn g14 d14 dv14 e16 hun' h16 (I14.lo.done dok hs (by omega)), by simp; omega, hkv⟩
      · obtain ⟨lg, un, d, B, a, log, und, L, kv, o7, o8, o9, o10, o11, o12, o13, o14, rfl, I, hn, hkv⟩ := z
        have h40 : log.length ≤ 40 := by omega
        have r40 : L.rs.length ≤ 40 := Nat.le_trans (BM.replay_ok (fun d hd => I.lo.ok d (by simp [hd])) I.lo.r).2 h40
        have ply := BM.replay_played (fun d hd => I.lo.ok d (by simp [hd])) I.lo.r
        have sm := I.lo.small
        with_reducible refine r_seqG (fun σ H => ∃ o12, σ = [some (.ref a0), some (.ref g), some (.ref b), some (.ref d), some (.ref lg), some (.ref un), some (.ref kl), o7, o8, o9, o10, o11, o12, o13, o14] ∧ LI K H g c b lg un kl d B a log und L L kv) (fun nx hnx => ?_) (fun σ H z => ?_)
        · walk_at "go"
          refine r_dg I.here.d rfl ?_
          walk_at "go"
          refine r_new (by simp) fun p1 H1 e1 hp1 h1 => ?_
          have I1 := I.same e1
          refine r_neL (l := L.ws) (m := []) I1.here.f.h1 h1 ?_
          walk_at "go"
          by_cases hw : L.ws = []
          · rw [decide_eq_true hw]
            walk_at "go"
            exact hnx _ _ ⟨_, rfl, I1⟩
          · rw [decide_eq_false hw]
            walk_at "go"
            refine ⟨g, c, 4, rfl, I1.bag, by decide, by decide, fun v2 H2 e2 bag2 _ _ => ?_⟩
            have I2 := I1.draw e2 bag2
            walk_at "go"
            refine iteD (fun h0 => ?_) (fun h0 => ?_)
            · walk_at "go"
              refine ⟨g, c, b, d, a, L, rfl, I2.bag, fun H' b' => ⟨(I2.butg b').1.bk.rd, (I2.butg b').2⟩, sm, hw, r40, sm.ok.n12, fun H3 e3 bag3 => ?_⟩
              walk_at "go"
              exact hnx _ _ ⟨_, rfl, I2.draw e3 bag3⟩
            · walk_at "go"
              exact hnx _ _ ⟨_, rfl, I2⟩
        · obtain ⟨o12', rfl, I⟩ := z
          clear o12
          with_reducible refine r_seqG (fun σ H => LS K a0 g c b kl (t + 1) (t + 1) σ H ∧ ∃ o12, σ = [some (.ref a0), some (.ref g), some (.ref b), some (.ref d), some (.ref lg), some (.ref un), some (.ref kl), o7, o8, o9, o10, o11, o12, o13, o14] ∧ ∃ kv, LI K H g c b lg un kl d B a log und L L kv ∧ kv.length ≤ t + 1) (fun nx hnx => ?_) (fun σ H z => ?_)
          · have hnx' : ∀ o12 H kv, LI K H g c b lg un kl d B a log und L L kv → kv.length ≤ t + 1 → nx [some (.ref a0), some (.ref g), some (.ref b), some (.ref d), some (.ref lg), some (.ref un), some (.ref kl), o7, o8, o9, o10, o11, o12, o13, o14] H := fun o12 H kv J hk => hnx _ _ ⟨⟨lg, un, d, B, a, log, und, L, kv, _, _, _, _, _, _, _, _, rfl, J, hn, hk⟩, _, rfl, _, J, hk⟩
            walk_at "go"
            refine r_dg I.here.d rfl ?_
            walk_at "go"
            refine r_new (by simp) fun p1 H1 e1 hp1 h1 => ?_
            have I1 := I.same e1
            refine r_neL (l := L.ws) (m := []) I1.here.f.h1 h1 ?_
            walk_at "go"
            by_cases hw : L.ws = []
            · rw [decide_eq_true hw]
              walk_at "go"
              exact hnx' _ _ _ I1 (by omega)
            · rw [decide_eq_false hw]
              walk_at "go"
              refine ⟨g, c, 4, rfl, I1.bag, by decide, by decide, fun v2 H2 e2 bag2 _ _ => ?_⟩
              have I2 := I1.draw e2 bag2
              walk_at "go"
              refine iteD (fun h0 => ?_) (fun h0 => ?_)
              · walk_at "go"
                refine ⟨b, d, a, L, rfl, I2.sd.bk.rd, I2.here, sm, hw, r40, ply, fun H3 e3 => ?_⟩
                have I3 := I2.same e3
                walk_at "go"
                refine r_meth I3.bkh.choose_spec rfl ?_
                walk_at "go"
                refine ⟨b, L, rfl, ⟨I3.sd.bk.rd, sm, fun z => absurd z hw⟩, fun _ sx H4 e4 new => ?_⟩
                have I4 := I3.same e4
                walk_at "go"
                refine r_tyL I4.kl_ ?_
                walk_at "go"
                refine r_reprSch new.at_ (csOk sm hw) ?_
                walk_at "go"
                refine r_new (by simp) fun q H5 e5 hq h5 => ?_
                have I5 := I4.same e5
                walk_at "go"
                refine r_app I5.kl_ (by omega) ?_
                exact hnx' _ _ _ (I5.keep (I3.kept e4 new e5 hq h5 (csOk sm hw))) (by simp; omega)
              · walk_at "go"
                exact hnx' _ _ _ I2 (by omega)
          · obtain ⟨ls, o12, rfl, kv, I, hkv⟩ := z
            walk_at "go"
            refine r_dg I.here.d rfl ?_
            walk_at "go"
            refine r_new (by simp) fun p1 H1 e1 hp1 h1 => ?_
            have I1 := I.same e1
            refine r_eqL (l := L.ws) (m := []) I1.here.f.h1 h1 ?_
            walk_at "go"
            by_cases hw : L.ws = []
            · rw [decide_eq_true hw]
              walk_at "go"
              refine r_ra (by decide) (by decide) ?_
              intro D hD
              refine lc_vals (walk_range (lo := 0) (n := 5)) hD (fun _ => true) (fun _ => .bl true) (by decide) (fun H1 e => trivial) (fun i H x H' y => fn_same y) (fun j v H10 H11 QY QN hj e y kY kN => ?_) (fun H10 e10 hD10 => ?_)
              · obtain ⟨rfl, rfl⟩ := y
                walk_at "go"
                refine ⟨rfl, ?_⟩
                walk_at "go"
                exact ⟨b, L, _, rfl, (I1.same e).sd.bk.rd, sm, hw, fun H12 e12 => kY rfl _ e12⟩
              walk_at "go"
              refine r_all5 hD10 ?_
              walk_at "go"
              exact ⟨lg, un, d, B, a, log, und, L, kv, _, _, _, _, _, _, _, _, rfl, I1.same e10, hn, hkv⟩
            · rw [decide_eq_false hw]
              walk_at "go"
              exact ⟨lg, un, d, B, a, log, und, L, kv, _, _, _, _, _, _, _, _, rfl, I1, hn, hkv⟩
    · obtain ⟨lg, un, d, B, a, log, und, L, kv, o7, o8, o9, o10, o11, o12, o13, o14, rfl, I, hn, hkv⟩ := z
      walk_at "go"
      refine r_li I.kl_ ?_
      intro D hD
      refine lc_vals (walk_list (xs := kv)) hD (fun _ => false) (fun _ => .non) (by omega) (fun H1 e => sl_of (e _ _ I.kl_)) (fun i H x H' y => at_same y) (fun j x H7 H8 QY QN hj e y kY kN => ?_) (fun H6 e6 hD6 => ?_)
      · obtain ⟨rfl, y⟩ := y
        obtain ⟨q, s, n, cs, rfl, hq, hs, ok⟩ := (I.ks x (List.mem_of_getElem? y)).mono (out_same _ _)
        refine r_gtup (e _ _ hq) rfl ?_
        walk_at "go"
        refine ⟨rfl, ?_⟩
        walk_at "go"
        refine r_reprSch (hs.mono e) ok ?_
        walk_at "go"
        rw [decide_eq_true rfl]
        walk_at "go"
        exact kN rfl _ (same_refl _)
      · rw [List.filter_eq_nil_iff.mpr (fun _ _ => by simp)] at hD6
        have I6 := I.same e6
        have h40 : log.length ≤ 40 := by omega
        have r40 : L.rs.length ≤ 40 := Nat.le_trans (BM.replay_ok (fun d hd => I.lo.ok d (by simp [hd])) I.lo.r).2 h40
        have ply := BM.replay_played (fun d hd => I.lo.ok d (by simp [hd])) I.lo.r
        walk_at "go"
        refine r_new (by simp) fun p7 H7 e7 hp7 h7 => ?_
        have I7 := I6.same e7
        refine r_neN (l := []) (m := []) (e7 _ _ hD6) h7 ?_
        rw [decide_eq_true rfl]
        walk_at "go"
        refine r_dg I7.here.d rfl ?_
        walk_at "go"
        refine r_new (by simp) fun p8 H8 e8 hp8 h8 => ?_
        have I8 := I7.same e8
        refine r_eqL (l := L.ws) (m := []) I8.here.f.h1 h8 ?_
        by_cases hw : L.ws = []
        · rw [decide_eq_true hw]
          walk_at "go"
          exact kk _
        · rw [decide_eq_false hw]
          walk_at "go"
          exact ⟨b, d, a, L, rfl, I8.sd.bk.rd, I8.here, I8.lo.small, hw, r40, ply, fun H9 _ => kk _⟩
end
end BW
namespace BW
open PySem PySem.Spec PyProof.Rows L2
theorem ints_vals : ∀ {us : List Value} {ns : List Int}, IntsAre us ns → Vals (vI ns) us
  | _, _, .nil => .nil
  | _, _, .cons _ t h => .cons ⟨t, rfl⟩ (ints_vals h)
section
variable {P : Program} {w : World} {K : PySem.W.Frag} {mg mb : Str → Option Value} {k : Nat} {fl a : Addr} {x : Str} {sp : Sp} {s1 : Shared} {us : List Value} {ns : List Int}
/-- the script's object -/
abbrev scrO (us : List Value) : Obj := { cls := .type "list", data := .seq us.toArray }
/-- what is tracked: nothing, or the script -/
structure Trk (K : PySem.W.Frag) (H : Hp) (a : Addr) (us : List Value) (ns : List Int) : Prop where
  only : ∀ b u, H b = some u → b = a ∧ K.lookup a = none ∧ u = .frz (scrO us) (.lst (vI ns))
  seen : SqL K H a (vI ns)
/-- the law's call, over a tracked heap -/
theorem call_trk {H : Hp} (t : Trk K H a us ns) (kin : K.In s1.heap) (nsG : s1.heap.Ns mainGlobals mg) (nsB : s1.heap.Ns builtinsNs mb) (bB : ∀ y : Str, y ≠ "__name__" → mb y = bootBuiltins y) (nl : s1.heap.NoLimit) (ng : s1.gens = #[])
    (ha : s1.heap.get? a = some (scrO us)) (iv : IntsAre us ns) (hl : ns.length ≤ sizeLine) (room : Room k callerA)
    (D : ∀ base : Heap, K.In base → base.Ns mainGlobals mg → DefG P w K mg base k fl [x] sp) (h : sp [.ref a] H (fun v _ => v = .bl true) E0) :
    codeAny (model P w) callerA (.call (.ref fl) ⟨[.ref a], []⟩) (fun r s2 => r = .ok (.ret (.bool true)) ∧ OldK s1.heap s2.heap ∧ s2.os = s1.os ∧ AllBare s2.gens) s1 := by
  have down : ∀ {b : Addr} {o : Obj}, s1.heap.get? b = some o → o ≠ scrO us → (hidT s1.heap H).get? b = some o := fun {b o} e n => by
    refine hidT_get e ?_
    cases q : H b with
    | none => rfl
    | some u =>
      obtain ⟨rfl, _, _⟩ := t.only b u q
      rw [ha] at e
      exact absurd (Option.some.inj e).symm n
  have nsD : ∀ {b : Addr} {m : Str → Option Value}, s1.heap.Ns b m → (hidT s1.heap H).Ns b m := fun {b m} z => by
    obtain ⟨o, es, ep, e, d, r⟩ := z
    refine ⟨o, es, ep, down e ?_, d, r⟩
    rintro rfl
    cases d
  have kD : K.In (hidT s1.heap H) := fun b o e => hidT_get (kin b o e) (by
    cases q : H b with
    | none => rfl
    | some u =>
      obtain ⟨rfl, n, _⟩ := t.only b u q
      rw [n] at e
      cases e)
  have lD : (hidT s1.heap H).NoLimit := by
    obtain ⟨mc, z1, z2⟩ := nl
    exact ⟨mc, nsD z1, z2⟩
  have okH : HOk P w H s1.heap := fun b u q => by
    obtain ⟨rfl, _, rfl⟩ := t.only b u q
    refine ⟨ha, ?_, us, _, ints_vals iv, ha⟩
    rw [vI_len]
    exact hl
  have env : Env0 P w K mg (hidT s1.heap H) callerA [] s1 H := by
    refine ⟨rfl, ⟨kD, nsD nsG, ⟨mb, nsD nsB, bB⟩, lD⟩, fun b o e => of_hidT e, ?_, trivial, fun b z => ?_, okH, .of_eq ng⟩
    · rw [hidT_size]
      exact Nat.le_refl _
    · cases z
  obtain ⟨⟨fd, F, bn⟩, _⟩ := D _ kD (nsD nsG)
  have bt := bn s1 [.ref a] kin rfl
  rw [List.append_nil] at bt
  refine codeAny_mono (F.run callerA [] s1 H ⟨[.ref a], []⟩ [.ref a] [.ref a] _ room rfl env bt (.cons rfl .nil) h) fun r s2 q => ?_
  cases r with
  | error e => exact (show False from q).elim
  | ok z =>
    cases z with
    | next => exact (show False from q).elim
    | brk => exact (show False from q).elim
    | cont => exact (show False from q).elim
    | ret u =>
      obtain ⟨v, H2, os2, bare2, un, ok2, rv, ev⟩ := q
      obtain rfl : v = .bl true := ev
      obtain rfl : u = Value.bool true := rv
      refine ⟨rfl, OldK.of_keep fun b o e => ?_, os2, bare2⟩
      cases q : H b with
      | none => exact un.keep b o e q (by simp [frs]) (by simp)
      | some u =>
        obtain ⟨rfl, _, rfl⟩ := t.only b u q
        rw [ha] at e
        cases e
        exact (ok2 _ _ (un.frzs _ _ _ q)).1
/-- the law's call -/
theorem call_law (kin : K.In s1.heap) (nsG : s1.heap.Ns mainGlobals mg) (nsB : s1.heap.Ns builtinsNs mb) (bB : ∀ y : Str, y ≠ "__name__" → mb y = bootBuiltins y) (nl : s1.heap.NoLimit) (ng : s1.gens = #[])
    (ha : s1.heap.get? a = some (scrO us)) (iv : IntsAre us ns) (hl : ns.length ≤ sizeLine) (room : Room k callerA)
    (D : ∀ base : Heap, K.In base → base.Ns mainGlobals mg → DefG P w K mg base k fl [x] sp) (h : ∀ H : Hp, SqL K H a (vI ns) → sp [.ref a] H (fun v _ => v = .bl true) E0) :
    codeAny (model P w) callerA (.call (.ref fl) ⟨[.ref a], []⟩) (fun r s2 => r = .ok (.ret (.bool true)) ∧ OldK s1.heap s2.heap ∧ s2.os = s1.os ∧ AllBare s2.gens) s1 := by
  cases q : K.lookup a with
  | some o =>
    have e := kin a o q
    rw [ha] at e
    cases e
    have e1 : us.toArray.size ≤ sizeLine := by
      have := (ints_vals iv).length
      rw [vI_len] at this
      rw [List.size_toArray]
      omega
    have sq : SqL K (fun _ => none) a (vI ns) := .inr ⟨_, us.toArray, _, q, rfl, rfl, rfl, e1, by simpa using ints_vals iv⟩
    have t : Trk K (fun _ => none) a us ns := ⟨fun b u z => (by cases z), sq⟩
    exact call_trk t kin nsG nsB bB nl ng ha iv hl room D (h _ t.seen)
  | none =>
    have t : Trk K (fun b => if b = a then some (.frz (scrO us) (.lst (vI ns))) else none) a us ns := by
      refine ⟨fun b u z => ?_, .inl (.inr ⟨scrO us, if_pos rfl⟩)⟩
      by_cases e : b = a
      · have z2 := (if_pos e).symm.trans z
        exact ⟨e, q, (Option.some.inj z2).symm⟩
      · have z2 := (if_neg e).symm.trans z
        cases z2
    exact call_trk t kin nsG nsB bB nl ng ha iv hl room D (h _ t.seen)
end
theorem walk_law {l : PySem.W.OpenLaw} {n k : Nat} {q : Program} {loose : List Str} {XP : (Str → Option Value) → Heap → Prop} {YP : World → Heap → Prop} {d : DefRec} {x : Str} (hn : l.most = some n) (hz : n ≤ sizeLine) (hd : d.params.defaults = []) (room : Room k callerA)
    (F : ∀ (w : World) (mg : Str → Option Value) (fl : Addr) (h : Heap), YP w h → h.Ns mainGlobals mg → mg d.name = some (.ref fl) → ∃ (K : PySem.W.Frag) (sp : Sp), K.In h ∧ (∀ (H : Hp) (a : Addr) (ns : List Int), SqL K H a (vI ns) → sp [.ref a] H (fun v _ => v = .bl true) E0) ∧
      ∀ base : Heap, K.In base → base.Ns mainGlobals mg → DefG l.prog w K mg base k fl [x] sp) : PySem.W.WalkO q loose XP YP l.row.toRowW d [] (fun f vs => PySem.call f vs) := by
  refine Att.attach_call hn hd fun w s0 s1 mg mb fl o pm cd doc a us ns G Y ho hfd hcd hmg ha iv len ng => ?_
  obtain ⟨K, sp, kin, hs, hD⟩ := F w mg fl _ Y G.T.g hmg
  exact call_law kin G.T.g G.T.b G.T.builtins G.T.nolimit ng ha iv (Nat.le_trans len hz) room hD fun H => hs H a ns
end BW
namespace BW
open PySem PySem.Spec PyProof.Rows L2
theorem tx_of {K : PySem.W.Frag} {h : Heap} {mg : Str → Option Value} (kin : K.In h) (g : h.Ns mainGlobals mg) (c : obsB K = valB) : Tx K mg := ⟨(saysB c).1, ⟨h, kin, g⟩, (saysB c).2⟩
end BW
open PySem PySem.W PySem.Calls PyProof.Rows
set_option maxRecDepth 100000 in
set_option maxHeartbeats 0 in
theorem PySem.Challenge.cw_bearsmisses_k93_whole_books_are_schedule_holds : PySem.Challenge.rw_bearsmisses_k93_whole_books_are_schedule.Holds := by
  w_on; o_law
  refine HandSHeadRun.head_any (r := BW.RB) (q := view BW.RB.prog [70]) (H := BW.hookB) (ob := BW.obB) (M := 20000) (loose := BW.loose) (d := HandSHeadRun.topDef BW.RB.prog 70) (kwd := []) BW.obB_eq
    (by kernel_rfl) (fun s => by kernel_rfl) BW.run (by kernel_rfl) (by kernel_rfl) (by kernel_rfl) (by rfl) (by first | assumption | decide +kernel) (by decide +kernel) ⟨rfl, rfl, rfl, rfl, rfl, by decide +kernel⟩ ?hw ?hc
  case hw => w_witness2
  case hc =>
    refine BW.walk_law (l := PySem.Challenge.rw_bearsmisses_k93_whole_books_are_schedule) (n := 63) (k := 12) (x := "_law_script") rfl (by decide) (by kernel_rfl) ⟨rfl, by decide, by decide⟩ ?F
    intro w mg fl h Y g hmg0
    obtain ⟨K, kin, c⟩ := Y
    have T := BW.tx_of kin g c
    have hmg : mg ("law" : PySem.Str) = some (.ref fl) := by
      have e : (HandSHeadRun.topDef BW.RB.prog 70).name = ("law" : PySem.Str) := by kernel_rfl
      rw [← e]
      exact hmg0
    have e := T.g_law.symm.trans hmg
    cases e
    exact ⟨K, BW.spLaw K, kin, fun H a ns hS => ⟨a, ns, rfl, hS, fun _ => rfl⟩, fun base _ _ => BW.ok_law T⟩
