import PyProof.Rows.All
import Wide.All
import OpenK.AllK
import Wide.FinOn
import HandS.ForMost
import HandS.Wide
import HandS.Defaults
import HandS.Exc
import HandS.TryOnly
import HandS.ExcOwn
import HandS.WordsExc
import HandS.More
import HandS.HeadHook1
import HandS.HeadHook2
import KE.KStateDown
import Lean
import HandS.Head0
import HandS.Head1
import HandS.Head2
import HandS.HeadEnd
import KE.GoesMore
import HandS.Walk
import HandS.Small
import HandS.IsInst
import HandS.Conv
import HandS.Deep
import HandS.Zip
import PySem.Challenge.RW_owncause_k31_whole_no_heights_reach_more
set_option Elab.async false
set_option linter.all false
set_option maxRecDepth 100000
set_option maxHeartbeats 4000000
namespace K31
open PySem PySem.Spec PyProof.Rows L2
/-! the text by places -/
def top (i : Nat) : Stmt := PySem.Challenge.pw_owncause_k31_whole_no_heights_reach_more.main.body.getD i (.Pass ⟨0, 0, 0, 0⟩)
abbrev s_is_integer : Stmt := top 11
abbrev s_is_within : Stmt := top 12
abbrev s_is_pair : Stmt := top 13
abbrev s_is_table : Stmt := top 14
abbrev s_is_many : Stmt := top 15
abbrev s_has_yes : Stmt := top 17
abbrev s_turned : Stmt := top 18
abbrev s_is_even : Stmt := top 20
abbrev s_mark_bounds : Stmt := top 21
abbrev s_own_ties : Stmt := top 22
abbrev s_tie_bounds : Stmt := top 23
abbrev s_is_torn : Stmt := top 24
abbrev s_most_brought : Stmt := top 25
abbrev s_pipes_init : Stmt := inClass (top 27) 0
abbrev s_pipes_bounds : Stmt := inClass (top 27) 1
abbrev s_pipes_is_torn_at : Stmt := inClass (top 27) 2
abbrev s_torn_ties : Stmt := top 28
abbrev s_costs_init : Stmt := inClass (top 30) 0
abbrev s_costs_add : Stmt := inClass (top 30) 1
abbrev s_costs_amount : Stmt := inClass (top 30) 2
abbrev s_costs_reduced : Stmt := inClass (top 30) 3
abbrev s_costs_nearest : Stmt := inClass (top 30) 4
abbrev s_costs_next_open : Stmt := inClass (top 30) 5
abbrev s_costs_way_from : Stmt := inClass (top 30) 6
abbrev s_costs_free_arc : Stmt := inClass (top 30) 7
abbrev s_costs_push : Stmt := inClass (top 30) 8
abbrev s_costs_push_all : Stmt := inClass (top 30) 9
abbrev s_costs_solve : Stmt := inClass (top 30) 10
abbrev s_bill_init : Stmt := inClass (top 31) 0
abbrev s_bill_bounds : Stmt := inClass (top 31) 1
abbrev s_bill_lay : Stmt := inClass (top 31) 2
abbrev s_bill_lay_tie : Stmt := inClass (top 31) 3
abbrev s_bill_solve : Stmt := inClass (top 31) 4
abbrev s_bill_is_picked : Stmt := inClass (top 31) 5
abbrev s_bill_rule : Stmt := inClass (top 31) 6
abbrev s_bill_heights : Stmt := inClass (top 31) 7
abbrev s_cheapest_bill : Stmt := top 32
abbrev s_is_price_row : Stmt := top 35
abbrev s_check_prices : Stmt := top 36
abbrev s_price_of : Stmt := top 37
abbrev s_bill_of : Stmt := top 38
abbrev s_cheapest : Stmt := top 39
abbrev s_heights : Stmt := top 40
abbrev s_least_of_tie : Stmt := top 41
abbrev s_reach : Stmt := top 42
abbrev s_is_duties : Stmt := top 46
abbrev s_is_count : Stmt := top 47
abbrev s_are_marks : Stmt := top 48
abbrev s_book_init : Stmt := inClass (top 49) 0
abbrev s_l_tape : Stmt := top 51
abbrev s_l_pick : Stmt := top 52
abbrev s_l_bits : Stmt := top 53
abbrev s_l_number : Stmt := top 54
abbrev s_l_other : Stmt := top 55
abbrev s_l_size : Stmt := top 56
abbrev s_l_duties : Stmt := top 57
abbrev s_l_rule : Stmt := top 58
abbrev s_l_drawn : Stmt := top 59
abbrev s_l_ties : Stmt := top 60
abbrev s_l_fillings : Stmt := top 61
abbrev s_l_is_lot : Stmt := top 62
abbrev s_l_keeps : Stmt := top 63
abbrev s_l_prices : Stmt := top 64
abbrev s_l_price : Stmt := top 65
abbrev s_l_reach : Stmt := top 66
abbrev s_l_reached : Stmt := top 67
abbrev s_l_high : Stmt := top 68
abbrev s_l_told : Stmt := top 69
abbrev s_law : Stmt := top 70
abbrev FnP (K : PySem.W.Frag) (x q : Str) (st : Stmt) (f : Addr) (fd : FuncData) : Prop := FunD K x q (defArgs st) (defBody st) (defScope st) [] [] f fd
def d_is_integer : He.DefD := ⟨("is_integer", none), "is_integer", "is_integer", defArgs s_is_integer, defBody s_is_integer, defScope s_is_integer, [], []⟩
def d_is_within : He.DefD := ⟨("is_within", none), "is_within", "is_within", defArgs s_is_within, defBody s_is_within, defScope s_is_within, [], []⟩
def d_is_pair : He.DefD := ⟨("is_pair", none), "is_pair", "is_pair", defArgs s_is_pair, defBody s_is_pair, defScope s_is_pair, [], []⟩
def d_is_table : He.DefD := ⟨("is_table", none), "is_table", "is_table", defArgs s_is_table, defBody s_is_table, defScope s_is_table, [], []⟩
def d_is_many : He.DefD := ⟨("is_many", none), "is_many", "is_many", defArgs s_is_many, defBody s_is_many, defScope s_is_many, [], []⟩
def d_has_yes : He.DefD := ⟨("has_yes", none), "has_yes", "has_yes", defArgs s_has_yes, defBody s_has_yes, defScope s_has_yes, [], []⟩
def d_turned : He.DefD := ⟨("turned", none), "turned", "turned", defArgs s_turned, defBody s_turned, defScope s_turned, [], []⟩
def d_is_even : He.DefD := ⟨("is_even", none), "is_even", "is_even", defArgs s_is_even, defBody s_is_even, defScope s_is_even, [], []⟩
def d_mark_bounds : He.DefD := ⟨("mark_bounds", none), "mark_bounds", "mark_bounds", defArgs s_mark_bounds, defBody s_mark_bounds, defScope s_mark_bounds, [], []⟩
def d_own_ties : He.DefD := ⟨("own_ties", none), "own_ties", "own_ties", defArgs s_own_ties, defBody s_own_ties, defScope s_own_ties, [], []⟩
def d_tie_bounds : He.DefD := ⟨("tie_bounds", none), "tie_bounds", "tie_bounds", defArgs s_tie_bounds, defBody s_tie_bounds, defScope s_tie_bounds, [], []⟩
def d_is_torn : He.DefD := ⟨("is_torn", none), "is_torn", "is_torn", defArgs s_is_torn, defBody s_is_torn, defScope s_is_torn, [], []⟩
def d_most_brought : He.DefD := ⟨("most_brought", none), "most_brought", "most_brought", defArgs s_most_brought, defBody s_most_brought, defScope s_most_brought, [], []⟩
def d_pipes_init : He.DefD := ⟨("Pipes", some "__init__"), "__init__", "Pipes.__init__", defArgs s_pipes_init, defBody s_pipes_init, defScope s_pipes_init, [], []⟩
def d_pipes_bounds : He.DefD := ⟨("Pipes", some "bounds"), "bounds", "Pipes.bounds", defArgs s_pipes_bounds, defBody s_pipes_bounds, defScope s_pipes_bounds, [], []⟩
def d_pipes_is_torn_at : He.DefD := ⟨("Pipes", some "is_torn_at"), "is_torn_at", "Pipes.is_torn_at", defArgs s_pipes_is_torn_at, defBody s_pipes_is_torn_at, defScope s_pipes_is_torn_at, [], []⟩
def d_torn_ties : He.DefD := ⟨("torn_ties", none), "torn_ties", "torn_ties", defArgs s_torn_ties, defBody s_torn_ties, defScope s_torn_ties, [], []⟩
def d_costs_init : He.DefD := ⟨("Costs", some "__init__"), "__init__", "Costs.__init__", defArgs s_costs_init, defBody s_costs_init, defScope s_costs_init, [], []⟩
def d_costs_add : He.DefD := ⟨("Costs", some "add"), "add", "Costs.add", defArgs s_costs_add, defBody s_costs_add, defScope s_costs_add, [], []⟩
def d_costs_amount : He.DefD := ⟨("Costs", some "amount"), "amount", "Costs.amount", defArgs s_costs_amount, defBody s_costs_amount, defScope s_costs_amount, [], []⟩
def d_costs_reduced : He.DefD := ⟨("Costs", some "reduced"), "reduced", "Costs.reduced", defArgs s_costs_reduced, defBody s_costs_reduced, defScope s_costs_reduced, [], []⟩
def d_costs_nearest : He.DefD := ⟨("Costs", some "nearest"), "nearest", "Costs.nearest", defArgs s_costs_nearest, defBody s_costs_nearest, defScope s_costs_nearest, [], []⟩
def d_costs_next_open : He.DefD := ⟨("Costs", some "next_open"), "next_open", "Costs.next_open", defArgs s_costs_next_open, defBody s_costs_next_open, defScope s_costs_next_open, [], []⟩
def d_costs_way_from : He.DefD := ⟨("Costs", some "way_from"), "way_from", "Costs.way_from", defArgs s_costs_way_from, defBody s_costs_way_from, defScope s_costs_way_from, [], []⟩
def d_costs_free_arc : He.DefD := ⟨("Costs", some "free_arc"), "free_arc", "Costs.free_arc", defArgs s_costs_free_arc, defBody s_costs_free_arc, defScope s_costs_free_arc, [], []⟩
def d_costs_push : He.DefD := ⟨("Costs", some "push"), "push", "Costs.push", defArgs s_costs_push, defBody s_costs_push, defScope s_costs_push, [], []⟩
def d_costs_push_all : He.DefD := ⟨("Costs", some "push_all"), "push_all", "Costs.push_all", defArgs s_costs_push_all, defBody s_costs_push_all, defScope s_costs_push_all, [], []⟩
def d_costs_solve : He.DefD := ⟨("Costs", some "solve"), "solve", "Costs.solve", defArgs s_costs_solve, defBody s_costs_solve, defScope s_costs_solve, [], []⟩
def d_bill_init : He.DefD := ⟨("Bill", some "__init__"), "__init__", "Bill.__init__", defArgs s_bill_init, defBody s_bill_init, defScope s_bill_init, [], []⟩
def d_bill_bounds : He.DefD := ⟨("Bill", some "bounds"), "bounds", "Bill.bounds", defArgs s_bill_bounds, defBody s_bill_bounds, defScope s_bill_bounds, [], []⟩
def d_bill_lay : He.DefD := ⟨("Bill", some "lay"), "lay", "Bill.lay", defArgs s_bill_lay, defBody s_bill_lay, defScope s_bill_lay, [], []⟩
def d_bill_lay_tie : He.DefD := ⟨("Bill", some "lay_tie"), "lay_tie", "Bill.lay_tie", defArgs s_bill_lay_tie, defBody s_bill_lay_tie, defScope s_bill_lay_tie, [], []⟩
def d_bill_solve : He.DefD := ⟨("Bill", some "solve"), "solve", "Bill.solve", defArgs s_bill_solve, defBody s_bill_solve, defScope s_bill_solve, [], []⟩
def d_bill_is_picked : He.DefD := ⟨("Bill", some "is_picked"), "is_picked", "Bill.is_picked", defArgs s_bill_is_picked, defBody s_bill_is_picked, defScope s_bill_is_picked, [], []⟩
def d_bill_rule : He.DefD := ⟨("Bill", some "rule"), "rule", "Bill.rule", defArgs s_bill_rule, defBody s_bill_rule, defScope s_bill_rule, [], []⟩
def d_bill_heights : He.DefD := ⟨("Bill", some "heights"), "heights", "Bill.heights", defArgs s_bill_heights, defBody s_bill_heights, defScope s_bill_heights, [], []⟩
def d_cheapest_bill : He.DefD := ⟨("cheapest_bill", none), "cheapest_bill", "cheapest_bill", defArgs s_cheapest_bill, defBody s_cheapest_bill, defScope s_cheapest_bill, [], []⟩
def d_is_price_row : He.DefD := ⟨("is_price_row", none), "is_price_row", "is_price_row", defArgs s_is_price_row, defBody s_is_price_row, defScope s_is_price_row, [], []⟩
def d_check_prices : He.DefD := ⟨("check_prices", none), "check_prices", "check_prices", defArgs s_check_prices, defBody s_check_prices, defScope s_check_prices, [], []⟩
def d_price_of : He.DefD := ⟨("price_of", none), "price_of", "price_of", defArgs s_price_of, defBody s_price_of, defScope s_price_of, [], []⟩
def d_bill_of : He.DefD := ⟨("bill_of", none), "bill_of", "bill_of", defArgs s_bill_of, defBody s_bill_of, defScope s_bill_of, [], []⟩
def d_cheapest : He.DefD := ⟨("cheapest", none), "cheapest", "cheapest", defArgs s_cheapest, defBody s_cheapest, defScope s_cheapest, [], []⟩
def d_heights : He.DefD := ⟨("heights", none), "heights", "heights", defArgs s_heights, defBody s_heights, defScope s_heights, [], []⟩
def d_least_of_tie : He.DefD := ⟨("least_of_tie", none), "least_of_tie", "least_of_tie", defArgs s_least_of_tie, defBody s_least_of_tie, defScope s_least_of_tie, [], []⟩
def d_reach : He.DefD := ⟨("reach", none), "reach", "reach", defArgs s_reach, defBody s_reach, defScope s_reach, [], []⟩
def d_is_duties : He.DefD := ⟨("is_duties", none), "is_duties", "is_duties", defArgs s_is_duties, defBody s_is_duties, defScope s_is_duties, [], []⟩
def d_is_count : He.DefD := ⟨("is_count", none), "is_count", "is_count", defArgs s_is_count, defBody s_is_count, defScope s_is_count, [], []⟩
def d_are_marks : He.DefD := ⟨("are_marks", none), "are_marks", "are_marks", defArgs s_are_marks, defBody s_are_marks, defScope s_are_marks, [], []⟩
def d_book_init : He.DefD := ⟨("Book", some "__init__"), "__init__", "Book.__init__", defArgs s_book_init, defBody s_book_init, defScope s_book_init, [], []⟩
def d_l_tape : He.DefD := ⟨("_law_tape", none), "_law_tape", "_law_tape", defArgs s_l_tape, defBody s_l_tape, defScope s_l_tape, [], []⟩
def d_l_pick : He.DefD := ⟨("_law_pick", none), "_law_pick", "_law_pick", defArgs s_l_pick, defBody s_l_pick, defScope s_l_pick, [], []⟩
def d_l_bits : He.DefD := ⟨("_law_bits", none), "_law_bits", "_law_bits", defArgs s_l_bits, defBody s_l_bits, defScope s_l_bits, [], []⟩
def d_l_number : He.DefD := ⟨("_law_number", none), "_law_number", "_law_number", defArgs s_l_number, defBody s_l_number, defScope s_l_number, [], []⟩
def d_l_other : He.DefD := ⟨("_law_other", none), "_law_other", "_law_other", defArgs s_l_other, defBody s_l_other, defScope s_l_other, [], []⟩
def d_l_size : He.DefD := ⟨("_law_size", none), "_law_size", "_law_size", defArgs s_l_size, defBody s_l_size, defScope s_l_size, [], []⟩
def d_l_duties : He.DefD := ⟨("_law_duties", none), "_law_duties", "_law_duties", defArgs s_l_duties, defBody s_l_duties, defScope s_l_duties, [], []⟩
def d_l_rule : He.DefD := ⟨("_law_rule", none), "_law_rule", "_law_rule", defArgs s_l_rule, defBody s_l_rule, defScope s_l_rule, [], []⟩
def d_l_drawn : He.DefD := ⟨("_law_drawn", none), "_law_drawn", "_law_drawn", defArgs s_l_drawn, defBody s_l_drawn, defScope s_l_drawn, [], []⟩
def d_l_ties : He.DefD := ⟨("_law_ties", none), "_law_ties", "_law_ties", defArgs s_l_ties, defBody s_l_ties, defScope s_l_ties, [], []⟩
def d_l_fillings : He.DefD := ⟨("_law_fillings", none), "_law_fillings", "_law_fillings", defArgs s_l_fillings, defBody s_l_fillings, defScope s_l_fillings, [], []⟩
def d_l_is_lot : He.DefD := ⟨("_law_is_lot", none), "_law_is_lot", "_law_is_lot", defArgs s_l_is_lot, defBody s_l_is_lot, defScope s_l_is_lot, [], []⟩
def d_l_keeps : He.DefD := ⟨("_law_keeps", none), "_law_keeps", "_law_keeps", defArgs s_l_keeps, defBody s_l_keeps, defScope s_l_keeps, [], []⟩
def d_l_prices : He.DefD := ⟨("_law_prices", none), "_law_prices", "_law_prices", defArgs s_l_prices, defBody s_l_prices, defScope s_l_prices, [], []⟩
def d_l_price : He.DefD := ⟨("_law_price", none), "_law_price", "_law_price", defArgs s_l_price, defBody s_l_price, defScope s_l_price, [], []⟩
def d_l_reach : He.DefD := ⟨("_law_reach", none), "_law_reach", "_law_reach", defArgs s_l_reach, defBody s_l_reach, defScope s_l_reach, [], []⟩
def d_l_reached : He.DefD := ⟨("_law_reached", none), "_law_reached", "_law_reached", defArgs s_l_reached, defBody s_l_reached, defScope s_l_reached, [], []⟩
def d_l_high : He.DefD := ⟨("_law_high", none), "_law_high", "_law_high", defArgs s_l_high, defBody s_l_high, defScope s_l_high, [], []⟩
def d_l_told : He.DefD := ⟨("_law_told", none), "_law_told", "_law_told", defArgs s_l_told, defBody s_l_told, defScope s_l_told, [], []⟩
def d_law : He.DefD := ⟨("law", none), "law", "law", defArgs s_law, defBody s_law, defScope s_law, [], []⟩
def fn0 : List He.DefD := [d_is_integer, d_is_within, d_is_pair, d_is_table, d_is_many, d_has_yes, d_turned, d_is_even, d_mark_bounds, d_own_ties, d_tie_bounds, d_is_torn, d_most_brought, d_pipes_init, d_pipes_bounds, d_pipes_is_torn_at, d_torn_ties, d_costs_init, d_costs_add, d_costs_amount, d_costs_reduced, d_costs_nearest, d_costs_next_open, d_costs_way_from, d_costs_free_arc, d_costs_push, d_costs_push_all, d_costs_solve, d_bill_init, d_bill_bounds]
def fn1 : List He.DefD := [d_bill_lay, d_bill_lay_tie, d_bill_solve, d_bill_is_picked, d_bill_rule, d_bill_heights, d_cheapest_bill, d_is_price_row, d_check_prices, d_price_of, d_bill_of, d_cheapest, d_heights, d_least_of_tie, d_reach, d_is_duties, d_is_count, d_are_marks, d_book_init, d_l_tape, d_l_pick, d_l_bits, d_l_number, d_l_other, d_l_size, d_l_duties, d_l_rule, d_l_drawn, d_l_ties, d_l_fillings]
def fn2 : List He.DefD := [d_l_is_lot, d_l_keeps, d_l_prices, d_l_price, d_l_reach, d_l_reached, d_l_high, d_l_told, d_law]
def fn : List He.DefD := fn0 ++ fn1 ++ fn2
def fa0 : List He.Fa := [.glo "is_integer", .glo "is_within", .glo "is_pair", .glo "is_table", .glo "is_many", .glo "has_yes", .glo "turned", .glo "is_even", .glo "mark_bounds", .glo "own_ties", .glo "tie_bounds", .glo "is_torn", .glo "most_brought", .glo "torn_ties", .glo "cheapest_bill", .glo "is_price_row", .glo "check_prices", .glo "price_of", .glo "bill_of", .glo "cheapest", .glo "heights", .glo "least_of_tie", .glo "reach", .glo "is_duties", .glo "is_count", .glo "are_marks", .glo "_law_tape", .glo "_law_pick", .glo "_law_bits", .glo "_law_number"]
def fa1 : List He.Fa := [.glo "_law_other", .glo "_law_size", .glo "_law_duties", .glo "_law_rule", .glo "_law_drawn", .glo "_law_ties", .glo "_law_fillings", .glo "_law_is_lot", .glo "_law_keeps", .glo "_law_prices", .glo "_law_price", .glo "_law_reach", .glo "_law_reached", .glo "_law_high", .glo "_law_told", .glo "law", .glo "POWERS", .glo "DUTIES", .glo "SIGNS", .glo "NotKept", .glo "Torn", .glo "NoPrices", .glo "NoHeights", .glo "BadBook", .glo "Pipes", .glo "Costs", .glo "Bill", .glo "Book", .free "isinstance", .free "int"]
def fa2 : List He.Fa := [.free "bool", .free "tuple", .free "str", .free "list", .free "len", .free "range", .free "enumerate", .free "zip", .free "min", .free "max", .free "sum", .free "any", .free "all", .free "sorted", .int "MOST_MEMBERS" 8, .int "MOST_PRICE" 1000, .cls "Pipes", .mkr "Pipes", .cls "Costs", .mkr "Costs", .cls "Bill", .mkr "Bill", .cls "Book", .mkr "Book", .noat "Pipes" "book", .noat "Pipes" "scale", .noat "Pipes" "lows", .noat "Pipes" "highs", .noat "Pipes" "ground", .noat "Pipes" "size"]
def fa3 : List He.Fa := [.noat "Pipes" "lines", .noat "Pipes" "picks", .noat "Pipes" "torn", .noat "Pipes" "net", .noat "Costs" "heads", .noat "Costs" "room", .noat "Costs" "price", .noat "Costs" "lows", .noat "Costs" "arcs", .noat "Costs" "over", .noat "Costs" "lifts", .noat "Bill" "book", .noat "Bill" "prices", .noat "Bill" "ground", .noat "Bill" "costs", .noat "Bill" "picks", .noat "Bill" "even", .noat "Bill" "lows", .noat "Bill" "highs", .noat "Book" "duties", .noat "Book" "counts", .noat "Book" "marks", .noat "Book" "many", .noat "Book" "kept_facts", .meth "Pipes" "bounds", .meth "Pipes" "is_torn_at", .meth "Costs" "add", .meth "Costs" "amount", .meth "Costs" "reduced", .meth "Costs" "nearest"]
def fa4 : List He.Fa := [.meth "Costs" "next_open", .meth "Costs" "way_from", .meth "Costs" "free_arc", .meth "Costs" "push", .meth "Costs" "push_all", .meth "Costs" "solve", .meth "Bill" "bounds", .meth "Bill" "lay", .meth "Bill" "lay_tie", .meth "Bill" "solve", .meth "Bill" "is_picked", .meth "Bill" "rule", .meth "Bill" "heights", .exc "NotKept", .exm "NotKept" "NotKept" true, .exc "Torn", .exm "Torn" "Torn" true]
def fa : List He.Fa := fa0 ++ fa1 ++ fa2 ++ fa3 ++ fa4
end K31

set_option autoImplicit true
set_option Elab.async false
set_option linter.all false
set_option maxRecDepth 100000
set_option maxHeartbeats 0
namespace K31
open PySem PySem.Spec PyProof.Rows L2
/-! the head: the run, its facts -/
/-- the tables of the top -/
def tabsB (K : PySem.W.Frag) : Bool := He.tupB K "POWERS" [.int 1, .int 2, .int 4, .int 8, .int 16, .int 32, .int 64, .int 128, .int 256] && (He.tupB K "DUTIES" [.str "n", .str "a", .str "m"] && He.tupB K "SIGNS" [.str "1", .str "0", .str "."])
abbrev AlX : Type := Bool × He.AlD
def obsX (K : PySem.W.Frag) : AlX := (tabsB K, He.obsD fa fn K)
def valX : AlX := (true, He.valD fn)
/-- what an object of the top names: a dict's values, a def's code, a class's names -/
def refX (o : PySem.Obj) : List Addr := match o.data with
  | .dict es _ => es.toList.flatMap fun e => He.refV e.val
  | .func fd => He.refV fd.code
  | .cls cd => [cd.ns]
  | _ => []
def layX (g : Addr → Option PySem.Obj) (as : List Addr) : List Addr := as.flatMap fun a => match g a with
  | some o => refX o
  | none => []
def layersX (g : Addr → Option PySem.Obj) : Nat → List Addr → List Addr
  | 0, as => as
  | n + 1, as => as ++ layersX g n (layX g as)
/-- the names, the objects, their codes and the classes' names, the methods, their codes -/
def asX (g : Addr → Option PySem.Obj) : List Addr := layersX g 4 [mainGlobals]
def obsXG (g : Addr → Option PySem.Obj) : AlX := obsX (He.frG g (asX g))
def hookX : PySem.W.Hook where
  α := AlX
  obs := fun s => obsXG s.heap.get?
  val := fun _ => valX
  says := fun _ h => ∃ K : PySem.W.Frag, K.In h ∧ obsX K = valX
  of := fun _ _ e => ⟨_, He.frG_in, e⟩
  keeps := fun _ _ _ ⟨K, hK, c⟩ k => ⟨K, PySem.W.Frag.In.keeps hK k, c⟩
theorem obsXG_eq {g : Addr → Option PySem.Obj} {s : Shared} (h : ∀ a, g a = s.heap.get? a) : obsXG g = hookX.obs s := by
  have e : g = s.heap.get? := funext h
  rw [e] <;> rfl
abbrev R : PySem.W.OpenRow := PySem.W.OpenLaw.row PySem.Challenge.rw_owncause_k31_whole_no_heights_reach_more
def ob (s : PySem.W.SharedT) : AlX := obsXG (HandSHeadRun.getT s)
theorem ob_eq (s : PySem.W.SharedT) : ob s = hookX.obs s.abs := obsXG_eq (HandSHeadRun.getT_eq s)
def loose0 : List PySem.Str := ["_wall", "CauseError", "NotKept", "NoPrices", "NoHeights", "Torn", "BadBook", "MOST_MEMBERS", "POWERS", "is_integer", "is_within", "is_pair", "is_table", "is_many", "has_yes", "turned", "is_even", "mark_bounds", "own_ties", "tie_bounds", "is_torn", "most_brought", "Net", "Pipes", "torn_ties", "Costs", "Bill", "cheapest_bill", "MOST_PRICE", "is_price_row"]
def loose1 : List PySem.Str := ["check_prices", "price_of", "bill_of", "cheapest", "heights", "least_of_tie", "reach", "DUTIES", "SIGNS", "is_duties", "is_count", "are_marks", "Book", "_law_tape", "_law_pick", "_law_bits", "_law_number", "_law_other", "_law_size", "_law_duties", "_law_rule", "_law_drawn", "_law_ties", "_law_fillings", "_law_is_lot", "_law_keeps", "_law_prices", "_law_price", "_law_reach", "_law_reached"]
def loose2 : List PySem.Str := ["_law_high", "_law_told"]
def loose : List PySem.Str := loose0 ++ loose1 ++ loose2
theorem run (w : World) : HandSHeadRun.RunEq R (PySem.W.view R.prog [70]) hookX ob 20000 loose w := by
  intro os
  kernel_rfl
end K31

set_option autoImplicit true
set_option Elab.async false
set_option linter.all false
set_option maxRecDepth 100000
set_option maxHeartbeats 4000000
/-! own rules: enumerate of a tuple and of a text; a target that is an attribute; text * int; an own exception made of nothing; o[i] op= e over a list -/
namespace PySem
open Sem (wp)
set_option maxHeartbeats 1000000 in
theorem meets_enumerate_newB1 {v : Value} {o : Obj} {H : Heap → Prop} (B : Begins v o H) :
    Meets (Builtin.«enumerate.__new__» ⟨[.type "enumerate", v], []⟩) (fun _ R s => H s.heap ∧
      R (.ok (.ret (.ref (s.heap.push o).objs.size))) { s with heap := (s.heap.push o).push { cls := .type "enumerate", data := .fields #[.none, .bool false, .ref s.heap.objs.size, rawInt 0, .none, .none] } }) :=
  .of_wp fun prog w A R s h => by
    obtain ⟨hp, g, d, tk, os⟩ := s; obtain ⟨h1, h⟩ := h
    have hsub := sub_enumerate
    have q1 : ∀ {A' : Around} {E : Value → Shared → Prop} {Q : Value → Shared → Prop}, Q (.ref hp.objs.size) ⟨hp.push o, g, d, tk, os⟩ → wpAny (model prog w) A' (pyIter v) Q E ⟨hp, g, d, tk, os⟩ :=
      fun q => B.iter prog w _ _ ⟨hp, g, d, tk, os⟩ _ h1 q
    wp_walk using q1
    refine wpAny_stack_any fun st => wpAny_pure ?_
    split
    · rename_i c _ _ _ _ _
      cases (c == Value.type "enumerate")
      · wp_walk using q1
        exact ⟨_, rfl, h⟩
      · wp_walk using q1
        exact ⟨_, rfl, h⟩
    · wp_walk using q1
      exact ⟨_, rfl, h⟩
section
variable {prog : Program} {w : World} {A : Around} {E : Value → Shared → Prop} {s : Shared}
theorem enum_begins1 {v : Value} {o : Obj} {H : Heap → Prop} {Q : Value → Shared → Prop} (B : Begins v o H) (h1 : H s.heap)
    (h : ∀ h', IsEnum h' (s.heap.objs.size + 1) s.heap.objs.size 0 .none → h'.get? s.heap.objs.size = some o → h'.objs.size = s.heap.objs.size + 2 →
      (∀ b o, s.heap.get? b = some o → h'.get? b = some o) → Q (.ref (s.heap.objs.size + 1)) { s with heap := h' }) :
    wpAny (model prog w) A (call (.type "enumerate") [v]) Q E s := by
  refine callType_new F.called_enumerate (by decide) (F.typeCall_enumerate_1 _) (F.newCall_enumerate_1 _) (fun obj => F.args_object_init_2 obj _) F.entry_enumerate_new
    (meets_enumerate_newB1 B) ⟨h1, ?_⟩
  have hz : (s.heap.push o).objs.size = s.heap.objs.size + 1 := Heap.size_push ..
  show _ ∧ _
  rw [hz]
  have he : IsEnum ((s.heap.push o).push { cls := .type "enumerate", data := .fields #[.none, .bool false, .ref s.heap.objs.size, rawInt 0, .none, .none] }) (s.heap.objs.size + 1) s.heap.objs.size 0 .none := by
    have := Heap.get?_push_size (s.heap.push o) (o := { cls := .type "enumerate", data := .fields #[.none, .bool false, .ref s.heap.objs.size, rawInt 0, .none, .none] }) rfl
    rw [hz] at this; exact this
  refine ⟨⟨_, he, rfl⟩, h _ he (Heap.get?_push_of_some _ (Heap.get?_push_size _ B.free)) (by rw [Heap.size_push, hz]) fun b o x => Heap.get?_push_of_some _ (Heap.get?_push_of_some _ x)⟩
end
end PySem

namespace L2
open PySem PySem.Spec PyProof.Rows
/-! ### enumerate(tuple) -/
def IteT (K : PySem.W.Frag) (a : Addr) : It :=
  ⟨fun i H => ∃ (xs : List V) (x : V), SqT K H a xs ∧ xs[i]? = some x, fun i H v H' => ∃ T x, v = .ref T ∧ H T = none ∧ H' = upd H T (.tup [.int (i : Nat), x]) ∧ ∀ xs, SqT K H a xs → xs[i]? = some x, fun i H => ∃ xs : List V, SqT K H a xs ∧ xs.length ≤ i⟩
theorem turn_enumT {P : Program} {w : World} {K : PySem.W.Frag} {elts : List Expr} {kk : Nat} {tpos : Pos} (a e it : Addr) :
    Turn P w K (.Tuple elts kk tpos) (IteT K a) [e, it] e (fun i h => (∃ old, IsEnum h e it ((i : Nat) : Int) old) ∧ h.IsTupleIter it a i ∧ e ≠ it ∧ a ≠ it ∧ a ≠ e) where
  mem := by simp
  obj := fun i h st b hb => by
    obtain ⟨⟨old, he⟩, ⟨o, ho, hc, hd⟩, _⟩ := st
    have e' : b = e ∨ b = it := by simpa using hb
    rcases e' with z | z
    · rw [z]; exact ⟨_, he, fun v q => nomatch q⟩
    · rw [z]; exact ⟨o, ho, fun v q => by rw [hd] at q; cases q⟩
  keep := fun i h h' st k => let ⟨⟨old, he⟩, hi, hne⟩ := st; ⟨⟨old, k e (by simp) _ he⟩, hi.at fun o q => k it (by simp) o q, hne⟩
  item := by
    intro X hP hw hK hc i pins s σ H E I hf st hg
    subst hP hw hK
    obtain ⟨⟨old, he⟩, hit, hne, hai, hae⟩ := st
    obtain ⟨xs, x, hq, hx⟩ := hg
    obtain ⟨its, rv, p, hz⟩ := I.tuple hq
    obtain ⟨u, hu, ru⟩ := rv.get hx
    have hel : e < s.heap.objs.size := Heap.lt_size he
    have hil : it < s.heap.objs.size := by obtain ⟨_, q, _⟩ := hit; exact Heap.lt_size q
    have hlt : i < its.length := by
      rcases Nat.lt_or_ge i its.length with z | z
      · exact z
      · rw [List.getElem?_eq_none z] at hu; cases hu
    have D := Draws.tuple (prog := X.prog) (w := X.w) (A := X.A.in1) (I.ok.hd hc) it a hai its.toArray
    refine wpAny_pyNext_enum_itemD D he ⟨hit, p⟩ (by simpa using hlt) hne (by simp; exact ⟨hne, fun z => hae z.symm⟩) fun y h' tk hy ho hit' hT hsz hk => ?_
    have ey : y = u := by
      have h1 : its[i]? = some y := by simpa using hy
      rw [hu] at h1
      exact (Option.some.inj h1).symm
    subst ey
    refine ⟨_, rfl, wpAny_letOwnedTupleGo_enum (s := { s with heap := h', toks := tk + 1 }) ho fun h'' he' sb => ?_⟩
    have hT2 : h''.get? s.heap.objs.size = some { cls := .type "tuple", data := .seq #[.int i tk, y] } := (sb.2 _ (Nat.ne_of_gt hel)).trans hT
    have new : ObjOk X.prog X.w (upd H s.heap.objs.size (.tup [.int (i : Nat), x])) h'' s.heap.objs.size (.tup [.int (i : Nat), x]) :=
      ⟨by show 2 ≤ sizeLine; decide, [.int i tk, y], .cons ⟨_, rfl⟩ (.cons ru .nil), ⟨_, hT2, rfl, _, rfl⟩⟩
    have I1 : Inv X pins σ (upd H s.heap.objs.size (.tup [.int (i : Nat), x])) { s with heap := h'', toks := tk + 1 } :=
      I.turnedNew (ch := [e, it]) (fun b ob hb q => (sb.2 b (fun z => hb (by simp [z]))).trans (hk b ob (fun z => hb (by simp [z])) (fun z => hb (by simp [z])) q)) hf (Nat.le_refl _) new
    refine ⟨.ref s.heap.objs.size, _, I1, rfl, ⟨_, x, rfl, I.hok.fresh (Nat.le_refl _), rfl, fun ys hy => by rw [I.tuple_inj hy hq]; exact hx⟩, ⟨⟨y, ?_⟩, hit'.1.at fun o q => (sb.2 it (Ne.symm hne)).trans q, hne, hai, hae⟩, fun b hb => ?_⟩
    · have e1 : ((i + 1 : Nat) : Int) = (i : Int) + 1 := by omega
      rw [e1]; exact he'
    · have hb' : b < s.heap.objs.size := by
        have e' : b = e ∨ b = it := by simpa using hb
        rcases e' with z | z
        · rw [z]; exact hel
        · rw [z]; exact hil
      rw [upd_ne (Nat.ne_of_lt hb')]
      exact (hf b hb).1
  done := by
    intro X hP hw hK hc i pins s σ H E I hf st hg
    subst hP hw hK
    obtain ⟨⟨old, he⟩, hit, hne, hai, hae⟩ := st
    obtain ⟨xs, hq, hx⟩ := hg
    obtain ⟨its, rv, p, hz⟩ := I.tuple hq
    obtain ⟨f0, f1, f2, f3, f4, f5⟩ := hf it (by simp)
    have hl := rv.length
    have hT : s.TypeIs (.ref e) "enumerate" := ⟨_, he, rfl⟩
    unfold pyNext
    refine wpAny_bind (wpAny_attempt (wpAny_callSpecial?_slot (name := Str.ofString "__next__") hT F.slot_enumerate_next
      (wpAny_call_entry F.slot_enumerate_next hT F.entry_enumerate_next ?_ (F.args_enumerate_next_1 _))))
    show wpAny _ _ (field (.ref e) 2 >>= _) _ _ _
    refine wpAny_bind (wpAny_field he rfl (x := .ref it) rfl ?_)
    refine wpAny_bind (wpAny_nextOf_tuple_end (I.ok.hd hc) hit p (by simp; omega) fun h' x he' hx' => ?_)
    obtain ⟨o, ho, hcls⟩ := hx'
    refine wpAny_bind (wpAny_isInstance (T := "StopIteration") (b := true) ⟨o, ho, hcls⟩ isSubtype_stop ?_)
    exact wpAny_pure ⟨rfl, I.turned (t' := s.toks) (fun b o hb q => he' b o hb q) f0 f1 f3 f4 f5⟩
  self := fun A i s Q E st h => let ⟨⟨_, he⟩, _⟩ := st; wpAny_pyIter_enum he h
def iEnumT (K : PySem.W.Frag) (ta : TA) : TI := fun σ H R => ta σ H fun vs H1 => ∃ a xs, vs = [.ref a] ∧ SqT K H1 a xs ∧ R (IteT K a) H1
theorem pi_enumT {X : Cx} {e : Expr} {ta : TA} {p pos tpos : Pos} {elts : List Expr} {kk : Nat} (hg : Gl X "enumerate") (hm : X.mg "enumerate" = none) (ha : PA X [e] ta) (hs : starEach [e] X.env = [(false, eval e X.env)] := by rfl) :
    PI X (.Tuple elts kk tpos) (.Call (.Name "enumerate" p) [e] [] pos) (iEnumT X.K ta) := by
  refine ⟨fun pins s σ H R I h => ?_⟩
  refine Call_ (ld_blt I hg hm boot_enumerate (PyProof.Rows.callWith_type1 (thn (ha.run _ pins s σ H _ I h) fun us s1 ⟨vs, H1, I1, r1, q1⟩ => ?_) hs rfl))
  obtain ⟨a, xs, ex, hq, q⟩ := q1
  subst ex
  cases r1 with
  | cons r rr =>
    cases rr
    cases r
    obtain ⟨its, rv, p', hz⟩ := I1.tuple hq
    have hal : a < s1.heap.objs.size := p'.lt
    refine enum_begins1 (begins_tuple a its.toArray) p' fun h' he hit hsz hk => wpAny_pyIter_enum he ?_
    have I2 : Inv X pins σ H1 { s1 with heap := h' } := I1.kept (t' := s1.toks) hk
    refine ⟨s1.heap.objs.size + 1, [s1.heap.objs.size + 1, s1.heap.objs.size], _, _, H1, rfl, I2, turn_enumT a (s1.heap.objs.size + 1) s1.heap.objs.size, ⟨⟨.none, he⟩, ⟨_, hit, rfl, rfl⟩, Nat.succ_ne_self _, Nat.ne_of_lt hal, Nat.ne_of_lt (Nat.lt_succ_of_lt hal)⟩, fun b hb => ?_, q⟩
    have e' : b = s1.heap.objs.size + 1 ∨ b = s1.heap.objs.size := by simpa using hb
    have hle : s1.heap.objs.size ≤ b := by
      rcases e' with z | z
      · rw [z]; exact Nat.le_add_right _ _
      · rw [z]; exact Nat.le_refl _
    exact I1.fpOk hle (I1.hok.fresh hle)
theorem walk_enumT {K : PySem.W.Frag} {a : Addr} {xs : List V} : Walk (IteT K a) xs.length (fun H => SqT K H a xs) (YPair (fun i => some (.int (i : Nat))) (fun i => xs[i]?)) := by
  refine ⟨fun i _ hi q => ⟨xs, xs[i], q, by simp [hi]⟩, fun _ q => ⟨xs, q, Nat.le_refl _⟩, fun i H v H' _ q y => ?_⟩
  obtain ⟨T, x, h1, h2, h3, h4⟩ := y
  exact ⟨T, .int (i : Nat), x, h1, h2, h3, rfl, h4 xs q⟩
/-! ### enumerate(text) -/
def IteS (z : Str) : It :=
  ⟨fun i _ => i < z.cps.size, fun i H v H' => ∃ T c, v = .ref T ∧ H T = none ∧ H' = upd H T (.tup [.int (i : Nat), .str ⟨#[c]⟩]) ∧ z.cps[i]? = some c, fun i _ => i = z.cps.size⟩
theorem turn_enumS {P : Program} {w : World} {K : PySem.W.Frag} {elts : List Expr} {kk : Nat} {tpos : Pos} (z : Str) (t : Tok) (e it : Addr) :
    Turn P w K (.Tuple elts kk tpos) (IteS z) [e, it] e (fun i h => (∃ old, IsEnum h e it ((i : Nat) : Int) old) ∧ h.IsStrIter it (strIterType z) z t i ∧ e ≠ it) where
  mem := by simp
  obj := fun i h st b hb => by
    obtain ⟨⟨old, he⟩, ⟨o, ho, hc, hd⟩, _⟩ := st
    have e' : b = e ∨ b = it := by simpa using hb
    rcases e' with z | z
    · rw [z]; exact ⟨_, he, fun v q => nomatch q⟩
    · rw [z]; exact ⟨o, ho, fun v q => by rw [hd] at q; cases q⟩
  keep := fun i h h' st k => let ⟨⟨old, he⟩, ⟨o, q, c⟩, hne⟩ := st; ⟨⟨old, k e (by simp) _ he⟩, ⟨o, k it (by simp) o q, c⟩, hne⟩
  item := by
    intro X hP hw hK hc i pins s σ H E I hf st hg
    subst hP hw hK
    obtain ⟨⟨old, he⟩, hit, hne⟩ := st
    have hel : e < s.heap.objs.size := Heap.lt_size he
    have hil : it < s.heap.objs.size := by obtain ⟨_, q, _⟩ := hit; exact Heap.lt_size q
    have D := Draws.text (prog := X.prog) (w := X.w) (A := X.A.in1) (I.ok.hd hc) it z t
    refine wpAny_pyNext_enum_itemD D he hit hg hne (by simp; exact hne) fun y h' tk hy ho hit' hT hsz hk => ?_
    obtain ⟨c, u, hcz, rfl⟩ := hy
    refine ⟨_, rfl, wpAny_letOwnedTupleGo_enum (s := { s with heap := h', toks := tk + 1 }) ho fun h'' he' sb => ?_⟩
    have hT2 : h''.get? s.heap.objs.size = some { cls := .type "tuple", data := .seq #[.int i tk, .str ⟨#[c]⟩ u] } := (sb.2 _ (Nat.ne_of_gt hel)).trans hT
    have new : ObjOk X.prog X.w (upd H s.heap.objs.size (.tup [.int (i : Nat), .str ⟨#[c]⟩])) h'' s.heap.objs.size (.tup [.int (i : Nat), .str ⟨#[c]⟩]) :=
      ⟨by show 2 ≤ sizeLine; decide, [.int i tk, .str ⟨#[c]⟩ u], .cons ⟨_, rfl⟩ (.cons ⟨_, rfl⟩ .nil), ⟨_, hT2, rfl, _, rfl⟩⟩
    have I1 : Inv X pins σ (upd H s.heap.objs.size (.tup [.int (i : Nat), .str ⟨#[c]⟩])) { s with heap := h'', toks := tk + 1 } :=
      I.turnedNew (ch := [e, it]) (fun b ob hb q => (sb.2 b (fun z => hb (by simp [z]))).trans (hk b ob (fun z => hb (by simp [z])) (fun z => hb (by simp [z])) q)) hf (Nat.le_refl _) new
    refine ⟨.ref s.heap.objs.size, _, I1, rfl, ⟨_, c, rfl, I.hok.fresh (Nat.le_refl _), rfl, hcz⟩, ⟨⟨.str ⟨#[c]⟩ u, ?_⟩, (let ⟨o, q, cc⟩ := hit'; ⟨o, (sb.2 it (Ne.symm hne)).trans q, cc⟩), hne⟩, fun b hb => ?_⟩
    · have e1 : ((i + 1 : Nat) : Int) = (i : Int) + 1 := by omega
      rw [e1]; exact he'
    · have hb' : b < s.heap.objs.size := by
        have e' : b = e ∨ b = it := by simpa using hb
        rcases e' with z | z
        · rw [z]; exact hel
        · rw [z]; exact hil
      rw [upd_ne (Nat.ne_of_lt hb')]
      exact (hf b hb).1
  done := by
    intro X hP hw hK hc i pins s σ H E I hf st hg
    subst hP hw hK
    obtain ⟨⟨old, he⟩, hit, hne⟩ := st
    obtain ⟨f0, f1, f2, f3, f4, f5⟩ := hf it (by simp)
    have hT : s.TypeIs (.ref e) "enumerate" := ⟨_, he, rfl⟩
    have hi : i = z.cps.size := hg
    subst hi
    exact wpAny_pyNext_enum_endD (Draws.text (prog := X.prog) (w := X.w) (A := X.A.in1) (I.ok.hd hc) it z t) he hit fun h' he' => ⟨rfl, I.turned (t' := s.toks) (fun b o hb q => he' b o hb q) f0 f1 f3 f4 f5⟩
  self := fun A i s Q E st h => let ⟨⟨_, he⟩, _⟩ := st; wpAny_pyIter_enum he h
def iEnumS (ta : TA) : TI := fun σ H R => ta σ H fun vs H1 => ∃ z, vs = [.str z] ∧ R (IteS z) H1
theorem pi_enumS {X : Cx} {e : Expr} {ta : TA} {p pos tpos : Pos} {elts : List Expr} {kk : Nat} (hg : Gl X "enumerate") (hm : X.mg "enumerate" = none) (ha : PA X [e] ta) (hs : starEach [e] X.env = [(false, eval e X.env)] := by rfl) :
    PI X (.Tuple elts kk tpos) (.Call (.Name "enumerate" p) [e] [] pos) (iEnumS ta) := by
  refine ⟨fun pins s σ H R I h => ?_⟩
  refine Call_ (ld_blt I hg hm boot_enumerate (PyProof.Rows.callWith_type1 (thn (ha.run _ pins s σ H _ I h) fun us s1 ⟨vs, H1, I1, r1, q1⟩ => ?_) hs rfl))
  obtain ⟨z, ex, q⟩ := q1
  subst ex
  cases r1 with
  | cons r rr =>
    cases rr
    obtain ⟨t, rfl⟩ := r
    refine enum_begins1 (begins_text z t) trivial fun h' he hit hsz hk => wpAny_pyIter_enum he ?_
    have I2 : Inv X pins σ H1 { s1 with heap := h' } := I1.kept (t' := s1.toks) hk
    refine ⟨s1.heap.objs.size + 1, [s1.heap.objs.size + 1, s1.heap.objs.size], _, _, H1, rfl, I2, turn_enumS z t (s1.heap.objs.size + 1) s1.heap.objs.size, ⟨⟨.none, he⟩, ⟨_, hit, rfl, rfl⟩, Nat.succ_ne_self _⟩, fun b hb => ?_, q⟩
    have e' : b = s1.heap.objs.size + 1 ∨ b = s1.heap.objs.size := by simpa using hb
    have hle : s1.heap.objs.size ≤ b := by
      rcases e' with z | z
      · rw [z]; exact Nat.le_add_right _ _
      · rw [z]; exact Nat.le_refl _
    exact I1.fpOk hle (I1.hok.fresh hle)
theorem walk_enumS {z : Str} : Walk (IteS z) z.cps.size (fun _ => True) (YPair (fun i => some (.int (i : Nat))) (fun i => z.cps[i]?.map fun c => .str ⟨#[c]⟩)) := by
  refine ⟨fun i _ hi q => hi, fun _ q => rfl, fun i H v H' _ q y => ?_⟩
  obtain ⟨T, c, h1, h2, h3, h4⟩ := y
  exact ⟨T, .int (i : Nat), .str ⟨#[c]⟩, h1, h2, h3, rfl, by show Option.map _ z.cps[i]? = _; rw [h4]; rfl⟩
/-! ### o.f as a target -/
section
variable {X : Cx}
def gFld (K : PySem.W.Frag) (ta : TE) (f : Str) : TG := fun y σ H Q => ta σ H fun x H2 => ∃ a C dx fs, x = .ref a ∧ H2 a = some (.ins C dx fs) ∧ Cls K C ∧ NoAttr K C f ∧ fs.length < 1000 ∧
  Q σ (upd H2 a (.ins C dx (putF f y fs)))
theorem pg_fld {o : Expr} {f : Str} {pos : Pos} {ta : TE} (ha : PE X o ta)
    (hr : ∀ v, assign (.Attribute o f pos) X.env v = (do
      let ov ← holding [v] (eval o X.env)
      standAt pos.atName
      holding [v, ov] (setAttr ov f v)
      release [v, ov] []) := by intro _; rfl) : PG X (.Attribute o f pos) (gFld X.K ta f) := by
  refine ⟨fun pins s σ H v u Q I r h => ?_⟩
  rw [hr]
  refine wpAny_bind (wpAny_holding (thn (ha.run pins s σ H _ I h) fun ov s1 ⟨x, H1, I1, rx, a, C, dx, fs, ex, ea, c, n, l, q2⟩ => ?_))
  subst ex
  obtain rfl : ov = Value.ref a := rx
  refine wpAny_bind (wpAny_standAt (wpAny_bind (wpAny_holding (setattr_ok I1 ea c n l r fun s3 I3 => ?_))))
  exact wpAny_release ⟨σ, _, I3, q2⟩
/-! ### text * int -/
theorem mulOk_small {x : Str} {n : Int} (h0 : 0 ≤ n) (h1 : n ≤ 1000) (h2 : x.length = 1) : MulOk x n := by
  refine ⟨?_, fun hn _ => ?_, fun hn _ => ?_⟩
  · rw [decide_eq_false (by omega), decide_eq_false (by omega)]; rfl
  · have h3 : (1 : Int) ≤ (2 ^ 63 - 1) / n := Int.le_ediv_of_mul_le (by omega) (by omega)
    omega
  · rw [h2]
    unfold Builtin.Str.tooLong
    have := sizeLine_eq
    simp
    omega
theorem op_mul_str : OpR X (binaryOp .Mult) (fun x y H Q => ∃ (z : Str) (n : Int), x = .str z ∧ y = .int n ∧ 0 ≤ n ∧ n ≤ 1000 ∧ z.length = 1 ∧ Q (.str (Txt.mul z n)) H) := by
  rintro pins s σ H x y u v Q I rx ry ⟨z, n, rfl, rfl, h0, h1, h2, q⟩
  obtain ⟨t, rfl⟩ := (show ∃ t, u = Value.str z t from rx)
  obtain ⟨t', rfl⟩ := (show ∃ t', v = Value.int n t' from ry)
  exact SB.mul (mulOk_small h0 h1 h2) fun t' k => ⟨.str _, H, I.tok _, ⟨_, rfl⟩, q⟩
/-! ### X(), X an own exception class without own __init__ -/
theorem pmk_own0 {C : Addr} {bmB : List Value} {B newId initId : String} {x : Str} {p pos : Pos} (F : ExcBaseFacts B newId initId bmB) (q : PySem.W.excIn X.K C bmB newId = true) (gC : X.mg x = some (.ref C))
    (kC : PySem.W.keepIn X.K (.ref C) = true) (r : Raises X (.ref C)) (hg : Gl X x) (hdb : (x == ("__debug__" : Str)) = false := by decide) :
    PMk X (.Call (.Name x p) [] [] pos) (fun _ H Q => Q (.ref C) none H) := by
  intro pins s σ H Q I h
  refine wpAny_Call_Name_kw (ld_glob I hg gC ?_ hdb)
  refine PySem.W.callWith_K0 I.kIn kC ?_
  show wpAny _ _ (call (.ref C) []) _ _ _
  obtain ⟨bm, N, nm, qn, bs, hdct, sn, sub, ab, col, dd, k0, k1, k2, k3, k5, mN, hC, hN, hni, T⟩ := exc_obj I.kIn q
  refine wpAny_call_exc_subT F T hC hN hni (fun h' e hm => ?_) (by show 0 ≤ sizeLine; exact Nat.zero_le _)
  exact mk_of I hm r h (I.hok.gone hm.new)
/-! ### o[i], a list's, by values -/
theorem get_list : PGet X (rIxL X.K) := by
  intro pins s σ H x y v u Q I rx ry h
  obtain ⟨p, xs, i, z, rfl, rfl, hq, he, q⟩ := h
  cases rx
  obtain ⟨t, rfl⟩ := ry
  obtain ⟨its, r, pl, hz⟩ := I.list hq
  obtain ⟨j, h1, h2, h3, h4, h5⟩ := atI_get he
  obtain ⟨w, ew, rw'⟩ := r.get h2
  have fin : EP X pins σ Q w s := ⟨z, H, I, rw', q⟩
  have hl := r.length
  have hn := line63
  by_cases h0 : 0 ≤ i
  · have hj : i.toNat = j := by
      rw [seqIndex_of h0 h5] at h1
      exact Option.some.inj h1
    exact wpAny_getItem_list pl.isList h0 (by omega) (by rw [hj]; simpa using ew) fin
  · have hj : (i + (its.toArray.size : Int)).toNat = j := by
      rw [seqIndex_neg (by omega) h4] at h1
      rw [List.size_toArray, ← hl]
      exact Option.some.inj h1
    exact wpAny_getItem_list_neg pl.isList (by omega) (by rw [List.size_toArray] <;> omega) (by omega) (by rw [hj]; simpa using ew) fin
end
end L2

set_option autoImplicit true
set_option Elab.async false
set_option linter.all false
set_option maxRecDepth 100000
set_option maxHeartbeats 4000000
namespace K31
/-! sums and lists, plain -/
def sumN : Nat → (Nat → Int) → Int
  | 0, _ => 0
  | n + 1, f => sumN n f + f n
theorem sumN_congr {f g : Nat → Int} : ∀ {n : Nat}, (∀ i, i < n → f i = g i) → sumN n f = sumN n g
  | 0, _ => rfl
  | n + 1, h => by
    show sumN n f + f n = sumN n g + g n
    rw [sumN_congr (fun i hi => h i (by omega)), h n (by omega)]
theorem sumN_add (f g : Nat → Int) : ∀ n : Nat, sumN n (fun i => f i + g i) = sumN n f + sumN n g
  | 0 => rfl
  | n + 1 => by
    show sumN n _ + (f n + g n) = (sumN n f + f n) + (sumN n g + g n)
    rw [sumN_add f g n]; omega
theorem sumN_zero : ∀ n : Nat, sumN n (fun _ => 0) = 0
  | 0 => rfl
  | n + 1 => by show sumN n _ + 0 = 0; rw [sumN_zero n]; rfl
theorem sumN_neg (f : Nat → Int) : ∀ n : Nat, sumN n (fun i => - f i) = - sumN n f
  | 0 => rfl
  | n + 1 => by show sumN n _ + (- f n) = -(sumN n f + f n); rw [sumN_neg f n]; omega
theorem sumN_mul (c : Int) (f : Nat → Int) : ∀ n : Nat, sumN n (fun i => c * f i) = c * sumN n f
  | 0 => by simp [sumN]
  | n + 1 => by show sumN n _ + _ = c * (sumN n f + f n); rw [sumN_mul c f n, Int.mul_add]
theorem sumN_le {f g : Nat → Int} : ∀ {n : Nat}, (∀ i, i < n → f i ≤ g i) → sumN n f ≤ sumN n g
  | 0, _ => Int.le_refl _
  | n + 1, h => by
    have h1 := sumN_le (n := n) fun i hi => h i (by omega)
    have h2 := h n (by omega)
    show sumN n f + f n ≤ sumN n g + g n
    omega
/-- one term changes -/
theorem sumN_one {f g : Nat → Int} {k : Nat} : ∀ {n : Nat}, k < n → (∀ i, i < n → i ≠ k → g i = f i) → sumN n g = sumN n f + (g k - f k)
  | 0, h, _ => by omega
  | n + 1, h, e => by
    show sumN n g + g n = sumN n f + f n + (g k - f k)
    by_cases hk : k = n
    · subst hk
      rw [sumN_congr (n := k) (f := g) (g := f) fun i hi => e i (by omega) (by omega)]
      omega
    · rw [sumN_one (n := n) (by omega) fun i hi hn => e i (by omega) hn, e n (by omega) (Ne.symm hk)]
      omega
theorem sumN_swap (f : Nat → Nat → Int) (n : Nat) : ∀ m : Nat, sumN m (fun i => sumN n (fun j => f i j)) = sumN n (fun j => sumN m (fun i => f i j))
  | 0 => (sumN_zero n).symm
  | m + 1 => by
    show sumN m _ + _ = _
    rw [sumN_swap f n m, ← sumN_add]
    rfl
theorem sumN_delta (c : Int) {k : Nat} : ∀ {n : Nat}, k < n → sumN n (fun i => if i = k then c else 0) = c := fun {n} h => by
  rw [sumN_one (f := fun _ => 0) (k := k) h fun i _ hn => if_neg hn, sumN_zero]
  simp
theorem sumN_nodelta (c : Int) {k n : Nat} (h : n ≤ k) : sumN n (fun i => if i = k then c else 0) = 0 := by
  rw [sumN_congr (g := fun _ => 0) fun i hi => if_neg (by omega), sumN_zero]
/-! lists as functions -/
theorem getD_of_some {α : Type} {l : List α} {i : Nat} {d x : α} (h : l[i]? = some x) : l.getD i d = x := by
  simp [List.getD, h]
theorem some_of_lt {α : Type} {l : List α} {i : Nat} (d : α) (h : i < l.length) : l[i]? = some (l.getD i d) := by
  simp [List.getD, List.getElem?_eq_getElem h]
theorem getD_set {α : Type} {l : List α} {i j : Nat} {d x : α} (h : i < l.length) : (l.set i x).getD j d = if j = i then x else l.getD j d := by
  unfold List.getD
  by_cases e : j = i
  · subst e; rw [List.getElem?_set_self h, if_pos rfl]; rfl
  · rw [List.getElem?_set_ne (Ne.symm e), if_neg e]
theorem getD_mem {α : Type} {l : List α} {i : Nat} {d : α} (h : i < l.length) : l.getD i d ∈ l := by
  have := some_of_lt d h
  exact List.mem_of_getElem? this
theorem getD_map {α β : Type} {f : α → β} {l : List α} {i : Nat} {d : α} {d' : β} (h : i < l.length) : (l.map f).getD i d' = f (l.getD i d) := by
  refine getD_of_some ?_
  rw [List.getElem?_map, some_of_lt d h]; rfl
theorem getD_append_left {α : Type} {l r : List α} {i : Nat} {d : α} (h : i < l.length) : (l ++ r).getD i d = l.getD i d := by
  unfold List.getD; rw [List.getElem?_append_left h]
theorem getD_append_right {α : Type} {l r : List α} {i : Nat} {d : α} : (l ++ r).getD (l.length + i) d = r.getD i d := by
  unfold List.getD; rw [List.getElem?_append_right (by omega)]; congr 2; omega
theorem list_ext_getD {α : Type} {l r : List α} (d : α) (hl : l.length = r.length) (h : ∀ i, i < l.length → l.getD i d = r.getD i d) : l = r := by
  refine List.ext_getElem? fun i => ?_
  by_cases hi : i < l.length
  · rw [some_of_lt d hi, some_of_lt d (by omega), h i hi]
  · rw [List.getElem?_eq_none (by omega), List.getElem?_eq_none (by omega)]
theorem sum_set_getD {l : List Int} {j : Nat} {y : Int} (h : j < l.length) : (l.set j y).sum = l.sum - l.getD j 0 + y := by
  induction l generalizing j with
  | nil => simp at h
  | cons a r ih =>
    cases j with
    | zero => simp [List.getD]; omega
    | succ j =>
      have := ih (j := j) (by simpa using h)
      simp only [List.set_cons_succ, List.sum_cons, this]
      have e : (a :: r).getD (j + 1) 0 = r.getD j 0 := by simp [List.getD]
      rw [e]; omega
/-- what is above zero -/
def pos (l : List Int) : Int := (l.map fun x => max 0 x).sum
theorem pos_nonneg (l : List Int) : 0 ≤ pos l := by
  unfold pos
  induction l with
  | nil => simp
  | cons a r ih => simp only [List.map_cons, List.sum_cons]; omega
theorem pos_set {l : List Int} {j : Nat} {y : Int} (h : j < l.length) : pos (l.set j y) = pos l - max 0 (l.getD j 0) + max 0 y := by
  unfold pos
  rw [List.map_set, sum_set_getD (by simpa using h), getD_map (d := (0 : Int)) h]
theorem pos_zero {l : List Int} (h : pos l = 0) : ∀ x ∈ l, x ≤ 0 := by
  induction l with
  | nil => intro x hx; cases hx
  | cons a r ih =>
    intro x hx
    have h1 : max 0 a + pos r = 0 := h
    have h2 := pos_nonneg r
    rcases List.mem_cons.mp hx with e | e
    · subst e; omega
    · exact ih (by omega) x e
theorem all_zero {l : List Int} (h : ∀ x ∈ l, x ≤ 0) (hs : l.sum = 0) : ∀ x ∈ l, x = 0 := by
  induction l with
  | nil => intro x hx; cases hx
  | cons a r ih =>
    have hr : r.sum ≤ 0 := by
      have : ∀ r : List Int, (∀ x ∈ r, x ≤ 0) → r.sum ≤ 0 := by
        intro r
        induction r with
        | nil => intro _; simp
        | cons b s ih => intro h; have := ih fun x hx => h x (List.mem_cons_of_mem _ hx); have := h b (List.mem_cons_self ..); simp only [List.sum_cons]; omega
      exact this r fun x hx => h x (List.mem_cons_of_mem _ hx)
    have ha := h a (List.mem_cons_self ..)
    rw [List.sum_cons] at hs
    intro x hx
    rcases List.mem_cons.mp hx with e | e
    · subst e; omega
    · exact ih (fun x hx => h x (List.mem_cons_of_mem _ hx)) (by omega) x e
/-- how many are false -/
def cf (l : List Bool) : Nat := (l.filter fun b => !b).length
theorem cf_set {l : List Bool} {j : Nat} (h : j < l.length) (hf : l.getD j false = false) : cf (l.set j true) + 1 = cf l := by
  unfold cf
  induction l generalizing j with
  | nil => simp at h
  | cons a r ih =>
    cases j with
    | zero =>
      have : a = false := by simpa [List.getD] using hf
      subst this; simp
    | succ j =>
      have := ih (j := j) (by simpa using h) (by simpa [List.getD] using hf)
      cases a
      · simp only [List.set_cons_succ, List.filter_cons, Bool.not_false, if_true, List.length_cons]; omega
      · simp only [List.set_cons_succ, List.filter_cons, Bool.not_true, Bool.false_eq_true, if_false]; exact this
theorem getD_replicate {α : Type} {n i : Nat} {x d : α} (h : i < n) : (List.replicate n x).getD i d = x := by
  unfold List.getD; rw [List.getElem?_replicate, if_pos h]; rfl
end K31

set_option autoImplicit true
set_option Elab.async false
set_option linter.all false
set_option maxRecDepth 100000
set_option maxHeartbeats 4000000
namespace K31
/-! a net with room and prices: flows, lifts, the nearest nodes, ways; plain -/
structure Net where
  n : Nat
  m : Nat
  heads : List Nat
  price : List Int
  arcs : List (List Nat)
/-- the opposite arc -/
def tw (e : Nat) : Nat := if e % 2 = 0 then e + 1 else e - 1
theorem tw_tw (e : Nat) : tw (tw e) = e := by unfold tw; split <;> split <;> omega
theorem tw_lt {e m : Nat} (h : e < 2 * m) : tw e < 2 * m := by unfold tw; split <;> omega
theorem tw_ne (e : Nat) : tw e ≠ e := by unfold tw; split <;> omega
namespace Net
variable (G : Net)
def hd (e : Nat) : Nat := G.heads.getD e 0
def tl (e : Nat) : Nat := G.heads.getD (tw e) 0
def pr (e : Nat) : Int := G.price.getD e 0
def row (v : Nat) : List Nat := G.arcs.getD v []
structure Ok : Prop where
  lh : G.heads.length = 2 * G.m
  lp : G.price.length = 2 * G.m
  la : G.arcs.length = G.n
  hl : ∀ e, e < 2 * G.m → G.hd e < G.n
  pz : ∀ e, e < 2 * G.m → G.pr (tw e) = - G.pr e
  ar : ∀ v, v < G.n → ∀ e, e ∈ G.row v ↔ e < 2 * G.m ∧ G.tl e = v
end Net
variable {G : Net}
theorem Net.Ok.tl_lt (O : G.Ok) {e : Nat} (h : e < 2 * G.m) : G.tl e < G.n := O.hl _ (tw_lt h)
theorem hd_tw (e : Nat) : G.hd (tw e) = G.tl e := rfl
theorem tl_tw (e : Nat) : G.tl (tw e) = G.hd e := by unfold Net.tl Net.hd; rw [tw_tw]
/-- the price of an arc by the lifts -/
def red (G : Net) (lifts : List Int) (e : Nat) : Int := G.pr e + lifts.getD (G.tl e) 0 - lifts.getD (G.hd e) 0
theorem red_tw (O : G.Ok) {lifts : List Int} {e : Nat} (h : e < 2 * G.m) : red G lifts (tw e) = - red G lifts e := by
  unfold red
  rw [O.pz e h, hd_tw, tl_tw]; omega
/-- how much goes through the arc k -/
def amt (low : List Int) (room : List Int) (k : Nat) : Int := low.getD k 0 + room.getD (2 * k + 1) 0
def dl (a b : Nat) : Int := if a = b then 1 else 0
/-- what comes to v, less what leaves it -/
def flowAt (G : Net) (low room : List Int) (v : Nat) : Int := sumN G.m fun k => amt low room k * (dl (G.hd (2 * k)) v - dl (G.tl (2 * k)) v)
structure Inv (G : Net) (low cap : List Int) (room over lifts : List Int) : Prop where
  lr : room.length = 2 * G.m
  lo : over.length = G.n
  ll : lifts.length = G.n
  r0 : ∀ e, e < 2 * G.m → 0 ≤ room.getD e 0
  rc : ∀ k, k < G.m → room.getD (2 * k) 0 + room.getD (2 * k + 1) 0 = cap.getD k 0
  ov : ∀ v, v < G.n → over.getD v 0 = flowAt G low room v
  s0 : over.sum = 0
  rd : ∀ e, e < 2 * G.m → 0 < room.getD e 0 → 0 ≤ red G lifts e
/-- an arc that may be used: with room, without price -/
def Use (G : Net) (room lifts : List Int) (e : Nat) : Prop := e < 2 * G.m ∧ 0 < room.getD e 0 ∧ red G lifts e = 0
/-! ### pushing -/
/-- d more along an arc -/
def push1 (d : Int) (room : List Int) (e : Nat) : List Int :=
  (room.set e (room.getD e 0 - d)).set (tw e) ((room.set e (room.getD e 0 - d)).getD (tw e) 0 + d)
theorem push1_len {d : Int} {room : List Int} {e : Nat} : (push1 d room e).length = room.length := by unfold push1; simp
theorem push1_get {d : Int} {room : List Int} {m e j : Nat} (hl : room.length = 2 * m) (he : e < 2 * m) :
    (push1 d room e).getD j 0 = if j = e then room.getD e 0 - d else if j = tw e then room.getD (tw e) 0 + d else room.getD j 0 := by
  unfold push1
  have h1 : e < room.length := by omega
  have h2 : tw e < (room.set e (room.getD e 0 - d)).length := by simpa [hl] using tw_lt he
  rw [getD_set h2, getD_set h1, getD_set h1]
  by_cases c1 : j = e
  · subst c1
    rw [if_neg (tw_ne j).symm, if_pos rfl, if_pos rfl]
  · by_cases c2 : j = tw e
    · subst c2; rw [if_pos rfl, if_neg (tw_ne e), if_neg c1, if_pos rfl]
    · rw [if_neg c2, if_neg c1, if_neg c1, if_neg c2]
theorem push1_flow {low room : List Int} {d : Int} {e v : Nat} (hl : room.length = 2 * G.m) (he : e < 2 * G.m) :
    flowAt G low (push1 d room e) v = flowAt G low room v + d * (dl (G.hd e) v - dl (G.tl e) v) := by
  unfold flowAt
  have hk : e / 2 < G.m := by omega
  rw [sumN_one (k := e / 2) (f := fun k => amt low room k * (dl (G.hd (2 * k)) v - dl (G.tl (2 * k)) v)) hk]
  · have ea : amt low (push1 d room e) (e / 2) = amt low room (e / 2) + (if e % 2 = 0 then d else - d) := by
      unfold amt
      rw [push1_get hl he]
      unfold tw
      by_cases c : e % 2 = 0
      · rw [if_neg (by omega), if_pos c, if_pos (by omega), if_pos c, show 2 * (e / 2) + 1 = e + 1 by omega]; omega
      · rw [if_pos (by omega), if_neg c, show 2 * (e / 2) + 1 = e by omega]; omega
    show _ + (amt low (push1 d room e) (e / 2) * _ - amt low room (e / 2) * _) = _
    rw [ea, ← Int.sub_mul]
    by_cases c : e % 2 = 0
    · rw [if_pos c, show 2 * (e / 2) = e by omega]
      congr 2; omega
    · have h1 : 2 * (e / 2) = tw e := by unfold tw; rw [if_neg c]; omega
      rw [if_neg c, h1, hd_tw, tl_tw]
      have h2 : amt low room (e / 2) + - d - amt low room (e / 2) = - d := by omega
      rw [h2, Int.neg_mul, ← Int.mul_neg]
      congr 2; omega
  · intro k hk2 hne
    have ea : amt low (push1 d room e) k = amt low room k := by
      unfold amt
      rw [push1_get hl he, if_neg (by omega), if_neg (by unfold tw; split <;> omega)]
    show amt low (push1 d room e) k * _ = _
    rw [ea]
def pushes (d : Int) (room : List Int) (way : List Nat) : List Int := way.foldl (push1 d) room
theorem pushes_len {d : Int} : ∀ {way : List Nat} {room : List Int}, (pushes d room way).length = room.length
  | [], _ => rfl
  | e :: r, room => by show (pushes d (push1 d room e) r).length = _; rw [pushes_len, push1_len]
/-- a way from one node to another -/
def Path (G : Net) : Nat → List Nat → Nat → Prop
  | v, [], w => v = w
  | v, e :: r, w => e < 2 * G.m ∧ G.tl e = v ∧ Path G (G.hd e) r w
theorem Path.snoc : ∀ {v : Nat} {way : List Nat} {u e : Nat}, Path G v way u → e < 2 * G.m → G.tl e = u → Path G v (way ++ [e]) (G.hd e)
  | _, [], _, e, h, he, ht => ⟨he, ht.trans (Eq.symm h), rfl⟩
  | _, _ :: _, _, _, h, he, ht => ⟨h.1, h.2.1, Path.snoc h.2.2 he ht⟩
theorem Path.front : ∀ {v : Nat} {way : List Nat} {e w : Nat}, Path G v (way ++ [e]) w → Path G v way (G.tl e) ∧ e < 2 * G.m ∧ G.hd e = w
  | v, [], e, w, h => ⟨h.2.1.symm, h.1, h.2.2⟩
  | v, a :: r, e, w, h => by
    obtain ⟨h1, h2, h3⟩ := h
    obtain ⟨a1, a2, a3⟩ := Path.front h3
    exact ⟨⟨h1, h2, a1⟩, a2, a3⟩
theorem Path.lt : ∀ {v : Nat} {way : List Nat} {w : Nat}, Path G v way w → ∀ e ∈ way, e < 2 * G.m
  | _, [], _, _, _, h => by cases h
  | _, a :: r, _, hp, e, h => by
    rcases List.mem_cons.mp h with z | z
    · rw [z]; exact hp.1
    · exact Path.lt hp.2.2 e z
theorem pushes_flow {low : List Int} {d : Int} {v : Nat} : ∀ {way : List Nat} {room : List Int} {a b : Nat}, room.length = 2 * G.m → Path G a way b →
    flowAt G low (pushes d room way) v = flowAt G low room v + d * (dl b v - dl a v)
  | [], room, a, b, hl, h => by
    have e : a = b := h
    subst e
    show flowAt G low room v = _
    rw [Int.sub_self, Int.mul_zero, Int.add_zero]
  | e :: r, room, a, b, hl, h => by
    obtain ⟨h1, h2, h3⟩ := h
    show flowAt G low (pushes d (push1 d room e) r) v = _
    rw [pushes_flow (by rw [push1_len]; exact hl) h3, push1_flow hl h1, h2, Int.add_assoc, ← Int.mul_add]
    congr 2; omega
/-- what a way's push does to the room -/
theorem pushes_room {m : Nat} {d : Int} (hd : 0 ≤ d) : ∀ {way : List Nat} {room : List Int}, room.length = 2 * m → (∀ e ∈ way, e < 2 * m) → way.Nodup → (∀ e ∈ way, d ≤ room.getD e 0) →
    (∀ e, e < 2 * m → 0 ≤ room.getD e 0) →
    (∀ e, e < 2 * m → 0 ≤ (pushes d room way).getD e 0) ∧ (∀ k, k < m → (pushes d room way).getD (2 * k) 0 + (pushes d room way).getD (2 * k + 1) 0 = room.getD (2 * k) 0 + room.getD (2 * k + 1) 0) ∧
    ∀ e, e < 2 * m → 0 < (pushes d room way).getD e 0 → 0 < room.getD e 0 ∨ tw e ∈ way
  | [], room, hl, hw, hn, hr, h0 => ⟨h0, fun _ _ => rfl, fun _ _ h => .inl h⟩
  | a :: r, room, hl, hw, hn, hr, h0 => by
    have ha : a < 2 * m := hw a (List.mem_cons_self ..)
    have hda := hr a (List.mem_cons_self ..)
    obtain ⟨hn1, hn2⟩ := List.nodup_cons.mp hn
    have g := fun j => push1_get (d := d) (j := j) hl ha
    have ih := pushes_room hd (way := r) (room := push1 d room a) (by rw [push1_len]; exact hl) (fun e he => hw e (List.mem_cons_of_mem _ he)) hn2
      (fun e he => by
        rw [g e, if_neg (show ¬ e = a from fun z => hn1 (z ▸ he))]
        have := hr e (List.mem_cons_of_mem _ he)
        split
        · rename_i z; subst z; omega
        · exact this)
      (fun e he => by
        rw [g e]
        have := h0 e he
        split
        · omega
        · split
          · rename_i z; subst z; omega
          · exact this)
    obtain ⟨i1, i2, i3⟩ := ih
    refine ⟨i1, fun k hk => ?_, fun e he hp => ?_⟩
    · show (pushes d (push1 d room a) r).getD (2 * k) 0 + (pushes d (push1 d room a) r).getD (2 * k + 1) 0 = _
      rw [i2 k hk, g, g]
      unfold tw
      by_cases c : a % 2 = 0
      · rw [if_pos c]
        by_cases c2 : 2 * k = a
        · rw [if_pos c2, if_neg (by omega), if_pos (by omega)]
          rw [← c2]; omega
        · rw [if_neg c2, if_neg (by omega), if_neg (by omega), if_neg (by omega)]
      · rw [if_neg c]
        by_cases c2 : 2 * k + 1 = a
        · rw [if_neg (by omega), if_pos (by omega), if_pos c2]
          rw [show a - 1 = 2 * k by omega, ← c2]; omega
        · rw [if_neg (by omega), if_neg (by omega), if_neg (by omega), if_neg (by omega)]
    · rcases i3 e he hp with q | q
      · rw [g e] at q
        by_cases c1 : e = a
        · subst c1; rw [if_pos rfl] at q; exact .inl (by omega)
        · rw [if_neg c1] at q
          by_cases c2 : e = tw a
          · exact .inr (by rw [c2, tw_tw]; exact List.mem_cons_self ..)
          · rw [if_neg c2] at q; exact .inl q
      · exact .inr (List.mem_cons_of_mem _ q)
theorem way_nodup : ∀ {way : List Nat}, (way.map G.hd).Nodup → way.Nodup
  | [], _ => List.nodup_nil
  | a :: r, h => by
    obtain ⟨h1, h2⟩ := List.nodup_cons.mp (show (G.hd a :: r.map G.hd).Nodup from h)
    exact List.nodup_cons.mpr ⟨fun z => h1 (List.mem_map_of_mem z), way_nodup h2⟩
/-- over behind a push -/
def over2 (d : Int) (over : List Int) (a b : Nat) : List Int := (over.set a (over.getD a 0 - d)).set b ((over.set a (over.getD a 0 - d)).getD b 0 + d)
theorem over2_len {d : Int} {over : List Int} {a b : Nat} : (over2 d over a b).length = over.length := by unfold over2; simp
theorem over2_get {d : Int} {over : List Int} {a b j : Nat} (ha : a < over.length) (hb : b < over.length) (hab : a ≠ b) :
    (over2 d over a b).getD j 0 = over.getD j 0 + d * (dl b j - dl a j) := by
  unfold over2 dl
  rw [getD_set (by simpa using hb), getD_set ha, getD_set ha]
  by_cases c1 : j = b
  · subst c1
    rw [if_pos rfl, if_neg hab.symm, if_pos rfl, if_neg hab]; omega
  · rw [if_neg c1, if_neg (Ne.symm c1)]
    by_cases c2 : j = a
    · subst c2; rw [if_pos rfl, if_pos rfl]; omega
    · rw [if_neg c2, if_neg (Ne.symm c2)]; omega
/-- THE PUSH -/
theorem push_inv (O : G.Ok) {low cap room over lifts : List Int} (I : Inv G low cap room over lifts) {a b : Nat} {way : List Nat} {d : Int} (ha : a < G.n) (hb : b < G.n) (hab : a ≠ b) (hp : Path G a way b) (hn : (way.map G.hd).Nodup)
    (hu : ∀ e ∈ way, Use G room lifts e) (hd : 0 < d) (hr : ∀ e ∈ way, d ≤ room.getD e 0) (hoa : d ≤ over.getD a 0) (hob : d ≤ - over.getD b 0) :
    Inv G low cap (pushes d room way) (over2 d over a b) lifts ∧ pos (over2 d over a b) = pos over - d := by
  obtain ⟨p1, p2, p3⟩ := pushes_room (Int.le_of_lt hd) I.lr hp.lt (way_nodup hn) hr I.r0
  have ha' : a < over.length := by rw [I.lo]; exact ha
  have hb' : b < over.length := by rw [I.lo]; exact hb
  have hb2 : b < (over.set a (over.getD a 0 - d)).length := by simpa using hb'
  refine ⟨⟨by rw [pushes_len]; exact I.lr, by rw [over2_len]; exact I.lo, I.ll, p1, fun k hk => (p2 k hk).trans (I.rc k hk), fun v hv => ?_, ?_, fun e he hpe => ?_⟩, ?_⟩
  · rw [over2_get ha' hb' hab, pushes_flow I.lr hp, I.ov v hv]
  · unfold over2
    rw [sum_set_getD hb2, sum_set_getD ha', I.s0]; omega
  · rcases p3 e he hpe with q | q
    · exact I.rd e he q
    · have h1 := (hu _ q).2.2
      have h2 := red_tw (lifts := lifts) O (tw_lt he)
      rw [tw_tw] at h2
      omega
  · unfold over2
    rw [pos_set hb2, pos_set ha', getD_set ha', if_neg hab.symm]
    omega
end K31

set_option autoImplicit true
set_option Elab.async false
set_option linter.all false
set_option maxRecDepth 100000
set_option maxHeartbeats 4000000
namespace K31
variable {G : Net} {low cap room over lifts : List Int}
/-! ### the nearest nodes -/
/-- there is a way of this length from a node with too much -/
inductive TP (G : Net) (room over lifts : List Int) : Nat → Int → Prop
  | src {v : Nat} : v < G.n → 0 < over.getD v 0 → TP G room over lifts v 0
  | step {e : Nat} {x : Int} : TP G room over lifts (G.tl e) x → e < 2 * G.m → 0 < room.getD e 0 → TP G room over lifts (G.hd e) (x + red G lifts e)
def fd (found : List (Option Int)) (v : Nat) : Option Int := found.getD v none
def bd (l : List Bool) (v : Nat) : Bool := l.getD v false
/-- found so far; the node u is being done, ok tells of its arcs that have been looked at -/
structure DInv (G : Net) (room over lifts : List Int) (found : List (Option Int)) (done : List Bool) (u : Nat) (ok : Nat → Prop) : Prop where
  lf : found.length = G.n
  ld : done.length = G.n
  src : ∀ v, v < G.n → 0 < over.getD v 0 → fd found v = some 0
  nn : ∀ v x, v < G.n → fd found v = some x → 0 ≤ x
  tp : ∀ v x, v < G.n → fd found v = some x → TP G room over lifts v x
  dn : ∀ v, v < G.n → bd done v = true → ∃ x, fd found v = some x ∧ ∀ e ∈ G.row v, (v = u → ok e) → 0 < room.getD e 0 → ∃ y, fd found (G.hd e) = some y ∧ y ≤ x + red G lifts e
  mo : ∀ v w x y, v < G.n → w < G.n → bd done v = true → fd found v = some x → bd done w = false → fd found w = some y → x ≤ y
  la : ∀ v x y, v < G.n → bd done v = true → fd found v = some y → fd found u = some x → y ≤ x
def found0 (over : List Int) : List (Option Int) := over.map fun much => if 0 < much then some 0 else none
theorem dinv_start (lo : over.length = G.n) : DInv G room over lifts (found0 over) (List.replicate G.n false) G.n (fun _ => True) := by
  have hf : ∀ v, v < G.n → fd (found0 over) v = if 0 < over.getD v 0 then some 0 else none := fun v hv => by
    unfold fd found0
    rw [getD_map (d := (0 : Int)) (by omega)]
  have hb : ∀ v, v < G.n → bd (List.replicate G.n false) v = false := fun v hv => getD_replicate hv
  refine ⟨by simp [found0, lo], by simp, fun v hv h => by rw [hf v hv, if_pos h], fun v x hv h => ?_, fun v x hv h => ?_, fun v hv h => ?_, fun v w x y hv hw h => ?_, fun v x y hv h => ?_⟩
  · rw [hf v hv] at h
    split at h
    · cases h; omega
    · cases h
  · rw [hf v hv] at h
    split at h
    · rename_i c; cases h; exact .src hv c
    · cases h
  · rw [hb v hv] at h; cases h
  · rw [hb v hv] at h; cases h
  · rw [hb v hv] at h; cases h
/-- the next node with the least number -/
theorem dinv_pick {found : List (Option Int)} {done : List Bool} {u v : Nat} {x : Int} (D : DInv G room over lifts found done u (fun _ => True)) (hv : v < G.n) (hd : bd done v = false) (hx : fd found v = some x)
    (hm : ∀ w y, w < G.n → bd done w = false → fd found w = some y → x ≤ y) : DInv G room over lifts found (done.set v true) v (fun _ => False) := by
  have hb : ∀ w, bd (done.set v true) w = if w = v then true else bd done w := fun w => getD_set (by rw [D.ld]; exact hv)
  refine ⟨D.lf, by rw [List.length_set]; exact D.ld, D.src, D.nn, D.tp, fun w hw h => ?_, fun w z a b hw hz h1 h2 h3 h4 => ?_, fun w a b hw h1 h2 h3 => ?_⟩
  · by_cases c : w = v
    · subst c
      exact ⟨x, hx, fun e _ h => (h rfl).elim⟩
    · rw [hb, if_neg c] at h
      obtain ⟨a, h1, h2⟩ := D.dn w hw h
      exact ⟨a, h1, fun e he _ hr => h2 e he (fun _ => trivial) hr⟩
  · rw [hb] at h1 h3
    split at h3
    · cases h3
    · rename_i c
      by_cases c2 : w = v
      · subst c2
        rw [hx] at h2; cases h2
        exact hm z b hz h3 h4
      · rw [if_neg c2] at h1
        exact D.mo w z a b hw hz h1 h2 h3 h4
  · rw [hb] at h1
    rw [hx] at h3; cases h3
    by_cases c2 : w = v
    · subst c2
      rw [hx] at h2; cases h2
      exact Int.le_refl _
    · rw [if_neg c2] at h1
      exact D.mo w v b x hw hv h1 h2 hd hx
/-- one arc looked at -/
theorem dinv_arc (O : G.Ok) (I : Inv G low cap room over lifts) {found : List (Option Int)} {done : List Bool} {u e : Nat} {ok : Nat → Prop} {x : Int} (D : DInv G room over lifts found done u ok) (hu : u < G.n) (hdu : bd done u = true) (hx : fd found u = some x)
    (he : e ∈ G.row u) :
    (¬ (0 < room.getD e 0 ∧ bd done (G.hd e) = false) → DInv G room over lifts found done u (fun a => ok a ∨ a = e)) ∧
    (0 < room.getD e 0 → bd done (G.hd e) = false → (∃ y, fd found (G.hd e) = some y ∧ y ≤ x + red G lifts e) → DInv G room over lifts found done u (fun a => ok a ∨ a = e)) ∧
    (0 < room.getD e 0 → bd done (G.hd e) = false → (∀ y, fd found (G.hd e) = some y → x + red G lifts e < y) → DInv G room over lifts (found.set (G.hd e) (some (x + red G lifts e))) done u (fun a => ok a ∨ a = e)) := by
  obtain ⟨hem, het⟩ := (O.ar u hu e).mp he
  have hh := O.hl e hem
  -- what is known already, when the new arc is all right
  have key : (0 < room.getD e 0 → ∃ y, fd found (G.hd e) = some y ∧ y ≤ x + red G lifts e) → DInv G room over lifts found done u (fun a => ok a ∨ a = e) := fun q =>
    ⟨D.lf, D.ld, D.src, D.nn, D.tp, fun v hv h => by
      obtain ⟨a, h1, h2⟩ := D.dn v hv h
      refine ⟨a, h1, fun e' he' hk hr => ?_⟩
      by_cases c : v = u
      · rcases hk c with k | k
        · exact h2 e' he' (fun _ => k) hr
        · subst c; subst k
          rw [hx] at h1; cases h1
          exact q hr
      · exact h2 e' he' (fun z => (c z).elim) hr, D.mo, D.la⟩
  refine ⟨fun hn => key fun hr => ?_, fun _ _ q => key fun _ => q, fun hr hdn hlt => ?_⟩
  · have hdh : bd done (G.hd e) = true := by
      cases z : bd done (G.hd e)
      · exact (hn ⟨hr, z⟩).elim
      · rfl
    obtain ⟨y, hy, _⟩ := D.dn _ hh hdh
    have h1 := D.la _ x y hh hdh hy hx
    have h2 := I.rd e hem hr
    exact ⟨y, hy, by omega⟩
  · have hr0 := I.rd e hem hr
    have hx0 := D.nn u x hu hx
    have hne : u ≠ G.hd e := fun z => by rw [← z, hdu] at hdn; cases hdn
    have hf : ∀ v, fd (found.set (G.hd e) (some (x + red G lifts e))) v = if v = G.hd e then some (x + red G lifts e) else fd found v := fun v => getD_set (by rw [D.lf]; exact hh)
    have hfd : ∀ v, bd done v = true → fd (found.set (G.hd e) (some (x + red G lifts e))) v = fd found v := fun v h => by
      rw [hf, if_neg (fun z => by rw [z, hdn] at h; cases h)]
    refine ⟨by rw [List.length_set]; exact D.lf, D.ld, fun v hv h => ?_, fun v y hv h => ?_, fun v y hv h => ?_, fun v hv h => ?_, fun v w a b hv hw h1 h2 h3 h4 => ?_, fun v a b hv h1 h2 h3 => ?_⟩
    · rw [hf]
      split
      · rename_i c
        subst c
        have := D.src _ hv h
        have := hlt 0 this
        omega
      · exact D.src v hv h
    · rw [hf] at h
      split at h
      · cases h; omega
      · exact D.nn v y hv h
    · rw [hf] at h
      split at h
      · rename_i c
        cases h
        subst c
        exact .step (by rw [het]; exact D.tp u x hu hx) hem hr
      · exact D.tp v y hv h
    · obtain ⟨a, h1, h2⟩ := D.dn v hv h
      refine ⟨a, (hfd v h).trans h1, fun e' he' hk hr' => ?_⟩
      have up : (∃ y, fd found (G.hd e') = some y ∧ y ≤ a + red G lifts e') → ∃ y, fd (found.set (G.hd e) (some (x + red G lifts e))) (G.hd e') = some y ∧ y ≤ a + red G lifts e' := fun ⟨y, q1, q2⟩ => by
        rw [hf]
        split
        · rename_i c
          rw [c] at q1
          have := hlt y q1
          exact ⟨_, rfl, by omega⟩
        · exact ⟨y, q1, q2⟩
      by_cases c : v = u
      · rcases hk c with k | k
        · exact up (h2 e' he' (fun _ => k) hr')
        · subst c; subst k
          rw [hx] at h1; cases h1
          exact ⟨_, by rw [hf, if_pos rfl], Int.le_refl _⟩
      · exact up (h2 e' he' (fun z => (c z).elim) hr')
    · rw [hfd v h1] at h2
      rw [hf] at h4
      split at h4
      · cases h4
        have := D.la v x a hv h1 h2 hx
        omega
      · exact D.mo v w a b hv hw h1 h2 h3 h4
    · rw [hfd v h1] at h2
      rw [hfd u hdu] at h3
      exact D.la v a b hv h1 h2 h3
/-- a row is through -/
theorem dinv_row {found : List (Option Int)} {done : List Bool} {u : Nat} {ok : Nat → Prop} (D : DInv G room over lifts found done u ok) (h : ∀ e ∈ G.row u, ok e) : DInv G room over lifts found done u (fun _ => True) :=
  ⟨D.lf, D.ld, D.src, D.nn, D.tp, fun v hv hd => by
    obtain ⟨a, h1, h2⟩ := D.dn v hv hd
    exact ⟨a, h1, fun e he _ hr => h2 e he (fun z => h e (z ▸ he)) hr⟩, D.mo, D.la⟩
/-- what nearest tells -/
structure Near (G : Net) (room over lifts : List Int) (found : List (Option Int)) : Prop where
  lf : found.length = G.n
  src : ∀ v, v < G.n → 0 < over.getD v 0 → fd found v = some 0
  nn : ∀ v x, v < G.n → fd found v = some x → 0 ≤ x
  tp : ∀ v x, v < G.n → fd found v = some x → TP G room over lifts v x
  ar : ∀ v x, v < G.n → fd found v = some x → ∀ e ∈ G.row v, 0 < room.getD e 0 → ∃ y, fd found (G.hd e) = some y ∧ y ≤ x + red G lifts e
theorem near_of {found : List (Option Int)} {done : List Bool} {u : Nat} (D : DInv G room over lifts found done u (fun _ => True)) (h : ∀ v x, v < G.n → fd found v = some x → bd done v = true) : Near G room over lifts found :=
  ⟨D.lf, D.src, D.nn, D.tp, fun v x hv hx e he hr => by
    obtain ⟨a, h1, h2⟩ := D.dn v hv (h v x hv hx)
    rw [hx] at h1; cases h1
    exact h2 e he (fun _ => trivial) hr⟩
/-! ### the lifts -/
def upBy (least : Int) : Option Int → Int
  | none => least
  | some x => if least < x then least else x
def lifts2 (least : Int) (found : List (Option Int)) (lifts : List Int) : List Int := (List.range lifts.length).map fun v => lifts.getD v 0 + upBy least (fd found v)
theorem lifts2_get {least : Int} {found : List (Option Int)} {lifts : List Int} {v : Nat} (h : v < lifts.length) : (lifts2 least found lifts).getD v 0 = lifts.getD v 0 + upBy least (fd found v) := by
  unfold lifts2
  rw [getD_map (d := 0) (by simpa using h)]
  have : (List.range lifts.length).getD v 0 = v := getD_of_some (by simp [h])
  rw [this]
theorem lifts2_len {least : Int} {found : List (Option Int)} {lifts : List Int} : (lifts2 least found lifts).length = lifts.length := by simp [lifts2]
theorem red2 (O : G.Ok) (ll : lifts.length = G.n) {least : Int} {found : List (Option Int)} {e : Nat} (he : e < 2 * G.m) :
    red G (lifts2 least found lifts) e = red G lifts e + upBy least (fd found (G.tl e)) - upBy least (fd found (G.hd e)) := by
  unfold red
  rw [lifts2_get (by rw [ll]; exact O.tl_lt he), lifts2_get (by rw [ll]; exact O.hl e he)]; omega
theorem red2_nonneg (O : G.Ok) (I : Inv G low cap room over lifts) {least : Int} {found : List (Option Int)} (N : Near G room over lifts found) {e : Nat} (he : e < 2 * G.m) (hr : 0 < room.getD e 0) :
    0 ≤ red G (lifts2 least found lifts) e := by
  rw [red2 O I.ll he]
  have h0 := I.rd e he hr
  have hrow : e ∈ G.row (G.tl e) := (O.ar _ (O.tl_lt he) e).mpr ⟨he, rfl⟩
  have hle : ∀ o, upBy least o ≤ least := fun o => by
    unfold upBy; cases o <;> simp only <;> (try split) <;> omega
  cases q : fd found (G.tl e) with
  | none => have := hle (fd found (G.hd e)); show 0 ≤ red G lifts e + least - _; omega
  | some x =>
    obtain ⟨y, h1, h2⟩ := N.ar _ x (O.tl_lt he) q e hrow hr
    rw [h1]
    unfold upBy
    simp only
    split <;> split <;> omega
theorem lift_inv (O : G.Ok) (I : Inv G low cap room over lifts) {least : Int} {found : List (Option Int)} (N : Near G room over lifts found) : Inv G low cap room over (lifts2 least found lifts) :=
  ⟨I.lr, I.lo, by rw [lifts2_len]; exact I.ll, I.r0, I.rc, I.ov, I.s0, fun e he hr => red2_nonneg O I N he hr⟩
/-- reached from a node with too much by arcs that may be used -/
inductive Z (G : Net) (room over lifts : List Int) : Nat → Prop
  | src {v : Nat} : v < G.n → 0 < over.getD v 0 → Z G room over lifts v
  | step {e : Nat} : Z G room over lifts (G.tl e) → Use G room lifts e → Z G room over lifts (G.hd e)
theorem tp_z (O : G.Ok) (I : Inv G low cap room over lifts) {least : Int} (hl : 0 ≤ least) {found : List (Option Int)} (N : Near G room over lifts found) {v : Nat} {x : Int} (h : TP G room over lifts v x) :
    v < G.n ∧ upBy least (fd found v) ≤ x ∧ (x = upBy least (fd found v) → Z G room over (lifts2 least found lifts) v) := by
  induction h with
  | src hv ho =>
    refine ⟨hv, ?_, fun _ => .src hv ho⟩
    rw [N.src _ hv ho]
    unfold upBy
    simp only
    split <;> omega
  | step h1 he hr ih =>
    rename_i e x
    obtain ⟨hv, h2, h3⟩ := ih
    have h4 := red2_nonneg (least := least) O I N he hr
    have h5 := red2 (least := least) (found := found) O I.ll he
    refine ⟨O.hl e he, by omega, fun hx => .step (h3 (by omega)) ⟨he, hr, by omega⟩⟩
/-- the dearest of the near nodes that lack is reached -/
theorem lack_z (O : G.Ok) (I : Inv G low cap room over lifts) {least : Int} {found : List (Option Int)} (N : Near G room over lifts found) {t : Nat} (ht : t < G.n) (hf : fd found t = some least) : Z G room over (lifts2 least found lifts) t := by
  have h0 := N.nn t least ht hf
  obtain ⟨_, h2, h3⟩ := tp_z O I h0 N (N.tp t least ht hf)
  refine h3 ?_
  rw [hf]
  unfold upBy
  simp
/-! ### the ways without price -/
/-- u is closed: it lacks nothing, and its arcs that may be used lead to seen nodes -/
def Closed (G : Net) (room over lifts : List Int) (seen : List Bool) (u : Nat) : Prop := 0 ≤ over.getD u 0 ∧ ∀ e ∈ G.row u, Use G room lifts e → bd seen (G.hd e) = true
theorem closed_z (O : G.Ok) {seen : List Bool} (hs : ∀ v, v < G.n → 0 < over.getD v 0 → bd seen v = true) (hc : ∀ v, v < G.n → bd seen v = true → Closed G room over lifts seen v) {t : Nat} (h : Z G room over lifts t) : t < G.n ∧ bd seen t = true := by
  induction h with
  | src hv ho => exact ⟨hv, hs _ hv ho⟩
  | step h1 hu ih =>
    rename_i e
    obtain ⟨hv, h2⟩ := ih
    exact ⟨O.hl e hu.1, (hc _ hv h2).2 e ((O.ar _ hv e).mpr ⟨hu.1, rfl⟩) hu⟩
/-- the search at a node: the way there, how far each node's arcs have been looked at -/
structure WInv (G : Net) (room over lifts : List Int) (v0 : Nat) (way : List Nat) (node : Nat) (pl : Nat → Option Nat) (seen : List Bool) : Prop where
  ls : seen.length = G.n
  hv : v0 < G.n
  path : Path G v0 way node
  use : ∀ e ∈ way, Use G room lifts e
  nd : (v0 :: way.map G.hd).Nodup
  sn : ∀ u ∈ v0 :: way.map G.hd, bd seen u = true
  hpl : ∀ u ∈ v0 :: way.map G.hd, ∃ p, pl u = some p ∧ ∀ (i : Nat) (e : Nat), i < p → (G.row u)[i]? = some e → Use G room lifts e → bd seen (G.hd e) = true
  cl : ∀ u, u < G.n → bd seen u = true → u ∉ v0 :: way.map G.hd → Closed G room over lifts seen u
  ov : ∀ u ∈ v0 :: way.map G.hd, u ≠ node → 0 ≤ over.getD u 0
theorem Path.last : ∀ {v : Nat} {way : List Nat} {w : Nat}, Path G v way w → w ∈ v :: way.map G.hd
  | _, [], _, h => by rw [show _ = _ from h]; exact List.mem_cons_self ..
  | _, _ :: _, _, h => List.mem_cons_of_mem _ (Path.last h.2.2)
theorem winv_start {seen : List Bool} {v0 : Nat} (hl : seen.length = G.n) (hv : v0 < G.n) (hc : ∀ u, u < G.n → bd seen u = true → Closed G room over lifts seen u) {pl : Nat → Option Nat} (hp : pl v0 = some 0) :
    WInv G room over lifts v0 [] v0 pl (seen.set v0 true) := by
  have hb : ∀ w, bd (seen.set v0 true) w = if w = v0 then true else bd seen w := fun w => getD_set (by rw [hl]; exact hv)
  refine ⟨by rw [List.length_set]; exact hl, hv, rfl, fun e h => (by cases h), by simp, fun u hu => ?_, fun u hu => ?_, fun u hu h1 h2 => ?_, fun u hu hn => ?_⟩
  · have : u = v0 := by simpa using hu
    rw [hb, if_pos this]
  · have : u = v0 := by simpa using hu
    subst this
    exact ⟨0, hp, fun i e h => by omega⟩
  · have hne : u ≠ v0 := by simpa using h2
    rw [hb, if_neg hne] at h1
    obtain ⟨c1, c2⟩ := hc u hu h1
    exact ⟨c1, fun e he hu2 => by
      rw [hb]
      split
      · rfl
      · exact c2 e he hu2⟩
  · exact (hn (by simpa using hu)).elim
/-- one step on -/
theorem winv_on (O : G.Ok) {v0 node q e : Nat} {way : List Nat} {pl pl' : Nat → Option Nat} {seen : List Bool} (W : WInv G room over lifts v0 way node pl seen) (ho : 0 ≤ over.getD node 0) (he : e ∈ G.row node) (hu : Use G room lifts e) (hs : bd seen (G.hd e) = false)
    (hq : ∀ (i : Nat) (a : Nat), i < q → (G.row node)[i]? = some a → Use G room lifts a → bd seen (G.hd a) = true ∨ a = e)
    (p1 : pl' (G.hd e) = some 0) (p2 : pl' node = some q) (p3 : ∀ u, u ≠ node → u ≠ G.hd e → pl' u = pl u) :
    WInv G room over lifts v0 (way ++ [e]) (G.hd e) pl' (seen.set (G.hd e) true) ∧ cf (seen.set (G.hd e) true) + 1 = cf seen := by
  have hh := O.hl e hu.1
  have hnode : node < G.n := by
    have := (W.sn node W.path.last)
    rcases Nat.lt_or_ge node G.n with z | z
    · exact z
    · unfold bd at this
      rw [show seen.getD node false = false by unfold List.getD; rw [List.getElem?_eq_none (by rw [W.ls]; exact z)]; rfl] at this
      cases this
  have het := ((O.ar node hnode e).mp he).2
  have hb : ∀ w, bd (seen.set (G.hd e) true) w = if w = G.hd e then true else bd seen w := fun w => getD_set (by rw [W.ls]; exact hh)
  have up : ∀ w, bd seen w = true → bd (seen.set (G.hd e) true) w = true := fun w h => by
    rw [hb]
    split
    · rfl
    · exact h
  have hnew : G.hd e ∉ v0 :: way.map G.hd := fun z => by rw [W.sn _ z] at hs; cases hs
  have hmem : ∀ u, u ∈ v0 :: (way ++ [e]).map G.hd ↔ u ∈ v0 :: way.map G.hd ∨ u = G.hd e := fun u => by
    simp only [List.map_append, List.map_cons, List.map_nil, List.mem_cons, List.mem_append, List.not_mem_nil, or_false]
    constructor
    · rintro (h | h | h)
      · exact .inl (.inl h)
      · exact .inl (.inr h)
      · exact .inr h
    · rintro ((h | h) | h)
      · exact .inl h
      · exact .inr (.inl h)
      · exact .inr (.inr h)
  refine ⟨⟨by rw [List.length_set]; exact W.ls, W.hv, W.path.snoc hu.1 het, fun a ha => ?_, ?_, fun u h => ?_, fun u h => ?_, fun u h1 h2 h3 => ?_, fun u h1 h2 => ?_⟩, cf_set (by rw [W.ls]; exact hh) hs⟩
  · rcases List.mem_append.mp ha with z | z
    · exact W.use a z
    · rw [List.mem_singleton.mp z]; exact hu
  · have e1 : v0 :: (way ++ [e]).map G.hd = (v0 :: way.map G.hd) ++ [G.hd e] := by simp
    rw [e1, List.nodup_append]
    exact ⟨W.nd, by simp, fun a ha b hb z => by rw [List.mem_singleton.mp hb] at z; exact hnew (z ▸ ha)⟩
  · rcases (hmem u).mp h with z | z
    · exact up u (W.sn u z)
    · rw [hb, if_pos z]
  · rcases (hmem u).mp h with z | z
    · have hne : u ≠ G.hd e := fun w => hnew (w ▸ z)
      by_cases c : u = node
      · subst c
        refine ⟨q, p2, fun i a hi ha hua => ?_⟩
        rcases hq i a hi ha hua with k | k
        · exact up _ k
        · rw [k, hb, if_pos rfl]
      · obtain ⟨p, h1, h2⟩ := W.hpl u z
        exact ⟨p, (p3 u c hne).trans h1, fun i a hi ha hua => up _ (h2 i a hi ha hua)⟩
    · subst z
      exact ⟨0, p1, fun i a hi => by omega⟩
  · have h4 : u ∉ v0 :: way.map G.hd := fun z => h3 ((hmem u).mpr (.inl z))
    have h5 : u ≠ G.hd e := fun z => h3 ((hmem u).mpr (.inr z))
    rw [hb, if_neg h5] at h2
    obtain ⟨c1, c2⟩ := W.cl u h1 h2 h4
    exact ⟨c1, fun a ha hua => up _ (c2 a ha hua)⟩
  · rcases (hmem u).mp h1 with z | z
    · by_cases c : u = node
      · rw [c]; exact ho
      · exact W.ov u z c
    · exact (h2 z).elim
/-- one step back: the node is closed -/
theorem winv_back (O : G.Ok) {v0 node e : Nat} {way : List Nat} {pl pl' : Nat → Option Nat} {seen : List Bool} (W : WInv G room over lifts v0 (way ++ [e]) node pl seen) (ho : 0 ≤ over.getD node 0)
    (hall : ∀ a ∈ G.row node, Use G room lifts a → bd seen (G.hd a) = true) (p3 : ∀ u, u ≠ node → pl' u = pl u) : WInv G room over lifts v0 way (G.tl e) pl' seen := by
  obtain ⟨q1, q2, q3⟩ := W.path.front
  have e1 : v0 :: (way ++ [e]).map G.hd = (v0 :: way.map G.hd) ++ [G.hd e] := by simp
  have hnd := W.nd
  rw [e1, List.nodup_append] at hnd
  have hne : ∀ u ∈ v0 :: way.map G.hd, u ≠ node := fun u hu z => hnd.2.2 u hu (G.hd e) (by simp) (z.trans q3.symm)
  have hmem : ∀ u, u ∈ v0 :: way.map G.hd → u ∈ v0 :: (way ++ [e]).map G.hd := fun u hu => by rw [e1]; exact List.mem_append_left _ hu
  refine ⟨W.ls, W.hv, q1, fun a ha => W.use a (List.mem_append_left _ ha), hnd.1, fun u hu => W.sn u (hmem u hu), fun u hu => ?_, fun u h1 h2 h3 => ?_, fun u h1 _ => W.ov u (hmem u h1) (hne u h1)⟩
  · obtain ⟨p, h1, h2⟩ := W.hpl u (hmem u hu)
    exact ⟨p, (p3 u (hne u hu)).trans h1, h2⟩
  · by_cases c : u = node
    · subst c
      exact ⟨ho, hall⟩
    · refine W.cl u h1 h2 fun z => ?_
      rw [e1] at z
      rcases List.mem_append.mp z with z | z
      · exact h3 z
      · exact c ((List.mem_singleton.mp z).trans q3)
/-- no way: all that is seen is closed -/
theorem winv_none {v0 : Nat} {node : Nat} {pl : Nat → Option Nat} {seen : List Bool} (W : WInv G room over lifts v0 [] node pl seen) (ho : 0 ≤ over.getD node 0) (hall : ∀ a ∈ G.row node, Use G room lifts a → bd seen (G.hd a) = true) :
    (∀ u, u < G.n → bd seen u = true → Closed G room over lifts seen u) ∧ bd seen v0 = true := by
  have e : v0 = node := W.path
  subst e
  refine ⟨fun u h1 h2 => ?_, W.sn _ (List.mem_cons_self ..)⟩
  by_cases c : u = v0
  · subst c; exact ⟨ho, hall⟩
  · exact W.cl u h1 h2 (by simpa using c)
end K31

set_option autoImplicit true
set_option Elab.async false
set_option linter.all false
set_option maxRecDepth 100000
set_option maxHeartbeats 4000000
namespace K31
/-! books, ties, fillings, what heights reach; plain -/
inductive Du where | n | a | m
  deriving DecidableEq
inductive Sg where | one | zero | dot
  deriving DecidableEq
def Du.c : Du → Nat | .n => 110 | .a => 97 | .m => 109
def Sg.c : Sg → Nat | .one => 49 | .zero => 48 | .dot => 46
def b2 (b : Bool) : Int := if b then 1 else 0
structure Bk where
  many : Nat
  du : List Du
  ct : List (Int × Int)
  mks : List (List Sg)
structure Bk.Ok (B : Bk) : Prop where
  m1 : 1 ≤ B.many
  m4 : B.many ≤ 4
  ld : B.du.length = B.many
  lc : B.ct.length = 2 ^ B.many
  cc : ∀ p ∈ B.ct, 0 ≤ p.1 ∧ p.1 ≤ p.2 ∧ p.2 ≤ (B.many : Int)
  lm : B.mks.length = 2 ^ B.many
  lr : ∀ l ∈ B.mks, l.length = B.many
def yes (many r m : Nat) : Bool := decide (r / 2 ^ (many - 1 - m) % 2 = 1)
def turnN (many r m : Nat) : Nat := if yes many r m then r - 2 ^ (many - 1 - m) else r + 2 ^ (many - 1 - m)
def tiesAt (many r : Nat) (k : Nat) : List (Nat × Nat × Nat) := (List.range k).filterMap fun m => if yes many r m then none else some (r, m, turnN many r m)
def ties (many : Nat) : List (Nat × Nat × Nat) := (List.range (2 ^ many)).flatMap fun r => tiesAt many r many
namespace Bk
variable (B : Bk)
def d (m : Nat) : Du := B.du.getD m .m
def sg (r m : Nat) : Sg := (B.mks.getD r []).getD m .dot
def cnt (r : Nat) : Int × Int := B.ct.getD r (0, 0)
end Bk
def bnd : Sg → Int × Int
  | .one => (1, 1)
  | .zero => (0, 0)
  | .dot => (0, 1)
def mx (i j : Int) : Int := if j > i then j else i
def mn (i j : Int) : Int := if j < i then j else i
def tieB : Du → Int × Int → Int × Int → Int × Int
  | .n, one, other => (mx one.1 other.1, mn one.2 other.2)
  | _, one, other => (mx one.1 (1 - other.2), mn one.2 (1 - other.1))
def tornB (d : Du) (one other : Int × Int) : Bool := match d with
  | .m => decide (one.1 > one.2) || decide (other.1 > other.2)
  | d => decide ((tieB d one other).1 > (tieB d one other).2)
def mostB (d : Du) (one other : Int × Int) (f s : Int) : Int := match d with
  | .m => mx (f * one.1) (f * one.2) + mx (s * other.1) (s * other.2)
  | .n => mx ((f + s) * (tieB .n one other).1) ((f + s) * (tieB .n one other).2)
  | .a => s * 1 + mx ((f - s) * (tieB .a one other).1) ((f - s) * (tieB .a one other).2)
def fitS (s : Sg) (f : Bool) : Bool := decide (s = .dot) || decide (decide (s = .one) = f)
def fits (d : Du) (s1 s2 : Sg) (x y : Bool) : Bool := ((decide (d = .m) || decide (decide (x = y) = decide (d = .n))) && fitS s1 x) && fitS s2 y
def fillings (d : Du) (s1 s2 : Sg) : List (Bool × Bool) := [(false, false), (false, true), (true, false), (true, true)].filter fun f => fits d s1 s2 f.1 f.2
def Bk.fill (B : Bk) (t : Nat × Nat × Nat) : List (Bool × Bool) := fillings (B.d t.2.1) (B.sg t.1 t.2.1) (B.sg t.2.2 t.2.1)
theorem torn_fill (d : Du) (s1 s2 : Sg) : tornB d (bnd s1) (bnd s2) = (fillings d s1 s2).isEmpty := by
  cases d <;> cases s1 <;> cases s2 <;> decide
def costF (x y : Int) (f : Bool × Bool) : Int := b2 f.1 * x + b2 f.2 * y
/-- the least cost of a filling, as the program reckons it -/
theorem most_min (d : Du) (s1 s2 : Sg) (f s : Int) (h : fillings d s1 s2 ≠ []) :
    (∃ g ∈ fillings d s1 s2, costF (-f) (-s) g = - mostB d (bnd s1) (bnd s2) f s) ∧ ∀ g ∈ fillings d s1 s2, - mostB d (bnd s1) (bnd s2) f s ≤ costF (-f) (-s) g := by
  cases d <;> cases s1 <;> cases s2 <;> first
    | (exact (h (by decide)).elim)
    | (simp [fillings, fits, fitS, List.filter, costF, b2, mostB, bnd, tieB, mx, mn]; done)
    | (simp [fillings, fits, fitS, List.filter, costF, b2, mostB, bnd, tieB, mx, mn]; omega)
    | (simp [fillings, fits, fitS, List.filter, costF, b2, mostB, bnd, tieB, mx, mn]; (repeat' split) <;> omega)
/-- heights times least or most counts -/
def hgt (h : Int) (c : Int × Int) : Int := if 0 ≤ h then h * c.1 else h * c.2
def prAt (pr : List (List Int)) (r m : Nat) : Int := (pr.getD r []).getD m 0
def Bk.least (B : Bk) (pr : List (List Int)) (h : List Int) (t : Nat × Nat × Nat) : Int :=
  - mostB (B.d t.2.1) (bnd (B.sg t.1 t.2.1)) (bnd (B.sg t.2.2 t.2.1)) (h.getD t.1 0 - prAt pr t.1 t.2.1) (h.getD t.2.2 0 - prAt pr t.2.2 t.2.1)
def Bk.hgts (B : Bk) (h : List Int) : List Int := (List.range (2 ^ B.many)).map fun r => hgt (h.getD r 0) (B.cnt r)
def Bk.leasts (B : Bk) (pr : List (List Int)) (h : List Int) : List Int := (ties B.many).map (B.least pr h)
def Bk.reachV (B : Bk) (pr : List (List Int)) (h : List Int) : Int := (B.hgts h).sum + (B.leasts pr h).sum
def Bk.torn (B : Bk) : List (Nat × Nat) := (ties B.many).filterMap fun t => if tornB (B.d t.2.1) (bnd (B.sg t.1 t.2.1)) (bnd (B.sg t.2.2 t.2.1)) then some (t.1, t.2.1) else none
theorem torn_nil (B : Bk) : B.torn = [] ↔ ∀ t ∈ ties B.many, B.fill t ≠ [] := by
  unfold Bk.torn
  rw [List.filterMap_eq_nil_iff]
  constructor
  · intro h t ht hf
    have := h t ht
    rw [torn_fill] at this
    have e : (fillings (B.d t.2.1) (B.sg t.1 t.2.1) (B.sg t.2.2 t.2.1)).isEmpty = true := by
      show (B.fill t).isEmpty = true
      rw [hf]; rfl
    rw [e] at this
    cases this
  · intro h t ht
    have := h t ht
    rw [torn_fill]
    cases e : (fillings (B.d t.2.1) (B.sg t.1 t.2.1) (B.sg t.2.2 t.2.1)).isEmpty with
    | false => rfl
    | true => exact (this (List.isEmpty_iff.mp e)).elim
/-! ### the sum over ties -/
theorem ties_sum_1 (f : Nat → Nat → Int) : ((ties 1).map fun t => f t.1 t.2.1 + f t.2.2 t.2.1).sum = sumN (2 ^ 1) fun r => sumN 1 fun m => f r m := by
  rw [show ties 1 = [(0, 0, 1)] by decide]
  simp [sumN]
theorem ties_sum_2 (f : Nat → Nat → Int) : ((ties 2).map fun t => f t.1 t.2.1 + f t.2.2 t.2.1).sum = sumN (2 ^ 2) fun r => sumN 2 fun m => f r m := by
  rw [show ties 2 = [(0, 0, 2), (0, 1, 1), (1, 0, 3), (2, 1, 3)] by decide]
  simp only [sumN, List.map_cons, List.map_nil, List.sum_cons, List.sum_nil, show (2 : Nat) ^ 2 = 4 from rfl]
  omega
theorem ties_sum_3 (f : Nat → Nat → Int) : ((ties 3).map fun t => f t.1 t.2.1 + f t.2.2 t.2.1).sum = sumN (2 ^ 3) fun r => sumN 3 fun m => f r m := by
  rw [show ties 3 = [(0, 0, 4), (0, 1, 2), (0, 2, 1), (1, 0, 5), (1, 1, 3), (2, 0, 6), (2, 2, 3), (3, 0, 7), (4, 1, 6), (4, 2, 5), (5, 1, 7), (6, 2, 7)] by decide]
  simp only [sumN, List.map_cons, List.map_nil, List.sum_cons, List.sum_nil, show (2 : Nat) ^ 3 = 8 from rfl]
  omega
theorem ties_sum_4 (f : Nat → Nat → Int) : ((ties 4).map fun t => f t.1 t.2.1 + f t.2.2 t.2.1).sum = sumN (2 ^ 4) fun r => sumN 4 fun m => f r m := by
  rw [show ties 4 = [(0, 0, 8), (0, 1, 4), (0, 2, 2), (0, 3, 1), (1, 0, 9), (1, 1, 5), (1, 2, 3), (2, 0, 10), (2, 1, 6), (2, 3, 3), (3, 0, 11), (3, 1, 7), (4, 0, 12), (4, 2, 6), (4, 3, 5), (5, 0, 13), (5, 2, 7), (6, 0, 14), (6, 3, 7), (7, 0, 15),
    (8, 1, 12), (8, 2, 10), (8, 3, 9), (9, 1, 13), (9, 2, 11), (10, 1, 14), (10, 3, 11), (11, 1, 15), (12, 2, 14), (12, 3, 13), (13, 2, 15), (14, 3, 15)] by decide +kernel]
  simp only [sumN, List.map_cons, List.map_nil, List.sum_cons, List.sum_nil, show (2 : Nat) ^ 4 = 16 from rfl]
  omega
theorem ties_sum {many : Nat} (h1 : 1 ≤ many) (h4 : many ≤ 4) (f : Nat → Nat → Int) : ((ties many).map fun t => f t.1 t.2.1 + f t.2.2 t.2.1).sum = sumN (2 ^ many) fun r => sumN many fun m => f r m := by
  have : many = 1 ∨ many = 2 ∨ many = 3 ∨ many = 4 := by omega
  rcases this with rfl | rfl | rfl | rfl
  · exact ties_sum_1 f
  · exact ties_sum_2 f
  · exact ties_sum_3 f
  · exact ties_sum_4 f
theorem cases4 {P : Nat → Prop} (p1 : P 1) (p2 : P 2) (p3 : P 3) (p4 : P 4) {many : Nat} (h1 : 1 ≤ many) (h4 : many ≤ 4) : P many := by
  have : many = 1 ∨ many = 2 ∨ many = 3 ∨ many = 4 := by omega
  rcases this with rfl | rfl | rfl | rfl <;> assumption
theorem ties_lt {many : Nat} (h1 : 1 ≤ many) (h4 : many ≤ 4) : ∀ t ∈ ties many, t.1 < 2 ^ many ∧ t.2.1 < many ∧ t.2.2 < 2 ^ many ∧ t.1 ≠ t.2.2 :=
  cases4 (P := fun many => ∀ t ∈ ties many, t.1 < 2 ^ many ∧ t.2.1 < many ∧ t.2.2 < 2 ^ many ∧ t.1 ≠ t.2.2) (by decide +kernel) (by decide +kernel) (by decide +kernel) (by decide +kernel) h1 h4
theorem ties_len {many : Nat} (h1 : 1 ≤ many) (h4 : many ≤ 4) : (ties many).length ≤ 32 := cases4 (P := fun many => (ties many).length ≤ 32) (by decide +kernel) (by decide +kernel) (by decide +kernel) (by decide +kernel) h1 h4
theorem ties_nodup {many : Nat} (h1 : 1 ≤ many) (h4 : many ≤ 4) : (ties many).Nodup := cases4 (P := fun many => (ties many).Nodup) (by decide +kernel) (by decide +kernel) (by decide +kernel) (by decide +kernel) h1 h4
theorem ties_apart {many : Nat} (h1 : 1 ≤ many) (h4 : many ≤ 4) : ∀ t ∈ ties many, ∀ u ∈ ties many, t ≠ u → t.2.1 = u.2.1 → t.1 ≠ u.1 ∧ t.1 ≠ u.2.2 ∧ t.2.2 ≠ u.1 ∧ t.2.2 ≠ u.2.2 :=
  cases4 (P := fun many => ∀ t ∈ ties many, ∀ u ∈ ties many, t ≠ u → t.2.1 = u.2.1 → t.1 ≠ u.1 ∧ t.1 ≠ u.2.2 ∧ t.2.2 ≠ u.1 ∧ t.2.2 ≠ u.2.2) (by decide +kernel) (by decide +kernel) (by decide +kernel) (by decide +kernel) h1 h4
/-! ### no heights reach more -/
structure KeepsT (B : Bk) (x : Nat → Nat → Bool) : Prop where
  ct : ∀ r, r < 2 ^ B.many → (B.cnt r).1 ≤ sumN B.many (fun m => b2 (x r m)) ∧ sumN B.many (fun m => b2 (x r m)) ≤ (B.cnt r).2
  ti : ∀ t ∈ ties B.many, (x t.1 t.2.1, x t.2.2 t.2.1) ∈ B.fill t
def priceT (B : Bk) (pr : List (List Int)) (x : Nat → Nat → Bool) : Int := sumN (2 ^ B.many) fun r => sumN B.many fun m => b2 (x r m) * prAt pr r m
theorem sum_range_map (f : Nat → Int) : ∀ n : Nat, ((List.range n).map f).sum = sumN n f
  | 0 => rfl
  | n + 1 => by rw [List.range_succ, List.map_append, List.sum_append, sum_range_map f n]; simp [sumN]
theorem sum_le_of {α : Type} {f g : α → Int} : ∀ {l : List α}, (∀ x ∈ l, f x ≤ g x) → (l.map f).sum ≤ (l.map g).sum
  | [], _ => Int.le_refl _
  | a :: r, h => by
    have h1 := h a (List.mem_cons_self ..)
    have h2 := sum_le_of (l := r) fun x hx => h x (List.mem_cons_of_mem _ hx)
    simp only [List.map_cons, List.sum_cons]; omega
theorem hgt_le {h s lo hi : Int} (h1 : lo ≤ s) (h2 : s ≤ hi) : hgt h (lo, hi) ≤ h * s := by
  unfold hgt
  split
  · exact Int.mul_le_mul_of_nonneg_left h1 (by assumption)
  · exact Int.mul_le_mul_of_nonpos_left (by omega) h2
theorem weak_dual {B : Bk} (O : B.Ok) {pr : List (List Int)} {h : List Int} {x : Nat → Nat → Bool} (K : KeepsT B x) : B.reachV pr h ≤ priceT B pr x := by
  unfold Bk.reachV Bk.hgts Bk.leasts
  have hA : ((List.range (2 ^ B.many)).map fun r => hgt (h.getD r 0) (B.cnt r)).sum ≤ sumN (2 ^ B.many) fun r => sumN B.many fun m => b2 (x r m) * h.getD r 0 := by
    rw [sum_range_map]
    refine sumN_le fun r hr => ?_
    obtain ⟨h1, h2⟩ := K.ct r hr
    have e : sumN B.many (fun m => b2 (x r m) * h.getD r 0) = h.getD r 0 * sumN B.many fun m => b2 (x r m) := by
      rw [← sumN_mul]
      exact sumN_congr fun m _ => Int.mul_comm _ _
    rw [e]
    exact hgt_le h1 h2
  have hB : ((ties B.many).map (B.least pr h)).sum ≤ ((ties B.many).map fun t => (fun r m => b2 (x r m) * (prAt pr r m - h.getD r 0)) t.1 t.2.1 + (fun r m => b2 (x r m) * (prAt pr r m - h.getD r 0)) t.2.2 t.2.1).sum := by
    refine sum_le_of fun t ht => ?_
    have hm := K.ti t ht
    have hne : fillings (B.d t.2.1) (B.sg t.1 t.2.1) (B.sg t.2.2 t.2.1) ≠ [] := fun z => by
      have z2 : B.fill t = [] := z
      rw [z2] at hm; cases hm
    have := (most_min (B.d t.2.1) (B.sg t.1 t.2.1) (B.sg t.2.2 t.2.1) (h.getD t.1 0 - prAt pr t.1 t.2.1) (h.getD t.2.2 0 - prAt pr t.2.2 t.2.1) hne).2 _ hm
    unfold Bk.least
    refine Int.le_trans this ?_
    unfold costF
    show b2 (x t.1 t.2.1) * -(h.getD t.1 0 - prAt pr t.1 t.2.1) + b2 (x t.2.2 t.2.1) * -(h.getD t.2.2 0 - prAt pr t.2.2 t.2.1) ≤ b2 (x t.1 t.2.1) * (prAt pr t.1 t.2.1 - h.getD t.1 0) + b2 (x t.2.2 t.2.1) * (prAt pr t.2.2 t.2.1 - h.getD t.2.2 0)
    rw [Int.neg_sub, Int.neg_sub]
    exact Int.le_refl _
  rw [ties_sum O.m1 O.m4 (fun r m => b2 (x r m) * (prAt pr r m - h.getD r 0))] at hB
  have hC : (sumN (2 ^ B.many) fun r => sumN B.many fun m => b2 (x r m) * (prAt pr r m - h.getD r 0)) + (sumN (2 ^ B.many) fun r => sumN B.many fun m => b2 (x r m) * h.getD r 0) = priceT B pr x := by
    unfold priceT
    rw [← sumN_add]
    refine sumN_congr fun r _ => ?_
    rw [← sumN_add]
    refine sumN_congr fun m _ => ?_
    rw [← Int.mul_add]
    congr 1; omega
  omega
end K31

set_option autoImplicit true
set_option Elab.async false
set_option linter.all false
set_option maxRecDepth 100000
set_option maxHeartbeats 4000000
namespace K31
/-! pipes with prices, laid one by one; what a flow without rest says of the picks; plain -/
structure Arc where
  s : Nat
  g : Nat
  lo : Int
  hi : Int
  p : Int
def Arc.fst (a : Arc) : Int := if a.p < 0 then a.hi else a.lo
def arc0 : Arc := ⟨0, 0, 0, 0, 0⟩
def hdsA (A : List Arc) : List Nat := A.flatMap fun a => [a.g, a.s]
def prsA (A : List Arc) : List Int := A.flatMap fun a => [a.p, - a.p]
def losA (A : List Arc) : List Int := A.map Arc.lo
def capA (A : List Arc) : List Int := A.map fun a => a.hi - a.lo
def roomA (A : List Arc) : List Int := A.flatMap fun a => [a.hi - a.fst, a.fst - a.lo]
theorem flat2_len {α β : Type} (f g : α → β) (A : List α) : (A.flatMap fun a => [f a, g a]).length = 2 * A.length := by
  induction A with
  | nil => rfl
  | cons a r ih => simp only [List.flatMap_cons, List.length_append, List.length_cons, List.length_nil, ih]; omega
theorem flat2_get {α β : Type} (f g : α → β) (d : β) (x : α) : ∀ {A : List α} {k : Nat}, k < A.length →
    (A.flatMap fun a => [f a, g a]).getD (2 * k) d = f (A.getD k x) ∧ (A.flatMap fun a => [f a, g a]).getD (2 * k + 1) d = g (A.getD k x)
  | [], _, h => by simp at h
  | a :: r, 0, h => ⟨rfl, rfl⟩
  | a :: r, k + 1, h => by
    obtain ⟨h1, h2⟩ := flat2_get f g d x (A := r) (k := k) (by simpa using h)
    rw [show 2 * (k + 1) = 2 * k + 1 + 1 by omega]
    exact ⟨h1, h2⟩
/-- what comes to v, less what leaves it, by amounts -/
def SA (A : List Arc) (al : Nat → Int) (v : Nat) : Int := sumN A.length fun k => al k * (dl (A.getD k arc0).g v - dl (A.getD k arc0).s v)
theorem SA_snoc (A : List Arc) (a : Arc) (al : Nat → Int) (v : Nat) : SA (A ++ [a]) al v = SA A al v + al A.length * (dl a.g v - dl a.s v) := by
  unfold SA
  rw [show (A ++ [a]).length = A.length + 1 by simp]
  have e : (A ++ [a]).getD A.length arc0 = a := getD_of_some (by simp)
  show sumN A.length (fun k => al k * (dl ((A ++ [a]).getD k arc0).g v - dl ((A ++ [a]).getD k arc0).s v)) + al A.length * (dl ((A ++ [a]).getD A.length arc0).g v - dl ((A ++ [a]).getD A.length arc0).s v) = _
  rw [e]
  congr 1
  exact sumN_congr fun i hi => by rw [getD_append_left hi]
/-- the net's lists behind the pipes A -/
structure Lay (n : Nat) (A : List Arc) (arcs : List (List Nat)) (over : List Int) : Prop where
  la : arcs.length = n
  ar : ∀ v, v < n → ∀ e, e ∈ arcs.getD v [] ↔ e < 2 * A.length ∧ (hdsA A).getD (tw e) 0 = v
  lo : over.length = n
  ov : ∀ v, v < n → over.getD v 0 = SA A (fun k => (A.getD k arc0).fst) v
  s0 : over.sum = 0
  ok : ∀ a ∈ A, a.s < n ∧ a.g < n ∧ a.lo ≤ a.hi
theorem lay_nil (n : Nat) : Lay n [] (List.replicate n []) (List.replicate n 0) := by
  refine ⟨by simp, fun v hv e => ?_, by simp, fun v hv => ?_, ?_, fun a h => by cases h⟩
  · rw [getD_replicate hv]; simp
  · rw [getD_replicate hv]; rfl
  · induction n with
    | zero => rfl
    | succ n ih => rw [List.replicate_succ, List.sum_cons, ih]; rfl
def arcs2 (arcs : List (List Nat)) (s g k : Nat) : List (List Nat) := (arcs.set s (arcs.getD s [] ++ [k])).set g ((arcs.set s (arcs.getD s [] ++ [k])).getD g [] ++ [k + 1])
def over3 (over : List Int) (s g : Nat) (x : Int) : List Int := (over.set s (over.getD s 0 - x)).set g ((over.set s (over.getD s 0 - x)).getD g 0 + x)
theorem hdsA_len (A : List Arc) : (hdsA A).length = 2 * A.length := flat2_len _ _ A
theorem hdsA_snoc (A : List Arc) (a : Arc) : hdsA (A ++ [a]) = hdsA A ++ [a.g, a.s] := by unfold hdsA; rw [List.flatMap_append]; rfl
theorem hdsA_old {A : List Arc} {a : Arc} {e : Nat} (h : e < 2 * A.length) : (hdsA (A ++ [a])).getD e 0 = (hdsA A).getD e 0 := by
  rw [hdsA_snoc, getD_append_left (by rw [hdsA_len]; exact h)]
theorem lay_snoc {n : Nat} {A : List Arc} {arcs : List (List Nat)} {over : List Int} (L : Lay n A arcs over) (a : Arc) (hs : a.s < n) (hg : a.g < n) (hb : a.lo ≤ a.hi) :
    Lay n (A ++ [a]) (arcs2 arcs a.s a.g (2 * A.length)) (over3 over a.s a.g a.fst) := by
  have ha1 : a.s < arcs.length := by rw [L.la]; exact hs
  have ha2 : a.g < (arcs.set a.s (arcs.getD a.s [] ++ [2 * A.length])).length := by rw [List.length_set, L.la]; exact hg
  have ho1 : a.s < over.length := by rw [L.lo]; exact hs
  have ho2 : a.g < (over.set a.s (over.getD a.s 0 - a.fst)).length := by rw [List.length_set, L.lo]; exact hg
  have n1 : (hdsA (A ++ [a])).getD (2 * A.length) 0 = a.g := by
    have := getD_append_right (l := hdsA A) (r := [a.g, a.s]) (i := 0) (d := 0)
    rw [hdsA_len] at this
    rw [hdsA_snoc]
    exact this
  have n2 : (hdsA (A ++ [a])).getD (2 * A.length + 1) 0 = a.s := by
    have := getD_append_right (l := hdsA A) (r := [a.g, a.s]) (i := 1) (d := 0)
    rw [hdsA_len] at this
    rw [hdsA_snoc]
    exact this
  refine ⟨by simp [arcs2, L.la], fun v hv e => ?_, by simp [over3, L.lo], fun v hv => ?_, ?_, fun b hb' => ?_⟩
  · have hlen : (A ++ [a]).length = A.length + 1 := by simp
    rw [hlen]
    -- membership in the row of v
    have hrow : e ∈ (arcs2 arcs a.s a.g (2 * A.length)).getD v [] ↔ (e ∈ arcs.getD v [] ∨ (v = a.s ∧ e = 2 * A.length)) ∨ (v = a.g ∧ e = 2 * A.length + 1) := by
      unfold arcs2
      rw [getD_set ha2]
      by_cases c : v = a.g
      · subst c
        rw [if_pos rfl, List.mem_append, List.mem_singleton, getD_set ha1]
        by_cases c2 : a.g = a.s
        · rw [if_pos c2, List.mem_append, List.mem_singleton, ← c2]; simp
        · rw [if_neg c2]; simp [c2]
      · rw [if_neg c, getD_set ha1]
        by_cases c2 : v = a.s
        · subst c2; rw [if_pos rfl, List.mem_append, List.mem_singleton]; simp [c]
        · rw [if_neg c2]; simp [c, c2]
    rw [hrow, L.ar v hv e]
    have htw : e < 2 * A.length → (hdsA (A ++ [a])).getD (tw e) 0 = (hdsA A).getD (tw e) 0 := fun h => hdsA_old (tw_lt h)
    constructor
    · rintro ((⟨h1, h2⟩ | ⟨h1, h2⟩) | ⟨h1, h2⟩)
      · exact ⟨by omega, by rw [htw h1]; exact h2⟩
      · subst h2
        refine ⟨by omega, ?_⟩
        rw [show tw (2 * A.length) = 2 * A.length + 1 by unfold tw; rw [if_pos (by omega)], n2, h1]
      · subst h2
        refine ⟨by omega, ?_⟩
        rw [show tw (2 * A.length + 1) = 2 * A.length by unfold tw; rw [if_neg (by omega)]; omega, n1, h1]
    · rintro ⟨h1, h2⟩
      by_cases c : e < 2 * A.length
      · rw [htw c] at h2; exact .inl (.inl ⟨c, h2⟩)
      · by_cases c2 : e = 2 * A.length
        · subst c2
          rw [show tw (2 * A.length) = 2 * A.length + 1 by unfold tw; rw [if_pos (by omega)], n2] at h2
          exact .inl (.inr ⟨h2.symm, rfl⟩)
        · have e2 : e = 2 * A.length + 1 := by omega
          subst e2
          rw [show tw (2 * A.length + 1) = 2 * A.length by unfold tw; rw [if_neg (by omega)]; omega, n1] at h2
          exact .inr ⟨h2.symm, rfl⟩
  · rw [SA_snoc]
    have e1 : SA A (fun k => ((A ++ [a]).getD k arc0).fst) v = SA A (fun k => (A.getD k arc0).fst) v := by
      unfold SA
      exact sumN_congr fun i hi => by
        show ((A ++ [a]).getD i arc0).fst * _ = _
        rw [getD_append_left hi]
    have e2 : (A ++ [a]).getD A.length arc0 = a := getD_of_some (by simp)
    show _ = SA A (fun k => ((A ++ [a]).getD k arc0).fst) v + ((A ++ [a]).getD A.length arc0).fst * _
    rw [e1, e2, ← L.ov v hv]
    unfold over3 dl
    rw [getD_set ho2, getD_set ho1, getD_set ho1]
    by_cases c1 : v = a.g
    · subst c1
      rw [if_pos rfl, if_pos rfl]
      by_cases c2 : a.g = a.s
      · rw [if_pos c2, if_pos c2.symm, ← c2]; omega
      · rw [if_neg c2, if_neg (Ne.symm c2)]; omega
    · rw [if_neg c1, if_neg (Ne.symm c1)]
      by_cases c2 : v = a.s
      · subst c2; rw [if_pos rfl, if_pos rfl]; omega
      · rw [if_neg c2, if_neg (Ne.symm c2)]; omega
  · unfold over3
    rw [sum_set_getD ho2, sum_set_getD ho1, L.s0]; omega
  · rcases List.mem_append.mp hb' with z | z
    · exact L.ok b z
    · rw [List.mem_singleton.mp z]; exact ⟨hs, hg, hb⟩
def netA (n : Nat) (A : List Arc) (arcs : List (List Nat)) : Net := ⟨n, A.length, hdsA A, prsA A, arcs⟩
theorem hds_get {A : List Arc} {k : Nat} (h : k < A.length) : (hdsA A).getD (2 * k) 0 = (A.getD k arc0).g ∧ (hdsA A).getD (2 * k + 1) 0 = (A.getD k arc0).s := flat2_get _ _ 0 arc0 h
theorem prs_get {A : List Arc} {k : Nat} (h : k < A.length) : (prsA A).getD (2 * k) 0 = (A.getD k arc0).p ∧ (prsA A).getD (2 * k + 1) 0 = - (A.getD k arc0).p := flat2_get _ _ 0 arc0 h
theorem room_get {A : List Arc} {k : Nat} (h : k < A.length) : (roomA A).getD (2 * k) 0 = (A.getD k arc0).hi - (A.getD k arc0).fst ∧ (roomA A).getD (2 * k + 1) 0 = (A.getD k arc0).fst - (A.getD k arc0).lo := flat2_get _ _ 0 arc0 h
theorem halves {e m : Nat} (h : e < 2 * m) : ∃ k, k < m ∧ (e = 2 * k ∨ e = 2 * k + 1) := ⟨e / 2, by omega, by omega⟩
theorem tw_even (k : Nat) : tw (2 * k) = 2 * k + 1 := by unfold tw; rw [if_pos (by omega)]
theorem tw_odd (k : Nat) : tw (2 * k + 1) = 2 * k := by unfold tw; rw [if_neg (by omega)]; omega
theorem net_ok {n : Nat} {A : List Arc} {arcs : List (List Nat)} {over : List Int} (L : Lay n A arcs over) : (netA n A arcs).Ok := by
  refine ⟨hdsA_len A, flat2_len _ _ A, L.la, fun e he => ?_, fun e he => ?_, L.ar⟩
  · obtain ⟨k, hk, c⟩ := halves (show e < 2 * A.length from he)
    have hm := L.ok (A.getD k arc0) (getD_mem hk)
    rcases c with rfl | rfl
    · show (hdsA A).getD (2 * k) 0 < n
      rw [(hds_get hk).1]; exact hm.2.1
    · show (hdsA A).getD (2 * k + 1) 0 < n
      rw [(hds_get hk).2]; exact hm.1
  · obtain ⟨k, hk, c⟩ := halves (show e < 2 * A.length from he)
    rcases c with rfl | rfl
    · show (prsA A).getD (tw (2 * k)) 0 = - (prsA A).getD (2 * k) 0
      rw [tw_even, (prs_get hk).1, (prs_get hk).2]
    · show (prsA A).getD (tw (2 * k + 1)) 0 = - (prsA A).getD (2 * k + 1) 0
      rw [tw_odd, (prs_get hk).1, (prs_get hk).2, Int.neg_neg]
theorem flow_SA {n : Nat} {A : List Arc} {arcs : List (List Nat)} (room : List Int) (v : Nat) : flowAt (netA n A arcs) (losA A) room v = SA A (amt (losA A) room) v := by
  unfold flowAt SA
  refine sumN_congr fun k hk => ?_
  have hk' : k < A.length := hk
  show amt (losA A) room k * (dl ((hdsA A).getD (2 * k) 0) v - dl ((hdsA A).getD (tw (2 * k)) 0) v) = _
  rw [tw_even, (hds_get hk').1, (hds_get hk').2]
theorem lay_inv {n : Nat} {A : List Arc} {arcs : List (List Nat)} {over : List Int} (L : Lay n A arcs over) : Inv (netA n A arcs) (losA A) (capA A) (roomA A) over (List.replicate n 0) := by
  have hf : ∀ k, k < A.length → (A.getD k arc0).lo ≤ (A.getD k arc0).fst ∧ (A.getD k arc0).fst ≤ (A.getD k arc0).hi := fun k hk => by
    have hm := (L.ok (A.getD k arc0) (getD_mem hk)).2.2
    unfold Arc.fst
    split <;> omega
  refine ⟨flat2_len _ _ A, L.lo, by simp [netA], fun e he => ?_, fun k hk => ?_, fun v hv => ?_, L.s0, fun e he hr => ?_⟩
  · obtain ⟨k, hk, c⟩ := halves (show e < 2 * A.length from he)
    have := hf k hk
    rcases c with rfl | rfl
    · rw [(room_get hk).1]; omega
    · rw [(room_get hk).2]; omega
  · have hk' : k < A.length := hk
    rw [(room_get hk').1, (room_get hk').2]
    unfold capA
    rw [getD_map (d := arc0) hk']; omega
  · rw [flow_SA, L.ov v hv]
    unfold SA
    refine sumN_congr fun k hk => ?_
    congr 1
    unfold amt losA
    rw [getD_map (d := arc0) hk, (room_get hk).2]
    show (A.getD k arc0).fst = _
    omega
  · obtain ⟨k, hk, c⟩ := halves (show e < 2 * A.length from he)
    have hz : ∀ v, (List.replicate n (0 : Int)).getD v 0 = 0 := fun v => by
      unfold List.getD
      rw [List.getElem?_replicate]
      split <;> rfl
    unfold red
    rw [hz, hz]
    show 0 ≤ (prsA A).getD e 0 + 0 - 0
    rcases c with rfl | rfl
    · rw [(room_get hk).1] at hr
      rw [(prs_get hk).1]
      unfold Arc.fst at hr
      split at hr <;> omega
    · rw [(room_get hk).2] at hr
      rw [(prs_get hk).2]
      unfold Arc.fst at hr
      split at hr <;> omega
/-- the amounts keep their bounds -/
theorem amt_bounds {n : Nat} {A : List Arc} {arcs : List (List Nat)} {room over lifts : List Int} (I : Inv (netA n A arcs) (losA A) (capA A) room over lifts) {k : Nat} (hk : k < A.length) :
    (A.getD k arc0).lo ≤ amt (losA A) room k ∧ amt (losA A) room k ≤ (A.getD k arc0).hi := by
  have h1 := I.r0 (2 * k) (show 2 * k < 2 * A.length by omega)
  have h2 := I.r0 (2 * k + 1) (show 2 * k + 1 < 2 * A.length by omega)
  have h3 := I.rc k hk
  unfold capA at h3
  rw [getD_map (d := arc0) hk] at h3
  unfold amt losA
  rw [getD_map (d := arc0) hk]
  omega
theorem flow_zero {n : Nat} {A : List Arc} {arcs : List (List Nat)} {room over lifts : List Int} (I : Inv (netA n A arcs) (losA A) (capA A) room over lifts) (h : ∀ x ∈ over, x ≤ 0) {v : Nat} (hv : v < n) : SA A (amt (losA A) room) v = 0 := by
  rw [← flow_SA (n := n) (arcs := arcs), ← I.ov v hv]
  exact all_zero h I.s0 _ (getD_mem (by rw [I.lo]; exact hv))
/-! ### the pipes of a book -/
/-- how many members with the duty n say yes, of the first k -/
def evN (B : Bk) (r : Nat) : Nat → Nat
  | 0 => 0
  | k + 1 => evN B r k + if B.d k = .n ∧ yes B.many r k = true then 1 else 0
def ev (B : Bk) (r : Nat) : Bool := decide (evN B r B.many % 2 = 0)
def evQ (many : Nat) (ns : Nat → Bool) (r : Nat) : Nat → Nat
  | 0 => 0
  | k + 1 => evQ many ns r k + if ns k && yes many r k then 1 else 0
theorem evN_Q (B : Bk) (r : Nat) : ∀ k, evN B r k = evQ B.many (fun m => decide (B.d m = .n)) r k
  | 0 => rfl
  | k + 1 => by
    show evN B r k + _ = evQ B.many _ r k + _
    rw [evN_Q B r k]
    congr 1
    by_cases c1 : B.d k = .n <;> cases c2 : yes B.many r k <;> simp [c1]
theorem evQ_congr {many r : Nat} {f g : Nat → Bool} : ∀ {k : Nat}, (∀ i, i < k → f i = g i) → evQ many f r k = evQ many g r k
  | 0, _ => rfl
  | k + 1, h => by
    show evQ many f r k + _ = evQ many g r k + _
    rw [evQ_congr fun i hi => h i (by omega), h k (by omega)]
def pick4 (a b c d : Bool) : Nat → Bool
  | 0 => a
  | 1 => b
  | 2 => c
  | _ => d
def turnOk (many : Nat) (ns : Nat → Bool) : Bool := (ties many).all fun t => decide (decide (evQ many ns t.2.2 many % 2 = 0) = (decide (evQ many ns t.1 many % 2 = 0) != ns t.2.1))
theorem turn_all (a b c d : Bool) : turnOk 1 (pick4 a b c d) = true ∧ turnOk 2 (pick4 a b c d) = true ∧ turnOk 3 (pick4 a b c d) = true ∧ turnOk 4 (pick4 a b c d) = true := by
  cases a <;> cases b <;> cases c <;> cases d <;> decide +kernel
theorem ev_turn {B : Bk} (O : B.Ok) {t : Nat × Nat × Nat} (ht : t ∈ ties B.many) : ev B t.2.2 = (ev B t.1 != decide (B.d t.2.1 = .n)) := by
  obtain ⟨h1, h2, h3, h4⟩ := turn_all (decide (B.d 0 = .n)) (decide (B.d 1 = .n)) (decide (B.d 2 = .n)) (decide (B.d 3 = .n))
  have key : turnOk B.many (pick4 (decide (B.d 0 = .n)) (decide (B.d 1 = .n)) (decide (B.d 2 = .n)) (decide (B.d 3 = .n))) = true :=
    cases4 (P := fun many => turnOk many _ = true) h1 h2 h3 h4 O.m1 O.m4
  have hp : ∀ i, i < 4 → pick4 (decide (B.d 0 = .n)) (decide (B.d 1 = .n)) (decide (B.d 2 = .n)) (decide (B.d 3 = .n)) i = decide (B.d i = .n) := fun i hi => by
    have : i = 0 ∨ i = 1 ∨ i = 2 ∨ i = 3 := by omega
    rcases this with rfl | rfl | rfl | rfl <;> rfl
  have hm4 := O.m4
  have hlt := (ties_lt O.m1 O.m4 t ht).2.1
  have e := of_decide_eq_true (List.all_eq_true.mp key t ht)
  rw [evQ_congr (k := B.many) fun i hi => hp i (by omega), evQ_congr (k := B.many) fun i hi => hp i (by omega), hp _ (by omega), ← evN_Q, ← evN_Q] at e
  exact e
def arcL (B : Bk) (r g : Nat) (b : Int × Int) (p : Int) : Arc := if ev B r then ⟨r, g, b.1, b.2, p⟩ else ⟨g, r, b.1, b.2, p⟩
def cntArc (B : Bk) (r : Nat) : Arc := if ev B r then ⟨2 ^ B.many, r, (B.cnt r).1, (B.cnt r).2, 0⟩ else ⟨r, 2 ^ B.many, (B.cnt r).1, (B.cnt r).2, 0⟩
def tieArcs (B : Bk) (pr : List (List Int)) (t : Nat × Nat × Nat) : List Arc := match B.d t.2.1 with
  | .m => [arcL B t.1 (2 ^ B.many) (bnd (B.sg t.1 t.2.1)) (prAt pr t.1 t.2.1), arcL B t.2.2 (2 ^ B.many) (bnd (B.sg t.2.2 t.2.1)) (prAt pr t.2.2 t.2.1)]
  | .n => [arcL B t.1 t.2.2 (tieB .n (bnd (B.sg t.1 t.2.1)) (bnd (B.sg t.2.2 t.2.1))) (prAt pr t.1 t.2.1 + prAt pr t.2.2 t.2.1)]
  | .a => [arcL B t.2.2 (2 ^ B.many) (1, 1) (prAt pr t.2.2 t.2.1), arcL B t.1 t.2.2 (tieB .a (bnd (B.sg t.1 t.2.1)) (bnd (B.sg t.2.2 t.2.1))) (prAt pr t.1 t.2.1 - prAt pr t.2.2 t.2.1)]
abbrev Pk := Nat → Nat → Option (Nat × Bool)
def Pk.put (f : Pk) (r m : Nat) (v : Nat × Bool) : Pk := fun r' m' => if r' = r ∧ m' = m then some v else f r' m'
/-- the picks behind a tie whose first pipe is the arc k -/
def tiePk (B : Bk) (f : Pk) (t : Nat × Nat × Nat) (k : Nat) : Pk := match B.d t.2.1 with
  | .m => (f.put t.1 t.2.1 (2 * k, false)).put t.2.2 t.2.1 (2 * (k + 1), false)
  | .n => (f.put t.1 t.2.1 (2 * k, false)).put t.2.2 t.2.1 (2 * k, false)
  | .a => (f.put t.1 t.2.1 (2 * (k + 1), false)).put t.2.2 t.2.1 (2 * (k + 1), true)
/-- the pick, by amounts -/
def xA (f : Pk) (al : Nat → Int) (r m : Nat) : Int := match f r m with
  | some (e, b) => if b then 1 - al (e / 2) else al (e / 2)
  | none => 0
def Bounded (A : List Arc) (al : Nat → Int) : Prop := ∀ k, k < A.length → (A.getD k arc0).lo ≤ al k ∧ al k ≤ (A.getD k arc0).hi
def sgn (b : Bool) : Int := if b then 1 else -1
/-- the ties ts are laid as the pipes A -/
structure LInv (B : Bk) (ts : List (Nat × Nat × Nat)) (A : List Arc) (f : Pk) : Prop where
  len : A.length ≤ 2 * ts.length
  pk : ∀ t ∈ ts, (∃ k b, f t.1 t.2.1 = some (2 * k, b) ∧ k < A.length) ∧ ∃ k b, f t.2.2 t.2.1 = some (2 * k, b) ∧ k < A.length
  fill : ∀ al, Bounded A al → ∀ t ∈ ts, (xA f al t.1 t.2.1 = 0 ∨ xA f al t.1 t.2.1 = 1) ∧ (xA f al t.2.2 t.2.1 = 0 ∨ xA f al t.2.2 t.2.1 = 1) ∧
    (decide (xA f al t.1 t.2.1 = 1), decide (xA f al t.2.2 t.2.1 = 1)) ∈ B.fill t
  sum : ∀ al, Bounded A al → ∀ v, v < 2 ^ B.many → SA A al v = - sgn (ev B v) * (ts.map fun t => dl t.1 v * xA f al t.1 t.2.1 + dl t.2.2 v * xA f al t.2.2 t.2.1).sum
  ok : ∀ a ∈ A, a.s < 2 ^ B.many + 1 ∧ a.g < 2 ^ B.many + 1 ∧ a.lo ≤ a.hi
theorem linv_nil (B : Bk) (f : Pk) : LInv B [] [] f :=
  ⟨Nat.le_refl _, fun t h => (by cases h), fun _ _ t h => (by cases h), fun al _ v _ => by simp [SA, sumN], fun a h => (by cases h)⟩
theorem fill_n (s1 s2 : Sg) (x : Int) (h1 : (tieB .n (bnd s1) (bnd s2)).1 ≤ x) (h2 : x ≤ (tieB .n (bnd s1) (bnd s2)).2) : (x = 0 ∨ x = 1) ∧ (decide (x = 1), decide (x = 1)) ∈ fillings .n s1 s2 := by
  have hx : x = 0 ∨ x = 1 := by cases s1 <;> cases s2 <;> simp [tieB, bnd, mx, mn] at h1 h2 <;> omega
  refine ⟨hx, ?_⟩
  rcases hx with rfl | rfl <;> cases s1 <;> cases s2 <;> first | decide | (simp [tieB, bnd, mx, mn] at h1 h2)
theorem fill_a (s1 s2 : Sg) (x : Int) (h1 : (tieB .a (bnd s1) (bnd s2)).1 ≤ x) (h2 : x ≤ (tieB .a (bnd s1) (bnd s2)).2) : (x = 0 ∨ x = 1) ∧ (decide (x = 1), decide (1 - x = 1)) ∈ fillings .a s1 s2 := by
  have hx : x = 0 ∨ x = 1 := by cases s1 <;> cases s2 <;> simp [tieB, bnd, mx, mn] at h1 h2 <;> omega
  refine ⟨hx, ?_⟩
  rcases hx with rfl | rfl <;> cases s1 <;> cases s2 <;> first | decide | (simp [tieB, bnd, mx, mn] at h1 h2)
theorem fill_m (s1 s2 : Sg) (x y : Int) (h1 : (bnd s1).1 ≤ x) (h2 : x ≤ (bnd s1).2) (h3 : (bnd s2).1 ≤ y) (h4 : y ≤ (bnd s2).2) : (x = 0 ∨ x = 1) ∧ (y = 0 ∨ y = 1) ∧ (decide (x = 1), decide (y = 1)) ∈ fillings .m s1 s2 := by
  have hx : x = 0 ∨ x = 1 := by cases s1 <;> simp [bnd] at h1 h2 <;> omega
  have hy : y = 0 ∨ y = 1 := by cases s2 <;> simp [bnd] at h3 h4 <;> omega
  refine ⟨hx, hy, ?_⟩
  rcases hx with rfl | rfl <;> rcases hy with rfl | rfl <;> cases s1 <;> cases s2 <;> first | decide | (simp [bnd] at h1 h2 h3 h4)
theorem bounded_left {A C : List Arc} {al : Nat → Int} (h : Bounded (A ++ C) al) : Bounded A al := fun k hk => by
  have := h k (by rw [List.length_append]; omega)
  rw [getD_append_left hk] at this
  exact this
theorem arcL_lo (B : Bk) (r g : Nat) (b : Int × Int) (p : Int) : (arcL B r g b p).lo = b.1 ∧ (arcL B r g b p).hi = b.2 := by unfold arcL; split <;> exact ⟨rfl, rfl⟩
theorem arcL_dl (B : Bk) (r g : Nat) (b : Int × Int) (p : Int) (v : Nat) : dl (arcL B r g b p).g v - dl (arcL B r g b p).s v = sgn (ev B r) * (dl g v - dl r v) := by
  unfold arcL sgn
  cases ev B r <;> simp <;> omega
theorem sgn_dl (B : Bk) (r v : Nat) : sgn (ev B r) * dl r v = sgn (ev B v) * dl r v := by
  unfold dl
  by_cases c : r = v
  · rw [c]
  · rw [if_neg c, Int.mul_zero, Int.mul_zero]
theorem put_get {f : Pk} {r m r' m' : Nat} {v : Nat × Bool} : (f.put r m v) r' m' = if r' = r ∧ m' = m then some v else f r' m' := rfl
theorem alg_m (a b s1 s2 s x y : Int) (h1 : s1 * x = s * x) (h2 : s2 * y = s * y) : a * (s1 * (0 - x)) + b * (s2 * (0 - y)) = - s * (x * a + y * b) := by grind
theorem alg_n (a s1 s2 s x y : Int) (h1 : s1 * x = s * x) (h2 : s2 * y = s * y) (h3 : s2 = - s1) : a * (s1 * (y - x)) = - s * (x * a + y * a) := by grind
theorem alg_a (a s1 s2 s x y : Int) (h1 : s1 * x = s * x) (h2 : s2 * y = s * y) (h3 : s2 = s1) : s2 * (0 - y) + a * (s1 * (y - x)) = - s * (x * a + y * (1 - a)) := by grind
theorem linv_snoc {B : Bk} (O : B.Ok) {pr : List (List Int)} {ts : List (Nat × Nat × Nat)} {A : List Arc} {f : Pk} (L : LInv B ts A f) {t : Nat × Nat × Nat} (hts : ∀ u ∈ ts, u ∈ ties B.many) (ht : t ∈ ties B.many) (hn : t ∉ ts)
    (hf : tornB (B.d t.2.1) (bnd (B.sg t.1 t.2.1)) (bnd (B.sg t.2.2 t.2.1)) = false) : LInv B (ts ++ [t]) (A ++ tieArcs B pr t) (tiePk B f t A.length) := by
  obtain ⟨r, m, o⟩ := t
  obtain ⟨hr, hm, ho, hro⟩ := ties_lt O.m1 O.m4 _ ht
  have het := ev_turn O ht
  -- the old ties' picks stand
  have hap : ∀ u ∈ ts, ∀ x, (x = u.1 ∨ x = u.2.2) → ¬ (x = r ∧ u.2.1 = m) ∧ ¬ (x = o ∧ u.2.1 = m) := fun u hu x hx => by
    have hne : u ≠ (r, m, o) := fun z => hn (z ▸ hu)
    refine ⟨fun z => ?_, fun z => ?_⟩
    · have := ties_apart O.m1 O.m4 u (hts u hu) _ ht hne z.2
      rcases hx with q | q
      · exact this.1 (q ▸ z.1)
      · exact this.2.2.1 (q ▸ z.1)
    · have := ties_apart O.m1 O.m4 u (hts u hu) _ ht hne z.2
      rcases hx with q | q
      · exact this.2.1 (q ▸ z.1)
      · exact this.2.2.2 (q ▸ z.1)
  have hold : ∀ u ∈ ts, ∀ x, (x = u.1 ∨ x = u.2.2) → tiePk B f (r, m, o) A.length x u.2.1 = f x u.2.1 := fun u hu x hx => by
    obtain ⟨h1, h2⟩ := hap u hu x hx
    unfold tiePk
    cases hd : B.d m <;> (simp only [hd]; rw [put_get, if_neg h2, put_get, if_neg h1])
  have hxo : ∀ u ∈ ts, ∀ x al, (x = u.1 ∨ x = u.2.2) → xA (tiePk B f (r, m, o) A.length) al x u.2.1 = xA f al x u.2.1 := fun u hu x al hx => by
    unfold xA
    rw [hold u hu x hx]
  have hor : ¬ (o = r ∧ m = m) := fun z => hro z.1.symm
  have hro' : ¬ (r = o ∧ m = m) := fun z => hro z.1
  have holdsum : ∀ al v, (ts.map fun t => dl t.1 v * xA (tiePk B f (r, m, o) A.length) al t.1 t.2.1 + dl t.2.2 v * xA (tiePk B f (r, m, o) A.length) al t.2.2 t.2.1) = ts.map fun t => dl t.1 v * xA f al t.1 t.2.1 + dl t.2.2 v * xA f al t.2.2 t.2.1 := fun al v =>
    List.map_congr_left fun u hu => by rw [hxo u hu u.1 al (.inl rfl), hxo u hu u.2.2 al (.inr rfl)]
  have hfinal : ∀ (al : Nat → Int) (v : Nat) (x1 x2 c : Int), xA (tiePk B f (r, m, o) A.length) al r m = x1 → xA (tiePk B f (r, m, o) A.length) al o m = x2 → Bounded A al → v < 2 ^ B.many →
      c = - sgn (ev B v) * (dl r v * x1 + dl o v * x2) →
      SA A al v + c = - sgn (ev B v) * ((ts ++ [(r, m, o)]).map fun t => dl t.1 v * xA (tiePk B f (r, m, o) A.length) al t.1 t.2.1 + dl t.2.2 v * xA (tiePk B f (r, m, o) A.length) al t.2.2 t.2.1).sum := fun al v x1 x2 c e1 e2 hb hv hc => by
    rw [List.map_append, List.sum_append, holdsum, List.map_cons, List.map_nil, List.sum_cons, List.sum_nil]
    show _ = - sgn (ev B v) * (_ + (dl r v * xA (tiePk B f (r, m, o) A.length) al r m + dl o v * xA (tiePk B f (r, m, o) A.length) al o m + 0))
    rw [e1, e2, hc, Int.add_zero, L.sum al hb v hv, ← Int.mul_add]
  have hvN : ∀ v, v < 2 ^ B.many → dl (2 ^ B.many) v = 0 := fun v hv => by unfold dl; rw [if_neg (by omega)]
  have hold2 : ∀ al, Bounded A al → ∀ u ∈ ts, (xA (tiePk B f (r, m, o) A.length) al u.1 u.2.1 = 0 ∨ xA (tiePk B f (r, m, o) A.length) al u.1 u.2.1 = 1) ∧ (xA (tiePk B f (r, m, o) A.length) al u.2.2 u.2.1 = 0 ∨ xA (tiePk B f (r, m, o) A.length) al u.2.2 u.2.1 = 1) ∧
      (decide (xA (tiePk B f (r, m, o) A.length) al u.1 u.2.1 = 1), decide (xA (tiePk B f (r, m, o) A.length) al u.2.2 u.2.1 = 1)) ∈ B.fill u := fun al hb u hu => by
    rw [hxo u hu u.1 al (.inl rfl), hxo u hu u.2.2 al (.inr rfl)]
    exact L.fill al hb u hu
  cases hd : B.d m with
  | m =>
    have eA : tieArcs B pr (r, m, o) = [arcL B r (2 ^ B.many) (bnd (B.sg r m)) (prAt pr r m), arcL B o (2 ^ B.many) (bnd (B.sg o m)) (prAt pr o m)] := by unfold tieArcs; simp only [hd]
    have eP : tiePk B f (r, m, o) A.length = (f.put r m (2 * A.length, false)).put o m (2 * (A.length + 1), false) := by unfold tiePk; simp only [hd]
    have x1 : ∀ al, xA (tiePk B f (r, m, o) A.length) al r m = al A.length := fun al => by
      unfold xA; rw [eP, put_get, if_neg hro', put_get, if_pos ⟨rfl, rfl⟩]
      show al (2 * A.length / 2) = _
      rw [show 2 * A.length / 2 = A.length by omega]
    have x2 : ∀ al, xA (tiePk B f (r, m, o) A.length) al o m = al (A.length + 1) := fun al => by
      unfold xA; rw [eP, put_get, if_pos ⟨rfl, rfl⟩]
      show al (2 * (A.length + 1) / 2) = _
      rw [show 2 * (A.length + 1) / 2 = A.length + 1 by omega]
    have g0 : (A ++ tieArcs B pr (r, m, o)).getD A.length arc0 = arcL B r (2 ^ B.many) (bnd (B.sg r m)) (prAt pr r m) := by rw [eA]; exact getD_append_right (i := 0)
    have g1 : (A ++ tieArcs B pr (r, m, o)).getD (A.length + 1) arc0 = arcL B o (2 ^ B.many) (bnd (B.sg o m)) (prAt pr o m) := by rw [eA]; exact getD_append_right (i := 1)
    have hl : (A ++ tieArcs B pr (r, m, o)).length = A.length + 2 := by rw [eA]; simp
    refine ⟨by rw [hl, List.length_append]; have := L.len; simp only [List.length_cons, List.length_nil]; omega, fun u hu => ?_, fun al hb u hu => ?_, fun al hb v hv => ?_, fun a ha => ?_⟩
    · rcases List.mem_append.mp hu with q | q
      · obtain ⟨⟨k1, b1, p1, p2⟩, k2, b2', p3, p4⟩ := L.pk u q
        exact ⟨⟨k1, b1, (hold u q u.1 (.inl rfl)).trans p1, by omega⟩, k2, b2', (hold u q u.2.2 (.inr rfl)).trans p3, by omega⟩
      · rw [List.mem_singleton.mp q]
        exact ⟨⟨A.length, false, by rw [eP]; show ((f.put r m _).put o m _) r m = _; rw [put_get, if_neg hro', put_get, if_pos ⟨rfl, rfl⟩], by omega⟩, A.length + 1, false, by rw [eP]; show ((f.put r m _).put o m _) o m = _; rw [put_get, if_pos ⟨rfl, rfl⟩], by omega⟩
    · rcases List.mem_append.mp hu with q | q
      · exact hold2 al (bounded_left hb) u q
      · rw [List.mem_singleton.mp q]
        have b0 := hb A.length (by omega)
        have b1 := hb (A.length + 1) (by omega)
        rw [g0, (arcL_lo ..).1, (arcL_lo ..).2] at b0
        rw [g1, (arcL_lo ..).1, (arcL_lo ..).2] at b1
        show (xA _ al r m = 0 ∨ xA _ al r m = 1) ∧ (xA _ al o m = 0 ∨ xA _ al o m = 1) ∧ (decide (xA _ al r m = 1), decide (xA _ al o m = 1)) ∈ fillings (B.d m) (B.sg r m) (B.sg o m)
        rw [x1, x2, hd]
        exact fill_m _ _ _ _ b0.1 b0.2 b1.1 b1.2
    · have e1 : A ++ tieArcs B pr (r, m, o) = (A ++ [arcL B r (2 ^ B.many) (bnd (B.sg r m)) (prAt pr r m)]) ++ [arcL B o (2 ^ B.many) (bnd (B.sg o m)) (prAt pr o m)] := by rw [eA]; simp
      rw [e1, SA_snoc, SA_snoc, arcL_dl, arcL_dl, hvN v hv, Int.add_assoc]
      have e2 : (A ++ [arcL B r (2 ^ B.many) (bnd (B.sg r m)) (prAt pr r m)]).length = A.length + 1 := by simp
      rw [e2]
      refine hfinal al v _ _ _ (x1 al) (x2 al) (bounded_left hb) hv ?_
      have q1 := sgn_dl B r v
      have q2 := sgn_dl B o v
      exact alg_m _ _ _ _ _ _ _ q1 q2
    · rw [eA] at ha
      rcases List.mem_append.mp ha with q | q
      · exact L.ok a q
      · have hb1 : ∀ s : Sg, (bnd s).1 ≤ (bnd s).2 := fun s => by cases s <;> decide
        rcases List.mem_cons.mp q with q | q
        · rw [q]; exact ⟨by unfold arcL; split <;> (dsimp only at *; omega), by unfold arcL; split <;> (dsimp only at *; omega), by rw [(arcL_lo ..).1, (arcL_lo ..).2]; exact hb1 _⟩
        · rw [List.mem_singleton.mp q]; exact ⟨by unfold arcL; split <;> (dsimp only at *; omega), by unfold arcL; split <;> (dsimp only at *; omega), by rw [(arcL_lo ..).1, (arcL_lo ..).2]; exact hb1 _⟩
  | n =>
    have hf' : ¬ (tieB .n (bnd (B.sg r m)) (bnd (B.sg o m))).1 > (tieB .n (bnd (B.sg r m)) (bnd (B.sg o m))).2 := by
      have : tornB (B.d m) (bnd (B.sg r m)) (bnd (B.sg o m)) = false := hf
      rw [hd] at this
      exact of_decide_eq_false this
    have eA : tieArcs B pr (r, m, o) = [arcL B r o (tieB .n (bnd (B.sg r m)) (bnd (B.sg o m))) (prAt pr r m + prAt pr o m)] := by unfold tieArcs; simp only [hd]
    have eP : tiePk B f (r, m, o) A.length = (f.put r m (2 * A.length, false)).put o m (2 * A.length, false) := by unfold tiePk; simp only [hd]
    have x1 : ∀ al, xA (tiePk B f (r, m, o) A.length) al r m = al A.length := fun al => by
      unfold xA; rw [eP, put_get, if_neg hro', put_get, if_pos ⟨rfl, rfl⟩]
      show al (2 * A.length / 2) = _
      rw [show 2 * A.length / 2 = A.length by omega]
    have x2 : ∀ al, xA (tiePk B f (r, m, o) A.length) al o m = al A.length := fun al => by
      unfold xA; rw [eP, put_get, if_pos ⟨rfl, rfl⟩]
      show al (2 * A.length / 2) = _
      rw [show 2 * A.length / 2 = A.length by omega]
    have g0 : (A ++ tieArcs B pr (r, m, o)).getD A.length arc0 = arcL B r o (tieB .n (bnd (B.sg r m)) (bnd (B.sg o m))) (prAt pr r m + prAt pr o m) := by rw [eA]; exact getD_append_right (i := 0)
    have hl : (A ++ tieArcs B pr (r, m, o)).length = A.length + 1 := by rw [eA]; simp
    refine ⟨by rw [hl, List.length_append]; have := L.len; simp only [List.length_cons, List.length_nil]; omega, fun u hu => ?_, fun al hb u hu => ?_, fun al hb v hv => ?_, fun a ha => ?_⟩
    · rcases List.mem_append.mp hu with q | q
      · obtain ⟨⟨k1, b1, p1, p2⟩, k2, b2', p3, p4⟩ := L.pk u q
        exact ⟨⟨k1, b1, (hold u q u.1 (.inl rfl)).trans p1, by omega⟩, k2, b2', (hold u q u.2.2 (.inr rfl)).trans p3, by omega⟩
      · rw [List.mem_singleton.mp q]
        exact ⟨⟨A.length, false, by rw [eP]; show ((f.put r m _).put o m _) r m = _; rw [put_get, if_neg hro', put_get, if_pos ⟨rfl, rfl⟩], by omega⟩, A.length, false, by rw [eP]; show ((f.put r m _).put o m _) o m = _; rw [put_get, if_pos ⟨rfl, rfl⟩], by omega⟩
    · rcases List.mem_append.mp hu with q | q
      · exact hold2 al (bounded_left hb) u q
      · rw [List.mem_singleton.mp q]
        have b0 := hb A.length (by omega)
        rw [g0, (arcL_lo ..).1, (arcL_lo ..).2] at b0
        show (xA _ al r m = 0 ∨ xA _ al r m = 1) ∧ (xA _ al o m = 0 ∨ xA _ al o m = 1) ∧ (decide (xA _ al r m = 1), decide (xA _ al o m = 1)) ∈ fillings (B.d m) (B.sg r m) (B.sg o m)
        rw [x1, x2, hd]
        obtain ⟨z1, z2⟩ := fill_n _ _ _ b0.1 b0.2
        exact ⟨z1, z1, z2⟩
    · rw [eA, SA_snoc, arcL_dl]
      refine hfinal al v _ _ _ (x1 al) (x2 al) (bounded_left hb) hv ?_
      have q1 := sgn_dl B r v
      have q2 := sgn_dl B o v
      have q3 : sgn (ev B o) = - sgn (ev B r) := by
        have : ev B o = (ev B r != decide (B.d m = .n)) := het
        rw [this, hd]
        cases ev B r <;> decide
      exact alg_n _ _ _ _ _ _ q1 q2 q3
    · rw [eA] at ha
      rcases List.mem_append.mp ha with q | q
      · exact L.ok a q
      · rw [List.mem_singleton.mp q]; exact ⟨by unfold arcL; split <;> (dsimp only at *; omega), by unfold arcL; split <;> (dsimp only at *; omega), by rw [(arcL_lo ..).1, (arcL_lo ..).2]; omega⟩
  | a =>
    have hf' : ¬ (tieB .a (bnd (B.sg r m)) (bnd (B.sg o m))).1 > (tieB .a (bnd (B.sg r m)) (bnd (B.sg o m))).2 := by
      have : tornB (B.d m) (bnd (B.sg r m)) (bnd (B.sg o m)) = false := hf
      rw [hd] at this
      exact of_decide_eq_false this
    have eA : tieArcs B pr (r, m, o) = [arcL B o (2 ^ B.many) (1, 1) (prAt pr o m), arcL B r o (tieB .a (bnd (B.sg r m)) (bnd (B.sg o m))) (prAt pr r m - prAt pr o m)] := by unfold tieArcs; simp only [hd]
    have eP : tiePk B f (r, m, o) A.length = (f.put r m (2 * (A.length + 1), false)).put o m (2 * (A.length + 1), true) := by unfold tiePk; simp only [hd]
    have x1 : ∀ al, xA (tiePk B f (r, m, o) A.length) al r m = al (A.length + 1) := fun al => by
      unfold xA; rw [eP, put_get, if_neg hro', put_get, if_pos ⟨rfl, rfl⟩]
      show al (2 * (A.length + 1) / 2) = _
      rw [show 2 * (A.length + 1) / 2 = A.length + 1 by omega]
    have x2 : ∀ al, xA (tiePk B f (r, m, o) A.length) al o m = 1 - al (A.length + 1) := fun al => by
      unfold xA; rw [eP, put_get, if_pos ⟨rfl, rfl⟩]
      show 1 - al (2 * (A.length + 1) / 2) = _
      rw [show 2 * (A.length + 1) / 2 = A.length + 1 by omega]
    have g0 : (A ++ tieArcs B pr (r, m, o)).getD A.length arc0 = arcL B o (2 ^ B.many) (1, 1) (prAt pr o m) := by rw [eA]; exact getD_append_right (i := 0)
    have g1 : (A ++ tieArcs B pr (r, m, o)).getD (A.length + 1) arc0 = arcL B r o (tieB .a (bnd (B.sg r m)) (bnd (B.sg o m))) (prAt pr r m - prAt pr o m) := by rw [eA]; exact getD_append_right (i := 1)
    have hl : (A ++ tieArcs B pr (r, m, o)).length = A.length + 2 := by rw [eA]; simp
    refine ⟨by rw [hl, List.length_append]; have := L.len; simp only [List.length_cons, List.length_nil]; omega, fun u hu => ?_, fun al hb u hu => ?_, fun al hb v hv => ?_, fun a ha => ?_⟩
    · rcases List.mem_append.mp hu with q | q
      · obtain ⟨⟨k1, b1, p1, p2⟩, k2, b2', p3, p4⟩ := L.pk u q
        exact ⟨⟨k1, b1, (hold u q u.1 (.inl rfl)).trans p1, by omega⟩, k2, b2', (hold u q u.2.2 (.inr rfl)).trans p3, by omega⟩
      · rw [List.mem_singleton.mp q]
        exact ⟨⟨A.length + 1, false, by rw [eP]; show ((f.put r m _).put o m _) r m = _; rw [put_get, if_neg hro', put_get, if_pos ⟨rfl, rfl⟩], by omega⟩, A.length + 1, true, by rw [eP]; show ((f.put r m _).put o m _) o m = _; rw [put_get, if_pos ⟨rfl, rfl⟩], by omega⟩
    · rcases List.mem_append.mp hu with q | q
      · exact hold2 al (bounded_left hb) u q
      · rw [List.mem_singleton.mp q]
        have b1 := hb (A.length + 1) (by omega)
        rw [g1, (arcL_lo ..).1, (arcL_lo ..).2] at b1
        show (xA _ al r m = 0 ∨ xA _ al r m = 1) ∧ (xA _ al o m = 0 ∨ xA _ al o m = 1) ∧ (decide (xA _ al r m = 1), decide (xA _ al o m = 1)) ∈ fillings (B.d m) (B.sg r m) (B.sg o m)
        rw [x1, x2, hd]
        obtain ⟨z1, z2⟩ := fill_a _ _ _ b1.1 b1.2
        exact ⟨z1, by omega, z2⟩
    · have e1 : A ++ tieArcs B pr (r, m, o) = (A ++ [arcL B o (2 ^ B.many) (1, 1) (prAt pr o m)]) ++ [arcL B r o (tieB .a (bnd (B.sg r m)) (bnd (B.sg o m))) (prAt pr r m - prAt pr o m)] := by rw [eA]; simp
      have b0 := hb A.length (by omega)
      rw [g0, (arcL_lo ..).1, (arcL_lo ..).2] at b0
      have b0' : al A.length = 1 := by have h1 : (1 : Int) ≤ al A.length := b0.1; have h2 : al A.length ≤ (1 : Int) := b0.2; omega
      rw [e1, SA_snoc, SA_snoc, arcL_dl, arcL_dl, hvN v hv, Int.add_assoc, b0', Int.one_mul]
      have e2 : (A ++ [arcL B o (2 ^ B.many) (1, 1) (prAt pr o m)]).length = A.length + 1 := by simp
      rw [e2]
      refine hfinal al v _ _ _ (x1 al) (x2 al) (bounded_left hb) hv ?_
      have q1 := sgn_dl B r v
      have q2 := sgn_dl B o v
      have q3 : sgn (ev B o) = sgn (ev B r) := by
        have : ev B o = (ev B r != decide (B.d m = .n)) := het
        rw [this, hd]
        cases ev B r <;> decide
      exact alg_a _ _ _ _ _ _ q1 q2 q3
    · rw [eA] at ha
      rcases List.mem_append.mp ha with q | q
      · exact L.ok a q
      · rcases List.mem_cons.mp q with q | q
        · rw [q]; exact ⟨by unfold arcL; split <;> (dsimp only at *; omega), by unfold arcL; split <;> (dsimp only at *; omega), by rw [(arcL_lo ..).1, (arcL_lo ..).2]; exact Int.le_refl _⟩
        · rw [List.mem_singleton.mp q]; exact ⟨by unfold arcL; split <;> (dsimp only at *; omega), by unfold arcL; split <;> (dsimp only at *; omega), by rw [(arcL_lo ..).1, (arcL_lo ..).2]; omega⟩
/-! ### the pipes of the counts -/
def withCnt (B : Bk) (A : List Arc) (j : Nat) : List Arc := A ++ (List.range j).map (cntArc B)
theorem withCnt_succ (B : Bk) (A : List Arc) (j : Nat) : withCnt B A (j + 1) = withCnt B A j ++ [cntArc B j] := by unfold withCnt; rw [List.range_succ, List.map_append, List.append_assoc]; rfl
theorem withCnt_len (B : Bk) (A : List Arc) (j : Nat) : (withCnt B A j).length = A.length + j := by unfold withCnt; simp
theorem cntArc_lo (B : Bk) (r : Nat) : (cntArc B r).lo = (B.cnt r).1 ∧ (cntArc B r).hi = (B.cnt r).2 := by unfold cntArc; split <;> exact ⟨rfl, rfl⟩
theorem SA_cnt (B : Bk) (A : List Arc) (al : Nat → Int) {v : Nat} (hv : v < 2 ^ B.many) : ∀ j, SA (withCnt B A j) al v = SA A al v + if v < j then sgn (ev B v) * al (A.length + v) else 0
  | 0 => by
    have e : withCnt B A 0 = A := by unfold withCnt; simp
    rw [e, if_neg (Nat.not_lt_zero _), Int.add_zero]
  | j + 1 => by
    rw [withCnt_succ, SA_snoc, SA_cnt B A al hv j, withCnt_len]
    have e : dl (cntArc B j).g v - dl (cntArc B j).s v = sgn (ev B j) * dl j v := by
      have : dl (2 ^ B.many) v = 0 := by unfold dl; rw [if_neg (by omega)]
      unfold cntArc sgn
      cases ev B j <;> simp [this]
    rw [e]
    by_cases c : j = v
    · subst c
      rw [if_neg (Nat.lt_irrefl _), if_pos (Nat.lt_succ_self _)]
      unfold dl
      rw [if_pos rfl, Int.mul_one, Int.add_zero, Int.mul_comm]
    · have : dl j v = 0 := by unfold dl; rw [if_neg c]
      rw [this, Int.mul_zero, Int.mul_zero, Int.add_zero]
      congr 1
      by_cases c2 : v < j
      · rw [if_pos c2, if_pos (by omega)]
      · rw [if_neg c2, if_neg (by omega)]
theorem ties_all {many : Nat} (h1 : 1 ≤ many) (h4 : many ≤ 4) : ∀ r, r < 2 ^ many → ∀ m, m < many → ∃ t ∈ ties many, (t.1 = r ∨ t.2.2 = r) ∧ t.2.1 = m :=
  cases4 (P := fun many => ∀ r, r < 2 ^ many → ∀ m, m < many → ∃ t ∈ ties many, (t.1 = r ∨ t.2.2 = r) ∧ t.2.1 = m) (by decide +kernel) (by decide +kernel) (by decide +kernel) (by decide +kernel) h1 h4
/-- THE END: amounts without rest make a rule that keeps the book -/
theorem keeps_of {B : Bk} (O : B.Ok) {A : List Arc} {f : Pk} (L : LInv B (ties B.many) A f) {al : Nat → Int} (hb : Bounded (withCnt B A (2 ^ B.many)) al) (hz : ∀ v, v < 2 ^ B.many → SA (withCnt B A (2 ^ B.many)) al v = 0) :
    KeepsT B (fun r m => decide (xA f al r m = 1)) := by
  have hbA : Bounded A al := bounded_left hb
  refine ⟨fun r hr => ?_, fun t ht => (L.fill al hbA t ht).2.2⟩
  have e1 : sumN B.many (fun m => b2 (decide (xA f al r m = 1))) = sumN B.many fun m => xA f al r m := sumN_congr fun m hm => by
    obtain ⟨t, ht, hc, rfl⟩ := ties_all O.m1 O.m4 r hr m hm
    obtain ⟨h1, h2, _⟩ := L.fill al hbA t ht
    have h : xA f al r t.2.1 = 0 ∨ xA f al r t.2.1 = 1 := by
      rcases hc with rfl | rfl
      · exact h1
      · exact h2
    rcases h with q | q <;> rw [q] <;> decide
  have e2 : ((ties B.many).map fun t => dl t.1 r * xA f al t.1 t.2.1 + dl t.2.2 r * xA f al t.2.2 t.2.1).sum = sumN B.many fun m => xA f al r m := by
    rw [ties_sum O.m1 O.m4 (fun r' m => dl r' r * xA f al r' m), sumN_one (f := fun _ => 0) (k := r) hr, sumN_zero]
    · rw [Int.zero_add, Int.sub_zero]
      exact sumN_congr fun m _ => by unfold dl; rw [if_pos rfl, Int.one_mul]
    · intro i _ hne
      show sumN B.many (fun m => dl i r * xA f al i m) = 0
      rw [sumN_congr (g := fun _ => 0) fun m _ => by unfold dl; rw [if_neg hne, Int.zero_mul], sumN_zero]
  have h1 := hz r hr
  rw [SA_cnt B A al hr, if_pos hr, L.sum al hbA r hr, e2] at h1
  have h2 : al (A.length + r) = sumN B.many fun m => xA f al r m := by
    cases q : ev B r <;> rw [q] at h1 <;> simp [sgn] at h1 <;> omega
  have h3 := hb (A.length + r) (by rw [withCnt_len]; omega)
  have h4 : (withCnt B A (2 ^ B.many)).getD (A.length + r) arc0 = cntArc B r := by
    unfold withCnt
    rw [getD_append_right]
    exact getD_of_some (by rw [List.getElem?_map, List.getElem?_range hr]; rfl)
  rw [h4, (cntArc_lo B r).1, (cntArc_lo B r).2, h2] at h3
  show (B.cnt r).1 ≤ sumN B.many (fun m => b2 (decide (xA f al r m = 1))) ∧ sumN B.many (fun m => b2 (decide (xA f al r m = 1))) ≤ (B.cnt r).2
  rw [e1]
  exact h3
end K31

set_option autoImplicit true
set_option Elab.async false
set_option linter.all false
set_option maxRecDepth 100000
set_option maxHeartbeats 4000000
namespace K31
open PySem PySem.Spec PyProof.Rows L2
/-! ### data that stands in the heap -/
inductive D where
  | i (z : Int) | b (x : Bool) | s (x : Str) | n | t (l : List D) | l (l : List D)
mutual
inductive Td (H : Hp) : D → V → Prop
  | i (z : Int) : Td H (.i z) (.int z)
  | b (x : Bool) : Td H (.b x) (.bl x)
  | s (x : Str) : Td H (.s x) (.str x)
  | n : Td H .n .non
  | t {ds : List D} {vs : List V} {a : Addr} : H a = some (.tup vs) → Tds H ds vs → Td H (.t ds) (.ref a)
  | l {ds : List D} {vs : List V} {a : Addr} : H a = some (.lst vs) → Tds H ds vs → Td H (.l ds) (.ref a)
inductive Tds (H : Hp) : List D → List V → Prop
  | nil : Tds H [] []
  | cons {d : D} {ds : List D} {v : V} {vs : List V} : Td H d v → Tds H ds vs → Tds H (d :: ds) (v :: vs)
end
mutual
theorem Td.mono {H H' : Hp} (k : Same H H') : ∀ {d : D} {v : V}, Td H d v → Td H' d v
  | _, _, .i z => .i z
  | _, _, .b x => .b x
  | _, _, .s x => .s x
  | _, _, .n => .n
  | _, _, .t h r => .t (k _ _ h) (Tds.mono k r)
  | _, _, .l h r => .l (k _ _ h) (Tds.mono k r)
theorem Tds.mono {H H' : Hp} (k : Same H H') : ∀ {ds : List D} {vs : List V}, Tds H ds vs → Tds H' ds vs
  | _, _, .nil => .nil
  | _, _, .cons h r => .cons (Td.mono k h) (Tds.mono k r)
end
theorem Tds.length {H : Hp} : ∀ {ds : List D} {vs : List V}, Tds H ds vs → vs.length = ds.length
  | _, _, .nil => rfl
  | _, _, .cons _ r => by simp [Tds.length r]
theorem Tds.get {H : Hp} : ∀ {ds : List D} {vs : List V} {i : Nat} {d : D}, Tds H ds vs → ds[i]? = some d → ∃ v, vs[i]? = some v ∧ Td H d v
  | _, _, _, _, .nil, e => by simp at e
  | _, _, 0, _, .cons h _, e => by simp at e; subst e; exact ⟨_, rfl, h⟩
  | _, _, i + 1, d, .cons _ r, e => by
    obtain ⟨v, h1, h2⟩ := Tds.get (i := i) (d := d) r (by simpa using e)
    exact ⟨v, by simpa using h1, h2⟩
theorem Tds.at {H : Hp} : ∀ {ds : List D} {vs : List V} {i : Nat} {v : V}, Tds H ds vs → vs[i]? = some v → ∃ d, ds[i]? = some d ∧ Td H d v
  | _, _, _, _, .nil, e => by simp at e
  | _, _, 0, _, .cons h _, e => by simp at e; subst e; exact ⟨_, rfl, h⟩
  | _, _, i + 1, d, .cons _ r, e => by
    obtain ⟨v, h1, h2⟩ := Tds.at (i := i) (v := d) r (by simpa using e)
    exact ⟨v, by simpa using h1, h2⟩
theorem Tds.snoc {H : Hp} : ∀ {ds : List D} {vs : List V} {d : D} {v : V}, Tds H ds vs → Td H d v → Tds H (ds ++ [d]) (vs ++ [v])
  | _, _, _, _, .nil, h => .cons h .nil
  | _, _, _, _, .cons a r, h => .cons a (Tds.snoc r h)
theorem Tds.ints {H : Hp} : ∀ {ns : List Int} {vs : List V}, Tds H (ns.map D.i) vs → vs = ns.map V.int
  | [], _, .nil => rfl
  | _ :: _, _, .cons (.i _) r => by rw [Tds.ints r]; rfl
theorem Tds.of_ints {H : Hp} : ∀ ns : List Int, Tds H (ns.map D.i) (ns.map V.int)
  | [] => .nil
  | _ :: r => .cons (.i _) (Tds.of_ints r)
theorem Tds.strs {H : Hp} : ∀ {ns : List Str} {vs : List V}, Tds H (ns.map D.s) vs → vs = ns.map V.str
  | [], _, .nil => rfl
  | _ :: _, _, .cons (.s _) r => by rw [Tds.strs r]; rfl
theorem Tds.of_strs {H : Hp} : ∀ ns : List Str, Tds H (ns.map D.s) (ns.map V.str)
  | [] => .nil
  | _ :: r => .cons (.s _) (Tds.of_strs r)
theorem Td.int {H : Hp} {z : Int} {v : V} (h : Td H (.i z) v) : v = .int z := by cases h; rfl
theorem Td.bl {H : Hp} {z : Bool} {v : V} (h : Td H (.b z) v) : v = .bl z := by cases h; rfl
theorem Td.str {H : Hp} {z : Str} {v : V} (h : Td H (.s z) v) : v = .str z := by cases h; rfl
theorem Td.tup {H : Hp} {ds : List D} {v : V} (h : Td H (.t ds) v) : ∃ a vs, v = .ref a ∧ H a = some (.tup vs) ∧ Tds H ds vs := by cases h with | t h r => exact ⟨_, _, rfl, h, r⟩
theorem Td.lst {H : Hp} {ds : List D} {v : V} (h : Td H (.l ds) v) : ∃ a vs, v = .ref a ∧ H a = some (.lst vs) ∧ Tds H ds vs := by cases h with | l h r => exact ⟨_, _, rfl, h, r⟩
/-! ### what stays -/
/-- the heap without the addresses S -/
def off (S : List Addr) (H : Hp) : Hp := fun b => if b ∈ S then none else H b
/-- all but the addresses S stays -/
abbrev Kp (S : List Addr) (H H' : Hp) : Prop := Same (off S H) (off S H')
theorem off_le {S : List Addr} {H : Hp} : Same (off S H) H := fun b o e => by
  unfold off at e
  split at e
  · cases e
  · exact e
theorem off_of {S : List Addr} {H : Hp} {a : Addr} {o : HO} (h : H a = some o) (hs : a ∉ S) : off S H a = some o := by unfold off; rw [if_neg hs]; exact h
theorem off_not {S : List Addr} {H : Hp} {a : Addr} {o : HO} (h : off S H a = some o) : a ∉ S := fun z => by unfold off at h; rw [if_pos z] at h; cases h
theorem Kp.refl (S : List Addr) (H : Hp) : Kp S H H := Same.refl _
theorem kp_of {S : List Addr} {H H' : Hp} (k : Same H H') : Kp S H H' := fun b o e => off_of (k b o (off_le b o e)) (off_not e)
theorem Kp.mono {S T : List Addr} {H H' : Hp} (k : Kp S H H') (h : ∀ a ∈ S, a ∈ T) : Kp T H H' := fun b o e => by
  have hb := off_not e
  have hs : b ∉ S := fun z => hb (h b z)
  exact off_of (off_le _ _ (k b o (off_of (off_le _ _ e) hs))) hb
theorem kp_upd {S : List Addr} {H : Hp} {a : Addr} {o : HO} (h : a ∈ S) : Kp S H (upd H a o) := fun b u e => by
  have hb := off_not e
  have : b ≠ a := fun z => hb (z ▸ h)
  exact off_of (by rw [upd_ne this]; exact off_le _ _ e) hb
theorem same_new {H : Hp} {a : Addr} {o : HO} (h : H a = none) : Same H (upd H a o) := fun b u e => by rw [upd_ne (ne_of_none e h)]; exact e
theorem same_of_kp {H H' : Hp} (k : Kp [] H H') : Same H H' := fun b o e => off_le _ _ (k b o (off_of e (by simp)))
theorem Kp.get {S : List Addr} {H H' : Hp} (k : Kp S H H') {a : Addr} {o : HO} (h : H a = some o) (hs : a ∉ S) : H' a = some o := off_le _ _ (k _ _ (off_of h hs))
theorem Kp.none {S : List Addr} {H H' : Hp} (k : Kp S H H') {a : Addr} (h : H' a = Option.none) (hs : a ∉ S) : H a = Option.none := by
  cases e : H a with
  | none => rfl
  | some o => rw [k.get e hs] at h; cases h
theorem off_new {S : List Addr} {H : Hp} {a : Addr} {o : HO} (h : H a = none) : Same (off S H) (off S (upd H a o)) := kp_of (same_new h)
mutual
theorem Td.offS {S : List Addr} {H : Hp} (h : ∀ a ∈ S, ∀ xs, H a ≠ some (.tup xs) ∧ H a ≠ some (.lst xs)) : ∀ {d : D} {v : V}, Td H d v → Td (off S H) d v
  | _, _, .i z => .i z
  | _, _, .b x => .b x
  | _, _, .s x => .s x
  | _, _, .n => .n
  | _, _, .t e r => .t (off_of e fun z => (h _ z _).1 e) (Tds.offS h r)
  | _, _, .l e r => .l (off_of e fun z => (h _ z _).2 e) (Tds.offS h r)
theorem Tds.offS {S : List Addr} {H : Hp} (h : ∀ a ∈ S, ∀ xs, H a ≠ some (.tup xs) ∧ H a ≠ some (.lst xs)) : ∀ {ds : List D} {vs : List V}, Tds H ds vs → Tds (off S H) ds vs
  | _, _, .nil => .nil
  | _, _, .cons a r => .cons (Td.offS h a) (Tds.offS h r)
end
/-- an instance is no part of data -/
theorem td_off1 {H : Hp} {p C dx : Addr} {fs : List (Str × V)} (h : H p = some (.ins C dx fs)) {d : D} {v : V} (t : Td H d v) : Td (off [p] H) d v := t.offS fun a ha xs => by
  have : a = p := by simpa using ha
  subst this
  rw [h]
  exact ⟨fun z => (by cases z), fun z => (by cases z)⟩
/-! ### objects -/
/-- the instance at p has v as its f -/
def Fld (K : PySem.W.Frag) (H : Hp) (p : Addr) (f : Str) (v : V) : Prop := ∃ C dx fs, H p = some (.ins C dx fs) ∧ Cls K C ∧ NoAttr K C f ∧ fs.lookup f = some v
theorem Fld.mono {K : PySem.W.Frag} {H H' : Hp} {p : Addr} {f : Str} {v : V} (h : Fld K H p f v) (k : Same H H') : Fld K H' p f v :=
  let ⟨C, dx, fs, h1, h2⟩ := h
  ⟨C, dx, fs, k _ _ h1, h2⟩
/-- at p stands an instance of C of whose attributes none is called m -/
def Is (H : Hp) (p C : Addr) (m : Str) : Prop := ∃ dx fs, H p = some (.ins C dx fs) ∧ fs.lookup m = none
theorem Is.mono {H H' : Hp} {p C : Addr} {m : Str} (h : Is H p C m) (k : Same H H') : Is H' p C m :=
  let ⟨dx, fs, h1, h2⟩ := h
  ⟨dx, fs, k _ _ h1, h2⟩
theorem lookup_zip : ∀ {ns : List Str} {vs : List V} {f : Str} {i : Nat}, ns.Nodup → ns.length = vs.length → ns[i]? = some f → (ns.zip vs).lookup f = vs[i]?
  | [], _, _, _, _, _, h => by simp at h
  | n :: ns, [], _, _, _, hl, _ => by simp at hl
  | n :: ns, v :: vs, f, 0, _, _, h => by
    have e : n = f := by simpa using h
    subst e
    simp [List.lookup]
  | n :: ns, v :: vs, f, i + 1, hn, hl, h => by
    obtain ⟨h1, h2⟩ := List.nodup_cons.mp hn
    have hm : f ∈ ns := List.mem_of_getElem? (by simpa using h)
    have hne : (f == n) = false := beq_eq_false_iff_ne.mpr fun z => h1 (z ▸ hm)
    show List.lookup f ((n, v) :: ns.zip vs) = _
    simp only [List.lookup, hne]
    exact lookup_zip h2 (by simpa using hl) (by simpa using h)
theorem lookup_zip_none : ∀ {ns : List Str} {vs : List V} {f : Str}, f ∉ ns → (ns.zip vs).lookup f = none
  | [], _, _, _ => by simp [List.lookup]
  | n :: ns, [], _, _ => by simp [List.lookup]
  | n :: ns, v :: vs, f, h => by
    have hne : (f == n) = false := beq_eq_false_iff_ne.mpr fun z => h (z ▸ List.mem_cons_self ..)
    show List.lookup f ((n, v) :: ns.zip vs) = _
    simp only [List.lookup, hne]
    exact lookup_zip_none fun z => h (List.mem_cons_of_mem _ z)
theorem putF_zip : ∀ {ns : List Str} {vs : List V} {f : Str} (y : V), f ∉ ns → ns.length = vs.length → putF f y (ns.zip vs) = (ns ++ [f]).zip (vs ++ [y])
  | [], [], _, _, _, _ => rfl
  | [], _ :: _, _, _, _, h => by simp at h
  | _ :: _, [], _, _, _, h => by simp at h
  | n :: ns, v :: vs, f, y, h, hl => by
    have hne : ¬ n = f := fun z => h (z ▸ List.mem_cons_self ..)
    show (if n = f then _ else (n, v) :: putF f y (ns.zip vs)) = _
    rw [if_neg hne, putF_zip y (fun z => h (List.mem_cons_of_mem _ z)) (by simpa using hl)]
    rfl
/-- the instance at p, of C, with these attributes -/
def Obj (H : Hp) (p C : Addr) (ns : List Str) (vs : List V) : Prop := ∃ dx, H p = some (.ins C dx (ns.zip vs))
theorem Obj.fld {K : PySem.W.Frag} {H : Hp} {p C : Addr} {ns : List Str} {vs : List V} (h : Obj H p C ns vs) (c : Cls K C) {f : Str} (n : NoAttr K C f) (hn : ns.Nodup) (hl : ns.length = vs.length) {i : Nat} {v : V} (hi : ns[i]? = some f) (hv : vs[i]? = some v) : Fld K H p f v :=
  let ⟨dx, h⟩ := h
  ⟨C, dx, _, h, c, n, (lookup_zip hn hl hi).trans hv⟩
theorem Obj.is {H : Hp} {p C : Addr} {ns : List Str} {vs : List V} (h : Obj H p C ns vs) {m : Str} (hm : m ∉ ns) : Is H p C m :=
  let ⟨dx, h⟩ := h
  ⟨dx, _, h, lookup_zip_none hm⟩
/-! ### the judgements once more, by these -/
theorem PE.imp {X : Cx} {e : Expr} {t t' : TE} (h : PE X e t) (k : ∀ σ H Q, t' σ H Q → t σ H Q) : PE X e t' := ⟨fun pins s σ H Q I q => h.run pins s σ H Q I (k σ H Q q)⟩
theorem PS.imp {X : Cx} {e : Stmt} {t t' : TS} (h : PS X e t) (k : ∀ D σ H, t' D σ H → t D σ H) : PS X e t' := ⟨fun pins s σ H D I q => h.run pins s σ H D I (k D σ H q)⟩
section
variable {X : Cx}
def tF (K : PySem.W.Frag) (ta : TE) (f : Str) : TE := fun σ H Q => ta σ H fun x H1 => ∃ a v, x = .ref a ∧ Fld K H1 a f v ∧ Q v H1
/-- o.f -/
theorem pe_f {e : Expr} {f : Str} {pos : Pos} {ta : TE} (he : PE X e ta) (hb : attributeBase e f X.env (eval e X.env) = eval e X.env := by rfl) : PE X (.Attribute e f pos) (tF X.K ta f) := by
  refine ⟨fun pins s σ H Q I h => ?_⟩
  refine attr_of hb (thn (he.run pins s σ H _ I h) fun u s1 ⟨x, H1, I1, rx, a, v, ex, ⟨C, dx, fs, ea, c, n, l⟩, q⟩ => ?_)
  subst ex
  obtain rfl : u = Value.ref a := rx
  exact getattr_ok I1 ea c n l fun u' s2 I2 ru => ⟨v, H1, I2, ru, q⟩
/-- a constant of the module -/
theorem pe_g {x : Str} {pos : Pos} {v : V} (h : ∃ u, X.mg x = some u ∧ RelV v u) (hg : Gl X x := by rfl) (hdb : (x == ("__debug__" : Str)) = false := by decide) : PE X (.Name x pos) (tC v) := by
  obtain ⟨u, h1, h2⟩ := h
  exact pe_glob hg h1 h2 hdb
/-- a def of the module -/
structure Cal (P : Program) (w : World) (K : PySem.W.Frag) (mg : Str → Option Value) (base : Heap) (CX : CXT) (k : Nat) (x : Str) (ps : List Str) (sp : Sp) : Prop where
  ex : ∃ f fd, mg x = some (.ref f) ∧ PySem.W.keepIn K (.ref f) = true ∧ FnOk P w K mg base CX k f fd ps sp ∧ Binds K fd ps []
structure DefAt (K : PySem.W.Frag) (mg : Str → Option Value) (x q : Str) (st : Stmt) : Prop where
  ex : ∃ f fd, FunD K x q (defArgs st) (defBody st) (defScope st) [] [] f fd ∧ mg x = some (.ref f)
/-- a method -/
structure Met (P : Program) (w : World) (K : PySem.W.Frag) (mg : Str → Option Value) (base : Heap) (CX : CXT) (k : Nat) (C : Addr) (m : Str) (ps : List Str) (sp : Sp) : Prop where
  cl : Cls K C
  ex : ∃ f fd, Meth K C m f ∧ FnOk P w K mg base CX k f fd ps sp ∧ Binds K fd ps []
structure MetAt (K : PySem.W.Frag) (C : Addr) (m q : Str) (st : Stmt) : Prop where
  cl : Cls K C
  ex : ∃ f fd, FunD K m q (defArgs st) (defBody st) (defScope st) [] [] f fd ∧ Meth K C m f
/-- a class, made by its __init__ -/
structure Mak (P : Program) (w : World) (K : PySem.W.Frag) (mg : Str → Option Value) (base : Heap) (CX : CXT) (k : Nat) (x : Str) (C : Addr) (ps : List Str) (sp : Sp) : Prop where
  ex : ∃ f fd, mg x = some (.ref C) ∧ Mk K C f ∧ FnOk P w K mg base CX k f fd ps sp ∧ Binds K fd ps []
structure MakAt (K : PySem.W.Frag) (mg : Str → Option Value) (x : Str) (C : Addr) (q : Str) (st : Stmt) : Prop where
  ex : ∃ f fd, FunD K "__init__" q (defArgs st) (defBody st) (defScope st) [] [] f fd ∧ Mk K C f ∧ mg x = some (.ref C)
variable {P : Program} {w : World} {K : PySem.W.Frag} {mg : Str → Option Value} {base : Heap} {CX : CXT} {k j : Nat} {x m q : Str} {C : Addr} {st : Stmt} {N ps : List Str} {sp : Sp}
/-- how a call binds -/
def BindsBy (x : Str) (st : Stmt) (ps : List Str) : Prop := ∀ (kV doc pm : Value) (an : Option Addr) (q : Str) (cdv ct : Value) (us : List Value), us.length = ps.length → bindArgs (PySem.W.fnOf x q (defArgs st) (defBody st) (defScope st) .none kV doc pm an cdv ct) ⟨us, []⟩ = pure (ps.zip us)
def BodyOk (P : Program) (w : World) (K : PySem.W.Frag) (mg : Str → Option Value) (base : Heap) (CX : CXT) (k : Nat) (q : Str) (st : Stmt) (N : List Str) (sp : Sp) : Prop :=
  ∀ (f : Addr) (cdv : Value) (A : Around) (outer : List Env) (s : Shared) (H : Hp) (vs : List V) (Q : VK) (E : XK), Room k (A.deeper (envOfC q (defScope st) s.heap.objs.size f cdv)) → sp vs H Q E →
    ∃ t, PSs (cxOf CX P w K mg base N q (defScope st) f cdv A outer s H E) (defBody st) t ∧ t { nx := fun _ H' => Q .non H', rt := Q } (start N vs) H
theorem cal_of (F : DefAt K mg x q st) (S : FnScope N ps (defScope st)) (b : BindsBy x st ps) (len : ∀ vs H Q E, sp vs H Q E → vs.length = ps.length) (body : BodyOk P w K mg base CX k q st N sp) : Cal P w K mg base CX (k + 1) x ps sp := by
  obtain ⟨f, fd, F, g⟩ := F.ex
  exact ⟨f, fd, g, F.kp, F.ok S len (fun cdv A outer s H vs Q E hr h => body f cdv A outer s H vs Q E hr h), F.bindsN fun kV doc pm an cdv ct us hl => b kV doc pm an q cdv ct us hl⟩
theorem met_of (F : MetAt K C x q st) (S : FnScope N ps (defScope st)) (b : BindsBy x st ps) (len : ∀ vs H Q E, sp vs H Q E → vs.length = ps.length) (body : BodyOk P w K mg base CX k q st N sp) : Met P w K mg base CX (k + 1) C x ps sp := by
  obtain ⟨c, f, fd, F, g⟩ := F
  exact ⟨c, f, fd, g, F.ok S len (fun cdv A outer s H vs Q E hr h => body f cdv A outer s H vs Q E hr h), F.bindsN fun kV doc pm an cdv ct us hl => b kV doc pm an q cdv ct us hl⟩
theorem mak_of (F : MakAt K mg x C q st) (S : FnScope N ps (defScope st)) (b : BindsBy "__init__" st ps) (len : ∀ vs H Q E, sp vs H Q E → vs.length = ps.length) (body : BodyOk P w K mg base CX k q st N sp) : Mak P w K mg base CX (k + 1) x C ps sp := by
  obtain ⟨f, fd, F, g, h⟩ := F.ex
  exact ⟨f, fd, h, g, F.ok S len (fun cdv A outer s H vs Q E hr h => body f cdv A outer s H vs Q E hr h), F.bindsN fun kV doc pm an cdv ct us hl => b kV doc pm an q cdv ct us hl⟩
variable {p pos apos : Pos} {e o : Expr} {es : List Expr} {t : TA} {ta : TE} {E : XK}
/-- f(e, ..), f raises nothing -/
theorem pe_k (c : Cal X.prog X.w X.K X.mg X.base CX k x ps sp) (hr : Room j X.A) (hk : k ≤ j) (hx : Passes CX X E) (ha : PA X (e :: es) t) (hg : Gl X x := by rfl)
    (hdb : (x == ("__debug__" : Str)) = false := by decide) (he : starEach (e :: es) X.env = (false, eval e X.env) :: starEach es X.env := by rfl) (hpl : (backTo pos (starEach es X.env)).any (·.1) = false := by rfl) :
    PE X (.Call (.Name x p) (e :: es) [] pos) (tCall sp [] E t) := by
  obtain ⟨f, fd, h1, h2, h3, h4⟩ := c.ex
  exact pe_call h3 (hr.mono hk) hg h1 h2 h4 .nil hx ha hdb he hpl
/-- o.m(e, ..) -/
def tM (C : Addr) (m : Str) (sp : Sp) (E : XK) (ta : TE) (t : TA) : TE := fun σ H Q => ta σ H fun x H1 => ∃ a, x = .ref a ∧ Is H1 a C m ∧ t σ H1 fun vs H2 => sp (x :: vs) H2 Q E
theorem pe_m {pl : Sem Bool} (c : Met X.prog X.w X.K X.mg X.base CX k C m ps sp) (hr : Room j X.A) (hk : k ≤ j) (hx : Passes CX X E) (ho : PE X o ta) (ha : PA X (e :: es) t)
    (hst : starEach (e :: es) X.env = (false, eval e X.env) :: starEach es X.env := by rfl) (hpl : (backTo pos (starEach es X.env)).any (·.1) = false := by rfl)
    (ht : eval (.Call (.Attribute o m apos) (e :: es) [] pos) X.env = (do
      let ov ← eval o X.env
      standAt apos.atName
      let (f, first) ← holding [ov] (getMethod ov m pl)
      callWith pos f first (backTo pos (starEach (e :: es) X.env)) (backToKw pos (keywordEach [] X.env))) := by rfl) :
    PE X (.Call (.Attribute o m apos) (e :: es) [] pos) (tM C m sp E ta t) := by
  obtain ⟨cl, f, fd, hm, F, hb⟩ := c
  refine ⟨fun pins s σ H Q I h => ?_⟩
  refine PySem.W.methodCall_KW (pl := pl) (thn (ho.run pins s σ H _ I h) fun u s1 ⟨x, H1, I1, rx, a, ex, ⟨dx, fs, ea, l⟩, q⟩ => ?_) ht
  subst ex
  obtain rfl : u = Value.ref a := rx
  refine getmeth_ok I1 ea cl hm l ?_
  refine PySem.W.callWith_K (first := [.ref a]) (h₀ := X.base) I.ok.mod.kin hm.kp (thn (ha.run pos pins s1 σ H1 _ I1 q) fun us s2 ⟨vs, H2, I2, r, q2⟩ => ⟨I2.kIn, ?_⟩) hst hpl
  exact run_fn (us := .ref a :: us) (vs := .ref a :: vs) (dvs := []) F (hr.mono hk) hb .nil hx I2 (.cons rfl r) (by rw [List.append_nil]; exact q2)
/-- o.m() -/
theorem pe_m0 {pl : Sem Bool} (c : Met X.prog X.w X.K X.mg X.base CX k C m ps sp) (hr : Room j X.A) (hk : k ≤ j) (hx : Passes CX X E) (ho : PE X o ta)
    (ht : eval (.Call (.Attribute o m apos) [] [] pos) X.env = (do
      let ov ← eval o X.env
      standAt apos.atName
      let (f, first) ← holding [ov] (getMethod ov m pl)
      callWith pos f first (backTo pos (starEach [] X.env)) (backToKw pos (keywordEach [] X.env))) := by rfl) :
    PE X (.Call (.Attribute o m apos) [] [] pos) (tM C m sp E ta tNil) := by
  obtain ⟨cl, f, fd, hm, F, hb⟩ := c
  refine ⟨fun pins s σ H Q I h => ?_⟩
  refine PySem.W.methodCall_KW (pl := pl) (thn (ho.run pins s σ H _ I h) fun u s1 ⟨x, H1, I1, rx, a, ex, ⟨dx, fs, ea, l⟩, q⟩ => ?_) ht
  subst ex
  obtain rfl : u = Value.ref a := rx
  refine getmeth_ok I1 ea cl hm l ?_
  exact PySem.W.callWith_K0 (first := [.ref a]) I1.kIn hm.kp (run_fn (us := [.ref a]) (vs := [.ref a]) (dvs := []) F (hr.mono hk) hb .nil hx I1 (.cons rfl .nil) q)
/-- C(e, ..) -/
theorem pe_mk (c : Mak X.prog X.w X.K X.mg X.base CX k x C ps sp) (hr : Room j X.A) (hk : k + 1 ≤ j) (hx : Passes CX X E) (ha : PA X (e :: es) t) (hg : Gl X x := by rfl)
    (hdb : (x == ("__debug__" : Str)) = false := by decide) (he : starEach (e :: es) X.env = (false, eval e X.env) :: starEach es X.env := by rfl) (hpl : (backTo pos (starEach es X.env)).any (·.1) = false := by rfl) :
    PE X (.Call (.Name x p) (e :: es) [] pos) (tMake C sp [] E t) := by
  obtain ⟨f, fd, h1, h2, h3, h4⟩ := c.ex
  exact pe_make h2 h3 (hr.mono hk) hg h1 h4 .nil hx ha hdb he hpl
/-- isinstance(x, T) of a built-in T -/
def rIs (K : PySem.W.Frag) : List V → Hp → VK → Prop := fun xs H Q => ∃ (x : V) (a b : String) (r : Bool), xs = [x, .ty b] ∧ TyOf K H x (.type a) ∧ kitB a b = some r ∧ Q (.bl r) H
theorem call_is : CallR X (.builtin "isinstance") (rIs X.K) := by
  rintro pins s σ H xs us Q I r ⟨x, a, b, c, e, ty, hk, q⟩
  exact call_isi pins s σ H xs us Q I r ⟨x, .ty b, .type a, .type b, c, e, .ty b, .base ty, kit_ty hk, q⟩
end
theorem walk_r {n : Nat} : Walk (Itr 0 ((n : Nat) : Int).toNat) n (fun _ => True) (fun i H x H' => H' = H ∧ x = .int ((i : Nat) : Int)) := by
  have e : ((n : Nat) : Int).toNat = n := Int.toNat_natCast n
  rw [e]
  refine ⟨fun _ _ hi _ => hi, fun _ _ => Nat.le_refl _, fun i H x H' _ _ y => ⟨y.1, ?_⟩⟩
  rw [y.2, Int.zero_add]
theorem rng_ok {n : Nat} (h : n ≤ 1000) : -(2 ^ 62) ≤ ((n : Nat) : Int) ∧ ((n : Nat) : Int) < 2 ^ 62 := by
  have h1 := Int.natCast_nonneg n
  have h2 : ((n : Nat) : Int) ≤ 1000 := Int.ofNat_le.mpr h
  generalize ((n : Nat) : Int) = z at *
  omega
/-! ### an __init__: attributes laid one by one -/
section
variable {X : Cx} {o value : Expr} {f : Str} {pos pos' : Pos} {ta tv : TE}
def sIni (K : PySem.W.Frag) (ta tv : TE) (f : Str) : TS := fun D σ H => tv σ H fun y H1 => ta σ H1 fun x H2 => ∃ a C dx ns vs, x = .ref a ∧ H2 a = some (.ins C dx (List.zip ns vs)) ∧ ns.length = vs.length ∧ f ∉ ns ∧ ns.length < 100 ∧ Cls K C ∧ NoAttr K C f ∧
  ∀ H3 : Hp, H3 a = some (.ins C dx (List.zip (ns ++ [f]) (vs ++ [y]))) → off [a] H3 = off [a] H2 → D.nx σ H3
theorem off_upd0 {q : Addr} {H : Hp} {u : HO} : off [q] (upd H q u) = off [q] H := by
  funext b
  unfold off
  by_cases c : b ∈ [q]
  · rw [if_pos c, if_pos c]
  · rw [if_neg c, if_neg c, upd_ne (by simpa using c)]
theorem ps_ini (ha : PE X o ta) (hv : PE X value tv) (hs : swapsWith value (some (.Attribute o f pos')) pos.line X.env = pure false) : PS X (.Assign [.Attribute o f pos'] value pos) (sIni X.K ta tv f) := by
  refine ⟨fun pins s σ H D I h => ?_⟩
  refine plainObj_wpAny_Assign_Attribute (thn (hv.run pins s σ H _ I h) fun u s1 ⟨y, H1, I1, ry, q⟩ => thn (ha.run pins s1 σ H1 _ I1 q) fun ov s2 ⟨x, H2, I2, rx, a, C, dx, ns, vs, ex, ea, hl, hf, hz, c, n, q2⟩ => ?_) hs
  subst ex
  obtain rfl : ov = Value.ref a := rx
  refine setattr_ok I2 ea c n (by rw [List.length_zip]; omega) ry fun s3 I3 => ⟨σ, _, I3, q2 _ ?_ off_upd0⟩
  rw [upd_same, putF_zip y hf hl]
def gIni (K : PySem.W.Frag) (ta : TE) (f : Str) : TG := fun y σ H Q => ta σ H fun x H2 => ∃ a C dx ns vs, x = .ref a ∧ H2 a = some (.ins C dx (List.zip ns vs)) ∧ ns.length = vs.length ∧ f ∉ ns ∧ ns.length < 100 ∧ Cls K C ∧ NoAttr K C f ∧
  ∀ H3 : Hp, H3 a = some (.ins C dx (List.zip (ns ++ [f]) (vs ++ [y]))) → off [a] H3 = off [a] H2 → Q σ H3
theorem pg_ini (ha : PE X o ta)
    (hr : ∀ v, assign (.Attribute o f pos) X.env v = (do
      let ov ← holding [v] (eval o X.env)
      standAt pos.atName
      holding [v, ov] (setAttr ov f v)
      release [v, ov] []) := by intro _; rfl) : PG X (.Attribute o f pos) (gIni X.K ta f) := by
  refine ⟨fun pins s σ H v u Q I r h => ?_⟩
  rw [hr]
  refine wpAny_bind (wpAny_holding (thn (ha.run pins s σ H _ I h) fun ov s1 ⟨x, H1, I1, rx, a, C, dx, ns, vs, ex, ea, hl, hf, hz, c, n, q2⟩ => ?_))
  subst ex
  obtain rfl : ov = Value.ref a := rx
  refine wpAny_bind (wpAny_standAt (wpAny_bind (wpAny_holding (setattr_ok I1 ea c n (by rw [List.length_zip]; omega) r fun s3 I3 => ?_))))
  exact wpAny_release ⟨σ, _, I3, q2 _ (by rw [upd_same, putF_zip v hf hl]) off_upd0⟩
end
/-! ### comprehensions -/
theorem off_upd {D : Addr} {H : Hp} {o : HO} : off [D] (upd H D o) = off [D] H := by
  funext b
  unfold off
  by_cases c : b ∈ [D]
  · rw [if_pos c, if_pos c]
  · rw [if_neg c, if_neg c, upd_ne (by simpa using c)]
theorem off_none {D : Addr} {H : Hp} (h : H D = none) : off [D] H = H := by
  funext b
  unfold off
  by_cases c : b ∈ [D]
  · have e : b = D := by simpa using c
    rw [if_pos c, e, h]
  · rw [if_neg c]
/-- what holds of the list made so far: P by the turn, the list, the heap without the list -/
def LcS (D : Addr) (P : Nat → List V → Hp → Prop) (i : Nat) (H : Hp) : Prop := ∃ acc, acc.length ≤ i ∧ H D = some (.lst acc) ∧ P i acc (off [D] H)
theorem LcS.add {D : Addr} {P : Nat → List V → Hp → Prop} {i : Nat} {H : Hp} {acc : List V} {y : V} (h : H D = some (.lst acc)) (hl : acc.length ≤ i) (hi : i < sizeLine) (p : P (i + 1) (acc ++ [y]) (off [D] H)) :
    ∃ acc, H D = some (.lst acc) ∧ acc.length < sizeLine ∧ LcS D P (i + 1) (upd H D (.lst (acc ++ [y]))) :=
  ⟨acc, h, by omega, acc ++ [y], by simp; omega, upd_same, by rw [off_upd]; exact p⟩
theorem LcS.skip {D : Addr} {P : Nat → List V → Hp → Prop} {i : Nat} {H : Hp} {acc : List V} (h : H D = some (.lst acc)) (hl : acc.length ≤ i) (p : P (i + 1) acc (off [D] H)) : LcS D P (i + 1) H := ⟨acc, by omega, h, p⟩
theorem lc_by {J : It} {n : Nat} {G : Hp → Prop} {Y : Nat → Hp → V → Hp → Prop} (wk : Walk J n G Y) {g : TG} {tt : TT} {te : TE} {vs : List Nat} {σ : L2.St} {H1 : Hp} {D : Addr} {Qd : Hp → Prop} (P : Nat → List V → Hp → Prop) (hD : H1 D = none)
    (h0 : P 0 [] H1) (hG : ∀ i acc H, P i acc (off [D] H) → G H)
    (hs : ∀ i acc x H H', i < n → acc.length ≤ i → P i acc (off [D] H) → H D = some (.lst acc) → Y i H x H' → g x (wipe σ vs) H' fun σ2 H2 => wipe σ2 vs = wipe σ vs ∧ tt σ2 H2 fun b H3 =>
      if b = true then te σ2 H3 fun y H4 => ∃ acc, H4 D = some (.lst acc) ∧ acc.length < sizeLine ∧ LcS D P (i + 1) (upd H4 D (.lst (acc ++ [y]))) else LcS D P (i + 1) H3)
    (hd : ∀ acc H, H D = some (.lst acc) → P n acc (off [D] H) → Qd H) :
    ∃ W : Nat → Nat → Hp → Prop, (∃ m, W 0 m (upd H1 D (.lst []))) ∧ ∀ i m H, W i m H →
      (J.stop i H ∧ Qd H) ∨ (J.go i H ∧ ∃ Nx : Hp → Prop, (∀ H', Nx H' → ∃ m', m' < m ∧ W (i + 1) m' H') ∧ ∀ x H', J.yld i H x H' → g x (wipe σ vs) H' fun σ2 H2 => wipe σ2 vs = wipe σ vs ∧ tt σ2 H2 fun b H3 =>
        if b = true then te σ2 H3 fun y H4 => ∃ acc, H4 D = some (.lst acc) ∧ acc.length < sizeLine ∧ Nx (upd H4 D (.lst (acc ++ [y]))) else Nx H3) := by
  refine lc_it wk (LcS D P) ⟨[], Nat.le_refl _, upd_same, ?_⟩ (fun i H _ ⟨acc, _, _, p⟩ => hG i acc H p) ?_ ?_
  · rw [off_upd, off_none hD]; exact h0
  · rintro i x H H' hi ⟨acc, hl, ha, p⟩ hy
    exact hs i acc x H H' hi hl p ha hy
  · rintro H ⟨acc, _, ha, p⟩
    exact hd acc H ha p
/-! ### the facts of the module -/
structure Fx (K : PySem.W.Frag) (mg : Str → Option Value) where
  isinstance : mg "isinstance" = none
  int : mg "int" = none
  bool : mg "bool" = none
  tuple : mg "tuple" = none
  str : mg "str" = none
  list : mg "list" = none
  len : mg "len" = none
  range : mg "range" = none
  enumerate : mg "enumerate" = none
  zip : mg "zip" = none
  min : mg "min" = none
  max : mg "max" = none
  sum : mg "sum" = none
  any : mg "any" = none
  all : mg "all" = none
  sorted : mg "sorted" = none
  aP : Addr
  pow : mg "POWERS" = some (.ref aP)
  powT : ∀ H, SqT K H aP ([1, 2, 4, 8, 16, 32, 64, 128, 256].map V.int)
  aD : Addr
  dut : mg "DUTIES" = some (.ref aD)
  dutT : ∀ H, SqT K H aD ([("n" : Str), "a", "m"].map V.str)
  aS : Addr
  sgn : mg "SIGNS" = some (.ref aS)
  sgnT : ∀ H, SqT K H aS ([("1" : Str), "0", "."].map V.str)
  mm : ∃ u, mg "MOST_MEMBERS" = some u ∧ RelV (.int 8) u
  mp : ∃ u, mg "MOST_PRICE" = some u ∧ RelV (.int 1000) u
  cN : Addr
  gN : mg "NotKept" = some (.ref cN)
  xN : PySem.W.excIn K cN [.type "ValueError", .type "Exception", .type "BaseException", .type "object"] "ValueError.__new__" = true
  kN : PySem.W.keepIn K (.ref cN) = true
  bN : PySem.W.subIn K (.ref cN) (.type "BaseException") = some true
  tN : PySem.W.typeIn K (.ref cN) = some (.type "type")
  eN : PySem.W.exmOne K (.ref cN) (.ref cN) = some true
  cT : Addr
  gT : mg "Torn" = some (.ref cT)
  xT : PySem.W.excIn K cT [.type "ValueError", .type "Exception", .type "BaseException", .type "object"] "ValueError.__new__" = true
  kT : PySem.W.keepIn K (.ref cT) = true
  bT : PySem.W.subIn K (.ref cT) (.type "BaseException") = some true
  tT : PySem.W.typeIn K (.ref cT) = some (.type "type")
  eT : PySem.W.exmOne K (.ref cT) (.ref cT) = some true
  -- the classes
  cPi : Addr
  clPi : Cls K cPi
  naPi : ∀ f ∈ [("book" : Str), "scale", "lows", "highs", "ground", "size", "lines", "picks", "torn", "net"], NoAttr K cPi f
  cCo : Addr
  clCo : Cls K cCo
  naCo : ∀ f ∈ [("heads" : Str), "room", "price", "lows", "arcs", "over", "lifts"], NoAttr K cCo f
  cBi : Addr
  clBi : Cls K cBi
  naBi : ∀ f ∈ [("book" : Str), "prices", "ground", "costs", "picks", "even", "lows", "highs"], NoAttr K cBi f
  cBo : Addr
  clBo : Cls K cBo
  naBo : ∀ f ∈ [("duties" : Str), "counts", "marks", "many", "kept_facts"], NoAttr K cBo f
end K31

set_option autoImplicit true
set_option Elab.async false
set_option autoImplicit false
set_option linter.all false
set_option maxRecDepth 100000
set_option maxHeartbeats 4000000
namespace K31
open PySem PySem.Spec PyProof.Rows L2
/-! checks, clubs -/
theorem dec_int (a b : Int) : decide (V.int a = V.int b) = decide (a = b) := by
  by_cases h : a = b
  · subst h; simp
  · rw [decide_eq_false h, decide_eq_false (fun z => h (V.int.inj z))]
theorem dec_bl (a b : Bool) : decide (V.bl a = V.bl b) = decide (a = b) := by cases a <;> cases b <;> rfl
theorem dec_str (a b : Str) : decide (V.str a = V.str b) = decide (a = b) := by
  by_cases h : a = b
  · subst h; simp
  · rw [decide_eq_false h, decide_eq_false (fun z => h (V.str.inj z))]
theorem pow_at {j : Nat} (h : j ≤ 8) : atI ([1, 2, 4, 8, 16, 32, 64, 128, 256].map V.int) ((j : Nat) : Int) = some (.int ((2 ^ j : Nat) : Int)) := by
  refine atI_nat ?_
  have : j = 0 ∨ j = 1 ∨ j = 2 ∨ j = 3 ∨ j = 4 ∨ j = 5 ∨ j = 6 ∨ j = 7 ∨ j = 8 := by omega
  rcases this with rfl | rfl | rfl | rfl | rfl | rfl | rfl | rfl | rfl <;> rfl
theorem pow_div {j : Nat} (h : j ≤ 8) (i : Int) : CDivW i ((2 ^ j : Nat) : Int) := by
  have : j = 0 ∨ j = 1 ∨ j = 2 ∨ j = 3 ∨ j = 4 ∨ j = 5 ∨ j = 6 ∨ j = 7 ∨ j = 8 := by omega
  rcases this with rfl | rfl | rfl | rfl | rfl | rfl | rfl | rfl | rfl <;> exact ⟨by decide, by decide +kernel⟩
section
variable {P : Program} {w : World} {K : PySem.W.Frag} {mg : Str → Option Value} {base : Heap}
def spInt : Sp := fun vs H Q _ => ∃ i : Int, vs = [.int i] ∧ Q (.bl true) H
theorem sc_is_integer : FnScope ["thing"] ["thing"] (defScope s_is_integer) := ⟨rfl, rfl, rfl, by decide +kernel, rfl, by decide +kernel, by decide +kernel⟩
theorem c_is_integer (T : Fx K mg) (F : DefAt K mg "is_integer" "is_integer" s_is_integer) : Cal P w K mg base CX0 1 "is_integer" ["thing"] spInt := by
  refine cal_of F sc_is_integer (fun _ _ _ _ _ _ _ us hl => match us, hl with | [_], _ => rfl) (fun vs H Q E h => ?_) (fun f cdv A outer s H vs Q E hr h => ?_)
  · obtain ⟨i, rfl, k⟩ := h
    rfl
  obtain ⟨i, rfl, k⟩ := h
  have hu := hu_of hr
  have nd := sc_is_integer.nd
  refine ⟨_, (pss_one (ps_ret (pe_and (pe_callB call_is rfl T.isinstance boot_isinstance (pa_cons (pv 0) (pa_cons (pe_bltn (v := .ty "int") rfl T.int boot_int rfl) pa_nil))) (pe_one (pe_not (pe_callB call_is rfl T.isinstance boot_isinstance (pa_cons (pv 0) (pa_cons (pe_bltn (v := .ty "bool") rfl T.bool boot_bool rfl) pa_nil)))))))), ?_⟩
  refine ⟨_, rfl, _, "int", "int", true, rfl, .int _, by decide +kernel, _, rfl, ?_⟩
  refine iteT ⟨_, rfl, _, "int", "bool", false, rfl, .int _, by decide +kernel, _, rfl, ?_⟩
  exact k
def spWithin : Sp := fun vs H Q _ => ∃ i lo hi : Int, vs = [.int i, .int lo, .int hi] ∧ Q (.bl (decide (lo ≤ i) && decide (i ≤ hi))) H
theorem sc_is_within : FnScope ["thing", "least", "most"] ["thing", "least", "most"] (defScope s_is_within) := ⟨rfl, rfl, rfl, by decide +kernel, rfl, by decide +kernel, by decide +kernel⟩
theorem c_is_within (T : Fx K mg) (F : DefAt K mg "is_within" "is_within" s_is_within) (c_is_integer : Cal P w K mg base CX0 1 "is_integer" ["thing"] (spInt)) : Cal P w K mg base CX0 2 "is_within" ["thing", "least", "most"] spWithin := by
  refine cal_of F sc_is_within (fun _ _ _ _ _ _ _ us hl => match us, hl with | [_, _, _], _ => rfl) (fun vs H Q E h => ?_) (fun f cdv A outer s H vs Q E hr h => ?_)
  · obtain ⟨i, lo, hi, rfl, k⟩ := h
    rfl
  obtain ⟨i, lo, hi, rfl, k⟩ := h
  have hu := hu_of hr
  have nd := sc_is_within.nd
  refine ⟨_, (pss_one (ps_ret (pe_and (pe_k c_is_integer hr (by decide) pass0 (pa_cons (pv 0) pa_nil)) (pe_one (pe_chain op_le op_le (pv 1) (pv 0) (pv 2)))))), ?_⟩
  refine ⟨_, rfl, _, rfl, _, rfl, iteT ⟨_, rfl, _, rfl, _, _, rfl, rfl, _, rfl, ite2 (fun c => ⟨_, rfl, _, _, rfl, rfl, ?_⟩) (fun c => ?_)⟩⟩
  · rw [c, Bool.true_and] at k; exact k
  · rw [Bool.eq_false_iff.mpr c, Bool.false_and] at k; exact k
/-- a tuple's length is asked -/
def spPair : Sp := fun vs H Q _ => ∃ (a : Addr) (xs : List V), vs = [.ref a] ∧ H a = some (.tup xs) ∧ Q (.bl (decide ((xs.length : Int) = 2))) H
theorem sc_is_pair : FnScope ["thing"] ["thing"] (defScope s_is_pair) := ⟨rfl, rfl, rfl, by decide +kernel, rfl, by decide +kernel, by decide +kernel⟩
theorem c_is_pair (T : Fx K mg) (F : DefAt K mg "is_pair" "is_pair" s_is_pair) : Cal P w K mg base CX0 1 "is_pair" ["thing"] spPair := by
  refine cal_of F sc_is_pair (fun _ _ _ _ _ _ _ us hl => match us, hl with | [_], _ => rfl) (fun vs H Q E h => ?_) (fun f cdv A outer s H vs Q E hr h => ?_)
  · obtain ⟨a, xs, rfl, ha, k⟩ := h
    rfl
  obtain ⟨a, xs, rfl, ha, k⟩ := h
  have hu := hu_of hr
  have nd := sc_is_pair.nd
  refine ⟨_, (pss_one (ps_ret (pe_and (pe_callB call_is rfl T.isinstance boot_isinstance (pa_cons (pv 0) (pa_cons (pe_bltn (v := .ty "tuple") rfl T.tuple boot_tuple rfl) pa_nil))) (pe_one (pe_cmpR op_eq (pe_callB call_len_seq rfl T.len boot_len (pa_cons (pv 0) pa_nil)) pe_int (nomark _)))))), ?_⟩
  refine ⟨_, rfl, _, "tuple", "tuple", true, rfl, .tup ha, by decide +kernel, _, rfl, iteT ⟨_, rfl, _, _, rfl, .inr (SqT.of ha), rfl, ?_⟩⟩
  rw [dec_int]; exact k
def spTable : Sp := fun vs H Q _ => ∃ (a : Addr) (xs : List V) (n : Int), vs = [.ref a, .int n] ∧ H a = some (.tup xs) ∧ Q (.bl (decide ((xs.length : Int) = n))) H
theorem sc_is_table : FnScope ["thing", "size"] ["thing", "size"] (defScope s_is_table) := ⟨rfl, rfl, rfl, by decide +kernel, rfl, by decide +kernel, by decide +kernel⟩
theorem c_is_table (T : Fx K mg) (F : DefAt K mg "is_table" "is_table" s_is_table) : Cal P w K mg base CX0 1 "is_table" ["thing", "size"] spTable := by
  refine cal_of F sc_is_table (fun _ _ _ _ _ _ _ us hl => match us, hl with | [_, _], _ => rfl) (fun vs H Q E h => ?_) (fun f cdv A outer s H vs Q E hr h => ?_)
  · obtain ⟨a, xs, n, rfl, ha, k⟩ := h
    rfl
  obtain ⟨a, xs, n, rfl, ha, k⟩ := h
  have hu := hu_of hr
  have nd := sc_is_table.nd
  refine ⟨_, (pss_one (ps_ret (pe_and (pe_callB call_is rfl T.isinstance boot_isinstance (pa_cons (pv 0) (pa_cons (pe_bltn (v := .ty "tuple") rfl T.tuple boot_tuple rfl) pa_nil))) (pe_one (pe_cmpR op_eq (pe_callB call_len_seq rfl T.len boot_len (pa_cons (pv 0) pa_nil)) (pv 1) (nomark _)))))), ?_⟩
  refine ⟨_, rfl, _, "tuple", "tuple", true, rfl, .tup ha, by decide +kernel, _, rfl, iteT ⟨_, rfl, _, _, rfl, .inr (SqT.of ha), _, rfl, rfl, ?_⟩⟩
  rw [dec_int]; exact k
def spMany : Sp := fun vs H Q _ => ∃ i : Int, vs = [.int i] ∧ Q (.bl (decide (1 ≤ i) && decide (i ≤ 8))) H
theorem sc_is_many : FnScope ["thing"] ["thing"] (defScope s_is_many) := ⟨rfl, rfl, rfl, by decide +kernel, rfl, by decide +kernel, by decide +kernel⟩
theorem c_is_many (T : Fx K mg) (F : DefAt K mg "is_many" "is_many" s_is_many) (c_is_within : Cal P w K mg base CX0 2 "is_within" ["thing", "least", "most"] (spWithin)) : Cal P w K mg base CX0 3 "is_many" ["thing"] spMany := by
  refine cal_of F sc_is_many (fun _ _ _ _ _ _ _ us hl => match us, hl with | [_], _ => rfl) (fun vs H Q E h => ?_) (fun f cdv A outer s H vs Q E hr h => ?_)
  · obtain ⟨i, rfl, k⟩ := h
    rfl
  obtain ⟨i, rfl, k⟩ := h
  have hu := hu_of hr
  have nd := sc_is_many.nd
  refine ⟨_, (pss_one (ps_ret (pe_k c_is_within hr (by decide) pass0 (pa_cons (pv 0) (pa_cons pe_int (pa_cons (pe_g T.mm) pa_nil)))))), ?_⟩
  exact ⟨_, rfl, _, _, _, rfl, k⟩
def spYes : Sp := fun vs H Q _ => ∃ many r m : Nat, vs = [.int many, .int r, .int m] ∧ m < many ∧ many ≤ 8 ∧ Q (.bl (yes many r m)) H
theorem yes_int (j r : Nat) : decide (V.int (((r : Nat) : Int) / ((2 ^ j : Nat) : Int) % 2) = V.int 1) = decide (r / 2 ^ j % 2 = 1) := by
  rw [dec_int]
  have e : ((r : Nat) : Int) / ((2 ^ j : Nat) : Int) % 2 = ((r / 2 ^ j % 2 : Nat) : Int) := by
    rw [Int.natCast_emod, Int.natCast_ediv]; rfl
  rw [e]
  by_cases h : r / 2 ^ j % 2 = 1
  · rw [h]; rfl
  · rw [decide_eq_false h, decide_eq_false (by omega)]
theorem sub_cast {many m : Nat} (h : m < many) : ((many : Int) - 1 - (m : Int)) = ((many - 1 - m : Nat) : Int) := by omega
theorem sc_has_yes : FnScope ["many", "number", "member"] ["many", "number", "member"] (defScope s_has_yes) := ⟨rfl, rfl, rfl, by decide +kernel, rfl, by decide +kernel, by decide +kernel⟩
theorem c_has_yes (T : Fx K mg) (F : DefAt K mg "has_yes" "has_yes" s_has_yes) : Cal P w K mg base CX0 1 "has_yes" ["many", "number", "member"] spYes := by
  refine cal_of F sc_has_yes (fun _ _ _ _ _ _ _ us hl => match us, hl with | [_, _, _], _ => rfl) (fun vs H Q E h => ?_) (fun f cdv A outer s H vs Q E hr h => ?_)
  · obtain ⟨many, r, m, rfl, hm, h8, k⟩ := h
    rfl
  obtain ⟨many, r, m, rfl, hm, h8, k⟩ := h
  have hu := hu_of hr
  have nd := sc_has_yes.nd
  refine ⟨_, (pss_one (ps_ret (pe_cmpR op_eq (pe_op op_mod (pe_op op_fdivW (pv 1) (pe_ix ix_tup (pe_glob (v := .ref T.aP) rfl T.pow rfl) (pe_op op_sub (pe_op op_sub (pv 0) pe_int) (pv 2)) (fun _ _ => rfl))) pe_int) pe_int (nomark _)))), ?_⟩
  have hj : many - 1 - m ≤ 8 := by omega
  refine ⟨_, rfl, _, rfl, _, _, rfl, rfl, _, rfl, _, _, rfl, rfl, _, _, _, _, rfl, rfl, T.powT _, (by rw [sub_cast hm]; exact pow_at hj), _, _, rfl, rfl, pow_div hj _, _, _, rfl, rfl, (by show (0 : Int) < 2; decide), rfl, ?_⟩
  rw [yes_int]; exact k
def spTurned : Sp := fun vs H Q _ => ∃ many r m : Nat, vs = [.int many, .int r, .int m] ∧ m < many ∧ many ≤ 8 ∧ Q (.int (turnN many r m)) H
theorem le_of_yes {many r m : Nat} (h : yes many r m = true) : 2 ^ (many - 1 - m) ≤ r := by
  have h1 := of_decide_eq_true h
  rcases Nat.lt_or_ge r (2 ^ (many - 1 - m)) with z | z
  · rw [Nat.div_eq_of_lt z] at h1; cases h1
  · exact z
theorem sc_turned : FnScope ["many", "number", "member", "step"] ["many", "number", "member"] (defScope s_turned) := ⟨rfl, rfl, rfl, by decide +kernel, rfl, by decide +kernel, by decide +kernel⟩
theorem c_turned (T : Fx K mg) (F : DefAt K mg "turned" "turned" s_turned) (c_has_yes : Cal P w K mg base CX0 1 "has_yes" ["many", "number", "member"] (spYes)) : Cal P w K mg base CX0 2 "turned" ["many", "number", "member"] spTurned := by
  refine cal_of F sc_turned (fun _ _ _ _ _ _ _ us hl => match us, hl with | [_, _, _], _ => rfl) (fun vs H Q E h => ?_) (fun f cdv A outer s H vs Q E hr h => ?_)
  · obtain ⟨many, r, m, rfl, hm, h8, k⟩ := h
    rfl
  obtain ⟨many, r, m, rfl, hm, h8, k⟩ := h
  have hu := hu_of hr
  have nd := sc_turned.nd
  refine ⟨_, (pss_cons (ps_set (i := 3) nd rfl (Or.inl rfl) (pe_ix ix_tup (pe_glob (v := .ref T.aP) rfl T.pow rfl) (pe_op op_sub (pe_op op_sub (pv 0) pe_int) (pv 2)) (fun _ _ => rfl)))
  (pss_one (ps_ret (pe_ifExp (pt_val (pe_k c_has_yes hr (by decide) pass0 (pa_cons (pv 0) (pa_cons (pv 1) (pa_cons (pv 2) pa_nil))))) (pe_op op_sub (pv 1) (pv 3)) (pe_op op_add (pv 1) (pv 3)))))), ?_⟩
  have hj : many - 1 - m ≤ 8 := by omega
  refine ⟨_, rfl, _, _, rfl, rfl, _, rfl, _, _, rfl, rfl, _, _, _, _, rfl, rfl, T.powT _, (by rw [sub_cast hm]; exact pow_at hj), ?_⟩
  refine ⟨_, rfl, _, rfl, _, rfl, many, r, m, rfl, hm, h8, _, rfl, ite2 (fun c => ⟨_, rfl, _, rfl, _, _, rfl, rfl, ?_⟩) (fun c => ⟨_, rfl, _, rfl, _, _, rfl, rfl, ?_⟩)⟩
  · unfold turnN at k
    rw [if_pos c, Int.natCast_sub (le_of_yes c)] at k
    exact k
  · unfold turnN at k
    rw [if_neg c, Int.natCast_add] at k
    exact k
end
end K31

set_option autoImplicit true
set_option Elab.async false
set_option autoImplicit false
set_option linter.all false
set_option maxRecDepth 100000
set_option maxHeartbeats 4000000
namespace K31
open PySem PySem.Spec PyProof.Rows L2
/-! the book in the heap; pipes: is_even, mark_bounds, own_ties -/
def duS (l : List Du) : Str := ⟨(l.map Du.c).toArray⟩
def sgS (l : List Sg) : Str := ⟨(l.map Sg.c).toArray⟩
def ctD (ct : List (Int × Int)) : D := .t (ct.map fun p => .t [.i p.1, .i p.2])
def mkD (mks : List (List Sg)) : D := .t (mks.map fun l => .s (sgS l))
structure BookAt (K : PySem.W.Frag) (H : Hp) (b : Addr) (B : Bk) : Prop where
  duties : Fld K H b "duties" (.str (duS B.du))
  many : Fld K H b "many" (.int B.many)
  counts : ∃ v, Fld K H b "counts" v ∧ Td H (ctD B.ct) v
  marks : ∃ v, Fld K H b "marks" v ∧ Td H (mkD B.mks) v
theorem BookAt.mono {K : PySem.W.Frag} {H H' : Hp} {b : Addr} {B : Bk} (h : BookAt K H b B) (k : Same H H') : BookAt K H' b B :=
  ⟨h.duties.mono k, h.many.mono k, let ⟨v, a, c⟩ := h.counts; ⟨v, a.mono k, c.mono k⟩, let ⟨v, a, c⟩ := h.marks; ⟨v, a.mono k, c.mono k⟩⟩
theorem du_at {l : List Du} {i : Nat} (h : i < l.length) : (duS l).cps[i]? = some (l.getD i .m).c := by
  show (l.map Du.c).toArray[i]? = _
  rw [List.getElem?_toArray, List.getElem?_map, some_of_lt .m h]; rfl
theorem sg_at {l : List Sg} {i : Nat} (h : i < l.length) : (sgS l).cps[i]? = some (l.getD i .dot).c := by
  show (l.map Sg.c).toArray[i]? = _
  rw [List.getElem?_toArray, List.getElem?_map, some_of_lt .dot h]; rfl
theorem du_size (l : List Du) : (duS l).cps.size = l.length := by simp [duS]
theorem sg_size (l : List Sg) : (sgS l).cps.size = l.length := by simp [sgS]
theorem dec_n (d : Du) : decide (V.str ⟨#[d.c]⟩ = V.str "n") = decide (d = .n) := by cases d <;> decide +kernel
theorem dec_m (d : Du) : decide (V.str ⟨#[d.c]⟩ = V.str "m") = decide (d = .m) := by cases d <;> decide +kernel
theorem dec_a (d : Du) : decide (V.str ⟨#[d.c]⟩ = V.str "a") = decide (d = .a) := by cases d <;> decide +kernel
theorem Bk.Ok.m8 {B : Bk} (O : B.Ok) : B.many ≤ 8 := by have := O.m4; omega
theorem two_le {B : Bk} (O : B.Ok) : 2 ^ B.many ≤ 16 := by
  have := O.m4
  exact Nat.le_trans (Nat.pow_le_pow_right (by decide) this) (by decide)
theorem dec_even (n : Nat) : decide (V.int (((n : Nat) : Int) % 2) = V.int 0) = decide (n % 2 = 0) := by
  by_cases c : n % 2 = 0
  · rw [decide_eq_true c, decide_eq_true (by rw [show ((n : Nat) : Int) % 2 = 0 by omega])]
  · rw [decide_eq_false c, decide_eq_false (fun z => c (by have := V.int.inj z; omega))]
section
variable {P : Program} {w : World} {K : PySem.W.Frag} {mg : Str → Option Value} {base : Heap}
def spEven (K : PySem.W.Frag) : Sp := fun vs H Q _ => ∃ (b : Addr) (B : Bk) (r : Nat), vs = [.ref b, .int r] ∧ BookAt K H b B ∧ B.Ok ∧ ∀ H', Same H H' → Q (.bl (ev B r)) H'
theorem sc_is_even : FnScope ["book", "row", "many", "member", "duty"] ["book", "row"] (defScope s_is_even) := ⟨rfl, rfl, rfl, by decide +kernel, rfl, by decide +kernel, by decide +kernel⟩
theorem c_is_even (T : Fx K mg) (F : DefAt K mg "is_even" "is_even" s_is_even) (c_has_yes : Cal P w K mg base CX0 1 "has_yes" ["many", "number", "member"] (spYes)) : Cal P w K mg base CX0 2 "is_even" ["book", "row"] (spEven K) := by
  refine cal_of F sc_is_even (fun _ _ _ _ _ _ _ us hl => match us, hl with | [_, _], _ => rfl) (fun vs H Q E h => ?_) (fun f cdv A outer s H vs Q E hr h => ?_)
  · obtain ⟨b, B, r, rfl, hB, O, k⟩ := h
    rfl
  obtain ⟨b, B, r, rfl, hB, O, k⟩ := h
  have hu := hu_of hr
  have nd := sc_is_even.nd
  refine ⟨_, (pss_cons (ps_set (i := 2) nd rfl (Or.inl rfl) pe_int)
  (pss_cons (ps_for (passes_of rfl) rfl (pi_enumS rfl T.enumerate (pa_cons (pe_f (pv 0)) pa_nil)) (pg_tup rfl (pgs_cons (pg_name (i := 3) nd rfl (Or.inl rfl)) (pgs_cons (pg_name (i := 4) nd rfl (Or.inl rfl)) pgs_nil))) (pss_one (ps_if (PW.pt (pw_and (pt_cmpR op_eq (pv 4) pe_str (nomark _)) (pw_and1 (pt_val (pe_k c_has_yes hr (by decide) pass0 (pa_cons (pe_f (pv 0)) (pa_cons (pv 1) (pa_cons (pv 3) pa_nil)))))))) (pss_one (ps_aug (i := 2) nd rfl (Or.inl rfl) pe_int ip_add)) pss_nil)))
  (pss_one (ps_ret (pe_cmpR op_eq (pe_op op_mod (pv 2) pe_int) pe_int (nomark _)))))), ?_⟩
  refine ⟨_, rfl, b, _, rfl, hB.duties, _, rfl, for_it walk_enumS (fun i σ H' => ∃ x y, σ = [some (.ref b), some (.int r), some (.int (evN B r i : Nat)), x, y] ∧ Same H H') ⟨none, none, rfl, Same.refl _⟩ (fun _ _ _ _ _ => trivial) ?_ ?_⟩
  · rintro i v σ H1 H2 hi ⟨x, y, rfl, s1⟩ ⟨U, x', y', rfl, hU, rfl, hx, hy⟩
    rw [du_size] at hi
    obtain rfl := Option.some.inj hx
    have hy : Option.map (fun c => V.str ⟨#[c]⟩) (duS B.du).cps[i]? = some y' := hy
    rw [du_at hi] at hy
    obtain rfl := Option.some.inj hy
    have s2 : Same H (upd H1 U (.tup [.int (i : Nat), .str ⟨#[(B.du.getD i .m).c]⟩])) := s1.trans (same_new hU)
    have hB2 := hB.mono s2
    have key : ∀ n : Nat, n = evN B r (i + 1) → ∃ x y, [some (V.ref b), some (V.int r), some (V.int (n : Nat)), some (V.int (i : Nat)), some (V.str ⟨#[(B.du.getD i .m).c]⟩)] = [some (.ref b), some (.int r), some (.int (evN B r (i + 1) : Nat)), x, y] ∧ Same H (upd H1 U (.tup [.int (i : Nat), .str ⟨#[(B.du.getD i .m).c]⟩])) := fun n e => by subst e; exact ⟨_, _, rfl, s2⟩
    refine ⟨U, _, rfl, SqT.of upd_same, rfl, _, _, rfl, _, _, rfl, rfl, _, rfl, rfl, _, rfl, ite2 (fun c => ⟨_, rfl, b, _, rfl, hB2.many, _, rfl, _, rfl, B.many, r, i, rfl, by rw [← O.ld]; exact hi, O.m8, _, rfl, ite2 (fun c2 => ⟨_, rfl, _, _, rfl, rfl, ?_⟩) (fun c2 => ?_)⟩) (fun c => ?_)⟩
    · rw [dec_n] at c
      refine key (evN B r i + 1) ?_
      show _ = evN B r i + if B.d i = .n ∧ yes B.many r i = true then 1 else 0
      rw [if_pos ⟨of_decide_eq_true c, c2⟩]
    · refine key (evN B r i) ?_
      show _ = evN B r i + if B.d i = .n ∧ yes B.many r i = true then 1 else 0
      rw [if_neg (fun z => c2 z.2)]; rfl
    · rw [dec_n] at c
      refine key (evN B r i) ?_
      show _ = evN B r i + if B.d i = .n ∧ yes B.many r i = true then 1 else 0
      rw [if_neg (fun z => c (decide_eq_true z.1))]; rfl
  · rintro σ H1 ⟨x, y, rfl, s1⟩
    refine ⟨_, rfl, _, _, rfl, rfl, (by show (0 : Int) < 2; decide), rfl, ?_⟩
    rw [du_size, O.ld, dec_even]
    exact k H1 s1
def loD (B : Bk) : D := .l (B.mks.map fun l => .l (l.map fun s => .i (bnd s).1))
def hiD (B : Bk) : D := .l (B.mks.map fun l => .l (l.map fun s => .i (bnd s).2))
def loK : List (Key × V) := mergeK [] [(.inr "1", .int 1), (.inr "0", .int 0), (.inr ".", .int 0)]
def hiK : List (Key × V) := mergeK [] [(.inr "1", .int 1), (.inr "0", .int 0), (.inr ".", .int 1)]
theorem loK_at (s : Sg) : valV loK (.inr ⟨#[s.c]⟩) = some (.int (bnd s).1) := by cases s <;> decide +kernel
theorem hiK_at (s : Sg) : valV hiK (.inr ⟨#[s.c]⟩) = some (.int (bnd s).2) := by cases s <;> decide +kernel
/-- what is new in H' -/
def nu (H H' : Hp) : Hp := fun a => match H a with
  | none => H' a
  | some _ => none
theorem nu_of {H H' : Hp} {a : Addr} {o : HO} (n : H a = none) (h : H' a = some o) : nu H H' a = some o := by unfold nu; rw [n]; exact h
theorem nu_inv {H H' : Hp} {a : Addr} {o : HO} (h : nu H H' a = some o) : H a = none ∧ H' a = some o := by
  unfold nu at h
  cases e : H a with
  | none => rw [e] at h; exact ⟨rfl, h⟩
  | some u => rw [e] at h; cases h
theorem nu_le {H H' : Hp} : Same (nu H H') H' := fun _ _ e => (nu_inv e).2
theorem nu_mono {H H1 H2 : Hp} (k : Same H1 H2) : Same (nu H H1) (nu H H2) := fun b o e => nu_of (nu_inv e).1 (k b o (nu_inv e).2)
theorem none_of {H H' : Hp} {a : Addr} (k : Same H H') (n : H' a = none) : H a = none := by
  cases e : H a with
  | none => rfl
  | some o => rw [k _ _ e] at n; cases n
theorem nu_off {S : List Addr} {H H' : Hp} (h : ∀ a ∈ S, H a ≠ none) : Same (nu H H') (off S H') := fun b o e => off_of (nu_inv e).2 fun z => h b z (nu_inv e).1
theorem nu_base {H0 H H' : Hp} (k : Same H0 H) : Same (nu H H') (nu H0 H') := fun b o e => nu_of (none_of k (nu_inv e).1) (nu_inv e).2
def spMarkB (K : PySem.W.Frag) : Sp := fun vs H Q _ => ∃ (b : Addr) (B : Bk), vs = [.ref b, .int 1] ∧ BookAt K H b B ∧ B.Ok ∧ ∀ v H', Same H H' → Td (nu H H') (.t [loD B, hiD B]) v → Q v H'
theorem take_map_snoc {α β : Type} {f : α → β} {l : List α} {i : Nat} {x : α} (h : l[i]? = some x) : (l.take (i + 1)).map f = (l.take i).map f ++ [f x] := by
  rw [List.take_succ, h]; simp
theorem same_off {D : Addr} {H H' : Hp} (h : H D = none) (k : Same H H') : Same H (off [D] H') := fun b o e => off_of (k b o e) (by simpa using ne_of_none e h)
/-- the inner comprehension's value: a row of a table -/
theorem row_done {H' : Hp} {q : Addr} {ns : List Int} (h : H' q = some (.lst (ns.map V.int))) : Td H' (.l (ns.map D.i)) (.ref q) := .l h (Tds.of_ints ns)
theorem sc_mark_bounds : FnScope ["book", "scale", "least", "most", "lows", "highs", "signs", "sign"] ["book", "scale"] (defScope s_mark_bounds) := ⟨rfl, rfl, rfl, by decide +kernel, rfl, by decide +kernel, by decide +kernel⟩
theorem c_mark_bounds (T : Fx K mg) (F : DefAt K mg "mark_bounds" "mark_bounds" s_mark_bounds) : Cal P w K mg base CX0 1 "mark_bounds" ["book", "scale"] (spMarkB K) := by
  refine cal_of F sc_mark_bounds (fun _ _ _ _ _ _ _ us hl => match us, hl with | [_, _], _ => rfl) (fun vs H Q E h => ?_) (fun f cdv A outer s H vs Q E hr h => ?_)
  · obtain ⟨b, B, rfl, hB, O, k⟩ := h
    rfl
  obtain ⟨b, B, rfl, hB, O, k⟩ := h
  have hu := hu_of hr
  have nd := sc_mark_bounds.nd
  refine ⟨_, (pss_cons (ps_set (i := 2) nd rfl (Or.inr rfl) (pe_disp (pps_cons pe_str (pv 1) (pps_cons pe_str pe_int (pps_cons pe_str pe_int pps_nil))) rfl rfl (List.cons_ne_nil _ _) (by decide)))
  (pss_cons (ps_set (i := 3) nd rfl (Or.inr rfl) (pe_disp (pps_cons pe_str (pv 1) (pps_cons pe_str pe_int (pps_cons pe_str (pv 1) pps_nil))) rfl rfl (List.cons_ne_nil _ _) (by decide)))
  (pss_cons (ps_setLc (i := 4) (own := [("signs", 6)]) rfl nd rfl rfl (sw_true rfl rfl rfl (by decide +kernel)) (pi_tup (pe_f (pv 0))) (blkOk_by (by rfl)) (fun _ _ _ _ _ => (pg_name (i := 6) nd rfl (Or.inl rfl))) (fun _ _ _ _ _ => pts_nil) (fun _ _ _ _ _ => (pe_lc (own := [("sign", 7)]) rfl nd (pi_str (pv 6)) (blkOk_by (by rfl)) (fun _ _ _ _ _ => (pg_name (i := 7) nd rfl (Or.inl rfl))) (fun _ _ _ _ _ => pts_nil) (fun _ _ _ _ _ => (pe_dget hu (pv 2) (pv 7) (fun _ _ => rfl))))))
  (pss_cons (ps_setLc (i := 5) (own := [("signs", 6)]) rfl nd rfl rfl (sw_true rfl rfl rfl (by decide +kernel)) (pi_tup (pe_f (pv 0))) (blkOk_by (by rfl)) (fun _ _ _ _ _ => (pg_name (i := 6) nd rfl (Or.inl rfl))) (fun _ _ _ _ _ => pts_nil) (fun _ _ _ _ _ => (pe_lc (own := [("sign", 7)]) rfl nd (pi_str (pv 6)) (blkOk_by (by rfl)) (fun _ _ _ _ _ => (pg_name (i := 7) nd rfl (Or.inl rfl))) (fun _ _ _ _ _ => pts_nil) (fun _ _ _ _ _ => (pe_dget hu (pv 3) (pv 7) (fun _ _ => rfl))))))
  (pss_one (ps_ret (pe_tup (pa_cons (pv 4) (pa_cons (pv 5) pa_nil))))))))), ?_⟩
  obtain ⟨vM, fM, tM⟩ := hB.marks
  obtain ⟨aM, xs, rfl, hM, rM⟩ := tM.tup
  have hxl : xs.length = B.mks.length := by rw [rM.length, List.length_map]
  intro p1 n1
  refine ⟨_, rfl, upd_same, [(.inr "1", .int 1), (.inr "0", .int 0), (.inr ".", .int 0)], rfl, by decide, ?_⟩
  intro p2 n2
  refine ⟨_, rfl, _, rfl, upd_same, [(.inr "1", .int 1), (.inr "0", .int 0), (.inr ".", .int 1)], rfl, by decide, ?_⟩
  generalize hK1 : mergeK [] [((.inr "1" : Key), V.int 1), (.inr "0", .int 0), (.inr ".", .int 0)] = k1 at *
  generalize hK2 : mergeK [] [((.inr "1" : Key), V.int 1), (.inr "0", .int 0), (.inr ".", .int 1)] = k2 at *
  generalize hH2 : upd (upd (upd (upd H p1 (.dK [])) p1 (.dK k1)) p2 (.dK [])) p2 (.dK k2) = H2
  have hp12 : p1 ≠ p2 := fun z => by rw [z, upd_same] at n2; cases n2
  have d1 : H2 p1 = some (.dK k1) := by rw [← hH2, upd_upd, upd_ne hp12, upd_same]
  have d2 : H2 p2 = some (.dK k2) := by rw [← hH2, upd_same]
  have s2 : Same H H2 := by
    rw [← hH2, upd_upd, upd_upd]
    rw [upd_upd] at n2
    exact (same_new n1).trans (same_new n2)
  have v1 : ∀ s : Sg, valV k1 (.inr ⟨#[s.c]⟩) = some (.int (bnd s).1) := fun s => by rw [← hK1]; exact loK_at s
  have v2 : ∀ s : Sg, valV k2 (.inr ⟨#[s.c]⟩) = some (.int (bnd s).2) := fun s => by rw [← hK2]; exact hiK_at s
  clear hK1 hK2 hH2 n2
  -- one table: of the dict at p with these values
  have hbig : B.mks.length < sizeLine := by
    have h1 := two_le O
    have h2 := sizeLine_eq
    rw [O.lm]; omega
  have hG : ∀ {H0 : Hp}, Same H H0 → ∀ {H3 : Hp}, Same H0 H3 → SqT K H3 aM xs := fun a _ b => SqT.of (b _ _ (a _ _ hM))
  refine ⟨_, rfl, b, _, rfl, fM.mono s2, aM, rfl, ⟨_, SqT.of (s2 _ _ hM)⟩, fun q1 m1 => lc_by walk_tup (fun i acc H3 => Same H2 H3 ∧ Tds (nu H H3) ((B.mks.take i).map fun l => D.l (l.map fun s => .i (bnd s).1)) acc) m1 ⟨Same.refl _, .nil⟩ (fun i acc H3 p => hG s2 (p.1.trans off_le)) ?_ ?_⟩
  · rintro i acc x _ H3 hi hl ⟨sm, td⟩ hq ⟨rfl, hx⟩
    rw [hxl] at hi
    obtain ⟨d, hd, td2⟩ := rM.at hx
    rw [List.getElem?_map, some_of_lt [] hi] at hd
    obtain rfl := Option.some.inj hd
    obtain rfl := td2.str
    have sm3 : Same H2 H3 := sm.trans off_le
    refine ⟨rfl, _, rfl, _, rfl, fun q2 m2 => lc_by walk_str (fun j acc2 H4 => Same H3 H4 ∧ acc2 = ((B.mks.getD i []).take j).map fun s => V.int (bnd s).1) m2 ⟨Same.refl _, rfl⟩ (fun _ _ _ _ => trivial) ?_ ?_⟩
    · rintro j acc2 _ _ H5 hj hl2 ⟨sm5, rfl⟩ hq2 ⟨rfl, c, hc, rfl⟩
      rw [sg_size] at hj
      rw [sg_at hj] at hc
      obtain rfl := Option.some.inj hc
      have d5 : H5 p1 = some (.dK k1) := off_le _ _ (sm5 _ _ (sm3 _ _ d1))
      have g5 : DGet H5 p1 (.str ⟨#[((B.mks.getD i []).getD j .dot).c]⟩) (some (.int (bnd ((B.mks.getD i []).getD j .dot)).1)) := by
        rw [← v1]; exact DGet.k (k := .inr ⟨#[((B.mks.getD i []).getD j .dot).c]⟩) d5
      refine ⟨rfl, _, rfl, _, rfl, p1, _, rfl, g5, LcS.add hq2 hl2 (by have := sizeLine_eq; have := O.lr _ (getD_mem (d := []) hi); have := O.m4; omega) ⟨sm5, ?_⟩⟩
      rw [take_map_snoc (some_of_lt .dot hj)]
    · rintro acc2 H5 hq2 ⟨sm5, rfl⟩
      rw [sg_size, List.take_length] at hq2
      have sm35 : Same H3 H5 := sm5.trans off_le
      have hne : q1 ≠ q2 := ne_of_none hq m2
      refine LcS.add (sm35 _ _ hq) hl (by omega) ⟨sm.trans (kp_of sm35), ?_⟩
      rw [take_map_snoc (some_of_lt [] hi)]
      exact (td.mono (nu_mono (kp_of sm35))).snoc (by
        have e : (B.mks.getD i []).map (fun s => D.i (bnd s).1) = ((B.mks.getD i []).map fun s => (bnd s).1).map D.i := by rw [List.map_map]; rfl
        rw [e]
        refine row_done (nu_of (none_of (s2.trans sm3) m2) (off_of ?_ (by simpa using hne.symm)))
        rw [hq2, List.map_map]; rfl)
  · rintro acc H3 hq1 ⟨sm, td⟩
    rw [hxl, List.take_length] at td
    have sm3 : Same H2 H3 := sm.trans off_le
    have hn1 : H q1 = none := none_of s2 m1
    have tL : Td (nu H H3) (loD B) (.ref q1) := .l (nu_of hn1 hq1) (td.mono (nu_mono off_le))
    clear td sm m1
    refine ⟨_, rfl, b, _, rfl, fM.mono (s2.trans sm3), aM, rfl, ⟨_, SqT.of (sm3 _ _ (s2 _ _ hM))⟩, fun q3 m1 => lc_by walk_tup (fun i acc H4 => Same H3 H4 ∧ Tds (nu H H4) ((B.mks.take i).map fun l => D.l (l.map fun s => .i (bnd s).2)) acc) m1 ⟨Same.refl _, .nil⟩ (fun i acc H4 p => hG (s2.trans sm3) (p.1.trans off_le)) ?_ ?_⟩
    · rintro i acc x _ H4 hi hl ⟨sm, td⟩ hq ⟨rfl, hx⟩
      rw [hxl] at hi
      obtain ⟨d, hd, td2⟩ := rM.at hx
      rw [List.getElem?_map, some_of_lt [] hi] at hd
      obtain rfl := Option.some.inj hd
      obtain rfl := td2.str
      have sm4 : Same H3 H4 := sm.trans off_le
      refine ⟨rfl, _, rfl, _, rfl, fun q2 m2 => lc_by walk_str (fun j acc2 H5 => Same H4 H5 ∧ acc2 = ((B.mks.getD i []).take j).map fun s => V.int (bnd s).2) m2 ⟨Same.refl _, rfl⟩ (fun _ _ _ _ => trivial) ?_ ?_⟩
      · rintro j acc2 _ _ H5 hj hl2 ⟨sm5, rfl⟩ hq2 ⟨rfl, c, hc, rfl⟩
        rw [sg_size] at hj
        rw [sg_at hj] at hc
        obtain rfl := Option.some.inj hc
        have d5 : H5 p2 = some (.dK k2) := off_le _ _ (sm5 _ _ (sm4 _ _ (sm3 _ _ d2)))
        have g5 : DGet H5 p2 (.str ⟨#[((B.mks.getD i []).getD j .dot).c]⟩) (some (.int (bnd ((B.mks.getD i []).getD j .dot)).2)) := by
          rw [← v2]; exact DGet.k (k := .inr ⟨#[((B.mks.getD i []).getD j .dot).c]⟩) d5
        refine ⟨rfl, _, rfl, _, rfl, p2, _, rfl, g5, LcS.add hq2 hl2 (by have := sizeLine_eq; have := O.lr _ (getD_mem (d := []) hi); have := O.m4; omega) ⟨sm5, ?_⟩⟩
        rw [take_map_snoc (some_of_lt .dot hj)]
      · rintro acc2 H5 hq2 ⟨sm5, rfl⟩
        rw [sg_size, List.take_length] at hq2
        have sm35 : Same H4 H5 := sm5.trans off_le
        have hne : q3 ≠ q2 := ne_of_none hq m2
        refine LcS.add (sm35 _ _ hq) hl (by omega) ⟨sm.trans (kp_of sm35), ?_⟩
        rw [take_map_snoc (some_of_lt [] hi)]
        exact (td.mono (nu_mono (kp_of sm35))).snoc (by
          have e : (B.mks.getD i []).map (fun s => D.i (bnd s).2) = ((B.mks.getD i []).map fun s => (bnd s).2).map D.i := by rw [List.map_map]; rfl
          rw [e]
          refine row_done (nu_of (none_of ((s2.trans sm3).trans sm4) m2) (off_of ?_ (by simpa using hne.symm)))
          rw [hq2, List.map_map]; rfl)
    · rintro acc H4 hq3 ⟨sm, td⟩
      rw [hxl, List.take_length] at td
      have sm4 : Same H3 H4 := sm.trans off_le
      have tH : Td (nu H H4) (hiD B) (.ref q3) := .l (nu_of (none_of (s2.trans sm3) m1) hq3) (td.mono (nu_mono off_le))
      refine ⟨_, rfl, _, rfl, (by show 2 ≤ sizeLine; decide), fun p hp => ?_⟩
      have s5 : Same H4 (upd H4 p (.tup [.ref q1, .ref q3])) := same_new hp
      exact k _ _ (((s2.trans sm3).trans sm4).trans s5) (.t (nu_of (none_of ((s2.trans sm3).trans sm4) hp) upd_same) (.cons (tL.mono (nu_mono (sm4.trans s5))) (.cons (tH.mono (nu_mono s5)) .nil)))
end
end K31

set_option autoImplicit true
set_option Elab.async false
set_option autoImplicit false
set_option linter.all false
set_option maxRecDepth 100000
set_option maxHeartbeats 4000000
namespace K31
open PySem PySem.Spec PyProof.Rows L2
/-! pipes: own_ties, tie_bounds, is_torn, most_brought -/
def tieD (t : Nat × Nat × Nat) : D := .t [.i t.1, .i t.2.1, .i t.2.2]
def tiesTo (many i : Nat) : List (Nat × Nat × Nat) := (List.range i).flatMap fun r => tiesAt many r many
theorem tiesTo_succ (many i : Nat) : tiesTo many (i + 1) = tiesTo many i ++ tiesAt many i many := by unfold tiesTo; rw [List.range_succ, List.flatMap_append]; simp
theorem tiesAt_succ (many r k : Nat) : tiesAt many r (k + 1) = tiesAt many r k ++ if yes many r k then [] else [(r, k, turnN many r k)] := by
  unfold tiesAt
  rw [List.range_succ, List.filterMap_append]
  cases h : yes many r k <;> simp [h]
theorem tiesAt_len (many r : Nat) : ∀ k, (tiesAt many r k).length ≤ k
  | 0 => by simp [tiesAt]
  | k + 1 => by
    have := tiesAt_len many r k
    rw [tiesAt_succ, List.length_append]
    split <;> simp <;> omega
theorem tiesTo_len (many : Nat) : ∀ i, (tiesTo many i).length ≤ i * many
  | 0 => by simp [tiesTo]
  | i + 1 => by
    have h1 := tiesTo_len many i
    have h2 := tiesAt_len many i many
    rw [tiesTo_succ, List.length_append, Nat.succ_mul]; omega
theorem tds_append {H : Hp} : ∀ {a b : List D} {u v : List V}, Tds H a u → Tds H b v → Tds H (a ++ b) (u ++ v)
  | _, _, _, _, .nil, h => h
  | _, _, _, _, .cons x r, h => .cons x (tds_append r h)
theorem bnd_small (s : Sg) : (0 ≤ (bnd s).1 ∧ (bnd s).1 ≤ 1) ∧ 0 ≤ (bnd s).2 ∧ (bnd s).2 ≤ 1 := by cases s <;> decide
theorem tieB_small (d : Du) (s1 s2 : Sg) : (0 ≤ (tieB d (bnd s1) (bnd s2)).1 ∧ (tieB d (bnd s1) (bnd s2)).1 ≤ 1) ∧ 0 ≤ (tieB d (bnd s1) (bnd s2)).2 ∧ (tieB d (bnd s1) (bnd s2)).2 ≤ 1 := by cases d <;> cases s1 <;> cases s2 <;> decide
section
variable {P : Program} {w : World} {K : PySem.W.Frag} {mg : Str → Option Value} {base : Heap}
def spTies (K : PySem.W.Frag) : Sp := fun vs H Q _ => ∃ (b : Addr) (B : Bk), vs = [.ref b] ∧ BookAt K H b B ∧ B.Ok ∧ ∀ v H', Same H H' → Td H' (.l ((ties B.many).map tieD)) v → (∀ a, v = .ref a → H a = none) → Q v H'
theorem sc_own_ties : FnScope ["book", "found", "row", "member"] ["book"] (defScope s_own_ties) := ⟨rfl, rfl, rfl, by decide +kernel, rfl, by decide +kernel, by decide +kernel⟩
theorem c_own_ties (T : Fx K mg) (F : DefAt K mg "own_ties" "own_ties" s_own_ties) (c_has_yes : Cal P w K mg base CX0 1 "has_yes" ["many", "number", "member"] (spYes)) (c_turned : Cal P w K mg base CX0 2 "turned" ["many", "number", "member"] (spTurned)) : Cal P w K mg base CX0 3 "own_ties" ["book"] (spTies K) := by
  refine cal_of F sc_own_ties (fun _ _ _ _ _ _ _ us hl => match us, hl with | [_], _ => rfl) (fun vs H Q E h => ?_) (fun f cdv A outer s H vs Q E hr h => ?_)
  · obtain ⟨b, B, rfl, hB, O, k⟩ := h
    rfl
  obtain ⟨b, B, rfl, hB, O, k⟩ := h
  have hu := hu_of hr
  have nd := sc_own_ties.nd
  refine ⟨_, (pss_cons (ps_set (i := 1) nd rfl (Or.inl rfl) (pe_lst pa_nil))
  (pss_cons (ps_for (passes_of rfl) rfl (pi_range1 rfl T.range (pa_cons (pe_ix ix_tup (pe_glob (v := .ref T.aP) rfl T.pow rfl) (pe_f (pv 0)) (fun _ _ => rfl)) pa_nil)) (pg_name (i := 2) nd rfl (Or.inl rfl)) (pss_one (ps_for (passes_of rfl) rfl (pi_range1 rfl T.range (pa_cons (pe_f (pv 0)) pa_nil)) (pg_name (i := 3) nd rfl (Or.inl rfl)) (pss_one (ps_if (pt_not (pt_val (pe_k c_has_yes hr (by decide) pass0 (pa_cons (pe_f (pv 0)) (pa_cons (pv 2) (pa_cons (pv 3) pa_nil)))))) (pss_one (ps_expr (pe_bm PySem.F.plainAttrs_list PySem.F.slot_list_append PySem.F.type_list_append mt_append (pv 1) (pa_cons (pe_tup (pa_cons (pv 2) (pa_cons (pv 3) (pa_cons (pe_k c_turned hr (by decide) pass0 (pa_cons (pe_f (pv 0)) (pa_cons (pv 2) (pa_cons (pv 3) pa_nil)))) pa_nil)))) pa_nil)))) pss_nil)))))
  (pss_one (ps_ret (pv 1))))), ?_⟩
  have hbig : 2 ^ B.many * B.many ≤ 64 := Nat.le_trans (Nat.mul_le_mul (two_le O) O.m4) (by decide)
  refine ⟨Nat.zero_le _, fun l hl => ?_⟩
  have s0 : Same H (off [l] (upd H l (.lst []))) := by rw [off_upd, off_none hl]; exact Same.refl _
  have hB0 := hB.mono (same_new (o := .lst []) hl)
  have h16 := two_le O
  refine ⟨_, rfl, b, _, rfl, hB0.many, _, _, _, _, rfl, rfl, T.powT _, pow_at O.m8, _, rfl, (rng_ok (by omega)).1, (rng_ok (by omega)).2, ?_⟩
  refine for_it walk_r (fun i σ H1 => ∃ x y, σ = [some (.ref b), some (.ref l), x, y] ∧ Same H (off [l] H1) ∧ ∃ vs, H1 l = some (.lst vs) ∧ Tds (off [l] H1) ((tiesTo B.many i).map tieD) vs) ⟨none, none, rfl, s0, [], upd_same, .nil⟩ (fun _ _ _ _ _ => trivial) ?_ ?_
  · rintro i _ σ _ H1 hi ⟨x, y, rfl, s1, vs1, e1, t1⟩ ⟨rfl, rfl⟩
    have hi' : i < 2 ^ B.many := hi
    have hB1 := (hB.mono s1).mono off_le
    refine ⟨_, rfl, b, _, rfl, hB1.many, _, rfl, (rng_ok (by have := O.m4; omega)).1, (rng_ok (by have := O.m4; omega)).2, ?_⟩
    refine for_it walk_r (fun j σ H1 => ∃ y, σ = [some (.ref b), some (.ref l), some (.int (i : Nat)), y] ∧ Same H (off [l] H1) ∧ ∃ vs, H1 l = some (.lst vs) ∧ Tds (off [l] H1) ((tiesTo B.many i ++ tiesAt B.many i j).map tieD) vs) ⟨y, rfl, s1, vs1, e1, by simpa [tiesAt] using t1⟩ (fun _ _ _ _ _ => trivial) ?_ ?_
    · rintro j _ σ _ H2 hj ⟨y, rfl, s2, vs2, e2, t2⟩ ⟨rfl, rfl⟩
      have hj' : j < B.many := hj
      have hB2 := (hB.mono s2).mono off_le
      refine ⟨_, rfl, b, _, rfl, hB2.many, _, rfl, _, rfl, B.many, i, j, rfl, hj', O.m8, _, rfl, ite2 (fun c => ?_) (fun c => ?_)⟩
      · have hy : yes B.many i j = false := by cases h : yes B.many i j <;> simp [h] at c ⊢
        refine ⟨_, rfl, .inl ⟨rfl, _, .inl (.inl e2)⟩, _, rfl, _, rfl, _, rfl, b, _, rfl, hB2.many, _, rfl, _, rfl, B.many, i, j, rfl, hj', O.m8, (by show 3 ≤ sizeLine; decide), fun p hp => ?_⟩
        have hlp : l ≠ p := ne_of_none e2 hp
        have hlen : vs2.length ≤ 64 := by
          rw [t2.length, List.length_map, List.length_append]
          have h1 := tiesTo_len B.many i
          have h2 := tiesAt_len B.many i j
          have h3 : i * B.many + B.many ≤ 2 ^ B.many * B.many := by rw [← Nat.succ_mul]; exact Nat.mul_le_mul_right _ hi'
          omega
        refine ⟨l, vs2, _, rfl, rfl, by rw [upd_ne hlp]; exact e2, by have := sizeLine_eq; omega, ?_⟩
        have sp : Same (off [l] H2) (off [l] (upd H2 p (.tup [.int (i : Nat), .int (j : Nat), .int (turnN B.many i j : Nat)]))) := off_new hp
        refine ⟨_, rfl, by rw [off_upd]; exact s2.trans sp, _, upd_same, ?_⟩
        rw [off_upd, tiesAt_succ, hy, ← List.append_assoc, List.map_append]
        refine tds_append (t2.mono sp) (.cons (.t (off_of upd_same (by simpa using hlp.symm)) (.cons (.i _) (.cons (.i _) (.cons (.i _) .nil)))) .nil)
      · have hy : yes B.many i j = true := by cases h : yes B.many i j <;> simp [h] at c ⊢
        refine ⟨_, rfl, s2, vs2, e2, ?_⟩
        rw [tiesAt_succ, hy, if_pos rfl, List.append_nil]
        exact t2
    · rintro σ H2 ⟨y, rfl, s2, vs2, e2, t2⟩
      refine ⟨_, _, rfl, s2, vs2, e2, ?_⟩
      rw [tiesTo_succ]
      exact t2
  · rintro σ H1 ⟨x, y, rfl, s1, vs1, e1, t1⟩
    exact ⟨_, rfl, k _ _ (s1.trans off_le) (.l e1 (t1.mono off_le)) fun a e => V.ref.inj e ▸ hl⟩
/-- a pair of ints at p -/
abbrev Two (H : Hp) (p : Addr) (x : Int × Int) : Prop := H p = some (.tup [.int x.1, .int x.2])
def spTieB : Sp := fun vs H Q _ => ∃ (d : Du) (p q : Addr) (x y : Int × Int), vs = [.str ⟨#[d.c]⟩, .int 1, .ref p, .ref q] ∧ Two H p x ∧ Two H q y ∧ ∀ r H', Same H H' → Two H' r (tieB d x y) → Q (.ref r) H'
theorem sc_tie_bounds : FnScope ["duty", "scale", "one", "other"] ["duty", "scale", "one", "other"] (defScope s_tie_bounds) := ⟨rfl, rfl, rfl, by decide +kernel, rfl, by decide +kernel, by decide +kernel⟩
theorem c_tie_bounds (T : Fx K mg) (F : DefAt K mg "tie_bounds" "tie_bounds" s_tie_bounds) : Cal P w K mg base CX0 1 "tie_bounds" ["duty", "scale", "one", "other"] spTieB := by
  refine cal_of F sc_tie_bounds (fun _ _ _ _ _ _ _ us hl => match us, hl with | [_, _, _, _], _ => rfl) (fun vs H Q E h => ?_) (fun f cdv A outer s H vs Q E hr h => ?_)
  · obtain ⟨d, p, q, x, y, rfl, hp, hq, k⟩ := h
    rfl
  obtain ⟨d, p, q, x, y, rfl, hp, hq, k⟩ := h
  have hu := hu_of hr
  have nd := sc_tie_bounds.nd
  refine ⟨_, (pss_cons (ps_if (pt_cmpR op_eq (pv 0) pe_str (nomark _)) (pss_one (ps_ret (pe_tup (pa_cons (pe_callB (call_max2 rfl) rfl T.max boot_max (pa_cons (pe_ix ix_tup (pv 2) pe_int (fun _ _ => rfl)) (pa_cons (pe_ix ix_tup (pv 3) pe_int (fun _ _ => rfl)) pa_nil))) (pa_cons (pe_callB (call_min2 rfl) rfl T.min boot_min (pa_cons (pe_ix ix_tup (pv 2) pe_int (fun _ _ => rfl)) (pa_cons (pe_ix ix_tup (pv 3) pe_int (fun _ _ => rfl)) pa_nil))) pa_nil))))) pss_nil)
  (pss_one (ps_ret (pe_tup (pa_cons (pe_callB (call_max2 rfl) rfl T.max boot_max (pa_cons (pe_ix ix_tup (pv 2) pe_int (fun _ _ => rfl)) (pa_cons (pe_op op_sub (pv 1) (pe_ix ix_tup (pv 3) pe_int (fun _ _ => rfl))) pa_nil))) (pa_cons (pe_callB (call_min2 rfl) rfl T.min boot_min (pa_cons (pe_ix ix_tup (pv 2) pe_int (fun _ _ => rfl)) (pa_cons (pe_op op_sub (pv 1) (pe_ix ix_tup (pv 3) pe_int (fun _ _ => rfl))) pa_nil))) pa_nil)))))), ?_⟩
  refine ⟨_, rfl, rfl, _, rfl, ite2 (fun c => ?_) (fun c => ?_)⟩
  · rw [dec_n] at c
    obtain rfl := of_decide_eq_true c
    refine ⟨_, rfl, _, _, _, _, rfl, rfl, SqT.of hp, rfl, _, rfl, _, _, _, _, rfl, rfl, SqT.of hq, rfl, _, _, rfl, _, rfl, _, _, _, _, rfl, rfl, SqT.of hp, rfl, _, rfl, _, _, _, _, rfl, rfl, SqT.of hq, rfl, _, _, rfl, (by show 2 ≤ sizeLine; decide), fun r hr => ?_⟩
    exact k _ _ (same_new hr) upd_same
  · rw [dec_n] at c
    refine ⟨_, rfl, _, _, _, _, rfl, rfl, SqT.of hp, rfl, _, rfl, _, rfl, _, _, _, _, rfl, rfl, SqT.of hq, rfl, _, _, rfl, rfl, _, _, rfl, _, rfl, _, _, _, _, rfl, rfl, SqT.of hp, rfl, _, rfl, _, rfl, _, _, _, _, rfl, rfl, SqT.of hq, rfl, _, _, rfl, rfl, _, _, rfl, (by show 2 ≤ sizeLine; decide), fun r hr => ?_⟩
    refine k _ _ (same_new hr) ?_
    have e : tieB d x y = (mx x.1 (1 - y.2), mn x.2 (1 - y.1)) := by cases d <;> first | rfl | exact (c (by decide)).elim
    rw [e]
    exact upd_same
def spTorn : Sp := fun vs H Q _ => ∃ (d : Du) (p q : Addr) (x y : Int × Int), vs = [.str ⟨#[d.c]⟩, .int 1, .ref p, .ref q] ∧ Two H p x ∧ Two H q y ∧ ∀ H', Same H H' → Q (.bl (tornB d x y)) H'
theorem sc_is_torn : FnScope ["duty", "scale", "one", "other", "low", "high"] ["duty", "scale", "one", "other"] (defScope s_is_torn) := ⟨rfl, rfl, rfl, by decide +kernel, rfl, by decide +kernel, by decide +kernel⟩
theorem c_is_torn (T : Fx K mg) (F : DefAt K mg "is_torn" "is_torn" s_is_torn) (c_tie_bounds : Cal P w K mg base CX0 1 "tie_bounds" ["duty", "scale", "one", "other"] (spTieB)) : Cal P w K mg base CX0 2 "is_torn" ["duty", "scale", "one", "other"] spTorn := by
  refine cal_of F sc_is_torn (fun _ _ _ _ _ _ _ us hl => match us, hl with | [_, _, _, _], _ => rfl) (fun vs H Q E h => ?_) (fun f cdv A outer s H vs Q E hr h => ?_)
  · obtain ⟨d, p, q, x, y, rfl, hp, hq, k⟩ := h
    rfl
  obtain ⟨d, p, q, x, y, rfl, hp, hq, k⟩ := h
  have hu := hu_of hr
  have nd := sc_is_torn.nd
  refine ⟨_, (pss_cons (ps_if (pt_cmpR op_eq (pv 0) pe_str (nomark _)) (pss_one (ps_ret (pe_or (pe_cmpR op_gt (pe_ix ix_tup (pv 2) pe_int (fun _ _ => rfl)) (pe_ix ix_tup (pv 2) pe_int (fun _ _ => rfl)) (nomark _)) (pe_one (pe_cmpR op_gt (pe_ix ix_tup (pv 3) pe_int (fun _ _ => rfl)) (pe_ix ix_tup (pv 3) pe_int (fun _ _ => rfl)) (nomark _)))))) pss_nil)
  (pss_cons (ps_asg (pe_k c_tie_bounds hr (by decide) pass0 (pa_cons (pv 0) (pa_cons (pv 1) (pa_cons (pv 2) (pa_cons (pv 3) pa_nil))))) (pg_tup rfl (pgs_cons (pg_name (i := 4) nd rfl (Or.inl rfl)) (pgs_cons (pg_name (i := 5) nd rfl (Or.inl rfl)) pgs_nil))))
  (pss_one (ps_ret (pe_cmpR op_gt (pv 4) (pv 5) (nomark _)))))), ?_⟩
  refine ⟨_, rfl, rfl, _, rfl, ite2 (fun c => ?_) (fun c => ?_)⟩
  · rw [dec_m] at c
    obtain rfl := of_decide_eq_true c
    refine ⟨_, rfl, _, _, _, _, rfl, rfl, SqT.of hp, rfl, _, rfl, _, _, _, _, rfl, rfl, SqT.of hp, rfl, _, _, rfl, rfl, _, rfl, ite2 (fun c => ?_) (fun c => ?_)⟩
    · have := k H (Same.refl _)
      unfold tornB at this
      rw [show decide (x.1 > x.2) = true from c, Bool.true_or] at this
      exact this
    · refine ⟨_, rfl, _, _, _, _, rfl, rfl, SqT.of hq, rfl, _, rfl, _, _, _, _, rfl, rfl, SqT.of hq, rfl, _, _, rfl, rfl, ?_⟩
      have := k H (Same.refl _)
      unfold tornB at this
      rw [show decide (x.1 > x.2) = false from Bool.eq_false_iff.mpr c, Bool.false_or] at this
      exact this
  · rw [dec_m] at c
    refine ⟨_, rfl, _, rfl, _, rfl, _, rfl, d, p, q, x, y, rfl, hp, hq, fun r H1 s1 hr => ?_⟩
    refine ⟨_, _, rfl, SqT.of hr, rfl, _, _, rfl, _, _, rfl, rfl, _, rfl, _, rfl, _, _, rfl, rfl, ?_⟩
    have := k H1 s1
    have e : tornB d x y = decide ((tieB d x y).1 > (tieB d x y).2) := by cases d <;> first | rfl | exact (c (by decide)).elim
    rw [e] at this
    exact this
def spMost : Sp := fun vs H Q _ => ∃ (d : Du) (pb pw p q : Addr) (s1 s2 : Sg) (f s : Int), vs = [.str ⟨#[d.c]⟩, .int 1, .ref pb, .ref pw] ∧ H pb = some (.tup [.ref p, .ref q]) ∧ H pw = some (.tup [.int f, .int s]) ∧ Two H p (bnd s1) ∧ Two H q (bnd s2) ∧
  ∀ H', Same H H' → Q (.int (mostB d (bnd s1) (bnd s2) f s)) H'
theorem cmul_r {i j : Int} (h0 : 0 ≤ j) (h1 : j ≤ 1) : CMul i j := .inr ⟨by omega, by omega⟩
theorem sc_most_brought : FnScope ["duty", "scale", "bounds", "weights", "one", "other", "first", "second", "low", "high"] ["duty", "scale", "bounds", "weights"] (defScope s_most_brought) := ⟨rfl, rfl, rfl, by decide +kernel, rfl, by decide +kernel, by decide +kernel⟩
theorem c_most_brought (T : Fx K mg) (F : DefAt K mg "most_brought" "most_brought" s_most_brought) (c_tie_bounds : Cal P w K mg base CX0 1 "tie_bounds" ["duty", "scale", "one", "other"] (spTieB)) : Cal P w K mg base CX0 2 "most_brought" ["duty", "scale", "bounds", "weights"] spMost := by
  refine cal_of F sc_most_brought (fun _ _ _ _ _ _ _ us hl => match us, hl with | [_, _, _, _], _ => rfl) (fun vs H Q E h => ?_) (fun f cdv A outer s H vs Q E hr h => ?_)
  · obtain ⟨d, pb, pw, p, q, s1, s2, g, s', rfl, hb, hw, hp, hq, k⟩ := h
    rfl
  obtain ⟨d, pb, pw, p, q, s1, s2, g, s', rfl, hb, hw, hp, hq, k⟩ := h
  have hu := hu_of hr
  have nd := sc_most_brought.nd
  refine ⟨_, (pss_cons (ps_asg (pv 2) (pg_tup rfl (pgs_cons (pg_name (i := 4) nd rfl (Or.inl rfl)) (pgs_cons (pg_name (i := 5) nd rfl (Or.inl rfl)) pgs_nil))))
  (pss_cons (ps_asg (pv 3) (pg_tup rfl (pgs_cons (pg_name (i := 6) nd rfl (Or.inl rfl)) (pgs_cons (pg_name (i := 7) nd rfl (Or.inl rfl)) pgs_nil))))
  (pss_cons (ps_if (pt_cmpR op_eq (pv 0) pe_str (nomark _)) (pss_one (ps_ret (pe_op op_add (pe_callB (call_max2 rfl) rfl T.max boot_max (pa_cons (pe_op op_mul (pv 6) (pe_ix ix_tup (pv 4) pe_int (fun _ _ => rfl))) (pa_cons (pe_op op_mul (pv 6) (pe_ix ix_tup (pv 4) pe_int (fun _ _ => rfl))) pa_nil))) (pe_callB (call_max2 rfl) rfl T.max boot_max (pa_cons (pe_op op_mul (pv 7) (pe_ix ix_tup (pv 5) pe_int (fun _ _ => rfl))) (pa_cons (pe_op op_mul (pv 7) (pe_ix ix_tup (pv 5) pe_int (fun _ _ => rfl))) pa_nil)))))) pss_nil)
  (pss_cons (ps_asg (pe_k c_tie_bounds hr (by decide) pass0 (pa_cons (pv 0) (pa_cons (pv 1) (pa_cons (pv 4) (pa_cons (pv 5) pa_nil))))) (pg_tup rfl (pgs_cons (pg_name (i := 8) nd rfl (Or.inl rfl)) (pgs_cons (pg_name (i := 9) nd rfl (Or.inl rfl)) pgs_nil))))
  (pss_cons (ps_if (pt_cmpR op_eq (pv 0) pe_str (nomark _)) (pss_one (ps_ret (pe_callB (call_max2 rfl) rfl T.max boot_max (pa_cons (pe_op op_mul (pe_op op_add (pv 6) (pv 7)) (pv 8)) (pa_cons (pe_op op_mul (pe_op op_add (pv 6) (pv 7)) (pv 9)) pa_nil))))) pss_nil)
  (pss_one (ps_ret (pe_op op_add (pe_op op_mul (pv 7) (pv 1)) (pe_callB (call_max2 rfl) rfl T.max boot_max (pa_cons (pe_op op_mul (pe_op op_sub (pv 6) (pv 7)) (pv 8)) (pa_cons (pe_op op_mul (pe_op op_sub (pv 6) (pv 7)) (pv 9)) pa_nil))))))))))), ?_⟩
  refine ⟨_, rfl, _, _, rfl, SqT.of hb, rfl, _, _, rfl, _, _, rfl, rfl, _, rfl, _, _, rfl, SqT.of hw, rfl, _, _, rfl, _, _, rfl, rfl, _, rfl, rfl, _, rfl, ite2 (fun c => ?_) (fun c => ?_)⟩
  · rw [dec_m] at c
    obtain rfl := of_decide_eq_true c
    have b1 := bnd_small s1
    have b2 := bnd_small s2
    refine ⟨_, rfl, _, rfl, _, _, _, _, rfl, rfl, SqT.of hp, rfl, _, _, rfl, rfl, cmul_r b1.1.1 b1.1.2, _, rfl, _, rfl, _, _, _, _, rfl, rfl, SqT.of hp, rfl, _, _, rfl, rfl, cmul_r b1.2.1 b1.2.2, _, _, rfl,
      _, rfl, _, rfl, _, _, _, _, rfl, rfl, SqT.of hq, rfl, _, _, rfl, rfl, cmul_r b2.1.1 b2.1.2, _, rfl, _, rfl, _, _, _, _, rfl, rfl, SqT.of hq, rfl, _, _, rfl, rfl, cmul_r b2.2.1 b2.2.2, _, _, rfl, _, _, rfl, rfl, ?_⟩
    exact k H (Same.refl _)
  · rw [dec_m] at c
    refine ⟨_, rfl, _, rfl, _, rfl, _, rfl, d, p, q, _, _, rfl, hp, hq, fun r H1 sm hr => ?_⟩
    have b1 := tieB_small d s1 s2
    refine ⟨_, _, rfl, SqT.of hr, rfl, _, _, rfl, _, _, rfl, rfl, _, rfl, rfl, _, rfl, ite2 (fun c2 => ?_) (fun c2 => ?_)⟩
    · rw [dec_n] at c2
      obtain rfl := of_decide_eq_true c2
      refine ⟨_, rfl, _, rfl, _, _, rfl, rfl, _, rfl, _, _, rfl, rfl, cmul_r b1.1.1 b1.1.2, _, rfl, _, rfl, _, _, rfl, rfl, _, rfl, _, _, rfl, rfl, cmul_r b1.2.1 b1.2.2, _, _, rfl, ?_⟩
      exact k H1 sm
    · rw [dec_n] at c2
      have hd : d = .a := by cases d <;> first | rfl | exact (c (by decide)).elim | exact (c2 (by decide)).elim
      subst hd
      refine ⟨_, rfl, _, rfl, _, _, rfl, rfl, cmul_r (by decide) (by decide), _, rfl, _, rfl, _, _, rfl, rfl, _, rfl, _, _, rfl, rfl, cmul_r b1.1.1 b1.1.2, _, rfl, _, rfl, _, _, rfl, rfl, _, rfl, _, _, rfl, rfl, cmul_r b1.2.1 b1.2.2, _, _, rfl, _, _, rfl, rfl, ?_⟩
      exact k H1 sm
end
end K31

set_option autoImplicit true
set_option Elab.async false
set_option autoImplicit false
set_option linter.all false
set_option maxRecDepth 100000
set_option maxHeartbeats 4000000
namespace K31
open PySem PySem.Spec PyProof.Rows L2
/-! the class Pipes as far as it is reached; torn_ties -/
structure PiAt {K : PySem.W.Frag} {mg : Str → Option Value} (T : Fx K mg) (H : Hp) (p b : Addr) (B : Bk) : Prop where
  book : Fld K H p "book" (.ref b)
  at_ : BookAt K H b B
  scale : Fld K H p "scale" (.int 1)
  lows : ∃ v, Fld K H p "lows" v ∧ Td H (loD B) v
  highs : ∃ v, Fld K H p "highs" v ∧ Td H (hiD B) v
  me : ∀ m ∈ [("bounds" : Str), "is_torn_at"], Is H p T.cPi m
theorem PiAt.mono {K : PySem.W.Frag} {mg : Str → Option Value} {T : Fx K mg} {H H' : Hp} {p b : Addr} {B : Bk} (h : PiAt T H p b B) (k : Same H H') : PiAt T H' p b B :=
  ⟨h.book.mono k, h.at_.mono k, h.scale.mono k, let ⟨v, a, c⟩ := h.lows; ⟨v, a.mono k, c.mono k⟩, let ⟨v, a, c⟩ := h.highs; ⟨v, a.mono k, c.mono k⟩, fun m hm => (h.me m hm).mono k⟩
/-- a place in a table -/
structure Cell (H : Hp) (v : V) (r m : Nat) (z : Int) : Prop where
  ex : ∃ a vs c ws, v = .ref a ∧ H a = some (.lst vs) ∧ vs[r]? = some (.ref c) ∧ H c = some (.lst ws) ∧ ws[m]? = some (.int z)
theorem tab_at {H : Hp} {g : Sg → Int} {B : Bk} {v : V} (h : Td H (.l (B.mks.map fun l => .l (l.map fun s => .i (g s)))) v) (O : B.Ok) {r m : Nat} (hr : r < 2 ^ B.many) (hm : m < B.many) : Cell H v r m (g (B.sg r m)) := by
  obtain ⟨a, vs, rfl, h1, h2⟩ := h.lst
  have hr' : r < B.mks.length := by rw [O.lm]; exact hr
  obtain ⟨u, h3, h4⟩ := h2.get (i := r) (by rw [List.getElem?_map, some_of_lt [] hr']; rfl)
  obtain ⟨c, ws, rfl, h5, h6⟩ := h4.lst
  have hm' : m < (B.mks.getD r []).length := by rw [O.lr _ (getD_mem hr')]; exact hm
  obtain ⟨y, h7, h8⟩ := h6.get (i := m) (by rw [List.getElem?_map, some_of_lt .dot hm']; rfl)
  obtain rfl := h8.int
  exact ⟨a, vs, c, ws, rfl, h1, h3, h5, h7⟩
theorem du_ix {l : List Du} {i : Nat} (h : i < l.length) : atI (duS l).cps.toList ((i : Nat) : Int) = some (l.getD i .m).c := by
  refine atI_nat ?_
  show (l.map Du.c).toArray.toList[i]? = _
  rw [List.getElem?_map, some_of_lt .m h]; rfl
theorem du_len {B : Bk} (O : B.Ok) : (duS B.du).length ≤ sizeLine := by
  have h1 : (duS B.du).length = B.many := by show (duS B.du).cps.size = _; rw [du_size, O.ld]
  have := sizeLine_eq
  have := O.m4
  omega
section
variable {P : Program} {w : World} {K : PySem.W.Frag} {mg : Str → Option Value} {base : Heap}
def spPiB (T : Fx K mg) : Sp := fun vs H Q _ => ∃ (p b : Addr) (B : Bk) (r m : Nat), vs = [.ref p, .int r, .int m] ∧ PiAt T H p b B ∧ B.Ok ∧ r < 2 ^ B.many ∧ m < B.many ∧ ∀ q H', Same H H' → Two H' q (bnd (B.sg r m)) → Q (.ref q) H'
theorem sc_pipes_bounds : FnScope ["self", "row", "member"] ["self", "row", "member"] (defScope s_pipes_bounds) := ⟨rfl, rfl, rfl, by decide +kernel, rfl, by decide +kernel, by decide +kernel⟩
theorem c_pipes_bounds (T : Fx K mg) (F : MetAt K T.cPi "bounds" "Pipes.bounds" s_pipes_bounds) : Met P w K mg base CX0 1 T.cPi "bounds" ["self", "row", "member"] (spPiB T) := by
  refine met_of F sc_pipes_bounds (fun _ _ _ _ _ _ _ us hl => match us, hl with | [_, _, _], _ => rfl) (fun vs H Q E h => ?_) (fun f cdv A outer s H vs Q E hr h => ?_)
  · obtain ⟨p, b, B, r, m, rfl, hP, O, hr', hm, k⟩ := h
    rfl
  obtain ⟨p, b, B, r, m, rfl, hP, O, hr', hm, k⟩ := h
  have hu := hu_of hr
  have nd := sc_pipes_bounds.nd
  refine ⟨_, (pss_one (ps_ret (pe_tup (pa_cons (pe_ix ix_list (pe_ix ix_list (pe_f (pv 0)) (pv 1) (fun _ _ => rfl)) (pv 2) (fun _ _ => rfl)) (pa_cons (pe_ix ix_list (pe_ix ix_list (pe_f (pv 0)) (pv 1) (fun _ _ => rfl)) (pv 2) (fun _ _ => rfl)) pa_nil))))), ?_⟩
  obtain ⟨vl, fl, tl⟩ := hP.lows
  obtain ⟨vh, fh, th⟩ := hP.highs
  obtain ⟨a1, vs1, c1, ws1, rfl, x1, x2, x3, x4⟩ := (tab_at tl O hr' hm).ex
  obtain ⟨a2, vs2, c2, ws2, rfl, y1, y2, y3, y4⟩ := (tab_at th O hr' hm).ex
  refine ⟨_, rfl, p, _, rfl, fl, _, rfl, _, _, _, _, rfl, rfl, SqL.of x1, atI_nat x2, _, rfl, _, _, _, _, rfl, rfl, SqL.of x3, atI_nat x4, _, rfl, p, _, rfl, fh, _, rfl, _, _, _, _, rfl, rfl, SqL.of y1, atI_nat y2, _, rfl, _, _, _, _, rfl, rfl, SqL.of y3, atI_nat y4, (by show 2 ≤ sizeLine; decide), fun q hq => ?_⟩
  exact k _ _ (same_new hq) upd_same
def spPiT (T : Fx K mg) : Sp := fun vs H Q _ => ∃ (p b : Addr) (B : Bk) (r m o : Nat), vs = [.ref p, .int r, .int m, .int o] ∧ PiAt T H p b B ∧ B.Ok ∧ r < 2 ^ B.many ∧ m < B.many ∧ o < 2 ^ B.many ∧ ∀ H', Same H H' → Q (.bl (tornB (B.d m) (bnd (B.sg r m)) (bnd (B.sg o m)))) H'
theorem sc_pipes_is_torn_at : FnScope ["self", "row", "member", "other", "duty"] ["self", "row", "member", "other"] (defScope s_pipes_is_torn_at) := ⟨rfl, rfl, rfl, by decide +kernel, rfl, by decide +kernel, by decide +kernel⟩
theorem c_pipes_is_torn_at (T : Fx K mg) (F : MetAt K T.cPi "is_torn_at" "Pipes.is_torn_at" s_pipes_is_torn_at) (c_is_torn : Cal P w K mg base CX0 2 "is_torn" ["duty", "scale", "one", "other"] (spTorn)) (c_pipes_bounds : Met P w K mg base CX0 1 T.cPi "bounds" ["self", "row", "member"] (spPiB T)) : Met P w K mg base CX0 3 T.cPi "is_torn_at" ["self", "row", "member", "other"] (spPiT T) := by
  refine met_of F sc_pipes_is_torn_at (fun _ _ _ _ _ _ _ us hl => match us, hl with | [_, _, _, _], _ => rfl) (fun vs H Q E h => ?_) (fun f cdv A outer s H vs Q E hr h => ?_)
  · obtain ⟨p, b, B, r, m, o, rfl, hP, O, hr', hm, ho, k⟩ := h
    rfl
  obtain ⟨p, b, B, r, m, o, rfl, hP, O, hr', hm, ho, k⟩ := h
  have hu := hu_of hr
  have nd := sc_pipes_is_torn_at.nd
  refine ⟨_, (pss_cons (ps_set (i := 4) nd rfl (Or.inl rfl) (pe_ix ix_str (pe_f (pe_f (pv 0))) (pv 2) (fun _ _ => rfl)))
  (pss_one (ps_ret (pe_k c_is_torn hr (by decide) pass0 (pa_cons (pv 4) (pa_cons (pe_f (pv 0)) (pa_cons (pe_m c_pipes_bounds hr (by decide) pass0 (pv 0) (pa_cons (pv 1) (pa_cons (pv 2) pa_nil))) (pa_cons (pe_m c_pipes_bounds hr (by decide) pass0 (pv 0) (pa_cons (pv 3) (pa_cons (pv 2) pa_nil))) pa_nil)))))))), ?_⟩
  have hd : m < B.du.length := by rw [O.ld]; exact hm
  refine ⟨_, rfl, p, _, rfl, hP.book, b, _, rfl, hP.at_.duties, _, rfl, _, _, _, rfl, rfl, du_len O, du_ix hd, ?_⟩
  refine ⟨_, rfl, _, rfl, p, _, rfl, hP.scale, _, rfl, p, rfl, hP.me _ (by simp), _, rfl, _, rfl, p, b, B, r, m, rfl, hP, O, hr', hm, fun q1 H1 s1 h1 => ?_⟩
  refine ⟨_, rfl, p, rfl, (hP.mono s1).me _ (by simp), _, rfl, _, rfl, p, b, B, o, m, rfl, hP.mono s1, O, ho, hm, fun q2 H2 s2 h2 => ?_⟩
  exact ⟨B.d m, q1, q2, _, _, rfl, s2 _ _ h1, h2, fun H3 s3 => k H3 ((s1.trans s2).trans s3)⟩
def spPiI (T : Fx K mg) : Sp := fun vs H Q _ => ∃ (p b dx : Addr) (B : Bk), vs = [.ref p, .ref b, .int 1, .non, .non] ∧ H p = some (.ins T.cPi dx []) ∧ BookAt K (off [p] H) b B ∧ B.Ok ∧
  ∀ H' l xs, Same (off [p] H) H' → Fld K H' p "torn" (.ref l) → H' l = some (.lst xs) → xs.length = B.torn.length → Q .non H'
theorem sc_pipes_init : FnScope ["self", "book", "scale", "lows", "highs", "row", "member", "other"] ["self", "book", "scale", "lows", "highs"] (defScope s_pipes_init) := ⟨rfl, rfl, rfl, by decide +kernel, rfl, by decide +kernel, by decide +kernel⟩
theorem c_pipes_init (T : Fx K mg) (F : MakAt K mg "Pipes" T.cPi "Pipes.__init__" s_pipes_init) (c_mark_bounds : Cal P w K mg base CX0 1 "mark_bounds" ["book", "scale"] (spMarkB K)) (c_own_ties : Cal P w K mg base CX0 3 "own_ties" ["book"] (spTies K)) (c_pipes_is_torn_at : Met P w K mg base CX0 3 T.cPi "is_torn_at" ["self", "row", "member", "other"] (spPiT T)) : Mak P w K mg base CX0 4 "Pipes" T.cPi ["self", "book", "scale", "lows", "highs"] (spPiI T) := by
  refine mak_of F sc_pipes_init (fun _ _ _ _ _ _ _ us hl => match us, hl with | [_, _, _, _, _], _ => rfl) (fun vs H Q E h => ?_) (fun f cdv A outer s H vs Q E hr h => ?_)
  · obtain ⟨p, b, dx, B, rfl, hp, hB, O, k⟩ := h
    rfl
  obtain ⟨p, b, dx, B, rfl, hp, hB, O, k⟩ := h
  have hu := hu_of hr
  have nd := sc_pipes_init.nd
  refine ⟨_, (pss_cons (ps_ini (pv 0) (pv 1) rfl)
  (pss_cons (ps_ini (pv 0) (pv 2) rfl)
  (pss_cons (ps_if (pt_cmp (pc_isN (pv 3))) (pss_one (ps_asg (pe_k c_mark_bounds hr (by decide) pass0 (pa_cons (pv 1) (pa_cons (pv 2) pa_nil))) (pg_tup rfl (pgs_cons (pg_name (i := 3) nd rfl (Or.inl rfl)) (pgs_cons (pg_name (i := 4) nd rfl (Or.inl rfl)) pgs_nil))))) pss_nil)
  (pss_cons (ps_ini (pv 0) (pv 3) rfl)
  (pss_cons (ps_ini (pv 0) (pv 4) rfl)
  (pss_cons (ps_ini (pv 0) (pe_ix ix_tup (pe_glob (v := .ref T.aP) rfl T.pow rfl) (pe_f (pv 1)) (fun _ _ => rfl)) rfl)
  (pss_cons (ps_ini (pv 0) (pe_op op_add (pe_f (pv 0)) pe_int) rfl)
  (pss_cons (ps_ini (pv 0) (pe_lst pa_nil) rfl)
  (pss_cons (ps_ini (pv 0) pe_dnewT rfl)
  (pss_cons (ps_ini (pv 0) (pe_lc (own := [("row", 5), ("member", 6), ("other", 7)]) (g := gTup K 3 (gCons (gName 5) (gCons (gName 6) (gCons (gName 7) gNil)))) rfl nd (pi_list (pe_k c_own_ties hr (by decide) pass0 (pa_cons (pv 1) pa_nil))) (blkOk_by (by rfl)) (fun _ _ _ _ _ => (pg_tup rfl (pgs_cons (pg_name (i := 5) nd rfl (Or.inl rfl)) (pgs_cons (pg_name (i := 6) nd rfl (Or.inl rfl)) (pgs_cons (pg_name (i := 7) nd rfl (Or.inl rfl)) pgs_nil))))) (fun _ _ _ _ _ => (pts_one (pt_val (pe_m c_pipes_is_torn_at hr (by decide) pass0 (pv 0) (pa_cons (pv 5) (pa_cons (pv 6) (pa_cons (pv 7) pa_nil))))))) (fun _ _ _ _ _ => (pe_tup (pa_cons (pv 5) (pa_cons (pv 6) pa_nil))))) rfl)
  (pss_one (ps_ini (pv 0) pe_non rfl)))))))))))), ?_⟩
  have hp0 : H p = some (.ins T.cPi dx (List.zip [] [])) := hp
  have NA : ∀ f, f ∈ [("book" : Str), "scale", "lows", "highs", "ground", "size", "lines", "picks", "torn", "net"] → NoAttr K T.cPi f := T.naPi
  refine ⟨_, rfl, _, rfl, p, _, dx, _, _, rfl, hp0, rfl, (by decide +kernel), (by decide), T.clPi, NA _ (by simp), fun H1 o1 e1 => ?_⟩
  refine ⟨_, rfl, _, rfl, p, _, dx, _, _, rfl, o1, rfl, (by decide +kernel), (by decide), T.clPi, NA _ (by simp), fun H2 o2 e2 => ?_⟩
  have s2 : Same (off [p] H) H2 := by rw [← e1, ← e2]; exact off_le
  refine ⟨_, rfl, _, rfl, ?_⟩
  refine ⟨_, rfl, _, rfl, b, B, rfl, hB.mono s2, O, fun v H3 s3 t3 => ?_⟩
  have t3 := t3.mono nu_le
  obtain ⟨am, vm, rfl, hm, tm⟩ := t3.tup
  cases tm with | cons tL tm =>
  cases tm with | cons tH tm =>
  cases tm
  rename_i vL vH
  refine ⟨am, _, rfl, SqT.of hm, rfl, _, _, rfl, _, _, rfl, rfl, ?_⟩
  have o3 := s3 _ _ o2
  have s03 : Same (off [p] H) (off [p] H3) := by rw [← e1, ← e2]; exact kp_of s3
  have tL' : Td (off [p] H3) (loD B) vL := td_off1 o3 tL
  have tH' : Td (off [p] H3) (hiD B) vH := td_off1 o3 tH
  refine ⟨_, rfl, _, rfl, p, _, dx, _, _, rfl, o3, rfl, (by decide +kernel), (by decide), T.clPi, NA _ (by simp), fun H4 o4 e4 => ?_⟩
  refine ⟨_, rfl, _, rfl, p, _, dx, _, _, rfl, o4, rfl, (by decide +kernel), (by decide), T.clPi, NA _ (by simp), fun H5 o5 e5 => ?_⟩
  have hB3 : BookAt K (off [p] H3) b B := hB.mono s03
  rw [← e4, ← e5] at tL' tH' hB3 s03
  have hB5 := hB3.mono off_le
  refine ⟨_, rfl, b, _, rfl, hB5.many, _, _, _, _, rfl, rfl, T.powT _, pow_at O.m8, _, rfl, p, _, dx, _, _, rfl, o5, rfl, (by decide +kernel), (by decide), T.clPi, NA _ (by simp), fun H6 o6 e6 => ?_⟩
  refine ⟨_, rfl, p, _, rfl, ⟨_, dx, _, o6, T.clPi, NA _ (by simp), lookup_zip (i := 4) (by decide +kernel) rfl rfl⟩, _, _, rfl, rfl, _, rfl, p, _, dx, _, _, rfl, o6, rfl, (by decide +kernel), (by decide), T.clPi, NA _ (by simp), fun H7 o7 e7 => ?_⟩
  refine ⟨Nat.zero_le _, fun q1 n1 => ⟨_, rfl, p, _, dx, _, _, rfl, by rw [upd_ne (ne_of_none o7 n1)]; exact o7, rfl, (by decide +kernel), (by decide), T.clPi, NA _ (by simp), fun H8 o8 e8 => ?_⟩⟩
  refine fun q2 n2 => ⟨_, rfl, p, _, dx, _, _, rfl, by rw [upd_ne (ne_of_none o8 n2)]; exact o8, rfl, (by decide +kernel), (by decide), T.clPi, NA _ (by simp), fun H9 o9 e9 => ?_⟩
  have s79 : Same (off [p] H7) (off [p] H9) := by rw [e9]; exact Same.trans (by rw [e8]; exact kp_of (same_new n1)) (kp_of (same_new n2))
  rw [← e6, ← e7] at tL' tH' hB3 s03
  have tL9 := tL'.mono s79
  have tH9 := tH'.mono s79
  have hB9 := hB3.mono s79
  have s09 := s03.trans s79
  have F9 : ∀ {f : Str} {i : Nat} {v : V} (hf : f ∈ [("book" : Str), "scale", "lows", "highs", "ground", "size", "lines", "picks", "torn", "net"]) (hi : [("book" : Str), "scale", "lows", "highs", "ground", "size", "lines", "picks"][i]? = some f)
      (hv : [V.ref b, .int 1, vL, vH, .int ((2 ^ B.many : Nat) : Int), .int (((2 ^ B.many : Nat) : Int) + 1), .ref q1, .ref q2][i]? = some v), Fld K H9 p f v := fun hf hi hv =>
    ⟨_, dx, _, o9, T.clPi, NA _ hf, (lookup_zip (by decide +kernel) rfl hi).trans hv⟩
  have hP : PiAt T H9 p b B := ⟨F9 (i := 0) (by simp) rfl rfl, hB9.mono off_le, F9 (i := 1) (by simp) rfl rfl, ⟨vL, F9 (i := 2) (by simp) rfl rfl, tL9.mono off_le⟩, ⟨vH, F9 (i := 3) (by simp) rfl rfl, tH9.mono off_le⟩, fun m hm => ⟨dx, _, o9, lookup_zip_none (by revert m; decide +kernel)⟩⟩
  refine ⟨_, rfl, b, B, rfl, hB9.mono off_le, O, fun vt H10 s10 t10 _ => ?_⟩
  obtain ⟨at_, vts, rfl, ht, tt⟩ := t10.lst
  have hlen : vts.length = (ties B.many).length := by rw [tt.length, List.length_map]
  refine ⟨at_, rfl, ⟨_, SqL.of ht⟩, fun q3 n3 => lc_by walk_list (fun i acc H11 => Same H10 H11 ∧ acc.length = (((ties B.many).take i).filterMap fun t => if tornB (B.d t.2.1) (bnd (B.sg t.1 t.2.1)) (bnd (B.sg t.2.2 t.2.1)) then some (t.1, t.2.1) else none).length) n3 ⟨Same.refl _, rfl⟩ (fun i acc H11 q => SqL.of (off_le _ _ (q.1 _ _ ht))) ?_ ?_⟩
  · rintro i acc x _ H11 hi hl ⟨s11, hacc⟩ hq ⟨rfl, hx⟩
    have hi' : i < (ties B.many).length := by rw [← hlen]; exact hi
    obtain ⟨d, hd, td⟩ := tt.at hx
    rw [List.getElem?_map, List.getElem?_eq_getElem hi'] at hd
    obtain rfl := Option.some.inj hd
    obtain ⟨z1, z2, z3, _⟩ := ties_lt O.m1 O.m4 _ (List.getElem_mem hi')
    generalize htd : (ties B.many)[i] = t at *
    obtain ⟨r, m, o⟩ := t
    obtain ⟨ta, tvs, rfl, hta, ttd⟩ := td.tup
    have s1011 : Same H10 H11 := s11.trans off_le
    have e3 : tvs = [V.int r, .int m, .int o] := by
      cases ttd with | cons a1 r1 => cases r1 with | cons a2 r2 => cases r2 with | cons a3 r3 => cases r3; rw [a1.int, a2.int, a3.int]
    subst e3
    have eT : ∀ (c : Bool), tornB (B.d m) (bnd (B.sg r m)) (bnd (B.sg o m)) = c → (((ties B.many).take (i + 1)).filterMap fun t => if tornB (B.d t.2.1) (bnd (B.sg t.1 t.2.1)) (bnd (B.sg t.2.2 t.2.1)) then some (t.1, t.2.1) else none).length =
        (((ties B.many).take i).filterMap fun t => if tornB (B.d t.2.1) (bnd (B.sg t.1 t.2.1)) (bnd (B.sg t.2.2 t.2.1)) then some (t.1, t.2.1) else none).length + if c then 1 else 0 := fun c hc => by
      rw [List.take_succ, List.getElem?_eq_getElem hi', htd, List.filterMap_append, List.length_append]
      cases c <;> simp [hc]
    refine ⟨ta, _, rfl, SqT.of (s1011 _ _ hta), rfl, _, _, rfl, _, _, rfl, _, _, rfl, rfl, rfl, ?_⟩
    refine ⟨_, rfl, p, rfl, (hP.mono (s10.trans s1011)).me _ (by simp), _, rfl, _, rfl, _, rfl, p, b, B, r, m, o, rfl, hP.mono (s10.trans s1011), O, z1, z2, z3, fun H12 s12 => ⟨_, rfl, ite2 (fun c => ?_) (fun c => ?_)⟩⟩
    · refine ⟨_, rfl, _, rfl, (by show 2 ≤ sizeLine; decide), fun q4 n4 => ?_⟩
      have hq4 : (upd H12 q4 (.tup [.int (r : Nat), .int (m : Nat)])) q3 = some (.lst acc) := by rw [upd_ne (ne_of_none (s12 _ _ hq) n4)]; exact s12 _ _ hq
      refine LcS.add hq4 hl ?_ ⟨s11.trans (kp_of (s12.trans (same_new n4))), ?_⟩
      · have := ties_len O.m1 O.m4; have := sizeLine_eq; omega
      · rw [List.length_append, hacc, eT true c]; rfl
    · refine LcS.skip (s12 _ _ hq) hl ⟨s11.trans (kp_of s12), ?_⟩
      rw [hacc, eT false (Bool.eq_false_iff.mpr c)]; rfl
  · rintro acc H11 hq ⟨s11, hacc⟩
    have s1011 : Same H10 H11 := s11.trans off_le
    have o11 := s1011 _ _ (s10 _ _ o9)
    refine ⟨_, rfl, p, _, dx, _, _, rfl, o11, rfl, (by decide +kernel), (by decide), T.clPi, NA _ (by simp), fun H12 o12 e12 => ?_⟩
    refine ⟨_, rfl, p, _, dx, _, _, rfl, o12, rfl, (by decide +kernel), (by decide), T.clPi, NA _ (by simp), fun H13 o13 e13 => ?_⟩
    have hpq : q3 ≠ p := ne_of hq o11 (by intro z; cases z)
    have s13 : Same (off [p] H) (off [p] H13) := by rw [e13, e12]; exact s09.trans (kp_of (s10.trans s1011))
    have hq13 : off [p] H13 q3 = some (.lst acc) := by rw [e13, e12]; exact off_of hq (by simpa using hpq)
    refine k _ q3 acc (s13.trans off_le) ⟨_, dx, _, o13, T.clPi, NA _ (by simp), lookup_zip (i := 8) (by decide +kernel) rfl rfl⟩ (off_le _ _ hq13) ?_
    rw [hacc, hlen, List.take_length]; rfl
def spTornT (K : PySem.W.Frag) : Sp := fun vs H Q _ => ∃ (b : Addr) (B : Bk), vs = [.ref b] ∧ BookAt K H b B ∧ B.Ok ∧ ∀ H' l xs, Same H H' → H' l = some (.lst xs) → xs.length = B.torn.length → Q (.ref l) H'
theorem sc_torn_ties : FnScope ["book"] ["book"] (defScope s_torn_ties) := ⟨rfl, rfl, rfl, by decide +kernel, rfl, by decide +kernel, by decide +kernel⟩
theorem c_torn_ties (T : Fx K mg) (F : DefAt K mg "torn_ties" "torn_ties" s_torn_ties) (c_pipes_init : Mak P w K mg base CX0 4 "Pipes" T.cPi ["self", "book", "scale", "lows", "highs"] (spPiI T)) : Cal P w K mg base CX0 6 "torn_ties" ["book"] (spTornT K) := by
  refine cal_of F sc_torn_ties (fun _ _ _ _ _ _ _ us hl => match us, hl with | [_], _ => rfl) (fun vs H Q E h => ?_) (fun f cdv A outer s H vs Q E hr h => ?_)
  · obtain ⟨b, B, rfl, hB, O, k⟩ := h
    rfl
  obtain ⟨b, B, rfl, hB, O, k⟩ := h
  have hu := hu_of hr
  have nd := sc_torn_ties.nd
  refine ⟨_, (pss_one (ps_ret (pe_f (pe_mk c_pipes_init hr (by decide) pass0 (pa_cons (pv 0) (pa_cons pe_int (pa_cons pe_non (pa_cons pe_non pa_nil)))))))), ?_⟩
  refine ⟨_, rfl, ?_⟩
  intro x dx n1 n2 n3
  have s1 : Same H (upd (upd H dx (.own x)) x (.ins T.cPi dx [])) := (same_new n2).trans (same_new (by rw [upd_ne (Ne.symm n3)]; exact n1))
  have s2 : Same H (off [x] (upd (upd H dx (.own x)) x (.ins T.cPi dx []))) := same_off n1 s1
  refine ⟨x, b, dx, B, rfl, upd_same, hB.mono s2, O, fun H' l xs s3 f3 h3 e3 => ⟨rfl, ?_⟩⟩
  exact ⟨x, _, rfl, f3, k H' l xs (s2.trans s3) h3 e3⟩
end
end K31

set_option autoImplicit true
set_option Elab.async false
set_option autoImplicit false
set_option linter.all false
set_option maxRecDepth 100000
set_option maxHeartbeats 4000000
namespace K31
open PySem PySem.Spec PyProof.Rows L2
/-! prices: the checks, price_of, least_of_tie, reach -/
/-- a walk of any kind, by what holds at each turn -/
theorem it_gen {J : It} {n : Nat} {G : Hp → Prop} {Y : Nat → Hp → V → Hp → Prop} (wk : Walk J n G Y) {C : V → Hp → (Hp → Prop) → Prop} {H0 : Hp} {Qd : Hp → Prop} (S : Nat → Hp → Prop) (h0 : S 0 H0) (hG : ∀ i H, S i H → G H)
    (hs : ∀ i x H H', i < n → S i H → Y i H x H' → C x H' (S (i + 1))) (hd : ∀ H, S n H → Qd H) :
    ∃ W : Nat → Nat → Hp → Prop, (∃ m, W 0 m H0) ∧ ∀ i m H, W i m H → (J.stop i H ∧ Qd H) ∨ (J.go i H ∧ ∃ Nx : Hp → Prop, (∀ H', Nx H' → ∃ m', m' < m ∧ W (i + 1) m' H') ∧ ∀ x H', J.yld i H x H' → C x H' Nx) := by
  refine ⟨fun i m H => i + m = n ∧ S i H, ⟨n, by omega, h0⟩, fun i m H hw => ?_⟩
  obtain ⟨e, p⟩ := hw
  cases m with
  | zero =>
    have e : i = n := by omega
    subst e
    exact .inl ⟨wk.stops H (hG i H p), hd H p⟩
  | succ m =>
    have hlt : i < n := by omega
    exact .inr ⟨wk.goes i H hlt (hG i H p), S (i + 1), fun H' p' => ⟨m, Nat.lt_succ_self m, by omega, p'⟩, fun x H' y => hs i x H H' hlt p (wk.yields i H x H' hlt (hG i H p) y)⟩
section
variable {X : Cx} {tg l e : Expr} {tl ta : TE}
theorem ix_listK (K : PySem.W.Frag) (h : X.K = K := by rfl) : IxR X (rIxL K) := h ▸ ix_list
theorem ix_tupK (K : PySem.W.Frag) (h : X.K = K := by rfl) : IxR X (rIxT K) := h ▸ ix_tup
theorem pi_tupK (K : PySem.W.Frag) (hl : PE X l tl) (h : X.K = K := by rfl) : PI X tg l (iTup K tl) := h ▸ pi_tup hl
theorem pi_listK (K : PySem.W.Frag) (hl : PE X l tl) (h : X.K = K := by rfl) : PI X tg l (iList K tl) := h ▸ pi_list hl
theorem pe_fK (K : PySem.W.Frag) {f : Str} {pos : Pos} (he : PE X e ta) (h : X.K = K := by rfl) (hb : attributeBase e f X.env (eval e X.env) = eval e X.env := by rfl) : PE X (.Attribute e f pos) (tF K ta f) := h ▸ pe_f he hb
theorem op_in_seqK (K : PySem.W.Frag) (h : X.K = K := by rfl) : OpR X (compareOp .In) (rIn K false) := h ▸ op_in_seq
theorem op_eqDK (K : PySem.W.Frag) (hu : X.A.units + 64 < cLine) (h : X.K = K := by rfl) : OpR X (compareOp .Eq) (rEqD K) := h ▸ op_eqD hu
theorem cr_sortedK (K : PySem.W.Frag) (h : X.K = K := by rfl) : CallR X (.builtin "sorted") (rSorted K) := h ▸ cr_sorted
theorem call_tuple_ofK (K : PySem.W.Frag) (h : X.K = K := by rfl) : CallR X (.type "tuple") (fun xs H Q => ∃ p ys, xs = [.ref p] ∧ ((SqL K H p ys ∧ ∀ l, H l = none → Q (.ref l) (upd H l (.tup ys))) ∨ (SqT K H p ys ∧ Q (.ref p) H))) := h ▸ call_tuple_of
theorem call_len_seqK (K : PySem.W.Frag) (h : X.K = K := by rfl) : CallR X (.builtin "len") (fun xs H Q => ∃ p ys, xs = [.ref p] ∧ (SqL K H p ys ∨ SqT K H p ys) ∧ Q (.int ys.length) H) := h ▸ call_len_seq
end
/-- a new object is made -/
theorem disp {H : Hp} {o : HO} {Q : VK} (k : ∀ p H', Same H H' → H' p = some o → Q (.ref p) H') : ∀ p, H p = none → Q (.ref p) (upd H p o) := fun p n => k p _ (same_new n) upd_same
def prD (pr : List (List Int)) : D := .t (pr.map fun l => .t (l.map D.i))
structure PrOk (B : Bk) (pr : List (List Int)) : Prop where
  l : pr.length = 2 ^ B.many
  r : ∀ l ∈ pr, l.length = B.many
  b : ∀ l ∈ pr, ∀ x ∈ l, -1000 ≤ x ∧ x ≤ 1000
theorem pr_at {H : Hp} {B : Bk} {pr : List (List Int)} {v : V} (h : Td H (prD pr) v) (O : PrOk B pr) {r m : Nat} (hr : r < 2 ^ B.many) (hm : m < B.many) :
    ∃ a vs c ws, v = .ref a ∧ H a = some (.tup vs) ∧ vs[r]? = some (.ref c) ∧ H c = some (.tup ws) ∧ ws[m]? = some (.int (prAt pr r m)) := by
  obtain ⟨a, vs, rfl, h1, h2⟩ := h.tup
  have hr' : r < pr.length := by rw [O.l]; exact hr
  obtain ⟨u, h3, h4⟩ := h2.get (i := r) (by rw [List.getElem?_map, some_of_lt [] hr']; rfl)
  obtain ⟨c, ws, rfl, h5, h6⟩ := h4.tup
  have hm' : m < (pr.getD r []).length := by rw [O.r _ (getD_mem hr')]; exact hm
  obtain ⟨y, h7, h8⟩ := h6.get (i := m) (by rw [List.getElem?_map, some_of_lt 0 hm']; rfl)
  obtain rfl := h8.int
  exact ⟨a, vs, c, ws, rfl, h1, h3, h5, h7⟩
theorem ints_at {l : List Int} {i : Nat} (h : i < l.length) : (l.map V.int)[i]? = some (.int (l.getD i 0)) := by rw [List.getElem?_map, some_of_lt 0 h]; rfl
theorem all_rep : ∀ n : Nat, (List.replicate n true).all id = true
  | 0 => rfl
  | n + 1 => by rw [List.replicate_succ, List.all_cons, all_rep n]; rfl
theorem rep_snoc {n : Nat} : (List.replicate n true).map V.bl ++ [V.bl true] = (List.replicate (n + 1) true).map V.bl := by
  rw [List.replicate_succ', List.map_append]; rfl
theorem many_len (B : Bk) (O : B.Ok) : B.many < sizeLine := by have := O.m4; have := sizeLine_eq; omega
theorem two_len (B : Bk) (O : B.Ok) : 2 ^ B.many < sizeLine := by have := two_le O; have := sizeLine_eq; omega
theorem dec_eq_true {a b : Int} (h : a = b) : decide (a = b) = true := decide_eq_true h
section
variable {P : Program} {w : World} {K : PySem.W.Frag} {mg : Str → Option Value} {base : Heap}
def spRow (K : PySem.W.Frag) : Sp := fun vs H Q _ => ∃ (b a : Addr) (B : Bk) (l : List Int), vs = [.ref b, .ref a] ∧ BookAt K H b B ∧ B.Ok ∧ H a = some (.tup (l.map V.int)) ∧ l.length = B.many ∧ (∀ x ∈ l, -1000 ≤ x ∧ x ≤ 1000) ∧ ∀ H', Same H H' → Q (.bl true) H'
theorem sc_is_price_row : FnScope ["book", "thing", "price"] ["book", "thing"] (defScope s_is_price_row) := ⟨rfl, rfl, rfl, by decide +kernel, rfl, by decide +kernel, by decide +kernel⟩
theorem c_is_price_row (T : Fx K mg) (F : DefAt K mg "is_price_row" "is_price_row" s_is_price_row) (c_is_table : Cal P w K mg base CX0 1 "is_table" ["thing", "size"] (spTable)) (c_is_within : Cal P w K mg base CX0 2 "is_within" ["thing", "least", "most"] (spWithin)) : Cal P w K mg base CX0 3 "is_price_row" ["book", "thing"] (spRow K) := by
  refine cal_of F sc_is_price_row (fun _ _ _ _ _ _ _ us hl => match us, hl with | [_, _], _ => rfl) (fun vs H Q E h => ?_) (fun f cdv A outer s H vs Q E hr h => ?_)
  · obtain ⟨b, a, B, l, rfl, hB, O, ha, hl, hb, k⟩ := h
    rfl
  obtain ⟨b, a, B, l, rfl, hB, O, ha, hl, hb, k⟩ := h
  have hu := hu_of hr
  have nd := sc_is_price_row.nd
  refine ⟨_, (pss_one (ps_ret (pe_and (pe_k c_is_table hr (by decide) pass0 (pa_cons (pv 1) (pa_cons (pe_f (pv 0)) pa_nil))) (pe_one (pe_callB (cr_all rfl) rfl T.all boot_all (pa_cons (pe_lc (own := [("price", 2)]) rfl nd (pi_tup (pv 1)) (blkOk_by (by rfl)) (fun _ _ _ _ _ => (pg_name (i := 2) nd rfl (Or.inl rfl))) (fun _ _ _ _ _ => pts_nil) (fun _ _ _ _ _ => (pe_k c_is_within hr (by decide) pass0 (pa_cons (pv 2) (pa_cons (pe_un un_neg (pe_g T.mp)) (pa_cons (pe_g T.mp) pa_nil)))))) pa_nil)))))), ?_⟩
  refine ⟨_, rfl, _, rfl, b, _, rfl, hB.many, a, _, _, rfl, ha, _, rfl, ?_⟩
  rw [List.length_map, hl, dec_eq_true rfl]
  refine iteT ⟨_, rfl, a, rfl, ⟨_, SqT.of ha⟩, fun q hq => lc_by walk_tup (fun i acc H3 => Same H H3 ∧ acc = (List.replicate i true).map V.bl) hq ⟨Same.refl _, rfl⟩ (fun i acc H3 p => SqT.of (off_le _ _ (p.1 _ _ ha))) ?_ ?_⟩
  · rintro i acc x _ H3 hi hle ⟨sm, rfl⟩ hq3 ⟨rfl, hx⟩
    have hi' : i < l.length := by simpa using hi
    rw [ints_at hi'] at hx
    obtain rfl := Option.some.inj hx
    have hx2 := hb _ (getD_mem (d := (0 : Int)) hi')
    refine ⟨rfl, _, rfl, _, rfl, _, _, _, rfl, ?_⟩
    rw [decide_eq_true hx2.1, decide_eq_true hx2.2]
    refine LcS.add hq3 hle (by have := many_len B O; omega) ⟨sm, rep_snoc⟩
  · rintro acc H3 hq3 ⟨sm, rfl⟩
    exact ⟨q, _, rfl, SqL.of hq3, by rw [all_rep]; exact k H3 (sm.trans off_le)⟩
def spPrices (K : PySem.W.Frag) : Sp := fun vs H Q _ => ∃ (b a : Addr) (B : Bk) (pr : List (List Int)), vs = [.ref b, .ref a] ∧ BookAt K H b B ∧ B.Ok ∧ Td H (prD pr) (.ref a) ∧ PrOk B pr ∧ ∀ H', Same H H' → Q .non H'
theorem sc_check_prices : FnScope ["book", "prices", "row"] ["book", "prices"] (defScope s_check_prices) := ⟨rfl, rfl, rfl, by decide +kernel, rfl, by decide +kernel, by decide +kernel⟩
theorem c_check_prices (T : Fx K mg) (F : DefAt K mg "check_prices" "check_prices" s_check_prices) (c_is_table : Cal P w K mg base CX0 1 "is_table" ["thing", "size"] (spTable)) (c_is_price_row : Cal P w K mg base CX0 3 "is_price_row" ["book", "thing"] (spRow K)) : Cal P w K mg base CX0 4 "check_prices" ["book", "prices"] (spPrices K) := by
  refine cal_of F sc_check_prices (fun _ _ _ _ _ _ _ us hl => match us, hl with | [_, _], _ => rfl) (fun vs H Q E h => ?_) (fun f cdv A outer s H vs Q E hr h => ?_)
  · obtain ⟨b, a, B, pr, rfl, hB, O, hP, OP, k⟩ := h
    rfl
  obtain ⟨b, a, B, pr, rfl, hB, O, hP, OP, k⟩ := h
  have hu := hu_of hr
  have nd := sc_check_prices.nd
  refine ⟨_, (pss_one (ps_if (PW.pt (pw_or (pt_not (pt_val (pe_k c_is_table hr (by decide) pass0 (pa_cons (pv 1) (pa_cons (pe_callB call_len_seq rfl T.len boot_len (pa_cons (pe_f (pv 0)) pa_nil)) pa_nil))))) (pw_or1 (pt_not (pt_val (pe_callB (cr_all rfl) rfl T.all boot_all (pa_cons (pe_lc (own := [("row", 2)]) rfl nd (pi_tup (pv 1)) (blkOk_by (by rfl)) (fun _ _ _ _ _ => (pg_name (i := 2) nd rfl (Or.inl rfl))) (fun _ _ _ _ _ => pts_nil) (fun _ _ _ _ _ => (pe_k c_is_price_row hr (by decide) pass0 (pa_cons (pv 0) (pa_cons (pv 2) pa_nil))))) pa_nil))))))) (pss_one ps_never) pss_nil)), ?_⟩
  obtain ⟨vc, fc, tc⟩ := hB.counts
  obtain ⟨ac, cs, rfl, hc, rc⟩ := tc.tup
  obtain ⟨a', xs, e', ha, ra⟩ := hP.tup
  obtain rfl := V.ref.inj e'
  have hcl : cs.length = 2 ^ B.many := by rw [rc.length, List.length_map, O.lc]
  have hxl : xs.length = 2 ^ B.many := by rw [ra.length, List.length_map, OP.l]
  refine ⟨_, rfl, _, rfl, b, _, rfl, fc, _, _, rfl, .inr (SqT.of hc), a, _, _, rfl, ha, _, rfl, ?_⟩
  rw [hcl, hxl, dec_eq_true rfl]
  refine iteF ⟨_, rfl, a, rfl, ⟨_, SqT.of ha⟩, fun q hq => lc_by walk_tup (fun i acc H3 => Same H H3 ∧ acc = (List.replicate i true).map V.bl) hq ⟨Same.refl _, rfl⟩ (fun i acc H3 p => SqT.of (off_le _ _ (p.1 _ _ ha))) ?_ ?_⟩
  · rintro i acc x _ H3 hi hle ⟨sm, rfl⟩ hq3 ⟨rfl, hx⟩
    obtain ⟨d, hd, td⟩ := ra.at hx
    have hi' : i < pr.length := by rw [hxl] at hi; rw [OP.l]; exact hi
    rw [List.getElem?_map, some_of_lt [] hi'] at hd
    obtain rfl := Option.some.inj hd
    obtain ⟨c, ws, rfl, hcw, rw'⟩ := td.tup
    obtain rfl := rw'.ints
    have sm3 : Same H H3 := sm.trans off_le
    have hmem := getD_mem (d := ([] : List Int)) hi'
    refine ⟨rfl, _, rfl, _, rfl, b, c, B, _, rfl, hB.mono sm3, O, sm3 _ _ hcw, OP.r _ hmem, OP.b _ hmem, fun H4 s4 => ?_⟩
    refine LcS.add (s4 _ _ hq3) hle (by have := two_len B O; omega) ⟨sm.trans (kp_of s4), rep_snoc⟩
  · rintro acc H3 hq3 ⟨sm, rfl⟩
    refine ⟨q, _, rfl, SqL.of hq3, _, rfl, ?_⟩
    rw [all_rep]
    exact iteF (k H3 (sm.trans off_le))
def ruleD (rule : List (List Nat)) : D := .t (rule.map fun l => .t (l.map fun m => .i (m : Nat)))
def rowPr (pr : List (List Int)) (r : Nat) (l : List Nat) : List Int := l.map fun m => prAt pr r m
def priceL (pr : List (List Int)) (rule : List (List Nat)) : Int := sumN rule.length fun r => (rowPr pr r (rule.getD r [])).sum
structure RuleOk (B : Bk) (rule : List (List Nat)) : Prop where
  l : rule.length = 2 ^ B.many
  m : ∀ l ∈ rule, l.length ≤ B.many ∧ ∀ x ∈ l, x < B.many
def upTo (pr : List (List Int)) (rule : List (List Nat)) (i : Nat) : List Int := (List.range i).flatMap fun r => rowPr pr r (rule.getD r [])
theorem upTo_succ (pr : List (List Int)) (rule : List (List Nat)) (i : Nat) : upTo pr rule (i + 1) = upTo pr rule i ++ rowPr pr i (rule.getD i []) := by unfold upTo; rw [List.range_succ, List.flatMap_append]; simp
theorem upTo_sum (pr : List (List Int)) (rule : List (List Nat)) : ∀ i : Nat, (upTo pr rule i).sum = sumN i fun r => (rowPr pr r (rule.getD r [])).sum
  | 0 => rfl
  | i + 1 => by rw [upTo_succ, List.sum_append, upTo_sum pr rule i]; rfl
theorem upTo_len {pr : List (List Int)} {B : Bk} {rule : List (List Nat)} (R : RuleOk B rule) : ∀ i : Nat, i ≤ 2 ^ B.many → (upTo pr rule i).length ≤ i * B.many
  | 0, _ => by simp [upTo]
  | i + 1, h => by
    have h1 := upTo_len (pr := pr) R i (by omega)
    have h2 := (R.m _ (getD_mem (d := []) (show i < rule.length by rw [R.l]; omega))).1
    rw [upTo_succ, List.length_append, Nat.succ_mul]
    unfold rowPr
    rw [List.length_map]; omega
def spPriceOf : Sp := fun vs H Q _ => ∃ (ap ar : Addr) (B : Bk) (pr : List (List Int)) (rule : List (List Nat)), vs = [.ref ap, .ref ar] ∧ B.Ok ∧ Td H (prD pr) (.ref ap) ∧ PrOk B pr ∧ Td H (ruleD rule) (.ref ar) ∧ RuleOk B rule ∧ ∀ H', Same H H' → Q (.int (priceL pr rule)) H'
theorem sc_price_of : FnScope ["prices", "rule", "row", "picked", "member"] ["prices", "rule"] (defScope s_price_of) := ⟨rfl, rfl, rfl, by decide +kernel, rfl, by decide +kernel, by decide +kernel⟩
theorem c_price_of (T : Fx K mg) (F : DefAt K mg "price_of" "price_of" s_price_of) : Cal P w K mg base CX0 1 "price_of" ["prices", "rule"] spPriceOf := by
  refine cal_of F sc_price_of (fun _ _ _ _ _ _ _ us hl => match us, hl with | [_, _], _ => rfl) (fun vs H Q E h => ?_) (fun f cdv A outer s H vs Q E hr h => ?_)
  · obtain ⟨ap, ar, B, pr, rule, rfl, O, hP, OP, hR, OR, k⟩ := h
    rfl
  obtain ⟨ap, ar, B, pr, rule, rfl, O, hP, OP, hR, OR, k⟩ := h
  have hu := hu_of hr
  have nd := sc_price_of.nd
  refine ⟨_, (pss_one (ps_ret (pe_callB (cr_sum rfl) rfl T.sum boot_sum (pa_cons (pe_lc2 (own := [("row", 2), ("picked", 3), ("member", 4)]) (g := gTup K 2 (gCons (gName 2) (gCons (gName 3) gNil))) (vs1 := [4]) rfl nd (pi_enumT rfl T.enumerate (pa_cons (pv 1) pa_nil)) (blkOk_by (by rfl)) (by decide) (fun _ _ _ _ _ => (pg_tup rfl (pgs_cons (pg_name (i := 2) nd rfl (Or.inl rfl)) (pgs_cons (pg_name (i := 3) nd rfl (Or.inl rfl)) pgs_nil)))) (fun _ _ _ _ _ => pts_nil) (fun _ _ _ _ _ => (pi_tupK K (pv 3))) (fun _ _ _ _ _ => (pg_name (i := 4) nd rfl (Or.inl rfl))) (fun _ _ _ _ _ => pts_nil) (fun _ _ _ _ _ => (pe_ix (ix_tupK K) (pe_ix (ix_tupK K) (pv 0) (pv 2) (fun _ _ => rfl)) (pv 4) (fun _ _ => rfl)))) pa_nil)))), ?_⟩
  obtain ⟨a', xs, e', ha, ra⟩ := hR.tup
  obtain rfl := V.ref.inj e'
  have hxl : xs.length = 2 ^ B.many := by rw [ra.length, List.length_map, OR.l]
  have hbig : 2 ^ B.many * B.many ≤ 64 := Nat.le_trans (Nat.mul_le_mul (two_le O) O.m4) (by decide)
  refine ⟨_, rfl, ar, _, rfl, SqT.of ha, ?_⟩
  intro q hq
  refine it_gen walk_enumT (fun i H3 => Same H (off [q] H3) ∧ H3 q = some (.lst ((upTo pr rule i).map V.int))) ⟨by rw [off_upd, off_none hq]; exact Same.refl _, upd_same⟩ (fun i H3 p => SqT.of (off_le _ _ (p.1 _ _ ha))) ?_ ?_
  · rintro i x H3 _ hi ⟨sm, hq3⟩ ⟨U, x', y', rfl, hU, rfl, hx, hy⟩
    obtain rfl := Option.some.inj hx
    obtain ⟨d, hd, td⟩ := ra.at hy
    rw [hxl] at hi
    have hi' : i < rule.length := by rw [OR.l]; exact hi
    rw [List.getElem?_map, some_of_lt [] hi'] at hd
    obtain rfl := Option.some.inj hd
    obtain ⟨c, ws, rfl, hcw, rw'⟩ := td.tup
    generalize hl : rule.getD i [] = l at *
    have hmem : l ∈ rule := hl ▸ getD_mem hi'
    have hUq : q ≠ U := ne_of_none hq3 hU
    have sU : Same H3 (upd H3 U (.tup [.int (i : Nat), .ref c])) := same_new hU
    have hwl : ws.length = l.length := by rw [rw'.length, List.length_map]
    refine ⟨U, _, rfl, SqT.of upd_same, rfl, _, _, rfl, _, _, rfl, rfl, rfl, _, rfl, c, rfl, ⟨_, SqT.of (sU _ _ (off_le _ _ (sm _ _ hcw)))⟩, ?_⟩
    refine it_gen walk_tup (fun j H4 => Same H (off [q] H4) ∧ H4 q = some (.lst ((upTo pr rule i ++ rowPr pr i (l.take j)).map V.int))) ⟨sm.trans (kp_of sU), by rw [sU _ _ hq3]; simp [rowPr]⟩ (fun j H4 p => SqT.of (off_le _ _ (p.1 _ _ hcw))) ?_ ?_
    · rintro j y H4 _ hj ⟨sm4, hq4⟩ ⟨rfl, hy⟩
      rw [hwl] at hj
      obtain ⟨d, hd, td⟩ := rw'.at hy
      rw [List.getElem?_map, some_of_lt 0 hj] at hd
      obtain rfl := Option.some.inj hd
      obtain rfl := td.int
      have hm : l.getD j 0 < B.many := (OR.m _ hmem).2 _ (getD_mem hj)
      obtain ⟨a1, vs1, c1, ws1, e1, p1, p2, p3, p4⟩ := pr_at (hP.mono (sm4.trans off_le)) OP hi hm
      obtain rfl := V.ref.inj e1
      refine ⟨rfl, _, rfl, _, rfl, _, _, _, _, rfl, rfl, SqT.of p1, atI_nat p2, _, rfl, _, _, _, _, rfl, rfl, SqT.of p3, atI_nat p4, _, hq4, ?_, ?_, ?_⟩
      · have h1 := upTo_len (pr := pr) OR i (by omega)
        have h2 := (OR.m _ hmem).1
        have h3 : i * B.many + B.many ≤ 2 ^ B.many * B.many := by rw [← Nat.succ_mul]; exact Nat.mul_le_mul_right _ hi
        have := sizeLine_eq
        rw [List.length_map, List.length_append, rowPr, List.length_map, List.length_take]
        omega
      · rw [off_upd]; exact sm4
      · rw [upd_same, rowPr, rowPr, take_map_snoc (some_of_lt 0 hj), ← List.append_assoc, List.map_append (l₂ := [_])]; rfl
    · rintro H4 ⟨sm4, hq4⟩
      rw [hwl, List.take_length] at hq4
      exact ⟨sm4, by rw [upTo_succ, hl]; exact hq4⟩
  · rintro H3 ⟨sm, hq3⟩
    refine ⟨q, _, rfl, SqL.of hq3, ?_⟩
    rw [upTo_sum, hxl, ← OR.l]
    exact k H3 (sm.trans off_le)
def spLeast (K : PySem.W.Frag) : Sp := fun vs H Q _ => ∃ (b tie ap at_ lets : Addr) (B : Bk) (pr : List (List Int)) (tl : List Int) (t : Nat × Nat × Nat), vs = [.ref b, .ref tie, .ref ap, .ref at_, .ref lets] ∧ BookAt K H b B ∧ B.Ok ∧ t ∈ ties B.many ∧
  Td H (tieD t) (.ref tie) ∧ Td H (prD pr) (.ref ap) ∧ PrOk B pr ∧ H at_ = some (.tup (tl.map V.int)) ∧ tl.length = 2 ^ B.many ∧ Td H (.t [loD B, hiD B]) (.ref lets) ∧ ∀ H', Same H H' → Q (.int (B.least pr tl t)) H'
theorem tie_vs {H : Hp} {r m o : Nat} {v : V} (h : Td H (tieD (r, m, o)) v) : ∃ a, v = .ref a ∧ H a = some (.tup [.int (r : Nat), .int (m : Nat), .int (o : Nat)]) := by
  obtain ⟨a, vs, rfl, h1, h2⟩ := h.tup
  refine ⟨a, rfl, ?_⟩
  cases h2 with | cons a1 r1 => cases r1 with | cons a2 r2 => cases r2 with | cons a3 r3 => cases r3; rw [h1, a1.int, a2.int, a3.int]
theorem two_vs {H : Hp} {d1 d2 : D} {v : V} (h : Td H (.t [d1, d2]) v) : ∃ a v1 v2, v = .ref a ∧ H a = some (.tup [v1, v2]) ∧ Td H d1 v1 ∧ Td H d2 v2 := by
  obtain ⟨a, vs, rfl, h1, h2⟩ := h.tup
  cases h2 with | cons a1 r1 => cases r1 with | cons a2 r2 => cases r2; exact ⟨a, _, _, rfl, h1, a1, a2⟩
theorem sc_least_of_tie : FnScope ["book", "tie", "prices", "talls", "lets", "row", "member", "other", "lows", "highs", "bounds", "weights"] ["book", "tie", "prices", "talls", "lets"] (defScope s_least_of_tie) := ⟨rfl, rfl, rfl, by decide +kernel, rfl, by decide +kernel, by decide +kernel⟩
theorem c_least_of_tie (T : Fx K mg) (F : DefAt K mg "least_of_tie" "least_of_tie" s_least_of_tie) (c_most_brought : Cal P w K mg base CX0 2 "most_brought" ["duty", "scale", "bounds", "weights"] (spMost)) : Cal P w K mg base CX0 3 "least_of_tie" ["book", "tie", "prices", "talls", "lets"] (spLeast K) := by
  refine cal_of F sc_least_of_tie (fun _ _ _ _ _ _ _ us hl => match us, hl with | [_, _, _, _, _], _ => rfl) (fun vs H Q E h => ?_) (fun f cdv A outer s H vs Q E hr h => ?_)
  · obtain ⟨b, tie, ap, at_, lets, B, pr, tl, t, rfl, hB, O, ht, hT, hP, OP, hat, htl, hL, k⟩ := h
    rfl
  obtain ⟨b, tie, ap, at_, lets, B, pr, tl, t, rfl, hB, O, ht, hT, hP, OP, hat, htl, hL, k⟩ := h
  have hu := hu_of hr
  have nd := sc_least_of_tie.nd
  refine ⟨_, (pss_cons (ps_asg (pv 1) (pg_tup rfl (pgs_cons (pg_name (i := 5) nd rfl (Or.inl rfl)) (pgs_cons (pg_name (i := 6) nd rfl (Or.inl rfl)) (pgs_cons (pg_name (i := 7) nd rfl (Or.inl rfl)) pgs_nil)))))
  (pss_cons (ps_asg (pv 4) (pg_tup rfl (pgs_cons (pg_name (i := 8) nd rfl (Or.inl rfl)) (pgs_cons (pg_name (i := 9) nd rfl (Or.inl rfl)) pgs_nil))))
  (pss_cons (ps_set (i := 10) nd rfl (Or.inl rfl) (pe_tup (pa_cons (pe_tup (pa_cons (pe_ix ix_list (pe_ix ix_list (pv 8) (pv 5) (fun _ _ => rfl)) (pv 6) (fun _ _ => rfl)) (pa_cons (pe_ix ix_list (pe_ix ix_list (pv 9) (pv 5) (fun _ _ => rfl)) (pv 6) (fun _ _ => rfl)) pa_nil))) (pa_cons (pe_tup (pa_cons (pe_ix ix_list (pe_ix ix_list (pv 8) (pv 7) (fun _ _ => rfl)) (pv 6) (fun _ _ => rfl)) (pa_cons (pe_ix ix_list (pe_ix ix_list (pv 9) (pv 7) (fun _ _ => rfl)) (pv 6) (fun _ _ => rfl)) pa_nil))) pa_nil))))
  (pss_cons (ps_set (i := 11) nd rfl (Or.inl rfl) (pe_tup (pa_cons (pe_op op_sub (pe_ix ix_tup (pv 3) (pv 5) (fun _ _ => rfl)) (pe_ix ix_tup (pe_ix ix_tup (pv 2) (pv 5) (fun _ _ => rfl)) (pv 6) (fun _ _ => rfl))) (pa_cons (pe_op op_sub (pe_ix ix_tup (pv 3) (pv 7) (fun _ _ => rfl)) (pe_ix ix_tup (pe_ix ix_tup (pv 2) (pv 7) (fun _ _ => rfl)) (pv 6) (fun _ _ => rfl))) pa_nil))))
  (pss_one (ps_ret (pe_un un_neg (pe_k c_most_brought hr (by decide) pass0 (pa_cons (pe_ix ix_str (pe_f (pv 0)) (pv 6) (fun _ _ => rfl)) (pa_cons pe_int (pa_cons (pv 10) (pa_cons (pv 11) pa_nil)))))))))))), ?_⟩
  obtain ⟨hr', hm, ho, _⟩ := ties_lt O.m1 O.m4 _ ht
  obtain ⟨r, m, o⟩ := t
  obtain ⟨tie', e, hT⟩ := tie_vs hT
  obtain rfl := V.ref.inj e
  obtain ⟨lets', vL, vH, e, hL, tL, tH⟩ := two_vs hL
  obtain rfl := V.ref.inj e
  refine ⟨_, rfl, tie, _, rfl, SqT.of hT, rfl, _, _, rfl, _, _, rfl, _, _, rfl, rfl, _, rfl, lets, _, rfl, SqT.of hL, rfl, _, _, rfl, _, _, rfl, rfl, ?_⟩
  obtain ⟨a1, vs1, c1, ws1, rfl, x1, x2, x3, x4⟩ := (tab_at tL O hr' hm).ex
  obtain ⟨a2, vs2, c2, ws2, rfl, y1, y2, y3, y4⟩ := (tab_at tH O hr' hm).ex
  obtain ⟨a3, vs3, c3, ws3, e3, z1, z2, z3, z4⟩ := (tab_at tL O ho hm).ex
  obtain ⟨a4, vs4, c4, ws4, e4, w1, w2, w3, w4⟩ := (tab_at tH O ho hm).ex
  obtain rfl := V.ref.inj e3
  obtain rfl := V.ref.inj e4
  refine ⟨_, rfl, _, rfl, _, _, _, _, rfl, rfl, SqL.of x1, atI_nat x2, _, rfl, _, _, _, _, rfl, rfl, SqL.of x3, atI_nat x4, _, rfl, _, rfl, _, _, _, _, rfl, rfl, SqL.of y1, atI_nat y2, _, rfl, _, _, _, _, rfl, rfl, SqL.of y3, atI_nat y4, (by show 2 ≤ sizeLine; decide), fun p1 n1 => ?_⟩
  generalize e11 : upd H p1 (.tup [.int (bnd (B.sg r m)).1, .int (bnd (B.sg r m)).2]) = H1
  have s1 : Same H H1 := e11 ▸ same_new n1
  have h11 := (congrFun e11 p1).symm.trans upd_same
  refine ⟨_, rfl, _, rfl, _, _, _, _, rfl, rfl, SqL.of (s1 _ _ z1), atI_nat z2, _, rfl, _, _, _, _, rfl, rfl, SqL.of (s1 _ _ z3), atI_nat z4, _, rfl, _, rfl, _, _, _, _, rfl, rfl, SqL.of (s1 _ _ w1), atI_nat w2, _, rfl, _, _, _, _, rfl, rfl, SqL.of (s1 _ _ w3), atI_nat w4, (by show 2 ≤ sizeLine; decide), fun p2 n2 => ?_⟩
  generalize e12 : upd H1 p2 (.tup [.int (bnd (B.sg o m)).1, .int (bnd (B.sg o m)).2]) = H2
  have s2' : Same H1 H2 := e12 ▸ same_new n2
  have h22 := (congrFun e12 p2).symm.trans upd_same
  have s2 : Same H _ := s1.trans s2'
  refine ⟨(by show 2 ≤ sizeLine; decide), fun p3 n3 => ?_⟩
  generalize e13 : upd H2 p3 (.tup [.ref p1, .ref p2]) = H3
  have s3 : Same H2 H3 := e13 ▸ same_new n3
  have h33 := (congrFun e13 p3).symm.trans upd_same
  have h31 := s3 _ _ (s2' _ _ h11)
  have h32 := s3 _ _ h22
  obtain ⟨a5, vs5, c5, ws5, e5, u1, u2, u3, u4⟩ := pr_at (hP.mono (s2.trans s3)) OP hr' hm
  obtain ⟨a6, vs6, c6, ws6, e6, v1, v2, v3, v4⟩ := pr_at (hP.mono (s2.trans s3)) OP ho hm
  obtain rfl := V.ref.inj e5
  obtain rfl := V.ref.inj e6
  have hat3 := (s2.trans s3) _ _ hat
  have hrt : r < tl.length := by rw [htl]; exact hr'
  have hot : o < tl.length := by rw [htl]; exact ho
  refine ⟨_, rfl, _, rfl, _, _, _, _, rfl, rfl, SqT.of hat3, atI_nat (ints_at hrt), _, rfl, _, rfl, _, _, _, _, rfl, rfl, SqT.of u1, atI_nat u2, _, rfl, _, _, _, _, rfl, rfl, SqT.of u3, atI_nat u4, _, _, rfl, rfl, ?_⟩
  refine ⟨_, rfl, _, rfl, _, _, _, _, rfl, rfl, SqT.of hat3, atI_nat (ints_at hot), _, rfl, _, rfl, _, _, _, _, rfl, rfl, SqT.of v1, atI_nat v2, _, rfl, _, _, _, _, rfl, rfl, SqT.of v3, atI_nat v4, _, _, rfl, rfl, (by show 2 ≤ sizeLine; decide), fun p4 n4 => ?_⟩
  generalize e14 : upd H3 p4 (.tup [.int (tl.getD r 0 - prAt pr r m), .int (tl.getD o 0 - prAt pr o m)]) = H4
  have s4 : Same H3 H4 := e14 ▸ same_new n4
  have h44 := (congrFun e14 p4).symm.trans upd_same
  have hB4 := hB.mono ((s2.trans s3).trans s4)
  have hd : m < B.du.length := by rw [O.ld]; exact hm
  refine ⟨_, rfl, b, _, rfl, hB4.duties, _, rfl, _, _, _, rfl, rfl, du_len O, du_ix hd, ?_⟩
  refine ⟨_, rfl, _, rfl, B.d m, p3, p4, p1, p2, B.sg r m, B.sg o m, _, _, rfl, s4 _ _ h33, h44, s4 _ _ h31, s4 _ _ h32, fun H5 s5 => ?_⟩
  exact ⟨_, rfl, k H5 (((s2.trans s3).trans s4).trans s5)⟩
def spReach (T : Fx K mg) : Sp := fun vs H Q E => ∃ (b ap at_ : Addr) (B : Bk) (pr : List (List Int)) (tl : List Int), vs = [.ref b, .ref ap, .ref at_] ∧ BookAt K H b B ∧ B.Ok ∧ Td H (prD pr) (.ref ap) ∧ PrOk B pr ∧ H at_ = some (.tup (tl.map V.int)) ∧ tl.length = 2 ^ B.many ∧
  (B.torn ≠ [] → ∀ H', Same H H' → E (.ref T.cT) none H') ∧ (B.torn = [] → ∀ H', Same H H' → Q (.int (B.reachV pr tl)) H')
theorem sum_snoc {l : List Int} {i : Nat} (h : i < l.length) : (l.take (i + 1)).sum = (l.take i).sum + l.getD i 0 := by
  rw [List.take_succ, some_of_lt 0 h]; simp
theorem hgts_len (B : Bk) (tl : List Int) : (B.hgts tl).length = 2 ^ B.many := by unfold Bk.hgts; simp
theorem hgts_at (B : Bk) (tl : List Int) {i : Nat} (h : i < 2 ^ B.many) : (B.hgts tl).getD i 0 = hgt (tl.getD i 0) (B.cnt i) := by
  unfold Bk.hgts
  rw [getD_map (d := 0) (by simpa using h)]
  congr 2
  · simp [List.getD, h]
  · simp [List.getD, h]
theorem leasts_len (B : Bk) (pr : List (List Int)) (tl : List Int) : (B.leasts pr tl).length = (ties B.many).length := by unfold Bk.leasts; simp
theorem sc_reach : FnScope ["book", "prices", "talls", "total", "tall", "count", "lets", "tie"] ["book", "prices", "talls"] (defScope s_reach) := ⟨rfl, rfl, rfl, by decide +kernel, rfl, by decide +kernel, by decide +kernel⟩
theorem c_reach (T : Fx K mg) (F : DefAt K mg "reach" "reach" s_reach) (c_check_prices : Cal P w K mg base CX0 4 "check_prices" ["book", "prices"] (spPrices K)) (c_is_integer : Cal P w K mg base CX0 1 "is_integer" ["thing"] (spInt)) (c_is_table : Cal P w K mg base CX0 1 "is_table" ["thing", "size"] (spTable)) (c_least_of_tie : Cal P w K mg base CX0 3 "least_of_tie" ["book", "tie", "prices", "talls", "lets"] (spLeast K)) (c_mark_bounds : Cal P w K mg base CX0 1 "mark_bounds" ["book", "scale"] (spMarkB K)) (c_own_ties : Cal P w K mg base CX0 3 "own_ties" ["book"] (spTies K)) (c_torn_ties : Cal P w K mg base CX0 6 "torn_ties" ["book"] (spTornT K)) : Cal P w K mg base (L2.CX P w) 7 "reach" ["book", "prices", "talls"] (spReach T) := by
  refine cal_of F sc_reach (fun _ _ _ _ _ _ _ us hl => match us, hl with | [_, _, _], _ => rfl) (fun vs H Q E h => ?_) (fun f cdv A outer s H vs Q E hr h => ?_)
  · obtain ⟨b, ap, at_, B, pr, tl, rfl, hB, O, hP, OP, hat, htl, kT, kV⟩ := h
    rfl
  obtain ⟨b, ap, at_, B, pr, tl, rfl, hB, O, hP, OP, hat, htl, kT, kV⟩ := h
  have hu := hu_of hr
  have nd := sc_reach.nd
  refine ⟨_, (pss_cons (ps_expr (pe_k c_check_prices hr (by decide) pass0 (pa_cons (pv 0) (pa_cons (pv 1) pa_nil))))
  (pss_cons (ps_if (PW.pt (pw_or (pt_not (pt_val (pe_k c_is_table hr (by decide) pass0 (pa_cons (pv 2) (pa_cons (pe_callB call_len_seq rfl T.len boot_len (pa_cons (pe_f (pv 0)) pa_nil)) pa_nil))))) (pw_or1 (pt_not (pt_val (pe_callB (cr_all rfl) rfl T.all boot_all (pa_cons (pe_lc (own := [("tall", 4)]) rfl nd (pi_tup (pv 2)) (blkOk_by (by rfl)) (fun _ _ _ _ _ => (pg_name (i := 4) nd rfl (Or.inl rfl))) (fun _ _ _ _ _ => pts_nil) (fun _ _ _ _ _ => (pe_k c_is_integer hr (by decide) pass0 (pa_cons (pv 4) pa_nil)))) pa_nil))))))) (pss_one ps_never) pss_nil)
  (pss_cons (ps_if (pt_cmpR op_gt (pe_callB call_len_seq rfl T.len boot_len (pa_cons (pe_k c_torn_ties hr (by decide) pass0 (pa_cons (pv 0) pa_nil)) pa_nil)) pe_int (nomark _)) (pss_one (ps_raise rfl (takes_of rfl rfl rfl rfl) (pmk_own0 PySem.F.excBase_ValueError T.xT T.gT T.kT (raises_own T.bT T.tT) rfl))) pss_nil)
  (pss_cons (ps_set (i := 3) nd rfl (Or.inl rfl) pe_int)
  (pss_cons (ps_for (passes_of rfl) rfl (RZ.pi_zipA rfl T.zip (pa_cons (pv 2) (pa_cons (pe_f (pv 0)) pa_nil))) (pg_tup rfl (pgs_cons (pg_name (i := 4) nd rfl (Or.inl rfl)) (pgs_cons (pg_name (i := 5) nd rfl (Or.inl rfl)) pgs_nil))) (pss_one (ps_aug (i := 3) nd rfl (Or.inl rfl) (pe_ifExp (pt_cmpR op_ge (pv 4) pe_int (nomark _)) (pe_op op_mul (pv 4) (pe_ix ix_tup (pv 5) pe_int (fun _ _ => rfl))) (pe_op op_mul (pv 4) (pe_ix ix_tup (pv 5) pe_int (fun _ _ => rfl)))) ip_add)))
  (pss_cons (ps_set (i := 6) nd rfl (Or.inl rfl) (pe_k c_mark_bounds hr (by decide) pass0 (pa_cons (pv 0) (pa_cons pe_int pa_nil))))
  (pss_cons (ps_for (passes_of rfl) rfl (pi_list (pe_k c_own_ties hr (by decide) pass0 (pa_cons (pv 0) pa_nil))) (pg_name (i := 7) nd rfl (Or.inl rfl)) (pss_one (ps_aug (i := 3) nd rfl (Or.inl rfl) (pe_k c_least_of_tie hr (by decide) pass0 (pa_cons (pv 0) (pa_cons (pv 7) (pa_cons (pv 1) (pa_cons (pv 2) (pa_cons (pv 6) pa_nil)))))) ip_add)))
  (pss_one (ps_ret (pv 3)))))))))), ?_⟩
  refine ⟨_, rfl, _, rfl, b, ap, B, pr, rfl, hB, O, hP, OP, fun H1 s1 => ?_⟩
  have hB1 := hB.mono s1
  obtain ⟨vc, fc, tc⟩ := hB1.counts
  obtain ⟨ac, cs, rfl, hc, rc⟩ := tc.tup
  have hcl : cs.length = 2 ^ B.many := by rw [rc.length, List.length_map, O.lc]
  refine ⟨_, rfl, _, rfl, b, _, rfl, fc, _, _, rfl, .inr (SqT.of hc), at_, _, _, rfl, s1 _ _ hat, _, rfl, ?_⟩
  rw [List.length_map, htl, dec_eq_true (congrArg Nat.cast hcl.symm)]
  refine iteF ⟨_, rfl, at_, rfl, ⟨_, SqT.of (s1 _ _ hat)⟩, fun q hq => lc_by walk_tup (fun i acc H3 => Same H1 H3 ∧ acc = (List.replicate i true).map V.bl) hq ⟨Same.refl _, rfl⟩ (fun i acc H3 p => SqT.of (off_le _ _ (p.1 _ _ (s1 _ _ hat)))) ?_ ?_⟩
  · rintro i acc x _ H3 hi hle ⟨sm, rfl⟩ hq3 ⟨rfl, hx⟩
    have hi' : i < tl.length := by simpa using hi
    rw [ints_at hi'] at hx
    obtain rfl := Option.some.inj hx
    refine ⟨rfl, _, rfl, _, rfl, ?_⟩
    refine LcS.add hq3 hle (by have := two_len B O; omega) ⟨sm, rep_snoc⟩
  · rintro acc H3 hq3 ⟨sm, rfl⟩
    refine ⟨q, _, rfl, SqL.of hq3, _, rfl, ?_⟩
    rw [all_rep]
    have s3 : Same H H3 := s1.trans (sm.trans off_le)
    have sm13 : Same H1 H3 := sm.trans off_le
    clear hq3 sm hq
    refine iteF ⟨_, rfl, b, B, rfl, hB.mono s3, O, fun H4 lt xs s4 hlt hxl => ⟨_, _, rfl, .inl (SqL.of hlt), ?_⟩⟩
    have s04 := s3.trans s4
    refine ⟨_, _, rfl, rfl, _, rfl, ite2 (fun c => ?_) (fun c => ?_)⟩
    · exact kT (fun z => by rw [z] at hxl; rw [hxl] at c; exact absurd (of_decide_eq_true c) (by decide)) H4 s04
    have htorn : B.torn = [] := by
      refine List.length_eq_zero_iff.mp ?_
      rw [hxl] at c
      have : ¬ ((B.torn.length : Int) > 0) := fun z => c (decide_eq_true z)
      omega
    have kV := kV htorn
    clear c hxl hlt kT
    have s14 : Same H1 H4 := sm13.trans s4
    refine ⟨_, rfl, _, rfl, b, _, rfl, fc.mono s14, at_, ac, _, _, rfl, .inr ⟨SqT.of (s04 _ _ hat), SqT.of (s14 _ _ hc), ?_⟩⟩
    refine RZ.for_zipT (xs := tl.map V.int) (ys := cs) (by rw [List.length_map, htl, hcl]) (fun i σ H5 => ∃ x y u v, σ = [some (.ref b), some (.ref ap), some (.ref at_), some (.int ((B.hgts tl).take i).sum), x, y, u, v] ∧ Same H4 H5) ⟨none, none, none, none, rfl, Same.refl _⟩
      (fun i σ H5 p => by obtain ⟨_, _, _, _, _, s5⟩ := p; exact ⟨SqT.of (s5 _ _ (s04 _ _ hat)), SqT.of (s5 _ _ (s14 _ _ hc))⟩) ?_ ?_
    · rintro i x y U σ H5 hx hy ⟨x', y', u, v, rfl, s5⟩ hU
      have hi : i < tl.length := by
        have := (List.getElem?_eq_some_iff.mp hx).1
        simpa using this
      rw [ints_at hi] at hx
      obtain rfl := Option.some.inj hx
      obtain ⟨d, hd, td⟩ := rc.at hy
      have hi' : i < B.ct.length := by rw [O.lc, ← htl]; exact hi
      rw [List.getElem?_map, some_of_lt (0, 0) hi'] at hd
      obtain rfl := Option.some.inj hd
      obtain ⟨c, c1, c2, rfl, hcc, t1, t2⟩ := two_vs td
      obtain rfl := t1.int
      obtain rfl := t2.int
      have sU : Same H5 (upd H5 U (.tup [.int (tl.getD i 0), .ref c])) := same_new hU
      have hc5 := sU _ _ (s5 _ _ (s14 _ _ hcc))
      have hcc2 := O.cc _ (getD_mem (d := ((0 : Int), (0 : Int))) hi')
      have h4 : (B.many : Int) ≤ 4 := by have := O.m4; omega
      have es : ((B.hgts tl).take (i + 1)).sum = ((B.hgts tl).take i).sum + hgt (tl.getD i 0) (B.cnt i) := by
        rw [sum_snoc (by rw [hgts_len, ← htl]; exact hi), hgts_at B tl (by rw [← htl]; exact hi)]
      have key : ∀ z, z = hgt (tl.getD i 0) (B.cnt i) → ∃ x2 y2 u2 v2, [some (V.ref b), some (V.ref ap), some (V.ref at_), some (V.int (((B.hgts tl).take i).sum + z)), some (V.int (tl.getD i 0)), some (V.ref c), u, v] = [some (V.ref b), some (V.ref ap), some (V.ref at_), some (.int ((B.hgts tl).take (i + 1)).sum), x2, y2, u2, v2] ∧ Same H4 (upd H5 U (.tup [.int (tl.getD i 0), .ref c])) := fun z e => by
        subst e
        rw [es]
        exact ⟨_, _, _, _, rfl, s5.trans sU⟩
      refine ⟨U, _, rfl, SqT.of upd_same, rfl, _, _, rfl, _, _, rfl, rfl, _, rfl, _, rfl, _, _, rfl, rfl, _, rfl, ite2 (fun z => ?_) (fun z => ?_)⟩
      · refine ⟨_, rfl, _, rfl, _, _, _, _, rfl, rfl, SqT.of hc5, rfl, _, _, rfl, rfl, ?_, _, _, rfl, rfl, key _ ?_⟩
        · refine .inr ⟨?_, ?_⟩ <;> have := hcc2.1 <;> have := hcc2.2.1 <;> have := hcc2.2.2 <;> omega
        · unfold hgt
          rw [if_pos (of_decide_eq_true z)]; rfl
      · refine ⟨_, rfl, _, rfl, _, _, _, _, rfl, rfl, SqT.of hc5, rfl, _, _, rfl, rfl, ?_, _, _, rfl, rfl, key _ ?_⟩
        · refine .inr ⟨?_, ?_⟩ <;> have := hcc2.1 <;> have := hcc2.2.1 <;> have := hcc2.2.2 <;> omega
        · unfold hgt
          rw [if_neg (fun q => z (decide_eq_true q))]; rfl
    · rintro σ H5 ⟨x', y', u, v, rfl, s5⟩
      have s05 := s04.trans s5
      have eT : ((B.hgts tl).take (tl.map V.int).length).sum = (B.hgts tl).sum := by rw [List.length_map, htl, ← hgts_len B tl, List.take_length]
      rw [eT]
      refine ⟨_, rfl, b, B, rfl, hB.mono s05, O, fun vl H6 s6 t6 => ?_⟩
      have t6 := t6.mono nu_le
      obtain ⟨lets, vL, vH, rfl, hlets, _, _⟩ := two_vs t6
      have s06 := s05.trans s6
      refine ⟨_, rfl, b, B, rfl, hB.mono s06, O, fun vt H7 s7 t7 _ => ?_⟩
      obtain ⟨la, ls, rfl, hla, rla⟩ := t7.lst
      have s07 := s06.trans s7
      refine ⟨la, rfl, ⟨_, SqL.of hla⟩, ?_⟩
      refine for_it walk_list (fun i σ H8 => ∃ x, σ = [some (.ref b), some (.ref ap), some (.ref at_), some (.int ((B.hgts tl).sum + ((B.leasts pr tl).take i).sum)), x', y', some (.ref lets), x] ∧ Same H7 H8) ⟨v, by simp, Same.refl _⟩ (fun i σ H8 p q => by obtain ⟨_, _, s8⟩ := q; exact SqL.of (s8 _ _ hla)) ?_ ?_
      · rintro i x σ H8 _ hi ⟨x0, rfl, s8⟩ ⟨rfl, hx⟩
        obtain ⟨d, hd, td⟩ := rla.at hx
        have hi' : i < (ties B.many).length := by rw [rla.length, List.length_map] at hi; exact hi
        rw [List.getElem?_map, List.getElem?_eq_getElem hi'] at hd
        obtain rfl := Option.some.inj hd
        obtain ⟨tie, etie, _⟩ := tie_vs (show Td H7 (tieD ((ties B.many)[i].1, (ties B.many)[i].2.1, (ties B.many)[i].2.2)) x from td)
        subst etie
        have s08 := s07.trans s8
        refine ⟨_, rfl, _, rfl, _, rfl, _, rfl, _, rfl, _, rfl, b, tie, ap, at_, lets, B, pr, tl, _, rfl, hB.mono s08, O, List.getElem_mem hi', td.mono s8, hP.mono s08, OP, s08 _ _ hat, htl, t6.mono (s7.trans s8), fun H9 s9 => ?_⟩
        refine ⟨_, _, rfl, rfl, some (.ref tie), ?_, s8.trans s9⟩
        have es : ((B.leasts pr tl).take (i + 1)).sum = ((B.leasts pr tl).take i).sum + B.least pr tl (ties B.many)[i] := by
          rw [sum_snoc (by rw [leasts_len]; exact hi')]
          congr 1
          unfold Bk.leasts
          rw [getD_map (d := (0, 0, 0)) hi']
          congr 1
          exact getD_of_some (List.getElem?_eq_getElem hi')
        rw [es, ← Int.add_assoc]; rfl
      · rintro σ H8 ⟨x0, rfl, s8⟩
        refine ⟨_, rfl, ?_⟩
        have e : ((B.leasts pr tl).take ls.length).sum = (B.leasts pr tl).sum := by rw [rla.length, List.length_map, ← leasts_len B pr tl, List.take_length]
        rw [e]
        exact kV H8 (s07.trans s8)
end
end K31

set_option autoImplicit true
set_option Elab.async false
set_option autoImplicit false
set_option linter.all false
set_option maxRecDepth 100000
set_option maxHeartbeats 4000000
namespace K31
open PySem PySem.Spec PyProof.Rows L2
/-! costs: the lists in the heap; init, add, amount, reduced, next_open -/
def nvs (l : List Nat) : List V := l.map fun n => V.int ((n : Nat) : Int)
theorem nvs_len (l : List Nat) : (nvs l).length = l.length := List.length_map _
theorem nvs_at {l : List Nat} {i : Nat} (h : i < l.length) : (nvs l)[i]? = some (.int ((l.getD i 0 : Nat) : Int)) := by unfold nvs; rw [List.getElem?_map, some_of_lt 0 h]; rfl
theorem nvs_snoc (l : List Nat) (x : Nat) : nvs l ++ [V.int ((x : Nat) : Int)] = nvs (l ++ [x]) := by unfold nvs; rw [List.map_append]; rfl
theorem ixN_nat {n j : Nat} (h : j < n) : ixN n ((j : Nat) : Int) = some j := by unfold ixN; rw [if_pos (by omega), if_pos (by omega)]; simp
structure CA where
  c : Addr
  dx : Addr
  h : Addr
  r : Addr
  p : Addr
  l : Addr
  a : Addr
  o : Addr
  f : Addr
  rows : List Addr
structure CD where
  heads : List Nat
  room : List Int
  price : List Int
  lows : List Int
  arcs : List (List Nat)
  over : List Int
  lifts : List Int
def CA.as (A : CA) : List Addr := A.c :: A.h :: A.r :: A.p :: A.l :: A.a :: A.o :: A.f :: A.rows
def nsCo : List Str := ["heads", "room", "price", "lows", "arcs", "over", "lifts"]
def CA.vs (A : CA) : List V := [.ref A.h, .ref A.r, .ref A.p, .ref A.l, .ref A.a, .ref A.o, .ref A.f]
def li (l : List Int) : HO := .lst (l.map V.int)
def objs (C : Addr) (A : CA) (D : CD) : List HO :=
  .ins C A.dx (nsCo.zip A.vs) :: .lst (nvs D.heads) :: li D.room :: li D.price :: li D.lows :: .lst (A.rows.map V.ref) :: li D.over :: li D.lifts :: D.arcs.map fun l => .lst (nvs l)
structure CoAt {K : PySem.W.Frag} {mg : Str → Option Value} (T : Fx K mg) (H : Hp) (A : CA) (D : CD) : Prop where
  nd : A.as.Nodup
  len : A.rows.length = D.arcs.length
  at_ : ∀ (i : Nat) (a : Addr) (o : HO), A.as[i]? = some a → (objs T.cCo A D)[i]? = some o → H a = some o
theorem nodup_ix {α : Type} {l : List α} (h : l.Nodup) {i j : Nat} {a : α} (hi : l[i]? = some a) (hj : l[j]? = some a) : i = j := by
  exact (List.getElem?_inj (List.getElem?_eq_some_iff.mp hi).1 h).mp (hi.trans hj.symm)
section
variable {K : PySem.W.Frag} {mg : Str → Option Value} {T : Fx K mg} {H H' : Hp} {A : CA} {D : CD}
namespace CoAt
theorem mono (h : CoAt T H A D) (k : Same H H') : CoAt T H' A D := ⟨h.nd, h.len, fun i a o ha ho => k _ _ (h.at_ i a o ha ho)⟩
theorem upd_ (h : CoAt T H A D) {i : Nat} {a : Addr} (ha : A.as[i]? = some a) {D' : CD} {o : HO} (e : objs T.cCo A D' = (objs T.cCo A D).set i o) (el : D'.arcs.length = D.arcs.length) : CoAt T (upd H a o) A D' := by
  refine ⟨h.nd, by rw [el]; exact h.len, fun j b u hb hu => ?_⟩
  rw [e] at hu
  by_cases c : i = j
  · subst c
    obtain rfl := Option.some.inj (ha.symm.trans hb)
    rw [List.getElem?_set] at hu
    rw [if_pos rfl] at hu
    split at hu
    · rw [upd_same]; exact hu
    · cases hu
  · rw [List.getElem?_set_ne c] at hu
    have : b ≠ a := fun z => c (nodup_ix h.nd ha (z ▸ hb))
    rw [upd_ne this]
    exact h.at_ j b u hb hu
theorem gc (h : CoAt T H A D) : H A.c = some (.ins T.cCo A.dx (nsCo.zip A.vs)) := h.at_ 0 _ _ rfl rfl
theorem gh (h : CoAt T H A D) : H A.h = some (.lst (nvs D.heads)) := h.at_ 1 _ _ rfl rfl
theorem gr (h : CoAt T H A D) : H A.r = some (.lst (D.room.map V.int)) := h.at_ 2 _ _ rfl rfl
theorem gp (h : CoAt T H A D) : H A.p = some (.lst (D.price.map V.int)) := h.at_ 3 _ _ rfl rfl
theorem gl (h : CoAt T H A D) : H A.l = some (.lst (D.lows.map V.int)) := h.at_ 4 _ _ rfl rfl
theorem ga (h : CoAt T H A D) : H A.a = some (.lst (A.rows.map V.ref)) := h.at_ 5 _ _ rfl rfl
theorem go (h : CoAt T H A D) : H A.o = some (.lst (D.over.map V.int)) := h.at_ 6 _ _ rfl rfl
theorem gf (h : CoAt T H A D) : H A.f = some (.lst (D.lifts.map V.int)) := h.at_ 7 _ _ rfl rfl
theorem row (h : CoAt T H A D) {v : Nat} (hv : v < D.arcs.length) : ∃ a, A.rows[v]? = some a ∧ (A.rows.map V.ref)[v]? = some (.ref a) ∧ H a = some (.lst (nvs (D.arcs.getD v []))) := by
  have hv' : v < A.rows.length := by rw [h.len]; exact hv
  refine ⟨A.rows[v], List.getElem?_eq_getElem hv', by rw [List.getElem?_map, List.getElem?_eq_getElem hv']; rfl, ?_⟩
  exact h.at_ (v + 8) _ _ (List.getElem?_eq_getElem hv') (by show (D.arcs.map fun l => HO.lst (nvs l))[v]? = _; rw [List.getElem?_map, some_of_lt [] hv]; rfl)
theorem fld (h : CoAt T H A D) {f : Str} {i : Nat} {v : V} (hf : f ∈ [("heads" : Str), "room", "price", "lows", "arcs", "over", "lifts"]) (hi : nsCo[i]? = some f) (hv : A.vs[i]? = some v) : Fld K H A.c f v :=
  ⟨_, _, _, h.gc, T.clCo, T.naCo _ hf, (lookup_zip (by decide +kernel) rfl hi).trans hv⟩
theorem fh (h : CoAt T H A D) : Fld K H A.c "heads" (.ref A.h) := h.fld (i := 0) (by simp) rfl rfl
theorem fr (h : CoAt T H A D) : Fld K H A.c "room" (.ref A.r) := h.fld (i := 1) (by simp) rfl rfl
theorem fp (h : CoAt T H A D) : Fld K H A.c "price" (.ref A.p) := h.fld (i := 2) (by simp) rfl rfl
theorem fl (h : CoAt T H A D) : Fld K H A.c "lows" (.ref A.l) := h.fld (i := 3) (by simp) rfl rfl
theorem fa (h : CoAt T H A D) : Fld K H A.c "arcs" (.ref A.a) := h.fld (i := 4) (by simp) rfl rfl
theorem fo (h : CoAt T H A D) : Fld K H A.c "over" (.ref A.o) := h.fld (i := 5) (by simp) rfl rfl
theorem ff (h : CoAt T H A D) : Fld K H A.c "lifts" (.ref A.f) := h.fld (i := 6) (by simp) rfl rfl
theorem me (h : CoAt T H A D) {m : Str} (hm : m ∉ nsCo) : Is H A.c T.cCo m := ⟨_, _, h.gc, lookup_zip_none hm⟩
theorem setH (h : CoAt T H A D) (l : List Nat) : CoAt T (upd H A.h (.lst (nvs l))) A { D with heads := l } := h.upd_ (i := 1) rfl rfl rfl
theorem setR (h : CoAt T H A D) (l : List Int) : CoAt T (upd H A.r (.lst (l.map V.int))) A { D with room := l } := h.upd_ (i := 2) rfl rfl rfl
theorem setP (h : CoAt T H A D) (l : List Int) : CoAt T (upd H A.p (.lst (l.map V.int))) A { D with price := l } := h.upd_ (i := 3) rfl rfl rfl
theorem setL (h : CoAt T H A D) (l : List Int) : CoAt T (upd H A.l (.lst (l.map V.int))) A { D with lows := l } := h.upd_ (i := 4) rfl rfl rfl
theorem setO (h : CoAt T H A D) (l : List Int) : CoAt T (upd H A.o (.lst (l.map V.int))) A { D with over := l } := h.upd_ (i := 6) rfl rfl rfl
theorem setF (h : CoAt T H A D) (l : List Int) : CoAt T (upd H A.f (.lst (l.map V.int))) A { D with lifts := l } := h.upd_ (i := 7) rfl rfl rfl
theorem setRow (h : CoAt T H A D) {v : Nat} {a : Addr} (ha : A.rows[v]? = some a) (l : List Nat) : CoAt T (upd H a (.lst (nvs l))) A { D with arcs := D.arcs.set v l } :=
  h.upd_ (i := v + 8) ha (by
    show objs T.cCo A { D with arcs := D.arcs.set v l } = _ :: _ :: _ :: _ :: _ :: _ :: _ :: _ :: ((D.arcs.map fun l => HO.lst (nvs l)).set v (.lst (nvs l)))
    rw [← List.map_set]; rfl) (List.length_set ..)
theorem mem_row {v : Nat} {a : Addr} (ha : A.rows[v]? = some a) : a ∈ A.as := by
  have := List.mem_of_getElem? ha
  unfold CA.as; simp [this]
end CoAt
/-- the heap has lists and the object; but for them all is as in H0 -/
def CoS (T : Fx K mg) (H0 H : Hp) (A : CA) (D : CD) : Prop := CoAt T H A D ∧ Kp A.as H0 H
theorem CoS.new {H0 : Hp} (h : CoS T H0 H A D) {p : Addr} {o : HO} (n : H p = none) : CoS T H0 (upd H p o) A D := ⟨h.1.mono (same_new n), h.2.trans (kp_of (same_new n))⟩
theorem CoS.same {H0 : Hp} (h : CoS T H0 H A D) (k : Same H H') : CoS T H0 H' A D := ⟨h.1.mono k, h.2.trans (kp_of k)⟩
theorem CoS.at_ {H0 : Hp} (h : CoS T H0 H A D) {a : Addr} {o : HO} {D' : CD} (c : CoAt T (upd H a o) A D') (m : a ∈ A.as) : CoS T H0 (upd H a o) A D' := ⟨c, h.2.trans (kp_upd m)⟩
end
theorem len_snoc {α : Type} (l : List α) (x : α) : (l ++ [x]).length = l.length + 1 := by simp
def fstOf (b : Int × Int) (p : Int) : Int := if p < 0 then b.2 else b.1
def CD.add (D : CD) (s g : Nat) (b : Int × Int) (p : Int) : CD :=
  ⟨D.heads ++ [g, s], D.room ++ [b.2 - fstOf b p, fstOf b p - b.1], D.price ++ [p, -p], D.lows ++ [b.1], arcs2 D.arcs s g D.heads.length, over3 D.over s g (fstOf b p), D.lifts⟩
structure CD.Small (D : CD) (n : Nat) : Prop where
  h : D.heads.length ≤ n
  r : D.room.length ≤ n
  p : D.price.length ≤ n
  l : D.lows.length ≤ n
  a : ∀ x ∈ D.arcs, x.length ≤ n
theorem set_le {l : List (List Nat)} {v n : Nat} {x : List Nat} (h : ∀ y ∈ l, y.length ≤ n) (hx : x.length ≤ n) : ∀ y ∈ l.set v x, y.length ≤ n := fun y hy => by
  rcases List.mem_or_eq_of_mem_set hy with z | z
  · exact h y z
  · rw [z]; exact hx
theorem getD_le {l : List (List Nat)} {v n : Nat} (h : ∀ y ∈ l, y.length ≤ n) : (l.getD v []).length ≤ n := by
  rcases Nat.lt_or_ge v l.length with c | c
  · exact h _ (getD_mem c)
  · unfold List.getD; rw [List.getElem?_eq_none c]; exact Nat.zero_le _
theorem CD.Small.add {D : CD} {n : Nat} (S : D.Small n) (s g : Nat) (b : Int × Int) (p : Int) : (D.add s g b p).Small (n + 2) := by
  have h1 : ∀ y ∈ D.arcs.set s (D.arcs.getD s [] ++ [D.heads.length]), y.length ≤ n + 1 := set_le (fun y hy => Nat.le_trans (S.a y hy) (Nat.le_succ n)) (by have := getD_le (v := s) S.a; rw [len_snoc]; omega)
  refine ⟨by have := S.h; simp [CD.add]; omega, by have := S.r; simp [CD.add]; omega, by have := S.p; simp [CD.add]; omega, by have := S.l; simp [CD.add]; omega, ?_⟩
  exact set_le (fun y hy => Nat.le_trans (h1 y hy) (Nat.le_succ _)) (by have := getD_le (v := g) h1; rw [len_snoc]; omega)
theorem tv_ite {c : Prop} [Decidable c] {i j : Nat} {σ : L2.St} {H : Hp} {Q : VK} {x y : Int} (hx : σ[i]? = some (some (.int x))) (hy : σ[j]? = some (some (.int y))) (k : Q (.int (if c then x else y)) H) : if c then tVar i σ H Q else tVar j σ H Q := by
  by_cases h : c
  · rw [if_pos h] at k ⊢; exact ⟨_, hx, k⟩
  · rw [if_neg h] at k ⊢; exact ⟨_, hy, k⟩
section
variable {P : Program} {w : World} {K : PySem.W.Frag} {mg : Str → Option Value} {base : Heap}
def spAdd (T : Fx K mg) : Sp := fun vs H Q _ => ∃ (A : CA) (D : CD) (s g n : Nat) (pb : Addr) (b : Int × Int) (p : Int), vs = [.ref A.c, .int (s : Nat), .int (g : Nat), .ref pb, .int p] ∧ CoAt T H A D ∧ D.Small n ∧ n ≤ 1000 ∧ s < D.arcs.length ∧ g < D.arcs.length ∧ s < D.over.length ∧ g < D.over.length ∧ Two H pb b ∧
  ∀ H', CoS T H H' A (D.add s g b p) → Q (.int (D.heads.length : Nat)) H'
theorem sc_costs_add : FnScope ["self", "start", "goal", "bounds", "price", "low", "high", "number", "first"] ["self", "start", "goal", "bounds", "price"] (defScope s_costs_add) := ⟨rfl, rfl, rfl, by decide +kernel, rfl, by decide +kernel, by decide +kernel⟩
theorem c_costs_add (T : Fx K mg) (F : MetAt K T.cCo "add" "Costs.add" s_costs_add) : Met P w K mg base CX0 1 T.cCo "add" ["self", "start", "goal", "bounds", "price"] (spAdd T) := by
  refine met_of F sc_costs_add (fun _ _ _ _ _ _ _ us hl => match us, hl with | [_, _, _, _, _], _ => rfl) (fun vs H Q E h => ?_) (fun f cdv A outer s H vs Q E hr h => ?_)
  · obtain ⟨A, D, s, g, n, pb, b, p, rfl, hC, S, hn, hs, hg, hso, hgo, hb, k⟩ := h
    rfl
  obtain ⟨A, D, s, g, n, pb, b, p, rfl, hC, S, hn, hs, hg, hso, hgo, hb, k⟩ := h
  have hu := hu_of hr
  have nd := sc_costs_add.nd
  refine ⟨_, (pss_cons (ps_asg (pv 3) (pg_tup rfl (pgs_cons (pg_name (i := 5) nd rfl (Or.inl rfl)) (pgs_cons (pg_name (i := 6) nd rfl (Or.inl rfl)) pgs_nil))))
  (pss_cons (ps_set (i := 7) nd rfl (Or.inl rfl) (pe_callB call_len_seq rfl T.len boot_len (pa_cons (pe_f (pv 0)) pa_nil)))
  (pss_cons (ps_expr (pe_bm PySem.F.plainAttrs_list PySem.F.slot_list_extend PySem.F.type_list_extend mt_extend (pe_f (pv 0)) (pa_cons (pe_lst (pa_cons (pv 2) (pa_cons (pv 1) pa_nil))) pa_nil)))
  (pss_cons (ps_expr (pe_bm PySem.F.plainAttrs_list PySem.F.slot_list_extend PySem.F.type_list_extend mt_extend (pe_f (pv 0)) (pa_cons (pe_lst (pa_cons (pv 4) (pa_cons (pe_un un_neg (pv 4)) pa_nil))) pa_nil)))
  (pss_cons (ps_expr (pe_bm PySem.F.plainAttrs_list PySem.F.slot_list_append PySem.F.type_list_append mt_append (pe_f (pv 0)) (pa_cons (pv 5) pa_nil)))
  (pss_cons (ps_expr (pe_bm PySem.F.plainAttrs_list PySem.F.slot_list_append PySem.F.type_list_append mt_append (pe_ix ix_list (pe_f (pv 0)) (pv 1) (fun _ _ => rfl)) (pa_cons (pv 7) pa_nil)))
  (pss_cons (ps_expr (pe_bm PySem.F.plainAttrs_list PySem.F.slot_list_append PySem.F.type_list_append mt_append (pe_ix ix_list (pe_f (pv 0)) (pv 2) (fun _ _ => rfl)) (pa_cons (pe_op op_add (pv 7) pe_int) pa_nil)))
  (pss_cons (ps_set (i := 8) nd rfl (Or.inl rfl) (pe_ifExp (pt_cmpR op_lt (pv 4) pe_int (nomark _)) (pv 6) (pv 5)))
  (pss_cons (ps_expr (pe_bm PySem.F.plainAttrs_list PySem.F.slot_list_extend PySem.F.type_list_extend mt_extend (pe_f (pv 0)) (pa_cons (pe_lst (pa_cons (pe_op op_sub (pv 6) (pv 8)) (pa_cons (pe_op op_sub (pv 8) (pv 5)) pa_nil))) pa_nil)))
  (pss_cons (ps_augS (pe_f (pv 0)) (pv 1) get_list (pv 8) ip_sub set_list)
  (pss_cons (ps_augS (pe_f (pv 0)) (pv 2) get_list (pv 8) ip_add set_list)
  (pss_one (ps_ret (pv 7)))))))))))))), ?_⟩
  have sz := sizeLine_eq
  have z1 := S.h
  have z2 := S.r
  have z3 := S.p
  have z4 := S.l
  have C0 : CoS T H H A D := ⟨hC, Kp.refl _ _⟩
  refine ⟨_, rfl, pb, _, rfl, SqT.of hb, rfl, _, _, rfl, _, _, rfl, rfl, _, rfl, A.c, _, rfl, hC.fh, _, _, rfl, .inl (SqL.of hC.gh), ?_⟩
  rw [nvs_len]
  refine ⟨_, rfl, A.c, _, rfl, hC.fh, .inl ⟨rfl, _, .inl (.inl hC.gh)⟩, _, rfl, _, rfl, (by show 2 ≤ sizeLine; decide), fun q1 n1 => ?_⟩
  have C1 := C0.new (o := .lst [.int (g : Nat), .int (s : Nat)]) n1
  refine ⟨A.h, q1, _, _, rfl, rfl, C1.1.gh, upd_same, by rw [nvs_len]; simp; omega, ?_⟩
  rw [show nvs D.heads ++ [V.int (g : Nat), .int (s : Nat)] = nvs (D.heads ++ [g, s]) by unfold nvs; rw [List.map_append]; rfl]
  have C2 := C1.at_ (C1.1.setH (D.heads ++ [g, s])) (by simp [CA.as])
  refine ⟨_, rfl, A.c, _, rfl, C2.1.fp, .inl ⟨rfl, _, .inl (.inl C2.1.gp)⟩, _, rfl, _, rfl, _, rfl, (by show 2 ≤ sizeLine; decide), fun q2 n2 => ?_⟩
  have C3 := C2.new (o := .lst [.int p, .int (-p)]) n2
  refine ⟨A.p, q2, _, [V.int p, .int (-p)], rfl, rfl, C3.1.gp, upd_same, by simp; omega, ?_⟩
  rw [show D.price.map V.int ++ [V.int p, .int (-p)] = (D.price ++ [p, -p]).map V.int by rw [List.map_append]; rfl]
  have C4 := C3.at_ (C3.1.setP (D.price ++ [p, -p])) (by simp [CA.as])
  refine ⟨_, rfl, A.c, _, rfl, C4.1.fl, .inl ⟨rfl, _, .inl (.inl C4.1.gl)⟩, _, rfl, A.l, _, _, rfl, rfl, C4.1.gl, by simp; omega, ?_⟩
  rw [show D.lows.map V.int ++ [V.int b.1] = (D.lows ++ [b.1]).map V.int by rw [List.map_append]; rfl]
  have C5 := C4.at_ (C4.1.setL (D.lows ++ [b.1])) (by simp [CA.as])
  obtain ⟨ra, hra, hra2, hra3⟩ := C5.1.row hs
  refine ⟨_, rfl, A.c, _, rfl, C5.1.fa, _, rfl, _, _, _, _, rfl, rfl, SqL.of C5.1.ga, atI_nat hra2, .inl ⟨rfl, _, .inl (.inl hra3)⟩, _, rfl, ra, _, _, rfl, rfl, hra3, by rw [nvs_len]; have := getD_le (v := s) S.a; show (D.arcs.getD s []).length < _; omega, ?_⟩
  rw [nvs_snoc]
  have C6 := C5.at_ (C5.1.setRow hra (D.arcs.getD s [] ++ [D.heads.length])) (CoAt.mem_row hra)
  obtain ⟨rb, hrb, hrb2, hrb3⟩ := C6.1.row (v := g) (by show g < (D.arcs.set s _).length; rw [List.length_set]; exact hg)
  have h1 : ∀ y ∈ D.arcs.set s (D.arcs.getD s [] ++ [D.heads.length]), y.length ≤ n + 1 := set_le (fun y hy => Nat.le_trans (S.a y hy) (Nat.le_succ n)) (by have := getD_le (v := s) S.a; rw [len_snoc]; omega)
  refine ⟨_, rfl, A.c, _, rfl, C6.1.fa, _, rfl, _, _, _, _, rfl, rfl, SqL.of C6.1.ga, atI_nat hrb2, .inl ⟨rfl, _, .inl (.inl hrb3)⟩, _, rfl, _, _, rfl, rfl, rb, _, V.int ((D.heads.length + 1 : Nat) : Int), rfl, rfl, hrb3, by rw [nvs_len]; have := getD_le (v := g) h1; show ((D.arcs.set s _).getD g []).length < _; omega, ?_⟩
  rw [nvs_snoc]
  have C7 := C6.at_ (C6.1.setRow hrb ((D.arcs.set s (D.arcs.getD s [] ++ [D.heads.length])).getD g [] ++ [D.heads.length + 1])) (CoAt.mem_row hrb)
  refine ⟨_, rfl, _, _, rfl, rfl, _, rfl, tv_ite rfl rfl ?_⟩
  rw [show (if decide (p < 0) = true then b.2 else b.1) = fstOf b p by unfold fstOf; by_cases c : p < 0 <;> simp [c]]
  refine ⟨_, rfl, A.c, _, rfl, C7.1.fr, .inl ⟨rfl, _, .inl (.inl C7.1.gr)⟩, _, rfl, _, rfl, _, _, rfl, rfl, _, rfl, _, rfl, _, _, rfl, rfl, (by show 2 ≤ sizeLine; decide), fun q3 n3 => ?_⟩
  have C8 := C7.new (o := .lst [.int (b.2 - fstOf b p), .int (fstOf b p - b.1)]) n3
  refine ⟨A.r, q3, _, [V.int (b.2 - fstOf b p), .int (fstOf b p - b.1)], rfl, rfl, C8.1.gr, upd_same, by simp; omega, ?_⟩
  rw [show List.map V.int D.room ++ [V.int (b.2 - fstOf b p), .int (fstOf b p - b.1)] = (D.room ++ [b.2 - fstOf b p, fstOf b p - b.1]).map V.int by rw [List.map_append]; rfl]
  have C9 := C8.at_ (C8.1.setR (D.room ++ [b.2 - fstOf b p, fstOf b p - b.1])) (by simp [CA.as])
  refine ⟨_, rfl, A.c, _, rfl, C9.1.fo, _, rfl, _, _, _, _, rfl, rfl, SqL.of C9.1.go, atI_nat (ints_at hso), _, rfl, _, _, rfl, rfl, _, _, _, _, rfl, rfl, C9.1.go, ixN_nat (by rw [List.length_map]; exact hso), ?_⟩
  rw [← List.map_set]
  have C10 := C9.at_ (C9.1.setO (D.over.set s (D.over.getD s 0 - fstOf b p))) (by simp [CA.as])
  have hgo' : g < (D.over.set s (D.over.getD s 0 - fstOf b p)).length := by rw [List.length_set]; exact hgo
  refine ⟨_, rfl, A.c, _, rfl, C10.1.fo, _, rfl, _, _, _, _, rfl, rfl, SqL.of C10.1.go, atI_nat (ints_at hgo'), _, rfl, _, _, rfl, rfl, _, _, _, _, rfl, rfl, C10.1.go, ixN_nat (by rw [List.length_map]; exact hgo'), ?_⟩
  rw [← List.map_set]
  have C11 := C10.at_ (C10.1.setO ((D.over.set s (D.over.getD s 0 - fstOf b p)).set g ((D.over.set s (D.over.getD s 0 - fstOf b p)).getD g 0 + fstOf b p))) (by simp [CA.as])
  exact ⟨_, rfl, k _ C11⟩
def spAmount (T : Fx K mg) : Sp := fun vs H Q _ => ∃ (A : CA) (D : CD) (e : Nat), vs = [.ref A.c, .int (e : Nat)] ∧ CoAt T H A D ∧ e / 2 < D.lows.length ∧ e + 1 < D.room.length ∧ Q (.int (D.lows.getD (e / 2) 0 + D.room.getD (e + 1) 0)) H
theorem sc_costs_amount : FnScope ["self", "number"] ["self", "number"] (defScope s_costs_amount) := ⟨rfl, rfl, rfl, by decide +kernel, rfl, by decide +kernel, by decide +kernel⟩
theorem c_costs_amount (T : Fx K mg) (F : MetAt K T.cCo "amount" "Costs.amount" s_costs_amount) : Met P w K mg base CX0 1 T.cCo "amount" ["self", "number"] (spAmount T) := by
  refine met_of F sc_costs_amount (fun _ _ _ _ _ _ _ us hl => match us, hl with | [_, _], _ => rfl) (fun vs H Q E h => ?_) (fun f cdv A outer s H vs Q E hr h => ?_)
  · obtain ⟨A, D, e, rfl, hC, h1, h2, k⟩ := h
    rfl
  obtain ⟨A, D, e, rfl, hC, h1, h2, k⟩ := h
  have hu := hu_of hr
  have nd := sc_costs_amount.nd
  refine ⟨_, (pss_one (ps_ret (pe_op op_add (pe_ix ix_list (pe_f (pv 0)) (pe_op op_fdivW (pv 1) pe_int) (fun _ _ => rfl)) (pe_ix ix_list (pe_f (pv 0)) (pe_op op_add (pv 1) pe_int) (fun _ _ => rfl))))), ?_⟩
  have e1 : atI (D.lows.map V.int) (((e : Nat) : Int) / 2) = some (.int (D.lows.getD (e / 2) 0)) := by
    rw [show ((e : Nat) : Int) / 2 = ((e / 2 : Nat) : Int) by omega]
    exact atI_nat (ints_at h1)
  have e2 : atI (D.room.map V.int) (((e : Nat) : Int) + 1) = some (.int (D.room.getD (e + 1) 0)) := atI_nat (j := e + 1) (ints_at h2)
  exact ⟨_, rfl, A.c, _, rfl, hC.fl, _, rfl, _, _, rfl, rfl, pow_div (j := 1) (by decide) _, _, _, _, _, rfl, rfl, SqL.of hC.gl, e1, _, rfl, A.c, _, rfl, hC.fr, _, rfl, _, _, rfl, rfl, _, _, _, _, rfl, rfl, SqL.of hC.gr, e2, _, _, rfl, rfl, k⟩
def spReduced (T : Fx K mg) : Sp := fun vs H Q _ => ∃ (A : CA) (D : CD) (v e : Nat), vs = [.ref A.c, .int (v : Nat), .int (e : Nat)] ∧ CoAt T H A D ∧ v < D.lifts.length ∧ e < D.price.length ∧ e < D.heads.length ∧ D.heads.getD e 0 < D.lifts.length ∧
  Q (.int (D.price.getD e 0 + D.lifts.getD v 0 - D.lifts.getD (D.heads.getD e 0) 0)) H
theorem sc_costs_reduced : FnScope ["self", "node", "number"] ["self", "node", "number"] (defScope s_costs_reduced) := ⟨rfl, rfl, rfl, by decide +kernel, rfl, by decide +kernel, by decide +kernel⟩
theorem c_costs_reduced (T : Fx K mg) (F : MetAt K T.cCo "reduced" "Costs.reduced" s_costs_reduced) : Met P w K mg base CX0 1 T.cCo "reduced" ["self", "node", "number"] (spReduced T) := by
  refine met_of F sc_costs_reduced (fun _ _ _ _ _ _ _ us hl => match us, hl with | [_, _, _], _ => rfl) (fun vs H Q E h => ?_) (fun f cdv A outer s H vs Q E hr h => ?_)
  · obtain ⟨A, D, v, e, rfl, hC, h1, h2, h3, h4, k⟩ := h
    rfl
  obtain ⟨A, D, v, e, rfl, hC, h1, h2, h3, h4, k⟩ := h
  have hu := hu_of hr
  have nd := sc_costs_reduced.nd
  refine ⟨_, (pss_one (ps_ret (pe_op op_sub (pe_op op_add (pe_ix ix_list (pe_f (pv 0)) (pv 2) (fun _ _ => rfl)) (pe_ix ix_list (pe_f (pv 0)) (pv 1) (fun _ _ => rfl))) (pe_ix ix_list (pe_f (pv 0)) (pe_ix ix_list (pe_f (pv 0)) (pv 2) (fun _ _ => rfl)) (fun _ _ => rfl))))), ?_⟩
  exact ⟨_, rfl, A.c, _, rfl, hC.fp, _, rfl, _, _, _, _, rfl, rfl, SqL.of hC.gp, atI_nat (ints_at h2), _, rfl, A.c, _, rfl, hC.ff, _, rfl, _, _, _, _, rfl, rfl, SqL.of hC.gf, atI_nat (ints_at h1), _, _, rfl, rfl,
    _, rfl, A.c, _, rfl, hC.ff, _, rfl, A.c, _, rfl, hC.fh, _, rfl, _, _, _, _, rfl, rfl, SqL.of hC.gh, atI_nat (nvs_at h3), _, _, _, _, rfl, rfl, SqL.of hC.gf, atI_nat (ints_at h4), _, _, rfl, rfl, k⟩
def opV : Option Int → V
  | none => .non
  | some x => .int x
def noV : Option Nat → V
  | none => .non
  | some v => .int (v : Nat)
/-- best so far among the first i -/
def Best (found : List (Option Int)) (done : List Bool) (i : Nat) : Option Nat → Prop
  | none => ∀ v x, v < i → fd found v = some x → bd done v = true
  | some v => v < i ∧ bd done v = false ∧ ∃ x, fd found v = some x ∧ ∀ u y, u < i → bd done u = false → fd found u = some y → x ≤ y
def spOpen (T : Fx K mg) : Sp := fun vs H Q _ => ∃ (c af ad : Addr) (found : List (Option Int)) (done : List Bool), vs = [.ref c, .ref af, .ref ad] ∧ H af = some (.lst (found.map opV)) ∧ H ad = some (.lst (done.map V.bl)) ∧ done.length = found.length ∧
  ∀ H' b, Same H H' → Best found done found.length b → Q (noV b) H'
theorem opv_at {l : List (Option Int)} {i : Nat} (h : i < l.length) : (l.map opV)[i]? = some (opV (fd l i)) := by rw [List.getElem?_map, some_of_lt none h]; rfl
theorem bls_at {l : List Bool} {i : Nat} (h : i < l.length) : (l.map V.bl)[i]? = some (.bl (bd l i)) := by rw [List.getElem?_map, some_of_lt false h]; rfl
theorem sc_costs_next_open : FnScope ["self", "found", "done", "best", "node", "far"] ["self", "found", "done"] (defScope s_costs_next_open) := ⟨rfl, rfl, rfl, by decide +kernel, rfl, by decide +kernel, by decide +kernel⟩
theorem c_costs_next_open (T : Fx K mg) (F : MetAt K T.cCo "next_open" "Costs.next_open" s_costs_next_open) : Met P w K mg base CX0 1 T.cCo "next_open" ["self", "found", "done"] (spOpen T) := by
  refine met_of F sc_costs_next_open (fun _ _ _ _ _ _ _ us hl => match us, hl with | [_, _, _], _ => rfl) (fun vs H Q E h => ?_) (fun f cdv A outer s H vs Q E hr h => ?_)
  · obtain ⟨c, af, ad, found, done, rfl, hf, hd, hl, k⟩ := h
    rfl
  obtain ⟨c, af, ad, found, done, rfl, hf, hd, hl, k⟩ := h
  have hu := hu_of hr
  have nd := sc_costs_next_open.nd
  refine ⟨_, (pss_cons (ps_set (i := 3) nd rfl (Or.inl rfl) pe_non)
  (pss_cons (ps_for (passes_of rfl) rfl (pi_enum rfl T.enumerate (pa_cons (pv 1) pa_nil)) (pg_tup rfl (pgs_cons (pg_name (i := 4) nd rfl (Or.inl rfl)) (pgs_cons (pg_name (i := 5) nd rfl (Or.inl rfl)) pgs_nil))) (pss_one (ps_if (PW.pt (pw_and (pt_cmp (pc_notN (pv 5))) (pw_and (pt_not (pt_val (pe_ix ix_list (pv 2) (pv 4) (fun _ _ => rfl)))) (pw_and1 (PW.pt (pw_or (pt_cmp (pc_isN (pv 3))) (pw_or1 (pt_cmpR op_lt (pv 5) (pe_ix ix_list (pv 1) (pv 3) (fun _ _ => rfl)) (nomark _))))))))) (pss_one (ps_set (i := 3) nd rfl (Or.inl rfl) (pv 4))) pss_nil)))
  (pss_one (ps_ret (pv 3))))), ?_⟩
  refine ⟨_, rfl, af, _, rfl, SqL.of hf, for_it walk_enum (fun i σ H1 => ∃ b x y, σ = [some (.ref c), some (.ref af), some (.ref ad), some (noV b), x, y] ∧ Same H H1 ∧ Best found done i b) ⟨none, none, none, rfl, Same.refl _, fun v x h => by omega⟩ (fun i σ H1 _ p => by obtain ⟨_, _, _, _, s1, _⟩ := p; exact SqL.of (s1 _ _ hf)) ?_ ?_⟩
  · rintro i v σ H1 H2 hi ⟨b, x, y, rfl, s1, hb⟩ ⟨U, x', y', rfl, hU, rfl, hx, hy0⟩
    rw [List.length_map] at hi
    obtain rfl := Option.some.inj hx
    have hy : (found.map opV)[i]? = some y' := hy0
    rw [opv_at hi] at hy
    obtain rfl := Option.some.inj hy
    have s2 : Same H (upd H1 U (.tup [.int (i : Nat), opV (fd found i)])) := s1.trans (same_new hU)
    have hid : i < done.length := by rw [hl]; exact hi
    clear hx hy hy0
    refine ⟨U, _, rfl, SqT.of upd_same, rfl, _, _, rfl, _, _, rfl, rfl, _, rfl, ?_⟩
    generalize hH2 : upd H1 U (.tup [.int (i : Nat), opV (fd found i)]) = H2 at *
    have old : Best found done (i + 1) b → ∃ b2 x y, [some (V.ref c), some (.ref af), some (.ref ad), some (noV b), some (.int (i : Nat)), some (opV (fd found i))] = [some (V.ref c), some (.ref af), some (.ref ad), some (noV b2), x, y] ∧ Same H H2 ∧ Best found done (i + 1) b2 := fun z => ⟨b, _, _, rfl, s2, z⟩
    have new : Best found done (i + 1) (some i) → ∃ b2 x y, [some (V.ref c), some (.ref af), some (.ref ad), some (.int (i : Nat)), some (.int (i : Nat)), some (opV (fd found i))] = [some (V.ref c), some (.ref af), some (.ref ad), some (noV b2), x, y] ∧ Same H H2 ∧ Best found done (i + 1) b2 := fun z => ⟨some i, _, _, rfl, s2, z⟩
    -- the place is not open
    have shut : (∀ x, fd found i = some x → bd done i = true) → Best found done (i + 1) b := fun z => by
      cases b with
      | none =>
        intro v x hv hx
        by_cases e : v = i
        · subst e; exact z x hx
        · exact hb v x (by omega) hx
      | some v =>
        obtain ⟨b1, b2, x, b3, b4⟩ := hb
        refine ⟨by omega, b2, x, b3, fun u y hu hdu hy => ?_⟩
        by_cases e : u = i
        · subst e; rw [z y hy] at hdu; cases hdu
        · exact b4 u y (by omega) hdu hy
    cases hfi : fd found i with
    | none =>
      rw [hfi] at old
      exact ⟨_, rfl, iteF (old (shut fun x hx => by rw [hfi] at hx; cases hx))⟩
    | some x =>
      rw [hfi] at old new
      refine ⟨_, rfl, iteT ⟨_, rfl, _, rfl, _, _, _, _, rfl, rfl, SqL.of (s2 _ _ hd), atI_nat (bls_at hid), _, rfl, ?_⟩⟩
      cases hdi : bd done i with
      | true => exact iteF (old (shut fun _ _ => hdi))
      | false =>
        refine iteT ⟨_, rfl, ?_⟩
        cases b with
        | none =>
          refine ⟨_, rfl, iteT (iteT ⟨_, rfl, new ⟨by omega, hdi, x, hfi, fun u y hu hdu hy => ?_⟩⟩)⟩
          by_cases e : u = i
          · subst e; rw [hfi] at hy; cases hy; exact Int.le_refl _
          · rw [hb u y (by omega) hy] at hdu; cases hdu
        | some v =>
          obtain ⟨b1, b2, xv, b3, b4⟩ := hb
          refine ⟨_, rfl, iteF ⟨_, rfl, _, rfl, _, rfl, _, _, _, _, rfl, rfl, SqL.of (s2 _ _ hf), (atI_nat (opv_at (by omega))).trans (by rw [b3]; rfl), _, _, rfl, rfl, _, rfl, ite2 (fun z => ?_) (fun z => ?_)⟩⟩
          · have z := of_decide_eq_true z
            refine ⟨_, rfl, new ⟨by omega, hdi, x, hfi, fun u y hu hdu hy => ?_⟩⟩
            by_cases e : u = i
            · subst e; rw [hfi] at hy; cases hy; exact Int.le_refl _
            · have := b4 u y (by omega) hdu hy; omega
          · have z : ¬ x < xv := fun q => z (decide_eq_true q)
            refine old ⟨by omega, b2, xv, b3, fun u y hu hdu hy => ?_⟩
            by_cases e : u = i
            · subst e; rw [hfi] at hy; cases hy; omega
            · exact b4 u y (by omega) hdu hy
  · rintro σ H1 ⟨b, x, y, rfl, s1, hb⟩
    rw [List.length_map] at hb
    exact ⟨_, rfl, k H1 b s1 hb⟩
end
end K31

set_option autoImplicit true
set_option Elab.async false
set_option autoImplicit false
set_option linter.all false
set_option maxRecDepth 100000
set_option maxHeartbeats 4000000
namespace K31
open PySem PySem.Spec PyProof.Rows L2
/-! costs: nearest, free_arc, way_from -/
theorem DInv.weak {G : Net} {room over lifts : List Int} {found : List (Option Int)} {done : List Bool} {u : Nat} {ok ok' : Nat → Prop} (D : DInv G room over lifts found done u ok) (h : ∀ e, ok' e → ok e) : DInv G room over lifts found done u ok' :=
  ⟨D.lf, D.ld, D.src, D.nn, D.tp, fun v hv hd => let ⟨x, h1, h2⟩ := D.dn v hv hd; ⟨x, h1, fun e he hk => h2 e he fun z => h e (hk z)⟩, D.mo, D.la⟩
def CD.net (D : CD) (n m : Nat) : Net := ⟨n, m, D.heads, D.price, D.arcs⟩
theorem ifbl {c : Prop} [Decidable c] {x y : V} : (if c then x else y) = if decide c = true then x else y := by by_cases h : c <;> simp [h]
theorem rep_flat {n : Nat} {v : V} : (List.replicate n [v]).flatten = List.replicate n v := by
  induction n with
  | zero => rfl
  | succ n ih => rw [List.replicate_succ, List.replicate_succ, List.flatten_cons, ih]; rfl
theorem Best.none_near {G : Net} {room over lifts : List Int} {found : List (Option Int)} {done : List Bool} {u : Nat} (D : DInv G room over lifts found done u (fun _ => True)) (h : Best found done found.length none) : Near G room over lifts found :=
  near_of D fun v x hv hx => h v x (by rw [D.lf]; exact hv) hx
theorem opv_some {l : List (Option Int)} {i : Nat} {x : Int} (h : i < l.length) (e : fd l i = some x) : atI (l.map opV) ((i : Nat) : Int) = some (.int x) := by rw [atI_nat (opv_at h), e]; rfl
/-- the net's lists fit -/
structure NetAt {K : PySem.W.Frag} {mg : Str → Option Value} (T : Fx K mg) (H : Hp) (A : CA) (D : CD) (n m : Nat) (cap : List Int) : Prop where
  co : CoAt T H A D
  ok : (D.net n m).Ok
  inv : Inv (D.net n m) D.lows cap D.room D.over D.lifts
section
variable {K : PySem.W.Frag} {mg : Str → Option Value} {T : Fx K mg} {H H' : Hp} {A : CA} {D : CD} {n m : Nat} {cap : List Int}
theorem NetAt.mono (h : NetAt T H A D n m cap) (k : Same H H') : NetAt T H' A D n m cap := ⟨h.co.mono k, h.ok, h.inv⟩
theorem NetAt.lh (h : NetAt T H A D n m cap) : D.heads.length = 2 * m := h.ok.lh
theorem NetAt.lp (h : NetAt T H A D n m cap) : D.price.length = 2 * m := h.ok.lp
theorem NetAt.la (h : NetAt T H A D n m cap) : D.arcs.length = n := h.ok.la
theorem NetAt.lr (h : NetAt T H A D n m cap) : D.room.length = 2 * m := h.inv.lr
theorem NetAt.lo (h : NetAt T H A D n m cap) : D.over.length = n := h.inv.lo
theorem NetAt.ll (h : NetAt T H A D n m cap) : D.lifts.length = n := h.inv.ll
theorem NetAt.hl (h : NetAt T H A D n m cap) {e : Nat} (he : e < 2 * m) : D.heads.getD e 0 < n := h.ok.hl e he
theorem NetAt.row_lt (h : NetAt T H A D n m cap) {v e : Nat} (hv : v < n) (he : e ∈ D.arcs.getD v []) : e < 2 * m := ((h.ok.ar v hv e).mp he).1
end
section
variable {P : Program} {w : World} {K : PySem.W.Frag} {mg : Str → Option Value} {base : Heap}
def spNear (T : Fx K mg) : Sp := fun vs H Q _ => ∃ (A : CA) (D : CD) (n m : Nat) (cap : List Int), vs = [.ref A.c] ∧ NetAt T H A D n m cap ∧ n ≤ 1000 ∧ ∀ H' af found, Same H H' → H af = none → H' af = some (.lst (found.map opV)) → Near (D.net n m) D.room D.over D.lifts found → Q (.ref af) H'
theorem sc_costs_nearest : FnScope ["self", "found", "done", "node", "number", "goal", "far", "much"] ["self"] (defScope s_costs_nearest) := ⟨rfl, rfl, rfl, by decide +kernel, rfl, by decide +kernel, by decide +kernel⟩
theorem c_costs_nearest (T : Fx K mg) (F : MetAt K T.cCo "nearest" "Costs.nearest" s_costs_nearest) (c_costs_next_open : Met P w K mg base CX0 1 T.cCo "next_open" ["self", "found", "done"] (spOpen T)) (c_costs_reduced : Met P w K mg base CX0 1 T.cCo "reduced" ["self", "node", "number"] (spReduced T)) : Met P w K mg base CX0 2 T.cCo "nearest" ["self"] (spNear T) := by
  refine met_of F sc_costs_nearest (fun _ _ _ _ _ _ _ us hl => match us, hl with | [_], _ => rfl) (fun vs H Q E h => ?_) (fun f cdv A outer s H vs Q E hr h => ?_)
  · obtain ⟨A, D, n, m, cap, rfl, hN, hn, k⟩ := h
    rfl
  obtain ⟨A, D, n, m, cap, rfl, hN, hn, k⟩ := h
  have hu := hu_of hr
  have nd := sc_costs_nearest.nd
  refine ⟨_, (pss_cons (ps_setLc (i := 1) (own := [("much", 7)]) rfl nd rfl rfl (sw_true rfl rfl rfl (by decide +kernel)) (pi_list (pe_f (pv 0))) (blkOk_by (by rfl)) (fun _ _ _ _ _ => (pg_name (i := 7) nd rfl (Or.inl rfl))) (fun _ _ _ _ _ => pts_nil) (fun _ _ _ _ _ => (pe_ifExp (pt_cmpR op_gt (pv 7) pe_int (nomark _)) pe_int pe_non)))
  (pss_cons (ps_set (i := 2) nd rfl (Or.inl rfl) (pe_op op_rep (pe_lst (pa_cons pe_bl pa_nil)) (pe_callB call_len_seq rfl T.len boot_len (pa_cons (pv 1) pa_nil))))
  (pss_cons (ps_set (i := 3) nd rfl (Or.inl rfl) (pe_m c_costs_next_open hr (by decide) pass0 (pv 0) (pa_cons (pv 1) (pa_cons (pv 2) pa_nil))))
  (pss_cons (ps_while (passes_of rfl) (pt_cmp (pc_notN (pv 3))) (pss_cons (ps_asg pe_bl (pg_sub (pv 2) (pv 3) set_list))
  (pss_cons (ps_for (passes_of rfl) rfl (pi_list (pe_ix ix_list (pe_f (pv 0)) (pv 3) (fun _ _ => rfl))) (pg_name (i := 4) nd rfl (Or.inl rfl)) (pss_cons (ps_set (i := 5) nd rfl (Or.inl rfl) (pe_ix ix_list (pe_f (pv 0)) (pv 4) (fun _ _ => rfl)))
  (pss_one (ps_if (PW.pt (pw_and (pt_cmpR op_gt (pe_ix ix_list (pe_f (pv 0)) (pv 4) (fun _ _ => rfl)) pe_int (nomark _)) (pw_and1 (pt_not (pt_val (pe_ix ix_list (pv 2) (pv 5) (fun _ _ => rfl))))))) (pss_cons (ps_set (i := 6) nd rfl (Or.inl rfl) (pe_op op_add (pe_ix ix_list (pv 1) (pv 3) (fun _ _ => rfl)) (pe_m c_costs_reduced hr (by decide) pass0 (pv 0) (pa_cons (pv 3) (pa_cons (pv 4) pa_nil)))))
  (pss_one (ps_if (PW.pt (pw_or (pt_cmp (pc_isN (pe_ix ix_list (pv 1) (pv 5) (fun _ _ => rfl)))) (pw_or1 (pt_cmpR op_lt (pv 6) (pe_ix ix_list (pv 1) (pv 5) (fun _ _ => rfl)) (nomark _))))) (pss_one (ps_asg (pv 6) (pg_sub (pv 1) (pv 5) set_list))) pss_nil))) pss_nil))))
  (pss_one (ps_set (i := 3) nd rfl (Or.inl rfl) (pe_m c_costs_next_open hr (by decide) pass0 (pv 0) (pa_cons (pv 1) (pa_cons (pv 2) pa_nil))))))))
  (pss_one (ps_ret (pv 1))))))), ?_⟩
  have sz := sizeLine_eq
  have hC := hN.co
  refine ⟨_, rfl, A.c, _, rfl, hC.fo, A.o, rfl, ⟨_, SqL.of hC.go⟩, fun q1 n1 => lc_by walk_list (fun i acc H3 => Same H H3 ∧ acc = (found0 (D.over.take i)).map opV) n1 ⟨Same.refl _, rfl⟩ (fun i acc H3 p => SqL.of (off_le _ _ (p.1 _ _ hC.go))) ?_ ?_⟩
  · rintro i acc x _ H3 hi hle ⟨sm, rfl⟩ hq3 ⟨rfl, hx⟩
    rw [List.length_map] at hi
    rw [ints_at hi] at hx
    obtain rfl := Option.some.inj hx
    have hlt : i < sizeLine := by rw [hN.lo] at hi; omega
    have e : ∀ y, y = opV (if 0 < D.over.getD i 0 then some 0 else none) → (found0 (D.over.take i)).map opV ++ [y] = (found0 (D.over.take (i + 1))).map opV := fun y hy => by
      subst hy
      unfold found0
      rw [take_map_snoc (some_of_lt 0 hi), List.map_append]; rfl
    refine ⟨rfl, _, rfl, _, _, rfl, rfl, _, rfl, ite2 (fun c => ?_) (fun c => ?_)⟩
    · refine LcS.add hq3 hle hlt ⟨sm, e _ ?_⟩
      rw [if_pos (of_decide_eq_true c)]; rfl
    · refine LcS.add hq3 hle hlt ⟨sm, e _ ?_⟩
      rw [if_neg (fun z => c (decide_eq_true z))]; rfl
  · rintro acc H3 hq3 ⟨sm, rfl⟩
    rw [List.length_map, List.take_length] at hq3
    have hfl : (found0 D.over).length = n := by unfold found0; rw [List.length_map, hN.lo]
    refine ⟨(by show 1 ≤ sizeLine; decide), fun p2 n2 => ?_⟩
    have hq4 : (upd H3 p2 (.lst [.bl false])) q1 = some (.lst ((found0 D.over).map opV)) := by rw [upd_ne (ne_of_none hq3 n2)]; exact hq3
    refine ⟨_, rfl, _, _, rfl, .inl (SqL.of hq4), ?_⟩
    rw [List.length_map, hfl]
    refine ⟨p2, _, _, rfl, rfl, upd_same, by omega, by omega, by simp; omega, fun p3 n3 => ?_⟩
    rw [rep_flat, Int.toNat_natCast]
    have hq5 : (upd (upd H3 p2 (.lst [.bl false])) p3 (.lst (List.replicate n (.bl false)))) q1 = some (.lst ((found0 D.over).map opV)) := by rw [upd_ne (ne_of_none hq4 n3)]; exact hq4
    have s5 : Same H (upd (upd H3 p2 (.lst [.bl false])) p3 (.lst (List.replicate n (.bl false)))) := (sm.trans off_le).trans ((same_new n2).trans (same_new n3))
    have hd5 : (upd (upd H3 p2 (.lst [.bl false])) p3 (.lst (List.replicate n (.bl false)))) p3 = some (.lst ((List.replicate n false).map V.bl)) := by rw [upd_same, List.map_replicate]
    have hqp : q1 ≠ p3 := ne_of_none hq4 n3
    have hHq : H q1 = none := n1
    have hHp : H p3 = none := by
      cases e : H p3 with
      | none => rfl
      | some o => rw [((sm.trans off_le).trans (same_new (o := .lst [.bl false]) n2)) _ _ e] at n3; cases n3
    generalize hH5 : upd (upd H3 p2 (.lst [.bl false])) p3 (.lst (List.replicate n (.bl false))) = H5 at *
    clear hH5 n3 hq4 n2 hq3 sm
    have same5 : Same H (off [q1, p3] H5) := fun b o e => off_of (s5 b o e) (by simp; exact ⟨ne_of_none e hHq, ne_of_none e hHp⟩)
    have D0 := dinv_start (room := D.room) (lifts := D.lifts) (G := D.net n m) hN.lo
    -- the state at the loop
    let Pw : Nat → L2.St → Hp → Prop := fun mm σ H6 => ∃ (found : List (Option Int)) (done : List Bool) (u : Nat) (b : Option Nat) (x4 x5 x6 x7 : Option V), σ = [some (.ref A.c), some (.ref q1), some (.ref p3), some (noV b), x4, x5, x6, x7] ∧ mm = cf done ∧ Same H (off [q1, p3] H6) ∧
      H6 q1 = some (.lst (found.map opV)) ∧ H6 p3 = some (.lst (done.map V.bl)) ∧ DInv (D.net n m) D.room D.over D.lifts found done u (fun _ => True) ∧ Best found done found.length b
    have hNx : ∀ mm, ∀ H6, ∀ found done u x4 x5 x6 x7, mm = cf done → Same H (off [q1, p3] H6) → H6 q1 = some (.lst (found.map opV)) → H6 p3 = some (.lst (done.map V.bl)) → DInv (D.net n m) D.room D.over D.lifts found done u (fun _ => True) →
      ∀ H7 b, Same H6 H7 → Best found done found.length b → Pw mm [some (.ref A.c), some (.ref q1), some (.ref p3), some (noV b), x4, x5, x6, x7] H7 := fun mm H6 found done u x4 x5 x6 x7 hm sm h1 h2 dd H7 b s7 hb => ⟨found, done, u, b, x4, x5, x6, x7, rfl, hm, sm.trans (kp_of s7), s7 _ _ h1, s7 _ _ h2, dd, hb⟩
    refine ⟨_, rfl, A.c, rfl, (hC.mono s5).me (by decide +kernel), _, rfl, _, rfl, A.c, q1, p3, _, _, rfl, hq5, hd5, by rw [hfl]; simp, fun H6 b s6 hb => ?_⟩
    refine ⟨Pw, ⟨_, hNx _ H5 (found0 D.over) (List.replicate n false) n none none none none rfl same5 hq5 hd5 D0 H6 b s6 hb⟩, ?_⟩
    rintro mm σ H7 ⟨found, done, u, b, x4, x5, x6, x7, rfl, rfl, s7, h1, h2, dd, hb⟩
    have N7 : NetAt T H7 A D n m cap := hN.mono (s7.trans off_le)
    cases b with
    | none => exact ⟨_, rfl, _, rfl, iteF ⟨_, rfl, k H7 q1 found (s7.trans off_le) hHq h1 (Best.none_near dd hb)⟩⟩
    | some v =>
      obtain ⟨b1, b2, x, b3, b4⟩ := hb
      rw [dd.lf] at b1 b4
      have b1 : v < n := b1
      have hdl : v < done.length := by rw [dd.ld]; exact b1
      have hfl : ∀ w, w < n → w < found.length := fun w hw => by rw [dd.lf]; exact hw
      have D1 := dinv_pick dd b1 b2 b3 (fun w y hw hdw hy => b4 w y hw hdw hy)
      refine ⟨_, rfl, _, rfl, iteT ⟨_, fun _ _ h => h, ?_⟩⟩
      refine ⟨_, rfl, _, rfl, p3, _, _, _, rfl, rfl, h2, ixN_nat (by rw [List.length_map]; exact hdl), ?_⟩
      rw [← List.map_set]
      have hq8 : (upd H7 p3 (.lst ((done.set v true).map V.bl))) q1 = some (.lst (found.map opV)) := by rw [upd_ne hqp]; exact h1
      have s8 : Same H (off [q1, p3] (upd H7 p3 (.lst ((done.set v true).map V.bl)))) := s7.trans (kp_upd (by simp))
      have hd8 : (upd H7 p3 (.lst ((done.set v true).map V.bl))) p3 = some (.lst ((done.set v true).map V.bl)) := upd_same
      generalize upd H7 p3 (.lst ((done.set v true).map V.bl)) = H8 at *
      have C8 := hC.mono (s8.trans off_le)
      obtain ⟨ra, hra, hra2, hra3⟩ := C8.row (v := v) (by rw [hN.la]; exact b1)
      have hrl : ∀ e ∈ D.arcs.getD v [], e < 2 * m := fun e he => hN.row_lt b1 he
      refine ⟨_, rfl, A.c, _, rfl, C8.fa, _, rfl, _, _, _, _, rfl, rfl, SqL.of C8.ga, atI_nat hra2, ra, rfl, ⟨_, SqL.of hra3⟩, ?_⟩
      have hra0 : H ra = some (.lst (nvs (D.arcs.getD v []))) := by
        obtain ⟨r2, g1, g2, g3⟩ := hC.row (v := v) (by rw [hN.la]; exact b1)
        rw [hra] at g1
        rw [Option.some.inj g1]; exact g3
      have hdv : bd (done.set v true) v = true := by unfold bd; rw [getD_set hdl, if_pos rfl]
      have hcf : cf (done.set v true) < cf done := by have := cf_set hdl b2; omega
      generalize hrow : D.arcs.getD v [] = row at *
      have hrow' : (D.net n m).row v = row := hrow
      refine for_it walk_list (fun i σ H9 => ∃ (found : List (Option Int)) (x4 x5 x6 : Option V), σ = [some (.ref A.c), some (.ref q1), some (.ref p3), some (.int (v : Nat)), x4, x5, x6, x7] ∧ Same H (off [q1, p3] H9) ∧ H9 q1 = some (.lst (found.map opV)) ∧
        H9 p3 = some (.lst ((done.set v true).map V.bl)) ∧ fd found v = some x ∧ DInv (D.net n m) D.room D.over D.lifts found (done.set v true) v (fun a => a ∈ row.take i)) ⟨found, x4, x5, x6, rfl, s8, hq8, hd8, b3, D1.weak (fun e he => by simp at he)⟩
        (fun i σ H9 _ p => by obtain ⟨_, _, _, _, _, s9, _⟩ := p; exact SqL.of (off_le _ _ (s9 _ _ hra0))) ?_ ?_
      · rintro i y σ _ H9 hi ⟨found2, y4, y5, y6, rfl, s9, g1, g2, g3, D2⟩ ⟨rfl, hy⟩
        rw [nvs_len] at hi
        rw [nvs_at hi] at hy
        obtain rfl := Option.some.inj hy
        generalize he : row.getD i 0 = e at *
        have hem : e ∈ row := he ▸ getD_mem hi
        have he2 := hrl e hem
        have C9 := hC.mono (s9.trans off_le)
        have hgl := hN.hl he2
        have hfl2 : ∀ w, w < n → w < found2.length := fun w hw => by rw [D2.lf]; exact hw
        have hdl2 : ∀ w, w < n → w < (done.set v true).length := fun w hw => by rw [D2.ld]; exact hw
        have tk : ∀ a, a ∈ row.take (i + 1) → a ∈ row.take i ∨ a = e := fun a ha => by
          rw [List.take_succ, some_of_lt 0 hi, he] at ha
          simpa using ha
        obtain ⟨K1, K2, K3⟩ := dinv_arc hN.ok hN.inv D2 b1 hdv g3 (hrow'.symm ▸ hem)
        refine ⟨_, rfl, A.c, _, rfl, C9.fh, _, rfl, _, _, _, _, rfl, rfl, SqL.of C9.gh, atI_nat (nvs_at (by rw [hN.lh]; exact he2)), ?_⟩
        refine ⟨_, rfl, A.c, _, rfl, C9.fr, _, rfl, _, _, _, _, rfl, rfl, SqL.of C9.gr, atI_nat (ints_at (by rw [hN.lr]; exact he2)), _, _, rfl, rfl, _, rfl, ite2 (fun c => ?_) (fun c => ?_)⟩
        · have c := of_decide_eq_true c
          refine ⟨_, rfl, _, rfl, _, _, _, _, rfl, rfl, SqL.of g2, atI_nat (bls_at (hdl2 _ hgl)), _, rfl, ?_⟩
          cases hdg : bd (done.set v true) (D.heads.getD e 0) with
          | true =>
            refine iteF ⟨found2, _, _, _, rfl, s9, g1, g2, g3, (K1 fun z => ?_).weak tk⟩
            have z2 : bd (done.set v true) (D.heads.getD e 0) = false := z.2
            rw [hdg] at z2; cases z2
          | false =>
            refine iteT ⟨_, rfl, _, rfl, _, _, _, _, rfl, rfl, SqL.of g1, opv_some (hfl2 v b1) g3, ?_⟩
            refine ⟨_, rfl, A.c, rfl, C9.me (by decide +kernel), _, rfl, _, rfl, A, D, v, e, rfl, C9, by rw [hN.ll]; exact b1, by rw [hN.lp]; exact he2, by rw [hN.lh]; exact he2, by rw [hN.ll]; exact hgl, _, _, rfl, rfl, ?_⟩
            have hred : D.price.getD e 0 + D.lifts.getD v 0 - D.lifts.getD (D.heads.getD e 0) 0 = red (D.net n m) D.lifts e := by
              unfold red
              rw [((hN.ok.ar v b1 e).mp (hrow'.symm ▸ hem)).2]; rfl
            rw [hred]
            refine ⟨_, rfl, _, rfl, _, _, _, _, rfl, rfl, SqL.of g1, atI_nat (opv_at (hfl2 _ hgl)), _, rfl, ?_⟩
            have eset : (found2.map opV).set (D.heads.getD e 0) (V.int (x + red (D.net n m) D.lifts e)) = (found2.set (D.heads.getD e 0) (some (x + red (D.net n m) D.lifts e))).map opV := by rw [List.map_set]; rfl
            have put : (∀ y, fd found2 (D.heads.getD e 0) = some y → x + red (D.net n m) D.lifts e < y) → ∃ (found : List (Option Int)) (z4 z5 z6 : Option V), [some (V.ref A.c), some (.ref q1), some (.ref p3), some (.int (v : Nat)), some (.int (e : Nat)), some (.int (D.heads.getD e 0 : Nat)), some (.int (x + red (D.net n m) D.lifts e)), x7] = [some (.ref A.c), some (.ref q1), some (.ref p3), some (.int (v : Nat)), z4, z5, z6, x7] ∧
                Same H (off [q1, p3] (upd H9 q1 (.lst ((found2.map opV).set (D.heads.getD e 0) (.int (x + red (D.net n m) D.lifts e)))))) ∧ (upd H9 q1 (.lst ((found2.map opV).set (D.heads.getD e 0) (.int (x + red (D.net n m) D.lifts e))))) q1 = some (.lst (found.map opV)) ∧
                (upd H9 q1 (.lst ((found2.map opV).set (D.heads.getD e 0) (.int (x + red (D.net n m) D.lifts e))))) p3 = some (.lst ((done.set v true).map V.bl)) ∧ fd found v = some x ∧ DInv (D.net n m) D.room D.over D.lifts found (done.set v true) v (fun a => a ∈ row.take (i + 1)) := fun z => by
              rw [eset]
              refine ⟨found2.set (D.heads.getD e 0) (some (x + red (D.net n m) D.lifts e)), _, _, _, rfl, s9.trans (kp_upd (by simp)), upd_same, by rw [upd_ne hqp.symm]; exact g2, ?_, (K3 c hdg z).weak tk⟩
              have hne : v ≠ D.heads.getD e 0 := fun z => by rw [← z, hdv] at hdg; cases hdg
              unfold fd
              rw [getD_set (hfl2 _ hgl), if_neg hne]
              exact g3
            have stay : (∃ y, fd found2 (D.heads.getD e 0) = some y ∧ y ≤ x + red (D.net n m) D.lifts e) → ∃ (found : List (Option Int)) (z4 z5 z6 : Option V), [some (V.ref A.c), some (.ref q1), some (.ref p3), some (.int (v : Nat)), some (.int (e : Nat)), some (.int (D.heads.getD e 0 : Nat)), some (.int (x + red (D.net n m) D.lifts e)), x7] = [some (.ref A.c), some (.ref q1), some (.ref p3), some (.int (v : Nat)), z4, z5, z6, x7] ∧
                Same H (off [q1, p3] H9) ∧ H9 q1 = some (.lst (found.map opV)) ∧ H9 p3 = some (.lst ((done.set v true).map V.bl)) ∧ fd found v = some x ∧ DInv (D.net n m) D.room D.over D.lifts found (done.set v true) v (fun a => a ∈ row.take (i + 1)) := fun z =>
              ⟨found2, _, _, _, rfl, s9, g1, g2, g3, (K2 c hdg z).weak tk⟩
            have hix : ixN (found2.map opV).length ((D.heads.getD e 0 : Nat) : Int) = some (D.heads.getD e 0) := ixN_nat (by rw [List.length_map]; exact hfl2 _ hgl)
            cases hfg : fd found2 (D.heads.getD e 0) with
            | none =>
              refine iteT (iteT ⟨_, rfl, _, rfl, _, rfl, q1, _, _, _, rfl, rfl, g1, hix, ?_⟩)
              exact put fun y hy => by rw [hfg] at hy; cases hy
            | some y =>
              refine iteF ⟨_, rfl, _, rfl, _, rfl, _, _, _, _, rfl, rfl, SqL.of g1, opv_some (hfl2 _ hgl) hfg, _, _, rfl, rfl, _, rfl, ite2 (fun z => ?_) (fun z => ?_)⟩
              · refine ⟨_, rfl, _, rfl, _, rfl, q1, _, _, _, rfl, rfl, g1, hix, ?_⟩
                exact put fun y' hy => by rw [hfg] at hy; cases hy; exact of_decide_eq_true z
              · have z2 : ¬ x + red (D.net n m) D.lifts e < y := fun q => z (decide_eq_true q)
                exact stay ⟨y, hfg, Int.not_lt.mp z2⟩
        · refine ⟨found2, _, _, _, rfl, s9, g1, g2, g3, (K1 fun z => c (decide_eq_true z.1)).weak tk⟩
      · rintro σ H9 ⟨found2, y4, y5, y6, rfl, s9, g1, g2, g3, D2⟩
        rw [nvs_len, List.take_length] at D2
        have C9 := hC.mono (s9.trans off_le)
        have D3 := dinv_row D2 (fun e he => hrow' ▸ he)
        refine ⟨_, rfl, A.c, rfl, C9.me (by decide +kernel), _, rfl, _, rfl, A.c, q1, p3, _, _, rfl, g1, g2, by rw [D2.ld, D2.lf], fun H10 b s10 hb => ?_⟩
        exact ⟨_, hcf, hNx _ H9 found2 (done.set v true) v y4 y5 y6 x7 rfl s9 g1 g2 D3 H10 b s10 hb⟩
end
end K31

set_option autoImplicit true
set_option Elab.async false
set_option autoImplicit false
set_option linter.all false
set_option maxRecDepth 100000
set_option maxHeartbeats 4000000
namespace K31
open PySem PySem.Spec PyProof.Rows L2
/-! costs: free_arc, way_from -/
def PlAt (kvs : List (Key × V)) (pl : Nat → Option Nat) : Prop := ∀ u : Nat, valV kvs (.inl ((u : Nat) : Int)) = (pl u).map fun p => V.int ((p : Nat) : Int)
def plS (pl : Nat → Option Nat) (v q : Nat) : Nat → Option Nat := fun u => if u = v then some q else pl u
theorem plS_same {pl : Nat → Option Nat} {v q : Nat} : plS pl v q v = some q := if_pos rfl
theorem plS_ne {pl : Nat → Option Nat} {v q u : Nat} (h : u ≠ v) : plS pl v q u = pl u := if_neg h
theorem PlAt.get {kvs : List (Key × V)} {pl : Nat → Option Nat} (h : PlAt kvs pl) {H : Hp} {a : Addr} (e : H a = some (.dK kvs)) {v p : Nat} (hp : pl v = some p) : DGet H a (.int ((v : Nat) : Int)) (some (.int ((p : Nat) : Int))) := by
  have g := DGet.k (k := (.inl ((v : Nat) : Int) : Key)) e
  rw [h v, hp] at g
  exact g
theorem PlAt.put {kvs : List (Key × V)} {pl : Nat → Option Nat} (h : PlAt kvs pl) (v p : Nat) : PlAt (putK kvs (.inl ((v : Nat) : Int)) (.int ((p : Nat) : Int))) (plS pl v p) := fun u => by
  rw [valV_put]
  by_cases c : u = v
  · subst c; rw [if_pos rfl, plS_same]; rfl
  · rw [plS_ne c, if_neg (fun z => c (by have := Sum.inl.inj z; omega))]; exact h u
theorem putK_same {kvs : List (Key × V)} {k : Key} {v y : V} (h : valV kvs k = some y) : (putK kvs k v).length = kvs.length := by
  unfold putK
  split
  · simp
  · rename_i c
    exfalso
    apply c
    unfold valV at h
    cases e : kvs.find? fun kv => decide (kv.1 = k) with
    | none => rw [e] at h; cases h
    | some q =>
      rw [List.any_eq_true]
      exact ⟨q, List.mem_of_find?_eq_some e, List.find?_some (p := fun kv : Key × V => decide (kv.1 = k)) e⟩
theorem xor_tw (e : Nat) : Builtin.bitXor ((e : Nat) : Int) 1 = ((tw e : Nat) : Int) := by
  rw [bitXor_and, bitAnd_m1]
  unfold tw
  split <;> omega
theorem bd_lt {l : List Bool} {v : Nat} (h : bd l v = true) : v < l.length := by
  rcases Nat.lt_or_ge v l.length with c | c
  · exact c
  · unfold bd List.getD at h
    rw [List.getElem?_eq_none c] at h
    cases h
section
variable {K : PySem.W.Frag} {mg : Str → Option Value} {T : Fx K mg} {H H' : Hp} {A : CA} {D : CD} {n m : Nat} {cap : List Int}
theorem CoAt.kp {S : List Addr} (h : CoAt T H A D) (k : Kp S H H') (d : ∀ a ∈ A.as, a ∉ S) : CoAt T H' A D := ⟨h.nd, h.len, fun i a o ha ho => k.get (h.at_ i a o ha ho) (d a (List.mem_of_getElem? ha))⟩
theorem CoAt.isl (h : CoAt T H A D) {a : Addr} (ha : a ∈ A.as) : a = A.c ∨ ∃ vs, H a = some (.lst vs) := by
  obtain ⟨i, hi⟩ := List.getElem?_of_mem ha
  have hl : A.as.length = (objs T.cCo A D).length := by unfold CA.as objs; simp [h.len]
  have hi2 : i < (objs T.cCo A D).length := hl ▸ (List.getElem?_eq_some_iff.mp hi).1
  have ho := h.at_ i a _ hi (List.getElem?_eq_getElem hi2)
  match i, hi, hi2, ho with
  | 0, hi, _, _ => exact .inl (Option.some.inj hi).symm
  | 1, _, _, ho => exact .inr ⟨_, ho⟩
  | 2, _, _, ho => exact .inr ⟨_, ho⟩
  | 3, _, _, ho => exact .inr ⟨_, ho⟩
  | 4, _, _, ho => exact .inr ⟨_, ho⟩
  | 5, _, _, ho => exact .inr ⟨_, ho⟩
  | 6, _, _, ho => exact .inr ⟨_, ho⟩
  | 7, _, _, ho => exact .inr ⟨_, ho⟩
  | i + 8, _, hi2, ho =>
    refine .inr ⟨nvs ((D.arcs)[i]'(by simpa [objs] using hi2)), ho.trans ?_⟩
    show some ((D.arcs.map fun l => HO.lst (nvs l))[i]'_) = _
    rw [List.getElem_map]
theorem CoAt.has (h : CoAt T H A D) {a : Addr} (ha : a ∈ A.as) : H a ≠ none := by
  rcases h.isl ha with z | ⟨_, z⟩
  · rw [z, h.gc]; exact fun q => by cases q
  · rw [z]; exact fun q => by cases q
theorem CoAt.not_new (h : CoAt T H A D) {a : Addr} (ha : H a = none) : a ∉ A.as := fun z => h.has z ha
theorem CoAt.not_dk (h : CoAt T H A D) {a : Addr} {kvs : List (Key × V)} (ha : H a = some (.dK kvs)) : a ∉ A.as := fun z => by
  rcases h.isl z with q | ⟨_, q⟩
  · rw [q, h.gc] at ha; cases ha
  · rw [q] at ha; cases ha
theorem NetAt.kp {S : List Addr} (h : NetAt T H A D n m cap) (k : Kp S H H') (d : ∀ a ∈ A.as, a ∉ S) : NetAt T H' A D n m cap := ⟨h.co.kp k d, h.ok, h.inv⟩
/-- the price of an arc of a row, as reduced reckons it -/
theorem NetAt.red_row (h : NetAt T H A D n m cap) {v e : Nat} (hv : v < n) (he : e ∈ D.arcs.getD v []) : D.price.getD e 0 + D.lifts.getD v 0 - D.lifts.getD (D.heads.getD e 0) 0 = red (D.net n m) D.lifts e := by
  unfold red
  rw [((h.ok.ar v hv e).mp he).2]; rfl
end
section
variable {P : Program} {w : World} {K : PySem.W.Frag} {mg : Str → Option Value} {base : Heap}
def spFree (T : Fx K mg) : Sp := fun vs H Q _ => ∃ (A : CA) (D : CD) (n m : Nat) (cap : List Int) (v : Nat) (ap as : Addr) (kvs : List (Key × V)) (pl : Nat → Option Nat) (p : Nat) (seen : List Bool), vs = [.ref A.c, .int (v : Nat), .ref ap, .ref as] ∧ NetAt T H A D n m cap ∧ v < n ∧
  H ap = some (.dK kvs) ∧ kvs.length < sizeLine ∧ PlAt kvs pl ∧ pl v = some p ∧ H as = some (.lst (seen.map V.bl)) ∧ seen.length = n ∧ (∀ (i e : Nat), i < p → (D.arcs.getD v [])[i]? = some e → Use (D.net n m) D.room D.lifts e → bd seen (D.heads.getD e 0) = true) ∧
  (∀ H' kvs' q e, Kp [ap] H H' → H' ap = some (.dK kvs') → kvs'.length = kvs.length → PlAt kvs' (plS pl v q) → e ∈ D.arcs.getD v [] → Use (D.net n m) D.room D.lifts e → bd seen (D.heads.getD e 0) = false →
    (∀ (i a : Nat), i < q → (D.arcs.getD v [])[i]? = some a → Use (D.net n m) D.room D.lifts a → bd seen (D.heads.getD a 0) = true ∨ a = e) → Q (.int (e : Nat)) H') ∧
  (∀ H' kvs' q, Kp [ap] H H' → H' ap = some (.dK kvs') → kvs'.length = kvs.length → PlAt kvs' (plS pl v q) → (∀ a ∈ D.arcs.getD v [], Use (D.net n m) D.room D.lifts a → bd seen (D.heads.getD a 0) = true) → Q .non H')
theorem sc_costs_free_arc : FnScope ["self", "node", "places", "seen", "row", "number"] ["self", "node", "places", "seen"] (defScope s_costs_free_arc) := ⟨rfl, rfl, rfl, by decide +kernel, rfl, by decide +kernel, by decide +kernel⟩
theorem c_costs_free_arc (T : Fx K mg) (F : MetAt K T.cCo "free_arc" "Costs.free_arc" s_costs_free_arc) (c_costs_reduced : Met P w K mg base CX0 1 T.cCo "reduced" ["self", "node", "number"] (spReduced T)) : Met P w K mg base CX0 2 T.cCo "free_arc" ["self", "node", "places", "seen"] (spFree T) := by
  refine met_of F sc_costs_free_arc (fun _ _ _ _ _ _ _ us hl => match us, hl with | [_, _, _, _], _ => rfl) (fun vs H Q E h => ?_) (fun f cdv A outer s H vs Q E hr h => ?_)
  · obtain ⟨A, D, n, m, cap, v, ap, as, kvs, pl, p, seen, rfl, hN, hv, hap, hkl, hpl, hpv, has, hsl, hp, kS, kN⟩ := h
    rfl
  obtain ⟨A, D, n, m, cap, v, ap, as, kvs, pl, p, seen, rfl, hN, hv, hap, hkl, hpl, hpv, has, hsl, hp, kS, kN⟩ := h
  have hu := hu_of hr
  have nd := sc_costs_free_arc.nd
  refine ⟨_, (pss_cons (ps_set (i := 4) nd rfl (Or.inl rfl) (pe_ix ix_list (pe_f (pv 0)) (pv 1) (fun _ _ => rfl)))
  (pss_cons (ps_while (passes_of rfl) (pt_cmpR op_lt (pe_dget hu (pv 2) (pv 1) (fun _ _ => rfl)) (pe_callB call_len_seq rfl T.len boot_len (pa_cons (pv 4) pa_nil)) (nomark _)) (pss_cons (ps_set (i := 5) nd rfl (Or.inl rfl) (pe_ix ix_list (pv 4) (pe_dget hu (pv 2) (pv 1) (fun _ _ => rfl)) (fun _ _ => rfl)))
  (pss_cons (ps_daug hu (pv 2) (pv 1) pe_int in_add (by intros; rfl))
  (pss_one (ps_if (PW.pt (pw_and (pt_cmpR op_gt (pe_ix ix_list (pe_f (pv 0)) (pv 5) (fun _ _ => rfl)) pe_int (nomark _)) (pw_and (pt_not (pt_val (pe_ix ix_list (pv 3) (pe_ix ix_list (pe_f (pv 0)) (pv 5) (fun _ _ => rfl)) (fun _ _ => rfl)))) (pw_and1 (pt_cmpR op_eq (pe_m c_costs_reduced hr (by decide) pass0 (pv 0) (pa_cons (pv 1) (pa_cons (pv 5) pa_nil))) pe_int (nomark _)))))) (pss_one (ps_ret (pv 5))) pss_nil)))))
  (pss_one (ps_ret pe_non)))), ?_⟩
  have hC := hN.co
  have hnap := hC.not_dk hap
  have hne : as ≠ ap := fun z => by rw [z, hap] at has; cases has
  obtain ⟨ra, hra, hra2, hra3⟩ := hC.row (v := v) (by rw [hN.la]; exact hv)
  have hrl : ∀ e ∈ D.arcs.getD v [], e < 2 * m := fun e he => hN.row_lt hv he
  have hred : ∀ e ∈ D.arcs.getD v [], _ := fun e he => hN.red_row hv he
  have hrne : ra ≠ ap := fun z => hnap (z ▸ CoAt.mem_row hra)
  generalize D.arcs.getD v [] = row at *
  refine ⟨_, rfl, A.c, _, rfl, hC.fa, _, rfl, _, _, _, _, rfl, rfl, SqL.of hC.ga, atI_nat hra2, ?_⟩
  let Pw : Nat → L2.St → Hp → Prop := fun mm σ H1 => ∃ (kvs1 : List (Key × V)) (q : Nat) (x5 : Option V), σ = [some (.ref A.c), some (.int (v : Nat)), some (.ref ap), some (.ref as), some (.ref ra), x5] ∧ mm = row.length - q ∧ Kp [ap] H H1 ∧ H1 ap = some (.dK kvs1) ∧ kvs1.length = kvs.length ∧
    PlAt kvs1 (plS pl v q) ∧ ∀ (i e : Nat), i < q → row[i]? = some e → Use (D.net n m) D.room D.lifts e → bd seen (D.heads.getD e 0) = true
  refine ⟨Pw, ⟨_, kvs, p, none, rfl, rfl, Kp.refl _ _, hap, rfl, fun u => ?_, hp⟩, ?_⟩
  · by_cases c : u = v
    · subst c; rw [plS_same, hpl u, hpv]
    · rw [plS_ne c]; exact hpl u
  rintro mm σ H1 ⟨kvs1, q, x5, rfl, rfl, k1, h1, hl1, hpl1, hq⟩
  have N1 := hN.kp k1 (fun a ha z => hnap (by simp at z; exact z ▸ ha))
  have C1 := N1.co
  have hr1 : H1 ra = some (.lst (nvs row)) := k1.get hra3 (by simpa using hrne)
  have hs1 : H1 as = some (.lst (seen.map V.bl)) := k1.get has (by simpa using hne)
  have g := hpl1.get h1 (v := v) (p := q) plS_same
  refine ⟨_, rfl, _, rfl, ap, _, rfl, g, _, rfl, _, _, rfl, .inl (SqL.of hr1), ?_⟩
  rw [nvs_len]
  refine ⟨_, _, rfl, rfl, _, rfl, ite2 (fun c => ?_) (fun c => ?_)⟩
  · have c : q < row.length := by have := of_decide_eq_true c; omega
    refine ⟨_, fun _ _ h => h, ?_⟩
    refine ⟨_, rfl, _, rfl, _, rfl, ap, _, rfl, g, _, _, _, _, rfl, rfl, SqL.of hr1, atI_nat (nvs_at c), ?_⟩
    generalize he : row.getD q 0 = e
    have hem : e ∈ row := he ▸ getD_mem c
    have he2 := hrl e hem
    refine ⟨_, rfl, _, rfl, ap, _, rfl, g, _, _, rfl, rfl, _, DPut.k (k := (.inl ((v : Nat) : Int) : Key)) h1 (by omega), ?_⟩
    have hpl2 := hpl1.put v (q + 1)
    have hv1 : valV kvs1 (.inl ((v : Nat) : Int)) = some (.int (q : Nat)) := by rw [hpl1 v, plS_same]; rfl
    have hl2 : (putK kvs1 (.inl ((v : Nat) : Int)) (.int ((q + 1 : Nat) : Int))).length = kvs.length := (putK_same hv1).trans hl1
    have k2 : Kp [ap] H (upd H1 ap (.dK (putK kvs1 (.inl ((v : Nat) : Int)) (.int ((q + 1 : Nat) : Int))))) := k1.trans (kp_upd (by simp))
    have h2 : (upd H1 ap (.dK (putK kvs1 (.inl ((v : Nat) : Int)) (.int ((q + 1 : Nat) : Int))))) ap = some (.dK (putK kvs1 (.inl ((v : Nat) : Int)) (.int ((q + 1 : Nat) : Int)))) := upd_same
    have hs2 : (upd H1 ap (.dK (putK kvs1 (.inl ((v : Nat) : Int)) (.int ((q + 1 : Nat) : Int))))) as = some (.lst (seen.map V.bl)) := by rw [upd_ne hne]; exact hs1
    have hpl3 : PlAt (putK kvs1 (.inl ((v : Nat) : Int)) (.int ((q + 1 : Nat) : Int))) (plS pl v (q + 1)) := fun u => by
      rw [hpl2 u]
      by_cases z : u = v
      · subst z; rw [plS_same, plS_same]
      · rw [plS_ne z, plS_ne z, plS_ne z]
    have N2 := hN.kp k2 (fun a ha z => hnap (by simp at z; exact z ▸ ha))
    have C2 := N2.co
    have hs2' := SqL.of (K := K) hs2
    have more : (Use (D.net n m) D.room D.lifts e → bd seen (D.heads.getD e 0) = true) → ∃ m', m' < row.length - q ∧ Pw m' [some (.ref A.c), some (.int (v : Nat)), some (.ref ap), some (.ref as), some (.ref ra), some (.int (e : Nat))] (upd H1 ap (.dK (putK kvs1 (.inl ((v : Nat) : Int)) (.int ((q + 1 : Nat) : Int))))) := fun z =>
      ⟨row.length - (q + 1), by omega, _, q + 1, _, rfl, rfl, k2, h2, hl2, hpl3, fun i a hi ha hu => by
        by_cases c2 : i = q
        · subst c2
          rw [some_of_lt 0 c, he] at ha
          obtain rfl := Option.some.inj ha
          exact z hu
        · exact hq i a (by omega) ha hu⟩
    have hgl := hN.hl he2
    refine ⟨_, rfl, A.c, _, rfl, C2.fr, _, rfl, _, _, _, _, rfl, rfl, SqL.of C2.gr, atI_nat (ints_at (by rw [hN.lr]; exact he2)), _, _, rfl, rfl, _, rfl, ite2 (fun c1 => ?_) (fun c1 => ?_)⟩
    · have c1 := of_decide_eq_true c1
      refine ⟨_, rfl, _, rfl, A.c, _, rfl, C2.fh, _, rfl, _, _, _, _, rfl, rfl, SqL.of C2.gh, atI_nat (nvs_at (by rw [hN.lh]; exact he2)), _, _, _, _, rfl, rfl, hs2', atI_nat (bls_at (by rw [hsl]; exact hgl)), _, rfl, ?_⟩
      cases hsg : bd seen (D.heads.getD e 0) with
      | true => exact iteF (more fun _ => hsg)
      | false =>
        refine iteT ⟨_, rfl, A.c, rfl, C2.me (by decide +kernel), _, rfl, _, rfl, A, D, v, e, rfl, C2, by rw [hN.ll]; exact hv, by rw [hN.lp]; exact he2, by rw [hN.lh]; exact he2, by rw [hN.ll]; exact hgl, rfl, _, rfl, ?_⟩
        rw [dec_int, hred e hem]
        refine ite2 (fun c3 => ?_) (fun c3 => ?_)
        · have hu : Use (D.net n m) D.room D.lifts e := ⟨he2, c1, of_decide_eq_true c3⟩
          refine ⟨_, rfl, kS _ _ (q + 1) e k2 h2 hl2 hpl3 hem hu hsg fun i a hi ha hua => ?_⟩
          by_cases c2 : i = q
          · subst c2
            rw [some_of_lt 0 c, he] at ha
            exact .inr (Option.some.inj ha).symm
          · exact .inl (hq i a (by omega) ha hua)
        · exact more fun hu => (c3 (decide_eq_true hu.2.2)).elim
    · exact more fun hu => (c1 (decide_eq_true hu.2.1)).elim
  · have c : row.length ≤ q := by have : ¬ ((q : Nat) : Int) < (row.length : Nat) := fun z => c (decide_eq_true z); omega
    refine kN H1 kvs1 q k1 h1 hl1 hpl1 fun a ha hu => ?_
    obtain ⟨i, hi⟩ := List.getElem?_of_mem ha
    have := (List.getElem?_eq_some_iff.mp hi).1
    exact hq i a (by omega) hi hu
def spWay (T : Fx K mg) : Sp := fun vs H Q _ => ∃ (A : CA) (D : CD) (n m : Nat) (cap : List Int) (v0 : Nat) (as : Addr) (seen : List Bool), vs = [.ref A.c, .int (v0 : Nat), .ref as] ∧ NetAt T H A D n m cap ∧ v0 < n ∧ n ≤ 1000 ∧ H as = some (.lst (seen.map V.bl)) ∧ as ∉ A.as ∧ seen.length = n ∧
  (∀ u, u < n → bd seen u = true → Closed (D.net n m) D.room D.over D.lifts seen u) ∧ bd seen v0 = false ∧
  (∀ H' aw way t, Kp [as] H H' → H' aw = some (.lst (nvs way)) → H aw = none → Path (D.net n m) v0 way t → t < n → D.over.getD t 0 < 0 → (∀ e ∈ way, Use (D.net n m) D.room D.lifts e) → (v0 :: way.map (D.net n m).hd).Nodup → way.length ≤ n → Q (.ref aw) H') ∧
  (∀ H' seen', Kp [as] H H' → H' as = some (.lst (seen'.map V.bl)) → seen'.length = n → (∀ u, bd seen u = true → bd seen' u = true) → (∀ u, u < n → bd seen' u = true → Closed (D.net n m) D.room D.over D.lifts seen' u) → bd seen' v0 = true → Q .non H')
theorem bd_set_up {l : List Bool} {v u : Nat} (hv : v < l.length) (h : bd l u = true) : bd (l.set v true) u = true := by
  unfold bd at *
  rw [getD_set hv]
  split
  · rfl
  · exact h
theorem sc_costs_way_from : FnScope ["self", "node", "seen", "way", "places", "number"] ["self", "node", "seen"] (defScope s_costs_way_from) := ⟨rfl, rfl, rfl, by decide +kernel, rfl, by decide +kernel, by decide +kernel⟩
theorem c_costs_way_from (T : Fx K mg) (F : MetAt K T.cCo "way_from" "Costs.way_from" s_costs_way_from) (c_costs_free_arc : Met P w K mg base CX0 2 T.cCo "free_arc" ["self", "node", "places", "seen"] (spFree T)) : Met P w K mg base CX0 3 T.cCo "way_from" ["self", "node", "seen"] (spWay T) := by
  refine met_of F sc_costs_way_from (fun _ _ _ _ _ _ _ us hl => match us, hl with | [_, _, _], _ => rfl) (fun vs H Q E h => ?_) (fun f cdv A outer s H vs Q E hr h => ?_)
  · obtain ⟨A, D, n, m, cap, v0, as, seen, rfl, hN, hv, hn, has, hasA, hsl, hcl, hs0, kS, kN⟩ := h
    rfl
  obtain ⟨A, D, n, m, cap, v0, as, seen, rfl, hN, hv, hn, has, hasA, hsl, hcl, hs0, kS, kN⟩ := h
  have hu := hu_of hr
  have nd := sc_costs_way_from.nd
  refine ⟨_, (pss_cons (ps_set (i := 3) nd rfl (Or.inl rfl) (pe_lst pa_nil))
  (pss_cons (ps_set (i := 4) nd rfl (Or.inl rfl) (pe_disp (pps_cons (pv 1) pe_int pps_nil) rfl rfl (List.cons_ne_nil _ _) (by decide)))
  (pss_cons (ps_asg pe_bl (pg_sub (pv 2) (pv 1) set_list))
  (pss_one (ps_while (passes_of rfl) (pt_val pe_bl) (pss_cons (ps_if (pt_cmpR op_lt (pe_ix ix_list (pe_f (pv 0)) (pv 1) (fun _ _ => rfl)) pe_int (nomark _)) (pss_one (ps_ret (pv 3))) pss_nil)
  (pss_cons (ps_set (i := 5) nd rfl (Or.inl rfl) (pe_m c_costs_free_arc hr (by decide) pass0 (pv 0) (pa_cons (pv 1) (pa_cons (pv 4) (pa_cons (pv 2) pa_nil)))))
  (pss_one (ps_if (pt_cmp (pc_notN (pv 5))) (pss_cons (ps_expr (pe_bm PySem.F.plainAttrs_list PySem.F.slot_list_append PySem.F.type_list_append mt_append (pv 3) (pa_cons (pv 5) pa_nil)))
  (pss_cons (ps_set (i := 1) nd rfl (Or.inl rfl) (pe_ix ix_list (pe_f (pv 0)) (pv 5) (fun _ _ => rfl)))
  (pss_cons (ps_asg pe_bl (pg_sub (pv 2) (pv 1) set_list))
  (pss_one (ps_dput hu (pv 4) (pv 1) pe_int rfl))))) (pss_one (ps_if (pt_cmpR op_gt (pe_callB call_len_seq rfl T.len boot_len (pa_cons (pv 3) pa_nil)) pe_int (nomark _)) (pss_one (ps_set (i := 1) nd rfl (Or.inl rfl) (pe_ix ix_list (pe_f (pv 0)) (pe_op op_xor (pe_bm0 PySem.F.plainAttrs_list PySem.F.slot_list_pop PySem.F.type_list_pop mt_pop (pv 3)) pe_int) (fun _ _ => rfl)))) (pss_one (ps_ret pe_non))))))))))))), ?_⟩
  have sz := sizeLine_eq
  have hC := hN.co
  refine ⟨Nat.zero_le _, fun aw n1 => ?_⟩
  intro ap n2
  refine ⟨_, rfl, upd_same, [(.inl ((v0 : Nat) : Int), .int ((0 : Nat) : Int))], rfl, (by show 1 ≤ 15; decide), ?_⟩
  generalize hk0 : mergeK [] [((.inl ((v0 : Nat) : Int) : Key), V.int ((0 : Nat) : Int))] = k0
  have hpl0 : PlAt k0 (plS (fun _ => none) v0 0) := by
    rw [← hk0]
    exact PlAt.put (kvs := []) (pl := fun _ => none) (fun u => rfl) v0 0
  have hk0l : k0.length = 1 := by rw [← hk0]; rfl
  have hne1 : aw ≠ ap := fun z => by rw [z, upd_same] at n2; cases n2
  have hne2 : as ≠ aw := ne_of_none has n1
  have n2' : H ap = none := by rw [upd_ne hne1.symm] at n2; exact n2
  have hne3 : as ≠ ap := ne_of_none has n2'
  have hH2 : upd (upd (upd H aw (.lst [])) ap (.dK [])) ap (.dK k0) = upd (upd H aw (.lst [])) ap (.dK k0) := upd_upd
  rw [hH2]
  have s2 : Same H (upd (upd H aw (.lst [])) ap (.dK k0)) := (same_new n1).trans (same_new n2)
  have ha2 : (upd (upd H aw (.lst [])) ap (.dK k0)) aw = some (.lst (nvs [])) := by rw [upd_ne hne1, upd_same]; rfl
  have hp2 : (upd (upd H aw (.lst [])) ap (.dK k0)) ap = some (.dK k0) := upd_same
  have hs2 := s2 _ _ has
  generalize upd (upd H aw (.lst [])) ap (.dK k0) = H2 at *
  clear hH2 n2
  have hsl0 : v0 < seen.length := by rw [hsl]; exact hv
  refine ⟨_, rfl, _, rfl, as, _, _, _, rfl, rfl, hs2, ixN_nat (by rw [List.length_map]; exact hsl0), ?_⟩
  rw [← List.map_set]
  -- what stays
  have back : ∀ {H3 : Hp}, Kp [as, aw, ap] H H3 → Kp [as] H H3 := fun {H3} k b o e => by
    have h1 := off_le _ _ e
    have h2 : b ≠ as := by have := off_not e; simpa using this
    have h3 := k.get h1 (by simp; exact ⟨h2, ne_of_none h1 n1, ne_of_none h1 n2'⟩)
    exact off_of h3 (by simpa using h2)
  have hA3 : ∀ a ∈ A.as, a ∉ [as, aw, ap] := fun a ha z => by
    simp at z
    rcases z with z | z | z
    · exact hasA (z ▸ ha)
    · exact hC.not_new n1 (z ▸ ha)
    · exact hC.not_new n2' (z ▸ ha)
  have k3 : Kp [as, aw, ap] H (upd H2 as (.lst ((seen.set v0 true).map V.bl))) := (kp_of s2).trans (kp_upd (by simp))
  have ha3 : (upd H2 as (.lst ((seen.set v0 true).map V.bl))) aw = some (.lst (nvs [])) := by rw [upd_ne hne2.symm]; exact ha2
  have hp3 : (upd H2 as (.lst ((seen.set v0 true).map V.bl))) ap = some (.dK k0) := by rw [upd_ne hne3.symm]; exact hp2
  have hs3 : (upd H2 as (.lst ((seen.set v0 true).map V.bl))) as = some (.lst ((seen.set v0 true).map V.bl)) := upd_same
  generalize upd H2 as (.lst ((seen.set v0 true).map V.bl)) = H3 at *
  clear hp2 ha2 hs2 s2
  let Pw : Nat → L2.St → Hp → Prop := fun mm σ H1 => ∃ (way : List Nat) (node : Nat) (kvs : List (Key × V)) (pl : Nat → Option Nat) (sn : List Bool) (x5 : Option V), σ = [some (.ref A.c), some (.int (node : Nat)), some (.ref as), some (.ref aw), some (.ref ap), x5] ∧ mm = 2 * cf sn + way.length ∧
    Kp [as, aw, ap] H H1 ∧ H1 aw = some (.lst (nvs way)) ∧ H1 ap = some (.dK kvs) ∧ H1 as = some (.lst (sn.map V.bl)) ∧ PlAt kvs pl ∧ kvs.length + cf sn ≤ n ∧ way.length + cf sn ≤ n ∧ WInv (D.net n m) D.room D.over D.lifts v0 way node pl sn ∧ ∀ u, bd seen u = true → bd sn u = true
  have hcf0 := cf_set hsl0 hs0
  have hcfl : ∀ l : List Bool, cf l ≤ l.length := fun l => by unfold cf; exact List.length_filter_le _ _
  have hcf1 := hcfl seen
  have hcf1 : cf seen ≤ n := hsl ▸ hcf1
  refine ⟨Pw, ⟨_, [], v0, k0, _, seen.set v0 true, none, rfl, rfl, k3, ha3, hp3, hs3, hpl0, by omega, by simp; omega, winv_start (G := D.net n m) hsl hv hcl plS_same, fun u h => bd_set_up hsl0 h⟩, ?_⟩
  rintro mm σ H1 ⟨way, node, kvs, pl, sn, x5, rfl, rfl, k1, h1, h2, h3, hpl, hkl, hwl, W, up⟩
  have N1 := hN.kp k1 hA3
  have C1 := N1.co
  have hsnn := W.sn _ W.path.last
  have hnode : node < n := by have := bd_lt hsnn; rw [W.ls] at this; exact this
  refine ⟨_, rfl, iteT ⟨_, fun _ _ h => h, ?_⟩⟩
  refine ⟨_, rfl, A.c, _, rfl, C1.fo, _, rfl, _, _, _, _, rfl, rfl, SqL.of C1.go, atI_nat (ints_at (by rw [hN.lo]; exact hnode)), _, _, rfl, rfl, _, rfl, ite2 (fun c => ?_) (fun c => ?_)⟩
  · exact ⟨_, rfl, kS H1 aw way node (back k1) h1 n1 W.path hnode (of_decide_eq_true c) W.use W.nd (by omega)⟩
  · have ho : 0 ≤ D.over.getD node 0 := by have : ¬ D.over.getD node 0 < 0 := fun z => c (decide_eq_true z); omega
    obtain ⟨p, hpn, hpu⟩ := W.hpl _ W.path.last
    refine ⟨_, rfl, A.c, rfl, C1.me (by decide +kernel), _, rfl, _, rfl, _, rfl, A, D, n, m, cap, node, ap, as, kvs, pl, p, sn, rfl, N1, hnode, h2, by omega, hpl, hpn, h3, W.ls, fun i e hi he hu => hpu i e hi he hu, ?_, ?_⟩
    · intro H4 kvs4 q e k4 g1 gl gpl hem hu hsf hqs
      have k14 : Kp [as, aw, ap] H H4 := k1.trans (k4.mono (by simp))
      have g2 : H4 aw = some (.lst (nvs way)) := k4.get h1 (by simpa using hne1)
      have g3 : H4 as = some (.lst (sn.map V.bl)) := k4.get h3 (by simpa using hne3)
      have hgl := hN.hl hu.1
      refine ⟨_, rfl, _, rfl, iteT ⟨_, rfl, .inl ⟨rfl, _, .inl (.inl g2)⟩, _, rfl, aw, _, _, rfl, rfl, g2, by rw [nvs_len]; omega, ?_⟩⟩
      rw [nvs_snoc]
      have k5 : Kp [as, aw, ap] H (upd H4 aw (.lst (nvs (way ++ [e])))) := k14.trans (kp_upd (by simp))
      have f1 : (upd H4 aw (.lst (nvs (way ++ [e])))) aw = some (.lst (nvs (way ++ [e]))) := upd_same
      have f2 : (upd H4 aw (.lst (nvs (way ++ [e])))) ap = some (.dK kvs4) := by rw [upd_ne hne1.symm]; exact g1
      have f3 : (upd H4 aw (.lst (nvs (way ++ [e])))) as = some (.lst (sn.map V.bl)) := by rw [upd_ne hne2]; exact g3
      generalize upd H4 aw (.lst (nvs (way ++ [e]))) = H5 at *
      have C5 := hC.kp k5 hA3
      have hgs : D.heads.getD e 0 < sn.length := by rw [W.ls]; exact hgl
      refine ⟨_, rfl, A.c, _, rfl, C5.fh, _, rfl, _, _, _, _, rfl, rfl, SqL.of C5.gh, atI_nat (nvs_at (by rw [hN.lh]; exact hu.1)), ?_⟩
      refine ⟨_, rfl, _, rfl, as, _, _, _, rfl, rfl, f3, ixN_nat (by rw [List.length_map]; exact hgs), ?_⟩
      rw [← List.map_set]
      refine ⟨_, rfl, _, rfl, ap, _, rfl, DPut.k (k := (.inl ((D.heads.getD e 0 : Nat) : Int) : Key)) (kvs := kvs4) (by rw [upd_ne hne3.symm]; exact f2) (by omega), ?_⟩
      have hdne : D.heads.getD e 0 ≠ node := fun z => by rw [z, hsnn] at hsf; cases hsf
      obtain ⟨W2, hcf⟩ := winv_on hN.ok W ho hem hu hsf (q := q) (pl' := plS (plS pl node q) (D.heads.getD e 0) 0) hqs plS_same ((plS_ne hdne.symm).trans plS_same) (fun u h1 h2 => (plS_ne h2).trans (plS_ne h1))
      have hcf : cf (sn.set (D.heads.getD e 0) true) + 1 = cf sn := hcf
      have hlp := length_putK kvs4 (.inl ((D.heads.getD e 0 : Nat) : Int) : Key) (.int ((0 : Nat) : Int))
      refine ⟨2 * cf (sn.set (D.heads.getD e 0) true) + (way ++ [e]).length, by rw [len_snoc]; omega, way ++ [e], D.heads.getD e 0, putK kvs4 (.inl ((D.heads.getD e 0 : Nat) : Int)) (.int ((0 : Nat) : Int)), _, sn.set (D.heads.getD e 0) true, _, rfl, rfl, (k5.trans (kp_upd (by simp))).trans (kp_upd (by simp)), by rw [upd_ne hne1, upd_ne hne2.symm]; exact f1, upd_same,
        by rw [upd_ne hne3, upd_same], PlAt.put gpl _ 0, by omega, by rw [len_snoc]; omega, W2, fun u h => bd_set_up hgs (up u h)⟩
    · intro H4 kvs4 q k4 g1 gl gpl hall
      have k14 : Kp [as, aw, ap] H H4 := k1.trans (k4.mono (by simp))
      have g2 : H4 aw = some (.lst (nvs way)) := k4.get h1 (by simpa using hne1)
      have g3 : H4 as = some (.lst (sn.map V.bl)) := k4.get h3 (by simpa using hne3)
      refine ⟨_, rfl, _, rfl, iteF ⟨_, rfl, _, _, rfl, .inl (SqL.of g2), ?_⟩⟩
      rw [nvs_len]
      refine ⟨_, _, rfl, rfl, _, rfl, ite2 (fun c => ?_) (fun c => ?_)⟩
      · have c : 0 < way.length := by have := of_decide_eq_true c; omega
        obtain ⟨way', e, rfl⟩ : ∃ way' e, way = way' ++ [e] := ⟨way.dropLast, way.getLast (by intro z; rw [z] at c; cases c), (List.dropLast_concat_getLast _).symm⟩
        have hne : (nvs (way' ++ [e]))[(nvs (way' ++ [e])).length - 1]? = some (V.int ((e : Nat) : Int)) := by
          rw [← nvs_snoc, len_snoc]; simp
        have hdl : (nvs (way' ++ [e])).dropLast = nvs way' := by rw [← nvs_snoc, List.dropLast_concat]
        have he := (W.use e (by simp)).1
        have C4 := hC.kp k14 hA3
        have k5 : Kp [as, aw, ap] H (upd H4 aw (.lst (nvs way'))) := k14.trans (kp_upd (by simp))
        have C5 := hC.kp k5 hA3
        refine ⟨_, rfl, A.c, _, rfl, C4.fh, _, rfl, .inl ⟨rfl, _, .inl (.inl g2)⟩, aw, _, _, rfl, rfl, g2, hne, ?_⟩
        rw [hdl]
        refine ⟨_, _, rfl, rfl, _, _, _, _, rfl, rfl, SqL.of C5.gh, (by show atI _ (Builtin.bitXor ((e : Nat) : Int) 1) = _; rw [xor_tw]; exact atI_nat (nvs_at (by rw [hN.lh]; exact tw_lt he))), ?_⟩
        refine ⟨2 * cf sn + way'.length, by rw [len_snoc]; omega, way', (D.net n m).tl e, kvs4, _, sn, _, rfl, rfl, k5, upd_same, by rw [upd_ne hne1.symm]; exact g1, by rw [upd_ne hne2]; exact g3, gpl, by omega, by rw [len_snoc] at hwl; omega,
          winv_back hN.ok W ho hall (fun u hu => plS_ne hu), up⟩
      · have c : way = [] := by
          have : ¬ ((way.length : Nat) : Int) > 0 := fun z => c (decide_eq_true z)
          exact List.length_eq_zero_iff.mp (by omega)
        subst c
        obtain ⟨w1, w2⟩ := winv_none W ho hall
        exact kN H4 sn (back k14) g3 W.ls up w1 w2
end
end K31

set_option autoImplicit true
set_option Elab.async false
set_option autoImplicit false
set_option linter.all false
set_option maxRecDepth 100000
set_option maxHeartbeats 4000000
namespace K31
open PySem PySem.Spec PyProof.Rows L2
/-! costs: push, push_all, solve -/
/-- with a middle between -/
def tMid (t : TE) : TE := fun σ H Q => ∃ M : VK, t σ H M ∧ ∀ v H1, M v H1 → Q v H1
theorem pe_mid {X : Cx} {e : Expr} {t : TE} (he : PE X e t) : PE X e (tMid t) := ⟨fun pins s σ H Q I h => by
  obtain ⟨M, h1, h2⟩ := h
  exact thn (he.run pins s σ H _ I h1) fun v s1 ⟨x, H1, I1, r1, q1⟩ => ⟨x, H1, I1, r1, h2 _ _ q1⟩⟩
theorem sh_ints (ns : List Int) : SeqAt.shaped (.list (ns.map PyData.int)) = true := by
  unfold SeqAt.shaped
  have h1 : PyData.canLayAll0 (ns.map PyData.int) = true := by
    induction ns with
    | nil => rfl
    | cons a r ih => rw [List.map_cons]; simp only [PyData.canLayAll0, PyData.canLay0, ih, Bool.and_self]
  have h2 : PyData.depthAll (ns.map PyData.int) ≤ 1 := by
    clear h1
    induction ns with
    | nil => show 0 ≤ 1; omega
    | cons a r ih => rw [List.map_cons]; simp only [PyData.depthAll]; refine Nat.max_le.mpr ⟨?_, ih⟩; show PyData.depth (.int a) ≤ 1; simp [PyData.depth]
  simp only [PyData.canLay0, PyData.depth, h1, Bool.true_and]
  exact decide_eq_true (by omega)
theorem dp_ints {K : PySem.W.Frag} {H : Hp} : ∀ ns : List Int, DpAll K H (ns.map V.int) (ns.map PyData.int)
  | [] => .nil
  | _ :: r => .cons (.int _) (dp_ints r)
theorem eqv_nil (ns : List Int) : PyData.eqv (.list (ns.map PyData.int)) (.list []) = decide (ns = []) := by
  cases ns with
  | nil => simp [PyData.eqv, PyData.eqvAll]
  | cons a r => simp [PyData.eqv, PyData.eqvAll]
theorem pushes_succ (d : Int) (room : List Int) {way : List Nat} {i : Nat} (h : i < way.length) : pushes d room (way.take (i + 1)) = push1 d (pushes d room (way.take i)) (way.getD i 0) := by
  unfold pushes
  rw [List.take_succ, some_of_lt 0 h]
  show List.foldl _ _ (way.take i ++ [way.getD i 0]) = _
  rw [List.foldl_append]; rfl
/-- only room, over and lifts differ -/
def CD.like (D D' : CD) : Prop := D'.heads = D.heads ∧ D'.price = D.price ∧ D'.lows = D.lows ∧ D'.arcs = D.arcs
theorem CD.like.net {D D' : CD} (h : D.like D') (n m : Nat) : D'.net n m = D.net n m := by unfold CD.net; rw [h.1, h.2.1, h.2.2.2]
section
variable {K : PySem.W.Frag} {mg : Str → Option Value} {T : Fx K mg} {H0 H H' : Hp} {A : CA} {D : CD}
theorem CoS.none (h : CoS T H0 H A D) {p : Addr} (n : H p = none) : H0 p = none := h.2.none n (h.1.not_new n)
/-- a new list of ours is changed -/
theorem CoS.off1 (h : CoS T H0 H A D) {a : Addr} (k : Kp [a] H H') (n : H0 a = Option.none) (hA : a ∉ A.as) : CoS T H0 H' A D :=
  ⟨h.1.kp k (fun b hb z => hA (by simp at z; exact z ▸ hb)), fun b o e => off_of (k.get (h.2.get (off_le _ _ e) (off_not e)) (by simpa using ne_of_none (off_le _ _ e) n)) (off_not e)⟩
end
section
variable {P : Program} {w : World} {K : PySem.W.Frag} {mg : Str → Option Value} {base : Heap}
def spPush (T : Fx K mg) : Sp := fun vs H Q _ => ∃ (A : CA) (D : CD) (n m : Nat) (cap : List Int) (v : Nat) (aw : Addr) (way : List Nat) (t : Nat), vs = [.ref A.c, .int (v : Nat), .ref aw] ∧ NetAt T H A D n m cap ∧ H aw = some (.lst (nvs way)) ∧ aw ∉ A.as ∧ Path (D.net n m) v way t ∧ v < n ∧ t < n ∧
  0 < D.over.getD v 0 ∧ D.over.getD t 0 < 0 ∧ (∀ e ∈ way, Use (D.net n m) D.room D.lifts e) ∧ (v :: way.map (D.net n m).hd).Nodup ∧ way.length ≤ 1000 ∧
  ∀ H' D', CoS T H H' A D' → NetAt T H' A D' n m cap → D.like D' → D'.lifts = D.lifts → pos D'.over < pos D.over → Q .non H'
theorem sc_costs_push : FnScope ["self", "node", "way", "goal", "most", "number"] ["self", "node", "way"] (defScope s_costs_push) := ⟨rfl, rfl, rfl, by decide +kernel, rfl, by decide +kernel, by decide +kernel⟩
theorem c_costs_push (T : Fx K mg) (F : MetAt K T.cCo "push" "Costs.push" s_costs_push) : Met P w K mg base CX0 1 T.cCo "push" ["self", "node", "way"] (spPush T) := by
  refine met_of F sc_costs_push (fun _ _ _ _ _ _ _ us hl => match us, hl with | [_, _, _], _ => rfl) (fun vs H Q E h => ?_) (fun f cdv A outer s H vs Q E hr h => ?_)
  · obtain ⟨A, D, n, m, cap, v, aw, way, t, rfl, hN, haw, hnA, hpath, hv, ht, hov, hot, huse, hnd, hlen, k⟩ := h
    rfl
  obtain ⟨A, D, n, m, cap, v, aw, way, t, rfl, hN, haw, hnA, hpath, hv, ht, hov, hot, huse, hnd, hlen, k⟩ := h
  have hu := hu_of hr
  have nd := sc_costs_push.nd
  refine ⟨_, (pss_cons (ps_set (i := 3) nd rfl (Or.inl rfl) (pe_ix ix_list (pe_f (pv 0)) (pe_ix ix_list (pv 2) (pe_un un_neg pe_int) (fun _ _ => rfl)) (fun _ _ => rfl)))
  (pss_cons (ps_set (i := 4) nd rfl (Or.inl rfl) (pe_callB (cr_min rfl) rfl T.min boot_min (pa_cons (pe_op op_cat (pe_lst (pa_cons (pe_ix ix_list (pe_f (pv 0)) (pv 1) (fun _ _ => rfl)) (pa_cons (pe_un un_neg (pe_ix ix_list (pe_f (pv 0)) (pv 3) (fun _ _ => rfl))) pa_nil))) (pe_lc (own := [("number", 5)]) rfl nd (pi_list (pv 2)) (blkOk_by (by rfl)) (fun _ _ _ _ _ => (pg_name (i := 5) nd rfl (Or.inl rfl))) (fun _ _ _ _ _ => pts_nil) (fun _ _ _ _ _ => (pe_ix (ix_listK K) (pe_fK K (pv 0)) (pv 5) (fun _ _ => rfl))))) pa_nil)))
  (pss_cons (ps_for (passes_of rfl) rfl (pi_list (pv 2)) (pg_name (i := 5) nd rfl (Or.inl rfl)) (pss_cons (ps_augS (pe_f (pv 0)) (pv 5) get_list (pv 4) ip_sub set_list)
  (pss_one (ps_augS (pe_f (pv 0)) (pe_op op_xor (pv 5) pe_int) get_list (pv 4) ip_add set_list))))
  (pss_cons (ps_augS (pe_f (pv 0)) (pv 1) get_list (pv 4) ip_sub set_list)
  (pss_one (ps_augS (pe_f (pv 0)) (pv 3) get_list (pv 4) ip_add set_list)))))), ?_⟩
  have sz := sizeLine_eq
  have hC := hN.co
  have hvt : v ≠ t := fun z => by rw [z] at hov; omega
  obtain ⟨way', e0, rfl⟩ : ∃ way' e, way = way' ++ [e] := ⟨way.dropLast, way.getLast (by intro z; subst z; exact hvt hpath), (List.dropLast_concat_getLast _).symm⟩
  obtain ⟨_, he0, hhd⟩ := hpath.front
  have hhd : D.heads.getD e0 0 = t := hhd
  have hlo := hN.lo
  refine ⟨_, rfl, A.c, _, rfl, hC.fh, _, rfl, _, rfl, _, _, _, _, rfl, rfl, SqL.of haw, by rw [← nvs_snoc]; exact atI_last _ _, _, _, _, _, rfl, rfl, SqL.of hC.gh, atI_nat (nvs_at (by rw [hN.lh]; exact he0)), ?_⟩
  rw [hhd]
  refine ⟨_, rfl, A.c, _, rfl, hC.fo, _, rfl, _, _, _, _, rfl, rfl, SqL.of hC.go, atI_nat (ints_at (by omega)), _, rfl, A.c, _, rfl, hC.fo, _, rfl, _, _, _, _, rfl, rfl, SqL.of hC.go, atI_nat (ints_at (by omega)), _, rfl, (by show 2 ≤ sizeLine; decide), fun p1 n1 => ?_⟩
  have s1 : Same H (upd H p1 (.lst [.int (D.over.getD v 0), .int (-(D.over.getD t 0))])) := same_new n1
  have hp1 : (upd H p1 (.lst [.int (D.over.getD v 0), .int (-(D.over.getD t 0))])) p1 = some (.lst [.int (D.over.getD v 0), .int (-(D.over.getD t 0))]) := upd_same
  generalize hway : way' ++ [e0] = way at *
  refine ⟨_, rfl, aw, rfl, ⟨_, SqL.of (s1 _ _ haw)⟩, fun q1 n2 => lc_by walk_list (fun i acc H3 => Same (upd H p1 (.lst [.int (D.over.getD v 0), .int (-(D.over.getD t 0))])) H3 ∧ acc = ((way.take i).map fun e => D.room.getD e 0).map V.int) n2 ⟨Same.refl _, rfl⟩ (fun i acc H3 p => SqL.of (off_le _ _ (p.1 _ _ (s1 _ _ haw)))) ?_ ?_⟩
  · rintro i acc x _ H3 hi hle ⟨sm, rfl⟩ hq3 ⟨rfl, hx⟩
    rw [nvs_len] at hi
    rw [nvs_at hi] at hx
    obtain rfl := Option.some.inj hx
    have C3 := hC.mono ((s1.trans sm).trans off_le)
    have hem := getD_mem (d := 0) hi
    have he := (huse _ hem).1
    refine ⟨rfl, _, rfl, A.c, _, rfl, C3.fr, _, rfl, _, _, _, _, rfl, rfl, SqL.of C3.gr, atI_nat (ints_at (by rw [hN.lr]; exact he)), LcS.add hq3 hle (by omega) ⟨sm, ?_⟩⟩
    rw [take_map_snoc (some_of_lt 0 hi), List.map_append]; rfl
  · rintro acc H3 hq3 ⟨sm, rfl⟩
    rw [nvs_len, List.take_length] at hq3
    have hp3 := off_le _ _ (sm _ _ hp1)
    refine ⟨p1, q1, _, _, rfl, rfl, hp3, hq3, by simp; omega, fun p4 n4 => ?_⟩
    have s4 : Same H (upd H3 p4 (.lst ([V.int (D.over.getD v 0), .int (-(D.over.getD t 0))] ++ (way.map fun e => D.room.getD e 0).map V.int))) := ((s1.trans sm).trans off_le).trans (same_new n4)
    refine ⟨p4, D.over.getD v 0 :: -(D.over.getD t 0) :: way.map (fun e => D.room.getD e 0), rfl, SqL.of upd_same, by simp, fun d hd hmin => ?_⟩
    have d1 : d ≤ D.over.getD v 0 := hmin _ (by simp)
    have d2 : d ≤ -(D.over.getD t 0) := hmin _ (by simp)
    have d3 : ∀ e ∈ way, d ≤ D.room.getD e 0 := fun e he => hmin _ (by simp; exact .inr (.inr ⟨e, he, rfl⟩))
    have d0 : 0 < d := by
      rcases List.mem_cons.mp hd with z | z
      · omega
      · rcases List.mem_cons.mp z with z | z
        · omega
        · obtain ⟨e, he, rfl⟩ := List.mem_map.mp z
          exact (huse e he).2.1
    have Cs4 : CoS T H (upd H3 p4 (.lst ([V.int (D.over.getD v 0), .int (-(D.over.getD t 0))] ++ (way.map fun e => D.room.getD e 0).map V.int))) A D := ⟨hC.mono s4, kp_of s4⟩
    generalize hG : upd H3 p4 (.lst ([V.int (D.over.getD v 0), .int (-(D.over.getD t 0))] ++ (way.map fun e => D.room.getD e 0).map V.int)) = H4 at *
    have hG' : upd H3 p4 (.lst ([V.int (D.over.getD v 0), (fun i => V.int (-i)) (D.over.getD t 0)] ++ (way.map fun e => D.room.getD e 0).map V.int)) = H4 := hG
    refine ⟨_, rfl, aw, rfl, ⟨_, SqL.of (Cs4.2.get haw hnA)⟩, ?_⟩
    refine for_it walk_list (fun i σ H5 => ∃ x5, σ = [some (.ref A.c), some (.int (v : Nat)), some (.ref aw), some (.int (t : Nat)), some (.int d), x5] ∧ CoS T H H5 A { D with room := pushes d D.room (way.take i) }) ⟨_, rfl, Cs4⟩ (fun i σ H5 _ p => by obtain ⟨_, _, c⟩ := p; exact SqL.of (c.2.get haw hnA)) ?_ ?_
    · rintro i y σ _ H5 hi ⟨x5, rfl, Cs⟩ ⟨rfl, hy⟩
      rw [nvs_len] at hi
      rw [nvs_at hi] at hy
      obtain rfl := Option.some.inj hy
      have he : way.getD i 0 < 2 * m := (huse _ (getD_mem (d := 0) hi)).1
      have hsucc := pushes_succ d D.room hi
      generalize way.getD i 0 = e at *
      have hrl : (pushes d D.room (way.take i)).length = 2 * m := by rw [pushes_len, hN.lr]
      have he2 : e < (pushes d D.room (way.take i)).length := by omega
      have C5 := Cs.1
      refine ⟨_, rfl, A.c, _, rfl, C5.fr, _, rfl, _, _, _, _, rfl, rfl, SqL.of C5.gr, atI_nat (ints_at he2), _, rfl, _, _, rfl, rfl, _, _, _, _, rfl, rfl, C5.gr, ixN_nat (by rw [List.length_map]; exact he2), ?_⟩
      rw [← List.map_set]
      have Cs2 := Cs.at_ (C5.setR ((pushes d D.room (way.take i)).set e ((pushes d D.room (way.take i)).getD e 0 - d))) (by simp [CA.as])
      have C6 := Cs2.1
      have ht2 : tw e < ((pushes d D.room (way.take i)).set e ((pushes d D.room (way.take i)).getD e 0 - d)).length := by rw [List.length_set, hrl]; exact tw_lt he
      refine ⟨_, rfl, A.c, _, rfl, C6.fr, _, rfl, _, _, rfl, rfl, _, _, _, _, rfl, rfl, SqL.of C6.gr, (by show atI _ (Builtin.bitXor ((e : Nat) : Int) 1) = _; rw [xor_tw]; exact atI_nat (ints_at ht2)), _, rfl, _, _, rfl, rfl, _, _, _, tw e, rfl, rfl, C6.gr, (by show ixN _ (Builtin.bitXor ((e : Nat) : Int) 1) = _; rw [xor_tw]; exact ixN_nat (by rw [List.length_map]; exact ht2)), ?_⟩
      rw [← List.map_set]
      have Cs3 := Cs2.at_ (C6.setR (((pushes d D.room (way.take i)).set e ((pushes d D.room (way.take i)).getD e 0 - d)).set (tw e) (((pushes d D.room (way.take i)).set e ((pushes d D.room (way.take i)).getD e 0 - d)).getD (tw e) 0 + d))) (by simp [CA.as])
      refine ⟨_, rfl, ?_⟩
      rw [hsucc]
      exact Cs3
    · rintro σ H5 ⟨x5, rfl, Cs⟩
      rw [nvs_len, List.take_length] at Cs
      have C5 := Cs.1
      have hvo : v < D.over.length := by omega
      refine ⟨_, rfl, A.c, _, rfl, C5.fo, _, rfl, _, _, _, _, rfl, rfl, SqL.of C5.go, atI_nat (ints_at hvo), _, rfl, _, _, rfl, rfl, _, _, _, _, rfl, rfl, C5.go, ixN_nat (by rw [List.length_map]; exact hvo), ?_⟩
      rw [← List.map_set]
      have Cs2 := Cs.at_ (C5.setO (D.over.set v (D.over.getD v 0 - d))) (by simp [CA.as])
      have C6 := Cs2.1
      have hto : t < (D.over.set v (D.over.getD v 0 - d)).length := by rw [List.length_set]; omega
      refine ⟨_, rfl, A.c, _, rfl, C6.fo, _, rfl, _, _, _, _, rfl, rfl, SqL.of C6.go, atI_nat (ints_at hto), _, rfl, _, _, rfl, rfl, _, _, _, _, rfl, rfl, C6.go, ixN_nat (by rw [List.length_map]; exact hto), ?_⟩
      rw [← List.map_set]
      have Cs3 := Cs2.at_ (C6.setO ((D.over.set v (D.over.getD v 0 - d)).set t ((D.over.set v (D.over.getD v 0 - d)).getD t 0 + d))) (by simp [CA.as])
      obtain ⟨I2, hpos⟩ := push_inv hN.ok hN.inv hv ht hvt hpath (List.nodup_cons.mp hnd).2 huse d0 d3 d1 d2
      exact k _ _ Cs3 ⟨Cs3.1, hN.ok, I2⟩ ⟨rfl, rfl, rfl, rfl⟩ rfl (by show pos (over2 d D.over v t) < _; omega)
def spAll (T : Fx K mg) : Sp := fun vs H Q _ => ∃ (A : CA) (D : CD) (n m : Nat) (cap : List Int), vs = [.ref A.c] ∧ NetAt T H A D n m cap ∧ n ≤ 1000 ∧ (∃ t, Z (D.net n m) D.room D.over D.lifts t ∧ D.over.getD t 0 < 0) ∧
  ∀ H' D', CoS T H H' A D' → NetAt T H' A D' n m cap → D.like D' → D'.lifts = D.lifts → pos D'.over < pos D.over → Q .non H'
theorem sc_costs_push_all : FnScope ["self", "seen", "node", "way"] ["self"] (defScope s_costs_push_all) := ⟨rfl, rfl, rfl, by decide +kernel, rfl, by decide +kernel, by decide +kernel⟩
theorem c_costs_push_all (T : Fx K mg) (F : MetAt K T.cCo "push_all" "Costs.push_all" s_costs_push_all) (c_costs_push : Met P w K mg base CX0 1 T.cCo "push" ["self", "node", "way"] (spPush T)) (c_costs_way_from : Met P w K mg base CX0 3 T.cCo "way_from" ["self", "node", "seen"] (spWay T)) : Met P w K mg base CX0 4 T.cCo "push_all" ["self"] (spAll T) := by
  refine met_of F sc_costs_push_all (fun _ _ _ _ _ _ _ us hl => match us, hl with | [_], _ => rfl) (fun vs H Q E h => ?_) (fun f cdv A outer s H vs Q E hr h => ?_)
  · obtain ⟨A, D, n, m, cap, rfl, hN, hn, ⟨tz, hz, htz⟩, k⟩ := h
    rfl
  obtain ⟨A, D, n, m, cap, rfl, hN, hn, ⟨tz, hz, htz⟩, k⟩ := h
  have hu := hu_of hr
  have nd := sc_costs_push_all.nd
  refine ⟨_, (pss_cons (ps_set (i := 1) nd rfl (Or.inl rfl) (pe_op op_rep (pe_lst (pa_cons pe_bl pa_nil)) (pe_callB call_len_seq rfl T.len boot_len (pa_cons (pe_f (pv 0)) pa_nil))))
  (pss_one (ps_for (passes_of rfl) rfl (pi_range1 rfl T.range (pa_cons (pe_callB call_len_seq rfl T.len boot_len (pa_cons (pe_f (pv 0)) pa_nil)) pa_nil)) (pg_name (i := 2) nd rfl (Or.inl rfl)) (pss_cons (ps_set (i := 3) nd rfl (Or.inl rfl) (pe_mid (pe_ifExp (PW.pt (pw_and (pt_cmpR op_gt (pe_ix ix_list (pe_f (pv 0)) (pv 2) (fun _ _ => rfl)) pe_int (nomark _)) (pw_and1 (pt_not (pt_val (pe_ix ix_list (pv 1) (pv 2) (fun _ _ => rfl))))))) (pe_m c_costs_way_from hr (by decide) pass0 (pv 0) (pa_cons (pv 2) (pa_cons (pv 1) pa_nil))) pe_non)))
  (pss_one (ps_while (passes_of rfl) (pt_cmp (pc_notN (pv 3))) (pss_cons (ps_expr (pe_m c_costs_push hr (by decide) pass0 (pv 0) (pa_cons (pv 2) (pa_cons (pv 3) pa_nil))))
  (pss_cons (ps_set (i := 1) nd rfl (Or.inl rfl) (pe_op op_rep (pe_lst (pa_cons pe_bl pa_nil)) (pe_callB call_len_seq rfl T.len boot_len (pa_cons (pe_f (pv 0)) pa_nil))))
  (pss_one (ps_set (i := 3) nd rfl (Or.inl rfl) (pe_mid (pe_ifExp (pt_cmpR op_gt (pe_ix ix_list (pe_f (pv 0)) (pv 2) (fun _ _ => rfl)) pe_int (nomark _)) (pe_m c_costs_way_from hr (by decide) pass0 (pv 0) (pa_cons (pv 2) (pa_cons (pv 1) pa_nil))) pe_non)))))))))))), ?_⟩
  have sz := sizeLine_eq
  have hC := hN.co
  -- a new list of False
  have fresh : ∀ (H0 H1 : Hp) (D1 : CD), NetAt T H1 A D1 n m cap → CoS T H0 H1 A D1 → ∀ p1, H1 p1 = none → ∀ p2, (upd H1 p1 (.lst [.bl false])) p2 = none → CoS T H0 (upd (upd H1 p1 (.lst [.bl false])) p2 (.lst ((List.replicate n false).map V.bl))) A D1 ∧
      (upd (upd H1 p1 (.lst [.bl false])) p2 (.lst ((List.replicate n false).map V.bl))) p2 = some (.lst ((List.replicate n false).map V.bl)) ∧ p2 ∉ A.as := fun H0 H1 D1 N1 Cs p1 n1 p2 n2 => by
    have Cs1 := Cs.new (o := .lst [.bl false]) n1
    exact ⟨Cs1.new n2, upd_same, Cs1.1.not_new n2⟩
  have noF : ∀ u, bd (List.replicate n false) u = false := fun u => by
    rcases Nat.lt_or_ge u n with c | c
    · exact getD_replicate c
    · unfold bd List.getD; rw [List.getElem?_eq_none (by simpa using c)]; rfl
  refine ⟨(by show 1 ≤ sizeLine; decide), fun p1 n1 => ?_⟩
  have C1 := hC.mono (same_new (o := .lst [.bl false]) n1)
  refine ⟨_, rfl, A.c, _, rfl, C1.fo, _, _, rfl, .inl (SqL.of C1.go), ?_⟩
  rw [List.length_map, hN.lo]
  refine ⟨p1, _, _, rfl, rfl, upd_same, by omega, by omega, by simp; omega, fun p2 n2 => ?_⟩
  rw [rep_flat, Int.toNat_natCast, ← List.map_replicate]
  obtain ⟨Cs2, hp2, hp2A⟩ := fresh H H D hN ⟨hC, Kp.refl _ _⟩ p1 n1 p2 n2
  have hp20 : H p2 = none := (CoS.new (o := .lst [.bl false]) ⟨hC, Kp.refl _ _⟩ n1).none n2
  generalize upd (upd H p1 (.lst [.bl false])) p2 (.lst ((List.replicate n false).map V.bl)) = H2 at *
  clear n2
  have C2 := Cs2.1
  refine ⟨_, rfl, A.c, _, rfl, C2.fo, _, _, rfl, .inl (SqL.of C2.go), ?_⟩
  rw [List.length_map, hN.lo]
  refine ⟨_, rfl, (rng_ok hn).1, (rng_ok hn).2, ?_⟩
  let Sn : Nat → Addr → List Bool → CD → Hp → Prop := fun i sa seen D1 H1 => H1 sa = some (.lst (seen.map V.bl)) ∧ seen.length = n ∧ (∀ u, u < n → bd seen u = true → Closed (D.net n m) D1.room D1.over D1.lifts seen u) ∧
    ((D1.room = D.room ∧ D1.over = D.over ∧ ∀ u, u < i → 0 < D.over.getD u 0 → bd seen u = true) ∨ pos D1.over < pos D.over)
  let Cm : Addr → CD → Hp → Prop := fun sa D1 H1 => CoS T H H1 A D1 ∧ NetAt T H1 A D1 n m cap ∧ D.like D1 ∧ D1.lifts = D.lifts ∧ sa ∉ A.as ∧ H sa = none ∧ pos D1.over ≤ pos D.over
  let Pv : Nat → L2.St → Hp → Prop := fun i σ H1 => ∃ (sa : Addr) (seen : List Bool) (D1 : CD) (x2 x3 : Option V), σ = [some (.ref A.c), some (.ref sa), x2, x3] ∧ Cm sa D1 H1 ∧ Sn i sa seen D1 H1
  -- what a search may answer at the node i
  let Tl : Nat → V → Addr → CD → Hp → Prop := fun i x sa D1 H1 => (x = .non ∧ ∃ seen, Sn (i + 1) sa seen D1 H1) ∨ ∃ aw way t, x = .ref aw ∧ H1 aw = some (.lst (nvs way)) ∧ aw ∉ A.as ∧ Path (D.net n m) i way t ∧ t < n ∧ D1.over.getD t 0 < 0 ∧ 0 < D1.over.getD i 0 ∧
    (∀ e ∈ way, Use (D.net n m) D1.room D1.lifts e) ∧ (i :: way.map (D.net n m).hd).Nodup ∧ way.length ≤ n
  -- a search begun
  have srch : ∀ (i : Nat) (sa : Addr) (seen : List Bool) (D1 : CD) (H1 : Hp) (M : VK) (E : XK), i < n → Cm sa D1 H1 → Sn i sa seen D1 H1 → 0 < D1.over.getD i 0 → bd seen i = false → (∀ x H2, Cm sa D1 H2 ∧ Tl i x sa D1 H2 → M x H2) → spWay T [.ref A.c, .int (i : Nat), .ref sa] H1 M E := by
    intro i sa seen D1 H1 M E hi ⟨Cs, N1, lk, hlf, hsA, hsn, hps⟩ ⟨hsa, hsl, hcl, hor⟩ hov hb hM
    refine ⟨A, D1, n, m, cap, i, sa, seen, rfl, N1, hi, hn, hsa, hsA, hsl, by rw [lk.net]; exact hcl, hb, ?_, ?_⟩
    · intro H2 aw way t k2 haw hnone hp ht hot huse hnd hle
      rw [lk.net] at hp huse hnd
      have Cs2 := Cs.off1 k2 hsn hsA
      exact hM _ _ ⟨⟨Cs2, ⟨Cs2.1, N1.ok, N1.inv⟩, lk, hlf, hsA, hsn, hps⟩, .inr ⟨aw, way, t, rfl, haw, Cs.1.not_new hnone, hp, ht, hot, hov, huse, hnd, hle⟩⟩
    · intro H2 seen' k2 hsa2 hsl2 up hcl2 hb2
      rw [lk.net] at hcl2
      have Cs2 := Cs.off1 k2 hsn hsA
      refine hM _ _ ⟨⟨Cs2, ⟨Cs2.1, N1.ok, N1.inv⟩, lk, hlf, hsA, hsn, hps⟩, .inl ⟨rfl, seen', hsa2, hsl2, hcl2, ?_⟩⟩
      rcases hor with ⟨e1, e2, h3⟩ | h3
      · refine .inl ⟨e1, e2, fun u hu ho => ?_⟩
        by_cases c : u = i
        · subst c; exact hb2
        · exact up u (h3 u (by omega) ho)
      · exact .inr h3
  refine for_it walk_r Pv ⟨p2, List.replicate n false, D, none, none, rfl, ⟨Cs2, ⟨Cs2.1, hN.ok, hN.inv⟩, ⟨rfl, rfl, rfl, rfl⟩, rfl, hp2A, hp20, Int.le_refl _⟩, hp2, by simp, fun u _ hu => (by rw [noF] at hu; cases hu), .inl ⟨rfl, rfl, fun u hu => by omega⟩⟩ (fun _ _ _ _ _ => trivial) ?_ ?_
  · rintro i _ σ _ H1 hi ⟨sa, seen, D1, x2, x3, rfl, cm, sn⟩ ⟨rfl, rfl⟩
    have hi : i < n := hi
    have C1 := cm.1.1
    have N1 := cm.2.1
    have hov : i < D1.over.length := by rw [N1.lo]; exact hi
    refine ⟨fun x H2 => Cm sa D1 H2 ∧ Tl i x sa D1 H2, ?_, fun x H2 ⟨cm2, tl2⟩ => ?_⟩
    · refine ⟨_, rfl, A.c, _, rfl, C1.fo, _, rfl, _, _, _, _, rfl, rfl, SqL.of C1.go, atI_nat (ints_at hov), _, _, rfl, rfl, _, rfl, ite2 (fun c => ?_) (fun c => ?_)⟩
      · have c := of_decide_eq_true c
        refine ⟨_, rfl, _, rfl, _, _, _, _, rfl, rfl, SqL.of sn.1, atI_nat (bls_at (by rw [sn.2.1]; exact hi)), _, rfl, ?_⟩
        cases hb : bd seen i with
        | true =>
          refine iteF ⟨cm, .inl ⟨rfl, seen, sn.1, sn.2.1, sn.2.2.1, ?_⟩⟩
          rcases sn.2.2.2 with ⟨e1, e2, h3⟩ | h3
          · refine .inl ⟨e1, e2, fun u hu ho => ?_⟩
            by_cases c : u = i
            · subst c; exact hb
            · exact h3 u (by omega) ho
          · exact .inr h3
        | false => exact iteT ⟨_, rfl, A.c, rfl, C1.me (by decide +kernel), _, rfl, _, rfl, srch i sa seen D1 _ _ E0 hi cm sn c hb fun x H2 h => h⟩
      · refine ⟨cm, .inl ⟨rfl, seen, sn.1, sn.2.1, sn.2.2.1, ?_⟩⟩
        rcases sn.2.2.2 with ⟨e1, e2, h3⟩ | h3
        · refine .inl ⟨e1, e2, fun u hu ho => ?_⟩
          by_cases c2 : u = i
          · subst c2; rw [e2] at c; exact (c (decide_eq_true ho)).elim
          · exact h3 u (by omega) ho
        · exact .inr h3
    · let Pw : Nat → L2.St → Hp → Prop := fun mm σ H3 => ∃ (sa : Addr) (D1 : CD) (x : V), σ = [some (.ref A.c), some (.ref sa), some (.int (i : Nat)), some x] ∧ mm = (pos D1.over).toNat ∧ Cm sa D1 H3 ∧ Tl i x sa D1 H3
      refine ⟨Pw, ⟨_, sa, D1, x, rfl, rfl, cm2, tl2⟩, ?_⟩
      rintro mm σ H3 ⟨sb, D3, y, rfl, rfl, cm3, tl3⟩
      rcases tl3 with ⟨rfl, sn3, h3⟩ | ⟨aw, way, t, rfl, haw, hawA, hp, ht, hot, hov3, huse, hnd, hle⟩
      · exact ⟨_, rfl, _, rfl, iteF ⟨sb, sn3, D3, _, _, rfl, cm3, h3⟩⟩
      · obtain ⟨Cs3, N3, lk3, hlf3, _, _, hps3⟩ := cm3
        have C3 := Cs3.1
        refine ⟨_, rfl, _, rfl, iteT ⟨_, fun _ _ h => h, ?_⟩⟩
        refine ⟨_, rfl, A.c, rfl, C3.me (by decide +kernel), _, rfl, _, rfl, A, D3, n, m, cap, i, aw, way, t, rfl, N3, haw, hawA, by rw [lk3.net]; exact hp, hi, ht, hov3, hot, by rw [lk3.net]; exact huse, by rw [lk3.net]; exact hnd, by omega, fun H4 D4 Cs4 N4 lk4 hlf4 hpos => ?_⟩
        have Cs4 : CoS T H H4 A D4 := ⟨Cs4.1, Cs3.2.trans Cs4.2⟩
        have lk : D.like D4 := ⟨lk4.1.trans lk3.1, lk4.2.1.trans lk3.2.1, lk4.2.2.1.trans lk3.2.2.1, lk4.2.2.2.trans lk3.2.2.2⟩
        refine ⟨(by show 1 ≤ sizeLine; decide), fun p5 n5 => ?_⟩
        have C5 := Cs4.1.mono (same_new (o := .lst [.bl false]) n5)
        refine ⟨_, rfl, A.c, _, rfl, C5.fo, _, _, rfl, .inl (SqL.of C5.go), ?_⟩
        rw [List.length_map, N4.lo]
        refine ⟨p5, _, _, rfl, rfl, upd_same, by omega, by omega, by simp; omega, fun p6 n6 => ?_⟩
        rw [rep_flat, Int.toNat_natCast, ← List.map_replicate]
        obtain ⟨Cs6, hp6, hp6A⟩ := fresh H H4 D4 N4 Cs4 p5 n5 p6 n6
        have hp60 : H p6 = none := (Cs4.new (o := .lst [.bl false]) n5).none n6
        generalize upd (upd H4 p5 (.lst [.bl false])) p6 (.lst ((List.replicate n false).map V.bl)) = H6 at *
        clear n6
        have pn := pos_nonneg D4.over
        have hpos3 : pos D4.over < pos D.over := by omega
        have cm6 : Cm p6 D4 H6 := ⟨Cs6, ⟨Cs6.1, N4.ok, N4.inv⟩, lk, hlf4.trans hlf3, hp6A, hp60, by omega⟩
        have sn6 : Sn i p6 (List.replicate n false) D4 H6 := ⟨hp6, by simp, fun u _ hu => (by rw [noF] at hu; cases hu), .inr hpos3⟩
        have sn6' : Sn (i + 1) p6 (List.replicate n false) D4 H6 := ⟨hp6, by simp, fun u _ hu => (by rw [noF] at hu; cases hu), .inr hpos3⟩
        refine ⟨fun x H2 => Cm p6 D4 H2 ∧ Tl i x p6 D4 H2, ?_, fun x H2 ⟨cm2, tl2⟩ => ?_⟩
        · refine ⟨_, rfl, A.c, _, rfl, Cs6.1.fo, _, rfl, _, _, _, _, rfl, rfl, SqL.of Cs6.1.go, atI_nat (ints_at (by rw [N4.lo]; exact hi)), _, _, rfl, rfl, _, rfl, ite2 (fun c => ?_) (fun c => ?_)⟩
          · exact ⟨_, rfl, A.c, rfl, Cs6.1.me (by decide +kernel), _, rfl, _, rfl, srch i p6 _ D4 _ _ E0 hi cm6 sn6 (of_decide_eq_true c) (noF i) fun x H2 h => h⟩
          · exact ⟨cm6, .inl ⟨rfl, _, sn6'⟩⟩
        · exact ⟨(pos D4.over).toNat, by have := pos_nonneg D3.over; omega, p6, D4, x, rfl, rfl, cm2, tl2⟩
  · rintro σ H1 ⟨sa, seen, D1, x2, x3, rfl, ⟨Cs, N1, lk, hlf, _, _, _⟩, hsa, hsl, hcl, hor⟩
    rcases hor with ⟨e1, e2, h3⟩ | h3
    · rw [e1, e2, hlf] at hcl
      obtain ⟨q1, q2⟩ := closed_z hN.ok h3 hcl hz
      have := (hcl tz q1 q2).1
      omega
    · exact k H1 D1 Cs N1 lk hlf h3
end
end K31

set_option autoImplicit true
set_option Elab.async false
set_option autoImplicit false
set_option linter.all false
set_option maxRecDepth 100000
set_option maxHeartbeats 4000000
namespace K31
open PySem PySem.Spec PyProof.Rows L2
/-! costs: solve, init -/
theorem fm1 {α β : Type} (f : α → Option β) (a : α) : [a].filterMap f = (f a).toList := by cases h : f a <;> simp [h]
/-- how near the lacking nodes are -/
def lackL (over : List Int) (found : List (Option Int)) (i : Nat) : List Int := (List.range i).filterMap fun v => if over.getD v 0 < 0 then fd found v else none
theorem lackL_succ (over : List Int) (found : List (Option Int)) (i : Nat) : lackL over found (i + 1) = lackL over found i ++ (if over.getD i 0 < 0 then fd found i else none).toList := by
  unfold lackL
  rw [List.range_succ, List.filterMap_append]
  exact congrArg _ (fm1 _ i)
theorem lackL_len (over : List Int) (found : List (Option Int)) (i : Nat) : (lackL over found i).length ≤ i := by
  have := List.length_filterMap_le (fun v => if over.getD v 0 < 0 then fd found v else none) (List.range i)
  unfold lackL; simpa using this
theorem lackL_mem {over : List Int} {found : List (Option Int)} {n : Nat} {x : Int} (h : x ∈ lackL over found n) : ∃ t, t < n ∧ over.getD t 0 < 0 ∧ fd found t = some x := by
  unfold lackL at h
  obtain ⟨t, h1, h2⟩ := List.mem_filterMap.mp h
  split at h2
  · rename_i c; exact ⟨t, by simpa using h1, c, h2⟩
  · cases h2
theorem opv_none {l : List (Option Int)} {i : Nat} (h : i < l.length) (e : fd l i = none) : atI (l.map opV) ((i : Nat) : Int) = some .non := by rw [atI_nat (opv_at h), e]; rfl
theorem lift_get {l2 l : List Int} {i : Nat} (hl : l2.length = l.length) (h : i < l.length) : (l2.take i ++ l.drop i).getD i 0 = l.getD i 0 := by
  have h1 : (l2.take i).length = i := by rw [List.length_take]; omega
  have := getD_append_right (l := l2.take i) (r := l.drop i) (i := 0) (d := (0 : Int))
  rw [h1] at this
  rw [Nat.add_zero] at this
  rw [this]
  unfold List.getD
  rw [List.getElem?_drop, Nat.add_zero]
theorem lift_step {l2 l : List Int} {i : Nat} {x : Int} (hl : l2.length = l.length) (h : i < l.length) (e : l2.getD i 0 = x) : (l2.take i ++ l.drop i).set i x = l2.take (i + 1) ++ l.drop (i + 1) := by
  have h1 : (l2.take i).length = i := by rw [List.length_take]; omega
  rw [List.set_append_right _ _ (by omega), h1, Nat.sub_self, List.drop_eq_getElem_cons h, List.set_cons_zero, List.take_succ, some_of_lt 0 (show i < l2.length by omega), e]
  simp
section
variable {P : Program} {w : World} {K : PySem.W.Frag} {mg : Str → Option Value} {base : Heap}
def spSolve (T : Fx K mg) : Sp := fun vs H Q _ => ∃ (A : CA) (D : CD) (n m : Nat) (cap : List Int), vs = [.ref A.c] ∧ NetAt T H A D n m cap ∧ n ≤ 1000 ∧
  (∀ H' D', CoS T H H' A D' → NetAt T H' A D' n m cap → D.like D' → (∀ x ∈ D'.over, x ≤ 0) → Q (.bl true) H') ∧ ∀ H', Kp A.as H H' → Q (.bl false) H'
theorem any_pos (l : List Int) : (l.map fun x => decide (x > 0)).any id = decide (∃ x ∈ l, 0 < x) := by
  induction l with
  | nil => simp
  | cons a r ih => rw [List.map_cons, List.any_cons, ih]; simp
theorem sc_costs_solve : FnScope ["self", "found", "lacking", "least", "node", "far", "much"] ["self"] (defScope s_costs_solve) := ⟨rfl, rfl, rfl, by decide +kernel, rfl, by decide +kernel, by decide +kernel⟩
theorem c_costs_solve (T : Fx K mg) (F : MetAt K T.cCo "solve" "Costs.solve" s_costs_solve) (c_costs_nearest : Met P w K mg base CX0 2 T.cCo "nearest" ["self"] (spNear T)) (c_costs_push_all : Met P w K mg base CX0 4 T.cCo "push_all" ["self"] (spAll T)) : Met P w K mg base CX0 5 T.cCo "solve" ["self"] (spSolve T) := by
  refine met_of F sc_costs_solve (fun _ _ _ _ _ _ _ us hl => match us, hl with | [_], _ => rfl) (fun vs H Q E h => ?_) (fun f cdv A outer s H vs Q E hr h => ?_)
  · obtain ⟨A, D, n, m, cap, rfl, hN, hn, kT, kF⟩ := h
    rfl
  obtain ⟨A, D, n, m, cap, rfl, hN, hn, kT, kF⟩ := h
  have hu := hu_of hr
  have nd := sc_costs_solve.nd
  have hu64 := hr.units
  refine ⟨_, (pss_cons (ps_while (passes_of rfl) (pt_val (pe_callB (cr_any rfl) rfl T.any boot_any (pa_cons (pe_lc (own := [("much", 6)]) rfl nd (pi_list (pe_f (pv 0))) (blkOk_by (by rfl)) (fun _ _ _ _ _ => (pg_name (i := 6) nd rfl (Or.inl rfl))) (fun _ _ _ _ _ => pts_nil) (fun _ _ _ _ _ => (pe_cmpR op_gt (pv 6) pe_int (nomark _)))) pa_nil))) (pss_cons (ps_set (i := 1) nd rfl (Or.inr rfl) (pe_m0 c_costs_nearest hr (by decide) pass0 (pv 0)))
  (pss_cons (ps_setLc (i := 2) (own := [("node", 4), ("much", 6)]) (g := gTup K 2 (gCons (gName 4) (gCons (gName 6) gNil))) rfl nd rfl rfl (sw_true rfl rfl rfl (by decide +kernel)) (pi_enum rfl T.enumerate (pa_cons (pe_f (pv 0)) pa_nil)) (blkOk_by (by rfl)) (fun _ _ _ _ _ => (pg_tup rfl (pgs_cons (pg_name (i := 4) nd rfl (Or.inl rfl)) (pgs_cons (pg_name (i := 6) nd rfl (Or.inl rfl)) pgs_nil)))) (fun _ _ _ _ _ => (pts_one (PW.pt (pw_and (pt_cmpR op_lt (pv 6) pe_int (nomark _)) (pw_and1 (pt_cmp (pc_notN (pe_ix (ix_listK K) (pv 1) (pv 4) (fun _ _ => rfl))))))))) (fun _ _ _ _ _ => (pe_ix (ix_listK K) (pv 1) (pv 4) (fun _ _ => rfl))))
  (pss_cons (ps_if (pt_cmpR (op_eqD hu64) (pv 2) (pe_lst pa_nil) (nomark _)) (pss_one (ps_ret pe_bl)) pss_nil)
  (pss_cons (ps_set (i := 3) nd rfl (Or.inl rfl) (pe_callB (cr_min rfl) rfl T.min boot_min (pa_cons (pv 2) pa_nil)))
  (pss_cons (ps_for (passes_of rfl) rfl (pi_enum rfl T.enumerate (pa_cons (pv 1) pa_nil)) (pg_tup rfl (pgs_cons (pg_name (i := 4) nd rfl (Or.inl rfl)) (pgs_cons (pg_name (i := 5) nd rfl (Or.inl rfl)) pgs_nil))) (pss_one (ps_augS (pe_f (pv 0)) (pv 4) get_list (pe_mid (pe_ifExp (PW.pt (pw_or (pt_cmp (pc_isN (pv 5))) (pw_or1 (pt_cmpR op_gt (pv 5) (pv 3) (nomark _))))) (pv 3) (pv 5))) ip_add set_list)))
  (pss_one (ps_expr (pe_m0 c_costs_push_all hr (by decide) pass0 (pv 0))))))))))
  (pss_one (ps_ret pe_bl))), ?_⟩
  have sz := sizeLine_eq
  let Pw : Nat → L2.St → Hp → Prop := fun mm σ H1 => ∃ (D1 : CD) (x1 x2 x3 x4 x5 x6 : Option V), σ = [some (.ref A.c), x1, x2, x3, x4, x5, x6] ∧ mm = (pos D1.over).toNat ∧ CoS T H H1 A D1 ∧ NetAt T H1 A D1 n m cap ∧ D.like D1
  refine ⟨Pw, ⟨_, D, none, none, none, none, none, none, rfl, rfl, ⟨hN.co, Kp.refl _ _⟩, hN, ⟨rfl, rfl, rfl, rfl⟩⟩, ?_⟩
  rintro mm σ H1 ⟨D1, x1, x2, x3, x4, x5, x6, rfl, rfl, Cs, N1, lk⟩
  have C1 := Cs.1
  refine ⟨_, rfl, A.c, _, rfl, C1.fo, A.o, rfl, ⟨_, SqL.of C1.go⟩, fun q1 n1 => lc_by walk_list (fun i acc H3 => Same H1 H3 ∧ acc = ((D1.over.take i).map fun x => decide (x > 0)).map V.bl) n1 ⟨Same.refl _, rfl⟩ (fun i acc H3 p => SqL.of (off_le _ _ (p.1 _ _ C1.go))) ?_ ?_⟩
  · rintro i acc x _ H3 hi hle ⟨sm, rfl⟩ hq3 ⟨rfl, hx⟩
    rw [List.length_map] at hi
    rw [ints_at hi] at hx
    obtain rfl := Option.some.inj hx
    refine ⟨rfl, _, rfl, _, _, rfl, rfl, LcS.add hq3 hle (by rw [N1.lo] at hi; omega) ⟨sm, ?_⟩⟩
    rw [take_map_snoc (some_of_lt 0 hi), List.map_append]; rfl
  · rintro acc H3 hq3 ⟨sm, rfl⟩
    rw [List.length_map, List.take_length] at hq3
    have s3 : Same H1 H3 := sm.trans off_le
    have Cs3 := Cs.same s3
    have N3 := N1.mono s3
    clear sm n1
    refine ⟨q1, _, rfl, SqL.of hq3, _, rfl, ?_⟩
    clear hq3
    rw [any_pos]
    refine ite2 (fun c => ?_) (fun c => kT H3 D1 Cs3 N3 lk fun x hx => ?_)
    · refine ⟨_, fun _ _ h => h, ?_⟩
      refine ⟨_, rfl, A.c, rfl, Cs3.1.me (by decide +kernel), A, D1, n, m, cap, rfl, N3, hn, fun H4 af found s4 haf0 haf near => ?_⟩
      have Cs4 := Cs3.same s4
      have N4 := N3.mono s4
      have C4 := Cs4.1
      have hfl : found.length = n := near.lf
      refine ⟨_, rfl, A.c, _, rfl, C4.fo, A.o, _, rfl, SqL.of C4.go, fun q2 n2 => lc_by walk_enum (fun i acc H5 => Same H4 H5 ∧ acc = (lackL D1.over found i).map V.int) n2 ⟨Same.refl _, rfl⟩ (fun i acc H5 p => SqL.of (off_le _ _ (p.1 _ _ C4.go))) ?_ ?_⟩
      · rintro i acc x H5 _ hi hle ⟨sm, rfl⟩ hq ⟨U, x', y', rfl, hU, rfl, hx, hy⟩
        rw [List.length_map] at hi
        obtain rfl := Option.some.inj hx
        have hy : (D1.over.map V.int)[i]? = some y' := hy
        rw [ints_at hi] at hy
        obtain rfl := Option.some.inj hy
        have hin : i < n := by rw [N1.lo] at hi; exact hi
        have sU : Same H5 (upd H5 U (.tup [.int (i : Nat), .int (D1.over.getD i 0)])) := same_new hU
        have hq' := sU _ _ hq
        have smU := sm.trans (kp_of (S := [q2]) sU)
        have haf' := off_le _ _ (smU _ _ haf)
        have hif : i < found.length := by rw [hfl]; exact hin
        have hsucc := lackL_succ D1.over found i
        refine ⟨U, _, rfl, SqT.of upd_same, rfl, _, _, rfl, _, _, rfl, rfl, rfl, ?_⟩
        generalize upd H5 U (.tup [.int (i : Nat), .int (D1.over.getD i 0)]) = H6 at *
        refine ⟨_, rfl, _, _, rfl, rfl, _, rfl, ite2 (fun c => ?_) (fun c => ?_)⟩
        · have c := of_decide_eq_true c
          rw [if_pos c] at hsucc
          cases hf : fd found i with
          | none =>
            refine ⟨_, rfl, _, rfl, _, _, _, _, rfl, rfl, SqL.of haf', opv_none hif hf, _, rfl, iteF ?_⟩
            refine LcS.skip hq' hle ⟨smU, ?_⟩
            rw [hsucc, hf]; simp
          | some x =>
            refine ⟨_, rfl, _, rfl, _, _, _, _, rfl, rfl, SqL.of haf', opv_some hif hf, _, rfl, iteT ⟨_, rfl, _, rfl, _, _, _, _, rfl, rfl, SqL.of haf', opv_some hif hf, ?_⟩⟩
            refine LcS.add hq' hle (by omega) ⟨smU, ?_⟩
            rw [hsucc, hf, List.map_append]; rfl
        · have c : ¬ D1.over.getD i 0 < 0 := fun z => c (decide_eq_true z)
          rw [if_neg c] at hsucc
          refine iteF ?_
          refine LcS.skip hq' hle ⟨smU, ?_⟩
          rw [hsucc]; simp
      · rintro acc H5 hq ⟨sm, rfl⟩
        rw [List.length_map, N1.lo] at hq
        have s5 : Same H4 H5 := sm.trans off_le
        refine ⟨_, rfl, Nat.zero_le _, fun p n3 => ?_⟩
        have hq' : (upd H5 p (.lst [])) q2 = some (.lst ((lackL D1.over found n).map V.int)) := by rw [upd_ne (ne_of_none hq n3)]; exact hq
        refine ⟨.list ((lackL D1.over found n).map PyData.int), .list (([] : List Int).map PyData.int), .lst (SqL.of hq') (dp_ints _), .lst (xs := []) (SqL.of upd_same) .nil, sh_ints _, sh_ints [], _, rfl, ?_⟩
        have s6 : Same H4 (upd H5 p (.lst [])) := s5.trans (same_new n3)
        rw [show PyData.eqv (.list ((lackL D1.over found n).map PyData.int)) (.list (([] : List Int).map PyData.int)) = decide (lackL D1.over found n = []) from eqv_nil _]
        refine ite2 (fun z => kF _ (Cs4.same s6).2) (fun z => ?_)
        have z : lackL D1.over found n ≠ [] := fun q => z (decide_eq_true q)
        have Cs6 := Cs4.same s6
        have haf6 := s6 _ _ haf
        generalize upd H5 p (.lst []) = H6 at *
        refine ⟨_, rfl, q2, _, rfl, SqL.of hq', List.length_pos_iff.mpr z, fun least hle hmin => ?_⟩
        obtain ⟨t, ht, hot, hft⟩ := lackL_mem hle
        have hafA : af ∉ A.as := Cs3.1.not_new haf0
        have hll : (lifts2 least found D1.lifts).length = D1.lifts.length := lifts2_len
        have hln : D1.lifts.length = n := N1.ll
        refine ⟨_, rfl, af, _, rfl, SqL.of haf6, for_it walk_enum (fun i σ H7 => ∃ x4 x5, σ = [some (.ref A.c), some (.ref af), some (.ref q2), some (.int least), x4, x5, x6] ∧ CoS T H6 H7 A { D1 with lifts := (lifts2 least found D1.lifts).take i ++ D1.lifts.drop i }) ⟨_, _, rfl, ?_⟩ (fun i σ H7 _ p => by obtain ⟨_, _, _, c⟩ := p; exact SqL.of (c.2.get haf6 hafA)) ?_ ?_⟩
        · exact ⟨Cs6.1, Kp.refl _ _⟩
        · rintro i v σ H7 _ hi ⟨x4, x5, rfl, Cs7⟩ ⟨U, x', y', rfl, hU, rfl, hx, hy⟩
          rw [List.length_map, hfl] at hi
          obtain rfl := Option.some.inj hx
          have hy : (found.map opV)[i]? = some y' := hy
          have hif : i < found.length := by rw [hfl]; exact hi
          rw [opv_at hif] at hy
          obtain rfl := Option.some.inj hy
          have Cs8 := Cs7.new (o := .tup [.int (i : Nat), opV (fd found i)]) hU
          refine ⟨U, _, rfl, SqT.of upd_same, rfl, _, _, rfl, _, _, rfl, rfl, ?_⟩
          generalize upd H7 U (.tup [.int (i : Nat), opV (fd found i)]) = H8 at *
          have C8 := Cs8.1
          have hil : i < D1.lifts.length := by rw [hln]; exact hi
          have hil2 : i < ((lifts2 least found D1.lifts).take i ++ D1.lifts.drop i).length := by rw [List.length_append, List.length_take, List.length_drop]; omega
          have e1 := lifts2_get (least := least) (found := found) hil
          refine ⟨_, rfl, A.c, _, rfl, C8.ff, _, rfl, _, _, _, _, rfl, rfl, SqL.of C8.gf, atI_nat (ints_at hil2), fun x H' => x = .int (upBy least (fd found i)) ∧ H' = H8, ?_, ?_⟩
          · cases hf : fd found i with
            | none => exact ⟨_, rfl, _, rfl, iteT (iteT ⟨_, rfl, rfl, rfl⟩)⟩
            | some x =>
              refine ⟨_, rfl, _, rfl, iteF ⟨_, rfl, _, rfl, _, _, rfl, rfl, _, rfl, ite2 (fun z => ⟨_, rfl, ?_, rfl⟩) (fun z => ⟨_, rfl, ?_, rfl⟩)⟩⟩
              · simp only [upBy]
                rw [if_pos (of_decide_eq_true z)]
              · simp only [upBy]
                rw [if_neg (fun q => z (decide_eq_true q))]; rfl
          · rintro x H' ⟨rfl, rfl⟩
            refine ⟨_, _, rfl, rfl, _, _, _, _, rfl, rfl, C8.gf, ixN_nat (by rw [List.length_map]; exact hil2), ?_⟩
            rw [← List.map_set]
            have Cs9 := Cs8.at_ (C8.setF (((lifts2 least found D1.lifts).take i ++ D1.lifts.drop i).set i (((lifts2 least found D1.lifts).take i ++ D1.lifts.drop i).getD i 0 + upBy least (fd found i)))) (by simp [CA.as])
            refine ⟨_, _, rfl, ?_⟩
            have e2 := lift_step hll hil e1
            rw [← lift_get hll hil] at e2
            rw [← e2]
            exact Cs9
        · rintro σ H7 ⟨x4, x5, rfl, Cs7⟩
          rw [List.length_map, hfl, List.take_of_length_le (by omega), List.drop_of_length_le (by omega), List.append_nil] at Cs7
          have hnet : ({ D1 with lifts := lifts2 least found D1.lifts } : CD).net n m = D1.net n m := rfl
          have N7 : NetAt T H7 A { D1 with lifts := lifts2 least found D1.lifts } n m cap := ⟨Cs7.1, N1.ok, lift_inv N1.ok N1.inv near⟩
          refine ⟨_, rfl, A.c, rfl, Cs7.1.me (by decide +kernel), A, _, n, m, cap, rfl, N7, hn, ⟨t, lack_z N1.ok N1.inv near ht hft, hot⟩, fun H8 D8 Cs8 N8 lk8 _ hpos => ?_⟩
          have p0 := pos_nonneg D8.over
          have hpos : pos D8.over < pos D1.over := hpos
          exact ⟨(pos D8.over).toNat, by omega, D8, _, _, _, _, _, _, rfl, rfl, ⟨Cs8.1, (Cs6.2.trans Cs7.2).trans Cs8.2⟩, N8, ⟨lk8.1.trans lk.1, lk8.2.1.trans lk.2.1, lk8.2.2.1.trans lk.2.2.1, lk8.2.2.2.trans lk.2.2.2⟩⟩
    · exact Int.not_lt.mp fun z => c (decide_eq_true ⟨x, hx, z⟩)
end
end K31

set_option autoImplicit true
set_option Elab.async false
set_option autoImplicit false
set_option linter.all false
set_option maxRecDepth 100000
set_option maxHeartbeats 4000000
namespace K31
open PySem PySem.Spec PyProof.Rows L2
/-! costs.__init__ -/
/-- l: what has been made since H0 -/
structure Grow (c : Addr) (H0 : Hp) (l : List Addr) (H : Hp) : Prop where
  nd : l.Nodup
  ex : ∀ a ∈ l, H a ≠ none
  fr : ∀ a ∈ l, a = c ∨ H0 a = none
  sm : Same (off [c] H0) (off [c] H)
  hc : c ∈ l
namespace Grow
variable {c : Addr} {H0 H H' : Hp} {l : List Addr}
theorem none (g : Grow c H0 l H) {p : Addr} (n : H p = none) : H0 p = Option.none := by
  cases e : H0 p with
  | none => rfl
  | some o =>
    have hne : p ≠ c := fun z => g.ex c g.hc (z ▸ n)
    have := off_le _ _ (g.sm p o (off_of e (by simpa using hne)))
    rw [this] at n; cases n
theorem not_mem (g : Grow c H0 l H) {p : Addr} (n : H p = Option.none) : p ∉ l := fun z => g.ex p z n
theorem new (g : Grow c H0 l H) {p : Addr} {o : HO} (n : H p = Option.none) : Grow c H0 (l ++ [p]) (upd H p o) := by
  refine ⟨List.nodup_append.mpr ⟨g.nd, by simp, fun a ha b hb z => ?_⟩, fun a ha => ?_, fun a ha => ?_, g.sm.trans (kp_of (same_new n)), List.mem_append_left _ g.hc⟩
  · rw [List.mem_singleton.mp hb] at z; exact g.not_mem n (z ▸ ha)
  · rcases List.mem_append.mp ha with z | z
    · rw [upd_ne (fun q => g.not_mem n (by rw [← q]; exact z))]; exact g.ex a z
    · rw [List.mem_singleton.mp z, upd_same]; exact fun q => by cases q
  · rcases List.mem_append.mp ha with z | z
    · exact g.fr a z
    · rw [List.mem_singleton.mp z]; exact .inr (g.none n)
theorem mono (g : Grow c H0 l H) (k : Same H H') : Grow c H0 l H' := ⟨g.nd, fun a ha => by
  cases e : H a with
  | none => exact (g.ex a ha e).elim
  | some o => rw [k a o e]; exact fun q => (by cases q), g.fr, g.sm.trans (kp_of k), g.hc⟩
theorem ini (g : Grow c H0 l H) {u : HO} (e : off [c] H' = off [c] H) (o : H' c = some u) : Grow c H0 l H' := ⟨g.nd, fun a ha => by
  by_cases z : a = c
  · rw [z, o]; exact fun q => by cases q
  · cases q : H a with
    | none => exact (g.ex a ha q).elim
    | some v =>
      have := off_of (S := [c]) q (by simpa using z)
      rw [← e] at this
      rw [off_le _ _ this]; exact fun q => (by cases q), g.fr, by rw [e]; exact g.sm, g.hc⟩
theorem step (g : Grow c H0 l H) {p : Addr} {o u : HO} (n : H p = Option.none) (e : off [c] H' = off [c] (upd H p o)) (oc : H' c = some u) : Grow c H0 (l ++ [p]) H' ∧ off [c] H' p = some o ∧ Same (off [c] H) (off [c] H') := by
  refine ⟨(g.new n).ini e oc, ?_, ?_⟩
  · rw [e]
    exact off_of upd_same (by simpa using fun z => g.ex c g.hc (by rw [← z]; exact n))
  · rw [e]; exact kp_of (same_new n)
theorem add {p : Addr} (g : Grow c H0 l (off [p] H)) {o : HO} (h : H p = some o) (hne : p ≠ c) (h0 : H0 p = Option.none) : Grow c H0 (l ++ [p]) H := by
  have hn : p ∉ l := fun z => g.ex p z (by unfold off; rw [if_pos (by simp)])
  refine ⟨List.nodup_append.mpr ⟨g.nd, by simp, fun a ha b hb z => ?_⟩, fun a ha => ?_, fun a ha => ?_, g.sm.trans (kp_of off_le), List.mem_append_left _ g.hc⟩
  · rw [List.mem_singleton.mp hb] at z; exact hn (z ▸ ha)
  · rcases List.mem_append.mp ha with z | z
    · intro q
      exact g.ex a z (by unfold off; split; rfl; exact q)
    · rw [List.mem_singleton.mp z, h]; exact fun q => by cases q
  · rcases List.mem_append.mp ha with z | z
    · exact g.fr a z
    · rw [List.mem_singleton.mp z]; exact .inr h0
end Grow
theorem off_upd_ne {S : List Addr} {H : Hp} {p : Addr} {o : HO} (h : p ∉ S) : off S (upd H p o) = upd (off S H) p o := by
  funext b
  by_cases c : b = p
  · subst c; rw [upd_same]; exact off_of upd_same h
  · rw [upd_ne c]
    unfold off
    split
    · rfl
    · rw [upd_ne c]
def CD.empty (n : Nat) : CD := ⟨[], [], [], [], List.replicate n [], List.replicate n 0, List.replicate n 0⟩
section
variable {P : Program} {w : World} {K : PySem.W.Frag} {mg : Str → Option Value} {base : Heap}
def spCoI (T : Fx K mg) : Sp := fun vs H Q _ => ∃ (c dx : Addr) (n : Nat), vs = [.ref c, .int (n : Nat)] ∧ H c = some (.ins T.cCo dx []) ∧ n ≤ 1000 ∧ ∀ H' A, A.c = c → Same (off [c] H) (off A.as H') → CoAt T H' A (CD.empty n) → (∀ a ∈ A.as, a = c ∨ H a = none) → Q .non H'
theorem sc_costs_init : FnScope ["self", "size", "node"] ["self", "size"] (defScope s_costs_init) := ⟨rfl, rfl, rfl, by decide +kernel, rfl, by decide +kernel, by decide +kernel⟩
theorem c_costs_init (T : Fx K mg) (F : MakAt K mg "Costs" T.cCo "Costs.__init__" s_costs_init) : Mak P w K mg base CX0 1 "Costs" T.cCo ["self", "size"] (spCoI T) := by
  refine mak_of F sc_costs_init (fun _ _ _ _ _ _ _ us hl => match us, hl with | [_, _], _ => rfl) (fun vs H Q E h => ?_) (fun f cdv A outer s H vs Q E hr h => ?_)
  · obtain ⟨c, dx, n, rfl, hc, hn, k⟩ := h
    rfl
  obtain ⟨c, dx, n, rfl, hc, hn, k⟩ := h
  have hu := hu_of hr
  have nd := sc_costs_init.nd
  refine ⟨_, (pss_cons (ps_ini (pv 0) (pe_lst pa_nil) rfl)
  (pss_cons (ps_ini (pv 0) (pe_lst pa_nil) rfl)
  (pss_cons (ps_ini (pv 0) (pe_lst pa_nil) rfl)
  (pss_cons (ps_ini (pv 0) (pe_lst pa_nil) rfl)
  (pss_cons (ps_ini (pv 0) (pe_lc (own := [("node", 2)]) rfl nd (pi_range1 rfl T.range (pa_cons (pv 1) pa_nil)) (blkOk_by (by rfl)) (fun _ _ _ _ _ => (pg_name (i := 2) nd rfl (Or.inl rfl))) (fun _ _ _ _ _ => pts_nil) (fun _ _ _ _ _ => (pe_lst pa_nil))) rfl)
  (pss_cons (ps_ini (pv 0) (pe_op op_rep (pe_lst (pa_cons pe_int pa_nil)) (pv 1)) rfl)
  (pss_one (ps_ini (pv 0) (pe_op op_rep (pe_lst (pa_cons pe_int pa_nil)) (pv 1)) rfl)))))))), ?_⟩
  have sz := sizeLine_eq
  have hc0 : H c = some (.ins T.cCo dx (List.zip [] [])) := hc
  have NA : ∀ f, f ∈ [("heads" : Str), "room", "price", "lows", "arcs", "over", "lifts"] → NoAttr K T.cCo f := T.naCo
  have G0 : Grow c H [c] H := ⟨by simp, fun a ha => (by rw [List.mem_singleton.mp ha, hc]; exact fun q => (by cases q)), fun a ha => .inl (List.mem_singleton.mp ha), Same.refl _, by simp⟩
  refine ⟨Nat.zero_le _, fun ah n1 => ⟨_, rfl, c, _, dx, _, _, rfl, by rw [upd_ne (ne_of_none hc0 n1)]; exact hc0, rfl, (by decide +kernel), (by decide), T.clCo, NA _ (by simp), fun H1 o1 e1 => ?_⟩⟩
  obtain ⟨G1, x1, k1⟩ := G0.step n1 e1 o1
  refine ⟨Nat.zero_le _, fun ar n2 => ⟨_, rfl, c, _, dx, _, _, rfl, by rw [upd_ne (ne_of_none o1 n2)]; exact o1, rfl, (by decide +kernel), (by decide), T.clCo, NA _ (by simp), fun H2 o2 e2 => ?_⟩⟩
  obtain ⟨G2, x2, k2⟩ := G1.step n2 e2 o2
  refine ⟨Nat.zero_le _, fun ap n3 => ⟨_, rfl, c, _, dx, _, _, rfl, by rw [upd_ne (ne_of_none o2 n3)]; exact o2, rfl, (by decide +kernel), (by decide), T.clCo, NA _ (by simp), fun H3 o3 e3 => ?_⟩⟩
  obtain ⟨G3, x3, k3⟩ := G2.step n3 e3 o3
  refine ⟨Nat.zero_le _, fun al n4 => ⟨_, rfl, c, _, dx, _, _, rfl, by rw [upd_ne (ne_of_none o3 n4)]; exact o3, rfl, (by decide +kernel), (by decide), T.clCo, NA _ (by simp), fun H4 o4 e4 => ?_⟩⟩
  obtain ⟨G4, x4, k4⟩ := G3.step n4 e4 o4
  have y1 := (k2.trans (k3.trans k4)) _ _ x1
  have y2 := (k3.trans k4) _ _ x2
  have y3 := k4 _ _ x3
  clear x1 x2 x3 k1 k2 k3 k4 e1 e2 e3 e4 o1 o2 o3 n1 n2 n3 n4 G0 G1 G2 G3
  have G4 : Grow c H [c, ah, ar, ap, al] H4 := G4
  refine ⟨_, rfl, _, rfl, (rng_ok hn).1, (rng_ok hn).2, fun q nq => lc_by walk_r (fun i acc H5 => ∃ rows : List Addr, acc = rows.map V.ref ∧ rows.length = i ∧ Grow c H ([c, ah, ar, ap, al] ++ rows) H5 ∧ (∀ a ∈ rows, H5 a = some (.lst [])) ∧ Same H4 H5) nq ⟨[], rfl, rfl, by rw [List.append_nil]; exact G4, fun a ha => (by cases ha), Same.refl _⟩ (fun _ _ _ _ => trivial) ?_ ?_⟩
  · rintro i acc _ _ H5 hi hle ⟨rows, rfl, hrl, G, hrows, sm⟩ hq ⟨rfl, rfl⟩
    refine ⟨rfl, Nat.zero_le _, fun p np => ?_⟩
    have hpq : p ≠ q := fun z => by rw [z, hq] at np; cases np
    have hpS : p ∉ [q] := by simpa using hpq
    have np' : off [q] H5 p = none := by unfold off; rw [if_neg hpS]; exact np
    have hq' : (upd H5 p (.lst [])) q = some (.lst (rows.map V.ref)) := by rw [upd_ne hpq.symm]; exact hq
    have e5 : off [q] (upd H5 p (.lst [])) = upd (off [q] H5) p (.lst []) := off_upd_ne hpS
    have hi' : i < n := hi
    refine LcS.add hq' hle (by omega) ⟨rows ++ [p], by rw [List.map_append]; rfl, by rw [len_snoc, hrl], ?_, fun a ha => ?_, ?_⟩
    · rw [e5, ← List.append_assoc]; exact G.new np'
    · rw [e5]
      rcases List.mem_append.mp ha with z | z
      · rw [upd_ne (fun y => by have := hrows a z; rw [y, np'] at this; cases this)]; exact hrows a z
      · rw [List.mem_singleton.mp z, upd_same]
    · rw [e5]; exact sm.trans (same_new np')
  · rintro acc H5 hq ⟨rows, rfl, hrl, G, hrows, sm⟩
    have hqc : q ≠ c := fun z => by rw [z, o4] at nq; cases nq
    have G5 := G.add hq hqc (G4.none nq)
    have o5 : H5 c = some _ := off_le _ _ (sm _ _ o4)
    refine ⟨_, rfl, c, _, dx, _, _, rfl, o5, rfl, (by decide +kernel), (by decide), T.clCo, NA _ (by simp), fun H6 o6 e6 => ?_⟩
    have G6 := G5.ini e6 o6
    have k46 : Same (off [c] H4) (off [c] H6) := by rw [e6]; exact kp_of (sm.trans off_le)
    have xq : off [c] H6 q = some (.lst (rows.map V.ref)) := by rw [e6]; exact off_of hq (by simpa using hqc)
    have hrc : ∀ a ∈ rows, a ≠ c := fun a ha z => by
      have := off_le _ _ (hrows a ha)
      rw [z, o5] at this; cases this
    have xr : ∀ a ∈ rows, off [c] H6 a = some (.lst []) := fun a ha => by
      rw [e6]
      exact off_of (off_le _ _ (hrows a ha)) (by simpa using hrc a ha)
    clear e6 o5 G5 hrows sm hq G nq
    refine ⟨(by show 1 ≤ sizeLine; decide), fun p5 n5 => ⟨_, rfl, p5, _, _, rfl, rfl, upd_same, by omega, by omega, by simp; omega, fun ao n6 => ?_⟩⟩
    rw [rep_flat, Int.toNat_natCast]
    have o6' := (upd_ne (o := .lst [.int 0]) (ne_of_none o6 n5)).trans o6
    have G6' := G6.mono (same_new (o := .lst [.int 0]) n5)
    refine ⟨_, rfl, c, _, dx, _, _, rfl, by rw [upd_ne (ne_of_none o6' n6)]; exact o6', rfl, (by decide +kernel), (by decide), T.clCo, NA _ (by simp), fun H7 o7 e7 => ?_⟩
    obtain ⟨G7, x7, k7⟩ := G6'.step n6 e7 o7
    have k67 : Same (off [c] H6) (off [c] H7) := Same.trans (kp_of (same_new n5)) k7
    clear e7 k7 G6' o6' n6
    refine ⟨(by show 1 ≤ sizeLine; decide), fun p6 n7 => ⟨_, rfl, p6, _, _, rfl, rfl, upd_same, by omega, by omega, by simp; omega, fun af n8 => ?_⟩⟩
    rw [rep_flat, Int.toNat_natCast]
    have o7' := (upd_ne (o := .lst [.int 0]) (ne_of_none o7 n7)).trans o7
    have G7' := G7.mono (same_new (o := .lst [.int 0]) n7)
    refine ⟨_, rfl, c, _, dx, _, _, rfl, by rw [upd_ne (ne_of_none o7' n8)]; exact o7', rfl, (by decide +kernel), (by decide), T.clCo, NA _ (by simp), fun H8 o8 e8 => ?_⟩
    obtain ⟨G8, x8, k8⟩ := G7'.step n8 e8 o8
    have k78 : Same (off [c] H7) (off [c] H8) := Same.trans (kp_of (same_new n7)) k8
    have k68 := k67.trans k78
    have k48 := k46.trans k68
    let A : CA := ⟨c, dx, ah, ar, ap, al, q, ao, af, rows⟩
    have hperm : (((([c, ah, ar, ap, al] ++ rows) ++ [q]) ++ [ao]) ++ [af]).Perm A.as := by
      rw [List.append_assoc, List.append_assoc, List.append_assoc]
      exact List.Perm.append_left [c, ah, ar, ap, al] (List.perm_append_comm (l₁ := rows) (l₂ := [q, ao, af]))
    refine k H8 A rfl ?_ ⟨hperm.nodup_iff.mp G8.nd, by show rows.length = (List.replicate n ([] : List Nat)).length; rw [hrl]; simp, ?_⟩ (fun a ha => G8.fr a (hperm.mem_iff.mpr ha))
    · intro b o e
      have h1 := off_le _ _ (G8.sm b o e)
      refine off_of h1 fun z => ?_
      rcases G8.fr b (hperm.mem_iff.mpr z) with q' | q'
      · exact off_not e (by simpa using q')
      · rw [off_le _ _ e] at q'; cases q'
    · have rp : (List.replicate n (0 : Int)).map V.int = List.replicate n (V.int 0) := List.map_replicate
      intro i a o ha ho
      match i, ha, ho with
      | 0, ha, ho => cases ha; cases ho; exact o8
      | 1, ha, ho => cases ha; cases ho; exact off_le _ _ (k48 _ _ y1)
      | 2, ha, ho => cases ha; cases ho; exact off_le _ _ (k48 _ _ y2)
      | 3, ha, ho => cases ha; cases ho; exact off_le _ _ (k48 _ _ y3)
      | 4, ha, ho => cases ha; cases ho; exact off_le _ _ (k48 _ _ x4)
      | 5, ha, ho => cases ha; cases ho; exact off_le _ _ (k68 _ _ xq)
      | 6, ha, ho => cases ha; cases ho; show H8 ao = some (.lst ((List.replicate n (0 : Int)).map V.int)); rw [rp]; exact off_le _ _ (k78 _ _ x7)
      | 7, ha, ho => cases ha; cases ho; show H8 af = some (.lst ((List.replicate n (0 : Int)).map V.int)); rw [rp]; exact off_le _ _ x8
      | i + 8, ha, ho =>
        have ha : rows[i]? = some a := ha
        have ho : ((List.replicate n ([] : List Nat)).map fun l => HO.lst (nvs l))[i]? = some o := ho
        rw [List.map_replicate] at ho
        have : o = .lst [] := (List.eq_of_mem_replicate (List.mem_of_getElem? ho))
        rw [this]
        exact off_le _ _ (k68 _ _ (xr a (List.mem_of_getElem? ha)))
end
end K31

set_option autoImplicit true
set_option Elab.async false
set_option autoImplicit false
set_option linter.all false
set_option maxRecDepth 100000
set_option maxHeartbeats 4000000
namespace K31
open PySem PySem.Spec PyProof.Rows L2
/-! the class Bill: what stands in the heap; bounds, lay, lay_tie -/
def nsBi : List Str := ["book", "prices", "ground", "costs", "picks", "even", "lows", "highs"]
structure BA where
  p : Addr
  dx : Addr
  b : Addr
  ap : Addr
  pd : Addr
  ev : Addr
  lo : Addr
  hi : Addr
  A : CA
def BA.S (W : BA) : List Addr := W.pd :: W.A.as
def BA.vs (W : BA) (N : Nat) : List V := [.ref W.b, .ref W.ap, .int (N : Nat), .ref W.A.c, .ref W.pd, .ref W.ev, .ref W.lo, .ref W.hi]
def PkAt (H : Hp) (kvs : List (List Key × V)) (f : Pk) : Prop := ∀ r m e x, f r m = some (e, x) → ∃ a, valV kvs [.inl ((r : Nat) : Int), .inl ((m : Nat) : Int)] = some (.ref a) ∧ H a = some (.tup [.int ((e : Nat) : Int), .bl x])
theorem PkAt.mono {H H' : Hp} {kvs : List (List Key × V)} {f : Pk} (h : PkAt H kvs f) (k : Same H H') : PkAt H' kvs f := fun r m e x hf => let ⟨a, h1, h2⟩ := h r m e x hf; ⟨a, h1, k _ _ h2⟩
theorem PkAt.put {H : Hp} {kvs : List (List Key × V)} {f : Pk} (h : PkAt H kvs f) {r m e : Nat} {x : Bool} {a : Addr} (ha : H a = some (.tup [.int ((e : Nat) : Int), .bl x])) : PkAt H (putK kvs [.inl ((r : Nat) : Int), .inl ((m : Nat) : Int)] (.ref a)) (f.put r m (e, x)) := fun r' m' e' x' hf => by
  rw [valV_put]
  unfold Pk.put at hf
  by_cases c : r' = r ∧ m' = m
  · rw [if_pos c] at hf
    obtain ⟨rfl, rfl⟩ := c
    obtain ⟨rfl, rfl⟩ := Prod.mk.inj (Option.some.inj hf)
    exact ⟨a, if_pos rfl, ha⟩
  · rw [if_neg c] at hf
    obtain ⟨b, h1, h2⟩ := h r' m' e' x' hf
    refine ⟨b, (if_neg fun z => c ?_).trans h1, h2⟩
    have z1 := (List.cons.inj z).1
    have z2 := (List.cons.inj (List.cons.inj z).2).1
    have z1 := Sum.inl.inj z1
    have z2 := Sum.inl.inj z2
    exact ⟨by omega, by omega⟩
structure BiAt {K : PySem.W.Frag} {mg : Str → Option Value} (T : Fx K mg) (H : Hp) (W : BA) (B : Bk) (pr : List (List Int)) (D : CD) (f : Pk) (n : Nat) : Prop where
  obj : off W.S H W.p = some (.ins T.cBi W.dx (nsBi.zip (W.vs (2 ^ B.many))))
  bk : BookAt K (off W.S H) W.b B
  pr : Td (off W.S H) (prD pr) (.ref W.ap)
  ev : off W.S H W.ev = some (.lst ((List.range (2 ^ B.many)).map fun r => V.bl (ev B r)))
  lo : Td (off W.S H) (loD B) (.ref W.lo)
  hi : Td (off W.S H) (hiD B) (.ref W.hi)
  co : CoAt T H W.A D
  pk : ∃ kvs, H W.pd = some (.dT kvs) ∧ kvs.length ≤ n ∧ PkAt (off W.S H) kvs f
section
variable {K : PySem.W.Frag} {mg : Str → Option Value} {T : Fx K mg} {H H' : Hp} {A : CA} {W : BA} {B : Bk} {pr : List (List Int)} {D D' : CD} {f : Pk} {n : Nat}
theorem CoAt.not_dt (h : CoAt T H A D) {a : Addr} {kvs : List (List Key × V)} (ha : H a = some (.dT kvs)) : a ∉ A.as := fun z => by
  rcases h.isl z with q | ⟨_, q⟩
  · rw [q, h.gc] at ha; cases ha
  · rw [q] at ha; cases ha
theorem CoAt.not_tup (h : CoAt T H A D) {a : Addr} {xs : List V} (ha : H a = some (.tup xs)) : a ∉ A.as := fun z => by
  rcases h.isl z with q | ⟨_, q⟩
  · rw [q, h.gc] at ha; cases ha
  · rw [q] at ha; cases ha
namespace BiAt
theorem not_tup (h : BiAt T H W B pr D f n) {a : Addr} {xs : List V} (ha : H a = some (.tup xs)) : a ∉ W.S := fun z => by
  rcases List.mem_cons.mp z with q | q
  · obtain ⟨kvs, e, _⟩ := h.pk
    rw [q, e] at ha; cases ha
  · exact h.co.not_tup ha q
theorem not_new (h : BiAt T H W B pr D f n) {a : Addr} (ha : H a = none) : a ∉ W.S := fun z => by
  rcases List.mem_cons.mp z with q | q
  · obtain ⟨kvs, e, _⟩ := h.pk
    rw [q, e] at ha; cases ha
  · exact h.co.not_new ha q
theorem tup (h : BiAt T H W B pr D f n) (k : Kp W.S H H') {a : Addr} {xs : List V} (ha : H a = some (.tup xs)) : H' a = some (.tup xs) := k.get ha (h.not_tup ha)
theorem same (h : BiAt T H W B pr D f n) (k : Same H H') : BiAt T H' W B pr D f n := by
  have k2 : Kp W.S H H' := kp_of k
  obtain ⟨kvs, e1, e2, e3⟩ := h.pk
  exact ⟨k2 _ _ h.obj, h.bk.mono k2, h.pr.mono k2, k2 _ _ h.ev, h.lo.mono k2, h.hi.mono k2, h.co.mono k, kvs, k _ _ e1, e2, e3.mono k2⟩
theorem kpS (h : BiAt T H W B pr D f n) (k : Kp W.A.as H H') : Kp W.S H H' := k.mono fun a ha => List.mem_cons_of_mem _ ha
theorem step (h : BiAt T H W B pr D f n) (c : CoS T H H' W.A D') : BiAt T H' W B pr D' f n := by
  have k2 := h.kpS c.2
  obtain ⟨kvs, e1, e2, e3⟩ := h.pk
  exact ⟨k2 _ _ h.obj, h.bk.mono k2, h.pr.mono k2, k2 _ _ h.ev, h.lo.mono k2, h.hi.mono k2, c.1, kvs, c.2.get e1 (h.co.not_dt e1), e2, e3.mono k2⟩
theorem fld (h : BiAt T H W B pr D f n) {x : Str} {i : Nat} {v : V} (hf : x ∈ [("book" : Str), "prices", "ground", "costs", "picks", "even", "lows", "highs"]) (hi : nsBi[i]? = some x) (hv : (W.vs (2 ^ B.many))[i]? = some v) : Fld K H W.p x v :=
  ⟨_, _, _, off_le _ _ h.obj, T.clBi, T.naBi _ hf, (lookup_zip (by decide +kernel) rfl hi).trans hv⟩
theorem fb (h : BiAt T H W B pr D f n) : Fld K H W.p "book" (.ref W.b) := h.fld (i := 0) (by simp) rfl rfl
theorem fp (h : BiAt T H W B pr D f n) : Fld K H W.p "prices" (.ref W.ap) := h.fld (i := 1) (by simp) rfl rfl
theorem fg (h : BiAt T H W B pr D f n) : Fld K H W.p "ground" (.int ((2 ^ B.many : Nat) : Int)) := h.fld (i := 2) (by simp) rfl rfl
theorem fc (h : BiAt T H W B pr D f n) : Fld K H W.p "costs" (.ref W.A.c) := h.fld (i := 3) (by simp) rfl rfl
theorem fk (h : BiAt T H W B pr D f n) : Fld K H W.p "picks" (.ref W.pd) := h.fld (i := 4) (by simp) rfl rfl
theorem fe (h : BiAt T H W B pr D f n) : Fld K H W.p "even" (.ref W.ev) := h.fld (i := 5) (by simp) rfl rfl
theorem fl (h : BiAt T H W B pr D f n) : Fld K H W.p "lows" (.ref W.lo) := h.fld (i := 6) (by simp) rfl rfl
theorem fh (h : BiAt T H W B pr D f n) : Fld K H W.p "highs" (.ref W.hi) := h.fld (i := 7) (by simp) rfl rfl
theorem me (h : BiAt T H W B pr D f n) {m : Str} (hm : m ∉ nsBi) : Is H W.p T.cBi m := ⟨_, _, off_le _ _ h.obj, lookup_zip_none hm⟩
theorem gev (h : BiAt T H W B pr D f n) {r : Nat} (hr : r < 2 ^ B.many) : atI ((List.range (2 ^ B.many)).map fun r => V.bl (K31.ev B r)) ((r : Nat) : Int) = some (.bl (K31.ev B r)) :=
  atI_nat (by rw [List.getElem?_map, List.getElem?_range hr]; rfl)
/-- a pick is noted -/
theorem put (h : BiAt T H W B pr D f n) {r m e : Nat} {x : Bool} {a b : Addr} (ha : H a = some (.tup [.int ((e : Nat) : Int), .bl x])) (hb : H b = some (.tup [.int ((r : Nat) : Int), .int ((m : Nat) : Int)])) (hn : n ≤ 1000) :
    ∃ H', DPut H W.pd (.ref b) (.ref a) H' ∧ Kp W.S H H' ∧ BiAt T H' W B pr D (f.put r m (e, x)) (n + 1) := by
  obtain ⟨kvs, e1, e2, e3⟩ := h.pk
  have hk : Kp W.S H (L2.upd H W.pd (.dT (putK kvs [.inl ((r : Nat) : Int), .inl ((m : Nat) : Int)] (.ref a)))) := kp_upd (List.mem_cons_self ..)
  refine ⟨_, DPut.t (k := [.inl ((r : Nat) : Int), .inl ((m : Nat) : Int)]) e1 hb (by have := sizeLine_eq; omega), hk, ?_⟩
  have ha' : off W.S H a = some (.tup [.int ((e : Nat) : Int), .bl x]) := off_of ha (h.not_tup ha)
  refine ⟨hk _ _ h.obj, h.bk.mono hk, h.pr.mono hk, hk _ _ h.ev, h.lo.mono hk, h.hi.mono hk, h.co.kp (S := [W.pd]) (kp_upd (by simp)) (fun b hb z => h.co.not_dt e1 (by simp at z; exact z ▸ hb)), _, upd_same, ?_, (e3.put ha').mono hk⟩
  have := length_putK kvs [Sum.inl ((r : Nat) : Int), Sum.inl ((m : Nat) : Int)] (V.ref a)
  omega
end BiAt
end
/-- the lists behind the pipes As -/
def layD (N : Nat) (As : List Arc) (arcs : List (List Nat)) (over : List Int) : CD := ⟨hdsA As, roomA As, prsA As, losA As, arcs, over, List.replicate (N + 1) 0⟩
theorem layD_add {N s g : Nat} {As : List Arc} {arcs : List (List Nat)} {over : List Int} {b : Int × Int} {p : Int} : (layD N As arcs over).add s g b p = layD N (As ++ [⟨s, g, b.1, b.2, p⟩]) (arcs2 arcs s g (2 * As.length)) (over3 over s g (Arc.fst ⟨s, g, b.1, b.2, p⟩)) := by
  have h1 : (hdsA As).length = 2 * As.length := hdsA_len As
  unfold layD CD.add
  simp only [h1]
  rw [hdsA_snoc]
  simp only [roomA, prsA, losA, List.flatMap_append, List.map_append, List.flatMap_cons, List.flatMap_nil, List.map_cons, List.map_nil, List.append_nil]
  rfl
def LayS {K : PySem.W.Frag} {mg : Str → Option Value} (T : Fx K mg) (H : Hp) (W : BA) (B : Bk) (pr : List (List Int)) (As : List Arc) (f : Pk) (n : Nat) : Prop :=
  ∃ arcs over, Lay (2 ^ B.many + 1) As arcs over ∧ BiAt T H W B pr (layD (2 ^ B.many) As arcs over) f n ∧ (layD (2 ^ B.many) As arcs over).Small (2 * As.length)
section
variable {K : PySem.W.Frag} {mg : Str → Option Value} {T : Fx K mg} {H H' : Hp} {W : BA} {B : Bk} {pr : List (List Int)} {As : List Arc} {f : Pk} {n : Nat}
theorem LayS.bi (h : LayS T H W B pr As f n) : ∃ D, BiAt T H W B pr D f n := let ⟨_, _, _, a, _⟩ := h; ⟨_, a⟩
theorem LayS.same (h : LayS T H W B pr As f n) (k : Same H H') : LayS T H' W B pr As f n := let ⟨a, b, c, d, e⟩ := h; ⟨a, b, c, d.same k, e⟩
theorem LayS.tup (h : LayS T H W B pr As f n) (k : Kp W.S H H') {a : Addr} {xs : List V} (ha : H a = some (.tup xs)) : H' a = some (.tup xs) := let ⟨_, q⟩ := h.bi; q.tup k ha
theorem LayS.put (h : LayS T H W B pr As f n) {r m e : Nat} {x : Bool} {a b : Addr} (ha : H a = some (.tup [.int ((e : Nat) : Int), .bl x])) (hb : H b = some (.tup [.int ((r : Nat) : Int), .int ((m : Nat) : Int)])) (hn : n ≤ 1000) :
    ∃ H', DPut H W.pd (.ref b) (.ref a) H' ∧ Kp W.S H H' ∧ LayS T H' W B pr As (f.put r m (e, x)) (n + 1) := by
  obtain ⟨c1, c2, c3, c4, c5⟩ := h
  obtain ⟨H', h1, h2, h3⟩ := c4.put ha hb hn
  exact ⟨H', h1, h2, c1, c2, c3, h3, c5⟩
end
section
variable {K : PySem.W.Frag} {mg : Str → Option Value} {T : Fx K mg} {H H' : Hp} {W : BA} {B : Bk} {pr : List (List Int)} {As : List Arc} {f : Pk} {n : Nat}
/-- one pipe more -/
theorem lay_more {arcs : List (List Nat)} {over : List Int} (L : Lay (2 ^ B.many + 1) As arcs over) (hW : BiAt T H W B pr (layD (2 ^ B.many) As arcs over) f n) (hS : (layD (2 ^ B.many) As arcs over).Small (2 * As.length)) {s g : Nat} {b : Int × Int} {z : Int} (hs : s < 2 ^ B.many + 1) (hg : g < 2 ^ B.many + 1) (hb : b.1 ≤ b.2)
    (Cs : CoS T H H' W.A ((layD (2 ^ B.many) As arcs over).add s g b z)) : LayS T H' W B pr (As ++ [⟨s, g, b.1, b.2, z⟩]) f n := by
  have S2 := hS.add s g b z
  rw [layD_add] at Cs S2
  exact ⟨_, _, lay_snoc L _ hs hg hb, hW.step Cs, by rw [len_snoc]; exact S2⟩
end
section
variable {P : Program} {w : World} {K : PySem.W.Frag} {mg : Str → Option Value} {base : Heap}
def spBiB (T : Fx K mg) : Sp := fun vs H Q _ => ∃ (W : BA) (B : Bk) (pr : List (List Int)) (D : CD) (f : Pk) (n r m : Nat), vs = [.ref W.p, .int (r : Nat), .int (m : Nat)] ∧ BiAt T H W B pr D f n ∧ B.Ok ∧ r < 2 ^ B.many ∧ m < B.many ∧ ∀ q H', Same H H' → Two H' q (bnd (B.sg r m)) → Q (.ref q) H'
theorem sc_bill_bounds : FnScope ["self", "row", "member"] ["self", "row", "member"] (defScope s_bill_bounds) := ⟨rfl, rfl, rfl, by decide +kernel, rfl, by decide +kernel, by decide +kernel⟩
theorem c_bill_bounds (T : Fx K mg) (F : MetAt K T.cBi "bounds" "Bill.bounds" s_bill_bounds) : Met P w K mg base CX0 1 T.cBi "bounds" ["self", "row", "member"] (spBiB T) := by
  refine met_of F sc_bill_bounds (fun _ _ _ _ _ _ _ us hl => match us, hl with | [_, _, _], _ => rfl) (fun vs H Q E h => ?_) (fun f cdv A outer s H vs Q E hr h => ?_)
  · obtain ⟨W, B, pr, D, f, n, r, m, rfl, hW, O, hr', hm, k⟩ := h
    rfl
  obtain ⟨W, B, pr, D, f, n, r, m, rfl, hW, O, hr', hm, k⟩ := h
  have hu := hu_of hr
  have nd := sc_bill_bounds.nd
  refine ⟨_, (pss_one (ps_ret (pe_tup (pa_cons (pe_ix ix_list (pe_ix ix_list (pe_f (pv 0)) (pv 1) (fun _ _ => rfl)) (pv 2) (fun _ _ => rfl)) (pa_cons (pe_ix ix_list (pe_ix ix_list (pe_f (pv 0)) (pv 1) (fun _ _ => rfl)) (pv 2) (fun _ _ => rfl)) pa_nil))))), ?_⟩
  obtain ⟨a1, vs1, c1, ws1, e1, x1, x2, x3, x4⟩ := (tab_at (hW.lo.mono off_le) O hr' hm).ex
  obtain ⟨a2, vs2, c2, ws2, e2, y1, y2, y3, y4⟩ := (tab_at (hW.hi.mono off_le) O hr' hm).ex
  refine ⟨_, rfl, W.p, _, rfl, hW.fl, _, rfl, _, _, _, _, e1, rfl, SqL.of x1, atI_nat x2, _, rfl, _, _, _, _, rfl, rfl, SqL.of x3, atI_nat x4, _, rfl, W.p, _, rfl, hW.fh, _, rfl, _, _, _, _, e2, rfl, SqL.of y1, atI_nat y2, _, rfl, _, _, _, _, rfl, rfl, SqL.of y3, atI_nat y4, (by show 2 ≤ sizeLine; decide), fun q hq => ?_⟩
  exact k _ _ (same_new hq) upd_same
def spBiL (T : Fx K mg) : Sp := fun vs H Q _ => ∃ (W : BA) (B : Bk) (pr : List (List Int)) (As : List Arc) (f : Pk) (n r g : Nat) (pb : Addr) (b : Int × Int) (z : Int), vs = [.ref W.p, .int (r : Nat), .int (g : Nat), .ref pb, .int z] ∧ LayS T H W B pr As f n ∧ B.Ok ∧ r < 2 ^ B.many ∧ g < 2 ^ B.many + 1 ∧ Two H pb b ∧ b.1 ≤ b.2 ∧ 2 * As.length ≤ 900 ∧
  ∀ H', Kp W.S H H' → LayS T H' W B pr (As ++ [arcL B r g b z]) f n → Q (.int ((2 * As.length : Nat) : Int)) H'
theorem sc_bill_lay : FnScope ["self", "row", "goal", "bounds", "price"] ["self", "row", "goal", "bounds", "price"] (defScope s_bill_lay) := ⟨rfl, rfl, rfl, by decide +kernel, rfl, by decide +kernel, by decide +kernel⟩
theorem c_bill_lay (T : Fx K mg) (F : MetAt K T.cBi "lay" "Bill.lay" s_bill_lay) (c_costs_add : Met P w K mg base CX0 1 T.cCo "add" ["self", "start", "goal", "bounds", "price"] (spAdd T)) : Met P w K mg base CX0 2 T.cBi "lay" ["self", "row", "goal", "bounds", "price"] (spBiL T) := by
  refine met_of F sc_bill_lay (fun _ _ _ _ _ _ _ us hl => match us, hl with | [_, _, _, _, _], _ => rfl) (fun vs H Q E h => ?_) (fun f cdv A outer s H vs Q E hr h => ?_)
  · obtain ⟨W, B, pr, As, f, n, r, g, pb, b, z, rfl, hL, O, hr', hg, hpb, hb, hAs, k⟩ := h
    rfl
  obtain ⟨W, B, pr, As, f, n, r, g, pb, b, z, rfl, hL, O, hr', hg, hpb, hb, hAs, k⟩ := h
  have hu := hu_of hr
  have nd := sc_bill_lay.nd
  refine ⟨_, (pss_cons (ps_if (pt_val (pe_ix ix_list (pe_f (pv 0)) (pv 1) (fun _ _ => rfl))) (pss_one (ps_ret (pe_m c_costs_add hr (by decide) pass0 (pe_f (pv 0)) (pa_cons (pv 1) (pa_cons (pv 2) (pa_cons (pv 3) (pa_cons (pv 4) pa_nil))))))) pss_nil)
  (pss_one (ps_ret (pe_m c_costs_add hr (by decide) pass0 (pe_f (pv 0)) (pa_cons (pv 2) (pa_cons (pv 1) (pa_cons (pv 3) (pa_cons (pv 4) pa_nil)))))))), ?_⟩
  obtain ⟨arcs, over, L, hW, hS⟩ := hL
  have hC := hW.co
  have hla : (layD (2 ^ B.many) As arcs over).arcs.length = 2 ^ B.many + 1 := L.la
  have hlo : (layD (2 ^ B.many) As arcs over).over.length = 2 ^ B.many + 1 := L.lo
  have hlh : (layD (2 ^ B.many) As arcs over).heads.length = 2 * As.length := hdsA_len As
  have S1 := hS.add
  refine ⟨_, rfl, W.p, _, rfl, hW.fe, _, rfl, _, _, _, _, rfl, rfl, SqL.of (off_le _ _ hW.ev), hW.gev hr', _, rfl, ite2 (fun c => ?_) (fun c => ?_)⟩
  · refine ⟨_, rfl, W.p, _, rfl, hW.fc, W.A.c, rfl, hC.me (by decide +kernel), _, rfl, _, rfl, _, rfl, _, rfl, W.A, _, r, g, _, pb, b, z, rfl, hC, hS, by omega, by omega, by omega, by omega, by omega, hpb, fun H' Cs => ?_⟩
    rw [hlh]
    rw [layD_add] at Cs
    have S2 := S1 r g b z
    rw [layD_add] at S2
    refine k H' (hW.kpS Cs.2) ?_
    unfold arcL
    rw [if_pos c]
    exact ⟨_, _, lay_snoc L _ (by show r < _; omega) hg hb, hW.step Cs, by rw [len_snoc]; exact S2⟩
  · refine ⟨_, rfl, W.p, _, rfl, hW.fc, W.A.c, rfl, hC.me (by decide +kernel), _, rfl, _, rfl, _, rfl, _, rfl, W.A, _, g, r, _, pb, b, z, rfl, hC, hS, by omega, by omega, by omega, by omega, by omega, hpb, fun H' Cs => ?_⟩
    rw [hlh]
    rw [layD_add] at Cs
    have S2 := S1 g r b z
    rw [layD_add] at S2
    refine k H' (hW.kpS Cs.2) ?_
    unfold arcL
    rw [if_neg c]
    exact ⟨_, _, lay_snoc L _ hg (by show r < _; omega) hb, hW.step Cs, by rw [len_snoc]; exact S2⟩
def plc (r o : Nat) (i : Nat) : Nat := if i = 0 then r else o
def fI (f : Pk) (r m o k : Nat) : Nat → Pk
  | 0 => f
  | j + 1 => (fI f r m o k j).put (plc r o j) m (2 * (k + j), false)
def mArc (B : Bk) (pr : List (List Int)) (r m o j : Nat) : Arc := arcL B (plc r o j) (2 ^ B.many) (bnd (B.sg (plc r o j) m)) (prAt pr (plc r o j) m)
theorem bnd_le (s : Sg) : (bnd s).1 ≤ (bnd s).2 := by cases s <;> decide
def spBiT (T : Fx K mg) : Sp := fun vs H Q _ => ∃ (W : BA) (B : Bk) (pr : List (List Int)) (As : List Arc) (f : Pk) (n r m o : Nat), vs = [.ref W.p, .int (r : Nat), .int (m : Nat), .int (o : Nat)] ∧ LayS T H W B pr As f n ∧ B.Ok ∧ PrOk B pr ∧ (r, m, o) ∈ ties B.many ∧ 2 * As.length ≤ 800 ∧ n ≤ 900 ∧
  (tornB (B.d m) (bnd (B.sg r m)) (bnd (B.sg o m)) = true → ∀ H', Kp W.S H H' → Q (.bl false) H') ∧
  (tornB (B.d m) (bnd (B.sg r m)) (bnd (B.sg o m)) = false → ∀ H', Kp W.S H H' → LayS T H' W B pr (As ++ tieArcs B pr (r, m, o)) (tiePk B f (r, m, o) As.length) (n + 2) → Q (.bl true) H')
theorem sc_bill_lay_tie : FnScope ["self", "row", "member", "other", "duty", "first", "second", "place", "price", "bounds", "number"] ["self", "row", "member", "other"] (defScope s_bill_lay_tie) := ⟨rfl, rfl, rfl, by decide +kernel, rfl, by decide +kernel, by decide +kernel⟩
theorem c_bill_lay_tie (T : Fx K mg) (F : MetAt K T.cBi "lay_tie" "Bill.lay_tie" s_bill_lay_tie) (c_bill_bounds : Met P w K mg base CX0 1 T.cBi "bounds" ["self", "row", "member"] (spBiB T)) (c_bill_lay : Met P w K mg base CX0 2 T.cBi "lay" ["self", "row", "goal", "bounds", "price"] (spBiL T)) (c_tie_bounds : Cal P w K mg base CX0 1 "tie_bounds" ["duty", "scale", "one", "other"] (spTieB)) : Met P w K mg base CX0 3 T.cBi "lay_tie" ["self", "row", "member", "other"] (spBiT T) := by
  refine met_of F sc_bill_lay_tie (fun _ _ _ _ _ _ _ us hl => match us, hl with | [_, _, _, _], _ => rfl) (fun vs H Q E h => ?_) (fun f cdv A outer s H vs Q E hr h => ?_)
  · obtain ⟨W, B, pr, As, f, n, r, m, o, rfl, hL, O, OP, ht, hAs, hn, kF, kT⟩ := h
    rfl
  obtain ⟨W, B, pr, As, f, n, r, m, o, rfl, hL, O, OP, ht, hAs, hn, kF, kT⟩ := h
  have hu := hu_of hr
  have nd := sc_bill_lay_tie.nd
  refine ⟨_, (pss_cons (ps_set (i := 4) nd rfl (Or.inl rfl) (pe_ix ix_str (pe_f (pe_f (pv 0))) (pv 2) (fun _ _ => rfl)))
  (pss_cons (ps_set (i := 5) nd rfl (Or.inl rfl) (pe_ix ix_tup (pe_ix ix_tup (pe_f (pv 0)) (pv 1) (fun _ _ => rfl)) (pv 2) (fun _ _ => rfl)))
  (pss_cons (ps_set (i := 6) nd rfl (Or.inl rfl) (pe_ix ix_tup (pe_ix ix_tup (pe_f (pv 0)) (pv 3) (fun _ _ => rfl)) (pv 2) (fun _ _ => rfl)))
  (pss_cons (ps_if (pt_cmpR op_eq (pv 4) pe_str (nomark _)) (pss_cons (ps_for (passes_of rfl) rfl (pi_tup (pe_tup (pa_cons (pe_tup (pa_cons (pv 1) (pa_cons (pv 5) pa_nil))) (pa_cons (pe_tup (pa_cons (pv 3) (pa_cons (pv 6) pa_nil))) pa_nil)))) (pg_tup rfl (pgs_cons (pg_name (i := 7) nd rfl (Or.inl rfl)) (pgs_cons (pg_name (i := 8) nd rfl (Or.inl rfl)) pgs_nil))) (pss_one (ps_dput hu (pe_f (pv 0)) (pe_tup (pa_cons (pv 7) (pa_cons (pv 2) pa_nil))) (pe_tup (pa_cons (pe_m c_bill_lay hr (by decide) pass0 (pv 0) (pa_cons (pv 7) (pa_cons (pe_f (pv 0)) (pa_cons (pe_m c_bill_bounds hr (by decide) pass0 (pv 0) (pa_cons (pv 7) (pa_cons (pv 2) pa_nil))) (pa_cons (pv 8) pa_nil))))) (pa_cons pe_bl pa_nil))) rfl)))
  (pss_one (ps_ret pe_bl))) pss_nil)
  (pss_cons (ps_set (i := 9) nd rfl (Or.inl rfl) (pe_k c_tie_bounds hr (by decide) pass0 (pa_cons (pv 4) (pa_cons pe_int (pa_cons (pe_m c_bill_bounds hr (by decide) pass0 (pv 0) (pa_cons (pv 1) (pa_cons (pv 2) pa_nil))) (pa_cons (pe_m c_bill_bounds hr (by decide) pass0 (pv 0) (pa_cons (pv 3) (pa_cons (pv 2) pa_nil))) pa_nil))))))
  (pss_cons (ps_if (pt_cmpR op_gt (pe_ix ix_tup (pv 9) pe_int (fun _ _ => rfl)) (pe_ix ix_tup (pv 9) pe_int (fun _ _ => rfl)) (nomark _)) (pss_one (ps_ret pe_bl)) pss_nil)
  (pss_cons (ps_if (pt_cmpR op_eq (pv 4) pe_str (nomark _)) (pss_one (ps_set (i := 10) nd rfl (Or.inl rfl) (pe_m c_bill_lay hr (by decide) pass0 (pv 0) (pa_cons (pv 1) (pa_cons (pv 3) (pa_cons (pv 9) (pa_cons (pe_op op_add (pv 5) (pv 6)) pa_nil))))))) (pss_cons (ps_expr (pe_m c_bill_lay hr (by decide) pass0 (pv 0) (pa_cons (pv 3) (pa_cons (pe_f (pv 0)) (pa_cons (pe_tup (pa_cons pe_int (pa_cons pe_int pa_nil))) (pa_cons (pv 6) pa_nil))))))
  (pss_one (ps_set (i := 10) nd rfl (Or.inl rfl) (pe_m c_bill_lay hr (by decide) pass0 (pv 0) (pa_cons (pv 1) (pa_cons (pv 3) (pa_cons (pv 9) (pa_cons (pe_op op_sub (pv 5) (pv 6)) pa_nil)))))))))
  (pss_cons (ps_dput hu (pe_f (pv 0)) (pe_tup (pa_cons (pv 1) (pa_cons (pv 2) pa_nil))) (pe_tup (pa_cons (pv 10) (pa_cons pe_bl pa_nil))) rfl)
  (pss_cons (ps_dput hu (pe_f (pv 0)) (pe_tup (pa_cons (pv 3) (pa_cons (pv 2) pa_nil))) (pe_tup (pa_cons (pv 10) (pa_cons (pe_cmpR op_eq (pv 4) pe_str (nomark _)) pa_nil))) rfl)
  (pss_one (ps_ret pe_bl))))))))))), ?_⟩
  have sz := sizeLine_eq
  obtain ⟨hr', hm, ho, _⟩ := ties_lt O.m1 O.m4 _ ht
  have hr' : r < 2 ^ B.many := hr'
  have hm : m < B.many := hm
  have ho : o < 2 ^ B.many := ho
  obtain ⟨arcs, over, L, hW, hS⟩ := id hL
  have hd : m < B.du.length := by rw [O.ld]; exact hm
  have hB := hW.bk.mono off_le
  obtain ⟨a5, vs5, c5, ws5, e5, u1, u2, u3, u4⟩ := pr_at (hW.pr.mono off_le) OP hr' hm
  obtain ⟨a6, vs6, c6, ws6, e6, v1, v2, v3, v4⟩ := pr_at (hW.pr.mono off_le) OP ho hm
  refine ⟨_, rfl, W.p, _, rfl, hW.fb, W.b, _, rfl, hB.duties, _, rfl, _, _, _, rfl, rfl, du_len O, du_ix hd, ?_⟩
  refine ⟨_, rfl, W.p, _, rfl, hW.fp, _, rfl, _, _, _, _, e5, rfl, SqT.of u1, atI_nat u2, _, rfl, _, _, _, _, rfl, rfl, SqT.of u3, atI_nat u4, ?_⟩
  refine ⟨_, rfl, W.p, _, rfl, hW.fp, _, rfl, _, _, _, _, e6, rfl, SqT.of v1, atI_nat v2, _, rfl, _, _, _, _, rfl, rfl, SqT.of v3, atI_nat v4, ?_⟩
  clear u1 u2 u3 u4 v1 v2 v3 v4 e5 e6
  show tSeq _ _ _ [some (.ref W.p), some (.int (r : Nat)), some (.int (m : Nat)), some (.int (o : Nat)), some (.str ⟨#[(B.d m).c]⟩), some (.int (prAt pr r m)), some (.int (prAt pr o m)), none, none, none, none] _
  refine ⟨_, rfl, rfl, _, rfl, ite2 (fun c => ?_) (fun c => ?_)⟩
  · rw [dec_m] at c
    have c := of_decide_eq_true c
    refine ⟨_, rfl, _, rfl, (by show 2 ≤ sizeLine; decide), fun p1 n1 => ⟨_, rfl, _, rfl, (by show 2 ≤ sizeLine; decide), fun p2 n2 => ⟨(by show 2 ≤ sizeLine; decide), fun p3 n3 => ?_⟩⟩⟩
    have s1 := same_new (o := .tup [.int (r : Nat), .int (prAt pr r m)]) n1
    have s2 := same_new (o := .tup [.int (o : Nat), .int (prAt pr o m)]) n2
    have s3 := same_new (o := .tup [.ref p1, .ref p2]) n3
    have h1 := (s2.trans s3) _ _ upd_same
    have h2 := s3 _ _ upd_same
    have h3 : (upd (upd (upd H p1 (.tup [.int (r : Nat), .int (prAt pr r m)])) p2 (.tup [.int (o : Nat), .int (prAt pr o m)])) p3 (.tup [.ref p1, .ref p2])) p3 = some (.tup [.ref p1, .ref p2]) := upd_same
    have s03 := (s1.trans s2).trans s3
    generalize upd (upd (upd H p1 (.tup [.int (r : Nat), .int (prAt pr r m)])) p2 (.tup [.int (o : Nat), .int (prAt pr o m)])) p3 (.tup [.ref p1, .ref p2]) = H3 at *
    have L3 := hL.same s03
    refine ⟨p3, rfl, ⟨_, SqT.of h3⟩, for_it walk_tup (fun i σ H4 => ∃ x7 x8, σ = [some (.ref W.p), some (.int (r : Nat)), some (.int (m : Nat)), some (.int (o : Nat)), some (.str ⟨#[(B.d m).c]⟩), some (.int (prAt pr r m)), some (.int (prAt pr o m)), x7, x8, none, none] ∧
      Kp W.S H3 H4 ∧ LayS T H4 W B pr (As ++ (List.range i).map (mArc B pr r m o)) (fI f r m o As.length i) (n + i)) ⟨none, none, rfl, Kp.refl _ _, by simpa [fI] using L3⟩ (fun i σ H4 _ p => by obtain ⟨_, _, _, k4, _⟩ := p; exact SqT.of (L3.tup k4 h3)) ?_ ?_⟩
    · rintro i y σ _ H4 hi ⟨x7, x8, rfl, k4, L4⟩ ⟨rfl, hy⟩
      have hi : i < 2 := hi
      obtain ⟨pa, rfl, hpa, hpl⟩ : ∃ pa, y = .ref pa ∧ H4 pa = some (.tup [.int ((plc r o i : Nat) : Int), .int (prAt pr (plc r o i) m)]) ∧ plc r o i < 2 ^ B.many := by
        have : i = 0 ∨ i = 1 := by omega
        rcases this with rfl | rfl
        · exact ⟨p1, (Option.some.inj hy).symm, L3.tup k4 h1, hr'⟩
        · exact ⟨p2, (Option.some.inj hy).symm, L3.tup k4 h2, ho⟩
      have hfI : fI f r m o As.length (i + 1) = (fI f r m o As.length i).put (plc r o i) m (2 * (As.length + i), false) := rfl
      have hmA : mArc B pr r m o i = arcL B (plc r o i) (2 ^ B.many) (bnd (B.sg (plc r o i) m)) (prAt pr (plc r o i) m) := rfl
      have hlen : (As ++ (List.range i).map (mArc B pr r m o)).length = As.length + i := by simp
      generalize plc r o i = pl at *
      obtain ⟨D4, W4⟩ := L4.bi
      refine ⟨pa, _, rfl, SqT.of hpa, rfl, _, _, rfl, _, _, rfl, rfl, ?_⟩
      refine ⟨_, rfl, W.p, rfl, W4.me (by decide +kernel), _, rfl, _, rfl, W.p, _, rfl, W4.fg, _, rfl, W.p, rfl, W4.me (by decide +kernel), _, rfl, _, rfl, W, B, pr, _, _, _, pl, m, rfl, W4, O, hpl, hm, fun q5 H5 s5 h5 => ?_⟩
      refine ⟨_, rfl, W, B, pr, _, _, _, pl, 2 ^ B.many, q5, _, _, rfl, L4.same s5, O, hpl, by omega, h5, bnd_le _, by omega, fun H6 k6 L6 => ?_⟩
      rw [hlen]
      obtain ⟨D6, W6⟩ := L6.bi
      refine ⟨(by show 2 ≤ sizeLine; decide), fun q7 n7 => ⟨_, rfl, W.p, _, rfl, (W6.same (same_new n7)).fk, _, rfl, _, rfl, (by show 2 ≤ sizeLine; decide), fun q8 n8 => ?_⟩⟩
      have s7 := same_new (o := .tup [.int ((2 * (As.length + i) : Nat) : Int), .bl false]) n7
      have s8 := same_new (o := .tup [.int (pl : Nat), .int (m : Nat)]) n8
      obtain ⟨H9, dp, k9, L9⟩ := ((L6.same s7).same s8).put (r := pl) (m := m) (e := 2 * (As.length + i)) (x := false) (s8 _ _ upd_same) upd_same (by omega)
      refine ⟨W.pd, H9, rfl, dp, _, _, rfl, (((k4.trans (kp_of s5)).trans k6).trans (kp_of (s7.trans s8))).trans k9, ?_⟩
      rw [hfI, List.range_succ, List.map_append, ← List.append_assoc]
      show LayS T H9 W B pr (_ ++ [mArc B pr r m o i]) _ _
      rw [hmA]
      exact L9
    · rintro σ H4 ⟨x7, x8, rfl, k4, L4⟩
      have htn : tornB (B.d m) (bnd (B.sg r m)) (bnd (B.sg o m)) = false := by rw [c]; cases B.sg r m <;> cases B.sg o m <;> decide
      refine kT htn H4 ((kp_of s03).trans k4) ?_
      have e1 : tieArcs B pr (r, m, o) = (List.range 2).map (mArc B pr r m o) := by unfold tieArcs; simp only [c]; rfl
      have e2 : tiePk B f (r, m, o) As.length = fI f r m o As.length 2 := by unfold tiePk; simp only [c]; rfl
      rw [e1, e2]
      exact L4
  · rw [dec_m] at c
    have c : B.d m ≠ .m := fun z => c (decide_eq_true z)
    refine ⟨_, rfl, _, rfl, W.p, rfl, hW.me (by decide +kernel), _, rfl, _, rfl, W, B, pr, _, _, _, r, m, rfl, hW, O, hr', hm, fun q1 H1 s1 h1 => ?_⟩
    have L1 := hL.same s1
    obtain ⟨D1, W1⟩ := L1.bi
    refine ⟨_, rfl, W.p, rfl, W1.me (by decide +kernel), _, rfl, _, rfl, W, B, pr, _, _, _, o, m, rfl, W1, O, ho, hm, fun q2 H2 s2 h2 => ?_⟩
    refine ⟨B.d m, q1, q2, _, _, rfl, s2 _ _ h1, h2, fun q3 H3 s3 h3 => ?_⟩
    have s03 := (s1.trans s2).trans s3
    have L3 := hL.same s03
    obtain ⟨D3, W3⟩ := L3.bi
    have et : tornB (B.d m) (bnd (B.sg r m)) (bnd (B.sg o m)) = decide ((tieB (B.d m) (bnd (B.sg r m)) (bnd (B.sg o m))).1 > (tieB (B.d m) (bnd (B.sg r m)) (bnd (B.sg o m))).2) := by
      cases hd : B.d m <;> first | rfl | exact (c hd).elim
    refine ⟨_, rfl, _, _, _, _, rfl, rfl, SqT.of h3, rfl, _, rfl, _, _, _, _, rfl, rfl, SqT.of h3, rfl, _, _, rfl, rfl, _, rfl, ite2 (fun z => ?_) (fun z => ?_)⟩
    · exact kF (et.trans z) H3 (kp_of s03)
    · have htn : tornB (B.d m) (bnd (B.sg r m)) (bnd (B.sg o m)) = false := by rw [et]; exact Bool.eq_false_iff.mpr z
      have hle : (tieB (B.d m) (bnd (B.sg r m)) (bnd (B.sg o m))).1 ≤ (tieB (B.d m) (bnd (B.sg r m)) (bnd (B.sg o m))).2 := by
        have : ¬ (tieB (B.d m) (bnd (B.sg r m)) (bnd (B.sg o m))).1 > (tieB (B.d m) (bnd (B.sg r m)) (bnd (B.sg o m))).2 := fun q => z (decide_eq_true q)
        omega
      refine ⟨_, rfl, rfl, _, rfl, ite2 (fun y => ?_) (fun y => ?_)⟩
      · rw [dec_n] at y
        have y := of_decide_eq_true y
        refine ⟨_, rfl, W.p, rfl, W3.me (by decide +kernel), _, rfl, _, rfl, _, rfl, _, rfl, _, rfl, _, _, rfl, rfl, W, B, pr, As, f, n, r, o, q3, _, _, rfl, L3, O, hr', by omega, h3, hle, by omega, fun H7 k37 L7 => ?_⟩
        have k7 : Kp W.S H H7 := (kp_of s03).trans k37
        -- the picks
        obtain ⟨D7, W7⟩ := L7.bi
        refine ⟨_, rfl, (by show 2 ≤ sizeLine; decide), fun q8 n8 => ⟨_, rfl, W.p, _, rfl, (W7.same (same_new n8)).fk, _, rfl, _, rfl, (by show 2 ≤ sizeLine; decide), fun q9 n9 => ?_⟩⟩
        have s8 := same_new (o := .tup [.int (2 * As.length : Nat), .bl false]) n8
        have s9 := same_new (o := .tup [.int (r : Nat), .int (m : Nat)]) n9
        obtain ⟨H10, dp10, k10, L10⟩ := ((L7.same s8).same s9).put (r := r) (m := m) (e := 2 * As.length) (x := false) (s9 _ _ upd_same) upd_same (by omega)
        refine ⟨W.pd, H10, rfl, dp10, ?_⟩
        obtain ⟨D10, W10⟩ := L10.bi
        refine ⟨_, rfl, _, rfl, rfl, (by show 2 ≤ sizeLine; decide), fun q11 n11 => ⟨_, rfl, W.p, _, rfl, (W10.same (same_new n11)).fk, _, rfl, _, rfl, (by show 2 ≤ sizeLine; decide), fun q12 n12 => ?_⟩⟩
        have s11 := same_new (o := .tup [.int (2 * As.length : Nat), .bl (decide (V.str ⟨#[(B.d m).c]⟩ = V.str "a"))]) n11
        have s12 := same_new (o := .tup [.int (o : Nat), .int (m : Nat)]) n12
        obtain ⟨H13, dp13, k13, L13⟩ := ((L10.same s11).same s12).put (r := o) (m := m) (e := 2 * As.length) (x := decide (V.str ⟨#[(B.d m).c]⟩ = V.str "a")) (s12 _ _ upd_same) upd_same (by omega)
        refine ⟨W.pd, H13, rfl, dp13, ?_⟩
        rw [dec_a] at L13
        refine kT htn H13 ((((k7.trans (kp_of (s8.trans s9))).trans k10).trans (kp_of (s11.trans s12))).trans k13) ?_
        have e1 : tieArcs B pr (r, m, o) = [arcL B r o (tieB (B.d m) (bnd (B.sg r m)) (bnd (B.sg o m))) (prAt pr r m + prAt pr o m)] := by unfold tieArcs; simp only [y]
        have e2 : tiePk B f (r, m, o) As.length = (f.put r m (2 * As.length, false)).put o m (2 * As.length, decide (B.d m = .a)) := by unfold tiePk; simp only [y]; rfl
        rw [e1, e2]
        exact L13
      · rw [dec_n] at y
        have y : B.d m = .a := by cases hd : B.d m <;> first | rfl | exact (c hd).elim | exact (y (decide_eq_true hd)).elim
        refine ⟨_, rfl, W.p, rfl, W3.me (by decide +kernel), _, rfl, _, rfl, W.p, _, rfl, W3.fg, (by show 2 ≤ sizeLine; decide), fun q4 n4 => ⟨_, rfl, W, B, pr, As, f, n, o, 2 ^ B.many, q4, (1, 1), _, rfl, L3.same (same_new n4), O, ho, by omega, upd_same, (by decide), by omega, fun H5 k5 L5 => ?_⟩⟩
        have s4 := same_new (o := .tup [.int 1, .int 1]) n4
        have h5 := L3.tup ((kp_of s4).trans k5) h3
        obtain ⟨D5, W5⟩ := L5.bi
        refine ⟨_, rfl, W.p, rfl, W5.me (by decide +kernel), _, rfl, _, rfl, _, rfl, _, rfl, _, rfl, _, _, rfl, rfl, W, B, pr, _, f, n, r, o, q3, _, _, rfl, L5, O, hr', by omega, h5, hle, by rw [len_snoc]; omega, fun H7 k57 L7 => ?_⟩
        rw [len_snoc]
        have k7 : Kp W.S H H7 := ((kp_of (s03.trans s4)).trans k5).trans k57
        -- the picks
        obtain ⟨D7, W7⟩ := L7.bi
        refine ⟨_, rfl, (by show 2 ≤ sizeLine; decide), fun q8 n8 => ⟨_, rfl, W.p, _, rfl, (W7.same (same_new n8)).fk, _, rfl, _, rfl, (by show 2 ≤ sizeLine; decide), fun q9 n9 => ?_⟩⟩
        have s8 := same_new (o := .tup [.int (2 * (As.length + 1) : Nat), .bl false]) n8
        have s9 := same_new (o := .tup [.int (r : Nat), .int (m : Nat)]) n9
        obtain ⟨H10, dp10, k10, L10⟩ := ((L7.same s8).same s9).put (r := r) (m := m) (e := 2 * (As.length + 1)) (x := false) (s9 _ _ upd_same) upd_same (by omega)
        refine ⟨W.pd, H10, rfl, dp10, ?_⟩
        obtain ⟨D10, W10⟩ := L10.bi
        refine ⟨_, rfl, _, rfl, rfl, (by show 2 ≤ sizeLine; decide), fun q11 n11 => ⟨_, rfl, W.p, _, rfl, (W10.same (same_new n11)).fk, _, rfl, _, rfl, (by show 2 ≤ sizeLine; decide), fun q12 n12 => ?_⟩⟩
        have s11 := same_new (o := .tup [.int (2 * (As.length + 1) : Nat), .bl (decide (V.str ⟨#[(B.d m).c]⟩ = V.str "a"))]) n11
        have s12 := same_new (o := .tup [.int (o : Nat), .int (m : Nat)]) n12
        obtain ⟨H13, dp13, k13, L13⟩ := ((L10.same s11).same s12).put (r := o) (m := m) (e := 2 * (As.length + 1)) (x := decide (V.str ⟨#[(B.d m).c]⟩ = V.str "a")) (s12 _ _ upd_same) upd_same (by omega)
        refine ⟨W.pd, H13, rfl, dp13, ?_⟩
        rw [dec_a] at L13
        refine kT htn H13 ((((k7.trans (kp_of (s8.trans s9))).trans k10).trans (kp_of (s11.trans s12))).trans k13) ?_
        have e1 : tieArcs B pr (r, m, o) = [arcL B o (2 ^ B.many) (1, 1) (prAt pr o m), arcL B r o (tieB (B.d m) (bnd (B.sg r m)) (bnd (B.sg o m))) (prAt pr r m - prAt pr o m)] := by unfold tieArcs; simp only [y]
        have e2 : tiePk B f (r, m, o) As.length = (f.put r m (2 * (As.length + 1), false)).put o m (2 * (As.length + 1), decide (B.d m = .a)) := by unfold tiePk; simp only [y]; rfl
        rw [e1, e2]
        rw [List.append_assoc] at L13
        exact L13
end
end K31

set_option autoImplicit true
set_option Elab.async false
set_option autoImplicit false
set_option linter.all false
set_option maxRecDepth 100000
set_option maxHeartbeats 4000000
namespace K31
open PySem PySem.Spec PyProof.Rows L2
/-! the class Bill: solve, is_picked -/
structure SolA {K : PySem.W.Frag} {mg : Str → Option Value} (T : Fx K mg) (H : Hp) (W : BA) (B : Bk) (pr : List (List Int)) (As : List Arc) (f : Pk) (D : CD) (n : Nat) : Prop where
  bi : BiAt T H W B pr D f n
  li : LInv B (ties B.many) As f
  iv : Inv (netA (2 ^ B.many + 1) (withCnt B As (2 ^ B.many)) D.arcs) (losA (withCnt B As (2 ^ B.many))) (capA (withCnt B As (2 ^ B.many))) D.room D.over D.lifts
  lw : D.lows = losA (withCnt B As (2 ^ B.many))
  ov : ∀ x ∈ D.over, x ≤ 0
def alA (B : Bk) (As : List Arc) (D : CD) : Nat → Int := amt (losA (withCnt B As (2 ^ B.many))) D.room
def xR (B : Bk) (As : List Arc) (f : Pk) (D : CD) (r m : Nat) : Bool := decide (xA f (alA B As D) r m = 1)
section
variable {K : PySem.W.Frag} {mg : Str → Option Value} {T : Fx K mg} {H H' : Hp} {W : BA} {B : Bk} {pr : List (List Int)} {As : List Arc} {f : Pk} {D : CD} {n : Nat}
theorem SolA.same (h : SolA T H W B pr As f D n) (k : Same H H') : SolA T H' W B pr As f D n := ⟨h.bi.same k, h.li, h.iv, h.lw, h.ov⟩
theorem SolA.bounded (h : SolA T H W B pr As f D n) : Bounded (withCnt B As (2 ^ B.many)) (alA B As D) := fun k hk => amt_bounds h.iv hk
theorem SolA.keeps (h : SolA T H W B pr As f D n) (O : B.Ok) : KeepsT B (xR B As f D) :=
  keeps_of O h.li h.bounded fun v hv => flow_zero h.iv h.ov (by omega)
end
section
variable {P : Program} {w : World} {K : PySem.W.Frag} {mg : Str → Option Value} {base : Heap}
def spBiS (T : Fx K mg) : Sp := fun vs H Q _ => ∃ (W : BA) (B : Bk) (pr : List (List Int)) (f : Pk), vs = [.ref W.p] ∧ LayS T H W B pr [] f 0 ∧ B.Ok ∧ PrOk B pr ∧ (∀ H' As f' D n, Kp W.S H H' → SolA T H' W B pr As f' D n → Q (.bl true) H') ∧ ∀ H', Kp W.S H H' → Q (.bl false) H'
theorem sc_bill_solve : FnScope ["self", "row", "member", "other", "count"] ["self"] (defScope s_bill_solve) := ⟨rfl, rfl, rfl, by decide +kernel, rfl, by decide +kernel, by decide +kernel⟩
theorem c_bill_solve (T : Fx K mg) (F : MetAt K T.cBi "solve" "Bill.solve" s_bill_solve) (c_own_ties : Cal P w K mg base CX0 3 "own_ties" ["book"] (spTies K)) (c_bill_lay_tie : Met P w K mg base CX0 3 T.cBi "lay_tie" ["self", "row", "member", "other"] (spBiT T)) (c_costs_add : Met P w K mg base CX0 1 T.cCo "add" ["self", "start", "goal", "bounds", "price"] (spAdd T)) (c_costs_solve : Met P w K mg base CX0 5 T.cCo "solve" ["self"] (spSolve T)) : Met P w K mg base CX0 6 T.cBi "solve" ["self"] (spBiS T) := by
  refine met_of F sc_bill_solve (fun _ _ _ _ _ _ _ us hl => match us, hl with | [_], _ => rfl) (fun vs H Q E h => ?_) (fun f cdv A outer s H vs Q E hr h => ?_)
  · obtain ⟨W, B, pr, f0, rfl, hL, O, OP, kT, kF⟩ := h
    rfl
  obtain ⟨W, B, pr, f0, rfl, hL, O, OP, kT, kF⟩ := h
  have hu := hu_of hr
  have nd := sc_bill_solve.nd
  refine ⟨_, (pss_cons (ps_for (passes_of rfl) rfl (pi_list (pe_k c_own_ties hr (by decide) pass0 (pa_cons (pe_f (pv 0)) pa_nil))) (pg_tup rfl (pgs_cons (pg_name (i := 1) nd rfl (Or.inl rfl)) (pgs_cons (pg_name (i := 2) nd rfl (Or.inl rfl)) (pgs_cons (pg_name (i := 3) nd rfl (Or.inl rfl)) pgs_nil)))) (pss_one (ps_if (pt_not (pt_val (pe_m c_bill_lay_tie hr (by decide) pass0 (pv 0) (pa_cons (pv 1) (pa_cons (pv 2) (pa_cons (pv 3) pa_nil)))))) (pss_one (ps_ret pe_bl)) pss_nil)))
  (pss_cons (ps_for (passes_of rfl) rfl (pi_enumT rfl T.enumerate (pa_cons (pe_f (pe_f (pv 0))) pa_nil)) (pg_tup rfl (pgs_cons (pg_name (i := 1) nd rfl (Or.inl rfl)) (pgs_cons (pg_name (i := 4) nd rfl (Or.inl rfl)) pgs_nil))) (pss_one (ps_if (pt_val (pe_ix ix_list (pe_f (pv 0)) (pv 1) (fun _ _ => rfl))) (pss_one (ps_expr (pe_m c_costs_add hr (by decide) pass0 (pe_f (pv 0)) (pa_cons (pe_f (pv 0)) (pa_cons (pv 1) (pa_cons (pv 4) (pa_cons pe_int pa_nil))))))) (pss_one (ps_expr (pe_m c_costs_add hr (by decide) pass0 (pe_f (pv 0)) (pa_cons (pv 1) (pa_cons (pe_f (pv 0)) (pa_cons (pv 4) (pa_cons pe_int pa_nil))))))))))
  (pss_one (ps_ret (pe_m0 c_costs_solve hr (by decide) pass0 (pe_f (pv 0))))))), ?_⟩
  obtain ⟨D0, hW⟩ := hL.bi
  have h16 := two_le O
  have h32 := ties_len O.m1 O.m4
  refine ⟨_, rfl, W.p, _, rfl, hW.fb, W.b, B, rfl, hW.bk.mono off_le, O, fun vt H1 s1 t1 fr => ?_⟩
  obtain ⟨la, ls, rfl, hla, rla⟩ := t1.lst
  have hlaS : la ∉ W.S := hW.not_new (fr la rfl)
  have L1 := hL.same s1
  have hll : ls.length = (ties B.many).length := by rw [rla.length, List.length_map]
  refine ⟨la, rfl, ⟨_, SqL.of hla⟩, ?_⟩
  refine for_it walk_list (fun i σ H2 => ∃ x1 x2 x3 x4 As f, σ = [some (.ref W.p), x1, x2, x3, x4] ∧ Kp W.S H1 H2 ∧ LayS T H2 W B pr As f (2 * i) ∧ LInv B ((ties B.many).take i) As f) ⟨none, none, none, none, [], f0, rfl, Kp.refl _ _, L1, linv_nil B f0⟩
    (fun i σ H2 _ p => by obtain ⟨_, _, _, _, _, _, _, k2, _⟩ := p; exact SqL.of (k2.get hla hlaS)) ?_ ?_
  · rintro i y σ _ H2 hi ⟨x1, x2, x3, x4, As, f, rfl, k2, L2, I2⟩ ⟨rfl, hy⟩
    rw [hll] at hi
    obtain ⟨d, hd, td⟩ := rla.at hy
    rw [List.getElem?_map, List.getElem?_eq_getElem hi] at hd
    obtain rfl := Option.some.inj hd
    have hmem := List.getElem_mem hi
    have htk : (ties B.many).take (i + 1) = (ties B.many).take i ++ [(ties B.many)[i]] := by rw [List.take_succ, List.getElem?_eq_getElem hi]; rfl
    have hni : (ties B.many)[i] ∉ (ties B.many).take i := fun z => by
      obtain ⟨j, hj⟩ := List.getElem?_of_mem z
      have hj2 := (List.getElem?_eq_some_iff.mp hj).1
      rw [List.length_take] at hj2
      rw [List.getElem?_take, if_pos (by omega)] at hj
      have := nodup_ix (ties_nodup O.m1 O.m4) hj (List.getElem?_eq_getElem hi)
      omega
    have hlen := I2.len
    have htl : ((ties B.many).take i).length = i := by rw [List.length_take]; omega
    rw [htl] at hlen
    generalize (ties B.many)[i] = t at *
    obtain ⟨r, m, o⟩ := t
    obtain ⟨tie, rfl, htie⟩ := tie_vs td
    have htie2 := L1.tup k2 htie
    obtain ⟨D2, W2⟩ := L2.bi
    refine ⟨tie, _, rfl, SqT.of htie2, rfl, _, _, rfl, _, _, rfl, _, _, rfl, rfl, ?_⟩
    refine ⟨_, rfl, W.p, rfl, W2.me (by decide +kernel), _, rfl, _, rfl, _, rfl, W, B, pr, As, f, 2 * i, r, m, o, rfl, L2, O, OP, hmem, by omega, by omega, fun _ H3 k3 => ?_, fun hf H3 k3 L3 => ?_⟩
    · exact ⟨_, rfl, iteT (kF H3 (((kp_of s1).trans k2).trans k3))⟩
    · refine ⟨_, rfl, iteF ⟨_, _, _, _, _, _, rfl, k2.trans k3, L3, ?_⟩⟩
      rw [htk]
      exact linv_snoc O I2 (fun u hu => List.mem_of_mem_take hu) hmem hni hf
  · rintro σ H2 ⟨x1, x2, x3, x4, As, f, rfl, k2, L2, I2⟩
    rw [hll, List.take_length] at I2
    have hlen := I2.len
    obtain ⟨D2, W2⟩ := L2.bi
    have hB := W2.bk.mono off_le
    obtain ⟨vc, fc, tc⟩ := hB.counts
    obtain ⟨ac, cs, rfl, hc, rc⟩ := tc.tup
    have hcl : cs.length = 2 ^ B.many := by rw [rc.length, List.length_map, O.lc]
    refine ⟨_, rfl, W.p, _, rfl, W2.fb, W.b, _, rfl, fc, ac, _, rfl, SqT.of hc, ?_⟩
    refine for_it walk_enumT (fun j σ H3 => ∃ x1 x4, σ = [some (.ref W.p), x1, x2, x3, x4] ∧ Kp W.S H2 H3 ∧ LayS T H3 W B pr (withCnt B As j) f (2 * ls.length)) ⟨_, _, rfl, Kp.refl _ _, by unfold withCnt; simpa using L2⟩
      (fun j σ H3 _ p => by obtain ⟨_, _, _, k3, _⟩ := p; exact SqT.of (L2.tup k3 hc)) ?_ ?_
    · rintro j v σ H3 _ hj ⟨y1, y4, rfl, k3, L3⟩ ⟨U, x', y', rfl, hU, rfl, hx, hy⟩
      rw [hcl] at hj
      obtain rfl := Option.some.inj hx
      obtain ⟨d, hd, td⟩ := rc.at hy
      have hj' : j < B.ct.length := by rw [O.lc]; exact hj
      rw [List.getElem?_map, some_of_lt (0, 0) hj'] at hd
      obtain rfl := Option.some.inj hd
      obtain ⟨c, c1, c2, rfl, hcc, t1, t2⟩ := two_vs td
      obtain rfl := t1.int
      obtain rfl := t2.int
      have sU : Same H3 (upd H3 U (.tup [.int (j : Nat), .ref c])) := same_new hU
      have hcc3 := sU _ _ (L2.tup k3 hcc)
      have L4 := L3.same sU
      have k4 := k3.trans (kp_of (S := W.S) sU)
      have hcc2 := O.cc _ (getD_mem (d := ((0 : Int), (0 : Int))) hj')
      refine ⟨U, _, rfl, SqT.of upd_same, rfl, _, _, rfl, _, _, rfl, rfl, ?_⟩
      generalize upd H3 U (.tup [.int (j : Nat), .ref c]) = H4 at *
      obtain ⟨arcs, over, Ly, W4, S4⟩ := L4
      have hC := W4.co
      have hla : (layD (2 ^ B.many) (withCnt B As j) arcs over).arcs.length = 2 ^ B.many + 1 := Ly.la
      have hlo : (layD (2 ^ B.many) (withCnt B As j) arcs over).over.length = 2 ^ B.many + 1 := Ly.lo
      have hwl := withCnt_len B As j
      have key : ∀ H5, Kp W.S H4 H5 → LayS T H5 W B pr (withCnt B As j ++ [cntArc B j]) f (2 * ls.length) → ∃ z1 z4, [some (V.ref W.p), some (.int (j : Nat)), x2, x3, some (.ref c)] = [some (.ref W.p), z1, x2, x3, z4] ∧ Kp W.S H2 H5 ∧ LayS T H5 W B pr (withCnt B As (j + 1)) f (2 * ls.length) := fun H5 k5 L5 => ⟨_, _, rfl, k4.trans k5, by rw [withCnt_succ]; exact L5⟩
      refine ⟨_, rfl, W.p, _, rfl, W4.fe, _, rfl, _, _, _, _, rfl, rfl, SqL.of (off_le _ _ W4.ev), W4.gev hj, _, rfl, ite2 (fun z => ?_) (fun z => ?_)⟩
      · refine ⟨_, rfl, W.p, _, rfl, W4.fc, W.A.c, rfl, hC.me (by decide +kernel), _, rfl, W.p, _, rfl, W4.fg, _, rfl, _, rfl, W.A, _, 2 ^ B.many, j, _, c, B.ct.getD j (0, 0), 0, rfl, hC, S4, by omega, by omega, by omega, by omega, by omega, hcc3, fun H5 Cs => ?_⟩
        refine key H5 (W4.kpS Cs.2) ?_
        unfold cntArc
        rw [if_pos z]
        exact lay_more Ly W4 S4 (by omega) (by omega) hcc2.2.1 Cs
      · refine ⟨_, rfl, W.p, _, rfl, W4.fc, W.A.c, rfl, hC.me (by decide +kernel), _, rfl, _, rfl, W.p, _, rfl, W4.fg, _, rfl, W.A, _, j, 2 ^ B.many, _, c, B.ct.getD j (0, 0), 0, rfl, hC, S4, by omega, by omega, by omega, by omega, by omega, hcc3, fun H5 Cs => ?_⟩
        refine key H5 (W4.kpS Cs.2) ?_
        unfold cntArc
        rw [if_neg z]
        exact lay_more Ly W4 S4 (by omega) (by omega) hcc2.2.1 Cs
    · rintro σ H3 ⟨y1, y4, rfl, k3, L3⟩
      rw [hcl] at L3
      obtain ⟨arcs, over, Ly, W3, S3⟩ := L3
      have hC := W3.co
      refine ⟨_, rfl, W.p, _, rfl, W3.fc, W.A.c, rfl, hC.me (by decide +kernel), W.A, _, 2 ^ B.many + 1, (withCnt B As (2 ^ B.many)).length, capA (withCnt B As (2 ^ B.many)), rfl, ⟨hC, net_ok Ly, lay_inv Ly⟩, by omega, fun H4 D4 Cs N4 lk hle => ?_, fun H4 k4 => ?_⟩
      · refine kT H4 As f D4 _ ((((kp_of s1).trans k2).trans k3).trans (W3.kpS Cs.2)) ⟨W3.step Cs, I2, ?_, lk.2.2.1, hle⟩
        have e : D4.net (2 ^ B.many + 1) (withCnt B As (2 ^ B.many)).length = netA (2 ^ B.many + 1) (withCnt B As (2 ^ B.many)) D4.arcs := by
          unfold CD.net netA
          rw [lk.1, lk.2.1]; rfl
        have := N4.inv
        rw [e, lk.2.2.1] at this
        exact this
      · exact kF H4 ((((kp_of s1).trans k2).trans k3).trans (W3.kpS k4))
def spPick (T : Fx K mg) : Sp := fun vs H Q _ => ∃ (W : BA) (B : Bk) (pr : List (List Int)) (As : List Arc) (f : Pk) (D : CD) (n r m : Nat), vs = [.ref W.p, .int (r : Nat), .int (m : Nat)] ∧ SolA T H W B pr As f D n ∧ B.Ok ∧ r < 2 ^ B.many ∧ m < B.many ∧ ∀ H', Same H H' → Q (.bl (xR B As f D r m)) H'
theorem SolA.at_ {K : PySem.W.Frag} {mg : Str → Option Value} {T : Fx K mg} {H : Hp} {W : BA} {B : Bk} {pr : List (List Int)} {As : List Arc} {f : Pk} {D : CD} {n : Nat} (h : SolA T H W B pr As f D n) (O : B.Ok) {r m : Nat} (hr : r < 2 ^ B.many) (hm : m < B.many) :
    (∃ k b, f r m = some (2 * k, b) ∧ k < As.length) ∧ (xA f (alA B As D) r m = 0 ∨ xA f (alA B As D) r m = 1) := by
  obtain ⟨t, ht, hc, rfl⟩ := ties_all O.m1 O.m4 r hr m hm
  obtain ⟨p1, p2⟩ := h.li.pk t ht
  obtain ⟨q1, q2, _⟩ := h.li.fill _ (bounded_left h.bounded) t ht
  rcases hc with rfl | rfl
  · exact ⟨p1, q1⟩
  · exact ⟨p2, q2⟩
theorem sc_bill_is_picked : FnScope ["self", "row", "member", "number", "is_other"] ["self", "row", "member"] (defScope s_bill_is_picked) := ⟨rfl, rfl, rfl, by decide +kernel, rfl, by decide +kernel, by decide +kernel⟩
theorem c_bill_is_picked (T : Fx K mg) (F : MetAt K T.cBi "is_picked" "Bill.is_picked" s_bill_is_picked) (c_costs_amount : Met P w K mg base CX0 1 T.cCo "amount" ["self", "number"] (spAmount T)) : Met P w K mg base CX0 2 T.cBi "is_picked" ["self", "row", "member"] (spPick T) := by
  refine met_of F sc_bill_is_picked (fun _ _ _ _ _ _ _ us hl => match us, hl with | [_, _, _], _ => rfl) (fun vs H Q E h => ?_) (fun f cdv A outer s H vs Q E hr h => ?_)
  · obtain ⟨W, B, pr, As, f, D, n, r, m, rfl, hS, O, hr', hm, k⟩ := h
    rfl
  obtain ⟨W, B, pr, As, f, D, n, r, m, rfl, hS, O, hr', hm, k⟩ := h
  have hu := hu_of hr
  have nd := sc_bill_is_picked.nd
  refine ⟨_, (pss_cons (ps_asg (pe_dget hu (pe_f (pv 0)) (pe_tup (pa_cons (pv 1) (pa_cons (pv 2) pa_nil))) (fun _ _ => rfl)) (pg_tup rfl (pgs_cons (pg_name (i := 3) nd rfl (Or.inl rfl)) (pgs_cons (pg_name (i := 4) nd rfl (Or.inl rfl)) pgs_nil))))
  (pss_one (ps_ret (pe_cmpR op_ne (pe_cmpR op_eq (pe_m c_costs_amount hr (by decide) pass0 (pe_f (pv 0)) (pa_cons (pv 3) pa_nil)) pe_int (nomark _)) (pv 4) (nomark _))))), ?_⟩
  have hW := hS.bi
  obtain ⟨⟨kk, b, hf, hk⟩, h01⟩ := hS.at_ O hr' hm
  obtain ⟨kvs, e1, _, e3⟩ := hW.pk
  obtain ⟨a, ea, hat⟩ := e3 r m _ _ hf
  refine ⟨_, rfl, W.p, _, rfl, hW.fk, _, rfl, _, rfl, (by show 2 ≤ sizeLine; decide), fun q hq => ?_⟩
  have sq := same_new (o := .tup [.int (r : Nat), .int (m : Nat)]) hq
  have g := DGet.t (k := [(.inl ((r : Nat) : Int) : Key), .inl ((m : Nat) : Int)]) (sq _ _ e1) (b := q) upd_same
  rw [ea] at g
  have W2 := hW.same sq
  refine ⟨W.pd, _, rfl, g, a, _, rfl, SqT.of (sq _ _ (off_le _ _ hat)), rfl, _, _, rfl, _, _, rfl, rfl, ?_⟩
  have hLl := withCnt_len B As (2 ^ B.many)
  have hll : D.lows.length = (withCnt B As (2 ^ B.many)).length := by rw [hS.lw]; exact List.length_map _
  have hrl : D.room.length = 2 * (withCnt B As (2 ^ B.many)).length := hS.iv.lr
  refine ⟨_, rfl, W.p, _, rfl, W2.fc, W.A.c, rfl, W2.co.me (by decide +kernel), _, rfl, W.A, D, 2 * kk, rfl, W2.co, by omega, by omega, rfl, _, rfl, rfl, ?_⟩
  have hx : D.lows.getD (2 * kk / 2) 0 + D.room.getD (2 * kk + 1) 0 = alA B As D kk := by
    unfold alA amt
    rw [hS.lw, show 2 * kk / 2 = kk by omega]
  rw [hx]
  have hxA : xA f (alA B As D) r m = if b then 1 - alA B As D kk else alA B As D kk := by
    unfold xA
    rw [hf]
    show (if b then 1 - alA B As D (2 * kk / 2) else alA B As D (2 * kk / 2)) = _
    rw [show 2 * kk / 2 = kk by omega]
  have := k _ sq
  unfold xR at this
  rw [hxA] at this h01
  generalize alA B As D kk = z at *
  have e : (!decide (V.bl (decide (V.int z = V.int 1)) = V.bl b)) = decide ((if b = true then 1 - z else z) = 1) := by
    rw [dec_bl, dec_int]
    cases b
    · simp only [Bool.false_eq_true, if_false] at h01 ⊢
      rcases h01 with rfl | rfl <;> decide
    · simp only [if_true] at h01 ⊢
      have hz : z = 1 ∨ z = 0 := by omega
      rcases hz with rfl | rfl <;> decide
  show Q _ _
  rw [e]
  exact this
end
end K31

set_option autoImplicit true
set_option Elab.async false
set_option autoImplicit false
set_option linter.all false
set_option maxRecDepth 100000
set_option maxHeartbeats 4000000
namespace K31
open PySem PySem.Spec PyProof.Rows L2
/-! the class Bill: rule, heights, __init__ -/
def rowR (B : Bk) (x : Nat → Nat → Bool) (r j : Nat) : List Nat := (List.range j).filter fun m => x r m
theorem rowR_succ (B : Bk) (x : Nat → Nat → Bool) (r j : Nat) : rowR B x r (j + 1) = rowR B x r j ++ if x r j then [j] else [] := by
  unfold rowR
  rw [List.range_succ, List.filter_append]
  congr 1
  cases h : x r j <;> simp [h]
theorem rowR_len (B : Bk) (x : Nat → Nat → Bool) (r j : Nat) : (rowR B x r j).length ≤ j := by
  have := List.length_filter_le (fun m => x r m) (List.range j)
  unfold rowR; simpa using this
def ruleR (B : Bk) (x : Nat → Nat → Bool) : List (List Nat) := (List.range (2 ^ B.many)).map fun r => rowR B x r B.many
theorem ruleR_ok (B : Bk) (x : Nat → Nat → Bool) : RuleOk B (ruleR B x) := by
  refine ⟨by unfold ruleR; simp, fun l hl => ?_⟩
  obtain ⟨r, _, rfl⟩ := List.mem_map.mp hl
  exact ⟨rowR_len B x r _, fun y hy => by
    have := (List.mem_filter.mp hy).1
    simpa using this⟩
theorem rowR_sum (B : Bk) (pr : List (List Int)) (x : Nat → Nat → Bool) (r : Nat) : ∀ j, (rowPr pr r (rowR B x r j)).sum = sumN j fun m => b2 (x r m) * prAt pr r m
  | 0 => rfl
  | j + 1 => by
    rw [rowR_succ]
    have h : rowPr pr r (rowR B x r j ++ if x r j then [j] else []) = rowPr pr r (rowR B x r j) ++ rowPr pr r (if x r j then [j] else []) := by unfold rowPr; rw [List.map_append]
    rw [h, List.sum_append, rowR_sum B pr x r j]
    show _ = sumN j _ + b2 (x r j) * prAt pr r j
    congr 1
    cases x r j <;> simp [rowPr, b2]
theorem ruleR_price (B : Bk) (pr : List (List Int)) (x : Nat → Nat → Bool) : priceL pr (ruleR B x) = priceT B pr x := by
  unfold priceL priceT
  have hl : (ruleR B x).length = 2 ^ B.many := by unfold ruleR; simp
  rw [hl]
  refine sumN_congr fun r hr => ?_
  have e : (ruleR B x).getD r [] = rowR B x r B.many := getD_of_some (by unfold ruleR; rw [List.getElem?_map, List.getElem?_range hr]; rfl)
  rw [e, rowR_sum]
section
variable {P : Program} {w : World} {K : PySem.W.Frag} {mg : Str → Option Value} {base : Heap}
def spRule (T : Fx K mg) : Sp := fun vs H Q _ => ∃ (W : BA) (B : Bk) (pr : List (List Int)) (As : List Arc) (f : Pk) (D : CD) (n : Nat), vs = [.ref W.p] ∧ SolA T H W B pr As f D n ∧ B.Ok ∧ ∀ v H', Same H H' → Td H' (ruleD (ruleR B (xR B As f D))) v → Q v H'
theorem sc_bill_rule : FnScope ["self", "found", "row", "member"] ["self"] (defScope s_bill_rule) := ⟨rfl, rfl, rfl, by decide +kernel, rfl, by decide +kernel, by decide +kernel⟩
theorem c_bill_rule (T : Fx K mg) (F : MetAt K T.cBi "rule" "Bill.rule" s_bill_rule) (c_bill_is_picked : Met P w K mg base CX0 2 T.cBi "is_picked" ["self", "row", "member"] (spPick T)) : Met P w K mg base CX0 3 T.cBi "rule" ["self"] (spRule T) := by
  refine met_of F sc_bill_rule (fun _ _ _ _ _ _ _ us hl => match us, hl with | [_], _ => rfl) (fun vs H Q E h => ?_) (fun f cdv A outer s H vs Q E hr h => ?_)
  · obtain ⟨W, B, pr, As, f, D, n, rfl, hS, O, k⟩ := h
    rfl
  obtain ⟨W, B, pr, As, f, D, n, rfl, hS, O, k⟩ := h
  have hu := hu_of hr
  have nd := sc_bill_rule.nd
  refine ⟨_, (pss_cons (ps_set (i := 1) nd rfl (Or.inl rfl) (pe_lst pa_nil))
  (pss_cons (ps_for (passes_of rfl) rfl (pi_range1 rfl T.range (pa_cons (pe_f (pv 0)) pa_nil)) (pg_name (i := 2) nd rfl (Or.inr rfl)) (pss_one (ps_expr (pe_bm PySem.F.plainAttrs_list PySem.F.slot_list_append PySem.F.type_list_append mt_append (pv 1) (pa_cons (pe_callTy call_tuple_of rfl T.tuple boot_tuple (pa_cons (pe_lc (own := [("member", 3)]) rfl nd (pi_range1 rfl T.range (pa_cons (pe_f (pe_f (pv 0))) pa_nil)) (blkOk_by (by rfl)) (fun _ _ _ _ _ => (pg_name (i := 3) nd rfl (Or.inl rfl))) (fun _ _ _ _ _ => (pts_one (pt_val (pe_m c_bill_is_picked hr (by decide) pass0 (pv 0) (pa_cons (pv 2) (pa_cons (pv 3) pa_nil)))))) (fun _ _ _ _ _ => (pv 3))) pa_nil)) pa_nil)))))
  (pss_one (ps_ret (pe_callTy call_tuple_of rfl T.tuple boot_tuple (pa_cons (pv 1) pa_nil)))))), ?_⟩
  have hm4 := O.m4
  have h16 := two_le O
  have sz := sizeLine_eq
  generalize hxR : xR B As f D = x at *
  refine ⟨Nat.zero_le _, fun fl hfl => ?_⟩
  have sf : Same H (off [fl] (upd H fl (.lst []))) := by rw [off_upd, off_none hfl]; exact Same.refl _
  have S1 := hS.same (same_new (o := .lst []) hfl)
  refine ⟨_, rfl, W.p, _, rfl, S1.bi.fg, _, rfl, (rng_ok (by omega)).1, (rng_ok (by omega)).2, ?_⟩
  refine for_it walk_r (fun i σ H1 => ∃ x2 x3, σ = [some (.ref W.p), some (.ref fl), x2, x3] ∧ Same H (off [fl] H1) ∧ ∃ vs, H1 fl = some (.lst vs) ∧ Tds (off [fl] H1) ((List.range i).map fun r => K31.D.t ((rowR B x r B.many).map fun m => .i (m : Nat))) vs) ⟨none, none, rfl, sf, [], upd_same, .nil⟩ (fun _ _ _ _ _ => trivial) ?_ ?_
  · rintro i _ σ _ H1 hi ⟨x2, x3, rfl, s1, vs, e1, t1⟩ ⟨rfl, rfl⟩
    have hi : i < 2 ^ B.many := hi
    have hvl : vs.length = i := by rw [t1.length]; simp
    have S2 := (hS.same s1).same off_le
    have hB := S2.bi.bk.mono off_le
    refine ⟨_, rfl, .inl ⟨rfl, _, .inl (.inl e1)⟩, ?_⟩
    refine ⟨_, rfl, W.p, _, rfl, S2.bi.fb, W.b, _, rfl, hB.many, _, rfl, (rng_ok (by omega)).1, (rng_ok (by omega)).2, fun q hq => lc_by walk_r (fun j acc H3 => Same H1 H3 ∧ acc = nvs (rowR B x i j)) hq ⟨Same.refl _, rfl⟩ (fun _ _ _ _ => trivial) ?_ ?_⟩
    · rintro j acc _ _ H3 hj hle ⟨sm, rfl⟩ hq3 ⟨rfl, rfl⟩
      have hj : j < B.many := hj
      have S3 := S2.same (sm.trans off_le)
      refine ⟨rfl, _, rfl, W.p, rfl, S3.bi.me (by decide +kernel), _, rfl, _, rfl, W, B, pr, As, f, D, n, i, j, rfl, S3, O, hi, hj, fun H4 s4 => ⟨_, rfl, ?_⟩⟩
      rw [hxR]
      have e := rowR_succ B x i j
      refine ite2 (fun c => ⟨_, rfl, ?_⟩) (fun c => ?_)
      · refine LcS.add (s4 _ _ hq3) hle (by omega) ⟨sm.trans (kp_of s4), ?_⟩
        rw [e, if_pos c, ← nvs_snoc]
      · refine LcS.skip (s4 _ _ hq3) hle ⟨sm.trans (kp_of s4), ?_⟩
        rw [e, if_neg c, List.append_nil]
    · rintro acc H3 hq3 ⟨sm, rfl⟩
      refine ⟨q, _, rfl, .inl ⟨SqL.of hq3, fun l hl => ?_⟩⟩
      have s13 : Same H1 H3 := sm.trans off_le
      have s13' := s13.trans (same_new (o := .tup (nvs (rowR B x i B.many))) hl)
      have hfl3 := s13' _ _ e1
      have hlf : fl ≠ l := ne_of_none (s13 _ _ e1) hl
      refine ⟨fl, vs, _, rfl, rfl, hfl3, by omega, _, _, rfl, ?_, _, upd_same, ?_⟩
      · rw [off_upd]; exact s1.trans (kp_of s13')
      · rw [off_upd, List.range_succ, List.map_append]
        refine (t1.mono (kp_of s13')).snoc (.t (off_of upd_same (by simpa using hlf.symm)) ?_)
        have : (rowR B x i B.many).map (fun m => K31.D.i ((m : Nat) : Int)) = ((rowR B x i B.many).map fun m => ((m : Nat) : Int)).map K31.D.i := by rw [List.map_map]; rfl
        rw [this]
        have h2 : nvs (rowR B x i B.many) = ((rowR B x i B.many).map fun m => ((m : Nat) : Int)).map V.int := by unfold nvs; rw [List.map_map]; rfl
        rw [h2]
        exact Tds.of_ints _
  · rintro σ H1 ⟨x2, x3, rfl, s1, vs, e1, t1⟩
    refine ⟨_, rfl, fl, vs, rfl, .inl ⟨SqL.of e1, fun l hl => ?_⟩⟩
    refine k _ _ ((s1.trans off_le).trans (same_new hl)) (.t upd_same ?_)
    have := (t1.mono off_le).mono (same_new (o := .tup vs) hl)
    unfold ruleR
    rw [List.map_map]
    exact this
def spHts (T : Fx K mg) : Sp := fun vs H Q _ => ∃ (W : BA) (B : Bk) (pr : List (List Int)) (As : List Arc) (f : Pk) (D : CD) (n : Nat), vs = [.ref W.p] ∧ SolA T H W B pr As f D n ∧ B.Ok ∧ ∀ (a : Addr) (ns : List Int) H', Same H H' → H' a = some (.tup (ns.map V.int)) → ns.length = 2 ^ B.many → Q (.ref a) H'
theorem sc_bill_heights : FnScope ["self", "base", "found", "row", "lift"] ["self"] (defScope s_bill_heights) := ⟨rfl, rfl, rfl, by decide +kernel, rfl, by decide +kernel, by decide +kernel⟩
theorem c_bill_heights (T : Fx K mg) (F : MetAt K T.cBi "heights" "Bill.heights" s_bill_heights) : Met P w K mg base CX0 1 T.cBi "heights" ["self"] (spHts T) := by
  refine met_of F sc_bill_heights (fun _ _ _ _ _ _ _ us hl => match us, hl with | [_], _ => rfl) (fun vs H Q E h => ?_) (fun f cdv A outer s H vs Q E hr h => ?_)
  · obtain ⟨W, B, pr, As, f, D, n, rfl, hS, O, k⟩ := h
    rfl
  obtain ⟨W, B, pr, As, f, D, n, rfl, hS, O, k⟩ := h
  have hu := hu_of hr
  have nd := sc_bill_heights.nd
  refine ⟨_, (pss_cons (ps_set (i := 1) nd rfl (Or.inl rfl) (pe_ix ix_list (pe_f (pe_f (pv 0))) (pe_f (pv 0)) (fun _ _ => rfl)))
  (pss_cons (ps_set (i := 2) nd rfl (Or.inl rfl) (pe_lst pa_nil))
  (pss_cons (ps_for (passes_of rfl) rfl (pi_range1 rfl T.range (pa_cons (pe_f (pv 0)) pa_nil)) (pg_name (i := 3) nd rfl (Or.inl rfl)) (pss_cons (ps_set (i := 4) nd rfl (Or.inl rfl) (pe_ix ix_list (pe_f (pe_f (pv 0))) (pv 3) (fun _ _ => rfl)))
  (pss_one (ps_expr (pe_bm PySem.F.plainAttrs_list PySem.F.slot_list_append PySem.F.type_list_append mt_append (pv 2) (pa_cons (pe_mid (pe_ifExp (pt_val (pe_ix ix_list (pe_f (pv 0)) (pv 3) (fun _ _ => rfl))) (pe_op op_sub (pv 1) (pv 4)) (pe_op op_sub (pv 4) (pv 1)))) pa_nil))))))
  (pss_one (ps_ret (pe_callTy call_tuple_of rfl T.tuple boot_tuple (pa_cons (pv 2) pa_nil))))))), ?_⟩
  have h16 := two_le O
  have sz := sizeLine_eq
  have hW := hS.bi
  have hll : D.lifts.length = 2 ^ B.many + 1 := hS.iv.ll
  refine ⟨_, rfl, W.p, _, rfl, hW.fc, W.A.c, _, rfl, hW.co.ff, _, rfl, W.p, _, rfl, hW.fg, _, _, _, _, rfl, rfl, SqL.of hW.co.gf, atI_nat (ints_at (by omega)), ?_⟩
  refine ⟨Nat.zero_le _, fun fl hfl => ?_⟩
  have S1 := hS.same (same_new (o := .lst []) hfl)
  refine ⟨_, rfl, W.p, _, rfl, S1.bi.fg, _, rfl, (rng_ok (by omega)).1, (rng_ok (by omega)).2, ?_⟩
  refine for_it walk_r (fun i σ H1 => ∃ x3 x4, σ = [some (.ref W.p), some (.int (D.lifts.getD (2 ^ B.many) 0)), some (.ref fl), x3, x4] ∧ Same H (off [fl] H1) ∧ ∃ ns : List Int, H1 fl = some (.lst (ns.map V.int)) ∧ ns.length = i) ⟨none, none, rfl, by rw [off_upd, off_none hfl]; exact Same.refl _, [], upd_same, rfl⟩ (fun _ _ _ _ _ => trivial) ?_ ?_
  · rintro i _ σ _ H1 hi ⟨x3, x4, rfl, s1, ns, e1, hl⟩ ⟨rfl, rfl⟩
    have hi : i < 2 ^ B.many := hi
    have W2 := (hW.same s1).same off_le
    refine ⟨_, rfl, W.p, _, rfl, W2.fc, W.A.c, _, rfl, W2.co.ff, _, rfl, _, _, _, _, rfl, rfl, SqL.of W2.co.gf, atI_nat (ints_at (by omega)), ?_⟩
    refine ⟨_, rfl, .inl ⟨rfl, _, .inl (.inl e1)⟩, fun y H2 => H2 = H1 ∧ ∃ z : Int, y = .int z, ?_, ?_⟩
    · refine ⟨_, rfl, W.p, _, rfl, W2.fe, _, rfl, _, _, _, _, rfl, rfl, SqL.of (off_le _ _ W2.ev), W2.gev hi, _, rfl, ite2 (fun _ => ⟨_, rfl, _, rfl, _, _, rfl, rfl, rfl, _, rfl⟩) (fun _ => ⟨_, rfl, _, rfl, _, _, rfl, rfl, rfl, _, rfl⟩)⟩
    · rintro y H2 ⟨rfl, z, rfl⟩
      refine ⟨fl, _, _, rfl, rfl, e1, by rw [List.length_map]; omega, _, _, rfl, by rw [off_upd]; exact s1, ns ++ [z], ?_, by rw [len_snoc, hl]⟩
      rw [upd_same, List.map_append]; rfl
  · rintro σ H1 ⟨x3, x4, rfl, s1, ns, e1, hl⟩
    refine ⟨_, rfl, fl, _, rfl, .inl ⟨SqL.of e1, fun l hl2 => ?_⟩⟩
    exact k l ns _ ((s1.trans off_le).trans (same_new hl2)) upd_same hl
def noPk : Pk := fun _ _ => none
def spBiI (T : Fx K mg) : Sp := fun vs H Q _ => ∃ (p dx b ap : Addr) (B : Bk) (pr : List (List Int)), vs = [.ref p, .ref b, .ref ap] ∧ H p = some (.ins T.cBi dx []) ∧ BookAt K (off [p] H) b B ∧ B.Ok ∧ Td (off [p] H) (prD pr) (.ref ap) ∧
  ∀ H' W, W.p = p → Same (off [p] H) (off W.S H') → LayS T H' W B pr [] noPk 0 → Q .non H'
theorem sc_bill_init : FnScope ["self", "book", "prices", "row"] ["self", "book", "prices"] (defScope s_bill_init) := ⟨rfl, rfl, rfl, by decide +kernel, rfl, by decide +kernel, by decide +kernel⟩
theorem c_bill_init (T : Fx K mg) (F : MakAt K mg "Bill" T.cBi "Bill.__init__" s_bill_init) (c_costs_init : Mak P w K mg base CX0 1 "Costs" T.cCo ["self", "size"] (spCoI T)) (c_is_even : Cal P w K mg base CX0 2 "is_even" ["book", "row"] (spEven K)) (c_mark_bounds : Cal P w K mg base CX0 1 "mark_bounds" ["book", "scale"] (spMarkB K)) : Mak P w K mg base CX0 3 "Bill" T.cBi ["self", "book", "prices"] (spBiI T) := by
  refine mak_of F sc_bill_init (fun _ _ _ _ _ _ _ us hl => match us, hl with | [_, _, _], _ => rfl) (fun vs H Q E h => ?_) (fun f cdv A outer s H vs Q E hr h => ?_)
  · obtain ⟨p, dx, b, ap, B, pr, rfl, hp, hB, O, hP, k⟩ := h
    rfl
  obtain ⟨p, dx, b, ap, B, pr, rfl, hp, hB, O, hP, k⟩ := h
  have hu := hu_of hr
  have nd := sc_bill_init.nd
  refine ⟨_, (pss_cons (ps_ini (pv 0) (pv 1) rfl)
  (pss_cons (ps_ini (pv 0) (pv 2) rfl)
  (pss_cons (ps_ini (pv 0) (pe_ix ix_tup (pe_glob (v := .ref T.aP) rfl T.pow rfl) (pe_f (pv 1)) (fun _ _ => rfl)) rfl)
  (pss_cons (ps_ini (pv 0) (pe_mk c_costs_init hr (by decide) pass0 (pa_cons (pe_op op_add (pe_f (pv 0)) pe_int) pa_nil)) rfl)
  (pss_cons (ps_ini (pv 0) pe_dnewT rfl)
  (pss_cons (ps_ini (pv 0) (pe_lc (own := [("row", 3)]) rfl nd (pi_range1 rfl T.range (pa_cons (pe_f (pv 0)) pa_nil)) (blkOk_by (by rfl)) (fun _ _ _ _ _ => (pg_name (i := 3) nd rfl (Or.inl rfl))) (fun _ _ _ _ _ => pts_nil) (fun _ _ _ _ _ => (pe_k c_is_even hr (by decide) pass0 (pa_cons (pv 1) (pa_cons (pv 3) pa_nil))))) rfl)
  (pss_one (ps_asg (pe_k c_mark_bounds hr (by decide) pass0 (pa_cons (pv 1) (pa_cons pe_int pa_nil))) (pg_tup rfl (pgs_cons (pg_ini (pv 0)) (pgs_cons (pg_ini (pv 0)) pgs_nil))))))))))), ?_⟩
  have h16 := two_le O
  have sz := sizeLine_eq
  have hp0 : H p = some (.ins T.cBi dx (List.zip [] [])) := hp
  have NA : ∀ f, f ∈ [("book" : Str), "prices", "ground", "costs", "picks", "even", "lows", "highs"] → NoAttr K T.cBi f := T.naBi
  refine ⟨_, rfl, _, rfl, p, _, dx, _, _, rfl, hp0, rfl, (by decide +kernel), (by decide), T.clBi, NA _ (by simp), fun H1 o1 e1 => ?_⟩
  refine ⟨_, rfl, _, rfl, p, _, dx, _, _, rfl, o1, rfl, (by decide +kernel), (by decide), T.clBi, NA _ (by simp), fun H2 o2 e2 => ?_⟩
  have e02 : off [p] H2 = off [p] H := e2.trans e1
  have hB2 : BookAt K H2 b B := (e02 ▸ hB).mono off_le
  refine ⟨_, rfl, b, _, rfl, hB2.many, _, _, _, _, rfl, rfl, T.powT _, pow_at O.m8, _, rfl, p, _, dx, _, _, rfl, o2, rfl, (by decide +kernel), (by decide), T.clBi, NA _ (by simp), fun H3 o3 e3 => ?_⟩
  have e03 : off [p] H3 = off [p] H := e3.trans e02
  refine ⟨_, rfl, p, _, rfl, ⟨_, dx, _, o3, T.clBi, NA _ (by simp), lookup_zip (i := 2) (by decide +kernel) rfl rfl⟩, _, _, rfl, rfl, ?_⟩
  intro x dx2 n1 n2 n3
  have s3 : Same H3 (upd (upd H3 dx2 (.own x)) x (.ins T.cCo dx2 [])) := (same_new n2).trans (same_new (by rw [upd_ne (Ne.symm n3)]; exact n1))
  have s3' := same_off n1 s3
  refine ⟨x, dx2, 2 ^ B.many + 1, rfl, upd_same, by omega, fun H4 A hA s4 C4 fr4 => ⟨rfl, ?_⟩⟩
  have s34 : Same H3 (off A.as H4) := s3'.trans s4
  have hpA : p ∉ A.as := off_not (s34 _ _ o3)
  have o4 := off_le _ _ (s34 _ _ o3)
  subst hA
  refine ⟨_, rfl, p, _, dx, _, _, rfl, o4, rfl, (by decide +kernel), (by decide), T.clBi, NA _ (by simp), fun H5 o5 e5 => ?_⟩
  have C5 : CoAt T H5 A (CD.empty (2 ^ B.many + 1)) := C4.kp (S := [p]) (by show Same _ _; rw [e5]; exact Same.refl _) (fun a ha z => hpA (by simp at z; exact z ▸ ha))
  have s05 : Same (off [p] H) (off A.as H5) := fun c u e => by
    rw [← e03] at e
    have hcp := off_not e
    have h1 := s34 _ _ (off_le _ _ e)
    have h2 := off_of (off_le _ _ h1) hcp
    rw [← e5] at h2
    exact off_of (off_le _ _ h2) (off_not h1)
  clear s34 s4 s3 s3' n1 n2 n3 o4 C4 fr4 e5
  intro pd n6
  have hppd : p ≠ pd := ne_of_none o5 n6
  refine ⟨_, rfl, p, _, dx, _, _, rfl, (upd_ne hppd).trans o5, rfl, (by decide +kernel), (by decide), T.clBi, NA _ (by simp), fun H6 o6 e6 => ?_⟩
  have k56 : Same (off [p] (upd H5 pd (.dT []))) (off [p] H6) := by rw [e6]; exact Same.refl _
  have hpd6 : off [p] H6 pd = some (.dT []) := k56 _ _ (off_of upd_same (by simpa using hppd.symm))
  have C6 : CoAt T H6 A (CD.empty (2 ^ B.many + 1)) := (C5.mono (same_new n6)).kp (S := [p]) k56 (fun a ha z => hpA (by simp at z; exact z ▸ ha))
  have hpdA : pd ∉ A.as := C6.not_dt (off_le _ _ hpd6)
  -- what was there stays
  have s06 : Same (off [p] H) (off (pd :: A.as) H6) := fun c u e => by
    have h1 := s05 _ _ e
    have h2 := off_le _ _ h1
    have hne : c ≠ pd := ne_of_none h2 n6
    have h3 := k56 c u (off_of (by rw [upd_ne hne]; exact h2) (off_not e))
    exact off_of (off_le _ _ h3) (by
      intro z
      rcases List.mem_cons.mp z with z | z
      · exact hne z
      · exact off_not h1 z)
  have hS6 : ∀ a ∈ pd :: A.as, H6 a ≠ none := fun a ha => by
    rcases List.mem_cons.mp ha with z | z
    · rw [z, off_le _ _ hpd6]; exact fun q => by cases q
    · exact C6.has z
  clear e6 k56 C5 o5 n6 s05
  have hB6 : BookAt K H6 b B := (hB.mono s06).mono off_le
  refine ⟨_, rfl, p, _, rfl, ⟨_, dx, _, o6, T.clBi, NA _ (by simp), lookup_zip (i := 2) (by decide +kernel) rfl rfl⟩, _, rfl, (rng_ok (by omega)).1, (rng_ok (by omega)).2, fun q nq => lc_by walk_r (fun i acc H7 => Same H6 H7 ∧ acc = (List.range i).map fun r => V.bl (ev B r)) nq ⟨Same.refl _, rfl⟩ (fun _ _ _ _ => trivial) ?_ ?_⟩
  · rintro i acc _ _ H7 hi hle ⟨sm, rfl⟩ hq ⟨rfl, rfl⟩
    have hi : i < 2 ^ B.many := hi
    refine ⟨rfl, _, rfl, _, rfl, b, B, i, rfl, hB6.mono (sm.trans off_le), O, fun H8 s8 => ?_⟩
    refine LcS.add (s8 _ _ hq) hle (by omega) ⟨sm.trans (kp_of s8), ?_⟩
    rw [List.range_succ, List.map_append]; rfl
  · rintro acc H7 hq ⟨sm, rfl⟩
    have s67 : Same H6 H7 := sm.trans off_le
    have hqp : q ≠ p := fun z => by rw [z, o6] at nq; cases nq
    have hqS : q ∉ pd :: A.as := fun z => hS6 q z nq
    refine ⟨_, rfl, p, _, dx, _, _, rfl, s67 _ _ o6, rfl, (by decide +kernel), (by decide), T.clBi, NA _ (by simp), fun H8 o8 e8 => ?_⟩
    have k68 : Same (off [p] H6) (off [p] H8) := by rw [e8]; exact kp_of s67
    have hq8 : off [p] H8 q = some (.lst ((List.range (2 ^ B.many)).map fun r => V.bl (ev B r))) := by rw [e8]; exact off_of hq (by simpa using hqp)
    have hpS : p ∉ pd :: A.as := fun z => by
      rcases List.mem_cons.mp z with z | z
      · exact hppd z
      · exact hpA z
    -- from one heap to the next, but for p
    have go : ∀ {Ha Hb : Hp}, Same (off [p] Ha) (off [p] Hb) → Same (off [p] (off (pd :: A.as) Ha)) (off (pd :: A.as) Hb) := fun {Ha Hb} kk c u e => by
      have h1 := off_le _ _ e
      exact off_of (off_le _ _ (kk c u (off_of (off_le _ _ h1) (off_not e)))) (off_not h1)
    have s08 : Same (off [p] H) (off (pd :: A.as) H8) := fun c u e => go k68 c u (off_of (s06 c u e) (off_not e))
    have hS8 : ∀ a ∈ pd :: A.as, H8 a ≠ none := fun a ha z => by
      cases e : H6 a with
      | none => exact hS6 a ha e
      | some u =>
        have hap : a ≠ p := fun y => hpS (y ▸ ha)
        have := off_le _ _ (k68 a u (off_of e (by simpa using hap)))
        rw [z] at this; cases this
    refine ⟨_, rfl, b, B, rfl, (hB.mono s08).mono off_le, O, fun v H9 s9 t9 => ?_⟩
    obtain ⟨am, vL, vH, rfl, hm, tL, tH⟩ := two_vs t9
    have o9 := s9 _ _ o8
    refine ⟨am, _, rfl, SqT.of (nu_le _ _ hm), rfl, _, _, rfl, _, rfl, p, _, dx, _, _, rfl, o9, rfl, (by decide +kernel), (by decide), T.clBi, NA _ (by simp), fun H10 o10 e10 => ?_⟩
    refine ⟨_, _, rfl, _, rfl, p, _, dx, _, _, rfl, o10, rfl, (by decide +kernel), (by decide), T.clBi, NA _ (by simp), fun H11 o11 e11 => ⟨rfl, ?_⟩⟩
    have k9 : Same (off [p] H9) (off [p] H11) := by rw [e11, e10]; exact Same.refl _
    have k8 : Same (off [p] H8) (off [p] H11) := Same.trans (kp_of s9) k9
    have k6 : Same (off [p] H6) (off [p] H11) := k68.trans k8
    obtain ⟨lo, _, rfl, _, _⟩ := tL.lst
    obtain ⟨hi, _, rfl, _, _⟩ := tH.lst
    have op9 : off (pd :: A.as) H9 p = some _ := off_of o9 hpS
    have tl : ∀ {d : K31.D} {v : V}, Td (nu H8 H9) d v → Td (off (pd :: A.as) H11) d v := fun t => (td_off1 op9 (t.mono (nu_off hS8))).mono (go k9)
    have s011 : Same (off [p] H) (off (pd :: A.as) H11) := fun c u e => go k8 c u (off_of (s08 c u e) (off_not e))
    refine k H11 ⟨p, dx, b, ap, pd, q, lo, hi, A⟩ rfl s011 ⟨_, _, lay_nil _, ⟨off_of o11 hpS, hB.mono s011, hP.mono s011, off_of (off_le _ _ (k8 _ _ hq8)) hqS, tl tL, tl tH, C6.kp (S := [p]) k6 (fun a ha z => hpA (by simp at z; exact z ▸ ha)), [], off_le _ _ (k6 _ _ hpd6), Nat.le_refl _, fun r m e x hf => by cases hf⟩, ?_⟩
    refine ⟨Nat.le_refl _, Nat.le_refl _, Nat.le_refl _, Nat.le_refl _, fun y hy => ?_⟩
    rw [List.eq_of_mem_replicate hy]; exact Nat.le_refl _
end
end K31

set_option autoImplicit true
set_option Elab.async false
set_option autoImplicit false
set_option linter.all false
set_option maxRecDepth 100000
set_option maxHeartbeats 4000000
namespace K31
open PySem PySem.Spec PyProof.Rows L2
/-! cheapest_bill, bill_of, cheapest, heights -/
section
variable {P : Program} {w : World} {K : PySem.W.Frag} {mg : Str → Option Value} {base : Heap}
def spCB (T : Fx K mg) : Sp := fun vs H Q _ => ∃ (b ap : Addr) (B : Bk) (pr : List (List Int)), vs = [.ref b, .ref ap] ∧ BookAt K H b B ∧ B.Ok ∧ Td H (prD pr) (.ref ap) ∧ PrOk B pr ∧
  (∀ H' W As f D n, Same H H' → SolA T H' W B pr As f D n → Q (.ref W.p) H') ∧ ∀ H', Same H H' → Q .non H'
theorem sc_cheapest_bill : FnScope ["book", "prices", "bill"] ["book", "prices"] (defScope s_cheapest_bill) := ⟨rfl, rfl, rfl, by decide +kernel, rfl, by decide +kernel, by decide +kernel⟩
theorem c_cheapest_bill (T : Fx K mg) (F : DefAt K mg "cheapest_bill" "cheapest_bill" s_cheapest_bill) (c_bill_init : Mak P w K mg base CX0 3 "Bill" T.cBi ["self", "book", "prices"] (spBiI T)) (c_bill_solve : Met P w K mg base CX0 6 T.cBi "solve" ["self"] (spBiS T)) : Cal P w K mg base CX0 7 "cheapest_bill" ["book", "prices"] (spCB T) := by
  refine cal_of F sc_cheapest_bill (fun _ _ _ _ _ _ _ us hl => match us, hl with | [_, _], _ => rfl) (fun vs H Q E h => ?_) (fun f cdv A outer s H vs Q E hr h => ?_)
  · obtain ⟨b, ap, B, pr, rfl, hB, O, hP, OP, kT, kN⟩ := h
    rfl
  obtain ⟨b, ap, B, pr, rfl, hB, O, hP, OP, kT, kN⟩ := h
  have hu := hu_of hr
  have nd := sc_cheapest_bill.nd
  refine ⟨_, (pss_cons (ps_set (i := 2) nd rfl (Or.inl rfl) (pe_mk c_bill_init hr (by decide) pass0 (pa_cons (pv 0) (pa_cons (pv 1) pa_nil))))
  (pss_one (ps_ret (pe_ifExp (pt_val (pe_m0 c_bill_solve hr (by decide) pass0 (pv 2))) (pv 2) pe_non)))), ?_⟩
  refine ⟨_, rfl, _, rfl, ?_⟩
  intro x dx n1 n2 n3
  have s1 : Same H (upd (upd H dx (.own x)) x (.ins T.cBi dx [])) := (same_new n2).trans (same_new (by rw [upd_ne (Ne.symm n3)]; exact n1))
  have s2 := same_off n1 s1
  refine ⟨x, dx, b, ap, B, pr, rfl, upd_same, hB.mono s2, O, hP.mono s2, fun H' W hW s3 L => ⟨rfl, ?_⟩⟩
  subst hW
  obtain ⟨D0, W0⟩ := L.bi
  have s13 := s2.trans s3
  refine ⟨_, rfl, W.p, rfl, W0.me (by decide +kernel), W, B, pr, noPk, rfl, L, O, OP, fun H2 As f D n k2 S => ?_, fun H2 k2 => ?_⟩
  · exact ⟨_, rfl, iteT ⟨_, rfl, kT H2 W As f D n ((s13.trans k2).trans off_le) S⟩⟩
  · exact ⟨_, rfl, iteF (kN H2 ((s13.trans k2).trans off_le))⟩
def spBillOf (T : Fx K mg) : Sp := fun vs H Q E => ∃ (b ap : Addr) (B : Bk) (pr : List (List Int)), vs = [.ref b, .ref ap] ∧ BookAt K H b B ∧ B.Ok ∧ Td H (prD pr) (.ref ap) ∧ PrOk B pr ∧
  (∀ H' W As f D n, Same H H' → SolA T H' W B pr As f D n → Q (.ref W.p) H') ∧ ∀ H', Same H H' → E (.ref T.cN) none H'
theorem sc_bill_of : FnScope ["book", "prices", "bill"] ["book", "prices"] (defScope s_bill_of) := ⟨rfl, rfl, rfl, by decide +kernel, rfl, by decide +kernel, by decide +kernel⟩
theorem c_bill_of (T : Fx K mg) (F : DefAt K mg "bill_of" "bill_of" s_bill_of) (c_check_prices : Cal P w K mg base CX0 4 "check_prices" ["book", "prices"] (spPrices K)) (c_cheapest_bill : Cal P w K mg base CX0 7 "cheapest_bill" ["book", "prices"] (spCB T)) : Cal P w K mg base (L2.CX P w) 8 "bill_of" ["book", "prices"] (spBillOf T) := by
  refine cal_of F sc_bill_of (fun _ _ _ _ _ _ _ us hl => match us, hl with | [_, _], _ => rfl) (fun vs H Q E h => ?_) (fun f cdv A outer s H vs Q E hr h => ?_)
  · obtain ⟨b, ap, B, pr, rfl, hB, O, hP, OP, kT, kN⟩ := h
    rfl
  obtain ⟨b, ap, B, pr, rfl, hB, O, hP, OP, kT, kN⟩ := h
  have hu := hu_of hr
  have nd := sc_bill_of.nd
  refine ⟨_, (pss_cons (ps_expr (pe_k c_check_prices hr (by decide) pass0 (pa_cons (pv 0) (pa_cons (pv 1) pa_nil))))
  (pss_cons (ps_set (i := 2) nd rfl (Or.inl rfl) (pe_k c_cheapest_bill hr (by decide) pass0 (pa_cons (pv 0) (pa_cons (pv 1) pa_nil))))
  (pss_cons (ps_if (pt_cmp (pc_isN (pv 2))) (pss_one (ps_raise rfl (takes_of rfl rfl rfl rfl) (pmk_own0 PySem.F.excBase_ValueError T.xN T.gN T.kN (raises_own T.bN T.tN) rfl))) pss_nil)
  (pss_one (ps_ret (pv 2)))))), ?_⟩
  refine ⟨_, rfl, _, rfl, b, ap, B, pr, rfl, hB, O, hP, OP, fun H1 s1 => ?_⟩
  refine ⟨_, rfl, _, rfl, b, ap, B, pr, rfl, hB.mono s1, O, hP.mono s1, OP, fun H2 W As f D n s2 S => ?_, fun H2 s2 => ?_⟩
  · exact ⟨_, rfl, _, rfl, iteF ⟨_, rfl, kT H2 W As f D n (s1.trans s2) S⟩⟩
  · exact ⟨_, rfl, _, rfl, iteT (kN H2 (s1.trans s2))⟩
def spCheap (T : Fx K mg) : Sp := fun vs H Q E => ∃ (b ap : Addr) (B : Bk) (pr : List (List Int)), vs = [.ref b, .ref ap] ∧ BookAt K H b B ∧ B.Ok ∧ Td H (prD pr) (.ref ap) ∧ PrOk B pr ∧
  (∀ H' q v z rule, Same H H' → H' q = some (.tup [.int z, v]) → Td H' (ruleD rule) v → RuleOk B rule → z = priceL pr rule → (∀ h, B.reachV pr h ≤ z) → Q (.ref q) H') ∧ ∀ H', Same H H' → E (.ref T.cN) none H'
theorem sc_cheapest : FnScope ["book", "prices", "rule"] ["book", "prices"] (defScope s_cheapest) := ⟨rfl, rfl, rfl, by decide +kernel, rfl, by decide +kernel, by decide +kernel⟩
theorem c_cheapest (T : Fx K mg) (F : DefAt K mg "cheapest" "cheapest" s_cheapest) (c_bill_of : Cal P w K mg base (L2.CX P w) 8 "bill_of" ["book", "prices"] (spBillOf T)) (c_bill_rule : Met P w K mg base CX0 3 T.cBi "rule" ["self"] (spRule T)) (c_price_of : Cal P w K mg base CX0 1 "price_of" ["prices", "rule"] (spPriceOf)) : Cal P w K mg base (L2.CX P w) 9 "cheapest" ["book", "prices"] (spCheap T) := by
  refine cal_of F sc_cheapest (fun _ _ _ _ _ _ _ us hl => match us, hl with | [_, _], _ => rfl) (fun vs H Q E h => ?_) (fun f cdv A outer s H vs Q E hr h => ?_)
  · obtain ⟨b, ap, B, pr, rfl, hB, O, hP, OP, kT, kN⟩ := h
    rfl
  obtain ⟨b, ap, B, pr, rfl, hB, O, hP, OP, kT, kN⟩ := h
  have hu := hu_of hr
  have nd := sc_cheapest.nd
  refine ⟨_, (pss_cons (ps_set (i := 2) nd rfl (Or.inl rfl) (pe_m0 c_bill_rule hr (by decide) pass0 (pe_k c_bill_of hr (by decide) (passes_call (takes_of rfl rfl rfl rfl) (fun _ _ _ _ h => h)) (pa_cons (pv 0) (pa_cons (pv 1) pa_nil)))))
  (pss_one (ps_ret (pe_tup (pa_cons (pe_k c_price_of hr (by decide) pass0 (pa_cons (pv 1) (pa_cons (pv 2) pa_nil))) (pa_cons (pv 2) pa_nil)))))), ?_⟩
  refine ⟨_, rfl, _, rfl, b, ap, B, pr, rfl, hB, O, hP, OP, fun H1 W As f D n s1 S => ?_, fun H1 s1 => kN H1 s1⟩
  refine ⟨W.p, rfl, S.bi.me (by decide +kernel), W, B, pr, As, f, D, n, rfl, S, O, fun v H2 s2 t2 => ?_⟩
  obtain ⟨ar, _, rfl, _, _⟩ := t2.tup
  have hR := ruleR_ok B (xR B As f D)
  refine ⟨_, rfl, _, rfl, ap, ar, B, pr, _, rfl, O, hP.mono (s1.trans s2), OP, t2, hR, fun H3 s3 => ?_⟩
  refine ⟨_, rfl, (by show 2 ≤ sizeLine; decide), fun q hq => ?_⟩
  have s4 := same_new (o := .tup [.int (priceL pr (ruleR B (xR B As f D))), .ref ar]) hq
  exact kT _ q (.ref ar) _ (ruleR B (xR B As f D)) (((s1.trans s2).trans s3).trans s4) upd_same (t2.mono (s3.trans s4)) hR rfl fun h => by
    rw [ruleR_price]
    exact weak_dual O (S.keeps O)
def spHeights (T : Fx K mg) : Sp := fun vs H Q E => ∃ (b ap : Addr) (B : Bk) (pr : List (List Int)), vs = [.ref b, .ref ap] ∧ BookAt K H b B ∧ B.Ok ∧ Td H (prD pr) (.ref ap) ∧ PrOk B pr ∧
  (∀ H' q (ns : List Int), Same H H' → H' q = some (.tup (ns.map V.int)) → ns.length = 2 ^ B.many → Q (.ref q) H') ∧ ∀ H', Same H H' → E (.ref T.cN) none H'
theorem sc_heights : FnScope ["book", "prices"] ["book", "prices"] (defScope s_heights) := ⟨rfl, rfl, rfl, by decide +kernel, rfl, by decide +kernel, by decide +kernel⟩
theorem c_heights (T : Fx K mg) (F : DefAt K mg "heights" "heights" s_heights) (c_bill_of : Cal P w K mg base (L2.CX P w) 8 "bill_of" ["book", "prices"] (spBillOf T)) (c_bill_heights : Met P w K mg base CX0 1 T.cBi "heights" ["self"] (spHts T)) : Cal P w K mg base (L2.CX P w) 9 "heights" ["book", "prices"] (spHeights T) := by
  refine cal_of F sc_heights (fun _ _ _ _ _ _ _ us hl => match us, hl with | [_, _], _ => rfl) (fun vs H Q E h => ?_) (fun f cdv A outer s H vs Q E hr h => ?_)
  · obtain ⟨b, ap, B, pr, rfl, hB, O, hP, OP, kT, kN⟩ := h
    rfl
  obtain ⟨b, ap, B, pr, rfl, hB, O, hP, OP, kT, kN⟩ := h
  have hu := hu_of hr
  have nd := sc_heights.nd
  refine ⟨_, (pss_one (ps_ret (pe_m0 c_bill_heights hr (by decide) pass0 (pe_k c_bill_of hr (by decide) (passes_call (takes_of rfl rfl rfl rfl) (fun _ _ _ _ h => h)) (pa_cons (pv 0) (pa_cons (pv 1) pa_nil)))))), ?_⟩
  refine ⟨_, rfl, _, rfl, b, ap, B, pr, rfl, hB, O, hP, OP, fun H1 W As f D n s1 S => ?_, fun H1 s1 => kN H1 s1⟩
  exact ⟨W.p, rfl, S.bi.me (by decide +kernel), W, B, pr, As, f, D, n, rfl, S, O, fun a ns H2 s2 h2 hl => kT H2 a ns (s1.trans s2) h2 hl⟩
end
end K31

set_option autoImplicit true
set_option Elab.async false
set_option autoImplicit false
set_option linter.all false
set_option maxRecDepth 100000
set_option maxHeartbeats 4000000
namespace K31
open PySem PySem.Spec PyProof.Rows L2
/-! books -/
def dutV : List V := [("n" : Str), "a", "m"].map V.str
def sgnV : List V := [("1" : Str), "0", "."].map V.str
theorem in_dut (d : Du) : inV (.str ⟨#[d.c]⟩) dutV = true := by cases d <;> decide +kernel
theorem in_sgn (s : Sg) : inV (.str ⟨#[s.c]⟩) sgnV = true := by cases s <;> decide +kernel
theorem du_length (l : List Du) : (duS l).length = l.length := du_size l
theorem sg_length (l : List Sg) : (sgS l).length = l.length := sg_size l
section
variable {P : Program} {w : World} {K : PySem.W.Frag} {mg : Str → Option Value} {base : Heap}
def spDut : Sp := fun vs H Q _ => ∃ l : List Du, vs = [.str (duS l)] ∧ 1 ≤ l.length ∧ l.length ≤ 4 ∧ ∀ H', Same H H' → Q (.bl true) H'
theorem sc_is_duties : FnScope ["thing", "sign"] ["thing"] (defScope s_is_duties) := ⟨rfl, rfl, rfl, by decide +kernel, rfl, by decide +kernel, by decide +kernel⟩
theorem c_is_duties (T : Fx K mg) (F : DefAt K mg "is_duties" "is_duties" s_is_duties) (c_is_many : Cal P w K mg base CX0 3 "is_many" ["thing"] (spMany)) : Cal P w K mg base CX0 4 "is_duties" ["thing"] spDut := by
  refine cal_of F sc_is_duties (fun _ _ _ _ _ _ _ us hl => match us, hl with | [_], _ => rfl) (fun vs H Q E h => ?_) (fun f cdv A outer s H vs Q E hr h => ?_)
  · obtain ⟨l, rfl, h1, h4, k⟩ := h
    rfl
  obtain ⟨l, rfl, h1, h4, k⟩ := h
  have hu := hu_of hr
  have nd := sc_is_duties.nd
  refine ⟨_, (pss_one (ps_ret (pe_and (pe_callB call_is rfl T.isinstance boot_isinstance (pa_cons (pv 0) (pa_cons (pe_bltn (v := .ty "str") rfl T.str boot_str rfl) pa_nil))) (pe_and (pe_k c_is_many hr (by decide) pass0 (pa_cons (pe_callB call_len_str rfl T.len boot_len (pa_cons (pv 0) pa_nil)) pa_nil)) (pe_one (pe_callB (cr_all rfl) rfl T.all boot_all (pa_cons (pe_lc (own := [("sign", 1)]) rfl nd (pi_str (pv 0)) (blkOk_by (by rfl)) (fun _ _ _ _ _ => (pg_name (i := 1) nd rfl (Or.inl rfl))) (fun _ _ _ _ _ => pts_nil) (fun _ _ _ _ _ => (pe_cmpR (op_in_seqK K) (pv 1) (pe_glob (v := .ref T.aD) rfl T.dut rfl) (by with_unfolding_all rfl)))) pa_nil))))))), ?_⟩
  have sz := sizeLine_eq
  refine ⟨_, rfl, _, "str", "str", true, rfl, .str _, by decide +kernel, _, rfl, iteT ⟨_, rfl, _, rfl, by rw [du_length]; omega, _, rfl, ?_⟩⟩
  rw [du_length, decide_eq_true (show (1 : Int) ≤ (l.length : Nat) by omega), decide_eq_true (show ((l.length : Nat) : Int) ≤ 8 by omega)]
  refine ⟨_, rfl, iteT ⟨_, rfl, _, rfl, fun q hq => lc_by walk_str (fun i acc H3 => Same H H3 ∧ acc = (List.replicate i true).map V.bl) hq ⟨Same.refl _, rfl⟩ (fun _ _ _ _ => trivial) ?_ ?_⟩⟩
  · rintro i acc _ _ H3 hi hle ⟨sm, rfl⟩ hq3 ⟨rfl, c, hc, rfl⟩
    rw [du_size] at hi
    rw [du_at hi] at hc
    obtain rfl := Option.some.inj hc
    refine ⟨rfl, _, rfl, T.aD, dutV, rfl, .inr (T.dutT _), rfl, by decide +kernel, ?_⟩
    refine LcS.add hq3 hle (by omega) ⟨sm, ?_⟩
    show _ ++ [V.bl (inV _ dutV)] = _
    rw [in_dut]; exact rep_snoc
  · rintro acc H3 hq3 ⟨sm, rfl⟩
    exact ⟨q, _, rfl, SqL.of hq3, by rw [all_rep]; exact k H3 (sm.trans off_le)⟩
def spCount : Sp := fun vs H Q _ => ∃ (many : Nat) (p : Addr) (x : Int × Int), vs = [.int (many : Nat), .ref p] ∧ Two H p x ∧ 0 ≤ x.1 ∧ x.1 ≤ x.2 ∧ x.2 ≤ (many : Nat) ∧ ∀ H', Same H H' → Q (.bl true) H'
theorem sc_is_count : FnScope ["many", "thing"] ["many", "thing"] (defScope s_is_count) := ⟨rfl, rfl, rfl, by decide +kernel, rfl, by decide +kernel, by decide +kernel⟩
theorem c_is_count (T : Fx K mg) (F : DefAt K mg "is_count" "is_count" s_is_count) (c_is_pair : Cal P w K mg base CX0 1 "is_pair" ["thing"] (spPair)) (c_is_within : Cal P w K mg base CX0 2 "is_within" ["thing", "least", "most"] (spWithin)) : Cal P w K mg base CX0 3 "is_count" ["many", "thing"] spCount := by
  refine cal_of F sc_is_count (fun _ _ _ _ _ _ _ us hl => match us, hl with | [_, _], _ => rfl) (fun vs H Q E h => ?_) (fun f cdv A outer s H vs Q E hr h => ?_)
  · obtain ⟨many, p, x, rfl, hp, h1, h2, h3, k⟩ := h
    rfl
  obtain ⟨many, p, x, rfl, hp, h1, h2, h3, k⟩ := h
  have hu := hu_of hr
  have nd := sc_is_count.nd
  refine ⟨_, (pss_one (ps_ret (pe_and (pe_k c_is_pair hr (by decide) pass0 (pa_cons (pv 1) pa_nil)) (pe_and (pe_k c_is_within hr (by decide) pass0 (pa_cons (pe_ix ix_tup (pv 1) pe_int (fun _ _ => rfl)) (pa_cons pe_int (pa_cons (pv 0) pa_nil)))) (pe_one (pe_k c_is_within hr (by decide) pass0 (pa_cons (pe_ix ix_tup (pv 1) pe_int (fun _ _ => rfl)) (pa_cons (pe_ix ix_tup (pv 1) pe_int (fun _ _ => rfl)) (pa_cons (pv 0) pa_nil))))))))), ?_⟩
  refine ⟨_, rfl, p, _, rfl, hp, _, rfl, iteT ⟨_, rfl, _, _, _, _, rfl, rfl, SqT.of hp, rfl, _, rfl, _, _, _, rfl, ?_⟩⟩
  rw [decide_eq_true h1, decide_eq_true (show x.1 ≤ ((many : Nat) : Int) by omega)]
  refine ⟨_, rfl, iteT ⟨_, rfl, _, _, _, _, rfl, rfl, SqT.of hp, rfl, _, rfl, _, _, _, _, rfl, rfl, SqT.of hp, rfl, _, rfl, _, _, _, rfl, ?_⟩⟩
  rw [decide_eq_true h2, decide_eq_true h3]
  exact k H (Same.refl _)
def spMarks : Sp := fun vs H Q _ => ∃ (l : List Sg), vs = [.int (l.length : Nat), .str (sgS l)] ∧ l.length ≤ 4 ∧ ∀ H', Same H H' → Q (.bl true) H'
theorem sc_are_marks : FnScope ["many", "thing", "sign"] ["many", "thing"] (defScope s_are_marks) := ⟨rfl, rfl, rfl, by decide +kernel, rfl, by decide +kernel, by decide +kernel⟩
theorem c_are_marks (T : Fx K mg) (F : DefAt K mg "are_marks" "are_marks" s_are_marks) : Cal P w K mg base CX0 1 "are_marks" ["many", "thing"] spMarks := by
  refine cal_of F sc_are_marks (fun _ _ _ _ _ _ _ us hl => match us, hl with | [_, _], _ => rfl) (fun vs H Q E h => ?_) (fun f cdv A outer s H vs Q E hr h => ?_)
  · obtain ⟨l, rfl, h4, k⟩ := h
    rfl
  obtain ⟨l, rfl, h4, k⟩ := h
  have hu := hu_of hr
  have nd := sc_are_marks.nd
  refine ⟨_, (pss_one (ps_ret (pe_and (pe_callB call_is rfl T.isinstance boot_isinstance (pa_cons (pv 1) (pa_cons (pe_bltn (v := .ty "str") rfl T.str boot_str rfl) pa_nil))) (pe_and (pe_cmpR op_eq (pe_callB call_len_str rfl T.len boot_len (pa_cons (pv 1) pa_nil)) (pv 0) (nomark _)) (pe_one (pe_callB (cr_all rfl) rfl T.all boot_all (pa_cons (pe_lc (own := [("sign", 2)]) rfl nd (pi_str (pv 1)) (blkOk_by (by rfl)) (fun _ _ _ _ _ => (pg_name (i := 2) nd rfl (Or.inl rfl))) (fun _ _ _ _ _ => pts_nil) (fun _ _ _ _ _ => (pe_cmpR (op_in_seqK K) (pv 2) (pe_glob (v := .ref T.aS) rfl T.sgn rfl) (by with_unfolding_all rfl)))) pa_nil))))))), ?_⟩
  have sz := sizeLine_eq
  refine ⟨_, rfl, _, "str", "str", true, rfl, .str _, by decide +kernel, _, rfl, iteT ⟨_, rfl, _, rfl, by rw [sg_length]; omega, _, rfl, rfl, ?_⟩⟩
  rw [sg_length, dec_int, decide_eq_true rfl]
  refine ⟨_, rfl, iteT ⟨_, rfl, _, rfl, fun q hq => lc_by walk_str (fun i acc H3 => Same H H3 ∧ acc = (List.replicate i true).map V.bl) hq ⟨Same.refl _, rfl⟩ (fun _ _ _ _ => trivial) ?_ ?_⟩⟩
  · rintro i acc _ _ H3 hi hle ⟨sm, rfl⟩ hq3 ⟨rfl, c, hc, rfl⟩
    rw [sg_size] at hi
    rw [sg_at hi] at hc
    obtain rfl := Option.some.inj hc
    refine ⟨rfl, _, rfl, T.aS, sgnV, rfl, .inr (T.sgnT _), rfl, by decide +kernel, ?_⟩
    refine LcS.add hq3 hle (by omega) ⟨sm, ?_⟩
    show _ ++ [V.bl (inV _ sgnV)] = _
    rw [in_sgn]; exact rep_snoc
  · rintro acc H3 hq3 ⟨sm, rfl⟩
    exact ⟨q, _, rfl, SqL.of hq3, by rw [all_rep]; exact k H3 (sm.trans off_le)⟩
def spBkI (T : Fx K mg) : Sp := fun vs H Q _ => ∃ (b dx ac am : Addr) (B : Bk), vs = [.ref b, .str (duS B.du), .ref ac, .ref am] ∧ H b = some (.ins T.cBo dx []) ∧ B.Ok ∧ Td (off [b] H) (ctD B.ct) (.ref ac) ∧ Td (off [b] H) (mkD B.mks) (.ref am) ∧
  ∀ H', Same (off [b] H) (off [b] H') → Fld K H' b "duties" (.str (duS B.du)) → Fld K H' b "many" (.int B.many) → Fld K H' b "counts" (.ref ac) → Fld K H' b "marks" (.ref am) → Q .non H'
theorem sc_book_init : FnScope ["self", "duties", "counts", "marks", "many", "count", "signs"] ["self", "duties", "counts", "marks"] (defScope s_book_init) := ⟨rfl, rfl, rfl, by decide +kernel, rfl, by decide +kernel, by decide +kernel⟩
theorem c_book_init (T : Fx K mg) (F : MakAt K mg "Book" T.cBo "Book.__init__" s_book_init) (c_is_duties : Cal P w K mg base CX0 4 "is_duties" ["thing"] (spDut)) (c_is_table : Cal P w K mg base CX0 1 "is_table" ["thing", "size"] (spTable)) (c_is_count : Cal P w K mg base CX0 3 "is_count" ["many", "thing"] (spCount)) (c_are_marks : Cal P w K mg base CX0 1 "are_marks" ["many", "thing"] (spMarks)) : Mak P w K mg base CX0 5 "Book" T.cBo ["self", "duties", "counts", "marks"] (spBkI T) := by
  refine mak_of F sc_book_init (fun _ _ _ _ _ _ _ us hl => match us, hl with | [_, _, _, _], _ => rfl) (fun vs H Q E h => ?_) (fun f cdv A outer s H vs Q E hr h => ?_)
  · obtain ⟨b, dx, ac, am, B, rfl, hb, O, hC, hM, k⟩ := h
    rfl
  obtain ⟨b, dx, ac, am, B, rfl, hb, O, hC, hM, k⟩ := h
  have hu := hu_of hr
  have nd := sc_book_init.nd
  refine ⟨_, (pss_cons (ps_if (pt_not (pt_val (pe_k c_is_duties hr (by decide) pass0 (pa_cons (pv 1) pa_nil)))) (pss_one ps_never) pss_nil)
  (pss_cons (ps_set (i := 4) nd rfl (Or.inr rfl) (pe_callB call_len_str rfl T.len boot_len (pa_cons (pv 1) pa_nil)))
  (pss_cons (ps_if (PW.pt (pw_or (pt_not (pt_val (pe_k c_is_table hr (by decide) pass0 (pa_cons (pv 2) (pa_cons (pe_ix ix_tup (pe_glob (v := .ref T.aP) rfl T.pow rfl) (pv 4) (fun _ _ => rfl)) pa_nil))))) (pw_or1 (pt_not (pt_val (pe_callB (cr_all rfl) rfl T.all boot_all (pa_cons (pe_lc (own := [("count", 5)]) rfl nd (pi_tup (pv 2)) (blkOk_by (by rfl)) (fun _ _ _ _ _ => (pg_name (i := 5) nd rfl (Or.inl rfl))) (fun _ _ _ _ _ => pts_nil) (fun _ _ _ _ _ => (pe_k c_is_count hr (by decide) pass0 (pa_cons (pv 4) (pa_cons (pv 5) pa_nil))))) pa_nil))))))) (pss_one ps_never) pss_nil)
  (pss_cons (ps_if (PW.pt (pw_or (pt_not (pt_val (pe_k c_is_table hr (by decide) pass0 (pa_cons (pv 3) (pa_cons (pe_ix ix_tup (pe_glob (v := .ref T.aP) rfl T.pow rfl) (pv 4) (fun _ _ => rfl)) pa_nil))))) (pw_or1 (pt_not (pt_val (pe_callB (cr_all rfl) rfl T.all boot_all (pa_cons (pe_lc (own := [("signs", 6)]) rfl nd (pi_tup (pv 3)) (blkOk_by (by rfl)) (fun _ _ _ _ _ => (pg_name (i := 6) nd rfl (Or.inl rfl))) (fun _ _ _ _ _ => pts_nil) (fun _ _ _ _ _ => (pe_k c_are_marks hr (by decide) pass0 (pa_cons (pv 4) (pa_cons (pv 6) pa_nil))))) pa_nil))))))) (pss_one ps_never) pss_nil)
  (pss_cons (ps_ini (pv 0) (pv 1) rfl)
  (pss_cons (ps_ini (pv 0) (pv 2) rfl)
  (pss_cons (ps_ini (pv 0) (pv 3) rfl)
  (pss_cons (ps_ini (pv 0) (pv 4) rfl)
  (pss_one (ps_ini (pv 0) pe_dnewK rfl)))))))))), ?_⟩
  have sz := sizeLine_eq
  have h16 := two_le O
  have hm1 := O.m1
  have hm4 := O.m4
  have hb0 : H b = some (.ins T.cBo dx (List.zip [] [])) := hb
  have NA : ∀ f, f ∈ [("duties" : Str), "counts", "marks", "many", "kept_facts"] → NoAttr K T.cBo f := T.naBo
  obtain ⟨_, cs, e1, hc, rc⟩ := hC.tup
  obtain rfl := V.ref.inj e1
  obtain ⟨_, ms, e2, hm, rm⟩ := hM.tup
  obtain rfl := V.ref.inj e2
  have hcl : cs.length = 2 ^ B.many := by rw [rc.length, List.length_map, O.lc]
  have hml : ms.length = 2 ^ B.many := by rw [rm.length, List.length_map, O.lm]
  have hc := off_le _ _ hc
  have hm := off_le _ _ hm
  have rc := rc.mono (H' := H) off_le
  have rm := rm.mono (H' := H) off_le
  refine ⟨_, rfl, B.du, rfl, by rw [O.ld]; omega, by rw [O.ld]; omega, fun H1 s1 => ⟨_, rfl, iteF ⟨_, rfl, _, rfl, by rw [du_length, O.ld]; omega, ?_⟩⟩⟩
  rw [du_length, O.ld]
  refine ⟨_, rfl, _, rfl, _, _, _, _, rfl, rfl, T.powT _, pow_at O.m8, ac, _, _, rfl, s1 _ _ hc, _, rfl, ?_⟩
  rw [hcl, dec_eq_true rfl]
  refine iteF ⟨_, rfl, ac, rfl, ⟨_, SqT.of (s1 _ _ hc)⟩, fun q hq => lc_by walk_tup (fun i acc H3 => Same H1 H3 ∧ acc = (List.replicate i true).map V.bl) hq ⟨Same.refl _, rfl⟩ (fun i acc H3 p => SqT.of (off_le _ _ (p.1 _ _ (s1 _ _ hc)))) ?_ ?_⟩
  · rintro i acc y _ H3 hi hle ⟨sm, rfl⟩ hq3 ⟨rfl, hy⟩
    rw [hcl] at hi
    obtain ⟨d, hd, td⟩ := rc.at hy
    have hi' : i < B.ct.length := by rw [O.lc]; exact hi
    rw [List.getElem?_map, some_of_lt (0, 0) hi'] at hd
    obtain rfl := Option.some.inj hd
    obtain ⟨c, c1, c2, rfl, hcc, t1, t2⟩ := two_vs td
    obtain rfl := t1.int
    obtain rfl := t2.int
    have hcc2 := O.cc _ (getD_mem (d := ((0 : Int), (0 : Int))) hi')
    refine ⟨rfl, _, rfl, _, rfl, B.many, c, B.ct.getD i (0, 0), rfl, (sm.trans off_le) _ _ (s1 _ _ hcc), hcc2.1, hcc2.2.1, hcc2.2.2, fun H4 s4 => ?_⟩
    exact LcS.add (s4 _ _ hq3) hle (by omega) ⟨sm.trans (kp_of s4), rep_snoc⟩
  · rintro acc H3 hq3 ⟨sm, rfl⟩
    have s13 : Same H1 H3 := sm.trans off_le
    have s03 := s1.trans s13
    refine ⟨q, _, rfl, SqL.of hq3, _, rfl, ?_⟩
    rw [all_rep]
    clear hq3 sm hq
    refine iteF ⟨_, rfl, _, rfl, _, _, _, _, rfl, rfl, T.powT _, pow_at O.m8, am, _, _, rfl, s03 _ _ hm, _, rfl, ?_⟩
    rw [hml, dec_eq_true rfl]
    refine iteF ⟨_, rfl, am, rfl, ⟨_, SqT.of (s03 _ _ hm)⟩, fun q hq => lc_by walk_tup (fun i acc H5 => Same H3 H5 ∧ acc = (List.replicate i true).map V.bl) hq ⟨Same.refl _, rfl⟩ (fun i acc H5 p => SqT.of (off_le _ _ (p.1 _ _ (s03 _ _ hm)))) ?_ ?_⟩
    · rintro i acc y _ H5 hi hle ⟨sm, rfl⟩ hq5 ⟨rfl, hy⟩
      rw [hml] at hi
      obtain ⟨d, hd, td⟩ := rm.at hy
      have hi' : i < B.mks.length := by rw [O.lm]; exact hi
      rw [List.getElem?_map, some_of_lt [] hi'] at hd
      obtain rfl := Option.some.inj hd
      obtain rfl := td.str
      have hll := O.lr _ (getD_mem (d := ([] : List Sg)) hi')
      refine ⟨rfl, _, rfl, _, rfl, B.mks.getD i [], by rw [hll]; rfl, by omega, fun H6 s6 => ?_⟩
      exact LcS.add (s6 _ _ hq5) hle (by omega) ⟨sm.trans (kp_of s6), rep_snoc⟩
    · rintro acc H5 hq5 ⟨sm, rfl⟩
      have s35 : Same H3 H5 := sm.trans off_le
      have s05 := s03.trans s35
      refine ⟨q, _, rfl, SqL.of hq5, _, rfl, ?_⟩
      rw [all_rep]
      clear hq5 sm hq
      refine iteF ?_
      have ob := s05 _ _ hb0
      refine ⟨_, rfl, _, rfl, b, _, dx, _, _, rfl, ob, rfl, (by decide +kernel), (by decide), T.clBo, NA _ (by simp), fun H6 o6 e6 => ?_⟩
      refine ⟨_, rfl, _, rfl, b, _, dx, _, _, rfl, o6, rfl, (by decide +kernel), (by decide), T.clBo, NA _ (by simp), fun H7 o7 e7 => ?_⟩
      refine ⟨_, rfl, _, rfl, b, _, dx, _, _, rfl, o7, rfl, (by decide +kernel), (by decide), T.clBo, NA _ (by simp), fun H8 o8 e8 => ?_⟩
      refine ⟨_, rfl, _, rfl, b, _, dx, _, _, rfl, o8, rfl, (by decide +kernel), (by decide), T.clBo, NA _ (by simp), fun H9 o9 e9 => ?_⟩
      intro d10 n10
      refine ⟨_, rfl, b, _, dx, _, _, rfl, (upd_ne (ne_of_none o9 n10)).trans o9, rfl, (by decide +kernel), (by decide), T.clBo, NA _ (by simp), fun H11 o11 e11 => ?_⟩
      have s : Same (off [b] H) (off [b] H11) := by
        rw [e11]
        refine Same.trans ?_ (kp_of (same_new n10))
        rw [e9, e8, e7, e6]
        exact kp_of s05
      have F : ∀ {f : Str} {i : Nat} {v : V} (hf : f ∈ [("duties" : Str), "counts", "marks", "many", "kept_facts"]) (hi : [("duties" : Str), "counts", "marks", "many", "kept_facts"][i]? = some f) (hv : [V.str (duS B.du), .ref ac, .ref am, .int ((B.many : Nat) : Int), .ref d10][i]? = some v), Fld K H11 b f v := fun hf hi hv =>
        ⟨_, dx, _, o11, T.clBo, NA _ hf, (lookup_zip (by decide +kernel) rfl hi).trans hv⟩
      exact k H11 s (F (i := 0) (by simp) rfl rfl) (F (i := 3) (by simp) rfl rfl) (F (i := 1) (by simp) rfl rfl) (F (i := 2) (by simp) rfl rfl)
end
end K31

set_option autoImplicit true
set_option Elab.async false
set_option autoImplicit false
set_option linter.all false
set_option maxRecDepth 100000
set_option maxHeartbeats 4000000
namespace K31
open PySem PySem.Spec PyProof.Rows L2
/-! the law's own defs: tape, pick, bits, number, other, size -/
/-- a statement with a middle behind it -/
def sMid (t : TS) : TS := fun D σ H => ∃ N : L2.St → Hp → Prop, t { D with nx := N } σ H ∧ ∀ σ' H', N σ' H' → D.nx σ' H'
theorem ps_mid {X : Cx} {st : Stmt} {t : TS} (h : PS X st t) : PS X st (sMid t) := ⟨fun pins s σ H D I hh => by
  obtain ⟨N, h1, h2⟩ := hh
  refine thn (h.run pins s σ H _ I h1) fun f s1 q => ?_
  cases f with
  | next => obtain ⟨σ', H', I', n⟩ := q; exact ⟨σ', H', I', h2 _ _ n⟩
  | brk => exact q
  | cont => exact q
  | ret u => exact q⟩
def TapeAt (H : Hp) (t c : Addr) : Prop := ∃ (ns : List Int) (a : Nat) (b m d : Int), H t = some (.lst [.ref c, .int (a : Nat), .int b, .int m, .int d]) ∧ H c = some (.lst (ns.map V.int)) ∧ c ≠ t
theorem TapeAt.mono {H H' : Hp} {t c : Addr} (h : TapeAt H t c) (k : Same H H') : TapeAt H' t c := let ⟨ns, a, b, m, d, h1, h2, h3⟩ := h; ⟨ns, a, b, m, d, k _ _ h1, k _ _ h2, h3⟩
theorem TapeAt.ht {H : Hp} {t c : Addr} (h : TapeAt H t c) : ∃ xs, H t = some (.lst xs) := let ⟨_, _, _, _, _, h1, _, _⟩ := h; ⟨_, h1⟩
theorem TapeAt.hc {H : Hp} {t c : Addr} (h : TapeAt H t c) : ∃ xs, H c = some (.lst xs) := let ⟨_, _, _, _, _, _, h2, _⟩ := h; ⟨_, h2⟩
theorem TapeAt.ne_t {H : Hp} {t c q : Addr} (h : TapeAt H t c) (n : H q = none) : q ≠ t := fun z => by obtain ⟨_, e⟩ := h.ht; rw [z, e] at n; cases n
theorem TapeAt.ne_c {H : Hp} {t c q : Addr} (h : TapeAt H t c) (n : H q = none) : q ≠ c := fun z => by obtain ⟨_, e⟩ := h.hc; rw [z, e] at n; cases n
theorem TapeAt.off {H : Hp} {t c : Addr} {S : List Addr} (h : TapeAt H t c) (h1 : t ∉ S) (h2 : c ∉ S) : TapeAt (off S H) t c := let ⟨ns, a, b, m, d, e1, e2, h3⟩ := h; ⟨ns, a, b, m, d, off_of e1 h1, off_of e2 h2, h3⟩
/-- the tape itself does not change -/
theorem TapeAt.kp {H H' : Hp} {t c : Addr} {S : List Addr} (h : TapeAt H t c) (k : Kp S H H') (h1 : t ∉ S) (h2 : c ∉ S) : TapeAt H' t c := let ⟨ns, a, b, m, d, e1, e2, h3⟩ := h; ⟨ns, a, b, m, d, k.get e1 h1, k.get e2 h2, h3⟩
section
variable {P : Program} {w : World} {K : PySem.W.Frag} {mg : Str → Option Value} {base : Heap}
def spTape (K : PySem.W.Frag) : Sp := fun vs H Q _ => ∃ (a : Addr) (ns : List Int), vs = [.ref a] ∧ SqL K H a (ns.map V.int) ∧ ∀ t c H', H t = none → Same H H' → TapeAt H' t c → Q (.ref t) H'
theorem sc_l_tape : FnScope ["_law_script"] ["_law_script"] (defScope s_l_tape) := ⟨rfl, rfl, rfl, by decide +kernel, rfl, by decide +kernel, by decide +kernel⟩
theorem c_l_tape (T : Fx K mg) (F : DefAt K mg "_law_tape" "_law_tape" s_l_tape) : Cal P w K mg base CX0 1 "_law_tape" ["_law_script"] (spTape K) := by
  refine cal_of F sc_l_tape (fun _ _ _ _ _ _ _ us hl => match us, hl with | [_], _ => rfl) (fun vs H Q E h => ?_) (fun f cdv A outer s H vs Q E hr h => ?_)
  · obtain ⟨a, ns, rfl, ha, k⟩ := h
    rfl
  obtain ⟨a, ns, rfl, ha, k⟩ := h
  have hu := hu_of hr
  have nd := sc_l_tape.nd
  refine ⟨_, (pss_one (ps_ret (pe_lst (pa_cons (pe_callTy call_list_of rfl T.list boot_list (pa_cons (pv 0) pa_nil)) (pa_cons pe_int (pa_cons pe_int (pa_cons pe_int (pa_cons pe_int pa_nil)))))))), ?_⟩
  refine ⟨_, rfl, a, _, rfl, .inl ha, fun l hl => ?_⟩
  refine ⟨(by show 5 ≤ sizeLine; decide), fun t ht => ?_⟩
  have hl' : (upd H l (.lst (ns.map V.int))) l = some (.lst (ns.map V.int)) := upd_same
  have hlt : l ≠ t := ne_of_none hl' ht
  refine k t l _ (by rw [upd_ne hlt.symm] at ht; exact ht) ((same_new hl).trans (same_new ht)) ⟨ns, 0, 0, 1, 0, upd_same, ?_, hlt⟩
  rw [upd_ne hlt]; exact hl'
def spPk : Sp := fun vs H Q _ => ∃ (t c : Addr) (n : Int), vs = [.ref t, .int n] ∧ TapeAt H t c ∧ 0 < n ∧ n < 2 ^ 200 ∧ ∀ (r : Int) H', 0 ≤ r → r < n → TapeAt H' t c → Kp [t] H H' → Q (.int r) H'
theorem small_div {n : Int} (h0 : 0 < n) (h : n < 2 ^ 200) (i : Int) : CDivW i n := wide_div (b := 200) h0 (by
  have : ((n.natAbs : Nat) : Int) = n := Int.natAbs_of_nonneg (by omega)
  have h2 : ((n.natAbs : Nat) : Int) < ((2 ^ 200 : Nat) : Int) := by rw [this]; exact h
  exact Int.ofNat_lt.mp h2) (by decide) (by decide)
theorem small_mod (x : Int) : -(2 ^ 64) < x % 2147483647 ∧ x % 2147483647 < 2 ^ 64 := ⟨by omega, by omega⟩
theorem sc_l_pick : FnScope ["_law_tape_here", "_law_size_here", "_law_digit", "_law_cell", "_law_mixed"] ["_law_tape_here", "_law_size_here"] (defScope s_l_pick) := ⟨rfl, rfl, rfl, by decide +kernel, rfl, by decide +kernel, by decide +kernel⟩
theorem c_l_pick (T : Fx K mg) (F : DefAt K mg "_law_pick" "_law_pick" s_l_pick) : Cal P w K mg base CX0 1 "_law_pick" ["_law_tape_here", "_law_size_here"] spPk := by
  refine cal_of F sc_l_pick (fun _ _ _ _ _ _ _ us hl => match us, hl with | [_, _], _ => rfl) (fun vs H Q E h => ?_) (fun f cdv A outer s H vs Q E hr h => ?_)
  · obtain ⟨t, c, n, rfl, ⟨ns, a, b, m, d, ht, hc, hct⟩, h0, h200, k⟩ := h
    rfl
  obtain ⟨t, c, n, rfl, ⟨ns, a, b, m, d, ht, hc, hct⟩, h0, h200, k⟩ := h
  have hu := hu_of hr
  have nd := sc_l_pick.nd
  refine ⟨_, (pss_cons (ps_if (pt_cmpR op_gt (pe_ix ix_list (pv 0) pe_int (fun _ _ => rfl)) pe_int (nomark _)) (pss_cons (ps_set (i := 2) nd rfl (Or.inl rfl) (pe_op op_mod (pe_callTy call_int1 rfl T.int boot_int (pa_cons (pe_ix ix_list (pv 0) pe_int (fun _ _ => rfl)) pa_nil)) (pv 1)))
  (pss_cons (ps_asg (pe_op op_fdivW (pe_ix ix_list (pv 0) pe_int (fun _ _ => rfl)) (pv 1)) (pg_sub (pv 0) pe_int set_list))
  (pss_one (ps_ret (pv 2))))) pss_nil)
  (pss_cons (ps_asg (pe_op op_add (pe_ix ix_list (pv 0) pe_int (fun _ _ => rfl)) pe_int) (pg_sub (pv 0) pe_int set_list))
  (pss_cons (ps_set (i := 3) nd rfl (Or.inl rfl) pe_int)
  (pss_cons (ps_mid (ps_if (pt_cmpR op_lt (pe_ix ix_list (pv 0) pe_int (fun _ _ => rfl)) (pe_callB call_len_seq rfl T.len boot_len (pa_cons (pe_ix ix_list (pv 0) pe_int (fun _ _ => rfl)) pa_nil)) (nomark _)) (pss_cons (ps_set (i := 3) nd rfl (Or.inl rfl) (pe_ix ix_list (pe_ix ix_list (pv 0) pe_int (fun _ _ => rfl)) (pe_ix ix_list (pv 0) pe_int (fun _ _ => rfl)) (fun _ _ => rfl)))
  (pss_one (ps_asg (pe_op op_add (pe_ix ix_list (pv 0) pe_int (fun _ _ => rfl)) pe_int) (pg_sub (pv 0) pe_int set_list)))) pss_nil))
  (pss_cons (ps_if (pt_cmpR op_ge (pv 3) (pe_op op_pow pe_int pe_int) (nomark _)) (pss_cons (ps_asg (pe_op op_fdivW (pv 3) (pv 1)) (pg_sub (pv 0) pe_int set_list))
  (pss_one (ps_ret (pe_op op_mod (pe_callTy call_int1 rfl T.int boot_int (pa_cons (pv 3) pa_nil)) (pv 1))))) pss_nil)
  (pss_cons (ps_set (i := 4) nd rfl (Or.inl rfl) (pe_op op_mod (pe_callTy call_int1 rfl T.int boot_int (pa_cons (pe_op op_add (pe_op op_add (pe_op op_mul (pe_ix ix_list (pv 0) pe_int (fun _ _ => rfl)) pe_int) (pe_op op_mod (pe_callTy call_int1 rfl T.int boot_int (pa_cons (pv 3) pa_nil)) pe_int)) (pe_op op_mul (pe_ix ix_list (pv 0) pe_int (fun _ _ => rfl)) pe_int)) pa_nil)) pe_int))
  (pss_cons (ps_set (i := 4) nd rfl (Or.inl rfl) (pe_op op_mod (pe_callTy call_int1 rfl T.int boot_int (pa_cons (pe_op op_mul (pv 4) (pe_op op_add (pe_op op_fdivW (pv 4) pe_int) pe_int)) pa_nil)) pe_int))
  (pss_cons (ps_asg (pv 4) (pg_sub (pv 0) pe_int set_list))
  (pss_one (ps_ret (pe_op op_mod (pe_callTy call_int1 rfl T.int boot_int (pa_cons (pe_op op_fdivW (pv 4) pe_int) pa_nil)) (pv 1)))))))))))), ?_⟩
  have mod0 : ∀ i : Int, 0 ≤ i % n := fun i => Int.emod_nonneg i (by omega)
  have modn : ∀ i : Int, i % n < n := fun i => Int.emod_lt_of_pos i h0
  refine ⟨_, rfl, _, _, _, _, rfl, rfl, SqL.of ht, rfl, _, _, rfl, rfl, _, rfl, ite2 (fun z => ?_) (fun z => ?_)⟩
  · refine ⟨_, rfl, _, _, _, _, rfl, rfl, SqL.of ht, rfl, .inl ⟨_, rfl, _, rfl, _, _, rfl, rfl, h0, ?_⟩⟩
    refine ⟨_, rfl, _, _, _, _, rfl, rfl, SqL.of ht, rfl, _, rfl, _, _, rfl, rfl, small_div h0 h200 _, _, rfl, t, _, _, 2, rfl, rfl, ht, rfl, ?_⟩
    exact ⟨_, rfl, k _ _ (mod0 _) (modn _) ⟨ns, a, _, m, d, upd_same, by rw [upd_ne hct]; exact hc, hct⟩ (kp_upd (by simp))⟩
  · clear z
    refine ⟨_, rfl, _, _, _, _, rfl, rfl, SqL.of ht, rfl, _, _, rfl, rfl, _, rfl, t, _, _, 4, rfl, rfl, ht, rfl, ?_⟩
    have k1 : Kp [t] H (upd H t (.lst [.ref c, .int (a : Nat), .int b, .int m, .int (d + 1)])) := kp_upd (by simp)
    have h1 : (upd H t (.lst [.ref c, .int (a : Nat), .int b, .int m, .int (d + 1)])) t = some (.lst [.ref c, .int (a : Nat), .int b, .int m, .int (d + 1)]) := upd_same
    have hc1 : (upd H t (.lst [.ref c, .int (a : Nat), .int b, .int m, .int (d + 1)])) c = some (.lst (ns.map V.int)) := by rw [upd_ne hct]; exact hc
    refine ⟨fun σ' H' => ∃ (cell : Int) (a : Nat) (d : Int), σ' = [some (.ref t), some (.int n), none, some (.int cell), none] ∧ H' t = some (.lst [.ref c, .int (a : Nat), .int b, .int m, .int d]) ∧ H' c = some (.lst (ns.map V.int)) ∧ Kp [t] H H', ?_, ?_⟩
    · refine ⟨_, rfl, _, _, _, _, rfl, rfl, SqL.of h1, rfl, _, rfl, _, _, _, _, rfl, rfl, SqL.of h1, rfl, _, _, rfl, .inl (SqL.of hc1), ?_⟩
      rw [List.length_map]
      refine ⟨_, _, rfl, rfl, _, rfl, ite2 (fun z => ?_) (fun z => ⟨0, a, d + 1, rfl, h1, hc1, k1⟩)⟩
      have z : a < ns.length := by have := of_decide_eq_true z; omega
      refine ⟨_, rfl, _, _, _, _, rfl, rfl, SqL.of h1, rfl, _, rfl, _, _, _, _, rfl, rfl, SqL.of h1, rfl, _, _, _, _, rfl, rfl, SqL.of hc1, atI_nat (ints_at z), ?_⟩
      refine ⟨_, rfl, _, _, _, _, rfl, rfl, SqL.of h1, rfl, _, _, rfl, rfl, _, rfl, t, _, _, 1, rfl, rfl, h1, rfl, ?_⟩
      exact ⟨_, a + 1, d + 1, rfl, upd_same, by rw [upd_ne hct]; exact hc1, k1.trans (kp_upd (by simp))⟩
    · rintro σ' H2 ⟨cell, a2, d2, rfl, h2, hc2, k2⟩
      clear h1 hc1 k1 ht hc
      refine ⟨_, rfl, _, _, rfl, rfl, ⟨by decide, by decide, by decide⟩, _, _, rfl, rfl, _, rfl, ite2 (fun z => ?_) (fun z => ?_)⟩
      · refine ⟨_, rfl, _, rfl, _, _, rfl, rfl, small_div h0 h200 _, _, rfl, t, _, _, 2, rfl, rfl, h2, rfl, ?_⟩
        exact ⟨_, rfl, .inl ⟨_, rfl, _, rfl, _, _, rfl, rfl, h0, k _ _ (mod0 _) (modn _) ⟨ns, a2, _, m, d2, upd_same, by rw [upd_ne hct]; exact hc2, hct⟩ (k2.trans (kp_upd (by simp)))⟩⟩
      · refine ⟨_, rfl, _, _, _, _, rfl, rfl, SqL.of h2, rfl, _, _, rfl, rfl, .inr ⟨by decide, by decide⟩, _, rfl, .inl ⟨_, rfl, _, _, rfl, rfl, (by show (0 : Int) < 2147483629; decide), _, _, rfl, rfl, _, rfl, _, _, _, _, rfl, rfl, SqL.of h2, rfl, _, _, rfl, rfl, .inr ⟨by decide, by decide⟩, _, _, rfl, rfl, .inl ⟨_, rfl, _, _, rfl, rfl, (by show (0 : Int) < 2147483647; decide), ?_⟩⟩⟩
        refine ⟨_, rfl, _, rfl, _, _, rfl, rfl, small_div (n := 1009) (by decide) (by decide) _, _, _, rfl, rfl, _, _, rfl, rfl, .inl (small_mod _), .inl ⟨_, rfl, _, _, rfl, rfl, (by show (0 : Int) < 2147483399; decide), ?_⟩⟩
        refine ⟨_, rfl, _, rfl, t, _, _, 3, rfl, rfl, h2, rfl, ?_⟩
        exact ⟨_, rfl, _, _, rfl, rfl, small_div (n := 16) (by decide) (by decide) _, .inl ⟨_, rfl, _, rfl, _, _, rfl, rfl, h0, k _ _ (mod0 _) (modn _) ⟨ns, a2, b, _, d2, upd_same, by rw [upd_ne hct]; exact hc2, hct⟩ (k2.trans (kp_upd (by simp)))⟩⟩
end
end K31

set_option autoImplicit true
set_option Elab.async false
set_option autoImplicit false
set_option linter.all false
set_option maxRecDepth 100000
set_option maxHeartbeats 4000000
namespace K31
open PySem PySem.Spec PyProof.Rows L2
/-! the law's own defs: bits, number, other, size -/
def bitsTo (row k : Nat) : List Int := (List.range k).map fun m => ((row / 2 ^ (k - 1 - m) % 2 : Nat) : Int)
theorem bitsTo_succ (row k : Nat) : bitsTo row (k + 1) = ((row / 2 ^ k % 2 : Nat) : Int) :: bitsTo row k := by
  unfold bitsTo
  rw [List.range_succ_eq_map, List.map_cons, List.map_map]
  refine congr (congrArg List.cons rfl) (List.map_congr_left fun m _ => ?_)
  show ((row / 2 ^ (k + 1 - 1 - (m + 1)) % 2 : Nat) : Int) = _
  rw [show k + 1 - 1 - (m + 1) = k - 1 - m by omega]
theorem bitsTo_len (row k : Nat) : (bitsTo row k).length = k := by unfold bitsTo; simp
theorem bitsTo_at {row k m : Nat} (h : m < k) : (bitsTo row k).getD m 0 = if yes k row m then 1 else 0 := by
  have e : (bitsTo row k).getD m 0 = ((row / 2 ^ (k - 1 - m) % 2 : Nat) : Int) := getD_of_some (by unfold bitsTo; rw [List.getElem?_map, List.getElem?_range h]; rfl)
  rw [e]
  unfold yes
  have h2 : row / 2 ^ (k - 1 - m) % 2 = 0 ∨ row / 2 ^ (k - 1 - m) % 2 = 1 := by omega
  rcases h2 with z | z <;> rw [z] <;> rfl
def numL (ns : List Int) : Int := ns.foldl (fun f x => 2 * f + x) 0
def otherOk (many : Nat) : Bool := (List.range (2 ^ many)).all fun r => (List.range many).all fun m => decide (numL ((bitsTo r many).set m (1 - (bitsTo r many).getD m 0)) = ((turnN many r m : Nat) : Int))
theorem other_ok {many : Nat} (h1 : 1 ≤ many) (h4 : many ≤ 4) {r m : Nat} (hr : r < 2 ^ many) (hm : m < many) : numL ((bitsTo r many).set m (1 - (bitsTo r many).getD m 0)) = ((turnN many r m : Nat) : Int) := by
  have h : otherOk many = true := cases4 (P := fun many => otherOk many = true) (by decide +kernel) (by decide +kernel) (by decide +kernel) (by decide +kernel) h1 h4
  have h2 := (List.all_eq_true.mp h) r (List.mem_range.mpr hr)
  exact of_decide_eq_true ((List.all_eq_true.mp h2) m (List.mem_range.mpr hm))
theorem div2 (row i : Nat) : ((row / 2 ^ i : Nat) : Int) / 2 = ((row / 2 ^ (i + 1) : Nat) : Int) := by
  rw [Nat.pow_succ, ← Nat.div_div_eq_div_mul]; omega
section
variable {P : Program} {w : World} {K : PySem.W.Frag} {mg : Str → Option Value} {base : Heap}
def spBits : Sp := fun vs H Q _ => ∃ many row : Nat, vs = [.int (many : Nat), .int (row : Nat)] ∧ many ≤ 4 ∧ ∀ q H', Same H H' → H' q = some (.tup ((bitsTo row many).map V.int)) → Q (.ref q) H'
theorem sc_l_bits : FnScope ["_law_many", "_law_row", "_law_found", "_law_k"] ["_law_many", "_law_row"] (defScope s_l_bits) := ⟨rfl, rfl, rfl, by decide +kernel, rfl, by decide +kernel, by decide +kernel⟩
theorem c_l_bits (T : Fx K mg) (F : DefAt K mg "_law_bits" "_law_bits" s_l_bits) : Cal P w K mg base CX0 1 "_law_bits" ["_law_many", "_law_row"] spBits := by
  refine cal_of F sc_l_bits (fun _ _ _ _ _ _ _ us hl => match us, hl with | [_, _], _ => rfl) (fun vs H Q E h => ?_) (fun f cdv A outer s H vs Q E hr h => ?_)
  · obtain ⟨many, row, rfl, h4, k⟩ := h
    rfl
  obtain ⟨many, row, rfl, h4, k⟩ := h
  have hu := hu_of hr
  have nd := sc_l_bits.nd
  refine ⟨_, (pss_cons (ps_set (i := 2) nd rfl (Or.inl rfl) (pe_lst pa_nil))
  (pss_cons (ps_for (passes_of rfl) rfl (pi_range1 rfl T.range (pa_cons (pv 0) pa_nil)) (pg_name (i := 3) nd rfl (Or.inl rfl)) (pss_cons (ps_set (i := 2) nd rfl (Or.inl rfl) (pe_op op_cat (pe_lst (pa_cons (pe_op op_mod (pe_callTy call_int1 rfl T.int boot_int (pa_cons (pv 1) pa_nil)) pe_int) pa_nil)) (pv 2)))
  (pss_one (ps_set (i := 1) nd rfl (Or.inl rfl) (pe_op op_fdivW (pv 1) pe_int)))))
  (pss_one (ps_ret (pe_callTy call_tuple_of rfl T.tuple boot_tuple (pa_cons (pv 2) pa_nil)))))), ?_⟩
  have sz := sizeLine_eq
  refine ⟨Nat.zero_le _, fun l0 n0 => ?_⟩
  refine ⟨_, rfl, _, rfl, (rng_ok (by omega)).1, (rng_ok (by omega)).2, ?_⟩
  refine for_it walk_r (fun i σ H1 => ∃ fd x3, σ = [some (.int (many : Nat)), some (.int ((row / 2 ^ i : Nat) : Int)), some (.ref fd), x3] ∧ Same H H1 ∧ H1 fd = some (.lst ((bitsTo row i).map V.int))) ⟨l0, none, by rw [Nat.pow_zero, Nat.div_one]; rfl, same_new n0, upd_same⟩ (fun _ _ _ _ _ => trivial) ?_ ?_
  · rintro i _ σ _ H1 hi ⟨fd, x3, rfl, s1, e1⟩ ⟨rfl, rfl⟩
    have hi : i < many := hi
    refine ⟨_, rfl, .inl ⟨_, rfl, _, _, rfl, rfl, (by show (0 : Int) < 2; decide), (by show 1 ≤ sizeLine; decide), fun p np => ?_⟩⟩
    have s2 := same_new (o := .lst [.int (((row / 2 ^ i : Nat) : Int) % 2)]) np
    refine ⟨_, rfl, p, fd, _, _, rfl, rfl, upd_same, s2 _ _ e1, by rw [List.length_map, bitsTo_len]; simp; omega, fun p3 n3 => ?_⟩
    have s3 := same_new (o := .lst ([.int (((row / 2 ^ i : Nat) : Int) % 2)] ++ (bitsTo row i).map V.int)) n3
    refine ⟨_, rfl, _, _, rfl, rfl, pow_div (j := 1) (by decide) _, p3, some (.int (i : Nat)), ?_, (s1.trans s2).trans s3, ?_⟩
    · rw [← div2]; rfl
    · rw [upd_same, bitsTo_succ]; rfl
  · rintro σ H1 ⟨fd, x3, rfl, s1, e1⟩
    exact ⟨_, rfl, fd, _, rfl, .inl ⟨SqL.of e1, fun l hl => k l _ (s1.trans (same_new hl)) upd_same⟩⟩
def spNum : Sp := fun vs H Q _ => ∃ (a : Addr) (ns : List Int), vs = [.ref a] ∧ H a = some (.lst (ns.map V.int)) ∧ Q (.int (numL ns)) H
theorem sc_l_number : FnScope ["_law_slips", "_law_found", "_law_slip"] ["_law_slips"] (defScope s_l_number) := ⟨rfl, rfl, rfl, by decide +kernel, rfl, by decide +kernel, by decide +kernel⟩
theorem c_l_number (T : Fx K mg) (F : DefAt K mg "_law_number" "_law_number" s_l_number) : Cal P w K mg base CX0 1 "_law_number" ["_law_slips"] spNum := by
  refine cal_of F sc_l_number (fun _ _ _ _ _ _ _ us hl => match us, hl with | [_], _ => rfl) (fun vs H Q E h => ?_) (fun f cdv A outer s H vs Q E hr h => ?_)
  · obtain ⟨a, ns, rfl, ha, k⟩ := h
    rfl
  obtain ⟨a, ns, rfl, ha, k⟩ := h
  have hu := hu_of hr
  have nd := sc_l_number.nd
  refine ⟨_, (pss_cons (ps_set (i := 1) nd rfl (Or.inl rfl) pe_int)
  (pss_cons (ps_for (passes_of rfl) rfl (pi_list (pv 0)) (pg_name (i := 2) nd rfl (Or.inl rfl)) (pss_one (ps_set (i := 1) nd rfl (Or.inl rfl) (pe_op op_add (pe_op op_mul pe_int (pv 1)) (pv 2)))))
  (pss_one (ps_ret (pv 1))))), ?_⟩
  refine ⟨_, rfl, a, rfl, ⟨_, SqL.of ha⟩, ?_⟩
  refine for_it walk_list (fun i σ H1 => ∃ x2, σ = [some (.ref a), some (.int (numL (ns.take i))), x2] ∧ H1 = H) ⟨none, rfl, rfl⟩ (fun i σ H1 _ p => by obtain ⟨_, _, rfl⟩ := p; exact SqL.of ha) ?_ ?_
  · rintro i y σ _ H1 hi ⟨x2, rfl, rfl⟩ ⟨rfl, hy⟩
    rw [List.length_map] at hi
    rw [ints_at hi] at hy
    obtain rfl := Option.some.inj hy
    refine ⟨_, rfl, _, _, rfl, rfl, .inl ⟨by decide, by decide⟩, _, rfl, _, _, rfl, rfl, some (.int (ns.getD i 0)), ?_, rfl⟩
    have : numL (ns.take (i + 1)) = 2 * numL (ns.take i) + ns.getD i 0 := by
      unfold numL
      rw [List.take_succ, some_of_lt 0 hi]
      show List.foldl _ _ (ns.take i ++ [ns.getD i 0]) = _
      rw [List.foldl_append]; rfl
    rw [this]; rfl
  · rintro σ H1 ⟨x2, rfl, rfl⟩
    rw [List.length_map, List.take_length]
    exact ⟨_, rfl, k⟩
def spOther : Sp := fun vs H Q _ => ∃ many row m : Nat, vs = [.int (many : Nat), .int (row : Nat), .int (m : Nat)] ∧ 1 ≤ many ∧ many ≤ 4 ∧ row < 2 ^ many ∧ m < many ∧ ∀ H', Same H H' → Q (.int (turnN many row m : Nat)) H'
theorem sc_l_other : FnScope ["_law_many", "_law_row", "_law_member", "_law_slips"] ["_law_many", "_law_row", "_law_member"] (defScope s_l_other) := ⟨rfl, rfl, rfl, by decide +kernel, rfl, by decide +kernel, by decide +kernel⟩
theorem c_l_other (T : Fx K mg) (F : DefAt K mg "_law_other" "_law_other" s_l_other) (c_l_bits : Cal P w K mg base CX0 1 "_law_bits" ["_law_many", "_law_row"] (spBits)) (c_l_number : Cal P w K mg base CX0 1 "_law_number" ["_law_slips"] (spNum)) : Cal P w K mg base CX0 2 "_law_other" ["_law_many", "_law_row", "_law_member"] spOther := by
  refine cal_of F sc_l_other (fun _ _ _ _ _ _ _ us hl => match us, hl with | [_, _, _], _ => rfl) (fun vs H Q E h => ?_) (fun f cdv A outer s H vs Q E hr h => ?_)
  · obtain ⟨many, row, m, rfl, h1, h4, hr', hm, k⟩ := h
    rfl
  obtain ⟨many, row, m, rfl, h1, h4, hr', hm, k⟩ := h
  have hu := hu_of hr
  have nd := sc_l_other.nd
  refine ⟨_, (pss_cons (ps_set (i := 3) nd rfl (Or.inl rfl) (pe_callTy call_list_of rfl T.list boot_list (pa_cons (pe_k c_l_bits hr (by decide) pass0 (pa_cons (pv 0) (pa_cons (pv 1) pa_nil))) pa_nil)))
  (pss_cons (ps_asg (pe_op op_sub pe_int (pe_ix ix_list (pv 3) (pv 2) (fun _ _ => rfl))) (pg_sub (pv 3) (pv 2) set_list))
  (pss_one (ps_ret (pe_k c_l_number hr (by decide) pass0 (pa_cons (pv 3) pa_nil)))))), ?_⟩
  refine ⟨_, rfl, _, rfl, many, row, rfl, h4, fun q H1 s1 e1 => ⟨q, _, rfl, .inr (SqT.of e1), fun l hl => ?_⟩⟩
  have hlen : m < (bitsTo row many).length := by rw [bitsTo_len]; exact hm
  refine ⟨_, rfl, _, rfl, _, _, _, _, rfl, rfl, SqL.of upd_same, atI_nat (ints_at hlen), _, _, rfl, rfl, _, rfl, _, rfl, l, _, _, m, rfl, rfl, upd_same, ixN_nat (by rw [List.length_map]; exact hlen), ?_⟩
  rw [← List.map_set, upd_upd]
  refine ⟨_, rfl, l, _, rfl, upd_same, ?_⟩
  have := k _ (s1.trans (same_new (o := .lst (((bitsTo row many).set m (1 - (bitsTo row many).getD m 0)).map V.int)) hl))
  rw [← other_ok h1 h4 hr' hm] at this
  exact this
def spSize : Sp := fun vs H Q _ => ∃ many : Nat, vs = [.int (many : Nat)] ∧ many ≤ 4 ∧ Q (.int ((2 ^ many : Nat) : Int)) H
theorem sc_l_size : FnScope ["_law_many", "_law_found", "_law_k"] ["_law_many"] (defScope s_l_size) := ⟨rfl, rfl, rfl, by decide +kernel, rfl, by decide +kernel, by decide +kernel⟩
theorem c_l_size (T : Fx K mg) (F : DefAt K mg "_law_size" "_law_size" s_l_size) : Cal P w K mg base CX0 1 "_law_size" ["_law_many"] spSize := by
  refine cal_of F sc_l_size (fun _ _ _ _ _ _ _ us hl => match us, hl with | [_], _ => rfl) (fun vs H Q E h => ?_) (fun f cdv A outer s H vs Q E hr h => ?_)
  · obtain ⟨many, rfl, h4, k⟩ := h
    rfl
  obtain ⟨many, rfl, h4, k⟩ := h
  have hu := hu_of hr
  have nd := sc_l_size.nd
  refine ⟨_, (pss_cons (ps_set (i := 1) nd rfl (Or.inl rfl) pe_int)
  (pss_cons (ps_for (passes_of rfl) rfl (pi_range1 rfl T.range (pa_cons (pv 0) pa_nil)) (pg_name (i := 2) nd rfl (Or.inl rfl)) (pss_one (ps_set (i := 1) nd rfl (Or.inl rfl) (pe_op op_mul pe_int (pv 1)))))
  (pss_one (ps_ret (pv 1))))), ?_⟩
  refine ⟨_, rfl, _, rfl, (rng_ok (by omega)).1, (rng_ok (by omega)).2, ?_⟩
  refine for_it walk_r (fun i σ H1 => ∃ x2, σ = [some (.int (many : Nat)), some (.int ((2 ^ i : Nat) : Int)), x2] ∧ H1 = H) ⟨none, rfl, rfl⟩ (fun _ _ _ _ _ => trivial) ?_ ?_
  · rintro i _ σ _ H1 hi ⟨x2, rfl, rfl⟩ ⟨rfl, rfl⟩
    refine ⟨_, rfl, _, _, rfl, rfl, .inl ⟨by decide, by decide⟩, some (.int (i : Nat)), ?_, rfl⟩
    have : ((2 ^ (i + 1) : Nat) : Int) = 2 * ((2 ^ i : Nat) : Int) := by rw [Nat.pow_succ]; omega
    rw [this]; rfl
  · rintro σ H1 ⟨x2, rfl, rfl⟩
    exact ⟨_, rfl, k⟩
end
end K31

set_option autoImplicit true
set_option Elab.async false
set_option autoImplicit false
set_option linter.all false
set_option maxRecDepth 100000
set_option maxHeartbeats 4000000
namespace K31
open PySem PySem.Spec PyProof.Rows L2
/-! the law's own defs: duties, rule -/
theorem mul_du (d : Du) {n : Nat} (h1 : 1 ≤ n) (h4 : n ≤ 4) : Txt.mul ⟨#[d.c]⟩ ((n : Nat) : Int) = duS (List.replicate n d) :=
  cases4 (P := fun n => Txt.mul ⟨#[d.c]⟩ ((n : Nat) : Int) = duS (List.replicate n d)) (by cases d <;> rfl) (by cases d <;> rfl) (by cases d <;> rfl) (by cases d <;> rfl) h1 h4
theorem join_du : ∀ {l : List Du}, l.length ≤ 4 → Txt.join (Str.ofString "") (l.map fun d => (⟨#[d.c]⟩ : Str)) = duS l
  | [], _ => by rfl
  | [x], _ => by cases x <;> rfl
  | [x, y], _ => by cases x <;> cases y <;> rfl
  | [x, y, z], _ => by cases x <;> cases y <;> cases z <;> rfl
  | [x, y, z, u], _ => by cases x <;> cases y <;> cases z <;> cases u <;> rfl
  | _ :: _ :: _ :: _ :: _ :: _, h => by simp at h
theorem three {r : Int} (h0 : 0 ≤ r) (h3 : r < 3) : r = 0 ∨ r = 1 ∨ r = 2 := by omega
theorem two {r : Int} (h0 : 0 ≤ r) (h3 : r < 2) : r = 0 ∨ r = 1 := by omega
theorem kp_same {S : List Addr} {H H1 H2 : Hp} (k : Kp S H H1) (s : Same H1 H2) : Kp S H H2 := k.trans (kp_of s)
section
variable {P : Program} {w : World} {K : PySem.W.Frag} {mg : Str → Option Value} {base : Heap}
def spDuties : Sp := fun vs H Q _ => ∃ (t c : Addr) (many : Nat), vs = [.ref t, .int (many : Nat)] ∧ TapeAt H t c ∧ 1 ≤ many ∧ many ≤ 4 ∧ ∀ (l : List Du) H', l.length = many → TapeAt H' t c → Kp [t] H H' → Q (.str (duS l)) H'
theorem sc_l_duties : FnScope ["_law_tape_here", "_law_many", "_law_kind", "_law_k"] ["_law_tape_here", "_law_many"] (defScope s_l_duties) := ⟨rfl, rfl, rfl, by decide +kernel, rfl, by decide +kernel, by decide +kernel⟩
theorem c_l_duties (T : Fx K mg) (F : DefAt K mg "_law_duties" "_law_duties" s_l_duties) (c_l_pick : Cal P w K mg base CX0 1 "_law_pick" ["_law_tape_here", "_law_size_here"] (spPk)) : Cal P w K mg base CX0 2 "_law_duties" ["_law_tape_here", "_law_many"] spDuties := by
  refine cal_of F sc_l_duties (fun _ _ _ _ _ _ _ us hl => match us, hl with | [_, _], _ => rfl) (fun vs H Q E h => ?_) (fun f cdv A outer s H vs Q E hr h => ?_)
  · obtain ⟨t, c, many, rfl, hT, h1, h4, k⟩ := h
    rfl
  obtain ⟨t, c, many, rfl, hT, h1, h4, k⟩ := h
  have hu := hu_of hr
  have nd := sc_l_duties.nd
  refine ⟨_, (pss_cons (ps_set (i := 2) nd rfl (Or.inl rfl) (pe_k c_l_pick hr (by decide) pass0 (pa_cons (pv 0) (pa_cons pe_int pa_nil))))
  (pss_cons (ps_if (pt_cmpR op_lt (pv 2) pe_int (nomark _)) (pss_one (ps_ret (pe_op op_mul_str (pe_ix ix_list (pe_lst (pa_cons pe_str (pa_cons pe_str (pa_cons pe_str pa_nil)))) (pv 2) (fun _ _ => rfl)) (pv 1)))) pss_nil)
  (pss_one (ps_ret (pe_join pe_str (pe_lc (own := [("_law_k", 3)]) rfl nd (pi_range1 rfl T.range (pa_cons (pv 1) pa_nil)) (blkOk_by (by rfl)) (fun _ _ _ _ _ => (pg_name (i := 3) nd rfl (Or.inl rfl))) (fun _ _ _ _ _ => pts_nil) (fun _ _ _ _ _ => (pe_ix (ix_listK K) (pe_lst (pa_cons pe_str (pa_cons pe_str (pa_cons pe_str pa_nil)))) (pe_k c_l_pick hr (by decide) pass0 (pa_cons (pv 0) (pa_cons pe_int pa_nil))) (fun _ _ => rfl))))))))), ?_⟩
  have sz := sizeLine_eq
  refine ⟨_, rfl, t, c, 5, rfl, hT, by decide, by decide, fun r H1 r0 r5 T1 k1 => ?_⟩
  refine ⟨_, rfl, _, _, rfl, rfl, _, rfl, ite2 (fun z => ?_) (fun z => ?_)⟩
  · have z := of_decide_eq_true z
    obtain ⟨d, hd⟩ : ∃ d : Du, atI [V.str "n", .str "n", .str "a"] r = some (.str ⟨#[d.c]⟩) := by
      rcases three r0 z with rfl | rfl | rfl
      · exact ⟨.n, rfl⟩
      · exact ⟨.n, rfl⟩
      · exact ⟨.a, rfl⟩
    refine ⟨(by show 3 ≤ sizeLine; decide), fun p np => ?_⟩
    have s2 := same_new (o := .lst [V.str "n", .str "n", .str "a"]) np
    refine ⟨_, rfl, _, _, _, _, rfl, rfl, SqL.of upd_same, hd, _, rfl, _, _, rfl, rfl, by omega, by omega, rfl, ?_⟩
    rw [mul_du d h1 h4]
    exact k _ _ (by simp) (T1.mono s2) (kp_same k1 s2)
  · clear z
    refine ⟨⟨_, rfl⟩, _, rfl, _, rfl, (rng_ok (by omega)).1, (rng_ok (by omega)).2, fun q nq => lc_by walk_r (fun i acc H3 => TapeAt H3 t c ∧ Kp [t] H1 H3 ∧ ∃ l : List Du, l.length = i ∧ acc = (l.map fun d => (⟨#[d.c]⟩ : Str)).map V.str) nq ⟨T1, Kp.refl _ _, [], rfl, rfl⟩ (fun _ _ _ _ => trivial) ?_ ?_⟩
    · rintro i acc _ _ H3 hi hle ⟨T3, k3, l, hl, rfl⟩ hq ⟨rfl, rfl⟩
      have hi : i < many := hi
      have htq : t ∉ [q] := by obtain ⟨_, e⟩ := T3.ht; exact off_not e
      have hcq : c ∉ [q] := by obtain ⟨_, e⟩ := T3.hc; exact off_not e
      have hqt : q ≠ t := fun z => htq (by simp [z])
      refine ⟨rfl, (by show 3 ≤ sizeLine; decide), fun p np => ?_⟩
      have s4 := same_new (o := .lst [V.str "n", .str "a", .str "m"]) np
      have T4 := (T3.mono off_le).mono s4
      have hpt : p ≠ t := (T3.mono off_le).ne_t np
      refine ⟨_, rfl, t, c, 3, rfl, T4, by decide, by decide, fun r H5 r0 r3 T5 k5 => ?_⟩
      obtain ⟨d, hd⟩ : ∃ d : Du, atI [V.str "n", .str "a", .str "m"] r = some (.str ⟨#[d.c]⟩) := by
        rcases three r0 r3 with rfl | rfl | rfl
        · exact ⟨.n, rfl⟩
        · exact ⟨.a, rfl⟩
        · exact ⟨.m, rfl⟩
      have hp5 := k5.get (upd_same (o := .lst [V.str "n", .str "a", .str "m"]) (H := H3)) (by simpa using hpt)
      have hq5 := k5.get (s4 _ _ hq) (by simpa using hqt)
      refine ⟨_, _, _, _, rfl, rfl, SqL.of hp5, hd, LcS.add hq5 hle (by omega) ⟨T5.off htq hcq, ?_, l ++ [d], by rw [len_snoc, hl], by rw [List.map_append, List.map_append]; rfl⟩⟩
      intro b o e
      have h1 := k3 b o e
      have h2 := off_le _ _ h1
      have h3 := off_le _ _ (k5 b o (off_of (s4 _ _ (off_le _ _ h2)) (off_not e)))
      exact off_of (off_of h3 (off_not h2)) (off_not e)
    · rintro acc H3 hq ⟨T3, k3, l, hl, rfl⟩
      have hl : l.length = many := hl
      have hsum : ∀ l : List Du, ((l.map fun d => (⟨#[d.c]⟩ : Str)).map (·.length)).sum = l.length := fun l => by
        induction l with
        | nil => rfl
        | cons a r ih => rw [List.map_cons, List.map_cons, List.sum_cons, ih, List.length_cons]; show 1 + _ = _; omega
      refine ⟨_, q, _, rfl, rfl, .inl (SqL.of hq), by rw [hsum]; show l.length + _ * 0 ≤ _; omega, ?_⟩
      rw [join_du (by omega)]
      exact k l H3 hl (T3.mono off_le) (k1.trans (k3.trans (kp_of off_le)))
end
end K31

set_option autoImplicit true
set_option Elab.async false
set_option autoImplicit false
set_option linter.all false
set_option maxRecDepth 100000
set_option maxHeartbeats 4000000
namespace K31
open PySem PySem.Spec PyProof.Rows L2
/-! the law's own def rule -/
theorem nodup_len : ∀ (n : Nat) (l : List Nat), l.Nodup → (∀ x ∈ l, x < n) → l.length ≤ n
  | 0, l, _, h => by
    cases l with
    | nil => exact Nat.le_refl _
    | cons a r => exact absurd (h a (List.mem_cons_self ..)) (Nat.not_lt_zero a)
  | n + 1, l, hn, h => by
    by_cases c : n ∈ l
    · have h1 := nodup_len n (l.erase n) (hn.erase n) (fun x hx => by
        have h2 := (List.Nodup.mem_erase_iff hn).mp hx
        have := h x h2.2
        have := h2.1
        omega)
      rw [List.length_erase_of_mem c] at h1
      omega
    · have h1 := nodup_len n l hn (fun x hx => by
        have := h x hx
        have : x ≠ n := fun z => c (z ▸ hx)
        omega)
      omega
def dn (i j r m : Nat) : Prop := r < i ∨ (r = i ∧ m < j)
structure PInv (many : Nat) (d : Nat → Du) (i j : Nat) (L : List (List Nat)) : Prop where
  l : L.length = 2 ^ many
  nd : ∀ v, v < 2 ^ many → (L.getD v []).Nodup
  lt : ∀ v m, v < 2 ^ many → m ∈ L.getD v [] → m < many
  dn : ∀ v m, v < 2 ^ many → m ∈ L.getD v [] → dn i j v m ∨ (d m ≠ .m ∧ yes many v m = true ∧ dn i j (turnN many v m) m)
def turnT (many : Nat) : Bool := (List.range (2 ^ many)).all fun r => (List.range many).all fun m => yes many r m || (yes many (turnN many r m) m && (decide (turnN many (turnN many r m) m = r) && (decide (turnN many r m < 2 ^ many) && decide (r < turnN many r m))))
theorem turn_ok {many : Nat} (h1 : 1 ≤ many) (h4 : many ≤ 4) {r m : Nat} (hr : r < 2 ^ many) (hm : m < many) (hy : yes many r m = false) :
    yes many (turnN many r m) m = true ∧ turnN many (turnN many r m) m = r ∧ turnN many r m < 2 ^ many ∧ r < turnN many r m := by
  have h : turnT many = true := cases4 (P := fun many => turnT many = true) (by decide +kernel) (by decide +kernel) (by decide +kernel) (by decide +kernel) h1 h4
  have h3 := (List.all_eq_true.mp ((List.all_eq_true.mp h) r (List.mem_range.mpr hr))) m (List.mem_range.mpr hm)
  rw [hy, Bool.false_or, Bool.and_eq_true, Bool.and_eq_true, Bool.and_eq_true] at h3
  exact ⟨h3.1, of_decide_eq_true h3.2.1, of_decide_eq_true h3.2.2.1, of_decide_eq_true h3.2.2.2⟩
section
variable {many i j : Nat} {d : Nat → Du} {L : List (List Nat)}
theorem PInv.weak (p : PInv many d i j L) : PInv many d i (j + 1) L := ⟨p.l, p.nd, p.lt, fun v m hv hm => by
  rcases p.dn v m hv hm with z | ⟨z1, z2, z3⟩
  · left; unfold K31.dn at *; omega
  · right; refine ⟨z1, z2, ?_⟩; unfold K31.dn at *; omega⟩
theorem PInv.row (p : PInv many d i many L) : PInv many d (i + 1) 0 L := ⟨p.l, p.nd, p.lt, fun v m hv hm => by
  have hlt := p.lt v m hv hm
  rcases p.dn v m hv hm with z | ⟨z1, z2, z3⟩
  · left; unfold K31.dn at *; omega
  · right; refine ⟨z1, z2, ?_⟩; unfold K31.dn at *; omega⟩
theorem PInv.len (p : PInv many d i j L) {v : Nat} (hv : v < 2 ^ many) : (L.getD v []).length ≤ many := nodup_len many _ (p.nd v hv) (fun x hx => p.lt v x hv hx)
theorem PInv.own (p : PInv many d i j L) (hi : i < 2 ^ many) (h : d j = .m ∨ yes many i j = false) : j ∉ L.getD i [] := fun hm => by
  rcases p.dn i j hi hm with z | ⟨z1, z2, z3⟩
  · unfold K31.dn at z; omega
  · rcases h with h | h
    · exact z1 h
    · rw [h] at z2; cases z2
theorem PInv.oth (p : PInv many d i j L) (h1 : 1 ≤ many) (h4 : many ≤ 4) (hi : i < 2 ^ many) (hj : j < many) (hy : yes many i j = false) : j ∉ L.getD (turnN many i j) [] := fun hm => by
  obtain ⟨t1, t2, t3, t4⟩ := turn_ok h1 h4 hi hj hy
  rcases p.dn _ j t3 hm with z | ⟨z1, z2, z3⟩
  · unfold K31.dn at z; omega
  · rw [t2] at z3
    unfold K31.dn at z3; omega
theorem PInv.add (p : PInv many d i (j + 1) L) {v : Nat} (hv : v < 2 ^ many) (hj : j < many) (hn : j ∉ L.getD v []) (hd : K31.dn i (j + 1) v j ∨ (d j ≠ .m ∧ yes many v j = true ∧ K31.dn i (j + 1) (turnN many v j) j)) : PInv many d i (j + 1) (L.set v (L.getD v [] ++ [j])) := by
  have hvl : v < L.length := by rw [p.l]; exact hv
  have e : ∀ u, (L.set v (L.getD v [] ++ [j])).getD u [] = if u = v then L.getD v [] ++ [j] else L.getD u [] := fun u => getD_set hvl
  refine ⟨by rw [List.length_set]; exact p.l, fun u hu => ?_, fun u m hu hm => ?_, fun u m hu hm => ?_⟩
  · rw [e]
    split
    · exact List.nodup_append.mpr ⟨p.nd v hv, by simp, fun a ha b hb z => by rw [List.mem_singleton.mp hb] at z; exact hn (z ▸ ha)⟩
    · exact p.nd u hu
  · rw [e] at hm
    split at hm
    · rcases List.mem_append.mp hm with z | z
      · exact p.lt v m hv z
      · rw [List.mem_singleton.mp z]; exact hj
    · exact p.lt u m hu hm
  · rw [e] at hm
    split at hm
    · rename_i c
      subst c
      rcases List.mem_append.mp hm with z | z
      · exact p.dn _ m hv z
      · rw [List.mem_singleton.mp z]; exact hd
    · exact p.dn u m hu hm
end
structure RowsAt (H : Hp) (rows : List Addr) (L : List (List Nat)) : Prop where
  nd : rows.Nodup
  ln : rows.length = L.length
  at_ : ∀ (i : Nat) (a : Addr), rows[i]? = some a → H a = some (.lst (nvs (L.getD i [])))
theorem RowsAt.mono {H H' : Hp} {rows : List Addr} {L : List (List Nat)} (h : RowsAt H rows L) (k : Same H H') : RowsAt H' rows L := ⟨h.nd, h.ln, fun i a e => k _ _ (h.at_ i a e)⟩
theorem RowsAt.kp {H H' : Hp} {S rows : List Addr} {L : List (List Nat)} (h : RowsAt H rows L) (k : Kp S H H') (d : ∀ a ∈ rows, a ∉ S) : RowsAt H' rows L := ⟨h.nd, h.ln, fun i a e => k.get (h.at_ i a e) (d a (List.mem_of_getElem? e))⟩
theorem RowsAt.get {H : Hp} {rows : List Addr} {L : List (List Nat)} (h : RowsAt H rows L) {v : Nat} (hv : v < L.length) : ∃ a, rows[v]? = some a ∧ (rows.map V.ref)[v]? = some (.ref a) ∧ H a = some (.lst (nvs (L.getD v []))) := by
  have hv' : v < rows.length := by rw [h.ln]; exact hv
  exact ⟨rows[v], List.getElem?_eq_getElem hv', by rw [List.getElem?_map, List.getElem?_eq_getElem hv']; rfl, h.at_ v _ (List.getElem?_eq_getElem hv')⟩
theorem RowsAt.set {H : Hp} {rows : List Addr} {L : List (List Nat)} (h : RowsAt H rows L) {v : Nat} {a : Addr} (ha : rows[v]? = some a) (l : List Nat) : RowsAt (upd H a (.lst (nvs l))) rows (L.set v l) := by
  have hv : v < L.length := by rw [← h.ln]; exact (List.getElem?_eq_some_iff.mp ha).1
  refine ⟨h.nd, by rw [List.length_set]; exact h.ln, fun i b hb => ?_⟩
  rw [getD_set hv]
  by_cases c : i = v
  · subst c
    rw [if_pos rfl]
    obtain rfl := Option.some.inj (ha.symm.trans hb)
    exact upd_same
  · rw [if_neg c, upd_ne (fun z => c (nodup_ix h.nd (by rw [← z]; exact hb) ha))]
    exact h.at_ i b hb
section
variable {P : Program} {w : World} {K : PySem.W.Frag} {mg : Str → Option Value} {base : Heap}
def spRuleL : Sp := fun vs H Q _ => ∃ (t c : Addr) (l : List Du), vs = [.ref t, .str (duS l)] ∧ TapeAt H t c ∧ 1 ≤ l.length ∧ l.length ≤ 4 ∧ ∀ v (rule : List (List Nat)) H', TapeAt H' t c → Kp [t] H H' → Td (off [t] H') (ruleD rule) v → rule.length = 2 ^ l.length → (∀ r ∈ rule, r.length ≤ l.length ∧ ∀ x ∈ r, x < l.length) → Q v H'
theorem perm_nat {ns : List Nat} {ms : List Int} (h : ms.Perm (ns.map fun n => ((n : Nat) : Int))) : ∃ ks : List Nat, ms = (ks.map fun n => ((n : Nat) : Int)) ∧ ks.length = ns.length ∧ ∀ x ∈ ks, x ∈ ns := by
  refine ⟨ms.map Int.toNat, ?_, by rw [List.length_map, h.length_eq, List.length_map], fun x hx => ?_⟩
  · rw [List.map_map]
    refine Eq.trans (List.map_id ms).symm (List.map_congr_left fun x hx => ?_)
    obtain ⟨n, _, rfl⟩ := List.mem_map.mp (h.mem_iff.mp hx)
    simp
  · obtain ⟨y, hy, rfl⟩ := List.mem_map.mp hx
    obtain ⟨n, hn, rfl⟩ := List.mem_map.mp (h.mem_iff.mp hy)
    simpa using hn
theorem sc_l_rule : FnScope ["_law_tape_here", "_law_duties_here", "_law_many", "_law_size_here", "_law_rows", "_law_thin", "_law_row", "_law_slips", "_law_member", "_law_other_here", "_law_picked"] ["_law_tape_here", "_law_duties_here"] (defScope s_l_rule) := ⟨rfl, rfl, rfl, by decide +kernel, rfl, by decide +kernel, by decide +kernel⟩
theorem c_l_rule (T : Fx K mg) (F : DefAt K mg "_law_rule" "_law_rule" s_l_rule) (c_l_pick : Cal P w K mg base CX0 1 "_law_pick" ["_law_tape_here", "_law_size_here"] (spPk)) (c_l_bits : Cal P w K mg base CX0 1 "_law_bits" ["_law_many", "_law_row"] (spBits)) (c_l_other : Cal P w K mg base CX0 2 "_law_other" ["_law_many", "_law_row", "_law_member"] (spOther)) (c_l_size : Cal P w K mg base CX0 1 "_law_size" ["_law_many"] (spSize)) : Cal P w K mg base CX0 3 "_law_rule" ["_law_tape_here", "_law_duties_here"] spRuleL := by
  refine cal_of F sc_l_rule (fun _ _ _ _ _ _ _ us hl => match us, hl with | [_, _], _ => rfl) (fun vs H Q E h => ?_) (fun f cdv A outer s H vs Q E hr h => ?_)
  · obtain ⟨t, c, l, rfl, hT, h1, h4, k⟩ := h
    rfl
  obtain ⟨t, c, l, rfl, hT, h1, h4, k⟩ := h
  have hu := hu_of hr
  have nd := sc_l_rule.nd
  refine ⟨_, (pss_cons (ps_set (i := 2) nd rfl (Or.inl rfl) (pe_callB call_len_str rfl T.len boot_len (pa_cons (pv 1) pa_nil)))
  (pss_cons (ps_set (i := 3) nd rfl (Or.inl rfl) (pe_k c_l_size hr (by decide) pass0 (pa_cons (pv 2) pa_nil)))
  (pss_cons (ps_setLc (i := 4) (own := [("_law_row", 6)]) rfl nd rfl rfl (sw_true rfl rfl rfl (by decide +kernel)) (pi_range1 rfl T.range (pa_cons (pv 3) pa_nil)) (blkOk_by (by rfl)) (fun _ _ _ _ _ => (pg_name (i := 6) nd rfl (Or.inl rfl))) (fun _ _ _ _ _ => pts_nil) (fun _ _ _ _ _ => (pe_lst pa_nil)))
  (pss_cons (ps_set (i := 5) nd rfl (Or.inl rfl) (pe_op op_add pe_int (pe_k c_l_pick hr (by decide) pass0 (pa_cons (pv 0) (pa_cons pe_int pa_nil)))))
  (pss_cons (ps_for (passes_of rfl) rfl (pi_range1 rfl T.range (pa_cons (pv 3) pa_nil)) (pg_name (i := 6) nd rfl (Or.inl rfl)) (pss_cons (ps_set (i := 7) nd rfl (Or.inl rfl) (pe_k c_l_bits hr (by decide) pass0 (pa_cons (pv 2) (pa_cons (pv 6) pa_nil))))
  (pss_one (ps_for (passes_of rfl) rfl (pi_range1 rfl T.range (pa_cons (pv 2) pa_nil)) (pg_name (i := 8) nd rfl (Or.inl rfl)) (pss_cons (ps_set (i := 9) nd rfl (Or.inl rfl) (pe_k c_l_other hr (by decide) pass0 (pa_cons (pv 2) (pa_cons (pv 6) (pa_cons (pv 8) pa_nil)))))
  (pss_cons (ps_mid (ps_if (PW.pt (pw_and (pt_cmpR op_eq (pe_ix ix_tup (pv 7) (pv 8) (fun _ _ => rfl)) pe_int (nomark _)) (pw_and (pt_cmpR op_eq (pe_ix ix_str (pv 1) (pv 8) (fun _ _ => rfl)) pe_str (nomark _)) (pw_and1 (pt_cmpR op_eq (pe_k c_l_pick hr (by decide) pass0 (pa_cons (pv 0) (pa_cons (pv 5) pa_nil))) pe_int (nomark _)))))) (pss_cons (ps_expr (pe_bm PySem.F.plainAttrs_list PySem.F.slot_list_append PySem.F.type_list_append mt_append (pe_ix ix_list (pv 4) (pv 6) (fun _ _ => rfl)) (pa_cons (pv 8) pa_nil)))
  (pss_one (ps_expr (pe_bm PySem.F.plainAttrs_list PySem.F.slot_list_append PySem.F.type_list_append mt_append (pe_ix ix_list (pv 4) (pv 9) (fun _ _ => rfl)) (pa_cons (pv 8) pa_nil))))) pss_nil))
  (pss_cons (ps_mid (ps_if (PW.pt (pw_and (pt_cmpR op_eq (pe_ix ix_tup (pv 7) (pv 8) (fun _ _ => rfl)) pe_int (nomark _)) (pw_and1 (pt_cmpR op_eq (pe_ix ix_str (pv 1) (pv 8) (fun _ _ => rfl)) pe_str (nomark _))))) (pss_one (ps_expr (pe_bm PySem.F.plainAttrs_list PySem.F.slot_list_append PySem.F.type_list_append mt_append (pe_ix ix_list (pv 4) (pe_ix ix_list (pe_lst (pa_cons (pv 6) (pa_cons (pv 9) pa_nil))) (pe_k c_l_pick hr (by decide) pass0 (pa_cons (pv 0) (pa_cons pe_int pa_nil))) (fun _ _ => rfl)) (fun _ _ => rfl)) (pa_cons (pv 8) pa_nil)))) pss_nil))
  (pss_one (ps_if (PW.pt (pw_and (pt_cmpR op_eq (pe_ix ix_str (pv 1) (pv 8) (fun _ _ => rfl)) pe_str (nomark _)) (pw_and1 (pt_cmpR op_eq (pe_k c_l_pick hr (by decide) pass0 (pa_cons (pv 0) (pa_cons (pv 5) pa_nil))) pe_int (nomark _))))) (pss_one (ps_expr (pe_bm PySem.F.plainAttrs_list PySem.F.slot_list_append PySem.F.type_list_append mt_append (pe_ix ix_list (pv 4) (pv 6) (fun _ _ => rfl)) (pa_cons (pv 8) pa_nil)))) pss_nil)))))))))
  (pss_one (ps_ret (pe_callTy call_tuple_of rfl T.tuple boot_tuple (pa_cons (pe_lc (own := [("_law_picked", 10)]) rfl nd (pi_list (pv 4)) (blkOk_by (by rfl)) (fun _ _ _ _ _ => (pg_name (i := 10) nd rfl (Or.inl rfl))) (fun _ _ _ _ _ => pts_nil) (fun _ _ _ _ _ => (pe_callTy (call_tuple_ofK K) rfl T.tuple boot_tuple (pa_cons (pe_callB (cr_sortedK K) rfl T.sorted boot_sorted (pa_cons (pv 10) pa_nil)) pa_nil)))) pa_nil))))))))), ?_⟩
  have sz := sizeLine_eq
  have h16 : 2 ^ l.length ≤ 16 := Nat.le_trans (Nat.pow_le_pow_right (by decide) h4) (by decide)
  have hdl : (duS l).length ≤ sizeLine := by rw [du_length]; omega
  refine ⟨_, rfl, _, rfl, hdl, ?_⟩
  rw [du_length]
  generalize hmany : l.length = many at *
  refine ⟨_, rfl, many, rfl, h4, ?_⟩
  refine ⟨_, rfl, _, rfl, (rng_ok (by omega)).1, (rng_ok (by omega)).2, fun q nq => lc_by walk_r (fun i acc H1 => ∃ rows : List Addr, acc = rows.map V.ref ∧ RowsAt H1 rows (List.replicate i []) ∧ Same H H1 ∧ ∀ a ∈ rows, H a = none) nq ⟨[], rfl, ⟨List.nodup_nil, rfl, fun i a e => by simp at e⟩, Same.refl _, fun a ha => by cases ha⟩ (fun _ _ _ _ => trivial) ?_ ?_⟩
  · rintro i acc _ _ H1 hi hle ⟨rows, rfl, hR, sm, hno⟩ hq ⟨rfl, rfl⟩
    have hi : i < 2 ^ many := hi
    refine ⟨rfl, Nat.zero_le _, fun p np => ?_⟩
    have hpq : p ≠ q := fun z => by rw [z, hq] at np; cases np
    have hpS : p ∉ [q] := by simpa using hpq
    have np' : off [q] H1 p = none := by unfold off; rw [if_neg hpS]; exact np
    have hq' : (upd H1 p (.lst [])) q = some (.lst (rows.map V.ref)) := by rw [upd_ne hpq.symm]; exact hq
    have e5 : off [q] (upd H1 p (.lst [])) = upd (off [q] H1) p (.lst []) := off_upd_ne hpS
    have hlr : rows.length = i := by rw [hR.ln]; simp
    refine LcS.add hq' hle (by omega) ⟨rows ++ [p], by rw [List.map_append]; rfl, ⟨?_, by rw [len_snoc, hlr]; simp, fun v a ha => ?_⟩, ?_, fun a ha => ?_⟩
    · refine List.nodup_append.mpr ⟨hR.nd, by simp, fun a ha b hb z => ?_⟩
      rw [List.mem_singleton.mp hb] at z
      obtain ⟨v, hv⟩ := List.getElem?_of_mem ha
      rw [z] at hv
      rw [hR.at_ v p hv] at np'; cases np'
    · have hg : ∀ v, (List.replicate (i + 1) ([] : List Nat)).getD v [] = [] := fun v => by
        unfold List.getD; rw [List.getElem?_replicate]; split <;> rfl
      have hg2 : ∀ v, (List.replicate i ([] : List Nat)).getD v [] = [] := fun v => by
        unfold List.getD; rw [List.getElem?_replicate]; split <;> rfl
      rw [e5, hg]
      rcases Nat.lt_or_ge v rows.length with z | z
      · rw [List.getElem?_append_left z] at ha
        have h2 := hR.at_ v a ha
        rw [hg2] at h2
        rw [upd_ne (fun y => by rw [y, np'] at h2; cases h2)]
        exact h2
      · have : a = p := by
          have := List.mem_of_getElem? ha
          rw [List.getElem?_append_right z] at ha
          simpa using List.mem_of_getElem? ha
        rw [this, upd_same]; rfl
    · rw [e5]; exact sm.trans (same_new np')
    · rcases List.mem_append.mp ha with z | z
      · exact hno a z
      · rw [List.mem_singleton.mp z]; exact none_of sm np'
  · rintro acc H1 hq1 ⟨rows, rfl, hR1, sm, hno⟩
    have hR1' := hR1.mono off_le
    have s1 : Same H H1 := sm.trans off_le
    have T1 := hT.mono s1
    obtain ⟨_, eT⟩ := hT.ht
    obtain ⟨_, eC⟩ := hT.hc
    have hrt : ∀ a ∈ rows, a ≠ t := fun a ha z => by have := hno a ha; rw [z, eT] at this; cases this
    have hrc : ∀ a ∈ rows, a ≠ c := fun a ha z => by have := hno a ha; rw [z, eC] at this; cases this
    have hqt : q ≠ t := hT.ne_t nq
    have hct : c ≠ t := by obtain ⟨_, _, _, _, _, _, _, h⟩ := hT; exact h
    have hqr : q ∉ rows := fun z => by
      obtain ⟨v, hv⟩ := List.getElem?_of_mem z
      exact off_not (hR1.at_ v q hv) (by simp)
    have hqS : q ∉ t :: rows := fun z => by
      rcases List.mem_cons.mp z with z | z
      · exact hqt z
      · exact hqr z
    clear hR1 sm nq
    refine ⟨_, rfl, t, c, 2, rfl, T1, by decide, by decide, fun r2 H2 r0 r2' T2 k2 => ?_⟩
    have hR2 := hR1'.kp k2 (fun a ha => by simpa using hrt a ha)
    have hq2 := k2.get hq1 (by simpa using hqt)
    refine ⟨_, _, rfl, rfl, ?_⟩
    have hth : 0 < 2 + r2 ∧ 2 + r2 < 2 ^ 200 := ⟨by omega, by omega⟩
    let Cm : Hp → List (List Nat) → Prop := fun H' L => TapeAt H' t c ∧ Kp (t :: rows) H2 H' ∧ RowsAt H' rows L
    have cmT : ∀ {H' H'' : Hp} {L}, Cm H' L → TapeAt H'' t c → Kp [t] H' H'' → Cm H'' L := fun {H' H'' L} cm T'' kk => ⟨T'', cm.2.1.trans (kk.mono (by simp)), cm.2.2.kp kk (fun a ha => by simpa using hrt a ha)⟩
    have cmS : ∀ {H' H'' : Hp} {L}, Cm H' L → Same H' H'' → Cm H'' L := fun cm s => ⟨cm.1.mono s, kp_same cm.2.1 s, cm.2.2.mono s⟩
    have cmA : ∀ {H' : Hp} {L} {v : Nat} {a : Addr} (x : List Nat), Cm H' L → rows[v]? = some a → Cm (upd H' a (.lst (nvs x))) (L.set v x) := fun {H' L v a} x cm ha => by
      have ham := List.mem_of_getElem? ha
      exact ⟨cm.1.kp (S := [a]) (kp_upd (by simp)) (by simpa using (hrt a ham).symm) (by simpa using (hrc a ham).symm), cm.2.1.trans (kp_upd (List.mem_cons_of_mem _ ham)), cm.2.2.set ha x⟩
    have cmQ : ∀ {H' : Hp} {L}, Cm H' L → H' q = some (.lst (rows.map V.ref)) := fun cm => cm.2.1.get hq2 hqS
    have du_at' : ∀ {j : Nat}, j < many → atI (duS l).cps.toList ((j : Nat) : Int) = some (l.getD j .m).c := fun hj => du_ix (by omega)
    generalize hd : (fun j => l.getD j Du.m) = d
    have hd' : ∀ j, l.getD j Du.m = d j := fun j => congrFun hd j
    have P0 : PInv many d 0 0 (List.replicate (2 ^ many) []) := by
      have hg2 : ∀ v, (List.replicate (2 ^ many) ([] : List Nat)).getD v [] = [] := fun v => by
        unfold List.getD; rw [List.getElem?_replicate]; split <;> rfl
      refine ⟨by simp, fun v _ => ?_, fun v m _ hm => ?_, fun v m _ hm => ?_⟩
      · rw [hg2]; exact List.nodup_nil
      · rw [hg2] at hm; cases hm
      · rw [hg2] at hm; cases hm
    refine ⟨_, rfl, _, rfl, (rng_ok (by omega)).1, (rng_ok (by omega)).2, ?_⟩
    refine for_it walk_r (fun i σ H3 => ∃ x6 x7 x8 x9 L, σ = [some (.ref t), some (.str (duS l)), some (.int (many : Nat)), some (.int ((2 ^ many : Nat) : Int)), some (.ref q), some (.int (2 + r2)), x6, x7, x8, x9, none] ∧ Cm H3 L ∧ PInv many d i 0 L) ⟨none, none, none, none, _, rfl, ⟨T2, Kp.refl _ _, hR2⟩, P0⟩ (fun _ _ _ _ _ => trivial) ?_ ?_
    · rintro i _ σ _ H3 hi ⟨x6, x7, x8, x9, L, rfl, cm3, p3⟩ ⟨rfl, rfl⟩
      have hi : i < 2 ^ many := hi
      refine ⟨_, rfl, _, rfl, many, i, rfl, h4, fun sl H4 s4 e4 => ?_⟩
      have cm4 := cmS cm3 s4
      have slA : ∀ {H' : Hp} {L} {v : Nat} {a : Addr} {o : HO} {xs : List V}, Cm H' L → rows[v]? = some a → H' sl = some (.tup xs) → (upd H' a o) sl = some (.tup xs) := fun {H' L v a o xs} cm ha e => by
        rw [upd_ne (fun z => by rw [z, cm.2.2.at_ _ _ ha] at e; cases e)]; exact e
      have slT : ∀ {H' H'' : Hp} {xs : List V}, TapeAt H' t c → Kp [t] H' H'' → H' sl = some (.tup xs) → H'' sl = some (.tup xs) := fun {H' H'' xs} T' kk e => kk.get e (by
        obtain ⟨_, e'⟩ := T'.ht
        intro z
        simp at z
        rw [z, e'] at e; cases e)
      refine ⟨_, rfl, _, rfl, (rng_ok (by omega)).1, (rng_ok (by omega)).2, ?_⟩
      refine for_it walk_r (fun j σ H5 => ∃ x8 x9 L, σ = [some (.ref t), some (.str (duS l)), some (.int (many : Nat)), some (.int ((2 ^ many : Nat) : Int)), some (.ref q), some (.int (2 + r2)), some (.int (i : Nat)), some (.ref sl), x8, x9, none] ∧ Cm H5 L ∧ PInv many d i j L ∧ H5 sl = some (.tup ((bitsTo i many).map V.int))) ⟨x8, x9, L, rfl, cm4, p3, e4⟩ (fun _ _ _ _ _ => trivial) ?_ ?_
      · rintro j _ σ _ H5 hj ⟨x8, x9, L, rfl, cm5, p5, e5⟩ ⟨rfl, rfl⟩
        have hj : j < many := hj
        refine ⟨_, rfl, _, rfl, _, rfl, many, i, j, rfl, h1, h4, hi, hj, fun H6 s6 => ?_⟩
        have cm6 := cmS cm5 s6
        have e6 := s6 _ _ e5
        -- one number more in a row
        have szR : ∀ {L : List (List Nat)} {j' v : Nat}, PInv many d i j' L → v < 2 ^ many → (nvs (L.getD v [])).length < sizeLine := fun p hv => by rw [nvs_len]; have := p.len hv; omega
        let Nd : (List (List Nat) → Prop) → L2.St → Hp → Prop := fun R σ' H' => ∃ L, σ' = [some (.ref t), some (.str (duS l)), some (.int (many : Nat)), some (.int ((2 ^ many : Nat) : Int)), some (.ref q), some (.int (2 + r2)), some (.int (i : Nat)), some (.ref sl), some (.int (j : Nat)), some (.int (turnN many i j : Nat)), none] ∧ Cm H' L ∧ H' sl = some (.tup ((bitsTo i many).map V.int)) ∧ R L
        have hbl : j < (bitsTo i many).length := by rw [bitsTo_len]; exact hj
        have yes0 : decide ((if yes many i j then (1 : Int) else 0) = 0) = true → yes many i j = false := fun z => by
          cases h : yes many i j with
          | false => rfl
          | true => rw [h] at z; exact absurd z (by decide)
        refine ⟨Nd (fun L => (d j = .n ∧ PInv many d i (j + 1) L) ∨ PInv many d i j L), ?_, ?_⟩
        · refine ⟨_, rfl, _, rfl, _, _, _, _, rfl, rfl, SqT.of e6, atI_nat (ints_at hbl), rfl, _, rfl, ?_⟩
          rw [dec_int, bitsTo_at hj]
          refine ite2 (fun y => ?_) (fun _ => ⟨L, rfl, cm6, e6, .inr p5⟩)
          have y := yes0 y
          obtain ⟨t1, t2, t3, t4⟩ := turn_ok h1 h4 hi hj y
          refine ⟨_, rfl, _, rfl, _, _, _, rfl, rfl, hdl, du_at' hj, rfl, _, rfl, ?_⟩
          rw [dec_n, hd']
          refine ite2 (fun z => ?_) (fun _ => ⟨L, rfl, cm6, e6, .inr p5⟩)
          have z := of_decide_eq_true z
          refine ⟨_, rfl, _, rfl, t, c, 2 + r2, rfl, cm6.1, hth.1, hth.2, fun r3 H7 _ _ T7 k7 => ?_⟩
          have cm7 := cmT cm6 T7 k7
          have e7 := slT cm6.1 k7 e6
          refine ⟨rfl, _, rfl, ite2 (fun _ => ?_) (fun _ => ⟨L, rfl, cm7, e7, .inr p5⟩)⟩
          have pw := p5.weak
          have ow := p5.own hi (.inr y)
          have ot := p5.oth h1 h4 hi hj y
          have pa := pw.add hi hj ow (.inl (.inr ⟨rfl, by omega⟩))
          obtain ⟨a1, g1, g2, g3⟩ := cm7.2.2.get (v := i) (by rw [p5.l]; exact hi)
          refine ⟨_, rfl, _, rfl, _, _, _, _, rfl, rfl, SqL.of (cmQ cm7), atI_nat g2, .inl ⟨rfl, _, .inl (.inl g3)⟩, _, rfl, a1, _, _, rfl, rfl, g3, szR p5 hi, ?_⟩
          rw [nvs_snoc]
          have cm8 := cmA (L.getD i [] ++ [j]) cm7 g1
          have e8 := slA (o := .lst (nvs (L.getD i [] ++ [j]))) cm7 g1 e7
          have hne : (L.set i (L.getD i [] ++ [j])).getD (turnN many i j) [] = L.getD (turnN many i j) [] := by rw [getD_set (by rw [p5.l]; exact hi), if_neg (by omega)]
          obtain ⟨a2, f1, f2, f3⟩ := cm8.2.2.get (v := turnN many i j) (by rw [pa.l]; exact t3)
          refine ⟨_, rfl, _, rfl, _, _, _, _, rfl, rfl, SqL.of (cmQ cm8), atI_nat f2, .inl ⟨rfl, _, .inl (.inl f3)⟩, _, rfl, a2, _, _, rfl, rfl, f3, szR pa t3, ?_⟩
          rw [nvs_snoc]
          have pb := pa.add t3 hj (by rw [hne]; exact ot) (.inr ⟨by rw [z]; exact fun q => (by cases q), t1, by rw [t2]; exact .inr ⟨rfl, by omega⟩⟩)
          exact ⟨_, rfl, cmA _ cm8 f1, slA cm8 f1 e8, .inl ⟨z, pb⟩⟩
        · rintro σ' H7 ⟨L7, rfl, cm7, e7, p7⟩
          refine ⟨Nd (fun L => (d j ≠ .m ∧ PInv many d i (j + 1) L) ∨ PInv many d i j L), ?_, ?_⟩
          · have fall : ∀ {H' : Hp}, Cm H' L7 → H' sl = some (.tup ((bitsTo i many).map V.int)) → Nd (fun L => (d j ≠ .m ∧ PInv many d i (j + 1) L) ∨ PInv many d i j L) [some (.ref t), some (.str (duS l)), some (.int (many : Nat)), some (.int ((2 ^ many : Nat) : Int)), some (.ref q), some (.int (2 + r2)), some (.int (i : Nat)), some (.ref sl), some (.int (j : Nat)), some (.int (turnN many i j : Nat)), none] H' := fun cm e =>
              ⟨L7, rfl, cm, e, by
                rcases p7 with ⟨z1, z2⟩ | z
                · exact .inl ⟨by rw [z1]; exact fun q => (by cases q), z2⟩
                · exact .inr z⟩
            refine ⟨_, rfl, _, rfl, _, _, _, _, rfl, rfl, SqT.of e7, atI_nat (ints_at hbl), rfl, _, rfl, ?_⟩
            rw [dec_int, bitsTo_at hj]
            refine ite2 (fun y => ?_) (fun _ => fall cm7 e7)
            have y := yes0 y
            obtain ⟨t1, t2, t3, t4⟩ := turn_ok h1 h4 hi hj y
            refine ⟨_, rfl, _, rfl, _, _, _, rfl, rfl, hdl, du_at' hj, rfl, _, rfl, ?_⟩
            rw [dec_a, hd']
            refine ite2 (fun z => ?_) (fun _ => fall cm7 e7)
            have z := of_decide_eq_true z
            have p7 : PInv many d i j L7 := by
              rcases p7 with ⟨z1, _⟩ | z2
              · rw [z] at z1; cases z1
              · exact z2
            have pw := p7.weak
            refine ⟨_, rfl, _, rfl, _, rfl, (by show 2 ≤ sizeLine; decide), fun pp np => ?_⟩
            have s8 := same_new (o := .lst [V.int (i : Nat), .int (turnN many i j : Nat)]) np
            have cm8 := cmS cm7 s8
            have hpt : pp ≠ t := cm7.1.ne_t np
            refine ⟨_, rfl, t, c, 2, rfl, cm8.1, by decide, by decide, fun r4 H9 q0 q2 T9 k9 => ?_⟩
            have cm9 := cmT cm8 T9 k9
            have e9 := slT cm8.1 k9 (s8 _ _ e7)
            have hp9 := k9.get (upd_same (o := .lst [V.int (i : Nat), .int (turnN many i j : Nat)]) (H := H7)) (by simpa using hpt)
            obtain ⟨v, hv, hvN, pv'⟩ : ∃ v : Nat, atI [V.int (i : Nat), .int (turnN many i j : Nat)] r4 = some (.int ((v : Nat) : Int)) ∧ v < 2 ^ many ∧ PInv many d i (j + 1) (L7.set v (L7.getD v [] ++ [j])) := by
              rcases two q0 q2 with rfl | rfl
              · exact ⟨i, rfl, hi, pw.add hi hj (p7.own hi (.inr y)) (.inl (.inr ⟨rfl, by omega⟩))⟩
              · exact ⟨turnN many i j, rfl, t3, pw.add t3 hj (p7.oth h1 h4 hi hj y) (.inr ⟨by rw [z]; exact fun q => (by cases q), t1, by rw [t2]; exact .inr ⟨rfl, by omega⟩⟩)⟩
            obtain ⟨a1, g1, g2, g3⟩ := cm9.2.2.get (v := v) (by rw [p7.l]; exact hvN)
            refine ⟨_, _, _, _, rfl, rfl, SqL.of hp9, hv, _, _, _, _, rfl, rfl, SqL.of (cmQ cm9), atI_nat g2, .inl ⟨rfl, _, .inl (.inl g3)⟩, _, rfl, a1, _, _, rfl, rfl, g3, szR p7 hvN, ?_⟩
            rw [nvs_snoc]
            exact ⟨_, rfl, cmA _ cm9 g1, slA cm9 g1 e9, .inl ⟨by rw [z]; exact fun q => (by cases q), pv'⟩⟩
          · rintro σ'' H8 ⟨L8, rfl, cm8, e8, p8⟩
            have fin : ∀ {H' : Hp} {L' : List (List Nat)}, Cm H' L' → H' sl = some (.tup ((bitsTo i many).map V.int)) → PInv many d i (j + 1) L' → ∃ x8 x9 L, [some (V.ref t), some (.str (duS l)), some (.int (many : Nat)), some (.int ((2 ^ many : Nat) : Int)), some (.ref q), some (.int (2 + r2)), some (.int (i : Nat)), some (.ref sl), some (.int (j : Nat)), some (.int (turnN many i j : Nat)), none] =
                [some (.ref t), some (.str (duS l)), some (.int (many : Nat)), some (.int ((2 ^ many : Nat) : Int)), some (.ref q), some (.int (2 + r2)), some (.int (i : Nat)), some (.ref sl), x8, x9, none] ∧ Cm H' L ∧ PInv many d i (j + 1) L ∧ H' sl = some (.tup ((bitsTo i many).map V.int)) := fun cm e p => ⟨_, _, _, rfl, cm, p, e⟩
            have pw8 : PInv many d i (j + 1) L8 := by
              rcases p8 with ⟨_, z⟩ | z
              · exact z
              · exact z.weak
            refine ⟨_, rfl, _, rfl, _, _, _, rfl, rfl, hdl, du_at' hj, rfl, _, rfl, ?_⟩
            rw [dec_m, hd']
            refine ite2 (fun z => ?_) (fun _ => fin cm8 e8 pw8)
            have z := of_decide_eq_true z
            have p8 : PInv many d i j L8 := by
              rcases p8 with ⟨z1, _⟩ | z2
              · exact (z1 z).elim
              · exact z2
            refine ⟨_, rfl, _, rfl, t, c, 2 + r2, rfl, cm8.1, hth.1, hth.2, fun r3 H9 _ _ T9 k9 => ?_⟩
            have cm9 := cmT cm8 T9 k9
            have e9 := slT cm8.1 k9 e8
            refine ⟨rfl, _, rfl, ite2 (fun _ => ?_) (fun _ => fin cm9 e9 pw8)⟩
            have pa := pw8.add hi hj (p8.own hi (.inl z)) (.inl (.inr ⟨rfl, by omega⟩))
            obtain ⟨a1, g1, g2, g3⟩ := cm9.2.2.get (v := i) (by rw [p8.l]; exact hi)
            refine ⟨_, rfl, _, rfl, _, _, _, _, rfl, rfl, SqL.of (cmQ cm9), atI_nat g2, .inl ⟨rfl, _, .inl (.inl g3)⟩, _, rfl, a1, _, _, rfl, rfl, g3, szR p8 hi, ?_⟩
            rw [nvs_snoc]
            exact fin (cmA _ cm9 g1) (slA cm9 g1 e9) pa
      · rintro σ H5 ⟨x8, x9, L, rfl, cm5, p5, e5⟩
        exact ⟨_, _, _, _, L, rfl, cm5, p5.row⟩
    · rintro σ H3 ⟨x6, x7, x8, x9, L, rfl, cm3, p3⟩
      have hq3 := cmQ cm3
      have hRl : rows.length = 2 ^ many := by rw [cm3.2.2.ln, p3.l]
      refine ⟨_, rfl, q, rfl, ⟨_, SqL.of hq3⟩, fun q2 nq2 => lc_by walk_list (fun i acc H5 => Same H3 H5 ∧ ∃ rl : List (List Nat), rl.length = i ∧ (∀ r ∈ rl, r.length ≤ many ∧ ∀ x ∈ r, x < many) ∧ Tds (off [t] H5) (rl.map fun r => D.t (r.map fun m => D.i ((m : Nat) : Int))) acc) nq2 ⟨Same.refl _, [], rfl, fun r hr => (by cases hr), .nil⟩ (fun i acc H5 p => SqL.of (off_le _ _ (p.1 _ _ hq3))) ?_ ?_⟩
      · rintro i acc x _ H5 hi hle ⟨sm, rl, hrl, hok, td⟩ hq5 ⟨rfl, hx⟩
        rw [List.length_map, hRl] at hi
        obtain ⟨a, g1, g2, g3⟩ := cm3.2.2.get (v := i) (by rw [p3.l]; exact hi)
        rw [g2] at hx
        obtain rfl := Option.some.inj hx
        have s5 : Same H3 H5 := sm.trans off_le
        have g5 := s5 _ _ g3
        have hlen := p3.len hi
        have e1 : nvs (L.getD i []) = ((L.getD i []).map fun n => ((n : Nat) : Int)).map V.int := by unfold nvs; rw [List.map_map]; rfl
        rw [e1] at g5
        refine ⟨rfl, _, rfl, a, _, rfl, SqL.of g5, by rw [List.length_map]; omega, fun ns' p perm _ np => ?_⟩
        obtain ⟨ks, rfl, hkl, hkm⟩ := perm_nat perm
        have s6 := same_new (o := .lst ((ks.map fun n => ((n : Nat) : Int)).map V.int)) np
        refine ⟨p, _, rfl, .inl ⟨SqL.of upd_same, fun u nu => ?_⟩⟩
        have s7 := same_new (o := .tup ((ks.map fun n => ((n : Nat) : Int)).map V.int)) nu
        have s57 := s6.trans s7
        have hut : u ≠ t := ((cm3.1.mono s5).mono s6).ne_t nu
        refine LcS.add (s57 _ _ hq5) hle (by omega) ⟨sm.trans (kp_of s57), rl ++ [ks], by rw [len_snoc, hrl], fun r hr => ?_, ?_⟩
        · rcases List.mem_append.mp hr with z | z
          · exact hok r z
          · rw [List.mem_singleton.mp z]
            exact ⟨by omega, fun y hy => p3.lt i y hi (hkm y hy)⟩
        · rw [List.map_append]
          refine (td.mono (kp_of (kp_of s57))).snoc (.t (off_of (off_of upd_same (fun z => by
            have z : u = q2 := by simpa using z
            rw [z, s6 _ _ hq5] at nu; cases nu)) (by simpa using hut)) ?_)
          have : ks.map (fun m => D.i ((m : Nat) : Int)) = (ks.map fun m => ((m : Nat) : Int)).map D.i := by rw [List.map_map]; rfl
          rw [this]
          exact Tds.of_ints _
      · rintro acc H5 hq5 ⟨sm, rl, hrl, hok, td⟩
        rw [List.length_map, hRl] at hrl
        have s5 : Same H3 H5 := sm.trans off_le
        refine ⟨q2, _, rfl, .inl ⟨SqL.of hq5, fun u nu => ?_⟩⟩
        have s6 := same_new (o := .tup acc) nu
        have hut : u ≠ t := (cm3.1.mono s5).ne_t nu
        refine k _ rl _ (cm3.1.mono (s5.trans s6)) ?_ (.t (off_of upd_same (by simpa using hut)) (td.mono ((kp_of off_le).trans (kp_of s6)))) hrl hok
        -- but for the tape all is as it was
        intro b o e
        have hbt := off_not e
        have e1 := s1 _ _ (off_le _ _ e)
        have e2 := k2.get e1 hbt
        have hb2 : b ∉ t :: rows := fun z => by
          rcases List.mem_cons.mp z with z | z
          · exact hbt (by simp [z])
          · have := hno b z
            rw [off_le _ _ e] at this; cases this
        have e3 := cm3.2.1.get e2 hb2
        exact off_of (s6 _ _ (s5 _ _ e3)) hbt
end
end K31

set_option autoImplicit true
set_option Elab.async false
set_option autoImplicit false
set_option linter.all false
set_option maxRecDepth 100000
set_option maxHeartbeats 4000000
namespace K31
open PySem PySem.Spec PyProof.Rows L2
/-! the law's own def drawn -/
theorem sgS_app (l r : List Sg) : sgS l ++ sgS r = sgS (l ++ r) := by
  show (⟨(l.map Sg.c).toArray ++ (r.map Sg.c).toArray⟩ : Str) = ⟨((l ++ r).map Sg.c).toArray⟩
  rw [List.map_append, ← List.append_toArray]
theorem cut_front {l : List Sg} {m : Nat} (h : m ≤ l.length) : cutS (sgS l) none (some ((m : Nat) : Int)) = sgS (l.take m) := by
  unfold cutS
  rw [HT.sIx_none, HT.sIx_nat]
  show (⟨(((l.map Sg.c).toArray.toList.drop 0).take (min m (sgS l).length - 0)).toArray⟩ : Str) = _
  rw [sg_length, List.drop_zero, Nat.sub_zero, Nat.min_eq_left h]
  show (⟨((l.map Sg.c).take m).toArray⟩ : Str) = ⟨((l.take m).map Sg.c).toArray⟩
  rw [List.map_take]
theorem cut_back {l : List Sg} {m : Nat} (h : m ≤ l.length) : cutS (sgS l) (some ((m : Nat) : Int)) none = sgS (l.drop m) := by
  unfold cutS
  rw [HT.sIx_none, HT.sIx_nat]
  show (⟨(((l.map Sg.c).toArray.toList.drop (min m (sgS l).length)).take ((sgS l).length - min m (sgS l).length)).toArray⟩ : Str) = _
  rw [sg_length, Nat.min_eq_left h]
  show (⟨(((l.map Sg.c).drop m).take (l.length - m)).toArray⟩ : Str) = ⟨((l.drop m).map Sg.c).toArray⟩
  rw [← List.map_drop, List.take_of_length_le (by rw [List.length_map, List.length_drop]; exact Nat.le_refl _)]
theorem nvs_flat (l : List Nat) : (nvs l).all flatV = true := List.all_eq_true.mpr fun x hx => by
  obtain ⟨n, _, rfl⟩ := List.mem_map.mp hx
  rfl
theorem sg01 {b : Bool} : ∃ s : Sg, atI [V.str "0", .str "1"] (if b then 1 else 0) = some (.str ⟨#[s.c]⟩) := by
  cases b
  · exact ⟨.zero, rfl⟩
  · exact ⟨.one, rfl⟩
theorem sg01i {r : Int} (h0 : 0 ≤ r) (h2 : r < 2) : ∃ s : Sg, atI [V.str "0", .str "1"] r = some (.str ⟨#[s.c]⟩) := by
  rcases two h0 h2 with rfl | rfl
  · exact ⟨.zero, rfl⟩
  · exact ⟨.one, rfl⟩
theorem sgS_one (s : Sg) : (⟨#[s.c]⟩ : Str) = sgS [s] := rfl
theorem tsd_len {l : List Sg} {m : Nat} {s : Sg} (h : m < l.length) : (l.take m ++ [s] ++ l.drop (m + 1)).length = l.length := by simp; omega
theorem tsd_len2 {l : List Sg} {m : Nat} {s : Sg} (h : m < l.length) : (l.take m ++ [s]).length + (l.drop (m + 1)).length = l.length := by simp; omega
def cntOk (many : Nat) (p : Int × Int) : Prop := 0 ≤ p.1 ∧ p.1 ≤ p.2 ∧ p.2 ≤ (many : Int)
def pD (p : Int × Int) : D := .t [.i p.1, .i p.2]
def mV (l : List Sg) : V := .str (sgS l)
theorem mV_at {mks : List (List Sg)} {i : Nat} (h : i < mks.length) : (mks.map mV)[i]? = some (mV (mks.getD i [])) := by rw [List.getElem?_map, some_of_lt [] h]; rfl
theorem tds_set {H : Hp} : ∀ {ds : List D} {vs : List V} {i : Nat} {d : D} {v : V}, Tds H ds vs → Td H d v → Tds H (ds.set i d) (vs.set i v)
  | _, _, _, _, _, .nil, _ => .nil
  | _, _, 0, _, _, .cons _ r, h => .cons h r
  | _, _, i + 1, _, _, .cons a r, h => .cons a (tds_set r h)
section
variable {P : Program} {w : World} {K : PySem.W.Frag} {mg : Str → Option Value} {base : Heap}
def spDrawn : Sp := fun vs H Q _ => ∃ (t c : Addr), vs = [.ref t, .int 4] ∧ TapeAt H t c ∧ ∀ q (B : Bk) vc vm H', B.Ok → TapeAt H' t c → Kp [t] H H' → H' q = some (.tup [.str (duS B.du), vc, vm]) → Td (off [t] H') (ctD B.ct) vc → Td (off [t] H') (mkD B.mks) vm → Q (.ref q) H'
theorem sc_l_drawn : FnScope ["_law_tape_here", "_law_most", "_law_many", "_law_duties_here", "_law_rule_here", "_law_loose", "_law_thick", "_law_counts", "_law_marks", "_law_picked", "_law_least", "_law_signs", "_law_member", "_law_sign", "_law_turn", "_law_row"] ["_law_tape_here", "_law_most"] (defScope s_l_drawn) := ⟨rfl, rfl, rfl, by decide +kernel, rfl, by decide +kernel, by decide +kernel⟩
theorem c_l_drawn (T : Fx K mg) (F : DefAt K mg "_law_drawn" "_law_drawn" s_l_drawn) (c_l_duties : Cal P w K mg base CX0 2 "_law_duties" ["_law_tape_here", "_law_many"] (spDuties)) (c_l_pick : Cal P w K mg base CX0 1 "_law_pick" ["_law_tape_here", "_law_size_here"] (spPk)) (c_l_rule : Cal P w K mg base CX0 3 "_law_rule" ["_law_tape_here", "_law_duties_here"] (spRuleL)) : Cal P w K mg base CX0 4 "_law_drawn" ["_law_tape_here", "_law_most"] spDrawn := by
  refine cal_of F sc_l_drawn (fun _ _ _ _ _ _ _ us hl => match us, hl with | [_, _], _ => rfl) (fun vs H Q E h => ?_) (fun f cdv A outer s H vs Q E hr h => ?_)
  · obtain ⟨t, c, rfl, hT, k⟩ := h
    rfl
  obtain ⟨t, c, rfl, hT, k⟩ := h
  have hu := hu_of hr
  have nd := sc_l_drawn.nd
  refine ⟨_, (pss_cons (ps_set (i := 2) nd rfl (Or.inl rfl) (pe_op op_add pe_int (pe_k c_l_pick hr (by decide) pass0 (pa_cons (pv 0) (pa_cons (pv 1) pa_nil)))))
  (pss_cons (ps_set (i := 3) nd rfl (Or.inl rfl) (pe_k c_l_duties hr (by decide) pass0 (pa_cons (pv 0) (pa_cons (pv 2) pa_nil))))
  (pss_cons (ps_set (i := 4) nd rfl (Or.inl rfl) (pe_k c_l_rule hr (by decide) pass0 (pa_cons (pv 0) (pa_cons (pv 3) pa_nil))))
  (pss_cons (ps_set (i := 5) nd rfl (Or.inl rfl) (pe_k c_l_pick hr (by decide) pass0 (pa_cons (pv 0) (pa_cons pe_int pa_nil))))
  (pss_cons (ps_set (i := 6) nd rfl (Or.inl rfl) (pe_op op_add pe_int (pe_k c_l_pick hr (by decide) pass0 (pa_cons (pv 0) (pa_cons pe_int pa_nil)))))
  (pss_cons (ps_set (i := 7) nd rfl (Or.inl rfl) (pe_lst pa_nil))
  (pss_cons (ps_set (i := 8) nd rfl (Or.inl rfl) (pe_lst pa_nil))
  (pss_cons (ps_for (passes_of rfl) rfl (pi_tup (pv 4)) (pg_name (i := 9) nd rfl (Or.inl rfl)) (pss_cons (ps_set (i := 10) nd rfl (Or.inl rfl) (pe_callB (call_max2 rfl) rfl T.max boot_max (pa_cons pe_int (pa_cons (pe_op op_sub (pe_callB call_len_seq rfl T.len boot_len (pa_cons (pv 9) pa_nil)) (pe_k c_l_pick hr (by decide) pass0 (pa_cons (pv 0) (pa_cons (pe_op op_add pe_int (pv 5)) pa_nil)))) pa_nil))))
  (pss_cons (ps_expr (pe_bm PySem.F.plainAttrs_list PySem.F.slot_list_append PySem.F.type_list_append mt_append (pv 7) (pa_cons (pe_tup (pa_cons (pv 10) (pa_cons (pe_callB (call_min2 rfl) rfl T.min boot_min (pa_cons (pv 2) (pa_cons (pe_op op_add (pe_callB call_len_seq rfl T.len boot_len (pa_cons (pv 9) pa_nil)) (pe_k c_l_pick hr (by decide) pass0 (pa_cons (pv 0) (pa_cons (pe_op op_add pe_int (pv 5)) pa_nil)))) pa_nil))) pa_nil))) pa_nil)))
  (pss_cons (ps_set (i := 11) nd rfl (Or.inl rfl) pe_str)
  (pss_cons (ps_for (passes_of rfl) rfl (pi_range1 rfl T.range (pa_cons (pv 2) pa_nil)) (pg_name (i := 12) nd rfl (Or.inl rfl)) (pss_cons (ps_set (i := 13) nd rfl (Or.inl rfl) pe_str)
  (pss_cons (ps_mid (ps_if (pt_cmpR op_eq (pe_k c_l_pick hr (by decide) pass0 (pa_cons (pv 0) (pa_cons (pe_op op_add (pv 6) pe_int) pa_nil))) pe_int (nomark _)) (pss_one (ps_set (i := 13) nd rfl (Or.inl rfl) (pe_ix ix_list (pe_lst (pa_cons pe_str (pa_cons pe_str pa_nil))) (pe_callTy call_int1 rfl T.int boot_int (pa_cons (pe_cmpR (op_in_seq) (pv 12) (pv 9) (by with_unfolding_all rfl)) pa_nil)) (fun _ _ => rfl)))) pss_nil))
  (pss_one (ps_set (i := 11) nd rfl (Or.inl rfl) (pe_op op_add_str (pv 11) (pv 13)))))))
  (pss_one (ps_expr (pe_bm PySem.F.plainAttrs_list PySem.F.slot_list_append PySem.F.type_list_append mt_append (pv 8) (pa_cons (pv 11) pa_nil)))))))))
  (pss_cons (ps_for (passes_of rfl) rfl (pi_range1 rfl T.range (pa_cons (pe_k c_l_pick hr (by decide) pass0 (pa_cons (pv 0) (pa_cons pe_int pa_nil))) pa_nil)) (pg_name (i := 14) nd rfl (Or.inl rfl)) (pss_cons (ps_set (i := 15) nd rfl (Or.inl rfl) (pe_k c_l_pick hr (by decide) pass0 (pa_cons (pv 0) (pa_cons (pe_callB call_len_seq rfl T.len boot_len (pa_cons (pv 4) pa_nil)) pa_nil))))
  (pss_cons (ps_set (i := 12) nd rfl (Or.inl rfl) (pe_k c_l_pick hr (by decide) pass0 (pa_cons (pv 0) (pa_cons (pv 2) pa_nil))))
  (pss_one (ps_if (pt_cmpR op_eq (pe_k c_l_pick hr (by decide) pass0 (pa_cons (pv 0) (pa_cons pe_int pa_nil))) pe_int (nomark _)) (pss_one (ps_asg (pe_op op_add_str (pe_op op_add_str (pe_slice sl_str (pe_ix ix_list (pv 8) (pv 15) (fun _ _ => rfl)) po_none (po_some (pv 12))) (pe_ix ix_list (pe_lst (pa_cons pe_str (pa_cons pe_str pa_nil))) (pe_k c_l_pick hr (by decide) pass0 (pa_cons (pv 0) (pa_cons pe_int pa_nil))) (fun _ _ => rfl))) (pe_slice sl_str (pe_ix ix_list (pv 8) (pv 15) (fun _ _ => rfl)) (po_some (pe_op op_add (pv 12) pe_int)) po_none)) (pg_sub (pv 8) (pv 15) set_list))) (pss_cons (ps_set (i := 10) nd rfl (Or.inl rfl) (pe_k c_l_pick hr (by decide) pass0 (pa_cons (pv 0) (pa_cons (pe_op op_add (pv 2) pe_int) pa_nil))))
  (pss_one (ps_asg (pe_tup (pa_cons (pv 10) (pa_cons (pe_op op_add (pv 10) (pe_k c_l_pick hr (by decide) pass0 (pa_cons (pv 0) (pa_cons (pe_op op_sub (pe_op op_add (pv 2) pe_int) (pv 10)) pa_nil)))) pa_nil))) (pg_sub (pv 7) (pv 15) set_list)))))))))
  (pss_one (ps_ret (pe_tup (pa_cons (pv 3) (pa_cons (pe_callTy call_tuple_of rfl T.tuple boot_tuple (pa_cons (pv 7) pa_nil)) (pa_cons (pe_callTy call_tuple_of rfl T.tuple boot_tuple (pa_cons (pv 8) pa_nil)) pa_nil))))))))))))))), ?_⟩
  have sz := sizeLine_eq
  refine ⟨_, rfl, _, rfl, t, c, 4, rfl, hT, by decide, by decide, fun r H1 r0 r4 T1 k1 => ?_⟩
  obtain ⟨n, rfl⟩ := Int.eq_ofNat_of_zero_le r0
  refine ⟨_, _, rfl, rfl, ?_⟩
  obtain ⟨many, hmany⟩ : ∃ many : Nat, many = 1 + n := ⟨_, rfl⟩
  have hm1 : 1 ≤ many := by omega
  have hm4 : many ≤ 4 := by omega
  have h16 : 2 ^ many ≤ 16 := Nat.le_trans (Nat.pow_le_pow_right (by decide) hm4) (by decide)
  have h2p : 0 < 2 ^ many := Nat.pow_pos (by decide)
  have hz : V.int (1 + ((n : Nat) : Int)) = V.int ((many : Nat) : Int) := by rw [hmany]; congr 1
  show tSeq _ _ _ [some (.ref t), some (.int 4), some (.int (1 + ((n : Nat) : Int))), none, none, none, none, none, none, none, none, none, none, none, none, none] _
  rw [hz]
  clear hz hmany r0 r4
  refine ⟨_, rfl, _, rfl, t, c, many, rfl, T1, hm1, hm4, fun l H2 hl T2 k2 => ?_⟩
  refine ⟨_, rfl, _, rfl, t, c, l, rfl, T2, by omega, by omega, fun v rule H3 T3 k3 td3 hrl hok => ?_⟩
  rw [hl] at hrl hok
  obtain ⟨ar, rvs, rfl, har, rtd⟩ := td3.tup
  have hrvl : rvs.length = 2 ^ many := by rw [rtd.length, List.length_map, hrl]
  refine ⟨_, rfl, t, c, 3, rfl, T3, by decide, by decide, fun loose H4 l0 l3 T4 k4 => ?_⟩
  refine ⟨_, rfl, t, c, 6, rfl, T4, by decide, by decide, fun th H5 t0 t6 T5 k5 => ?_⟩
  refine ⟨_, _, rfl, rfl, ?_⟩
  have k35 : Kp [t] H3 H5 := k4.trans k5
  have k05 : Kp [t] H H5 := (k1.trans k2).trans (k3.trans k35)
  refine ⟨Nat.zero_le _, fun cl ncl => ?_⟩
  have s6 := same_new (o := .lst []) ncl
  refine ⟨Nat.zero_le _, fun ml nml => ?_⟩
  have s7 := same_new (o := .lst []) nml
  have hcl7 := s7 _ _ (upd_same (o := .lst []) (H := H5) (a := cl))
  have hml7 := upd_same (o := .lst []) (H := upd H5 cl (.lst [])) (a := ml)
  have hclml : cl ≠ ml := ne_of_none upd_same nml
  have hml5 : H5 ml = none := by rw [upd_ne hclml.symm] at nml; exact nml
  have T7 := (T5.mono s6).mono s7
  have s57 := s6.trans s7
  generalize upd (upd H5 cl (.lst [])) ml (.lst []) = H7 at *
  have hclt : cl ≠ t := T5.ne_t ncl
  have hclc : cl ≠ c := T5.ne_c ncl
  have hmlt : ml ≠ t := T5.ne_t hml5
  have hmlc : ml ≠ c := T5.ne_c hml5
  have har7 : off [t, cl, ml] H7 ar = some (.tup rvs) := by
    have h1 := k35 _ _ har
    have h2 := off_le _ _ h1
    refine off_of (s57 _ _ h2) (by simp; exact ⟨by simpa using off_not h1, ne_of_none h2 ncl, ne_of_none h2 hml5⟩)
  have rtd7 : Tds (off [t, cl, ml] H7) (rule.map fun l => .t (l.map fun m => .i (m : Nat))) rvs := by
    refine rtd.mono fun b o e => ?_
    have h1 := k35 _ _ e
    have h2 := off_le _ _ h1
    exact off_of (s57 _ _ h2) (by simp; exact ⟨by simpa using off_not h1, ne_of_none h2 ncl, ne_of_none h2 hml5⟩)
  have k07 : ∀ {H' : Hp}, Kp [t, cl, ml] H7 H' → Kp [t] H H' := fun {H'} kk b o e => by
    have h1 := k05 b o e
    have h2 := off_le _ _ h1
    have h3 := kk.get (s57 _ _ h2) (by simp; exact ⟨by simpa using off_not e, ne_of_none h2 ncl, ne_of_none h2 hml5⟩)
    exact off_of h3 (off_not e)
  let St : Hp → List (Int × Int) → List (List Sg) → Prop := fun H' cts mks => TapeAt H' t c ∧ Kp [t, cl, ml] H7 H' ∧ (∃ cvs, H' cl = some (.lst cvs) ∧ Tds (off [t, cl, ml] H') (cts.map pD) cvs) ∧ H' ml = some (.lst (mks.map mV))
  have stS : ∀ {Ha Hb : Hp} {cts mks}, St Ha cts mks → Same Ha Hb → St Hb cts mks := fun {Ha Hb cts mks} ⟨a1, a2, ⟨cvs, a3, a4⟩, a5⟩ s => ⟨a1.mono s, kp_same a2 s, ⟨cvs, s _ _ a3, a4.mono (kp_of s)⟩, s _ _ a5⟩
  have stT : ∀ {Ha Hb : Hp} {cts mks}, St Ha cts mks → TapeAt Hb t c → Kp [t] Ha Hb → St Hb cts mks := fun {Ha Hb cts mks} ⟨a1, a2, ⟨cvs, a3, a4⟩, a5⟩ T kk =>
    ⟨T, a2.trans (kk.mono (by simp)), ⟨cvs, kk.get a3 (by simpa using hclt), a4.mono (kk.mono (S := [t]) (T := [t, cl, ml]) (by simp))⟩, kk.get a5 (by simpa using hmlt)⟩
  have stC : ∀ {Ha : Hp} {cts mks} (cts' : List (Int × Int)) (cvs' : List V), St Ha cts mks → Tds (off [t, cl, ml] Ha) (cts'.map pD) cvs' → St (upd Ha cl (.lst cvs')) cts' mks := fun {Ha cts mks} cts' cvs' ⟨a1, a2, _, a5⟩ td =>
    ⟨a1.kp (S := [cl]) (kp_upd (by simp)) (by simpa using hclt.symm) (by simpa using hclc.symm), a2.trans (kp_upd (by simp)), ⟨cvs', upd_same, td.mono (kp_upd (by simp))⟩, by rw [upd_ne hclml.symm]; exact a5⟩
  have stM : ∀ {Ha : Hp} {cts mks} (mks' : List (List Sg)), St Ha cts mks → St (upd Ha ml (.lst (mks'.map mV))) cts mks' := fun {Ha cts mks} mks' ⟨a1, a2, ⟨cvs, a3, a4⟩, _⟩ =>
    ⟨a1.kp (S := [ml]) (kp_upd (by simp)) (by simpa using hmlt.symm) (by simpa using hmlc.symm), a2.trans (kp_upd (by simp)), ⟨cvs, by rw [upd_ne hclml]; exact a3, a4.mono (kp_upd (by simp))⟩, upd_same⟩
  have S7 : St H7 [] [] := ⟨T7, Kp.refl _ _, ⟨[], hcl7, .nil⟩, hml7⟩
  have pkS : 0 < 1 + loose ∧ 1 + loose < 2 ^ 200 := ⟨by omega, by omega⟩
  have thS : 0 < 1 + th + 1 ∧ 1 + th + 1 < 2 ^ 200 := ⟨by omega, by omega⟩
  refine ⟨_, rfl, ar, rfl, ⟨_, SqT.of (off_le _ _ har7)⟩, ?_⟩
  refine for_it walk_tup (fun i σ H8 => ∃ x9 x10 x11 x12 x13 cts mks, σ = [some (.ref t), some (.int 4), some (.int (many : Nat)), some (.str (duS l)), some (.ref ar), some (.int loose), some (.int (1 + th)), some (.ref cl), some (.ref ml), x9, x10, x11, x12, x13, none, none] ∧ St H8 cts mks ∧ cts.length = i ∧ mks.length = i ∧
    (∀ p ∈ cts, cntOk many p) ∧ ∀ s ∈ mks, s.length = many) ⟨none, none, none, none, none, [], [], rfl, S7, rfl, rfl, fun p hp => (by cases hp), fun p hp => (by cases hp)⟩ (fun i σ H8 _ p => by obtain ⟨_, _, _, _, _, _, _, _, s8, _⟩ := p; exact SqT.of (off_le _ _ (s8.2.1 _ _ har7))) ?_ ?_
  · rintro i y σ _ H8 hi ⟨x9, x10, x11, x12, x13, cts, mks, rfl, S8, hcl, hml, hco, hmo⟩ ⟨rfl, hy⟩
    rw [hrvl] at hi
    obtain ⟨d, hd, tdp⟩ := rtd7.at hy
    have hi' : i < rule.length := by rw [hrl]; exact hi
    rw [List.getElem?_map, some_of_lt [] hi'] at hd
    obtain rfl := Option.some.inj hd
    have hpk := hok _ (getD_mem (d := ([] : List Nat)) hi')
    generalize rule.getD i [] = pkd at *
    obtain ⟨pa, pvs, rfl, hpa, ptd⟩ := tdp.tup
    have hpv : pvs = nvs pkd := by
      have : pkd.map (fun m => D.i ((m : Nat) : Int)) = (pkd.map fun m => ((m : Nat) : Int)).map D.i := by rw [List.map_map]; rfl
      rw [this] at ptd
      rw [ptd.ints]
      unfold nvs; rw [List.map_map]; rfl
    subst hpv
    have hP8 := off_le _ _ (S8.2.1 _ _ hpa)
    have hpat : pa ∉ [t] := fun z => off_not hpa (by simp at z; simp [z])
    refine ⟨_, rfl, _, _, rfl, .inr (SqT.of hP8), _, rfl, _, rfl, _, _, rfl, rfl, t, c, 1 + loose, rfl, S8.1, pkS.1, pkS.2, fun ra H9 ra0 ra1 T9 k9 => ⟨_, _, rfl, rfl, _, _, rfl, ?_⟩⟩
    rw [nvs_len]
    have S9 := stT S8 T9 k9
    have hP9 := k9.get hP8 hpat
    obtain ⟨cvs, hcv, hctd⟩ := S9.2.2.1
    refine ⟨_, rfl, .inl ⟨rfl, _, .inl (.inl hcv)⟩, _, rfl, _, rfl, _, rfl, _, _, rfl, .inr (SqT.of hP9), _, rfl, _, rfl, _, _, rfl, rfl, t, c, 1 + loose, rfl, S9.1, pkS.1, pkS.2, fun rb H10 rb0 rb1 T10 k10 => ⟨_, _, rfl, rfl, _, _, rfl, (by show 2 ≤ sizeLine; decide), fun p np => ?_⟩⟩
    rw [nvs_len]
    have S10 := stT S9 T10 k10
    have hP10 := k10.get hP9 hpat
    generalize hx : (if ((pkd.length : Nat) : Int) - ra > 0 then ((pkd.length : Nat) : Int) - ra else 0) = x
    generalize hy : (if ((pkd.length : Nat) : Int) + rb < ((many : Nat) : Int) then ((pkd.length : Nat) : Int) + rb else ((many : Nat) : Int)) = y
    have hxy : cntOk many (x, y) := by
      have := hpk.1
      unfold cntOk
      rw [← hx, ← hy]
      refine ⟨?_, ?_, ?_⟩ <;> (show (_ : Int) ≤ _) <;> (repeat' split) <;> omega
    have s11 := same_new (o := .tup [.int x, .int y]) np
    have S11 := stS S10 s11
    have hP11 := s11 _ _ hP10
    have hpS : p ∉ [t, cl, ml] := by
      obtain ⟨_, e1⟩ := S10.1.ht
      obtain ⟨_, e2, _⟩ := S10.2.2.1
      have e3 := S10.2.2.2
      simp
      exact ⟨fun z => (by rw [z, e1] at np; cases np), fun z => (by rw [z, e2] at np; cases np), fun z => (by rw [z, e3] at np; cases np)⟩
    have hp11 : off [t, cl, ml] (upd H10 p (.tup [.int x, .int y])) p = some (.tup [.int x, .int y]) := off_of upd_same hpS
    obtain ⟨cvs2, hcv2, hctd2⟩ := S11.2.2.1
    have hcl2 : cvs2.length < sizeLine := by rw [hctd2.length, List.length_map]; omega
    have S12 := stC (cts ++ [(x, y)]) (cvs2 ++ [.ref p]) S11 (by rw [List.map_append]; exact hctd2.snoc (.t hp11 (.cons (.i _) (.cons (.i _) .nil))))
    refine ⟨cl, cvs2, _, rfl, rfl, hcv2, hcl2, ?_⟩
    have hcts : ∀ p ∈ cts ++ [(x, y)], cntOk many p := fun p hp => by
      rcases List.mem_append.mp hp with z | z
      · exact hco p z
      · rw [List.mem_singleton.mp z]; exact hxy
    have hctl : (cts ++ [(x, y)]).length = i + 1 := by rw [len_snoc, hcl]
    generalize cts ++ [(x, y)] = cts2 at *
    generalize upd (upd H10 p (.tup [.int x, .int y])) cl (.lst (cvs2 ++ [.ref p])) = H12 at *
    clear hcv2 hctd2 S11 hp11 hP11 s11 np hcv hctd S10 S9 S8 hco
    refine ⟨_, rfl, _, rfl, (rng_ok (by omega)).1, (rng_ok (by omega)).2, ?_⟩
    refine for_it walk_r (fun j σ H13 => ∃ x12 x13 sl, σ = [some (.ref t), some (.int 4), some (.int (many : Nat)), some (.str (duS l)), some (.ref ar), some (.int loose), some (.int (1 + th)), some (.ref cl), some (.ref ml), some (.ref pa), some (.int x), some (.str (sgS sl)), x12, x13, none, none] ∧
      St H13 cts2 mks ∧ sl.length = j) ⟨x12, x13, [], rfl, S12, rfl⟩ (fun _ _ _ _ _ => trivial) ?_ ?_
    · rintro j _ σ _ H13 hj ⟨x12, x13, sl, rfl, S13, hsl⟩ ⟨rfl, rfl⟩
      have hj : j < many := hj
      refine ⟨fun σ' H' => ∃ s : Sg, σ' = [some (.ref t), some (.int 4), some (.int (many : Nat)), some (.str (duS l)), some (.ref ar), some (.int loose), some (.int (1 + th)), some (.ref cl), some (.ref ml), some (.ref pa), some (.int x), some (.str (sgS sl)), some (.int (j : Nat)), some (.str ⟨#[s.c]⟩), none, none] ∧ St H' cts2 mks, ?_, ?_⟩
      · refine ⟨_, rfl, _, rfl, _, _, rfl, rfl, t, c, 1 + th + 1, rfl, S13.1, thS.1, thS.2, fun rc H14 _ _ T14 k14 => ⟨rfl, _, rfl, ite2 (fun _ => ?_) (fun _ => ⟨.dot, rfl, stT S13 T14 k14⟩)⟩⟩
        have S14 := stT S13 T14 k14
        refine ⟨(by show 2 ≤ sizeLine; decide), fun pp np => ?_⟩
        have s15 := same_new (o := .lst [V.str "0", .str "1"]) np
        have S15 := stS S14 s15
        have hP15 := off_le _ _ (S15.2.1 _ _ hpa)
        obtain ⟨s, hs⟩ := sg01 (b := inV (.int ((j : Nat) : Int)) (nvs pkd))
        exact ⟨_, rfl, _, rfl, pa, _, rfl, .inr (SqT.of hP15), rfl, nvs_flat _, .inr ⟨_, rfl, _, _, _, _, rfl, rfl, SqL.of upd_same, hs, s, rfl, S15⟩⟩
      · rintro σ' H14 ⟨s, rfl, S14⟩
        refine ⟨_, rfl, _, rfl, _, _, rfl, rfl, ?_, ?_⟩
        · rw [sgS_one, sg_length, sg_length]; simp; omega
        · rw [sgS_one, sgS_app]
          exact ⟨_, _, sl ++ [s], rfl, S14, by rw [len_snoc, hsl]⟩
    · rintro σ H13 ⟨x12, x13, sl, rfl, S13, hsl⟩
      have hsl : sl.length = many := hsl
      have hm := S13.2.2.2
      refine ⟨_, rfl, .inl ⟨rfl, _, .inl (.inl hm)⟩, _, rfl, ml, _, _, rfl, rfl, hm, by rw [List.length_map]; omega, ?_⟩
      rw [show mks.map mV ++ [V.str (sgS sl)] = (mks ++ [sl]).map mV by rw [List.map_append]; rfl]
      refine ⟨_, _, _, _, _, cts2, mks ++ [sl], rfl, stM _ S13, hctl, by rw [len_snoc, hml], hcts, fun s hs => ?_⟩
      rcases List.mem_append.mp hs with z | z
      · exact hmo s z
      · rw [List.mem_singleton.mp z]; exact hsl
  · rintro σ H8 ⟨x9, x10, x11, x12, x13, cts, mks, rfl, S8, hcl, hml, hco, hmo⟩
    rw [hrvl] at hcl hml
    refine ⟨_, rfl, t, c, 4, rfl, S8.1, by decide, by decide, fun rt H9 rt0 rt4 T9 k9 => ?_⟩
    obtain ⟨nt, rfl⟩ := Int.eq_ofNat_of_zero_le rt0
    have S9 := stT S8 T9 k9
    refine ⟨_, rfl, (rng_ok (by omega)).1, (rng_ok (by omega)).2, ?_⟩
    refine for_it walk_r (fun i σ H10 => ∃ x10 x12 x14 x15 cts mks, σ = [some (.ref t), some (.int 4), some (.int (many : Nat)), some (.str (duS l)), some (.ref ar), some (.int loose), some (.int (1 + th)), some (.ref cl), some (.ref ml), x9, x10, x11, x12, x13, x14, x15] ∧ St H10 cts mks ∧ cts.length = 2 ^ many ∧ mks.length = 2 ^ many ∧
      (∀ p ∈ cts, cntOk many p) ∧ ∀ s ∈ mks, s.length = many) ⟨x10, x12, none, none, cts, mks, rfl, S9, hcl, hml, hco, hmo⟩ (fun _ _ _ _ _ => trivial) ?_ ?_
    · clear hcl hml hco hmo S8 S9 T9 k9
      clear cts mks
      rintro i _ σ _ H10 hi ⟨x10, x12, x14, x15, cts, mks, rfl, S10, hcl, hml, hco, hmo⟩ ⟨rfl, rfl⟩
      have har10 := off_le _ _ (S10.2.1 _ _ har7)
      refine ⟨_, rfl, _, rfl, _, _, rfl, .inr (SqT.of har10), ?_⟩
      rw [hrvl]
      refine ⟨t, c, ((2 ^ many : Nat) : Int), rfl, S10.1, by omega, by omega, fun rr H11 rr0 rr1 T11 k11 => ?_⟩
      obtain ⟨row, rfl⟩ := Int.eq_ofNat_of_zero_le rr0
      have hrow : row < 2 ^ many := by omega
      have S11 := stT S10 T11 k11
      refine ⟨_, rfl, _, rfl, t, c, ((many : Nat) : Int), rfl, S11.1, by omega, by omega, fun rm H12 rm0 rm1 T12 k12 => ?_⟩
      obtain ⟨mem, rfl⟩ := Int.eq_ofNat_of_zero_le rm0
      have hmem : mem < many := by omega
      have S12 := stT S11 T12 k12
      refine ⟨_, rfl, t, c, 2, rfl, S12.1, by decide, by decide, fun rw_ H13 _ _ T13 k13 => ⟨rfl, _, rfl, ite2 (fun _ => ?_) (fun _ => ?_)⟩⟩
      · have S13 := stT S12 T13 k13
        have hrl : row < mks.length := by omega
        have hll := hmo _ (getD_mem (d := ([] : List Sg)) hrl)
        have hbd : (sgS (mks.getD row [])).length ≤ sizeLine := by rw [sg_length]; omega
        refine ⟨_, rfl, _, rfl, _, _, _, _, rfl, rfl, SqL.of S13.2.2.2, atI_nat (mV_at hrl), _, rfl, _, rfl, _, rfl, hbd, ?_⟩
        rw [cut_front (by omega)]
        refine ⟨(by show 2 ≤ sizeLine; decide), fun pp np => ?_⟩
        have s14 := same_new (o := .lst [V.str "0", .str "1"]) np
        have S14 := stS S13 s14
        have hpt : pp ≠ t := S13.1.ne_t np
        refine ⟨_, rfl, t, c, 2, rfl, S14.1, by decide, by decide, fun rs H15 rs0 rs2 T15 k15 => ?_⟩
        have S15 := stT S14 T15 k15
        have hp15 := k15.get (upd_same (o := .lst [V.str "0", .str "1"]) (H := H13)) (by simpa using hpt)
        obtain ⟨s, hs⟩ := sg01i rs0 rs2
        refine ⟨_, _, _, _, rfl, rfl, SqL.of hp15, hs, _, _, rfl, rfl, ?_, ?_⟩
        · rw [sgS_one, sg_length, sg_length]; simp; omega
        rw [sgS_one, sgS_app]
        refine ⟨_, rfl, _, rfl, _, _, _, _, rfl, rfl, SqL.of S15.2.2.2, atI_nat (mV_at hrl), _, rfl, _, _, rfl, rfl, ((mem + 1 : Nat) : Int), rfl, _, rfl, hbd, ?_⟩
        rw [cut_back (by omega)]
        refine ⟨_, _, rfl, rfl, ?_, ?_⟩
        · rw [sg_length, sg_length, tsd_len2 (by omega)]; omega
        rw [sgS_app]
        refine ⟨_, rfl, _, rfl, ml, _, _, row, rfl, rfl, S15.2.2.2, ixN_nat (by rw [List.length_map]; exact hrl), ?_⟩
        rw [show V.str (sgS ((mks.getD row []).take mem ++ [s] ++ (mks.getD row []).drop (mem + 1))) = mV ((mks.getD row []).take mem ++ [s] ++ (mks.getD row []).drop (mem + 1)) from rfl, ← List.map_set]
        refine ⟨_, _, _, _, cts, _, rfl, stM _ S15, hcl, by rw [List.length_set]; exact hml, hco, fun z hz => ?_⟩
        rcases List.mem_or_eq_of_mem_set hz with q | q
        · exact hmo z q
        · rw [q, tsd_len (by omega)]; exact hll
      · have S13 := stT S12 T13 k13
        refine ⟨_, rfl, _, rfl, _, _, rfl, rfl, t, c, ((many : Nat) : Int) + 1, rfl, S13.1, by omega, by omega, fun ra H14 ra0 ra1 T14 k14 => ?_⟩
        have S14 := stT S13 T14 k14
        refine ⟨_, rfl, _, rfl, _, rfl, _, rfl, _, _, rfl, rfl, _, rfl, _, _, rfl, rfl, t, c, ((many : Nat) : Int) + 1 - ra, rfl, S14.1, by omega, by omega, fun rb H15 rb0 rb1 T15 k15 => ⟨_, _, rfl, rfl, (by show 2 ≤ sizeLine; decide), fun p np => ?_⟩⟩
        have S15 := stT S14 T15 k15
        have s16 := same_new (o := .tup [.int ra, .int (ra + rb)]) np
        have S16 := stS S15 s16
        have hpS : p ∉ [t, cl, ml] := by
          obtain ⟨_, e1⟩ := S15.1.ht
          obtain ⟨_, e2, _⟩ := S15.2.2.1
          have e3 := S15.2.2.2
          simp
          exact ⟨fun z => (by rw [z, e1] at np; cases np), fun z => (by rw [z, e2] at np; cases np), fun z => (by rw [z, e3] at np; cases np)⟩
        obtain ⟨cvs, hcv, hctd⟩ := S16.2.2.1
        have hcvl : row < cvs.length := by rw [hctd.length, List.length_map]; omega
        refine ⟨_, rfl, _, rfl, cl, _, _, row, rfl, rfl, hcv, ixN_nat hcvl, ?_⟩
        have S17 := stC (cts.set row (ra, ra + rb)) (cvs.set row (.ref p)) S16 (by rw [List.map_set]; exact tds_set hctd (.t (off_of upd_same hpS) (.cons (.i _) (.cons (.i _) .nil))))
        refine ⟨_, _, _, _, _, mks, rfl, S17, by rw [List.length_set]; exact hcl, hml, fun z hz => ?_, hmo⟩
        rcases List.mem_or_eq_of_mem_set hz with q | q
        · exact hco z q
        · rw [q]; exact ⟨ra0, by show ra ≤ ra + rb; omega, by show ra + rb ≤ _; omega⟩
    · clear hcl hml hco hmo S8 S9 T9 k9
      clear cts mks
      rintro σ H10 ⟨x10, x12, x14, x15, cts, mks, rfl, S10, hcl, hml, hco, hmo⟩
      obtain ⟨cvs, hcv, hctd⟩ := S10.2.2.1
      refine ⟨_, rfl, _, rfl, cl, _, rfl, .inl ⟨SqL.of hcv, fun l1 n1 => ?_⟩⟩
      have s11 := same_new (o := .tup cvs) n1
      have S11 := stS S10 s11
      refine ⟨_, rfl, ml, _, rfl, .inl ⟨SqL.of S11.2.2.2, fun l2 n2 => ⟨(by show 3 ≤ sizeLine; decide), fun q nq => ?_⟩⟩⟩
      have s12 := same_new (o := .tup (mks.map mV)) n2
      have s13 := same_new (o := .tup [V.str (duS l), .ref l1, .ref l2]) nq
      have s1013 := (s11.trans s12).trans s13
      have s1113 := s12.trans s13
      have hl1t : l1 ≠ t := S10.1.ne_t n1
      have hl2t : l2 ≠ t := S11.1.ne_t n2
      refine k q ⟨many, l, cts, mks⟩ (.ref l1) (.ref l2) _ ⟨hm1, hm4, hl, hcl, hco, hml, hmo⟩ (S10.1.mono s1013) (k07 (kp_same S10.2.1 s1013)) upd_same ?_ ?_
      · refine .t (off_of (s1113 _ _ upd_same) (by simpa using hl1t)) ?_
        refine hctd.mono fun b o e => ?_
        exact off_of (s1013 _ _ (off_le _ _ e)) (fun z => off_not e (by simp at z; simp [z]))
      · refine .t (off_of (s13 _ _ upd_same) (by simpa using hl2t)) ?_
        have : mks.map mV = (mks.map sgS).map V.str := by rw [List.map_map]; rfl
        rw [this]
        have h2 : (⟨many, l, cts, mks⟩ : Bk).mks.map (fun l => D.s (sgS l)) = (mks.map sgS).map D.s := by rw [List.map_map]; rfl
        rw [h2]
        exact Tds.of_strs _
end
end K31

set_option autoImplicit true
set_option Elab.async false
set_option autoImplicit false
set_option linter.all false
set_option maxRecDepth 100000
set_option maxHeartbeats 4000000
namespace K31
open PySem PySem.Spec PyProof.Rows L2
/-! the law's own defs: ties, fillings, is_lot -/
def fD (p : Bool × Bool) : D := .t [.b p.1, .b p.2]
def P4 : List (Bool × Bool) := [(false, false), (false, true), (true, false), (true, true)]
def filTo (d : Du) (s1 s2 : Sg) (k : Nat) : List (Bool × Bool) := (P4.take k).filter fun f => fits d s1 s2 f.1 f.2
theorem filTo_succ (d : Du) (s1 s2 : Sg) {i j : Nat} (hi : i < 2) (hj : j < 2) : filTo d s1 s2 (2 * i + (j + 1)) = filTo d s1 s2 (2 * i + j) ++ if fits d s1 s2 (decide (i = 1)) (decide (j = 1)) then [(decide (i = 1), decide (j = 1))] else [] := by
  have h1 : i = 0 ∨ i = 1 := by omega
  have h2 : j = 0 ∨ j = 1 := by omega
  have hf : ∀ (l : List (Bool × Bool)) (p : Bool × Bool), (l ++ [p]).filter (fun f => fits d s1 s2 f.1 f.2) = l.filter (fun f => fits d s1 s2 f.1 f.2) ++ if fits d s1 s2 p.1 p.2 then [p] else [] := fun l p => by
    rw [List.filter_append]
    congr 1
    cases h : fits d s1 s2 p.1 p.2 <;> simp [h]
  rcases h1 with rfl | rfl <;> rcases h2 with rfl | rfl
  · exact hf [] (false, false)
  · exact hf [(false, false)] (false, true)
  · exact hf [(false, false), (false, true)] (true, false)
  · exact hf [(false, false), (false, true), (true, false)] (true, true)
theorem filTo_len (d : Du) (s1 s2 : Sg) (k : Nat) : (filTo d s1 s2 k).length ≤ 4 := by
  have h1 := List.length_filter_le (fun f : Bool × Bool => fits d s1 s2 f.1 f.2) (P4.take k)
  have h2 : (P4.take k).length ≤ 4 := by rw [List.length_take]; exact Nat.min_le_right _ _
  unfold filTo; omega
theorem dec_one (s : Sg) : decide (V.str ⟨#[s.c]⟩ = V.str "1") = decide (s = .one) := by cases s <;> decide +kernel
theorem dec_dot (s : Sg) : decide (V.str ⟨#[s.c]⟩ = V.str ".") = decide (s = .dot) := by cases s <;> decide +kernel
theorem bl2 {i : Nat} (h : i < 2) : [V.bl false, V.bl true][i]? = some (.bl (decide (i = 1))) := by
  have : i = 0 ∨ i = 1 := by omega
  rcases this with rfl | rfl <;> rfl
theorem sg_ix {l : List Sg} {i : Nat} (h : i < l.length) : atI (sgS l).cps.toList ((i : Nat) : Int) = some (l.getD i .dot).c := by
  refine atI_nat ?_
  show (l.map Sg.c).toArray.toList[i]? = _
  rw [List.getElem?_map, some_of_lt .dot h]; rfl
section
variable {P : Program} {w : World} {K : PySem.W.Frag} {mg : Str → Option Value} {base : Heap}
def spLTies : Sp := fun vs H Q _ => ∃ many : Nat, vs = [.int (many : Nat)] ∧ 1 ≤ many ∧ many ≤ 4 ∧ ∀ a ws H', Same H H' → H a = none → H' a = some (.lst ws) → Tds H' ((ties many).map tieD) ws → Q (.ref a) H'
theorem sc_l_ties : FnScope ["_law_many", "_law_found", "_law_row", "_law_slips", "_law_member"] ["_law_many"] (defScope s_l_ties) := ⟨rfl, rfl, rfl, by decide +kernel, rfl, by decide +kernel, by decide +kernel⟩
theorem c_l_ties (T : Fx K mg) (F : DefAt K mg "_law_ties" "_law_ties" s_l_ties) (c_l_bits : Cal P w K mg base CX0 1 "_law_bits" ["_law_many", "_law_row"] (spBits)) (c_l_other : Cal P w K mg base CX0 2 "_law_other" ["_law_many", "_law_row", "_law_member"] (spOther)) (c_l_size : Cal P w K mg base CX0 1 "_law_size" ["_law_many"] (spSize)) : Cal P w K mg base CX0 3 "_law_ties" ["_law_many"] spLTies := by
  refine cal_of F sc_l_ties (fun _ _ _ _ _ _ _ us hl => match us, hl with | [_], _ => rfl) (fun vs H Q E h => ?_) (fun f cdv A outer s H vs Q E hr h => ?_)
  · obtain ⟨many, rfl, h1, h4, k⟩ := h
    rfl
  obtain ⟨many, rfl, h1, h4, k⟩ := h
  have hu := hu_of hr
  have nd := sc_l_ties.nd
  refine ⟨_, (pss_cons (ps_set (i := 1) nd rfl (Or.inl rfl) (pe_lst pa_nil))
  (pss_cons (ps_for (passes_of rfl) rfl (pi_range1 rfl T.range (pa_cons (pe_k c_l_size hr (by decide) pass0 (pa_cons (pv 0) pa_nil)) pa_nil)) (pg_name (i := 2) nd rfl (Or.inr rfl)) (pss_cons (ps_set (i := 3) nd rfl (Or.inr rfl) (pe_k c_l_bits hr (by decide) pass0 (pa_cons (pv 0) (pa_cons (pv 2) pa_nil))))
  (pss_one (ps_set (i := 1) nd rfl (Or.inl rfl) (pe_op op_cat (pv 1) (pe_lc (own := [("_law_member", 4)]) rfl nd (pi_range1 rfl T.range (pa_cons (pv 0) pa_nil)) (blkOk_by (by rfl)) (fun _ _ _ _ _ => (pg_name (i := 4) nd rfl (Or.inl rfl))) (fun _ _ _ _ _ => (pts_one (pt_cmpR op_eq (pe_ix (ix_tupK K) (pv 3) (pv 4) (fun _ _ => rfl)) pe_int (nomark _)))) (fun _ _ _ _ _ => (pe_tup (pa_cons (pv 2) (pa_cons (pv 4) (pa_cons (pe_k c_l_other hr (by decide) pass0 (pa_cons (pv 0) (pa_cons (pv 2) (pa_cons (pv 4) pa_nil)))) pa_nil)))))))))))
  (pss_one (ps_ret (pv 1))))), ?_⟩
  have sz := sizeLine_eq
  have h16 : 2 ^ many ≤ 16 := Nat.le_trans (Nat.pow_le_pow_right (by decide) h4) (by decide)
  have h64 : 2 ^ many * many ≤ 64 := Nat.le_trans (Nat.mul_le_mul h16 h4) (by decide)
  refine ⟨Nat.zero_le _, fun l0 n0 => ?_⟩
  refine ⟨_, rfl, many, rfl, h4, _, rfl, (rng_ok (by omega)).1, (rng_ok (by omega)).2, ?_⟩
  refine for_it walk_r (fun i σ H1 => ∃ fd x2 x3 ws, σ = [some (.int (many : Nat)), some (.ref fd), x2, x3, none] ∧ Same H H1 ∧ H fd = none ∧ H1 fd = some (.lst ws) ∧ Tds H1 ((tiesTo many i).map tieD) ws) ⟨l0, none, none, [], rfl, same_new n0, n0, upd_same, .nil⟩ (fun _ _ _ _ _ => trivial) ?_ ?_
  · rintro i _ σ _ H1 hi ⟨fd, x2, x3, ws, rfl, s1, f0, f1, td⟩ ⟨rfl, rfl⟩
    have hi : i < 2 ^ many := hi
    have hwl : ws.length ≤ i * many := by rw [td.length, List.length_map]; exact tiesTo_len many i
    have hwl2 : i * many ≤ 2 ^ many * many := Nat.mul_le_mul_right _ (by omega)
    refine ⟨_, rfl, _, rfl, many, i, rfl, h4, fun sl H2 s2 e2 => ?_⟩
    refine ⟨_, rfl, _, rfl, _, rfl, (rng_ok (by omega)).1, (rng_ok (by omega)).2, fun q nq => lc_by walk_r (fun j acc H3 => Same H2 H3 ∧ Tds H3 ((tiesAt many i j).map tieD) acc) nq ⟨Same.refl _, .nil⟩ (fun _ _ _ _ => trivial) ?_ ?_⟩
    · rintro j acc _ _ H3 hj hle ⟨sm, td3⟩ hq ⟨rfl, rfl⟩
      have hj : j < many := hj
      have s3 : Same H2 H3 := sm.trans off_le
      have hbl : j < (bitsTo i many).length := by rw [bitsTo_len]; exact hj
      refine ⟨rfl, _, rfl, _, rfl, _, _, _, _, rfl, rfl, SqT.of (s3 _ _ e2), atI_nat (ints_at hbl), rfl, _, rfl, ?_⟩
      rw [dec_int, bitsTo_at hj]
      have hsucc := tiesAt_succ many i j
      cases hy : yes many i j with
      | true =>
        refine iteF ?_
        refine LcS.skip hq hle ⟨sm, ?_⟩
        rw [hsucc, hy, if_pos rfl, List.append_nil]; exact td3
      | false =>
        refine iteT ⟨_, rfl, _, rfl, _, rfl, _, rfl, _, rfl, many, i, j, rfl, h1, h4, hi, hj, fun H4 s4 => ⟨(by show 3 ≤ sizeLine; decide), fun p np => ?_⟩⟩
        have s5 := same_new (o := .tup [.int (i : Nat), .int (j : Nat), .int (turnN many i j : Nat)]) np
        have hpq : p ≠ q := fun z => by rw [z, s4 _ _ hq] at np; cases np
        refine LcS.add ((s4.trans s5) _ _ hq) hle (by omega) ⟨sm.trans (kp_of (s4.trans s5)), ?_⟩
        rw [hsucc, hy, List.map_append]
        exact (td3.mono (kp_of (s4.trans s5))).snoc (.t (off_of upd_same (by simpa using hpq)) (.cons (.i _) (.cons (.i _) (.cons (.i _) .nil))))
    · rintro acc H3 hq ⟨sm, td3⟩
      have s3 : Same H2 H3 := sm.trans off_le
      have s13 := s2.trans s3
      have hal : acc.length ≤ many := by rw [td3.length, List.length_map]; exact tiesAt_len many i many
      refine ⟨fd, q, ws, acc, rfl, rfl, s13 _ _ f1, hq, by omega, fun p np => ?_⟩
      have s4 := same_new (o := .lst (ws ++ acc)) np
      refine ⟨p, _, _, _, rfl, (s1.trans s13).trans s4, none_of (s1.trans s13) np, upd_same, ?_⟩
      rw [tiesTo_succ, List.map_append]
      exact tds_append (td.mono (s13.trans s4)) ((td3.mono off_le).mono s4)
  · rintro σ H1 ⟨fd, x2, x3, ws, rfl, s1, f0, f1, td⟩
    exact ⟨_, rfl, k fd ws H1 s1 f0 f1 td⟩
def PartsAt (H : Hp) (pb : Addr) (B : Bk) : Prop := ∃ vc vm, H pb = some (.tup [.str (duS B.du), vc, vm]) ∧ Td H (ctD B.ct) vc ∧ Td H (mkD B.mks) vm
theorem PartsAt.mono {H H' : Hp} {pb : Addr} {B : Bk} (h : PartsAt H pb B) (k : Same H H') : PartsAt H' pb B := let ⟨vc, vm, a, b, c⟩ := h; ⟨vc, vm, k _ _ a, b.mono k, c.mono k⟩
def spFil : Sp := fun vs H Q _ => ∃ (pb tie : Addr) (B : Bk) (t : Nat × Nat × Nat), vs = [.ref pb, .ref tie] ∧ PartsAt H pb B ∧ B.Ok ∧ t ∈ ties B.many ∧ Td H (tieD t) (.ref tie) ∧ ∀ a ws H', Same H H' → H a = none → H' a = some (.lst ws) → Tds H' ((B.fill t).map fD) ws → Q (.ref a) H'
theorem sc_l_fillings : FnScope ["_law_book", "_law_tie", "_law_duties_here", "_law_counts", "_law_marks", "_law_row", "_law_member", "_law_other_here", "_law_found", "_law_one", "_law_two", "_law_fits", "_law_place", "_law_flag", "_law_sign"] ["_law_book", "_law_tie"] (defScope s_l_fillings) := ⟨rfl, rfl, rfl, by decide +kernel, rfl, by decide +kernel, by decide +kernel⟩
theorem c_l_fillings (T : Fx K mg) (F : DefAt K mg "_law_fillings" "_law_fillings" s_l_fillings) : Cal P w K mg base CX0 1 "_law_fillings" ["_law_book", "_law_tie"] spFil := by
  refine cal_of F sc_l_fillings (fun _ _ _ _ _ _ _ us hl => match us, hl with | [_, _], _ => rfl) (fun vs H Q E h => ?_) (fun f cdv A outer s H vs Q E hr h => ?_)
  · obtain ⟨pb, tie, B, t, rfl, ⟨vc, vm, hpb, _, hvm⟩, O, ht, hT, k⟩ := h
    rfl
  obtain ⟨pb, tie, B, t, rfl, ⟨vc, vm, hpb, _, hvm⟩, O, ht, hT, k⟩ := h
  have hu := hu_of hr
  have nd := sc_l_fillings.nd
  refine ⟨_, (pss_cons (ps_asg (pv 0) (pg_tup rfl (pgs_cons (pg_name (i := 2) nd rfl (Or.inl rfl)) (pgs_cons (pg_name (i := 3) nd rfl (Or.inl rfl)) (pgs_cons (pg_name (i := 4) nd rfl (Or.inl rfl)) pgs_nil)))))
  (pss_cons (ps_asg (pv 1) (pg_tup rfl (pgs_cons (pg_name (i := 5) nd rfl (Or.inl rfl)) (pgs_cons (pg_name (i := 6) nd rfl (Or.inl rfl)) (pgs_cons (pg_name (i := 7) nd rfl (Or.inl rfl)) pgs_nil)))))
  (pss_cons (ps_set (i := 8) nd rfl (Or.inl rfl) (pe_lst pa_nil))
  (pss_cons (ps_for (passes_of rfl) rfl (pi_list (pe_lst (pa_cons pe_bl (pa_cons pe_bl pa_nil)))) (pg_name (i := 9) nd rfl (Or.inl rfl)) (pss_one (ps_for (passes_of rfl) rfl (pi_list (pe_lst (pa_cons pe_bl (pa_cons pe_bl pa_nil)))) (pg_name (i := 10) nd rfl (Or.inl rfl)) (pss_cons (ps_set (i := 11) nd rfl (Or.inl rfl) (pe_mid (pe_or (pe_cmpR op_eq (pe_ix ix_str (pv 2) (pv 6) (fun _ _ => rfl)) pe_str (nomark _)) (pe_one (pe_cmpR op_eq (pe_cmpR op_eq (pv 9) (pv 10) (nomark _)) (pe_cmpR op_eq (pe_ix ix_str (pv 2) (pv 6) (fun _ _ => rfl)) pe_str (nomark _)) (nomark _))))))
  (pss_cons (ps_for (passes_of rfl) rfl (pi_list (pe_lst (pa_cons (pe_tup (pa_cons (pv 5) (pa_cons (pv 9) pa_nil))) (pa_cons (pe_tup (pa_cons (pv 7) (pa_cons (pv 10) pa_nil))) pa_nil)))) (pg_tup rfl (pgs_cons (pg_name (i := 12) nd rfl (Or.inl rfl)) (pgs_cons (pg_name (i := 13) nd rfl (Or.inl rfl)) pgs_nil))) (pss_cons (ps_set (i := 14) nd rfl (Or.inl rfl) (pe_ix ix_str (pe_ix ix_tup (pv 4) (pv 12) (fun _ _ => rfl)) (pv 6) (fun _ _ => rfl)))
  (pss_one (ps_set (i := 11) nd rfl (Or.inl rfl) (pe_mid (pe_and (pv 11) (pe_one (pe_or (pe_cmpR op_eq (pv 14) pe_str (nomark _)) (pe_one (pe_cmpR op_eq (pe_cmpR op_eq (pv 14) pe_str (nomark _)) (pv 13) (nomark _)))))))))))
  (pss_one (ps_if (pt_val (pv 11)) (pss_one (ps_expr (pe_bm PySem.F.plainAttrs_list PySem.F.slot_list_append PySem.F.type_list_append mt_append (pv 8) (pa_cons (pe_tup (pa_cons (pv 9) (pa_cons (pv 10) pa_nil))) pa_nil)))) pss_nil)))))))
  (pss_one (ps_ret (pv 8))))))), ?_⟩
  have sz := sizeLine_eq
  have hm4 := O.m4
  obtain ⟨hr', hm, ho, _⟩ := ties_lt O.m1 O.m4 _ ht
  obtain ⟨r, m, o⟩ := t
  have hr' : r < 2 ^ B.many := hr'
  have hm : m < B.many := hm
  have ho : o < 2 ^ B.many := ho
  obtain ⟨_, e1, hT⟩ := tie_vs hT
  obtain rfl := V.ref.inj e1
  obtain ⟨am, ms, rfl, ham, mtd⟩ := hvm.tup
  have hdm : m < B.du.length := by rw [O.ld]; exact hm
  have hdl := du_len O
  have mk : ∀ {u : Nat}, u < 2 ^ B.many → ms[u]? = some (.str (sgS (B.mks.getD u []))) ∧ m < (B.mks.getD u []).length := fun {u} hu => by
    have hu' : u < B.mks.length := by rw [O.lm]; exact hu
    obtain ⟨y, e, td⟩ := mtd.get (i := u) (by rw [List.getElem?_map, some_of_lt [] hu']; rfl)
    exact ⟨by rw [e, td.str], by rw [O.lr _ (getD_mem hu')]; exact hm⟩
  refine ⟨_, rfl, pb, _, rfl, SqT.of hpb, rfl, _, _, rfl, _, _, rfl, _, _, rfl, rfl, _, rfl, tie, _, rfl, SqT.of hT, rfl, _, _, rfl, _, _, rfl, _, _, rfl, rfl, ?_⟩
  refine ⟨Nat.zero_le _, fun fl nfl => ?_⟩
  have s0 := same_new (o := .lst []) nfl
  have hfl0 := upd_same (o := .lst []) (H := H) (a := fl)
  have k0 : Same H (off [fl] (upd H fl (.lst []))) := by rw [off_upd, off_none nfl]; exact Same.refl _
  refine ⟨(by show 2 ≤ sizeLine; decide), fun lo nlo => ?_⟩
  have hlo := upd_same (o := .lst [V.bl false, .bl true]) (H := upd H fl (.lst [])) (a := lo)
  have s1 := same_new (o := .lst [V.bl false, .bl true]) nlo
  have hfl1 := s1 _ _ hfl0
  have k1 : Same H (off [fl] (upd (upd H fl (.lst [])) lo (.lst [V.bl false, .bl true]))) := k0.trans (kp_of s1)
  have hlofl : lo ≠ fl := fun z => by rw [z, hfl0] at nlo; cases nlo
  have hlo1 := off_of (S := [fl]) hlo (by simpa using hlofl)
  generalize upd (upd H fl (.lst [])) lo (.lst [V.bl false, .bl true]) = H1 at *
  let St : Nat → Hp → Prop := fun n H' => Same (off [fl] H1) (off [fl] H') ∧ ∃ ws, H' fl = some (.lst ws) ∧ Tds (off [fl] H') ((filTo (B.d m) (B.sg r m) (B.sg o m) n).map fD) ws
  have stS : ∀ {n : Nat} {Ha Hb : Hp}, St n Ha → Same Ha Hb → St n Hb := fun {n Ha Hb} ⟨a1, ws, a2, a3⟩ s => ⟨a1.trans (kp_of s), ws, s _ _ a2, a3.mono (kp_of s)⟩
  refine ⟨lo, rfl, ⟨_, SqL.of (off_le _ _ hlo1)⟩, for_it walk_list (fun i σ H2 => ∃ x9 x10 x11 x12 x13 x14, σ = [some (.ref pb), some (.ref tie), some (.str (duS B.du)), some vc, some (.ref am), some (.int (r : Nat)), some (.int (m : Nat)), some (.int (o : Nat)), some (.ref fl), x9, x10, x11, x12, x13, x14] ∧ St (2 * i) H2)
    ⟨none, none, none, none, none, none, rfl, Same.refl _, [], hfl1, .nil⟩ (fun i σ H2 _ p => by obtain ⟨_, _, _, _, _, _, _, s, _⟩ := p; exact SqL.of (off_le _ _ (s _ _ hlo1))) ?_ ?_⟩
  · rintro i y σ _ H2 hi ⟨x9, x10, x11, x12, x13, x14, rfl, S2⟩ ⟨rfl, hy⟩
    have hi : i < 2 := hi
    rw [bl2 hi] at hy
    obtain rfl := Option.some.inj hy
    refine ⟨(by show 2 ≤ sizeLine; decide), fun lp np => ?_⟩
    have s3 := same_new (o := .lst [V.bl false, .bl true]) np
    have S3 := stS S2 s3
    have hlp := upd_same (o := .lst [V.bl false, .bl true]) (H := H2) (a := lp)
    have hlpfl : lp ≠ fl := fun z => by obtain ⟨_, _, e, _⟩ := S2; rw [z, e] at np; cases np
    have hlp3 := off_of (S := [fl]) hlp (by simpa using hlpfl)
    generalize upd H2 lp (.lst [V.bl false, .bl true]) = H3 at *
    refine ⟨lp, rfl, ⟨_, SqL.of hlp⟩, for_it walk_list (fun j σ H4 => ∃ x10 x11 x12 x13 x14, σ = [some (.ref pb), some (.ref tie), some (.str (duS B.du)), some vc, some (.ref am), some (.int (r : Nat)), some (.int (m : Nat)), some (.int (o : Nat)), some (.ref fl), some (.bl (decide (i = 1))), x10, x11, x12, x13, x14] ∧ St (2 * i + j) H4 ∧ Same (off [fl] H3) (off [fl] H4))
      ⟨x10, x11, x12, x13, x14, rfl, S3, Same.refl _⟩ (fun j σ H4 _ p => by obtain ⟨_, _, _, _, _, _, _, s⟩ := p; exact SqL.of (off_le _ _ (s _ _ hlp3))) ?_ ?_⟩
    · rintro j y σ _ H4 hj ⟨x10, x11, x12, x13, x14, rfl, S4, k34⟩ ⟨rfl, hy⟩
      have hj : j < 2 := hj
      rw [bl2 hj] at hy
      obtain rfl := Option.some.inj hy
      have hsucc := filTo_succ (B.d m) (B.sg r m) (B.sg o m) hi hj
      generalize hb1 : decide (i = 1) = b1 at *
      generalize hb2 : decide (j = 1) = b2 at *
      refine ⟨fun v H' => H' = H4 ∧ v = .bl (decide (B.d m = .m) || decide (decide (b1 = b2) = decide (B.d m = .n))), ?_, ?_⟩
      · refine ⟨_, rfl, _, rfl, _, _, _, rfl, rfl, hdl, du_ix hdm, rfl, _, rfl, ?_⟩
        rw [dec_m]
        refine ite2 (fun z => ⟨rfl, by rw [show decide (B.d m = .m) = true from z, Bool.true_or]⟩) (fun z => ?_)
        refine ⟨_, rfl, _, rfl, rfl, _, rfl, _, rfl, _, _, _, rfl, rfl, hdl, du_ix hdm, rfl, rfl, rfl, ?_⟩
        have z : decide (B.d m = .m) = false := Bool.eq_false_iff.mpr z
        rw [z, Bool.false_or, dec_bl, dec_n, dec_bl]; rfl
      · rintro v H' ⟨rfl, rfl⟩
        generalize hf0 : (decide (B.d m = .m) || decide (decide (b1 = b2) = decide (B.d m = .n))) = f0
        refine ⟨_, rfl, _, rfl, (by show 2 ≤ sizeLine; decide), fun p1 n1 => ⟨_, rfl, _, rfl, (by show 2 ≤ sizeLine; decide), fun p2 n2 => ⟨(by show 2 ≤ sizeLine; decide), fun p3 n3 => ?_⟩⟩⟩
        have t1 := same_new (o := .tup [V.int (r : Nat), .bl b1]) n1
        have t2 := same_new (o := .tup [V.int (o : Nat), .bl b2]) n2
        have t3 := same_new (o := .lst [V.ref p1, .ref p2]) n3
        have g1 := (t2.trans t3) _ _ (upd_same (o := .tup [V.int (r : Nat), .bl b1]) (H := H') (a := p1))
        have g2 := t3 _ _ (upd_same (o := .tup [V.int (o : Nat), .bl b2]) (H := upd H' p1 (.tup [V.int (r : Nat), .bl b1])) (a := p2))
        have g3 := upd_same (o := .lst [V.ref p1, .ref p2]) (H := upd (upd H' p1 (.tup [V.int (r : Nat), .bl b1])) p2 (.tup [V.int (o : Nat), .bl b2])) (a := p3)
        have t13 := (t1.trans t2).trans t3
        have S7 := stS S4 t13
        have k37 : Same (off [fl] H3) (off [fl] (upd (upd (upd H' p1 (.tup [V.int (r : Nat), .bl b1])) p2 (.tup [V.int (o : Nat), .bl b2])) p3 (.lst [V.ref p1, .ref p2]))) := k34.trans (kp_of t13)
        generalize upd (upd (upd H' p1 (.tup [V.int (r : Nat), .bl b1])) p2 (.tup [V.int (o : Nat), .bl b2])) p3 (.lst [V.ref p1, .ref p2]) = H7 at *
        have ham7 : H7 am = some (.tup ms) := off_le _ _ ((k1.trans S7.1) _ _ ham)
        let ff : Nat → Bool := fun k => if k = 0 then f0 else if k = 1 then f0 && fitS (B.sg r m) b1 else (f0 && fitS (B.sg r m) b1) && fitS (B.sg o m) b2
        refine ⟨p3, rfl, ⟨_, SqL.of g3⟩, for_it walk_list (fun kk σ H8 => ∃ x12 x13 x14, σ = [some (.ref pb), some (.ref tie), some (.str (duS B.du)), some vc, some (.ref am), some (.int (r : Nat)), some (.int (m : Nat)), some (.int (o : Nat)), some (.ref fl), some (.bl b1), some (.bl b2), some (.bl (ff kk)), x12, x13, x14] ∧ H8 = H7)
          ⟨x12, x13, x14, rfl, rfl⟩ (fun kk σ H8 _ p => by obtain ⟨_, _, _, _, rfl⟩ := p; exact SqL.of g3) ?_ ?_⟩
        · rintro kk y σ _ H8 hk ⟨x12, x13, x14, rfl, rfl⟩ ⟨rfl, hy⟩
          have hk : kk < 2 := hk
          obtain ⟨pp, u, g, rfl, hpp, hu, hff⟩ : ∃ (pp : Addr) (u : Nat) (g : Bool), y = .ref pp ∧ H8 pp = some (.tup [.int ((u : Nat) : Int), .bl g]) ∧ u < 2 ^ B.many ∧ ff (kk + 1) = (ff kk && fitS (B.sg u m) g) := by
            have : kk = 0 ∨ kk = 1 := by omega
            rcases this with rfl | rfl
            · exact ⟨p1, r, b1, (Option.some.inj hy).symm, g1, hr', rfl⟩
            · exact ⟨p2, o, b2, (Option.some.inj hy).symm, g2, ho, rfl⟩
          obtain ⟨mk1, mk2⟩ := mk hu
          have hsl : (sgS (B.mks.getD u [])).length ≤ sizeLine := by rw [sg_length, O.lr _ (getD_mem (d := []) (by rw [O.lm]; exact hu))]; omega
          refine ⟨pp, _, rfl, SqT.of hpp, rfl, _, _, rfl, _, _, rfl, rfl, ?_⟩
          refine ⟨_, rfl, _, rfl, _, _, _, _, rfl, rfl, SqT.of ham7, atI_nat mk1, _, rfl, _, _, _, rfl, rfl, hsl, sg_ix mk2, ?_⟩
          have hsg : (B.mks.getD u []).getD m .dot = B.sg u m := rfl
          rw [hsg]
          refine ⟨fun v H' => H' = H8 ∧ v = .bl (ff kk && fitS (B.sg u m) g), ?_, ?_⟩
          · refine ⟨_, rfl, _, rfl, ite2 (fun z => ?_) (fun z => ⟨rfl, by rw [Bool.eq_false_iff.mpr z, Bool.false_and]⟩)⟩
            rw [z, Bool.true_and]
            unfold fitS
            refine ⟨_, rfl, rfl, _, rfl, ?_⟩
            rw [dec_dot]
            refine ite2 (fun z => ⟨rfl, by rw [z, Bool.true_or]⟩) (fun z => ?_)
            refine ⟨_, rfl, rfl, _, rfl, rfl, rfl, ?_⟩
            rw [Bool.eq_false_iff.mpr z, Bool.false_or, dec_one, dec_bl]
          · rintro v H' ⟨rfl, rfl⟩
            exact ⟨_, _, _, by rw [hff]; rfl, rfl⟩
        · rintro σ H8 ⟨x12, x13, x14, rfl, rfl⟩
          have hfit : ff 2 = fits (B.d m) (B.sg r m) (B.sg o m) b1 b2 := by
            show ((f0 && fitS (B.sg r m) b1) && fitS (B.sg o m) b2) = _
            rw [← hf0]; rfl
          refine ⟨_, rfl, _, rfl, ite2 (fun z => ?_) (fun z => ?_)⟩
          · have z : ff 2 = true := z
            obtain ⟨a1, ws, a2, a3⟩ := S7
            have hwl : ws.length ≤ 4 := by rw [a3.length, List.length_map]; exact filTo_len _ _ _ _
            refine ⟨_, rfl, .inl ⟨rfl, _, .inl (.inl a2)⟩, _, rfl, _, rfl, (by show 2 ≤ sizeLine; decide), fun p np => ?_⟩
            have s9 := same_new (o := .tup [V.bl b1, .bl b2]) np
            have hpfl : p ≠ fl := fun z => by rw [z, a2] at np; cases np
            refine ⟨fl, ws, _, rfl, rfl, s9 _ _ a2, by omega, _, _, _, _, _, rfl, ⟨?_, _, upd_same, ?_⟩, ?_⟩
            · rw [off_upd]; exact a1.trans (kp_of s9)
            · rw [off_upd, hsucc, ← hfit, z, List.map_append]
              exact (a3.mono (kp_of s9)).snoc (.t (off_of upd_same (by simpa using hpfl)) (.cons (.b _) (.cons (.b _) .nil)))
            · rw [off_upd]; exact k37.trans (kp_of s9)
          · have z : ff 2 = false := Bool.eq_false_iff.mpr z
            refine ⟨_, _, _, _, _, rfl, ?_, k37⟩
            obtain ⟨a1, ws, a2, a3⟩ := S7
            refine ⟨a1, ws, a2, ?_⟩
            rw [hsucc, ← hfit, z]
            simpa using a3
    · rintro σ H4 ⟨x10, x11, x12, x13, x14, rfl, S4, _⟩
      exact ⟨_, _, _, _, _, _, rfl, S4⟩
  · rintro σ H2 ⟨x9, x10, x11, x12, x13, x14, rfl, S2⟩
    obtain ⟨a1, ws, a2, a3⟩ := S2
    exact ⟨_, rfl, k fl ws H2 ((k1.trans a1).trans off_le) nfl a2 (a3.mono off_le)⟩
end
end K31

set_option autoImplicit true
set_option Elab.async false
set_option autoImplicit false
set_option linter.all false
set_option maxRecDepth 100000
set_option maxHeartbeats 4000000
namespace K31
open PySem PySem.Spec PyProof.Rows L2
/-! the law's own defs: is_lot, keeps -/
theorem in_nvs (m : Nat) (l : List Nat) : inV (.int ((m : Nat) : Int)) (nvs l) = decide (m ∈ l) := by
  induction l with
  | nil => rfl
  | cons a r ih =>
    have e : inV (.int ((m : Nat) : Int)) (nvs (a :: r)) = (eqV (.int ((a : Nat) : Int)) (.int ((m : Nat) : Int)) || inV (.int ((m : Nat) : Int)) (nvs r)) := rfl
    rw [e, ih]
    have e2 : eqV (.int ((a : Nat) : Int)) (.int ((m : Nat) : Int)) = decide (m = a) := by
      show (((a : Nat) : Int) == ((m : Nat) : Int)) = _
      by_cases c : m = a
      · subst c; simp
      · rw [decide_eq_false c]
        exact beq_eq_false_iff_ne.mpr (fun z => c (by omega))
    rw [e2]
    simp
theorem mem_sum (f : Nat → Int) (n : Nat) : ∀ l : List Nat, l.Nodup → (∀ x ∈ l, x < n) → (l.map f).sum = sumN n fun m => b2 (decide (m ∈ l)) * f m
  | [], _, _ => by
    rw [sumN_congr (g := fun _ => 0) fun i _ => by simp [b2], sumN_zero]; rfl
  | a :: r, h, hl => by
    obtain ⟨h1, h2⟩ := List.nodup_cons.mp h
    have ih := mem_sum f n r h2 (fun x hx => hl x (List.mem_cons_of_mem _ hx))
    have key := sumN_one (f := fun m => b2 (decide (m ∈ r)) * f m) (g := fun m => b2 (decide (m ∈ a :: r)) * f m) (k := a) (n := n) (hl a (List.mem_cons_self ..)) (fun i _ hne => by
      have : decide (i ∈ a :: r) = decide (i ∈ r) := by simp [hne]
      show b2 (decide (i ∈ a :: r)) * f i = b2 (decide (i ∈ r)) * f i
      rw [this])
    have e1 : b2 (decide (a ∈ a :: r)) * f a = f a := by simp [b2]
    have e2 : b2 (decide (a ∈ r)) * f a = 0 := by simp [h1, b2]
    rw [List.map_cons, List.sum_cons, ih, key]
    show f a + _ = _ + (b2 (decide (a ∈ a :: r)) * f a - b2 (decide (a ∈ r)) * f a)
    rw [e1, e2]; omega
theorem hu65_of {A : Around} {k : Nat} (hr : Room k A) : A.units + 65 < cLine := by have := hr.un; omega
def AscOk (many : Nat) (l : List Nat) : Prop := l.Pairwise (· < ·) ∧ ∀ x ∈ l, x < many
theorem asc_nodup {l : List Nat} (h : l.Pairwise (· < ·)) : l.Nodup := h.imp fun h => Nat.ne_of_lt h
def xOf (rule : List (List Nat)) (r m : Nat) : Bool := decide (m ∈ rule.getD r [])
section
variable {P : Program} {w : World} {K : PySem.W.Frag} {mg : Str → Option Value} {base : Heap}
def spLot : Sp := fun vs H Q _ => ∃ (a : Addr) (l : List Nat) (many : Nat), vs = [.ref a, .int (many : Nat)] ∧ H a = some (.tup (nvs l)) ∧ Q (.bl false) H ∧ (AscOk many l → Q (.bl true) H)
theorem sc_l_is_lot : FnScope ["_law_thing", "_law_many", "_law_last", "_law_item"] ["_law_thing", "_law_many"] (defScope s_l_is_lot) := ⟨rfl, rfl, rfl, by decide +kernel, rfl, by decide +kernel, by decide +kernel⟩
theorem c_l_is_lot (T : Fx K mg) (F : DefAt K mg "_law_is_lot" "_law_is_lot" s_l_is_lot) : Cal P w K mg base CX0 1 "_law_is_lot" ["_law_thing", "_law_many"] spLot := by
  refine cal_of F sc_l_is_lot (fun _ _ _ _ _ _ _ us hl => match us, hl with | [_, _], _ => rfl) (fun vs H Q E h => ?_) (fun f cdv A outer s H vs Q E hr h => ?_)
  · obtain ⟨a, l, many, rfl, ha, kF, kT⟩ := h
    rfl
  obtain ⟨a, l, many, rfl, ha, kF, kT⟩ := h
  have hu := hu_of hr
  have nd := sc_l_is_lot.nd
  refine ⟨_, (pss_cons (ps_if (pt_not (pt_val (pe_callB call_is rfl T.isinstance boot_isinstance (pa_cons (pv 0) (pa_cons (pe_bltn (v := .ty "tuple") rfl T.tuple boot_tuple rfl) pa_nil))))) (pss_one (ps_ret pe_bl)) pss_nil)
  (pss_cons (ps_set (i := 2) nd rfl (Or.inl rfl) (pe_un un_neg pe_int))
  (pss_cons (ps_for (passes_of rfl) rfl (pi_tup (pv 0)) (pg_name (i := 3) nd rfl (Or.inl rfl)) (pss_cons (ps_if (PW.pt (pw_or (pt_val (pe_callB call_is rfl T.isinstance boot_isinstance (pa_cons (pv 3) (pa_cons (pe_bltn (v := .ty "bool") rfl T.bool boot_bool rfl) pa_nil)))) (pw_or (pt_not (pt_val (pe_callB call_is rfl T.isinstance boot_isinstance (pa_cons (pv 3) (pa_cons (pe_bltn (v := .ty "int") rfl T.int boot_int rfl) pa_nil))))) (pw_or (pt_cmpR op_le (pv 3) (pv 2) (nomark _)) (pw_or1 (pt_cmpR op_ge (pv 3) (pv 1) (nomark _))))))) (pss_one (ps_ret pe_bl)) pss_nil)
  (pss_one (ps_set (i := 2) nd rfl (Or.inl rfl) (pv 3)))))
  (pss_one (ps_ret pe_bl))))), ?_⟩
  refine ⟨_, rfl, _, "tuple", "tuple", true, rfl, .tup ha, by decide +kernel, _, rfl, iteF ⟨_, rfl, ?_⟩⟩
  refine ⟨_, rfl, a, rfl, ⟨_, SqT.of ha⟩, for_it walk_tup (fun i σ H1 => ∃ (last : Int) (x3 : Option V), σ = [some (.ref a), some (.int (many : Nat)), some (.int last), x3] ∧ H1 = H ∧ (l.take i).Pairwise (· < ·) ∧ ∀ x ∈ l.take i, ((x : Nat) : Int) ≤ last ∧ x < many) ⟨-1, none, rfl, rfl, by simp, fun x hx => by simp at hx⟩ (fun i σ H1 _ p => by obtain ⟨_, _, _, rfl, _⟩ := p; exact SqT.of ha) ?_ ?_⟩
  · rintro i y σ _ H1 hi ⟨last, x3, rfl, rfl, p1, p2⟩ ⟨rfl, hy⟩
    rw [nvs_len] at hi
    rw [nvs_at hi] at hy
    obtain rfl := Option.some.inj hy
    have htk : l.take (i + 1) = l.take i ++ [l.getD i 0] := by rw [List.take_succ, some_of_lt 0 hi]; rfl
    generalize l.getD i 0 = e at *
    refine ⟨_, rfl, _, "int", "bool", false, rfl, .int _, by decide +kernel, _, rfl, iteF ⟨_, rfl, _, "int", "int", true, rfl, .int _, by decide +kernel, _, rfl, iteF ⟨_, rfl, _, rfl, _, _, rfl, rfl, _, rfl, ite2 (fun _ => kF) (fun z1 => ?_)⟩⟩⟩
    refine ⟨_, rfl, _, rfl, _, _, rfl, rfl, _, rfl, ite2 (fun _ => kF) (fun z2 => ?_)⟩
    have z1 : last < ((e : Nat) : Int) := by have : ¬ ((e : Nat) : Int) ≤ last := fun q => z1 (decide_eq_true q); omega
    have z2 : e < many := by have : ¬ ((e : Nat) : Int) ≥ ((many : Nat) : Int) := fun q => z2 (decide_eq_true q); omega
    refine ⟨_, rfl, _, _, rfl, rfl, ?_, fun x hx => ?_⟩
    · rw [htk]
      refine List.pairwise_append.mpr ⟨p1, by simp, fun x hx y hy => ?_⟩
      rw [List.mem_singleton.mp hy]
      have := (p2 x hx).1
      omega
    · rw [htk] at hx
      rcases List.mem_append.mp hx with q | q
      · have := p2 x q
        omega
      · rw [List.mem_singleton.mp q]; omega
  · rintro σ H1 ⟨last, x3, rfl, rfl, p1, p2⟩
    rw [nvs_len, List.take_length] at p1 p2
    exact kT ⟨p1, fun x hx => (p2 x hx).2⟩
theorem rule_at {H : Hp} {rule : List (List Nat)} {v : V} (h : Td H (ruleD rule) v) {r : Nat} (hr : r < rule.length) : ∃ a vs c, v = .ref a ∧ H a = some (.tup vs) ∧ vs.length = rule.length ∧ vs[r]? = some (.ref c) ∧ H c = some (.tup (nvs (rule.getD r []))) := by
  obtain ⟨a, vs, rfl, h1, h2⟩ := h.tup
  obtain ⟨u, h3, h4⟩ := h2.get (i := r) (by rw [List.getElem?_map, some_of_lt [] hr]; rfl)
  obtain ⟨c, ws, rfl, h5, h6⟩ := h4.tup
  refine ⟨a, vs, c, rfl, h1, by rw [h2.length, List.length_map], h3, ?_⟩
  have e1 : (rule.getD r []).map (fun m => D.i ((m : Nat) : Int)) = ((rule.getD r []).map fun m => ((m : Nat) : Int)).map D.i := by rw [List.map_map]; rfl
  rw [e1] at h6
  rw [h5, h6.ints]
  unfold nvs; rw [List.map_map]; rfl
theorem cnt_at {H : Hp} {B : Bk} {v : V} (h : Td H (ctD B.ct) v) (O : B.Ok) {r : Nat} (hr : r < 2 ^ B.many) : ∃ a vs c, v = .ref a ∧ H a = some (.tup vs) ∧ vs.length = 2 ^ B.many ∧ vs[r]? = some (.ref c) ∧ Two H c (B.cnt r) := by
  obtain ⟨a, vs, rfl, h1, h2⟩ := h.tup
  have hr' : r < B.ct.length := by rw [O.lc]; exact hr
  obtain ⟨u, h3, h4⟩ := h2.get (i := r) (by rw [List.getElem?_map, some_of_lt (0, 0) hr']; rfl)
  obtain ⟨c, v1, v2, rfl, h5, t1, t2⟩ := two_vs h4
  obtain rfl := t1.int
  obtain rfl := t2.int
  exact ⟨a, vs, c, rfl, h1, by rw [h2.length, List.length_map, O.lc], h3, h5⟩
theorem sh_b2 (x y : Bool) : SeqAt.shaped (.tuple [.bool x, .bool y]) = true := by cases x <;> cases y <;> decide +kernel
theorem sh_fil (l : List (Bool × Bool)) : SeqAt.shaped (.list (l.map fun p => .tuple [.bool p.1, .bool p.2])) = true := by
  unfold SeqAt.shaped
  have h1 : PyData.canLayAll0 (l.map fun p => PyData.tuple [.bool p.1, .bool p.2]) = true := by
    induction l with
    | nil => rfl
    | cons a r ih => rw [List.map_cons]; simp only [PyData.canLayAll0, PyData.canLay0, ih, Bool.and_self]
  have h2 : PyData.depthAll (l.map fun p => PyData.tuple [.bool p.1, .bool p.2]) ≤ 2 := by
    clear h1
    induction l with
    | nil => show 0 ≤ 2; omega
    | cons a r ih => rw [List.map_cons]; simp only [PyData.depthAll]; refine Nat.max_le.mpr ⟨?_, ih⟩; simp [PyData.depth, PyData.depthAll]
  simp only [PyData.canLay0, PyData.depth, h1, Bool.true_and]
  exact decide_eq_true (by omega)
theorem dp_fil {H : Hp} : ∀ {l : List (Bool × Bool)} {vs : List V}, Tds H (l.map fD) vs → DpAll K H vs (l.map fun p => PyData.tuple [.bool p.1, .bool p.2])
  | [], _, .nil => .nil
  | p :: r, _, .cons h t => by
    refine .cons ?_ (dp_fil t)
    obtain ⟨a, vs, rfl, h1, h2⟩ := h.tup
    cases h2 with | cons a1 r1 => cases r1 with | cons a2 r2 => cases r2; rw [a1.bl, a2.bl] at h1; exact .tup (SqT.of h1) (.cons (.bl _) (.cons (.bl _) .nil))
theorem any_fil (x y : Bool) (l : List (Bool × Bool)) : ((l.map fun p => PyData.tuple [.bool p.1, .bool p.2]).any fun z => PyData.eqv z (.tuple [.bool x, .bool y])) = decide ((x, y) ∈ l) := by
  induction l with
  | nil => rfl
  | cons a r ih =>
    rw [List.map_cons, List.any_cons, ih]
    obtain ⟨a1, a2⟩ := a
    have e : PyData.eqv (.tuple [.bool a1, .bool a2]) (.tuple [.bool x, .bool y]) = decide ((x, y) = (a1, a2)) := by cases a1 <;> cases a2 <;> cases x <;> cases y <;> decide +kernel
    rw [e]
    simp
def spKeeps : Sp := fun vs H Q _ => ∃ (pb ar : Addr) (B : Bk) (rule : List (List Nat)), vs = [.ref pb, .ref ar] ∧ PartsAt H pb B ∧ B.Ok ∧ Td H (ruleD rule) (.ref ar) ∧ rule.length = 2 ^ B.many ∧ (∀ H', Same H H' → Q (.bl false) H') ∧
  (∀ H', Same H H' → KeepsT B (xOf rule) → (∀ r, r < 2 ^ B.many → AscOk B.many (rule.getD r [])) → Q (.bl true) H')
theorem sc_l_keeps : FnScope ["_law_book", "_law_rule_here", "_law_duties_here", "_law_counts", "_law_marks", "_law_many", "_law_row", "_law_tie", "_law_flags"] ["_law_book", "_law_rule_here"] (defScope s_l_keeps) := ⟨rfl, rfl, rfl, by decide +kernel, rfl, by decide +kernel, by decide +kernel⟩
theorem c_l_keeps (T : Fx K mg) (F : DefAt K mg "_law_keeps" "_law_keeps" s_l_keeps) (c_l_fillings : Cal P w K mg base CX0 1 "_law_fillings" ["_law_book", "_law_tie"] (spFil)) (c_l_is_lot : Cal P w K mg base CX0 1 "_law_is_lot" ["_law_thing", "_law_many"] (spLot)) (c_l_ties : Cal P w K mg base CX0 3 "_law_ties" ["_law_many"] (spLTies)) : Cal P w K mg base CX0 4 "_law_keeps" ["_law_book", "_law_rule_here"] spKeeps := by
  refine cal_of F sc_l_keeps (fun _ _ _ _ _ _ _ us hl => match us, hl with | [_, _], _ => rfl) (fun vs H Q E h => ?_) (fun f cdv A outer s H vs Q E hr h => ?_)
  · obtain ⟨pb, ar, B, rule, rfl, hPt, O, hR, hrl, kF, kT⟩ := h
    rfl
  obtain ⟨pb, ar, B, rule, rfl, hPt, O, hR, hrl, kF, kT⟩ := h
  have hu := hu_of hr
  have nd := sc_l_keeps.nd
  have hu65 := hu65_of hr
  refine ⟨_, (pss_cons (ps_asg (pv 0) (pg_tup rfl (pgs_cons (pg_name (i := 2) nd rfl (Or.inl rfl)) (pgs_cons (pg_name (i := 3) nd rfl (Or.inl rfl)) (pgs_cons (pg_name (i := 4) nd rfl (Or.inl rfl)) pgs_nil)))))
  (pss_cons (ps_set (i := 5) nd rfl (Or.inl rfl) (pe_callB call_len_str rfl T.len boot_len (pa_cons (pv 2) pa_nil)))
  (pss_cons (ps_if (PW.pt (pw_or (pt_not (pt_val (pe_callB call_is rfl T.isinstance boot_isinstance (pa_cons (pv 1) (pa_cons (pe_bltn (v := .ty "tuple") rfl T.tuple boot_tuple rfl) pa_nil))))) (pw_or1 (pt_cmpR op_ne (pe_callB call_len_seq rfl T.len boot_len (pa_cons (pv 1) pa_nil)) (pe_callB call_len_seq rfl T.len boot_len (pa_cons (pv 3) pa_nil)) (nomark _))))) (pss_one (ps_ret pe_bl)) pss_nil)
  (pss_cons (ps_for (passes_of rfl) rfl (pi_range1 rfl T.range (pa_cons (pe_callB call_len_seq rfl T.len boot_len (pa_cons (pv 3) pa_nil)) pa_nil)) (pg_name (i := 6) nd rfl (Or.inl rfl)) (pss_one (ps_if (PW.pt (pw_or (pt_not (pt_val (pe_k c_l_is_lot hr (by decide) pass0 (pa_cons (pe_ix ix_tup (pv 1) (pv 6) (fun _ _ => rfl)) (pa_cons (pv 5) pa_nil))))) (pw_or1 (pt_not (pt_chain op_le op_le (pe_ix ix_tup (pe_ix ix_tup (pv 3) (pv 6) (fun _ _ => rfl)) pe_int (fun _ _ => rfl)) (pe_callB call_len_seq rfl T.len boot_len (pa_cons (pe_ix ix_tup (pv 1) (pv 6) (fun _ _ => rfl)) pa_nil)) (pe_ix ix_tup (pe_ix ix_tup (pv 3) (pv 6) (fun _ _ => rfl)) pe_int (fun _ _ => rfl))))))) (pss_one (ps_ret pe_bl)) pss_nil)))
  (pss_cons (ps_for (passes_of rfl) rfl (pi_list (pe_k c_l_ties hr (by decide) pass0 (pa_cons (pv 5) pa_nil))) (pg_name (i := 7) nd rfl (Or.inl rfl)) (pss_cons (ps_set (i := 8) nd rfl (Or.inl rfl) (pe_tup (pa_cons (pe_cmpR (op_in_seq) (pe_ix ix_tup (pv 7) pe_int (fun _ _ => rfl)) (pe_ix ix_tup (pv 1) (pe_ix ix_tup (pv 7) pe_int (fun _ _ => rfl)) (fun _ _ => rfl)) (by with_unfolding_all rfl)) (pa_cons (pe_cmpR (op_in_seq) (pe_ix ix_tup (pv 7) pe_int (fun _ _ => rfl)) (pe_ix ix_tup (pv 1) (pe_ix ix_tup (pv 7) pe_int (fun _ _ => rfl)) (fun _ _ => rfl)) (by with_unfolding_all rfl)) pa_nil))))
  (pss_one (ps_if (pt_cmpR (op_notInD hu65) (pv 8) (pe_k c_l_fillings hr (by decide) pass0 (pa_cons (pv 0) (pa_cons (pv 7) pa_nil))) (by with_unfolding_all rfl)) (pss_one (ps_ret pe_bl)) pss_nil))))
  (pss_one (ps_ret pe_bl))))))), ?_⟩
  have sz := sizeLine_eq
  have h16 := two_le O
  have hm4 := O.m4
  obtain ⟨vc, vm, hpb, hvc, hvm⟩ := id hPt
  obtain ⟨ac, cs, rfl, hac, ctd⟩ := hvc.tup
  have hcl : cs.length = 2 ^ B.many := by rw [ctd.length, List.length_map, O.lc]
  obtain ⟨_, rvs, e1, har, rtd⟩ := hR.tup
  obtain rfl := V.ref.inj e1
  have hrvl : rvs.length = 2 ^ B.many := by rw [rtd.length, List.length_map, hrl]
  refine ⟨_, rfl, pb, _, rfl, SqT.of hpb, rfl, _, _, rfl, _, _, rfl, _, _, rfl, rfl, ?_⟩
  refine ⟨_, rfl, _, rfl, by rw [du_length, O.ld]; omega, ?_⟩
  rw [du_length, O.ld]
  refine ⟨_, rfl, _, "tuple", "tuple", true, rfl, .tup har, by decide +kernel, _, rfl, iteF ⟨_, rfl, _, _, rfl, .inr (SqT.of har), _, rfl, _, _, rfl, .inr (SqT.of hac), rfl, _, rfl, ?_⟩⟩
  rw [hrvl, hcl, dec_int, decide_eq_true rfl]
  refine iteF ?_
  refine ⟨_, rfl, _, _, rfl, .inr (SqT.of hac), ?_⟩
  rw [hcl]
  refine ⟨_, rfl, (rng_ok (by omega)).1, (rng_ok (by omega)).2, ?_⟩
  refine for_it walk_r (fun i σ H1 => ∃ x6, σ = [some (.ref pb), some (.ref ar), some (.str (duS B.du)), some (.ref ac), some vm, some (.int (B.many : Nat)), x6, none, none] ∧ H1 = H ∧ ∀ r, r < i → AscOk B.many (rule.getD r []) ∧ (B.cnt r).1 ≤ ((rule.getD r []).length : Int) ∧ ((rule.getD r []).length : Int) ≤ (B.cnt r).2) ⟨none, rfl, rfl, fun r hr => by omega⟩ (fun _ _ _ _ _ => trivial) ?_ ?_
  · rintro i _ σ _ H1 hi ⟨x6, rfl, rfl, hpre⟩ ⟨rfl, rfl⟩
    have hi : i < 2 ^ B.many := hi
    obtain ⟨_, _, cr, q1, q2, _, q4, q5⟩ := rule_at hR (r := i) (by omega)
    obtain rfl := V.ref.inj q1
    obtain ⟨_, _, cc, p1, p2, _, p4, p5⟩ := cnt_at hvc O hi
    obtain rfl := V.ref.inj p1
    refine ⟨_, rfl, _, rfl, _, _, _, _, rfl, rfl, SqT.of q2, atI_nat q4, _, rfl, cr, _, B.many, rfl, q5, ⟨_, rfl, iteT (kF _ (Same.refl _))⟩, fun asc => ⟨_, rfl, iteF ?_⟩⟩
    refine ⟨_, rfl, _, rfl, _, _, _, _, rfl, rfl, SqT.of p2, atI_nat p4, _, _, _, _, rfl, rfl, SqT.of p5, rfl, _, rfl, _, rfl, _, _, _, _, rfl, rfl, SqT.of q2, atI_nat q4, _, _, rfl, .inr (SqT.of q5), ?_⟩
    rw [nvs_len]
    refine ⟨_, _, rfl, rfl, _, rfl, ite2 (fun z1 => ?_) (fun _ => ⟨_, rfl, iteT (kF _ (Same.refl _))⟩)⟩
    have z1 := of_decide_eq_true z1
    refine ⟨_, rfl, _, rfl, _, _, _, _, rfl, rfl, SqT.of p2, atI_nat p4, _, _, _, _, rfl, rfl, SqT.of p5, rfl, _, _, rfl, rfl, _, rfl, ?_⟩
    cases z2 : decide (((rule.getD i []).length : Int) ≤ (B.cnt i).2) with
    | false => exact iteT (kF _ (Same.refl _))
    | true =>
      have z2 := of_decide_eq_true z2
      refine iteF ⟨_, rfl, rfl, fun r hr => ?_⟩
      by_cases c : r = i
      · subst c; exact ⟨asc, z1, z2⟩
      · exact hpre r (by omega)
  · rintro σ H1 ⟨x6, rfl, rfl, hpre⟩
    refine ⟨_, rfl, B.many, rfl, O.m1, hm4, fun la ls H2 s2 n2 e2 td2 => ?_⟩
    have hll : ls.length = (ties B.many).length := by rw [td2.length, List.length_map]
    refine ⟨la, rfl, ⟨_, SqL.of e2⟩, for_it walk_list (fun i σ H3 => ∃ x7 x8, σ = [some (.ref pb), some (.ref ar), some (.str (duS B.du)), some (.ref ac), some vm, some (.int (B.many : Nat)), x6, x7, x8] ∧ Same H2 H3 ∧ ∀ t ∈ (ties B.many).take i, (xOf rule t.1 t.2.1, xOf rule t.2.2 t.2.1) ∈ B.fill t) ⟨none, none, rfl, Same.refl _, fun t ht => by simp at ht⟩ (fun i σ H3 _ p => by obtain ⟨_, _, _, s, _⟩ := p; exact SqL.of (s _ _ e2)) ?_ ?_⟩
    · rintro i y σ _ H3 hi ⟨x7, x8, rfl, s3, hpt⟩ ⟨rfl, hy⟩
      rw [hll] at hi
      obtain ⟨d, hd, td⟩ := td2.at hy
      rw [List.getElem?_map, List.getElem?_eq_getElem hi] at hd
      obtain rfl := Option.some.inj hd
      have hmem := List.getElem_mem hi
      have htk : (ties B.many).take (i + 1) = (ties B.many).take i ++ [(ties B.many)[i]] := by rw [List.take_succ, List.getElem?_eq_getElem hi]; rfl
      generalize (ties B.many)[i] = t at *
      obtain ⟨z1, z2, z3, _⟩ := ties_lt O.m1 O.m4 _ hmem
      obtain ⟨r, m, o⟩ := t
      have z1 : r < 2 ^ B.many := z1
      have z3 : o < 2 ^ B.many := z3
      obtain ⟨tie, rfl, htie⟩ := tie_vs td
      have s23 := s2.trans s3
      have htie3 := s3 _ _ htie
      have hR3 := hR.mono s23
      obtain ⟨_, _, cr, q1, q2, _, q4, q5⟩ := rule_at hR3 (r := r) (by omega)
      obtain rfl := V.ref.inj q1
      obtain ⟨_, _, co, p1, p2, _, p4, p5⟩ := rule_at hR3 (r := o) (by omega)
      obtain rfl := V.ref.inj p1
      refine ⟨_, rfl, _, _, _, _, rfl, rfl, SqT.of htie3, rfl, _, rfl, _, rfl, _, _, _, _, rfl, rfl, SqT.of htie3, rfl, _, _, _, _, rfl, rfl, SqT.of q2, atI_nat q4, cr, _, rfl, .inr (SqT.of q5), rfl, nvs_flat _, ?_⟩
      have hb1 : (if false = true then !inV (.int ((m : Nat) : Int)) (nvs (rule.getD r [])) else inV (.int ((m : Nat) : Int)) (nvs (rule.getD r []))) = xOf rule r m := in_nvs m _
      have hb2 : (if false = true then !inV (.int ((m : Nat) : Int)) (nvs (rule.getD o [])) else inV (.int ((m : Nat) : Int)) (nvs (rule.getD o []))) = xOf rule o m := in_nvs m _
      rw [hb1]
      refine ⟨_, rfl, _, _, _, _, rfl, rfl, SqT.of htie3, rfl, _, rfl, _, rfl, _, _, _, _, rfl, rfl, SqT.of htie3, rfl, _, _, _, _, rfl, rfl, SqT.of p2, atI_nat p4, co, _, rfl, .inr (SqT.of p5), rfl, nvs_flat _, ?_⟩
      rw [hb2]
      refine ⟨(by show 2 ≤ sizeLine; decide), fun fp np => ?_⟩
      have s4 := same_new (o := .tup [V.bl (xOf rule r m), .bl (xOf rule o m)]) np
      have hfp := upd_same (o := .tup [V.bl (xOf rule r m), .bl (xOf rule o m)]) (H := H3) (a := fp)
      refine ⟨_, rfl, _, rfl, _, rfl, pb, tie, B, (r, m, o), rfl, hPt.mono (s23.trans s4), O, hmem, td.mono (s3.trans s4), fun a ws H5 s5 _ e5 td5 => ?_⟩
      refine ⟨.tuple [.bool (xOf rule r m), .bool (xOf rule o m)], _, .tup (SqT.of (s5 _ _ hfp)) (.cons (.bl _) (.cons (.bl _) .nil)), .lst (SqL.of e5) (dp_fil td5), sh_b2 _ _, sh_fil _, _, rfl, ?_⟩
      rw [any_fil]
      cases hin : decide ((xOf rule r m, xOf rule o m) ∈ B.fill (r, m, o)) with
      | false => exact iteT (kF H5 ((s23.trans s4).trans s5))
      | true =>
        refine iteF ⟨_, _, rfl, (s3.trans s4).trans s5, fun t ht => ?_⟩
        rw [htk] at ht
        rcases List.mem_append.mp ht with q | q
        · exact hpt t q
        · rw [List.mem_singleton.mp q]; exact of_decide_eq_true hin
    · rintro σ H3 ⟨x7, x8, rfl, s3, hpt⟩
      rw [hll, List.take_length] at hpt
      refine kT H3 (s2.trans s3) ⟨fun r hr => ?_, hpt⟩ fun r hr => (hpre r hr).1
      obtain ⟨h1, h2, h3⟩ := hpre r hr
      have e : sumN B.many (fun m => b2 (xOf rule r m)) = ((rule.getD r []).length : Int) := by
        have h4 := mem_sum (fun _ => 1) B.many (rule.getD r []) (asc_nodup h1.1) h1.2
        have h5 : ((rule.getD r []).map fun _ => (1 : Int)).sum = ((rule.getD r []).length : Int) := by
          induction rule.getD r [] with
          | nil => rfl
          | cons a t ih => rw [List.map_cons, List.sum_cons, ih, List.length_cons]; omega
        rw [← h5, h4]
        exact sumN_congr fun m _ => by rw [Int.mul_one]; rfl
      rw [e]
      exact ⟨h2, h3⟩
end
end K31

set_option autoImplicit true
set_option Elab.async false
set_option autoImplicit false
set_option linter.all false
set_option maxRecDepth 100000
set_option maxHeartbeats 4000000
namespace K31
open PySem PySem.Spec PyProof.Rows L2
/-! the law's own def prices -/
def rowD (l : List Int) : D := .t (l.map D.i)
section
variable {P : Program} {w : World} {K : PySem.W.Frag} {mg : Str → Option Value} {base : Heap}
def spLPrices : Sp := fun vs H Q _ => ∃ (t c : Addr) (many : Nat), vs = [.ref t, .int (many : Nat)] ∧ TapeAt H t c ∧ 1 ≤ many ∧ many ≤ 4 ∧ ∀ v (pr : List (List Int)) H', TapeAt H' t c → Kp [t] H H' → Td (off [t] H') (prD pr) v → pr.length = 2 ^ many → (∀ l ∈ pr, l.length = many) → (∀ l ∈ pr, ∀ x ∈ l, -1000 ≤ x ∧ x ≤ 1000) → Q v H'
theorem sc_l_prices : FnScope ["_law_tape_here", "_law_many", "_law_most", "_law_kind", "_law_found", "_law_row", "_law_member", "_law_item"] ["_law_tape_here", "_law_many"] (defScope s_l_prices) := ⟨rfl, rfl, rfl, by decide +kernel, rfl, by decide +kernel, by decide +kernel⟩
theorem c_l_prices (T : Fx K mg) (F : DefAt K mg "_law_prices" "_law_prices" s_l_prices) (c_l_pick : Cal P w K mg base CX0 1 "_law_pick" ["_law_tape_here", "_law_size_here"] (spPk)) (c_l_size : Cal P w K mg base CX0 1 "_law_size" ["_law_many"] (spSize)) : Cal P w K mg base CX0 2 "_law_prices" ["_law_tape_here", "_law_many"] spLPrices := by
  refine cal_of F sc_l_prices (fun _ _ _ _ _ _ _ us hl => match us, hl with | [_, _], _ => rfl) (fun vs H Q E h => ?_) (fun f cdv A outer s H vs Q E hr h => ?_)
  · obtain ⟨t, c, many, rfl, hT, h1, h4, k⟩ := h
    rfl
  obtain ⟨t, c, many, rfl, hT, h1, h4, k⟩ := h
  have hu := hu_of hr
  have nd := sc_l_prices.nd
  refine ⟨_, (pss_cons (ps_set (i := 2) nd rfl (Or.inr rfl) (pe_ix ix_list (pe_lst (pa_cons pe_int (pa_cons pe_int (pa_cons pe_int pa_nil)))) (pe_k c_l_pick hr (by decide) pass0 (pa_cons (pv 0) (pa_cons pe_int pa_nil))) (fun _ _ => rfl)))
  (pss_cons (ps_set (i := 3) nd rfl (Or.inr rfl) (pe_k c_l_pick hr (by decide) pass0 (pa_cons (pv 0) (pa_cons pe_int pa_nil))))
  (pss_cons (ps_set (i := 4) nd rfl (Or.inl rfl) (pe_lst pa_nil))
  (pss_cons (ps_for (passes_of rfl) rfl (pi_range1 rfl T.range (pa_cons (pe_k c_l_size hr (by decide) pass0 (pa_cons (pv 1) pa_nil)) pa_nil)) (pg_name (i := 5) nd rfl (Or.inl rfl)) (pss_one (ps_expr (pe_bm PySem.F.plainAttrs_list PySem.F.slot_list_append PySem.F.type_list_append mt_append (pv 4) (pa_cons (pe_callTy call_tuple_of rfl T.tuple boot_tuple (pa_cons (pe_lc (own := [("_law_member", 6)]) rfl nd (pi_range1 rfl T.range (pa_cons (pv 1) pa_nil)) (blkOk_by (by rfl)) (fun _ _ _ _ _ => (pg_name (i := 6) nd rfl (Or.inl rfl))) (fun _ _ _ _ _ => pts_nil) (fun _ _ _ _ _ => (pe_op op_sub (pe_k c_l_pick hr (by decide) pass0 (pa_cons (pv 0) (pa_cons (pe_op op_add (pe_op op_mul pe_int (pv 2)) pe_int) pa_nil))) (pe_op op_mul (pv 2) (pe_callTy call_int1 rfl T.int boot_int (pa_cons (pe_cmpR op_gt (pv 3) pe_int (nomark _)) pa_nil)))))) pa_nil)) pa_nil)))))
  (pss_cons (ps_mid (ps_if (pt_cmpR op_eq (pv 3) pe_int (nomark _)) (pss_one (ps_setLc (i := 4) (own := [("_law_row", 5)]) rfl nd rfl rfl (sw_true rfl rfl rfl (by decide +kernel)) (pi_list (pv 4)) (blkOk_by (by rfl)) (fun _ _ _ _ _ => (pg_name (i := 5) nd rfl (Or.inl rfl))) (fun _ _ _ _ _ => pts_nil) (fun _ _ _ _ _ => (pe_callTy (call_tuple_ofK K) rfl T.tuple boot_tuple (pa_cons (pe_lc (own := [("_law_item", 7)]) rfl nd (pi_tupK K (pv 5)) (blkOk_by (by rfl)) (fun _ _ _ _ _ => (pg_name (i := 7) nd rfl (Or.inl rfl))) (fun _ _ _ _ _ => pts_nil) (fun _ _ _ _ _ => (pe_callB (call_min2 rfl) rfl T.min boot_min (pa_cons (pv 7) (pa_cons pe_int pa_nil))))) pa_nil))))) pss_nil))
  (pss_one (ps_ret (pe_callTy call_tuple_of rfl T.tuple boot_tuple (pa_cons (pv 4) pa_nil))))))))), ?_⟩
  have sz := sizeLine_eq
  have h16 : 2 ^ many ≤ 16 := Nat.le_trans (Nat.pow_le_pow_right (by decide) h4) (by decide)
  refine ⟨(by show 3 ≤ sizeLine; decide), fun p np => ?_⟩
  have s1 := same_new (o := .lst [V.int 3, .int 10, .int 1000]) np
  have hpt : p ≠ t := hT.ne_t np
  refine ⟨_, rfl, t, c, 3, rfl, hT.mono s1, by decide, by decide, fun r H1 r0 r3 T1 k1 => ?_⟩
  have hp1 := k1.get (upd_same (o := .lst [V.int 3, .int 10, .int 1000]) (H := H)) (by simpa using hpt)
  obtain ⟨mo, hmo, hmo1, hmo2⟩ : ∃ mo : Int, atI [V.int 3, .int 10, .int 1000] r = some (.int mo) ∧ 0 < mo ∧ mo ≤ 1000 := by
    rcases three r0 r3 with rfl | rfl | rfl
    · exact ⟨3, rfl, by decide, by decide⟩
    · exact ⟨10, rfl, by decide, by decide⟩
    · exact ⟨1000, rfl, by decide, by decide⟩
  refine ⟨_, _, _, _, rfl, rfl, SqL.of hp1, hmo, ?_⟩
  have k01 : Kp [t] H H1 := (kp_of s1).trans k1
  refine ⟨_, rfl, t, c, 3, rfl, T1, by decide, by decide, fun kd H2 d0 d3 T2 k2 => ?_⟩
  have k02 : Kp [t] H H2 := k01.trans k2
  refine ⟨Nat.zero_le _, fun fl nfl => ?_⟩
  have s3 := same_new (o := .lst []) nfl
  have hfl3 := upd_same (o := .lst []) (H := H2) (a := fl)
  have hflt : fl ≠ t := T2.ne_t nfl
  have hflc : fl ≠ c := T2.ne_c nfl
  have T3 := T2.mono s3
  generalize upd H2 fl (.lst []) = H3 at *
  have back : ∀ {H' : Hp}, Kp [t, fl] H3 H' → Kp [t] H H' := fun {H'} kk b o e => by
    have e1 := k02 b o e
    have e2 := off_le _ _ e1
    have e3 := kk.get (s3 _ _ e2) (by simp; exact ⟨by simpa using off_not e, ne_of_none e2 nfl⟩)
    exact off_of e3 (off_not e)
  refine ⟨_, rfl, many, rfl, h4, _, rfl, (rng_ok (by omega)).1, (rng_ok (by omega)).2, ?_⟩
  refine for_it walk_r (fun i σ H4 => ∃ x5 vs prs, σ = [some (.ref t), some (.int (many : Nat)), some (.int mo), some (.int kd), some (.ref fl), x5, none, none] ∧ TapeAt H4 t c ∧ Kp [t, fl] H3 H4 ∧ H4 fl = some (.lst vs) ∧ Tds (off [t, fl] H4) (prs.map rowD) vs ∧ prs.length = i ∧ (∀ l ∈ prs, l.length = many) ∧
    ∀ l ∈ prs, ∀ x ∈ l, -1000 ≤ x ∧ (kd ≠ 0 → x ≤ 1000)) ⟨none, [], [], rfl, T3, Kp.refl _ _, hfl3, .nil, rfl, fun l hl => (by cases hl), fun l hl => (by cases hl)⟩ (fun _ _ _ _ _ => trivial) ?_ ?_
  · rintro i _ σ _ H4 hi ⟨x5, vs, prs, rfl, T4, k4, f4, td4, hpl, hpm, hpb⟩ ⟨rfl, rfl⟩
    have hi : i < 2 ^ many := hi
    refine ⟨_, rfl, .inl ⟨rfl, _, .inl (.inl f4)⟩, _, rfl, _, rfl, (rng_ok (by omega)).1, (rng_ok (by omega)).2, fun q nq => lc_by walk_r (fun j acc H5 => TapeAt H5 t c ∧ Kp [t] H4 H5 ∧ ∃ ns : List Int, acc = ns.map V.int ∧ ns.length = j ∧ ∀ x ∈ ns, -1000 ≤ x ∧ (kd ≠ 0 → x ≤ 1000)) nq ⟨T4, Kp.refl _ _, [], rfl, rfl, fun x hx => (by cases hx)⟩ (fun _ _ _ _ => trivial) ?_ ?_⟩
    · rintro j acc _ _ H5 hj hle ⟨T5, k5, ns, rfl, hns, hnb⟩ hq ⟨rfl, rfl⟩
      have hj : j < many := hj
      have htq : t ∉ [q] := by obtain ⟨_, e⟩ := T5.ht; exact off_not e
      have hcq : c ∉ [q] := by obtain ⟨_, e⟩ := T5.hc; exact off_not e
      have hqt : q ≠ t := fun z => htq (by simp [z])
      refine ⟨rfl, _, rfl, _, rfl, _, _, rfl, rfl, .inl ⟨by decide, by decide⟩, _, _, rfl, rfl, t, c, 2 * mo + 1, rfl, T5.mono off_le, by omega, by omega, fun rr H6 rr0 rr1 T6 k6 => ?_⟩
      have hq6 := k6.get hq (by simpa using hqt)
      refine ⟨_, rfl, _, rfl, _, _, rfl, rfl, .inr ⟨_, rfl, _, _, rfl, rfl, .inl ⟨by omega, by omega⟩, _, _, rfl, rfl, LcS.add hq6 hle (by omega) ⟨T6.off htq hcq, ?_, ns ++ [rr - mo * if decide (kd > 0) = true then 1 else 0], by rw [List.map_append]; rfl, by rw [len_snoc, hns], fun x hx => ?_⟩⟩⟩
      · intro b o e
        have h1 := k5 b o e
        have h2 := off_le _ _ h1
        have h3 := off_le _ _ (k6 b o (off_of (off_le _ _ h2) (off_not e)))
        exact off_of (off_of h3 (off_not h2)) (off_not e)
      · rcases List.mem_append.mp hx with z | z
        · exact hnb x z
        · rw [List.mem_singleton.mp z]
          by_cases hk : kd > 0
          · rw [if_pos (decide_eq_true hk)]; omega
          · rw [if_neg (fun q => hk (of_decide_eq_true q))]; omega
    · rintro acc H5 hq ⟨T5, k5, ns, rfl, hns, hnb⟩
      refine ⟨q, _, rfl, .inl ⟨SqL.of hq, fun u nu => ?_⟩⟩
      have s6 := same_new (o := .tup (ns.map V.int)) nu
      have k45 : Kp [t] H4 H5 := k5.trans (kp_of off_le)
      have f5 := k45.get f4 (by simpa using hflt)
      have f6 := s6 _ _ f5
      have hut : u ≠ t := (T5.mono off_le).ne_t nu
      have hufl : u ≠ fl := fun z => by rw [z, f5] at nu; cases nu
      have T6 := (T5.mono off_le).mono s6
      have k46 : Kp [t, fl] H4 (upd H5 u (.tup (ns.map V.int))) := (k45.mono (by simp)).trans (kp_of s6)
      have hvl : vs.length < sizeLine := by rw [td4.length, List.length_map]; omega
      refine ⟨fl, vs, _, rfl, rfl, f6, hvl, _, vs ++ [.ref u], prs ++ [ns], rfl, T6.kp (S := [fl]) (kp_upd (by simp)) (by simpa using hflt.symm) (by simpa using hflc.symm), (k4.trans k46).trans (kp_upd (by simp)), upd_same, ?_, by rw [len_snoc, hpl], fun l hl => ?_, fun l hl => ?_⟩
      · rw [List.map_append]
        refine ((td4.mono k46).snoc (.t (off_of upd_same (by simp; exact ⟨hut, hufl⟩)) (Tds.of_ints ns))).mono (kp_upd (by simp))
      · rcases List.mem_append.mp hl with z | z
        · exact hpm l z
        · rw [List.mem_singleton.mp z]; exact hns
      · rcases List.mem_append.mp hl with z | z
        · exact hpb l z
        · rw [List.mem_singleton.mp z]; exact hnb
  · rintro σ H4 ⟨x5, vs, prs, rfl, T4, k4, f4, td4, hpl, hpm, hpb⟩
    have hpl : prs.length = 2 ^ many := hpl
    have hvl : vs.length = 2 ^ many := by rw [td4.length, List.length_map, hpl]
    have sub : Same (off [t, fl] H4) (off [t] H4) := fun b o e => off_of (off_le _ _ e) (fun z => off_not e (by simp at z; simp [z]))
    refine ⟨fun σ' H' => ∃ (fa : Addr) (vs' : List V) (prs' : List (List Int)), σ' = [some (.ref t), some (.int (many : Nat)), some (.int mo), some (.int kd), some (.ref fa), x5, none, none] ∧ TapeAt H' t c ∧ Kp [t] H H' ∧ H' fa = some (.lst vs') ∧ Tds (off [t] H') (prs'.map rowD) vs' ∧ prs'.length = 2 ^ many ∧ (∀ l ∈ prs', l.length = many) ∧ ∀ l ∈ prs', ∀ x ∈ l, -1000 ≤ x ∧ x ≤ 1000, ?_, ?_⟩
    · refine ⟨_, rfl, rfl, _, rfl, ?_⟩
      rw [dec_int]
      refine ite2 (fun z => ?_) (fun z => ⟨fl, vs, prs, rfl, T4, back k4, f4, td4.mono sub, hpl, hpm, fun l hl x hx => ⟨(hpb l hl x hx).1, (hpb l hl x hx).2 (fun q => z (decide_eq_true q))⟩⟩)
      refine ⟨_, rfl, fl, rfl, ⟨_, SqL.of f4⟩, fun q nq => lc_by walk_list (fun i acc H5 => Same H4 H5 ∧ ∃ ps : List (List Int), ps.length = i ∧ (∀ l ∈ ps, l.length = many ∧ ∀ x ∈ l, -1000 ≤ x ∧ x ≤ 1000) ∧ Tds (off [t] H5) (ps.map rowD) acc) nq ⟨Same.refl _, [], rfl, fun l hl => (by cases hl), .nil⟩ (fun i acc H5 p => SqL.of (off_le _ _ (p.1 _ _ f4))) ?_ ?_⟩
      · rintro i acc x _ H5 hi hle ⟨sm, ps, hps, hpo, td5⟩ hq ⟨rfl, hx⟩
        rw [hvl] at hi
        obtain ⟨d, hd, tdx⟩ := td4.at hx
        have hi' : i < prs.length := by omega
        rw [List.getElem?_map, some_of_lt [] hi'] at hd
        obtain rfl := Option.some.inj hd
        have hlm := hpm _ (getD_mem (d := ([] : List Int)) hi')
        have hlb := hpb _ (getD_mem (d := ([] : List Int)) hi')
        generalize prs.getD i [] = l at *
        obtain ⟨ra, rv, rfl, hra, rtd⟩ := tdx.tup
        obtain rfl := rtd.ints
        have s5 : Same H4 H5 := sm.trans off_le
        have hra5 := s5 _ _ (off_le _ _ hra)
        refine ⟨rfl, _, rfl, ra, rfl, ⟨_, SqT.of hra5⟩, fun q2 nq2 => lc_by walk_tup (fun j acc2 H6 => Same H5 H6 ∧ acc2 = ((l.take j).map fun x => if 1000 < x then 1000 else x).map V.int) nq2 ⟨Same.refl _, rfl⟩ (fun i acc H6 p => SqT.of (off_le _ _ (p.1 _ _ hra5))) ?_ ?_⟩
        · rintro j acc2 y _ H6 hj hle2 ⟨sm6, rfl⟩ hq6 ⟨rfl, hy⟩
          have hj : j < l.length := by simpa using hj
          rw [ints_at hj] at hy
          obtain rfl := Option.some.inj hy
          refine ⟨rfl, _, rfl, _, _, rfl, LcS.add hq6 hle2 (by omega) ⟨sm6, ?_⟩⟩
          rw [take_map_snoc (some_of_lt 0 hj), List.map_append]; rfl
        · rintro acc2 H6 hq6 ⟨sm6, rfl⟩
          have s56 : Same H5 H6 := sm6.trans off_le
          refine ⟨q2, _, rfl, .inl ⟨SqL.of hq6, fun u nu => ?_⟩⟩
          rw [List.length_map, List.take_length] at *
          have s7 := same_new (o := .tup ((l.map fun x => if 1000 < x then 1000 else x).map V.int)) nu
          have s57 := s56.trans s7
          have hut : u ≠ t := ((T4.mono s5).mono s56).ne_t nu
          have huq : u ≠ q := fun z => by rw [z, s56 _ _ hq] at nu; cases nu
          refine LcS.add (s57 _ _ hq) hle (by omega) ⟨sm.trans (kp_of s57), ps ++ [l.map fun x => if 1000 < x then 1000 else x], by rw [len_snoc, hps], fun l' hl' => ?_, ?_⟩
          · rcases List.mem_append.mp hl' with y | y
            · exact hpo l' y
            · rw [List.mem_singleton.mp y]
              refine ⟨by rw [List.length_map]; exact hlm, fun x hx => ?_⟩
              obtain ⟨y, hy, rfl⟩ := List.mem_map.mp hx
              have := (hlb y hy).1
              split <;> omega
          · rw [List.map_append]
            exact (td5.mono (kp_of (kp_of s57))).snoc (.t (off_of (off_of upd_same (by simpa using huq)) (by simpa using hut)) (Tds.of_ints _))
      · rintro acc H5 hq ⟨sm, ps, hps, hpo, td5⟩
        rw [hvl] at hps
        have s5 : Same H4 H5 := sm.trans off_le
        refine ⟨q, acc, ps, rfl, T4.mono s5, kp_same (back k4) s5, hq, td5.mono (kp_of off_le), hps, fun l hl => (hpo l hl).1, fun l hl => (hpo l hl).2⟩
    · rintro σ' H5 ⟨fa, vs', prs', rfl, T5, k5, f5, td5, g1, g2, g3⟩
      refine ⟨_, rfl, fa, _, rfl, .inl ⟨SqL.of f5, fun u nu => ?_⟩⟩
      have s6 := same_new (o := .tup vs') nu
      have hut : u ≠ t := T5.ne_t nu
      exact k _ prs' _ (T5.mono s6) (kp_same k5 s6) (.t (off_of upd_same (by simpa using hut)) (td5.mono (kp_of s6))) g1 g2 g3
end
end K31

set_option autoImplicit true
set_option Elab.async false
set_option autoImplicit false
set_option linter.all false
set_option maxRecDepth 100000
set_option maxHeartbeats 4000000
namespace K31
open PySem PySem.Spec PyProof.Rows L2
/-! the law's own defs: price, reach -/
theorem costF_eq (a b ha hb : Int) (x y : Bool) : (0 + (if x then 1 else 0) * (a - ha)) + (if y then 1 else 0) * (b - hb) = costF (-(ha - a)) (-(hb - b)) (x, y) := by
  unfold costF b2
  cases x <;> cases y <;> simp <;> omega
theorem fil_off {H : Hp} {cl : Addr} {ys : List V} (h : H cl = some (.lst ys)) : ∀ {l : List (Bool × Bool)} {vs : List V}, Tds H (l.map fD) vs → Tds (off [cl] H) (l.map fD) vs
  | [], _, .nil => .nil
  | p :: r, _, .cons a t => by
    refine .cons ?_ (fil_off h t)
    obtain ⟨q, vs, rfl, h1, h2⟩ := a.tup
    cases h2 with | cons a1 r1 => cases r1 with | cons a2 r2 =>
      cases r2
      rw [a1.bl, a2.bl] at h1
      exact .t (off_of h1 (by simpa using fun z => by rw [z, h] at h1; cases h1)) (.cons (.b _) (.cons (.b _) .nil))
theorem two_get {x y : V} {k : Nat} (h : k < 2) : [x, y][k]? = some (if k = 0 then x else y) := by
  have : k = 0 ∨ k = 1 := by omega
  rcases this with rfl | rfl <;> rfl
section
variable {P : Program} {w : World} {K : PySem.W.Frag} {mg : Str → Option Value} {base : Heap}
def spLPrice : Sp := fun vs H Q _ => ∃ (ap ar : Addr) (B : Bk) (pr : List (List Int)) (rule : List (List Nat)), vs = [.ref ap, .ref ar] ∧ B.Ok ∧ Td H (prD pr) (.ref ap) ∧ PrOk B pr ∧ Td H (ruleD rule) (.ref ar) ∧ RuleOk B rule ∧ ∀ H', Same H H' → Q (.int (priceL pr rule)) H'
theorem sc_l_price : FnScope ["_law_prices_here", "_law_rule_here", "_law_total", "_law_row", "_law_member"] ["_law_prices_here", "_law_rule_here"] (defScope s_l_price) := ⟨rfl, rfl, rfl, by decide +kernel, rfl, by decide +kernel, by decide +kernel⟩
theorem c_l_price (T : Fx K mg) (F : DefAt K mg "_law_price" "_law_price" s_l_price) : Cal P w K mg base CX0 1 "_law_price" ["_law_prices_here", "_law_rule_here"] spLPrice := by
  refine cal_of F sc_l_price (fun _ _ _ _ _ _ _ us hl => match us, hl with | [_, _], _ => rfl) (fun vs H Q E h => ?_) (fun f cdv A outer s H vs Q E hr h => ?_)
  · obtain ⟨ap, ar, B, pr, rule, rfl, O, hP, OP, hR, OR, k⟩ := h
    rfl
  obtain ⟨ap, ar, B, pr, rule, rfl, O, hP, OP, hR, OR, k⟩ := h
  have hu := hu_of hr
  have nd := sc_l_price.nd
  refine ⟨_, (pss_cons (ps_set (i := 2) nd rfl (Or.inl rfl) pe_int)
  (pss_cons (ps_for (passes_of rfl) rfl (pi_range1 rfl T.range (pa_cons (pe_callB call_len_seq rfl T.len boot_len (pa_cons (pv 1) pa_nil)) pa_nil)) (pg_name (i := 3) nd rfl (Or.inr rfl)) (pss_one (ps_set (i := 2) nd rfl (Or.inl rfl) (pe_op op_add (pv 2) (pe_callB (cr_sum rfl) rfl T.sum boot_sum (pa_cons (pe_lc (own := [("_law_member", 4)]) rfl nd (pi_tup (pe_ix ix_tup (pv 1) (pv 3) (fun _ _ => rfl))) (blkOk_by (by rfl)) (fun _ _ _ _ _ => (pg_name (i := 4) nd rfl (Or.inl rfl))) (fun _ _ _ _ _ => pts_nil) (fun _ _ _ _ _ => (pe_ix (ix_tupK K) (pe_ix (ix_tupK K) (pv 0) (pv 3) (fun _ _ => rfl)) (pv 4) (fun _ _ => rfl)))) pa_nil))))))
  (pss_one (ps_ret (pv 2))))), ?_⟩
  have sz := sizeLine_eq
  have h16 := two_le O
  have hm4 := O.m4
  obtain ⟨_, rvs, e1, har, rtd⟩ := hR.tup
  obtain rfl := V.ref.inj e1
  have hrvl : rvs.length = 2 ^ B.many := by rw [rtd.length, List.length_map, OR.l]
  refine ⟨_, rfl, _, _, rfl, .inr (SqT.of har), ?_⟩
  rw [hrvl]
  refine ⟨_, rfl, (rng_ok (by omega)).1, (rng_ok (by omega)).2, ?_⟩
  refine for_it walk_r (fun i σ H1 => ∃ x3, σ = [some (.ref ap), some (.ref ar), some (.int (sumN i fun r => (rowPr pr r (rule.getD r [])).sum)), x3, none] ∧ Same H H1) ⟨none, rfl, Same.refl _⟩ (fun _ _ _ _ _ => trivial) ?_ ?_
  · rintro i _ σ _ H1 hi ⟨x3, rfl, s1⟩ ⟨rfl, rfl⟩
    have hi : i < 2 ^ B.many := hi
    have hP1 := hP.mono s1
    obtain ⟨_, _, cr, q1, q2, _, q4, q5⟩ := rule_at (hR.mono s1) (r := i) (by rw [OR.l]; exact hi)
    obtain rfl := V.ref.inj q1
    have hok := OR.m _ (getD_mem (d := ([] : List Nat)) (show i < rule.length by rw [OR.l]; exact hi))
    generalize hl : rule.getD i [] = l at *
    refine ⟨_, rfl, _, rfl, _, rfl, _, _, _, _, rfl, rfl, SqT.of q2, atI_nat q4, cr, rfl, ⟨_, SqT.of q5⟩, fun q nq => lc_by walk_tup (fun j acc H2 => Same H1 H2 ∧ acc = (rowPr pr i (l.take j)).map V.int) nq ⟨Same.refl _, rfl⟩ (fun j acc H2 p => SqT.of (off_le _ _ (p.1 _ _ q5))) ?_ ?_⟩
    · rintro j acc y _ H2 hj hle ⟨sm, rfl⟩ hq ⟨rfl, hy⟩
      rw [nvs_len] at hj
      rw [nvs_at hj] at hy
      obtain rfl := Option.some.inj hy
      obtain ⟨a1, vs1, c1, ws1, e1, p1, p2, p3, p4⟩ := pr_at (hP1.mono (sm.trans off_le)) OP hi (hok.2 _ (getD_mem (d := 0) hj))
      obtain rfl := V.ref.inj e1
      refine ⟨rfl, _, rfl, _, rfl, _, _, _, _, rfl, rfl, SqT.of p1, atI_nat p2, _, rfl, _, _, _, _, rfl, rfl, SqT.of p3, atI_nat p4, LcS.add hq hle (by omega) ⟨sm, ?_⟩⟩
      rw [rowPr, rowPr, take_map_snoc (some_of_lt 0 hj), List.map_append (l₂ := [_])]; rfl
    · rintro acc H2 hq ⟨sm, rfl⟩
      rw [nvs_len, List.take_length] at hq
      refine ⟨q, _, rfl, SqL.of hq, _, _, rfl, rfl, some (.int (i : Nat)), ?_, s1.trans (sm.trans off_le)⟩
      rw [← hl]; rfl
  · rintro σ H1 ⟨x3, rfl, s1⟩
    refine ⟨_, rfl, ?_⟩
    have := k H1 s1
    unfold priceL at this
    rw [OR.l] at this
    exact this
def spLReach : Sp := fun vs H Q _ => ∃ (pb ap ah : Addr) (B : Bk) (pr : List (List Int)) (tl : List Int), vs = [.ref pb, .ref ap, .ref ah] ∧ PartsAt H pb B ∧ B.Ok ∧ Td H (prD pr) (.ref ap) ∧ PrOk B pr ∧ H ah = some (.tup (tl.map V.int)) ∧ tl.length = 2 ^ B.many ∧ B.torn = [] ∧ ∀ H', Same H H' → Q (.int (B.reachV pr tl)) H'
theorem sc_l_reach : FnScope ["_law_book", "_law_prices_here", "_law_high_here", "_law_duties_here", "_law_counts", "_law_marks", "_law_total", "_law_row", "_law_tie", "_law_costs", "_law_flags", "_law_cost", "_law_place", "_law_flag"] ["_law_book", "_law_prices_here", "_law_high_here"] (defScope s_l_reach) := ⟨rfl, rfl, rfl, by decide +kernel, rfl, by decide +kernel, by decide +kernel⟩
theorem c_l_reach (T : Fx K mg) (F : DefAt K mg "_law_reach" "_law_reach" s_l_reach) (c_l_fillings : Cal P w K mg base CX0 1 "_law_fillings" ["_law_book", "_law_tie"] (spFil)) (c_l_ties : Cal P w K mg base CX0 3 "_law_ties" ["_law_many"] (spLTies)) : Cal P w K mg base CX0 4 "_law_reach" ["_law_book", "_law_prices_here", "_law_high_here"] spLReach := by
  refine cal_of F sc_l_reach (fun _ _ _ _ _ _ _ us hl => match us, hl with | [_, _, _], _ => rfl) (fun vs H Q E h => ?_) (fun f cdv A outer s H vs Q E hr h => ?_)
  · obtain ⟨pb, ap, ah, B, pr, tl, rfl, hPt, O, hP, OP, hah, htl, htorn, k⟩ := h
    rfl
  obtain ⟨pb, ap, ah, B, pr, tl, rfl, hPt, O, hP, OP, hah, htl, htorn, k⟩ := h
  have hu := hu_of hr
  have nd := sc_l_reach.nd
  refine ⟨_, (pss_cons (ps_asg (pv 0) (pg_tup rfl (pgs_cons (pg_name (i := 3) nd rfl (Or.inl rfl)) (pgs_cons (pg_name (i := 4) nd rfl (Or.inl rfl)) (pgs_cons (pg_name (i := 5) nd rfl (Or.inl rfl)) pgs_nil)))))
  (pss_cons (ps_set (i := 6) nd rfl (Or.inl rfl) pe_int)
  (pss_cons (ps_for (passes_of rfl) rfl (pi_range1 rfl T.range (pa_cons (pe_callB call_len_seq rfl T.len boot_len (pa_cons (pv 4) pa_nil)) pa_nil)) (pg_name (i := 7) nd rfl (Or.inl rfl)) (pss_one (ps_set (i := 6) nd rfl (Or.inl rfl) (pe_op op_add (pv 6) (pe_op op_mul (pe_ix ix_tup (pv 2) (pv 7) (fun _ _ => rfl)) (pe_ix ix_tup (pe_ix ix_tup (pv 4) (pv 7) (fun _ _ => rfl)) (pe_callTy call_int1 rfl T.int boot_int (pa_cons (pe_cmpR op_lt (pe_ix ix_tup (pv 2) (pv 7) (fun _ _ => rfl)) pe_int (nomark _)) pa_nil)) (fun _ _ => rfl)))))))
  (pss_cons (ps_for (passes_of rfl) rfl (pi_list (pe_k c_l_ties hr (by decide) pass0 (pa_cons (pe_callB call_len_str rfl T.len boot_len (pa_cons (pv 3) pa_nil)) pa_nil))) (pg_name (i := 8) nd rfl (Or.inl rfl)) (pss_cons (ps_set (i := 9) nd rfl (Or.inl rfl) (pe_lst pa_nil))
  (pss_cons (ps_for (passes_of rfl) rfl (pi_list (pe_k c_l_fillings hr (by decide) pass0 (pa_cons (pv 0) (pa_cons (pv 8) pa_nil)))) (pg_name (i := 10) nd rfl (Or.inl rfl)) (pss_cons (ps_set (i := 11) nd rfl (Or.inl rfl) pe_int)
  (pss_cons (ps_for (passes_of rfl) rfl (pi_list (pe_lst (pa_cons (pe_tup (pa_cons (pe_ix ix_tup (pv 8) pe_int (fun _ _ => rfl)) (pa_cons (pe_ix ix_tup (pv 10) pe_int (fun _ _ => rfl)) pa_nil))) (pa_cons (pe_tup (pa_cons (pe_ix ix_tup (pv 8) pe_int (fun _ _ => rfl)) (pa_cons (pe_ix ix_tup (pv 10) pe_int (fun _ _ => rfl)) pa_nil))) pa_nil)))) (pg_tup rfl (pgs_cons (pg_name (i := 12) nd rfl (Or.inl rfl)) (pgs_cons (pg_name (i := 13) nd rfl (Or.inl rfl)) pgs_nil))) (pss_one (ps_set (i := 11) nd rfl (Or.inl rfl) (pe_op op_add (pv 11) (pe_op op_mul (pe_callTy call_int1 rfl T.int boot_int (pa_cons (pv 13) pa_nil)) (pe_op op_sub (pe_ix ix_tup (pe_ix ix_tup (pv 1) (pv 12) (fun _ _ => rfl)) (pe_ix ix_tup (pv 8) pe_int (fun _ _ => rfl)) (fun _ _ => rfl)) (pe_ix ix_tup (pv 2) (pv 12) (fun _ _ => rfl))))))))
  (pss_one (ps_expr (pe_bm PySem.F.plainAttrs_list PySem.F.slot_list_append PySem.F.type_list_append mt_append (pv 9) (pa_cons (pv 11) pa_nil)))))))
  (pss_one (ps_set (i := 6) nd rfl (Or.inl rfl) (pe_op op_add (pv 6) (pe_callB (cr_min rfl) rfl T.min boot_min (pa_cons (pv 9) pa_nil))))))))
  (pss_one (ps_ret (pv 6))))))), ?_⟩
  have sz := sizeLine_eq
  have h16 := two_le O
  have hm4 := O.m4
  obtain ⟨vc, vm, hpb, hvc, hvm⟩ := id hPt
  obtain ⟨ac, cs, rfl, hac, ctd⟩ := hvc.tup
  have hcl : cs.length = 2 ^ B.many := by rw [ctd.length, List.length_map, O.lc]
  refine ⟨_, rfl, pb, _, rfl, SqT.of hpb, rfl, _, _, rfl, _, _, rfl, _, _, rfl, rfl, ?_⟩
  refine ⟨_, rfl, _, _, rfl, .inr (SqT.of hac), ?_⟩
  rw [hcl]
  refine ⟨_, rfl, (rng_ok (by omega)).1, (rng_ok (by omega)).2, ?_⟩
  refine for_it walk_r (fun i σ H1 => ∃ x7, σ = [some (.ref pb), some (.ref ap), some (.ref ah), some (.str (duS B.du)), some (.ref ac), some vm, some (.int ((B.hgts tl).take i).sum), x7, none, none, none, none, none, none] ∧ H1 = H) ⟨none, rfl, rfl⟩ (fun _ _ _ _ _ => trivial) ?_ ?_
  · rintro i _ σ _ H1 hi ⟨x7, rfl, rfl⟩ ⟨rfl, rfl⟩
    have hi : i < 2 ^ B.many := hi
    have hit : i < tl.length := by omega
    obtain ⟨_, _, cc, p1, p2, _, p4, p5⟩ := cnt_at hvc O hi
    obtain rfl := V.ref.inj p1
    have es : ((B.hgts tl).take (i + 1)).sum = ((B.hgts tl).take i).sum + hgt (tl.getD i 0) (B.cnt i) := by rw [sum_snoc (by rw [hgts_len]; exact hi), hgts_at B tl hi]
    have hcc2 := O.cc _ (getD_mem (d := ((0 : Int), (0 : Int))) (show i < B.ct.length by rw [O.lc]; exact hi))
    have hcc2 : 0 ≤ (B.cnt i).1 ∧ (B.cnt i).1 ≤ (B.cnt i).2 ∧ (B.cnt i).2 ≤ (B.many : Int) := hcc2
    have h4 : (B.many : Int) ≤ 4 := by omega
    refine ⟨_, rfl, _, rfl, _, rfl, _, _, _, _, rfl, rfl, SqT.of hah, atI_nat (ints_at hit), _, rfl, _, rfl, _, _, _, _, rfl, rfl, SqT.of p2, atI_nat p4, _, rfl, _, rfl, _, _, _, _, rfl, rfl, SqT.of hah, atI_nat (ints_at hit), _, _, rfl, rfl, .inr ⟨_, rfl, ?_⟩⟩
    obtain ⟨z, hz, hz2, hz3, hz4⟩ : ∃ z : Int, atI [V.int (B.cnt i).1, .int (B.cnt i).2] (if decide (tl.getD i 0 < 0) = true then 1 else 0) = some (.int z) ∧ 0 ≤ z ∧ z ≤ 4 ∧ tl.getD i 0 * z = hgt (tl.getD i 0) (B.cnt i) := by
      by_cases c : tl.getD i 0 < 0
      · rw [if_pos (decide_eq_true c)]
        exact ⟨_, rfl, by omega, by omega, by unfold hgt; rw [if_neg (by omega)]⟩
      · rw [if_neg (fun q => c (of_decide_eq_true q))]
        exact ⟨_, rfl, by omega, by omega, by unfold hgt; rw [if_pos (by omega)]⟩
    refine ⟨_, _, _, _, rfl, rfl, SqT.of p5, hz, _, _, rfl, rfl, .inr ⟨by omega, by omega⟩, _, _, rfl, rfl, some (.int (i : Nat)), ?_, rfl⟩
    rw [es, ← hz4]; rfl
  · rintro σ H1 ⟨x7, rfl, rfl⟩
    have eT : ((B.hgts tl).take (2 ^ B.many)).sum = (B.hgts tl).sum := by rw [← hgts_len B tl, List.take_length]
    rw [eT]
    refine ⟨_, rfl, _, rfl, by rw [du_length, O.ld]; omega, ?_⟩
    rw [du_length, O.ld]
    refine ⟨B.many, rfl, O.m1, hm4, fun la ls H2 s2 n2 e2 td2 => ?_⟩
    have hll : ls.length = (ties B.many).length := by rw [td2.length, List.length_map]
    refine ⟨la, rfl, ⟨_, SqL.of e2⟩, for_it walk_list (fun i σ H3 => ∃ x8 x9 x10 x11 x12 x13, σ = [some (.ref pb), some (.ref ap), some (.ref ah), some (.str (duS B.du)), some (.ref ac), some vm, some (.int ((B.hgts tl).sum + ((B.leasts pr tl).take i).sum)), x7, x8, x9, x10, x11, x12, x13] ∧ Same H2 H3) ⟨none, none, none, none, none, none, by simp, Same.refl _⟩ (fun i σ H3 _ p => by obtain ⟨_, _, _, _, _, _, _, s⟩ := p; exact SqL.of (s _ _ e2)) ?_ ?_⟩
    · rintro i y σ _ H3 hi ⟨x8, x9, x10, x11, x12, x13, rfl, s3⟩ ⟨rfl, hy⟩
      rw [hll] at hi
      obtain ⟨d, hd, td⟩ := td2.at hy
      rw [List.getElem?_map, List.getElem?_eq_getElem hi] at hd
      obtain rfl := Option.some.inj hd
      have hmem := List.getElem_mem hi
      have hne := (torn_nil B).mp htorn _ hmem
      have es : ((B.leasts pr tl).take (i + 1)).sum = ((B.leasts pr tl).take i).sum + B.least pr tl (ties B.many)[i] := by
        rw [sum_snoc (by rw [leasts_len]; exact hi)]
        congr 1
        unfold Bk.leasts
        rw [getD_map (d := (0, 0, 0)) hi]
        congr 1
        exact getD_of_some (List.getElem?_eq_getElem hi)
      generalize (ties B.many)[i] = t at *
      obtain ⟨z1, z2, z3, _⟩ := ties_lt O.m1 O.m4 _ hmem
      obtain ⟨r, m, o⟩ := t
      have z1 : r < 2 ^ B.many := z1
      have z2 : m < B.many := z2
      have z3 : o < 2 ^ B.many := z3
      obtain ⟨tie, rfl, htie⟩ := tie_vs td
      have s23 := s2.trans s3
      refine ⟨Nat.zero_le _, fun cl ncl => ?_⟩
      have s4 := same_new (o := .lst []) ncl
      have hcl4 := upd_same (o := .lst []) (H := H3) (a := cl)
      generalize upd H3 cl (.lst []) = H4 at *
      have s04 := s23.trans s4
      refine ⟨_, rfl, _, rfl, pb, tie, B, (r, m, o), rfl, hPt.mono s04, O, hmem, td.mono (s3.trans s4), fun fa fs H5 s5 n5 e5 td5 => ?_⟩
      have hcl5 := s5 _ _ hcl4
      have s05 := s04.trans s5
      have hfl : fs.length = (B.fill (r, m, o)).length := by rw [td5.length, List.length_map]
      have hfil4 : (B.fill (r, m, o)).length ≤ 4 := filTo_len _ _ _ 4
      have hfcl : fa ≠ cl := fun z => by rw [z, hcl4] at n5; cases n5
      have htie5 := s5 _ _ (s4 _ _ (s3 _ _ htie))
      let g : Bool × Bool → Int := costF (-(tl.getD r 0 - prAt pr r m)) (-(tl.getD o 0 - prAt pr o m))
      have kp5 : ∀ {H' : Hp} {a : Addr} {u : HO}, Same (off [cl] H5) (off [cl] H') → H5 a = some u → a ≠ cl → H' a = some u := fun ss e ne => off_le _ _ (ss _ _ (off_of e (by simpa using ne)))
      have htcl : tie ≠ cl := ne_of_none (s3 _ _ htie) ncl
      have hahc : ah ≠ cl := ne_of_none (s23 _ _ hah) ncl
      have hP5 : Td (off [cl] H5) (prD pr) (.ref ap) := ((hP.mono s23).mono (same_off ncl s4)).mono (kp_of s5)
      have td5' : Tds (off [cl] H5) ((B.fill (r, m, o)).map fD) fs := by
        exact fil_off hcl5 td5
      refine ⟨fa, rfl, ⟨_, SqL.of e5⟩, for_it walk_list (fun j σ H6 => ∃ x10 x11 x12 x13, σ = [some (.ref pb), some (.ref ap), some (.ref ah), some (.str (duS B.du)), some (.ref ac), some vm, some (.int ((B.hgts tl).sum + ((B.leasts pr tl).take i).sum)), x7, some (.ref tie), some (.ref cl), x10, x11, x12, x13] ∧
        Same (off [cl] H5) (off [cl] H6) ∧ H6 cl = some (.lst ((((B.fill (r, m, o)).take j).map g).map V.int))) ⟨x10, x11, x12, x13, rfl, Same.refl _, hcl5⟩ (fun j σ H6 _ p => by obtain ⟨_, _, _, _, _, s, _⟩ := p; exact SqL.of (kp5 s e5 hfcl)) ?_ ?_⟩
      · rintro j y σ _ H6 hj ⟨x10, x11, x12, x13, rfl, k6, e6⟩ ⟨rfl, hy⟩
        rw [hfl] at hj
        obtain ⟨d, hd, tdf⟩ := (td5'.mono k6).at hy
        rw [List.getElem?_map, List.getElem?_eq_getElem hj] at hd
        obtain rfl := Option.some.inj hd
        have htk : (((B.fill (r, m, o)).take (j + 1)).map g).map V.int = (((B.fill (r, m, o)).take j).map g).map V.int ++ [V.int (g (B.fill (r, m, o))[j])] := by
          rw [List.take_succ, List.getElem?_eq_getElem hj, List.map_append, List.map_append]; rfl
        have hln : ((((B.fill (r, m, o)).take j).map g).map V.int).length < sizeLine := by rw [List.length_map, List.length_map, List.length_take]; omega
        generalize (B.fill (r, m, o))[j] = fp at *
        obtain ⟨f1, f2⟩ := fp
        obtain ⟨fa2, v1, v2, rfl, hf2, b1, b2'⟩ := two_vs (show Td _ (.t [.b f1, .b f2]) y from tdf)
        obtain rfl := b1.bl
        obtain rfl := b2'.bl
        have hf6 := off_le _ _ hf2
        have htie6 := kp5 k6 htie5 htcl
        have hah6 := kp5 k6 (s5 _ _ (s4 _ _ (s23 _ _ hah))) hahc
        have hP6 := (hP5.mono k6).mono off_le
        refine ⟨_, rfl, _, _, _, _, rfl, rfl, SqT.of htie6, rfl, _, rfl, _, _, _, _, rfl, rfl, SqT.of hf6, rfl, (by show 2 ≤ sizeLine; decide), fun p1 n1 => ?_⟩
        have t1 := same_new (o := .tup [V.int (r : Nat), .bl f1]) n1
        refine ⟨_, rfl, _, _, _, _, rfl, rfl, SqT.of (t1 _ _ htie6), rfl, _, rfl, _, _, _, _, rfl, rfl, SqT.of (t1 _ _ hf6), rfl, (by show 2 ≤ sizeLine; decide), fun p2 n2 => ⟨(by show 2 ≤ sizeLine; decide), fun p3 n3 => ?_⟩⟩
        have t2 := same_new (o := .tup [V.int (o : Nat), .bl f2]) n2
        have t3 := same_new (o := .lst [V.ref p1, .ref p2]) n3
        have g1 := (t2.trans t3) _ _ (upd_same (o := .tup [V.int (r : Nat), .bl f1]) (H := H6) (a := p1))
        have g2 := t3 _ _ (upd_same (o := .tup [V.int (o : Nat), .bl f2]) (H := upd H6 p1 (.tup [V.int (r : Nat), .bl f1])) (a := p2))
        have g3 := upd_same (o := .lst [V.ref p1, .ref p2]) (H := upd (upd H6 p1 (.tup [V.int (r : Nat), .bl f1])) p2 (.tup [V.int (o : Nat), .bl f2])) (a := p3)
        have t13 := (t1.trans t2).trans t3
        generalize upd (upd (upd H6 p1 (.tup [V.int (r : Nat), .bl f1])) p2 (.tup [V.int (o : Nat), .bl f2])) p3 (.lst [V.ref p1, .ref p2]) = H9 at *
        have htie9 := t13 _ _ htie6
        have hah9 := t13 _ _ hah6
        have hP9 := hP6.mono t13
        have e9 := t13 _ _ e6
        let A1 : Int := 0 + (if f1 then 1 else 0) * (prAt pr r m - tl.getD r 0)
        let A2 : Int := A1 + (if f2 then 1 else 0) * (prAt pr o m - tl.getD o 0)
        let ff : Nat → Int := fun k => if k = 0 then 0 else if k = 1 then A1 else A2
        refine ⟨p3, rfl, ⟨_, SqL.of g3⟩, for_it walk_list (fun kk σ H8 => ∃ x12 x13, σ = [some (.ref pb), some (.ref ap), some (.ref ah), some (.str (duS B.du)), some (.ref ac), some vm, some (.int ((B.hgts tl).sum + ((B.leasts pr tl).take i).sum)), x7, some (.ref tie), some (.ref cl), some (.ref fa2), some (.int (ff kk)), x12, x13] ∧ H8 = H9) ⟨x12, x13, rfl, rfl⟩ (fun kk σ H8 _ p => by obtain ⟨_, _, _, rfl⟩ := p; exact SqL.of g3) ?_ ?_⟩
        · rintro kk y σ _ H8 hk ⟨x12, x13, rfl, rfl⟩ ⟨rfl, hy⟩
          have hk : kk < 2 := hk
          obtain ⟨pp, u, fl, rfl, hpp, hu, hff⟩ : ∃ (pp : Addr) (u : Nat) (fl : Bool), y = .ref pp ∧ H8 pp = some (.tup [.int ((u : Nat) : Int), .bl fl]) ∧ u < 2 ^ B.many ∧ ff (kk + 1) = ff kk + (if fl then 1 else 0) * (prAt pr u m - tl.getD u 0) := by
            have : kk = 0 ∨ kk = 1 := by omega
            rcases this with rfl | rfl
            · exact ⟨p1, r, f1, (Option.some.inj hy).symm, g1, z1, rfl⟩
            · exact ⟨p2, o, f2, (Option.some.inj hy).symm, g2, z3, rfl⟩
          obtain ⟨_, vs1, c1, ws1, q1, q2, q3, q4, q5⟩ := pr_at hP9 OP hu z2
          obtain rfl := V.ref.inj q1
          refine ⟨pp, _, rfl, SqT.of hpp, rfl, _, _, rfl, _, _, rfl, rfl, ?_⟩
          refine ⟨_, rfl, _, rfl, .inr ⟨_, rfl, _, rfl, _, rfl, _, _, _, _, rfl, rfl, SqT.of q2, atI_nat q3, _, rfl, _, _, _, _, rfl, rfl, SqT.of htie9, rfl, _, _, _, _, rfl, rfl, SqT.of q4, atI_nat q5, _, rfl, _, rfl, _, _, _, _, rfl, rfl, SqT.of hah9, atI_nat (ints_at (show u < tl.length by omega)), _, _, rfl, rfl, _, _, rfl, rfl, .inl ?_, _, _, rfl, rfl, _, _, by rw [hff]; rfl, rfl⟩⟩
          cases fl <;> exact ⟨by decide, by decide⟩
        · rintro σ H8 ⟨x12, x13, rfl, rfl⟩
          have hA : ff 2 = g (f1, f2) := costF_eq _ _ _ _ _ _
          refine ⟨_, rfl, .inl ⟨rfl, _, .inl (.inl e9)⟩, _, rfl, cl, _, _, rfl, rfl, e9, hln, _, _, _, _, rfl, ?_, ?_⟩
          · rw [off_upd]; exact k6.trans (kp_of t13)
          · rw [upd_same, htk]
            show some (HO.lst (_ ++ [V.int (ff 2)])) = _
            rw [hA]
      · rintro σ H6 ⟨x10, x11, x12, x13, rfl, k6, e6⟩
        rw [hfl, List.take_length] at e6
        refine ⟨_, rfl, _, rfl, cl, (B.fill (r, m, o)).map g, rfl, SqL.of e6, by rw [List.length_map]; exact List.length_pos_iff.mpr hne, fun mn hmn hmin => ?_⟩
        have hmm := most_min (B.d m) (B.sg r m) (B.sg o m) (tl.getD r 0 - prAt pr r m) (tl.getD o 0 - prAt pr o m) hne
        have hmn' : mn = B.least pr tl (r, m, o) := by
          obtain ⟨⟨g0, hg0, eg0⟩, hle⟩ := hmm
          obtain ⟨f0, hf0, rfl⟩ := List.mem_map.mp hmn
          have h1 := hle f0 hf0
          have h2 := hmin (g g0) (List.mem_map_of_mem hg0)
          have h3 : g g0 = B.least pr tl (r, m, o) := eg0
          have h4 : B.least pr tl (r, m, o) ≤ g f0 := h1
          omega
        refine ⟨_, _, rfl, rfl, some (.ref tie), some (.ref cl), x10, x11, x12, x13, ?_, ?_⟩
        · rw [es, hmn', ← Int.add_assoc]; rfl
        · intro b u e
          have e1 := s3 _ _ e
          exact kp5 k6 (s5 _ _ (s4 _ _ e1)) (ne_of_none e1 ncl)
    · rintro σ H3 ⟨x8, x9, x10, x11, x12, x13, rfl, s3⟩
      have e : ((B.leasts pr tl).take ls.length).sum = (B.leasts pr tl).sum := by rw [hll, ← leasts_len B pr tl, List.take_length]
      rw [e]
      exact ⟨_, rfl, k H3 (s2.trans s3)⟩
end
end K31

set_option autoImplicit true
set_option Elab.async false
set_option autoImplicit false
set_option linter.all false
set_option maxRecDepth 100000
set_option maxHeartbeats 4000000
namespace K31
open PySem PySem.Spec PyProof.Rows L2
/-! the law's own defs: reached, told, high -/
section
variable {X : Cx} {CX : CXT} {k j : Nat} {x : Str} {ps : List Str} {sp : Sp} {p pos : Pos} {e : Expr} {es : List Expr} {t : TA} {E : L2.St → XK}
/-- f(e, ..) in a try: what f raises is taken -/
theorem pe_kS (c : Cal X.prog X.w X.K X.mg X.base CX k x ps sp) (hr : Room j X.A) (hk : k ≤ j) (hx : ∀ σ, PassesAt CX X σ (E σ)) (ha : PA X (e :: es) t) (hg : Gl X x := by rfl)
    (hdb : (x == ("__debug__" : Str)) = false := by decide) (he : starEach (e :: es) X.env = (false, eval e X.env) :: starEach es X.env := by rfl) (hpl : (backTo pos (starEach es X.env)).any (·.1) = false := by rfl) :
    PE X (.Call (.Name x p) (e :: es) [] pos) (tCallS sp E t) := by
  obtain ⟨f, fd, h1, h2, h3, h4⟩ := c.ex
  exact pe_callS h3 (hr.mono hk) hg h1 h2 h4 hx ha hdb he hpl
end
section
variable {P : Program} {w : World} {K : PySem.W.Frag} {mg : Str → Option Value} {base : Heap}
def spReached (K : PySem.W.Frag) : Sp := fun vs H Q _ => ∃ (b ap at_ : Addr) (B : Bk) (pr : List (List Int)) (tl : List Int), vs = [.ref b, .ref ap, .ref at_] ∧ BookAt K H b B ∧ B.Ok ∧ Td H (prD pr) (.ref ap) ∧ PrOk B pr ∧ H at_ = some (.tup (tl.map V.int)) ∧ tl.length = 2 ^ B.many ∧
  (B.torn ≠ [] → ∀ H', Same H H' → Q (.str "torn") H') ∧ (B.torn = [] → ∀ H', Same H H' → Q (.int (B.reachV pr tl)) H')
theorem sc_l_reached : FnScope ["_law_book", "_law_prices_here", "_law_high_here", "_law_found"] ["_law_book", "_law_prices_here", "_law_high_here"] (defScope s_l_reached) := ⟨rfl, rfl, rfl, by decide +kernel, rfl, by decide +kernel, by decide +kernel⟩
theorem c_l_reached (T : Fx K mg) (F : DefAt K mg "_law_reached" "_law_reached" s_l_reached) (c_reach : Cal P w K mg base (L2.CX P w) 7 "reach" ["book", "prices", "talls"] (spReach T)) : Cal P w K mg base CX0 8 "_law_reached" ["_law_book", "_law_prices_here", "_law_high_here"] (spReached K) := by
  refine cal_of F sc_l_reached (fun _ _ _ _ _ _ _ us hl => match us, hl with | [_, _, _], _ => rfl) (fun vs H Q E h => ?_) (fun f cdv A outer s H vs Q E hr h => ?_)
  · obtain ⟨b, ap, at_, B, pr, tl, rfl, hB, O, hP, OP, hat, htl, kT, kV⟩ := h
    rfl
  obtain ⟨b, ap, at_, B, pr, tl, rfl, hB, O, hP, OP, hat, htl, kT, kV⟩ := h
  have hu := hu_of hr
  have nd := sc_l_reached.nd
  refine ⟨_, (pss_cons (ps_set (i := 3) nd rfl (Or.inl rfl) pe_non)
  (pss_cons (ps_try_only rfl rfl ⟨rfl, by decide, .inl T.gT⟩ takes0 (fun W pn xe tk _ => (pss_one (ps_set (i := 3) nd rfl (Or.inl rfl) (pe_kS c_reach hr (by decide) (fun σ => passAt tk σ) (pa_cons (pv 0) (pa_cons (pv 1) (pa_cons (pv 2) pa_nil))))))) (fun a oe cls d pn _ _ => (pss_one (ps_set (i := 3) nd rfl (Or.inl rfl) pe_str))))
  (pss_one (ps_ret (pv 3))))), ?_⟩
  refine ⟨_, rfl, _, rfl, _, rfl, b, ap, at_, B, pr, tl, rfl, hB, O, hP, OP, hat, htl, fun h H1 s1 => ?_, fun h H1 s1 => ?_⟩
  · exact ⟨true, T.eT, fun _ a ha => ⟨_, rfl, kT h H1 s1⟩, fun q => nomatch q⟩
  · exact ⟨_, rfl, kV h H1 s1⟩
def spTold (K : PySem.W.Frag) : Sp := fun vs H Q _ => ∃ (b ap : Addr) (B : Bk) (pr : List (List Int)), vs = [.ref b, .ref ap] ∧ BookAt K H b B ∧ B.Ok ∧ Td H (prD pr) (.ref ap) ∧ PrOk B pr ∧ (∀ H', Same H H' → Q .non H') ∧
  (∀ H' q q1 q2 z v rule ns, Same H H' → H' q = some (.tup [.ref q1, .ref q2]) → H' q1 = some (.tup [.int z, v]) → Td H' (ruleD rule) v → RuleOk B rule → z = priceL pr rule → (∀ h, B.reachV pr h ≤ z) → H' q2 = some (.tup ((ns : List Int).map V.int)) → ns.length = 2 ^ B.many → Q (.ref q) H')
theorem sc_l_told : FnScope ["_law_book", "_law_prices_here", "_law_found"] ["_law_book", "_law_prices_here"] (defScope s_l_told) := ⟨rfl, rfl, rfl, by decide +kernel, rfl, by decide +kernel, by decide +kernel⟩
theorem c_l_told (T : Fx K mg) (F : DefAt K mg "_law_told" "_law_told" s_l_told) (c_cheapest : Cal P w K mg base (L2.CX P w) 9 "cheapest" ["book", "prices"] (spCheap T)) (c_heights : Cal P w K mg base (L2.CX P w) 9 "heights" ["book", "prices"] (spHeights T)) : Cal P w K mg base CX0 10 "_law_told" ["_law_book", "_law_prices_here"] (spTold K) := by
  refine cal_of F sc_l_told (fun _ _ _ _ _ _ _ us hl => match us, hl with | [_, _], _ => rfl) (fun vs H Q E h => ?_) (fun f cdv A outer s H vs Q E hr h => ?_)
  · obtain ⟨b, ap, B, pr, rfl, hB, O, hP, OP, kN, kT⟩ := h
    rfl
  obtain ⟨b, ap, B, pr, rfl, hB, O, hP, OP, kN, kT⟩ := h
  have hu := hu_of hr
  have nd := sc_l_told.nd
  refine ⟨_, (pss_cons (ps_set (i := 2) nd rfl (Or.inl rfl) pe_non)
  (pss_cons (ps_try_only rfl rfl ⟨rfl, by decide, .inl T.gN⟩ takes0 (fun W pn xe tk _ => (pss_one (ps_set (i := 2) nd rfl (Or.inl rfl) (pe_tup (pa_cons (pe_kS c_cheapest hr (by decide) (fun σ => passAt tk σ) (pa_cons (pv 0) (pa_cons (pv 1) pa_nil))) (pa_cons (pe_kS c_heights hr (by decide) (fun σ => passAt tk σ) (pa_cons (pv 0) (pa_cons (pv 1) pa_nil))) pa_nil)))))) (fun a oe cls d pn _ _ => (pss_one (ps_set (i := 2) nd rfl (Or.inl rfl) pe_non))))
  (pss_one (ps_ret (pv 2))))), ?_⟩
  refine ⟨_, rfl, _, rfl, b, ap, B, pr, rfl, hB, O, hP, OP, fun H1 q1 v z rule s1 h1 td hR hz hle => ?_, fun H1 s1 => ?_⟩
  · refine ⟨_, rfl, _, rfl, b, ap, B, pr, rfl, hB.mono s1, O, hP.mono s1, OP, fun H2 q2 ns s2 h2 hl => ?_, fun H2 s2 => ?_⟩
    · refine ⟨(by show 2 ≤ sizeLine; decide), fun q nq => ?_⟩
      have s3 := same_new (o := .tup [V.ref q1, .ref q2]) nq
      exact ⟨_, rfl, kT _ q q1 q2 z v rule ns ((s1.trans s2).trans s3) upd_same ((s2.trans s3) _ _ h1) (td.mono (s2.trans s3)) hR hz hle (s3 _ _ h2) hl⟩
    · exact ⟨true, T.eN, fun _ a ha => ⟨_, rfl, kN H2 (s1.trans s2)⟩, fun q => nomatch q⟩
  · exact ⟨true, T.eN, fun _ a ha => ⟨_, rfl, kN H1 s1⟩, fun q => nomatch q⟩
def spHigh : Sp := fun vs H Q _ => ∃ (t c : Addr) (many : Nat) (u : V), vs = [.ref t, .int (many : Nat), u] ∧ TapeAt H t c ∧ 1 ≤ many ∧ many ≤ 4 ∧ (u = .non ∨ ∃ a ns, u = .ref a ∧ H a = some (.tup ((ns : List Int).map V.int)) ∧ ns.length = 2 ^ many) ∧
  ∀ a (ns : List Int) H', TapeAt H' t c → Kp [t] H H' → H' a = some (.tup (ns.map V.int)) → ns.length = 2 ^ many → Q (.ref a) H'
theorem four {r : Int} (h0 : 0 ≤ r) (h3 : r < 4) : r = 0 ∨ r = 1 ∨ r = 2 ∨ r = 3 := by omega
theorem sc_l_high : FnScope ["_law_tape_here", "_law_many", "_law_told_here", "_law_size_here", "_law_found", "_law_turn", "_law_at", "_law_row"] ["_law_tape_here", "_law_many", "_law_told_here"] (defScope s_l_high) := ⟨rfl, rfl, rfl, by decide +kernel, rfl, by decide +kernel, by decide +kernel⟩
theorem c_l_high (T : Fx K mg) (F : DefAt K mg "_law_high" "_law_high" s_l_high) (c_l_pick : Cal P w K mg base CX0 1 "_law_pick" ["_law_tape_here", "_law_size_here"] (spPk)) (c_l_size : Cal P w K mg base CX0 1 "_law_size" ["_law_many"] (spSize)) : Cal P w K mg base CX0 2 "_law_high" ["_law_tape_here", "_law_many", "_law_told_here"] spHigh := by
  refine cal_of F sc_l_high (fun _ _ _ _ _ _ _ us hl => match us, hl with | [_, _, _], _ => rfl) (fun vs H Q E h => ?_) (fun f cdv A outer s H vs Q E hr h => ?_)
  · obtain ⟨t, c, many, u, rfl, hT, h1, h4, hun, k⟩ := h
    rfl
  obtain ⟨t, c, many, u, rfl, hT, h1, h4, hun, k⟩ := h
  have hu := hu_of hr
  have nd := sc_l_high.nd
  refine ⟨_, (pss_cons (ps_set (i := 3) nd rfl (Or.inr rfl) (pe_ix ix_list (pe_lst (pa_cons pe_int (pa_cons pe_int (pa_cons pe_int (pa_cons (pe_op op_pow pe_int pe_int) pa_nil))))) (pe_k c_l_pick hr (by decide) pass0 (pa_cons (pv 0) (pa_cons pe_int pa_nil))) (fun _ _ => rfl)))
  (pss_cons (ps_mid (ps_if (PW.pt (pw_and (pt_cmp (pc_notN (pv 2))) (pw_and1 (pt_cmpR op_eq (pe_k c_l_pick hr (by decide) pass0 (pa_cons (pv 0) (pa_cons pe_int pa_nil))) pe_int (nomark _))))) (pss_cons (ps_set (i := 4) nd rfl (Or.inl rfl) (pe_callTy call_list_of rfl T.list boot_list (pa_cons (pv 2) pa_nil)))
  (pss_cons (ps_for (passes_of rfl) rfl (pi_range1 rfl T.range (pa_cons (pe_op op_add pe_int (pe_k c_l_pick hr (by decide) pass0 (pa_cons (pv 0) (pa_cons pe_int pa_nil)))) pa_nil)) (pg_name (i := 5) nd rfl (Or.inl rfl)) (pss_cons (ps_set (i := 6) nd rfl (Or.inl rfl) (pe_k c_l_pick hr (by decide) pass0 (pa_cons (pv 0) (pa_cons (pe_callB call_len_seq rfl T.len boot_len (pa_cons (pv 4) pa_nil)) pa_nil))))
  (pss_one (ps_asg (pe_op op_sub (pe_op op_add (pe_ix ix_list (pv 4) (pv 6) (fun _ _ => rfl)) (pe_k c_l_pick hr (by decide) pass0 (pa_cons (pv 0) (pa_cons (pe_op op_add (pe_op op_mul pe_int (pv 3)) pe_int) pa_nil)))) (pv 3)) (pg_sub (pv 4) (pv 6) set_list)))))
  (pss_one (ps_ret (pe_callTy call_tuple_of rfl T.tuple boot_tuple (pa_cons (pv 4) pa_nil)))))) pss_nil))
  (pss_one (ps_ret (pe_callTy call_tuple_of rfl T.tuple boot_tuple (pa_cons (pe_lc (own := [("_law_row", 7)]) rfl nd (pi_range1 rfl T.range (pa_cons (pe_k c_l_size hr (by decide) pass0 (pa_cons (pv 1) pa_nil)) pa_nil)) (blkOk_by (by rfl)) (fun _ _ _ _ _ => (pg_name (i := 7) nd rfl (Or.inl rfl))) (fun _ _ _ _ _ => pts_nil) (fun _ _ _ _ _ => (pe_op op_sub (pe_k c_l_pick hr (by decide) pass0 (pa_cons (pv 0) (pa_cons (pe_op op_add (pe_op op_mul pe_int (pv 3)) pe_int) pa_nil))) (pv 3)))) pa_nil)))))), ?_⟩
  have sz := sizeLine_eq
  have h16 : 2 ^ many ≤ 16 := Nat.le_trans (Nat.pow_le_pow_right (by decide) h4) (by decide)
  have h2p : 0 < 2 ^ many := Nat.pow_pos (by decide)
  refine ⟨_, _, rfl, rfl, ⟨by decide, by decide, by decide⟩, (by show 4 ≤ sizeLine; decide), fun p np => ?_⟩
  have s1 := same_new (o := .lst [V.int 2, .int 10, .int 1000, .int (10 ^ (30 : Int).toNat)]) np
  have hpt : p ≠ t := hT.ne_t np
  refine ⟨_, rfl, t, c, 4, rfl, hT.mono s1, by decide, by decide, fun r H1 r0 r4 T1 k1 => ?_⟩
  have hp1 := k1.get (upd_same (o := .lst [V.int 2, .int 10, .int 1000, .int (10 ^ (30 : Int).toNat)]) (H := H)) (by simpa using hpt)
  obtain ⟨mo, hmo, hmo1, hmo2⟩ : ∃ mo : Int, atI [V.int 2, .int 10, .int 1000, .int (10 ^ (30 : Int).toNat)] r = some (.int mo) ∧ 0 < mo ∧ mo ≤ 10 ^ 30 := by
    rcases four r0 r4 with rfl | rfl | rfl | rfl
    · exact ⟨2, rfl, by decide, by decide⟩
    · exact ⟨10, rfl, by decide, by decide⟩
    · exact ⟨1000, rfl, by decide, by decide⟩
    · exact ⟨10 ^ (30 : Int).toNat, rfl, by decide, by decide⟩
  refine ⟨_, _, _, _, rfl, rfl, SqL.of hp1, hmo, ?_⟩
  have k01 : Kp [t] H H1 := (kp_of s1).trans k1
  have hb : 0 < 2 * mo + 1 ∧ 2 * mo + 1 < 2 ^ 200 := ⟨by omega, by
    have h2 : (10 : Int) ^ 30 * 2 + 1 < 2 ^ 200 := by decide
    omega⟩
  refine ⟨fun σ' H' => σ' = [some (.ref t), some (.int (many : Nat)), some u, some (.int mo), none, none, none, none] ∧ TapeAt H' t c ∧ Kp [t] H H', ?_, ?_⟩
  · refine ⟨_, rfl, _, rfl, ?_⟩
    rcases hun with rfl | ⟨a, ns, rfl, ha, hns⟩
    · exact iteF (iteF ⟨rfl, T1, k01⟩)
    · have hat : a ≠ t := fun z => by obtain ⟨_, e⟩ := hT.ht; exact absurd (e.symm.trans (z ▸ ha)) (by simp)
      refine iteT ⟨_, rfl, t, c, 2, rfl, T1, by decide, by decide, fun r2 H2 _ _ T2 k2 => ⟨rfl, _, rfl, ite2 (fun _ => ?_) (fun _ => ⟨rfl, T2, k01.trans k2⟩)⟩⟩
      have k02 := k01.trans k2
      have ha2 := Kp.get k02 ha (by simpa using hat)
      refine ⟨_, rfl, a, _, rfl, .inr (SqT.of ha2), fun l nl => ?_⟩
      have s3 := same_new (o := .lst (ns.map V.int)) nl
      have hl3 := upd_same (o := .lst (ns.map V.int)) (H := H2) (a := l)
      have T3 := T2.mono s3
      have hlt : l ≠ t := T2.ne_t nl
      have hlc : l ≠ c := T2.ne_c nl
      generalize upd H2 l (.lst (ns.map V.int)) = H3 at *
      have back : ∀ {H' : Hp}, Kp [t, l] H3 H' → Kp [t] H H' := fun {H'} kk b o e => by
        have e1 := k02 b o e
        have e2 := off_le _ _ e1
        have e3 := kk.get (s3 _ _ e2) (by simp; exact ⟨by simpa using off_not e, ne_of_none e2 nl⟩)
        exact off_of e3 (off_not e)
      refine ⟨_, rfl, t, c, 2, rfl, T3, by decide, by decide, fun r3 H4 q0 q2 T4 k4 => ?_⟩
      obtain ⟨n, rfl⟩ := Int.eq_ofNat_of_zero_le q0
      refine ⟨_, _, rfl, rfl, ((1 + n : Nat) : Int), rfl, (rng_ok (by omega)).1, (rng_ok (by omega)).2, ?_⟩
      refine for_it walk_r (fun i σ H5 => ∃ x5 x6 ns', σ = [some (.ref t), some (.int (many : Nat)), some (.ref a), some (.int mo), some (.ref l), x5, x6, none] ∧ TapeAt H5 t c ∧ Kp [t, l] H3 H5 ∧ H5 l = some (.lst ((ns' : List Int).map V.int)) ∧ ns'.length = 2 ^ many) ⟨none, none, ns, rfl, T4, k4.mono (by simp), k4.get hl3 (by simpa using hlt), hns⟩ (fun _ _ _ _ _ => trivial) ?_ ?_
      · rintro i _ σ _ H5 hi ⟨x5, x6, ns', rfl, T5, k5, e5, hns'⟩ ⟨rfl, rfl⟩
        refine ⟨_, rfl, _, rfl, _, _, rfl, .inl (SqL.of e5), ?_⟩
        rw [List.length_map, hns']
        refine ⟨t, c, ((2 ^ many : Nat) : Int), rfl, T5, by omega, by omega, fun ra H6 a0 a1 T6 k6 => ?_⟩
        obtain ⟨at_, rfl⟩ := Int.eq_ofNat_of_zero_le a0
        have hatl : at_ < ns'.length := by omega
        have e6 := k6.get e5 (by simpa using hlt)
        refine ⟨_, rfl, _, rfl, _, _, _, _, rfl, rfl, SqL.of e6, atI_nat (ints_at hatl), _, rfl, _, rfl, _, _, rfl, rfl, .inl ⟨by decide, by decide⟩, _, _, rfl, rfl, t, c, 2 * mo + 1, rfl, T6, hb.1, hb.2, fun rb H7 _ _ T7 k7 => ?_⟩
        have e7 := k7.get e6 (by simpa using hlt)
        refine ⟨_, _, rfl, rfl, _, rfl, _, _, rfl, rfl, _, rfl, _, rfl, l, _, _, at_, rfl, rfl, e7, ixN_nat (by rw [List.length_map]; exact hatl), ?_⟩
        rw [← List.map_set]
        exact ⟨_, _, _, rfl, T7.kp (S := [l]) (kp_upd (by simp)) (by simpa using hlt.symm) (by simpa using hlc.symm), ((k5.trans (k6.mono (by simp))).trans (k7.mono (by simp))).trans (kp_upd (by simp)), upd_same, by rw [List.length_set]; exact hns'⟩
      · rintro σ H5 ⟨x5, x6, ns', rfl, T5, k5, e5, hns'⟩
        refine ⟨_, rfl, l, _, rfl, .inl ⟨SqL.of e5, fun q nq => ?_⟩⟩
        have s6 := same_new (o := .tup (ns'.map V.int)) nq
        exact k q ns' _ (T5.mono s6) (kp_same (back k5) s6) upd_same hns'
  · rintro σ' H2 ⟨rfl, T2, k2⟩
    refine ⟨_, rfl, many, rfl, h4, _, rfl, (rng_ok (by omega)).1, (rng_ok (by omega)).2, fun q nq => lc_by walk_r (fun j acc H5 => TapeAt H5 t c ∧ Kp [t] H2 H5 ∧ ∃ ns : List Int, acc = ns.map V.int ∧ ns.length = j) nq ⟨T2, Kp.refl _ _, [], rfl, rfl⟩ (fun _ _ _ _ => trivial) ?_ ?_⟩
    · rintro j acc _ _ H5 hj hle ⟨T5, k5, ns, rfl, hns⟩ hq ⟨rfl, rfl⟩
      have hj : j < 2 ^ many := hj
      have htq : t ∉ [q] := by obtain ⟨_, e⟩ := T5.ht; exact off_not e
      have hcq : c ∉ [q] := by obtain ⟨_, e⟩ := T5.hc; exact off_not e
      have hqt : q ≠ t := fun z => htq (by simp [z])
      refine ⟨rfl, _, rfl, _, rfl, _, _, rfl, rfl, .inl ⟨by decide, by decide⟩, _, _, rfl, rfl, t, c, 2 * mo + 1, rfl, T5.mono off_le, hb.1, hb.2, fun rr H6 _ _ T6 k6 => ?_⟩
      have hq6 := k6.get hq (by simpa using hqt)
      refine ⟨_, rfl, _, _, rfl, rfl, LcS.add hq6 hle (by omega) ⟨T6.off htq hcq, ?_, ns ++ [rr - mo], by rw [List.map_append]; rfl, by rw [len_snoc, hns]⟩⟩
      intro b o e
      have h1 := k5 b o e
      have h2 := off_le _ _ h1
      have h3 := off_le _ _ (k6 b o (off_of (off_le _ _ h2) (off_not e)))
      exact off_of (off_of h3 (off_not h2)) (off_not e)
    · rintro acc H5 hq ⟨T5, k5, ns, rfl, hns⟩
      have hns : ns.length = 2 ^ many := hns
      refine ⟨q, _, rfl, .inl ⟨SqL.of hq, fun v nv => ?_⟩⟩
      have s6 := same_new (o := .tup (ns.map V.int)) nv
      exact k v ns _ ((T5.mono off_le).mono s6) (kp_same (k2.trans (k5.trans (kp_of off_le))) s6) upd_same hns
end
end K31

set_option autoImplicit true
set_option Elab.async false
set_option autoImplicit false
set_option linter.all false
set_option maxRecDepth 100000
set_option maxHeartbeats 4000000
namespace K31
open PySem PySem.Spec PyProof.Rows L2
/-! the law -/
theorem eqv_nilF (l : List (Bool × Bool)) : PyData.eqv (.list (l.map fun p => .tuple [.bool p.1, .bool p.2])) (.list []) = decide (l = []) := by
  cases l with
  | nil => simp [PyData.eqv, PyData.eqvAll]
  | cons a r => simp [PyData.eqv, PyData.eqvAll]
def tieP (t : Nat × Nat × Nat) : PyData := .tuple [.int (t.1 : Nat), .int (t.2.1 : Nat), .int (t.2.2 : Nat)]
theorem eqv_nilT (l : List (Nat × Nat × Nat)) : PyData.eqv (.list (l.map tieP)) (.list []) = decide (l = []) := by
  cases l with
  | nil => simp [PyData.eqv, PyData.eqvAll]
  | cons a r => simp [PyData.eqv, PyData.eqvAll]
theorem sh_ties (l : List (Nat × Nat × Nat)) : SeqAt.shaped (.list (l.map tieP)) = true := by
  unfold SeqAt.shaped
  have h1 : PyData.canLayAll0 (l.map tieP) = true := by
    induction l with
    | nil => rfl
    | cons a r ih => rw [List.map_cons]; simp only [tieP, PyData.canLayAll0, PyData.canLay0, Bool.and_self, Bool.true_and]; exact ih
  have h2 : PyData.depthAll (l.map tieP) ≤ 2 := by
    clear h1
    induction l with
    | nil => show 0 ≤ 2; omega
    | cons a r ih => rw [List.map_cons]; simp only [PyData.depthAll]; refine Nat.max_le.mpr ⟨?_, ih⟩; simp [tieP, PyData.depth, PyData.depthAll]
  simp only [PyData.canLay0, PyData.depth, h1, Bool.true_and]
  exact decide_eq_true (by omega)
theorem dp_ties {K : PySem.W.Frag} {H : Hp} : ∀ {l : List (Nat × Nat × Nat)} {vs : List V}, Tds H (l.map tieD) vs → DpAll K H vs (l.map tieP)
  | [], _, .nil => .nil
  | p :: r, _, .cons h t => by
    refine .cons ?_ (dp_ties t)
    obtain ⟨p1, p2, p3⟩ := p
    obtain ⟨a, rfl, ha⟩ := tie_vs h
    exact .tup (SqT.of ha) (.cons (.int _) (.cons (.int _) (.cons (.int _) .nil)))
def tornTo (B : Bk) (i : Nat) : List (Nat × Nat × Nat) := ((ties B.many).take i).filter fun t => decide (B.fill t = [])
theorem torn_list (B : Bk) : (ties B.many).filter (fun t => decide (B.fill t = [])) = [] ↔ B.torn = [] := by
  rw [torn_nil, List.filter_eq_nil_iff]
  constructor
  · intro h t ht hf
    exact h t ht (decide_eq_true hf)
  · intro h t ht hf
    exact h t ht (of_decide_eq_true hf)
theorem keeps_price {B : Bk} {pr : List (List Int)} {rule : List (List Nat)} (hl : rule.length = 2 ^ B.many) (h : ∀ r, r < 2 ^ B.many → AscOk B.many (rule.getD r [])) : priceL pr rule = priceT B pr (xOf rule) := by
  unfold priceL priceT
  rw [hl]
  refine sumN_congr fun r hr => ?_
  obtain ⟨h1, h2⟩ := h r hr
  exact mem_sum (fun m => prAt pr r m) B.many _ (asc_nodup h1) h2
theorem ties_off {H : Hp} {cl : Addr} {ys : List V} (h : H cl = some (.lst ys)) : ∀ {l : List (Nat × Nat × Nat)} {vs : List V}, Tds H (l.map tieD) vs → Tds (off [cl] H) (l.map tieD) vs
  | [], _, .nil => .nil
  | p :: r, _, .cons a t => by
    refine .cons ?_ (ties_off h t)
    obtain ⟨p1, p2, p3⟩ := p
    obtain ⟨q, rfl, h1⟩ := tie_vs a
    exact .t (off_of h1 (by simpa using fun z => by rw [z, h] at h1; cases h1)) (.cons (.i _) (.cons (.i _) (.cons (.i _) .nil)))
theorem rule_off {H : Hp} {cl : Addr} {ys : List V} (h : H cl = some (.lst ys)) : ∀ {l : List (List Nat)} {vs : List V}, Tds H (l.map fun r => D.t (r.map fun m => D.i ((m : Nat) : Int))) vs → Tds (off [cl] H) (l.map fun r => D.t (r.map fun m => D.i ((m : Nat) : Int))) vs
  | [], _, .nil => .nil
  | p :: r, _, .cons a t => by
    refine .cons ?_ (rule_off h t)
    obtain ⟨q, vs, rfl, h1, h2⟩ := a.tup
    have e : p.map (fun m => D.i ((m : Nat) : Int)) = (p.map fun m => ((m : Nat) : Int)).map D.i := by rw [List.map_map]; rfl
    rw [e] at h2
    rw [h2.ints] at h1
    show Td _ (.t (p.map fun m => D.i ((m : Nat) : Int))) _
    rw [e]
    exact .t (off_of h1 (by simpa using fun z => by rw [z, h] at h1; cases h1)) (Tds.of_ints _)
theorem ruleD_off {H : Hp} {cl : Addr} {ys : List V} (h : H cl = some (.lst ys)) {rule : List (List Nat)} {v : V} (t : Td H (ruleD rule) v) : Td (off [cl] H) (ruleD rule) v := by
  obtain ⟨q, vs, rfl, h1, h2⟩ := t.tup
  exact .t (off_of h1 (by simpa using fun z => by rw [z, h] at h1; cases h1)) (rule_off h h2)
theorem Fld.off1 {K : PySem.W.Frag} {H : Hp} {p cl : Addr} {f : Str} {v : V} {ys : List V} (h : H cl = some (.lst ys)) (F : Fld K H p f v) : Fld K (off [cl] H) p f v :=
  let ⟨C, dx, fs, h1, h2⟩ := F
  ⟨C, dx, fs, off_of h1 (by simpa using fun z => by rw [z, h] at h1; cases h1), h2⟩
theorem tup_off {H : Hp} {cl a : Addr} {ys xs : List V} (h : H cl = some (.lst ys)) (e : H a = some (.tup xs)) : off [cl] H a = some (.tup xs) := off_of e (by simpa using fun z => by rw [z, h] at e; cases e)
section
variable {P : Program} {w : World} {K : PySem.W.Frag} {mg : Str → Option Value} {base : Heap}
def spLaw (K : PySem.W.Frag) : Sp := fun vs H Q _ => ∃ (a : Addr) (ns : List Int), vs = [.ref a] ∧ SqL K H a (ns.map V.int) ∧ ∀ H', Q (.bl true) H'
theorem sc_law : FnScope ["_law_script", "_law_tape_here", "_law_turn", "_law_parts", "_law_many", "_law_book", "_law_prices_here", "_law_torn", "_law_told_here", "_law_own", "_law_tall", "_law_again", "_law_high_here", "_law_found", "_law_tie"] ["_law_script"] (defScope s_law) := ⟨rfl, rfl, rfl, by decide +kernel, rfl, by decide +kernel, by decide +kernel⟩
theorem ok_law (T : Fx K mg) {f : Addr} {fd : FuncData} (F : FunD K "law" "law" (defArgs s_law) (defBody s_law) (defScope s_law) [] [] f fd) (c_book_init : Mak P w K mg base CX0 5 "Book" T.cBo ["self", "duties", "counts", "marks"] (spBkI T)) (c_l_drawn : Cal P w K mg base CX0 4 "_law_drawn" ["_law_tape_here", "_law_most"] (spDrawn)) (c_l_fillings : Cal P w K mg base CX0 1 "_law_fillings" ["_law_book", "_law_tie"] (spFil)) (c_l_high : Cal P w K mg base CX0 2 "_law_high" ["_law_tape_here", "_law_many", "_law_told_here"] (spHigh)) (c_l_keeps : Cal P w K mg base CX0 4 "_law_keeps" ["_law_book", "_law_rule_here"] (spKeeps)) (c_l_price : Cal P w K mg base CX0 1 "_law_price" ["_law_prices_here", "_law_rule_here"] (spLPrice)) (c_l_prices : Cal P w K mg base CX0 2 "_law_prices" ["_law_tape_here", "_law_many"] (spLPrices)) (c_l_reach : Cal P w K mg base CX0 4 "_law_reach" ["_law_book", "_law_prices_here", "_law_high_here"] (spLReach)) (c_l_reached : Cal P w K mg base CX0 8 "_law_reached" ["_law_book", "_law_prices_here", "_law_high_here"] (spReached K)) (c_l_rule : Cal P w K mg base CX0 3 "_law_rule" ["_law_tape_here", "_law_duties_here"] (spRuleL)) (c_l_tape : Cal P w K mg base CX0 1 "_law_tape" ["_law_script"] (spTape K)) (c_l_ties : Cal P w K mg base CX0 3 "_law_ties" ["_law_many"] (spLTies)) (c_l_told : Cal P w K mg base CX0 10 "_law_told" ["_law_book", "_law_prices_here"] (spTold K)) : FnOk P w K mg base CX0 11 f fd ["_law_script"] (spLaw K) := by
  refine F.ok sc_law (fun vs H Q E h => ?_) (fun cdv A outer s H vs Q E hr h => ?_)
  · obtain ⟨a, ns, rfl, ha, k⟩ := h
    rfl
  obtain ⟨a, ns, rfl, ha, k⟩ := h
  have hu := hu_of hr
  have nd := sc_law.nd
  have hu64 := hr.units
  refine ⟨_, (pss_cons (ps_set (i := 1) nd rfl (Or.inl rfl) (pe_k c_l_tape hr (by decide) pass0 (pa_cons (pv 0) pa_nil)))
  (pss_cons (ps_for (passes_of rfl) rfl (pi_range1 rfl T.range (pa_cons pe_int pa_nil)) (pg_name (i := 2) nd rfl (Or.inl rfl)) (pss_cons (ps_set (i := 3) nd rfl (Or.inr rfl) (pe_k c_l_drawn hr (by decide) pass0 (pa_cons (pv 1) (pa_cons pe_int pa_nil))))
  (pss_cons (ps_set (i := 4) nd rfl (Or.inl rfl) (pe_callB call_len_str rfl T.len boot_len (pa_cons (pe_ix ix_tup (pv 3) pe_int (fun _ _ => rfl)) pa_nil)))
  (pss_cons (ps_set (i := 5) nd rfl (Or.inl rfl) (pe_mk c_book_init hr (by decide) pass0 (pa_cons (pe_ix ix_tup (pv 3) pe_int (fun _ _ => rfl)) (pa_cons (pe_ix ix_tup (pv 3) pe_int (fun _ _ => rfl)) (pa_cons (pe_ix ix_tup (pv 3) pe_int (fun _ _ => rfl)) pa_nil)))))
  (pss_cons (ps_set (i := 6) nd rfl (Or.inl rfl) (pe_k c_l_prices hr (by decide) pass0 (pa_cons (pv 1) (pa_cons (pv 4) pa_nil))))
  (pss_cons (ps_setLc (i := 7) (own := [("_law_tie", 14)]) rfl nd rfl rfl (sw_true rfl rfl rfl (by decide +kernel)) (pi_list (pe_k c_l_ties hr (by decide) pass0 (pa_cons (pv 4) pa_nil))) (blkOk_by (by rfl)) (fun _ _ _ _ _ => (pg_name (i := 14) nd rfl (Or.inl rfl))) (fun _ _ _ _ _ => (pts_one (pt_cmpR (op_eqDK K hu64) (pe_k c_l_fillings hr (by decide) pass0 (pa_cons (pv 3) (pa_cons (pv 14) pa_nil))) (pe_lst pa_nil) (nomark _)))) (fun _ _ _ _ _ => (pv 14)))
  (pss_cons (ps_set (i := 8) nd rfl (Or.inl rfl) (pe_mid (pe_k c_l_told hr (by decide) pass0 (pa_cons (pv 5) (pa_cons (pv 6) pa_nil)))))
  (pss_cons (ps_set (i := 9) nd rfl (Or.inl rfl) (pe_k c_l_rule hr (by decide) pass0 (pa_cons (pv 1) (pa_cons (pe_ix ix_tup (pv 3) pe_int (fun _ _ => rfl)) pa_nil))))
  (pss_cons (ps_set (i := 10) nd rfl (Or.inl rfl) pe_non)
  (pss_cons (ps_mid (ps_if (pt_cmp (pc_notN (pv 8))) (pss_one (ps_set (i := 10) nd rfl (Or.inl rfl) (pe_ix ix_tup (pv 8) pe_int (fun _ _ => rfl)))) pss_nil))
  (pss_one (ps_for (passes_of rfl) rfl (pi_range1 rfl T.range (pa_cons pe_int pa_nil)) (pg_name (i := 11) nd rfl (Or.inl rfl)) (pss_cons (ps_set (i := 12) nd rfl (Or.inl rfl) (pe_k c_l_high hr (by decide) pass0 (pa_cons (pv 1) (pa_cons (pv 4) (pa_cons (pv 10) pa_nil)))))
  (pss_cons (ps_set (i := 13) nd rfl (Or.inl rfl) (pe_mid (pe_k c_l_reached hr (by decide) pass0 (pa_cons (pv 5) (pa_cons (pv 6) (pa_cons (pv 12) pa_nil))))))
  (pss_cons (ps_mid (ps_if (PW.pt (pw_and (pt_cmpR (op_neD hu64) (pv 7) (pe_lst pa_nil) (nomark _)) (pw_and1 (pt_cmpR op_ne (pv 13) pe_str (nomark _))))) (pss_one (ps_ret pe_bl)) pss_nil))
  (pss_one (ps_if (pt_cmpR (op_eqD hu64) (pv 7) (pe_lst pa_nil) (nomark _)) (pss_cons (ps_if (PW.pt (pw_or (pt_cmpR op_ne (pv 13) (pe_k c_l_reach hr (by decide) pass0 (pa_cons (pv 3) (pa_cons (pv 6) (pa_cons (pv 12) pa_nil)))) (nomark _)) (pw_or1 (pt_val (pe_callB call_is rfl T.isinstance boot_isinstance (pa_cons (pv 13) (pa_cons (pe_bltn (v := .ty "bool") rfl T.bool boot_bool rfl) pa_nil))))))) (pss_one (ps_ret pe_bl)) pss_nil)
  (pss_cons (ps_mid (ps_if (PW.pt (pw_and (pt_cmp (pc_notN (pv 8))) (pw_and1 (PW.pt (pw_or (pt_cmpR op_gt (pv 13) (pe_ix ix_tup (pe_ix ix_tup (pv 8) pe_int (fun _ _ => rfl)) pe_int (fun _ _ => rfl)) (nomark _)) (pw_or1 (pt_cmpR op_gt (pv 13) (pe_k c_l_price hr (by decide) pass0 (pa_cons (pv 6) (pa_cons (pe_ix ix_tup (pe_ix ix_tup (pv 8) pe_int (fun _ _ => rfl)) pe_int (fun _ _ => rfl)) pa_nil))) (nomark _)))))))) (pss_one (ps_ret pe_bl)) pss_nil))
  (pss_one (ps_if (PW.pt (pw_and (pt_val (pe_k c_l_keeps hr (by decide) pass0 (pa_cons (pv 3) (pa_cons (pv 9) pa_nil)))) (pw_and1 (pt_cmpR op_gt (pv 13) (pe_k c_l_price hr (by decide) pass0 (pa_cons (pv 6) (pa_cons (pv 9) pa_nil))) (nomark _))))) (pss_one (ps_ret pe_bl)) pss_nil)))) pss_nil)))))))))))))))))
  (pss_one (ps_ret pe_bl)))), ?_⟩
  have sz := sizeLine_eq
  refine ⟨_, rfl, a, ns, rfl, ha, fun t c H1 n1 s1 T1 => ?_⟩
  refine ⟨_, rfl, (rng_ok (n := 2) (by omega)).1, (rng_ok (n := 2) (by omega)).2, ?_⟩
  refine for_it (walk_r (n := 2)) (fun i σ H2 => ∃ x2 x3 x4 x5 x6 x7 x8 x9 x10 x11 x12 x13, σ = [some (.ref a), some (.ref t), x2, x3, x4, x5, x6, x7, x8, x9, x10, x11, x12, x13, none] ∧ TapeAt H2 t c) ⟨none, none, none, none, none, none, none, none, none, none, none, none, rfl, T1⟩ (fun _ _ _ _ _ => trivial) ?_ ?_
  · rintro i _ σ _ H2 hi ⟨x2, x3, x4, x5, x6, x7, x8, x9, x10, x11, x12, x13, rfl, T2⟩ ⟨rfl, rfl⟩
    refine ⟨_, rfl, t, c, rfl, T2, fun pb B vc vm H3 O T3 k3 e3 tc3 tm3 => ?_⟩
    have hm1 := O.m1
    have hm4 := O.m4
    obtain ⟨_, eT3⟩ := T3.ht
    obtain ⟨ac, cvs, rfl, hac, ctd⟩ := tc3.tup
    obtain ⟨am, mvs, rfl, ham, mtd⟩ := tm3.tup
    have hPo3 : PartsAt (off [t] H3) pb B := ⟨_, _, tup_off eT3 e3, tc3, tm3⟩
    refine ⟨_, rfl, _, _, _, _, rfl, rfl, SqT.of e3, rfl, _, rfl, by rw [du_length, O.ld]; omega, ?_⟩
    rw [du_length, O.ld]
    refine ⟨_, rfl, _, _, _, _, rfl, rfl, SqT.of e3, rfl, _, rfl, _, _, _, _, rfl, rfl, SqT.of e3, rfl, _, rfl, _, _, _, _, rfl, rfl, SqT.of e3, rfl, ?_⟩
    intro b dx n1 n2 n3
    have u1 : Same H3 (upd (upd H3 dx (.own b)) b (.ins T.cBo dx [])) := (same_new n2).trans (same_new (by rw [upd_ne (Ne.symm n3)]; exact n1))
    have u2 := same_off n1 u1
    refine ⟨b, dx, ac, am, B, rfl, upd_same, O, (tc3.mono off_le).mono u2, (tm3.mono off_le).mono u2, fun H4 s4 g1 g2 g3 g4 => ⟨rfl, ?_⟩⟩
    have s34 : Same H3 H4 := (u2.trans s4).trans off_le
    have T4 := T3.mono s34
    obtain ⟨_, eT4⟩ := T4.ht
    have kk34 : Same (off [t] H3) (off [t] H4) := kp_of s34
    have hBo4 : BookAt K (off [t] H4) b B := ⟨g1.off1 eT4, g2.off1 eT4, ⟨_, g3.off1 eT4, tc3.mono kk34⟩, ⟨_, g4.off1 eT4, tm3.mono kk34⟩⟩
    have hPo4 := hPo3.mono kk34
    have e4 := s34 _ _ e3
    clear g1 g2 g3 g4 s4 u2 u1 n1 n2 n3 hac ctd ham mtd
    refine ⟨_, rfl, _, rfl, t, c, B.many, rfl, T4, hm1, hm4, fun vp pr H5 T5 k5 td5 hpl hpm hpb => ?_⟩
    obtain ⟨ap, _, rfl, _, _⟩ := td5.tup
    have OP : PrOk B pr := ⟨hpl, hpm, hpb⟩
    have hBo5 := hBo4.mono k5
    have hPo5 := hPo4.mono k5
    obtain ⟨_, eT5⟩ := T5.ht
    refine ⟨_, rfl, B.many, rfl, hm1, hm4, fun la ls H6 s6 n6 e6 td6 => ?_⟩
    have hll : ls.length = (ties B.many).length := by rw [td6.length, List.length_map]
    have hPo6 : PartsAt H6 pb B := (hPo5.mono off_le).mono s6
    refine ⟨la, rfl, ⟨_, SqL.of e6⟩, fun q nq => lc_by walk_list (fun i acc H7 => Same H6 H7 ∧ Tds H7 ((tornTo B i).map tieD) acc) nq ⟨Same.refl _, .nil⟩ (fun i acc H7 p => SqL.of (off_le _ _ (p.1 _ _ e6))) ?_ ?_⟩
    · rintro i acc y _ H7 hi hle ⟨sm, td7⟩ hq ⟨rfl, hy⟩
      rw [hll] at hi
      have hi32 := ties_len hm1 hm4
      obtain ⟨d, hd, td⟩ := td6.at hy
      rw [List.getElem?_map, List.getElem?_eq_getElem hi] at hd
      obtain rfl := Option.some.inj hd
      have hmem := List.getElem_mem hi
      have hsucc : tornTo B (i + 1) = tornTo B i ++ if decide (B.fill (ties B.many)[i] = []) then [(ties B.many)[i]] else [] := by
        unfold tornTo
        rw [List.take_succ, List.getElem?_eq_getElem hi, List.filter_append]
        congr 1
        show List.filter _ [(ties B.many)[i]] = _
        cases h : decide (B.fill (ties B.many)[i] = []) <;> simp [h]
      generalize (ties B.many)[i] = tt at *
      obtain ⟨r, m, o⟩ := tt
      obtain ⟨tie, rfl, htie⟩ := tie_vs td
      have s67 : Same H6 H7 := sm.trans off_le
      refine ⟨rfl, _, rfl, _, rfl, pb, tie, B, (r, m, o), rfl, hPo6.mono s67, O, hmem, td.mono s67, fun fa fs H8 s8 n8 e8 td8 => ⟨Nat.zero_le _, fun p np => ?_⟩⟩
      have s9 := same_new (o := .lst []) np
      refine ⟨_, .list [], .lst (SqL.of (s9 _ _ e8)) (dp_fil (td8.mono s9)), .lst (xs := []) (SqL.of upd_same) .nil, sh_fil _, by decide +kernel, _, rfl, ?_⟩
      rw [eqv_nilF]
      have s79 := s8.trans s9
      refine ite2 (fun z => ⟨_, rfl, ?_⟩) (fun z => ?_)
      · refine LcS.add (s79 _ _ hq) hle (by omega) ⟨sm.trans (kp_of s79), ?_⟩
        rw [hsucc, if_pos z, List.map_append]
        exact (td7.mono (kp_of s79)).snoc (td.mono (sm.trans (kp_of s79)))
      · refine LcS.skip (s79 _ _ hq) hle ⟨sm.trans (kp_of s79), ?_⟩
        rw [hsucc, if_neg z, List.append_nil]
        exact td7.mono (kp_of s79)
    · rintro acc H7 hq ⟨sm, td7⟩
      have s67 : Same H6 H7 := sm.trans off_le
      have s57 := s6.trans s67
      have etorn : tornTo B ls.length = (ties B.many).filter fun t => decide (B.fill t = []) := by unfold tornTo; rw [hll, List.take_length]
      rw [etorn] at td7
      have hto := torn_list B
      generalize (ties B.many).filter (fun t => decide (B.fill t = [])) = torn at *
      have kk57 : Same (off [t] H5) (off [t] H7) := kp_of s57
      have T7 := T5.mono s57
      obtain ⟨_, eT7⟩ := T7.ht
      have hqt : q ≠ t := fun z => by
        have := s6 _ _ eT5
        rw [← z, nq] at this; cases this
      have hqo7 : off [t] H7 q = some (.lst acc) := off_of hq (by simpa using hqt)
      have tdo7 : Tds (off [t] H7) (torn.map tieD) acc := ties_off eT7 (td7.mono off_le)
      have hBo7 := hBo5.mono kk57
      have hPo7 := hPo5.mono kk57
      have hpo7 := td5.mono kk57
      clear td7 sm hq s67 s57 kk57 hBo5 hPo5 td5 hPo6 e6 td6 hll
      let Told : V → Hp → Prop := fun v G => v = .non ∨ ∃ q0 q1 q2 z w rule ns, v = .ref q0 ∧ G q0 = some (.tup [.ref q1, .ref q2]) ∧ G q1 = some (.tup [.int z, w]) ∧ Td G (ruleD rule) w ∧ RuleOk B rule ∧ z = priceL pr rule ∧ (∀ h, B.reachV pr h ≤ z) ∧ G q2 = some (.tup ((ns : List Int).map V.int)) ∧ ns.length = 2 ^ B.many
      have told_mono : ∀ {v : V} {G G' : Hp}, Told v G → Same G G' → Told v G' := fun {v G G'} h kk => by
        rcases h with h | ⟨q0, q1, q2, z, w, rule, ns, g1, g2, g3, g4, g5, g6, g7, g8, g9⟩
        · exact .inl h
        · exact .inr ⟨q0, q1, q2, z, w, rule, ns, g1, kk _ _ g2, kk _ _ g3, g4.mono kk, g5, g6, g7, kk _ _ g8, g9⟩
      refine ⟨fun v H8 => Same H7 H8 ∧ Told v (off [t] H8), ⟨_, rfl, _, rfl, b, ap, B, pr, rfl, hBo7.mono off_le, O, hpo7.mono off_le, OP, fun H8 s8 => ⟨s8, .inl rfl⟩, fun H8 q0 q1 q2 z w rule ns s8 g1 g2 g3 g4 g5 g6 g7 g8 => ⟨s8, ?_⟩⟩, ?_⟩
      · have eT8 := s8 _ _ eT7
        exact .inr ⟨q0, q1, q2, z, w, rule, ns, rfl, tup_off eT8 g1, tup_off eT8 g2, ruleD_off eT8 g3, g4, g5, g6, tup_off eT8 g7, g8⟩
      rintro vt H8 ⟨s8, hto8⟩
      have kk78 : Same (off [t] H7) (off [t] H8) := kp_of s8
      have T8 := T7.mono s8
      have hBo8 := hBo7.mono kk78
      have hPo8 := hPo7.mono kk78
      have hpo8 := hpo7.mono kk78
      have hqo8 := kk78 _ _ hqo7
      have tdo8 := tdo7.mono kk78
      obtain ⟨vc8, vm8, eP8, _, _⟩ := id hPo8
      refine ⟨_, rfl, _, rfl, _, _, _, _, rfl, rfl, SqT.of (off_le _ _ eP8), rfl, t, c, B.du, rfl, T8, by rw [O.ld]; exact hm1, by rw [O.ld]; exact hm4, fun vo own H9 T9 k9 tdw9 hol hoo => ?_⟩
      rw [O.ld] at hol hoo
      obtain ⟨ow, _, rfl, _, _⟩ := tdw9.tup
      have ORo : RuleOk B own := ⟨hol, hoo⟩
      have hBo9 := hBo8.mono k9
      have hPo9 := hPo8.mono k9
      have hpo9 := hpo8.mono k9
      have hqo9 := k9 _ _ hqo8
      have tdo9 := tdo8.mono k9
      have hto9 := told_mono hto8 k9
      refine ⟨fun σ' H' => ∃ u, σ' = [some (.ref a), some (.ref t), some (.int (i : Nat)), some (.ref pb), some (.int (B.many : Nat)), some (.ref b), some (.ref ap), some (.ref q), some vt, some (.ref ow), some u, x11, x12, x13, none] ∧ H' = H9 ∧ (u = .non ∨ ∃ a2 ns, u = .ref a2 ∧ off [t] H9 a2 = some (.tup ((ns : List Int).map V.int)) ∧ ns.length = 2 ^ B.many), ?_, ?_⟩
      · refine ⟨_, rfl, _, rfl, ?_⟩
        rcases hto9 with rfl | ⟨q0, q1, q2, z, w_, rule, ns2, rfl, g2, g3, g4, g5, g6, g7, g8, g9⟩
        · exact iteF ⟨.non, rfl, rfl, .inl rfl⟩
        · exact iteT ⟨_, rfl, _, _, _, _, rfl, rfl, SqT.of (off_le _ _ g2), rfl, .ref q2, rfl, rfl, .inr ⟨q2, ns2, rfl, g8, g9⟩⟩
      rintro σ' H' ⟨u, rfl, rfl, hun⟩
      refine ⟨_, rfl, (rng_ok (n := 4) (by omega)).1, (rng_ok (n := 4) (by omega)).2, ?_⟩
      refine for_it (walk_r (n := 4)) (fun j σ H10 => ∃ x11 x12 x13, σ = [some (.ref a), some (.ref t), some (.int (i : Nat)), some (.ref pb), some (.int (B.many : Nat)), some (.ref b), some (.ref ap), some (.ref q), some vt, some (.ref ow), some u, x11, x12, x13, none] ∧ TapeAt H10 t c ∧ Kp [t] H' H10) ⟨x11, x12, x13, rfl, T9, Kp.refl _ _⟩ (fun _ _ _ _ _ => trivial) ?_ ?_
      · rintro j _ σ _ H10 hj ⟨x11, x12, x13, rfl, T10, k10⟩ ⟨rfl, rfl⟩
        refine ⟨_, rfl, _, rfl, _, rfl, t, c, B.many, u, rfl, T10, hm1, hm4, ?_, fun ah tl H11 T11 k11 e11 htl => ?_⟩
        · rcases hun with h | ⟨a2, ns2, h1, h2, h3⟩
          · exact .inl h
          · exact .inr ⟨a2, ns2, h1, off_le _ _ (k10 _ _ h2), h3⟩
        have k911 : Kp [t] H' H11 := k10.trans k11
        obtain ⟨_, eT11⟩ := T11.ht
        have hBo11 := (hBo9.mono k911).mono off_le
        have hPo11 := hPo9.mono k911
        have hpo11 := hpo9.mono k911
        refine ⟨fun v H12 => Same H11 H12 ∧ ((B.torn ≠ [] ∧ v = .str "torn") ∨ (B.torn = [] ∧ v = .int (B.reachV pr tl))), ⟨_, rfl, _, rfl, _, rfl, b, ap, ah, B, pr, tl, rfl, hBo11, O, hpo11.mono off_le, OP, e11, htl, fun h H12 s12 => ⟨s12, .inl ⟨h, rfl⟩⟩, fun h H12 s12 => ⟨s12, .inr ⟨h, rfl⟩⟩⟩, ?_⟩
        rintro vf H12 ⟨s12, hvf⟩
        have T12 := T11.mono s12
        have k912 : Kp [t] H' H12 := kp_same k911 s12
        have hPo12 := hPo9.mono k912
        have hpo12 := hpo9.mono k912
        have hq12 := off_le _ _ (k912 _ _ hqo9)
        have td12 := (tdo9.mono k912).mono off_le
        have fin : ∀ H13, Same H12 H13 → ∃ y11 y12 y13, [some (V.ref a), some (.ref t), some (.int (i : Nat)), some (.ref pb), some (.int (B.many : Nat)), some (.ref b), some (.ref ap), some (.ref q), some vt, some (.ref ow), some u, some (.int (j : Nat)), some (.ref ah), some vf, none] =
            [some (V.ref a), some (.ref t), some (.int (i : Nat)), some (.ref pb), some (.int (B.many : Nat)), some (.ref b), some (.ref ap), some (.ref q), some vt, some (.ref ow), some u, y11, y12, y13, none] ∧ TapeAt H13 t c ∧ Kp [t] H' H13 := fun H13 s13 => ⟨_, _, _, rfl, T12.mono s13, kp_same k912 s13⟩
        refine ⟨fun σ' H13 => σ' = [some (.ref a), some (.ref t), some (.int (i : Nat)), some (.ref pb), some (.int (B.many : Nat)), some (.ref b), some (.ref ap), some (.ref q), some vt, some (.ref ow), some u, some (.int (j : Nat)), some (.ref ah), some vf, none] ∧ Same H12 H13, ?_, ?_⟩
        · refine ⟨_, rfl, Nat.zero_le _, fun p np => ?_⟩
          have sp := same_new (o := .lst []) np
          refine ⟨_, .list [], .lst (SqL.of (sp _ _ hq12)) (dp_ties (td12.mono sp)), .lst (xs := []) (SqL.of upd_same) .nil, sh_ties _, by decide +kernel, _, rfl, ?_⟩
          rw [eqv_nilT]
          refine ite2 (fun z => ?_) (fun _ => ⟨rfl, sp⟩)
          have z : torn ≠ [] := fun q => by rw [decide_eq_true q] at z; cases z
          rcases hvf with ⟨_, rfl⟩ | ⟨h, _⟩
          · exact ⟨_, rfl, rfl, _, rfl, iteF ⟨rfl, sp⟩⟩
          · exact (z (hto.mpr h)).elim
        · rintro σ'' H13 ⟨rfl, s13⟩
          refine ⟨_, rfl, Nat.zero_le _, fun p np => ?_⟩
          have sp := same_new (o := .lst []) np
          have s12p := s13.trans sp
          refine ⟨_, .list [], .lst (SqL.of (s12p _ _ hq12)) (dp_ties (td12.mono s12p)), .lst (xs := []) (SqL.of upd_same) .nil, sh_ties _, by decide +kernel, _, rfl, ?_⟩
          rw [eqv_nilT]
          refine ite2 (fun z => ?_) (fun _ => fin _ s12p)
          have htn : B.torn = [] := hto.mp (of_decide_eq_true z)
          rcases hvf with ⟨h, _⟩ | ⟨_, rfl⟩
          · exact (h htn).elim
          generalize upd H13 p (.lst []) = H14 at *
          have hPo14 := (hPo12.mono off_le).mono s12p
          have hpo14 := (hpo12.mono off_le).mono s12p
          refine ⟨_, rfl, _, rfl, _, rfl, _, rfl, pb, ap, ah, B, pr, tl, rfl, hPo14, O, hpo14, OP, (s12.trans s12p) _ _ e11, htl, htn, fun H15 s15 => ⟨rfl, _, rfl, ?_⟩⟩
          rw [dec_int, decide_eq_true rfl]
          refine iteF ⟨_, rfl, _, "int", "bool", false, rfl, .int _, by decide +kernel, _, rfl, iteF ?_⟩
          have sA := s12p.trans s15
          refine ⟨fun σ' H16 => σ' = [some (.ref a), some (.ref t), some (.int (i : Nat)), some (.ref pb), some (.int (B.many : Nat)), some (.ref b), some (.ref ap), some (.ref q), some vt, some (.ref ow), some u, some (.int (j : Nat)), some (.ref ah), some (.int (B.reachV pr tl)), none] ∧ Same H12 H16, ?_, ?_⟩
          · refine ⟨_, rfl, _, rfl, ?_⟩
            rcases told_mono hto9 k912 with rfl | ⟨q0, q1, q2, zz, w_, rule, ns2, rfl, g2, g3, g4, g5, g6, g7, g8, g9⟩
            · exact iteF (iteF ⟨rfl, sA⟩)
            · have g2' := sA _ _ (off_le _ _ g2)
              have g3' := sA _ _ (off_le _ _ g3)
              obtain ⟨ar, _, rfl, _, _⟩ := g4.tup
              have hle := g7 tl
              refine iteT ⟨_, rfl, _, rfl, _, _, _, _, rfl, rfl, SqT.of g2', rfl, _, _, _, _, rfl, rfl, SqT.of g3', rfl, _, _, rfl, rfl, _, rfl, ?_⟩
              rw [decide_eq_false (show ¬ B.reachV pr tl > zz by omega)]
              refine iteF ⟨_, rfl, _, rfl, _, rfl, _, _, _, _, rfl, rfl, SqT.of g2', rfl, _, _, _, _, rfl, rfl, SqT.of g3', rfl, ap, ar, B, pr, rule, rfl, O, hpo14.mono s15, OP, (g4.mono off_le).mono sA, g5, fun H16 s16 => ⟨_, _, rfl, rfl, _, rfl, ?_⟩⟩
              rw [decide_eq_false (show ¬ B.reachV pr tl > priceL pr rule by omega)]
              exact iteF ⟨rfl, sA.trans s16⟩
          · rintro σ'' H16 ⟨rfl, s16⟩
            have ho16 := ((tdw9.mono k912).mono off_le).mono s16
            refine ⟨_, rfl, _, rfl, pb, ow, B, own, rfl, (hPo12.mono off_le).mono s16, O, ho16, hol, fun H17 s17 => ⟨_, rfl, iteF (fin _ (s16.trans s17))⟩, fun H17 s17 hk hasc => ⟨_, rfl, iteT ?_⟩⟩
            refine ⟨_, rfl, _, rfl, _, rfl, ap, ow, B, pr, own, rfl, O, ((hpo12.mono off_le).mono s16).mono s17, OP, ho16.mono s17, ORo, fun H18 s18 => ⟨_, _, rfl, rfl, _, rfl, ?_⟩⟩
            have hle := weak_dual (pr := pr) (h := tl) O hk
            rw [← keeps_price hol hasc] at hle
            rw [decide_eq_false (show ¬ B.reachV pr tl > priceL pr own by omega)]
            exact iteF (fin _ ((s16.trans s17).trans s18))
      · rintro σ H10 ⟨x11, x12, x13, rfl, T10, k10⟩
        exact ⟨_, _, _, _, _, _, _, _, _, _, _, _, rfl, T10⟩
  · rintro σ H2 ⟨x2, x3, x4, x5, x6, x7, x8, x9, x10, x11, x12, x13, rfl, T2⟩
    exact k H2
end
end K31

set_option autoImplicit true
set_option Elab.async false
set_option autoImplicit false
set_option linter.all false
set_option maxRecDepth 100000
set_option maxHeartbeats 4000000
namespace K31
open PySem PySem.Spec PyProof.Rows L2
/-! the end: the facts, every def, the law -/
section
variable {K : PySem.W.Frag} {h : Heap} {mg : Str → Option Value}
abbrev Ok3 (K : PySem.W.Frag) : Prop := obsX K = valX
theorem ok3_tabs (c : Ok3 K) : tabsB K = true := congrArg (fun z : AlX => z.1) c
theorem ok3_says (c : Ok3 K) : He.SaysD fa fn K := congrArg (fun z : AlX => z.2) c
def fx (X : K.In h) (G : h.Ns mainGlobals mg) (c : He.SaysD fa fn K) (t : tabsB K = true) : Fx K mg where
    isinstance := He.free_ok X G (c.fact 58 (f := .free "isinstance") rfl)
    int := He.free_ok X G (c.fact 59 (f := .free "int") rfl)
    bool := He.free_ok X G (c.fact 60 (f := .free "bool") rfl)
    tuple := He.free_ok X G (c.fact 61 (f := .free "tuple") rfl)
    str := He.free_ok X G (c.fact 62 (f := .free "str") rfl)
    list := He.free_ok X G (c.fact 63 (f := .free "list") rfl)
    len := He.free_ok X G (c.fact 64 (f := .free "len") rfl)
    range := He.free_ok X G (c.fact 65 (f := .free "range") rfl)
    enumerate := He.free_ok X G (c.fact 66 (f := .free "enumerate") rfl)
    zip := He.free_ok X G (c.fact 67 (f := .free "zip") rfl)
    min := He.free_ok X G (c.fact 68 (f := .free "min") rfl)
    max := He.free_ok X G (c.fact 69 (f := .free "max") rfl)
    sum := He.free_ok X G (c.fact 70 (f := .free "sum") rfl)
    any := He.free_ok X G (c.fact 71 (f := .free "any") rfl)
    all := He.free_ok X G (c.fact 72 (f := .free "all") rfl)
    sorted := He.free_ok X G (c.fact 73 (f := .free "sorted") rfl)
    aP := He.ga K "POWERS"
    pow := He.glo_ok X G (c.fact 46 (f := .glo "POWERS") rfl)
    powT := He.tupB_ok (He.ba t).1
    aD := He.ga K "DUTIES"
    dut := He.glo_ok X G (c.fact 47 (f := .glo "DUTIES") rfl)
    dutT := He.tupB_ok (He.ba (He.ba t).2).1
    aS := He.ga K "SIGNS"
    sgn := He.glo_ok X G (c.fact 48 (f := .glo "SIGNS") rfl)
    sgnT := He.tupB_ok (He.ba (He.ba t).2).2
    mm := let ⟨t, e⟩ := He.int_ok X G (c.fact 74 (f := .int "MOST_MEMBERS" 8) rfl); ⟨_, e, t, rfl⟩
    mp := let ⟨t, e⟩ := He.int_ok X G (c.fact 75 (f := .int "MOST_PRICE" 1000) rfl); ⟨_, e, t, rfl⟩
    cN := He.ga K "NotKept"
    gN := He.glo_ok X G (c.fact 49 (f := .glo "NotKept") rfl)
    xN := (He.exc_ok (c.fact 133 (f := .exc "NotKept") rfl)).1
    kN := (He.exc_ok (c.fact 133 (f := .exc "NotKept") rfl)).2.1
    bN := (He.exc_ok (c.fact 133 (f := .exc "NotKept") rfl)).2.2.1
    tN := (He.exc_ok (c.fact 133 (f := .exc "NotKept") rfl)).2.2.2
    eN := He.exm_ok (c.fact 134 (f := .exm "NotKept" "NotKept" true) rfl)
    cT := He.ga K "Torn"
    gT := He.glo_ok X G (c.fact 50 (f := .glo "Torn") rfl)
    xT := (He.exc_ok (c.fact 135 (f := .exc "Torn") rfl)).1
    kT := (He.exc_ok (c.fact 135 (f := .exc "Torn") rfl)).2.1
    bT := (He.exc_ok (c.fact 135 (f := .exc "Torn") rfl)).2.2.1
    tT := (He.exc_ok (c.fact 135 (f := .exc "Torn") rfl)).2.2.2
    eT := He.exm_ok (c.fact 136 (f := .exm "Torn" "Torn" true) rfl)
    cPi := He.ga K "Pipes"
    clPi := He.cls_ok (c.fact 76 (f := .cls "Pipes") rfl)
    naPi := (List.forall_mem_cons.mpr ⟨He.noat_ok (c.fact 84 (f := .noat "Pipes" "book") rfl), (List.forall_mem_cons.mpr ⟨He.noat_ok (c.fact 85 (f := .noat "Pipes" "scale") rfl), (List.forall_mem_cons.mpr ⟨He.noat_ok (c.fact 86 (f := .noat "Pipes" "lows") rfl), (List.forall_mem_cons.mpr ⟨He.noat_ok (c.fact 87 (f := .noat "Pipes" "highs") rfl), (List.forall_mem_cons.mpr ⟨He.noat_ok (c.fact 88 (f := .noat "Pipes" "ground") rfl), (List.forall_mem_cons.mpr ⟨He.noat_ok (c.fact 89 (f := .noat "Pipes" "size") rfl), (List.forall_mem_cons.mpr ⟨He.noat_ok (c.fact 90 (f := .noat "Pipes" "lines") rfl), (List.forall_mem_cons.mpr ⟨He.noat_ok (c.fact 91 (f := .noat "Pipes" "picks") rfl), (List.forall_mem_cons.mpr ⟨He.noat_ok (c.fact 92 (f := .noat "Pipes" "torn") rfl), (List.forall_mem_cons.mpr ⟨He.noat_ok (c.fact 93 (f := .noat "Pipes" "net") rfl), List.forall_mem_nil _⟩)⟩)⟩)⟩)⟩)⟩)⟩)⟩)⟩)⟩)
    cCo := He.ga K "Costs"
    clCo := He.cls_ok (c.fact 78 (f := .cls "Costs") rfl)
    naCo := (List.forall_mem_cons.mpr ⟨He.noat_ok (c.fact 94 (f := .noat "Costs" "heads") rfl), (List.forall_mem_cons.mpr ⟨He.noat_ok (c.fact 95 (f := .noat "Costs" "room") rfl), (List.forall_mem_cons.mpr ⟨He.noat_ok (c.fact 96 (f := .noat "Costs" "price") rfl), (List.forall_mem_cons.mpr ⟨He.noat_ok (c.fact 97 (f := .noat "Costs" "lows") rfl), (List.forall_mem_cons.mpr ⟨He.noat_ok (c.fact 98 (f := .noat "Costs" "arcs") rfl), (List.forall_mem_cons.mpr ⟨He.noat_ok (c.fact 99 (f := .noat "Costs" "over") rfl), (List.forall_mem_cons.mpr ⟨He.noat_ok (c.fact 100 (f := .noat "Costs" "lifts") rfl), List.forall_mem_nil _⟩)⟩)⟩)⟩)⟩)⟩)⟩)
    cBi := He.ga K "Bill"
    clBi := He.cls_ok (c.fact 80 (f := .cls "Bill") rfl)
    naBi := (List.forall_mem_cons.mpr ⟨He.noat_ok (c.fact 101 (f := .noat "Bill" "book") rfl), (List.forall_mem_cons.mpr ⟨He.noat_ok (c.fact 102 (f := .noat "Bill" "prices") rfl), (List.forall_mem_cons.mpr ⟨He.noat_ok (c.fact 103 (f := .noat "Bill" "ground") rfl), (List.forall_mem_cons.mpr ⟨He.noat_ok (c.fact 104 (f := .noat "Bill" "costs") rfl), (List.forall_mem_cons.mpr ⟨He.noat_ok (c.fact 105 (f := .noat "Bill" "picks") rfl), (List.forall_mem_cons.mpr ⟨He.noat_ok (c.fact 106 (f := .noat "Bill" "even") rfl), (List.forall_mem_cons.mpr ⟨He.noat_ok (c.fact 107 (f := .noat "Bill" "lows") rfl), (List.forall_mem_cons.mpr ⟨He.noat_ok (c.fact 108 (f := .noat "Bill" "highs") rfl), List.forall_mem_nil _⟩)⟩)⟩)⟩)⟩)⟩)⟩)⟩)
    cBo := He.ga K "Book"
    clBo := He.cls_ok (c.fact 82 (f := .cls "Book") rfl)
    naBo := (List.forall_mem_cons.mpr ⟨He.noat_ok (c.fact 109 (f := .noat "Book" "duties") rfl), (List.forall_mem_cons.mpr ⟨He.noat_ok (c.fact 110 (f := .noat "Book" "counts") rfl), (List.forall_mem_cons.mpr ⟨He.noat_ok (c.fact 111 (f := .noat "Book" "marks") rfl), (List.forall_mem_cons.mpr ⟨He.noat_ok (c.fact 112 (f := .noat "Book" "many") rfl), (List.forall_mem_cons.mpr ⟨He.noat_ok (c.fact 113 (f := .noat "Book" "kept_facts") rfl), List.forall_mem_nil _⟩)⟩)⟩)⟩)⟩)
theorem at_is_integer (X : K.In h) (G : h.Ns mainGlobals mg) (c : He.SaysD fa fn K) : DefAt K mg "is_integer" "is_integer" s_is_integer := ⟨let ⟨fd, e⟩ := (c.def_ 0 (d := d_is_integer) rfl); ⟨_, fd, e, He.glo_ok X G (c.fact 0 (f := .glo "is_integer") rfl)⟩⟩
theorem at_is_within (X : K.In h) (G : h.Ns mainGlobals mg) (c : He.SaysD fa fn K) : DefAt K mg "is_within" "is_within" s_is_within := ⟨let ⟨fd, e⟩ := (c.def_ 1 (d := d_is_within) rfl); ⟨_, fd, e, He.glo_ok X G (c.fact 1 (f := .glo "is_within") rfl)⟩⟩
theorem at_is_pair (X : K.In h) (G : h.Ns mainGlobals mg) (c : He.SaysD fa fn K) : DefAt K mg "is_pair" "is_pair" s_is_pair := ⟨let ⟨fd, e⟩ := (c.def_ 2 (d := d_is_pair) rfl); ⟨_, fd, e, He.glo_ok X G (c.fact 2 (f := .glo "is_pair") rfl)⟩⟩
theorem at_is_table (X : K.In h) (G : h.Ns mainGlobals mg) (c : He.SaysD fa fn K) : DefAt K mg "is_table" "is_table" s_is_table := ⟨let ⟨fd, e⟩ := (c.def_ 3 (d := d_is_table) rfl); ⟨_, fd, e, He.glo_ok X G (c.fact 3 (f := .glo "is_table") rfl)⟩⟩
theorem at_is_many (X : K.In h) (G : h.Ns mainGlobals mg) (c : He.SaysD fa fn K) : DefAt K mg "is_many" "is_many" s_is_many := ⟨let ⟨fd, e⟩ := (c.def_ 4 (d := d_is_many) rfl); ⟨_, fd, e, He.glo_ok X G (c.fact 4 (f := .glo "is_many") rfl)⟩⟩
theorem at_has_yes (X : K.In h) (G : h.Ns mainGlobals mg) (c : He.SaysD fa fn K) : DefAt K mg "has_yes" "has_yes" s_has_yes := ⟨let ⟨fd, e⟩ := (c.def_ 5 (d := d_has_yes) rfl); ⟨_, fd, e, He.glo_ok X G (c.fact 5 (f := .glo "has_yes") rfl)⟩⟩
theorem at_turned (X : K.In h) (G : h.Ns mainGlobals mg) (c : He.SaysD fa fn K) : DefAt K mg "turned" "turned" s_turned := ⟨let ⟨fd, e⟩ := (c.def_ 6 (d := d_turned) rfl); ⟨_, fd, e, He.glo_ok X G (c.fact 6 (f := .glo "turned") rfl)⟩⟩
theorem at_is_even (X : K.In h) (G : h.Ns mainGlobals mg) (c : He.SaysD fa fn K) : DefAt K mg "is_even" "is_even" s_is_even := ⟨let ⟨fd, e⟩ := (c.def_ 7 (d := d_is_even) rfl); ⟨_, fd, e, He.glo_ok X G (c.fact 7 (f := .glo "is_even") rfl)⟩⟩
theorem at_mark_bounds (X : K.In h) (G : h.Ns mainGlobals mg) (c : He.SaysD fa fn K) : DefAt K mg "mark_bounds" "mark_bounds" s_mark_bounds := ⟨let ⟨fd, e⟩ := (c.def_ 8 (d := d_mark_bounds) rfl); ⟨_, fd, e, He.glo_ok X G (c.fact 8 (f := .glo "mark_bounds") rfl)⟩⟩
theorem at_own_ties (X : K.In h) (G : h.Ns mainGlobals mg) (c : He.SaysD fa fn K) : DefAt K mg "own_ties" "own_ties" s_own_ties := ⟨let ⟨fd, e⟩ := (c.def_ 9 (d := d_own_ties) rfl); ⟨_, fd, e, He.glo_ok X G (c.fact 9 (f := .glo "own_ties") rfl)⟩⟩
theorem at_tie_bounds (X : K.In h) (G : h.Ns mainGlobals mg) (c : He.SaysD fa fn K) : DefAt K mg "tie_bounds" "tie_bounds" s_tie_bounds := ⟨let ⟨fd, e⟩ := (c.def_ 10 (d := d_tie_bounds) rfl); ⟨_, fd, e, He.glo_ok X G (c.fact 10 (f := .glo "tie_bounds") rfl)⟩⟩
theorem at_is_torn (X : K.In h) (G : h.Ns mainGlobals mg) (c : He.SaysD fa fn K) : DefAt K mg "is_torn" "is_torn" s_is_torn := ⟨let ⟨fd, e⟩ := (c.def_ 11 (d := d_is_torn) rfl); ⟨_, fd, e, He.glo_ok X G (c.fact 11 (f := .glo "is_torn") rfl)⟩⟩
theorem at_most_brought (X : K.In h) (G : h.Ns mainGlobals mg) (c : He.SaysD fa fn K) : DefAt K mg "most_brought" "most_brought" s_most_brought := ⟨let ⟨fd, e⟩ := (c.def_ 12 (d := d_most_brought) rfl); ⟨_, fd, e, He.glo_ok X G (c.fact 12 (f := .glo "most_brought") rfl)⟩⟩
theorem at_pipes_bounds (c : He.SaysD fa fn K) : MetAt K (He.ga K "Pipes") "bounds" "Pipes.bounds" s_pipes_bounds := ⟨He.cls_ok (c.fact 76 (f := .cls "Pipes") rfl), let ⟨fd, e⟩ := (c.def_ 14 (d := d_pipes_bounds) rfl); ⟨_, fd, e, He.meth_ok (c.fact 114 (f := .meth "Pipes" "bounds") rfl)⟩⟩
theorem at_pipes_is_torn_at (c : He.SaysD fa fn K) : MetAt K (He.ga K "Pipes") "is_torn_at" "Pipes.is_torn_at" s_pipes_is_torn_at := ⟨He.cls_ok (c.fact 76 (f := .cls "Pipes") rfl), let ⟨fd, e⟩ := (c.def_ 15 (d := d_pipes_is_torn_at) rfl); ⟨_, fd, e, He.meth_ok (c.fact 115 (f := .meth "Pipes" "is_torn_at") rfl)⟩⟩
theorem at_pipes_init (X : K.In h) (G : h.Ns mainGlobals mg) (c : He.SaysD fa fn K) : MakAt K mg "Pipes" (He.ga K "Pipes") "Pipes.__init__" s_pipes_init := ⟨let ⟨fd, e⟩ := (c.def_ 13 (d := d_pipes_init) rfl); ⟨_, fd, e, He.mkr_ok (c.fact 77 (f := .mkr "Pipes") rfl), He.glo_ok X G (c.fact 54 (f := .glo "Pipes") rfl)⟩⟩
theorem at_torn_ties (X : K.In h) (G : h.Ns mainGlobals mg) (c : He.SaysD fa fn K) : DefAt K mg "torn_ties" "torn_ties" s_torn_ties := ⟨let ⟨fd, e⟩ := (c.def_ 16 (d := d_torn_ties) rfl); ⟨_, fd, e, He.glo_ok X G (c.fact 13 (f := .glo "torn_ties") rfl)⟩⟩
theorem at_is_price_row (X : K.In h) (G : h.Ns mainGlobals mg) (c : He.SaysD fa fn K) : DefAt K mg "is_price_row" "is_price_row" s_is_price_row := ⟨let ⟨fd, e⟩ := (c.def_ 37 (d := d_is_price_row) rfl); ⟨_, fd, e, He.glo_ok X G (c.fact 15 (f := .glo "is_price_row") rfl)⟩⟩
theorem at_check_prices (X : K.In h) (G : h.Ns mainGlobals mg) (c : He.SaysD fa fn K) : DefAt K mg "check_prices" "check_prices" s_check_prices := ⟨let ⟨fd, e⟩ := (c.def_ 38 (d := d_check_prices) rfl); ⟨_, fd, e, He.glo_ok X G (c.fact 16 (f := .glo "check_prices") rfl)⟩⟩
theorem at_price_of (X : K.In h) (G : h.Ns mainGlobals mg) (c : He.SaysD fa fn K) : DefAt K mg "price_of" "price_of" s_price_of := ⟨let ⟨fd, e⟩ := (c.def_ 39 (d := d_price_of) rfl); ⟨_, fd, e, He.glo_ok X G (c.fact 17 (f := .glo "price_of") rfl)⟩⟩
theorem at_least_of_tie (X : K.In h) (G : h.Ns mainGlobals mg) (c : He.SaysD fa fn K) : DefAt K mg "least_of_tie" "least_of_tie" s_least_of_tie := ⟨let ⟨fd, e⟩ := (c.def_ 43 (d := d_least_of_tie) rfl); ⟨_, fd, e, He.glo_ok X G (c.fact 21 (f := .glo "least_of_tie") rfl)⟩⟩
theorem at_reach (X : K.In h) (G : h.Ns mainGlobals mg) (c : He.SaysD fa fn K) : DefAt K mg "reach" "reach" s_reach := ⟨let ⟨fd, e⟩ := (c.def_ 44 (d := d_reach) rfl); ⟨_, fd, e, He.glo_ok X G (c.fact 22 (f := .glo "reach") rfl)⟩⟩
theorem at_costs_add (c : He.SaysD fa fn K) : MetAt K (He.ga K "Costs") "add" "Costs.add" s_costs_add := ⟨He.cls_ok (c.fact 78 (f := .cls "Costs") rfl), let ⟨fd, e⟩ := (c.def_ 18 (d := d_costs_add) rfl); ⟨_, fd, e, He.meth_ok (c.fact 116 (f := .meth "Costs" "add") rfl)⟩⟩
theorem at_costs_amount (c : He.SaysD fa fn K) : MetAt K (He.ga K "Costs") "amount" "Costs.amount" s_costs_amount := ⟨He.cls_ok (c.fact 78 (f := .cls "Costs") rfl), let ⟨fd, e⟩ := (c.def_ 19 (d := d_costs_amount) rfl); ⟨_, fd, e, He.meth_ok (c.fact 117 (f := .meth "Costs" "amount") rfl)⟩⟩
theorem at_costs_reduced (c : He.SaysD fa fn K) : MetAt K (He.ga K "Costs") "reduced" "Costs.reduced" s_costs_reduced := ⟨He.cls_ok (c.fact 78 (f := .cls "Costs") rfl), let ⟨fd, e⟩ := (c.def_ 20 (d := d_costs_reduced) rfl); ⟨_, fd, e, He.meth_ok (c.fact 118 (f := .meth "Costs" "reduced") rfl)⟩⟩
theorem at_costs_next_open (c : He.SaysD fa fn K) : MetAt K (He.ga K "Costs") "next_open" "Costs.next_open" s_costs_next_open := ⟨He.cls_ok (c.fact 78 (f := .cls "Costs") rfl), let ⟨fd, e⟩ := (c.def_ 22 (d := d_costs_next_open) rfl); ⟨_, fd, e, He.meth_ok (c.fact 120 (f := .meth "Costs" "next_open") rfl)⟩⟩
theorem at_costs_nearest (c : He.SaysD fa fn K) : MetAt K (He.ga K "Costs") "nearest" "Costs.nearest" s_costs_nearest := ⟨He.cls_ok (c.fact 78 (f := .cls "Costs") rfl), let ⟨fd, e⟩ := (c.def_ 21 (d := d_costs_nearest) rfl); ⟨_, fd, e, He.meth_ok (c.fact 119 (f := .meth "Costs" "nearest") rfl)⟩⟩
theorem at_costs_free_arc (c : He.SaysD fa fn K) : MetAt K (He.ga K "Costs") "free_arc" "Costs.free_arc" s_costs_free_arc := ⟨He.cls_ok (c.fact 78 (f := .cls "Costs") rfl), let ⟨fd, e⟩ := (c.def_ 24 (d := d_costs_free_arc) rfl); ⟨_, fd, e, He.meth_ok (c.fact 122 (f := .meth "Costs" "free_arc") rfl)⟩⟩
theorem at_costs_way_from (c : He.SaysD fa fn K) : MetAt K (He.ga K "Costs") "way_from" "Costs.way_from" s_costs_way_from := ⟨He.cls_ok (c.fact 78 (f := .cls "Costs") rfl), let ⟨fd, e⟩ := (c.def_ 23 (d := d_costs_way_from) rfl); ⟨_, fd, e, He.meth_ok (c.fact 121 (f := .meth "Costs" "way_from") rfl)⟩⟩
theorem at_costs_push (c : He.SaysD fa fn K) : MetAt K (He.ga K "Costs") "push" "Costs.push" s_costs_push := ⟨He.cls_ok (c.fact 78 (f := .cls "Costs") rfl), let ⟨fd, e⟩ := (c.def_ 25 (d := d_costs_push) rfl); ⟨_, fd, e, He.meth_ok (c.fact 123 (f := .meth "Costs" "push") rfl)⟩⟩
theorem at_costs_push_all (c : He.SaysD fa fn K) : MetAt K (He.ga K "Costs") "push_all" "Costs.push_all" s_costs_push_all := ⟨He.cls_ok (c.fact 78 (f := .cls "Costs") rfl), let ⟨fd, e⟩ := (c.def_ 26 (d := d_costs_push_all) rfl); ⟨_, fd, e, He.meth_ok (c.fact 124 (f := .meth "Costs" "push_all") rfl)⟩⟩
theorem at_costs_solve (c : He.SaysD fa fn K) : MetAt K (He.ga K "Costs") "solve" "Costs.solve" s_costs_solve := ⟨He.cls_ok (c.fact 78 (f := .cls "Costs") rfl), let ⟨fd, e⟩ := (c.def_ 27 (d := d_costs_solve) rfl); ⟨_, fd, e, He.meth_ok (c.fact 125 (f := .meth "Costs" "solve") rfl)⟩⟩
theorem at_costs_init (X : K.In h) (G : h.Ns mainGlobals mg) (c : He.SaysD fa fn K) : MakAt K mg "Costs" (He.ga K "Costs") "Costs.__init__" s_costs_init := ⟨let ⟨fd, e⟩ := (c.def_ 17 (d := d_costs_init) rfl); ⟨_, fd, e, He.mkr_ok (c.fact 79 (f := .mkr "Costs") rfl), He.glo_ok X G (c.fact 55 (f := .glo "Costs") rfl)⟩⟩
theorem at_bill_bounds (c : He.SaysD fa fn K) : MetAt K (He.ga K "Bill") "bounds" "Bill.bounds" s_bill_bounds := ⟨He.cls_ok (c.fact 80 (f := .cls "Bill") rfl), let ⟨fd, e⟩ := (c.def_ 29 (d := d_bill_bounds) rfl); ⟨_, fd, e, He.meth_ok (c.fact 126 (f := .meth "Bill" "bounds") rfl)⟩⟩
theorem at_bill_lay (c : He.SaysD fa fn K) : MetAt K (He.ga K "Bill") "lay" "Bill.lay" s_bill_lay := ⟨He.cls_ok (c.fact 80 (f := .cls "Bill") rfl), let ⟨fd, e⟩ := (c.def_ 30 (d := d_bill_lay) rfl); ⟨_, fd, e, He.meth_ok (c.fact 127 (f := .meth "Bill" "lay") rfl)⟩⟩
theorem at_bill_lay_tie (c : He.SaysD fa fn K) : MetAt K (He.ga K "Bill") "lay_tie" "Bill.lay_tie" s_bill_lay_tie := ⟨He.cls_ok (c.fact 80 (f := .cls "Bill") rfl), let ⟨fd, e⟩ := (c.def_ 31 (d := d_bill_lay_tie) rfl); ⟨_, fd, e, He.meth_ok (c.fact 128 (f := .meth "Bill" "lay_tie") rfl)⟩⟩
theorem at_bill_solve (c : He.SaysD fa fn K) : MetAt K (He.ga K "Bill") "solve" "Bill.solve" s_bill_solve := ⟨He.cls_ok (c.fact 80 (f := .cls "Bill") rfl), let ⟨fd, e⟩ := (c.def_ 32 (d := d_bill_solve) rfl); ⟨_, fd, e, He.meth_ok (c.fact 129 (f := .meth "Bill" "solve") rfl)⟩⟩
theorem at_bill_is_picked (c : He.SaysD fa fn K) : MetAt K (He.ga K "Bill") "is_picked" "Bill.is_picked" s_bill_is_picked := ⟨He.cls_ok (c.fact 80 (f := .cls "Bill") rfl), let ⟨fd, e⟩ := (c.def_ 33 (d := d_bill_is_picked) rfl); ⟨_, fd, e, He.meth_ok (c.fact 130 (f := .meth "Bill" "is_picked") rfl)⟩⟩
theorem at_bill_rule (c : He.SaysD fa fn K) : MetAt K (He.ga K "Bill") "rule" "Bill.rule" s_bill_rule := ⟨He.cls_ok (c.fact 80 (f := .cls "Bill") rfl), let ⟨fd, e⟩ := (c.def_ 34 (d := d_bill_rule) rfl); ⟨_, fd, e, He.meth_ok (c.fact 131 (f := .meth "Bill" "rule") rfl)⟩⟩
theorem at_bill_heights (c : He.SaysD fa fn K) : MetAt K (He.ga K "Bill") "heights" "Bill.heights" s_bill_heights := ⟨He.cls_ok (c.fact 80 (f := .cls "Bill") rfl), let ⟨fd, e⟩ := (c.def_ 35 (d := d_bill_heights) rfl); ⟨_, fd, e, He.meth_ok (c.fact 132 (f := .meth "Bill" "heights") rfl)⟩⟩
theorem at_bill_init (X : K.In h) (G : h.Ns mainGlobals mg) (c : He.SaysD fa fn K) : MakAt K mg "Bill" (He.ga K "Bill") "Bill.__init__" s_bill_init := ⟨let ⟨fd, e⟩ := (c.def_ 28 (d := d_bill_init) rfl); ⟨_, fd, e, He.mkr_ok (c.fact 81 (f := .mkr "Bill") rfl), He.glo_ok X G (c.fact 56 (f := .glo "Bill") rfl)⟩⟩
theorem at_cheapest_bill (X : K.In h) (G : h.Ns mainGlobals mg) (c : He.SaysD fa fn K) : DefAt K mg "cheapest_bill" "cheapest_bill" s_cheapest_bill := ⟨let ⟨fd, e⟩ := (c.def_ 36 (d := d_cheapest_bill) rfl); ⟨_, fd, e, He.glo_ok X G (c.fact 14 (f := .glo "cheapest_bill") rfl)⟩⟩
theorem at_bill_of (X : K.In h) (G : h.Ns mainGlobals mg) (c : He.SaysD fa fn K) : DefAt K mg "bill_of" "bill_of" s_bill_of := ⟨let ⟨fd, e⟩ := (c.def_ 40 (d := d_bill_of) rfl); ⟨_, fd, e, He.glo_ok X G (c.fact 18 (f := .glo "bill_of") rfl)⟩⟩
theorem at_cheapest (X : K.In h) (G : h.Ns mainGlobals mg) (c : He.SaysD fa fn K) : DefAt K mg "cheapest" "cheapest" s_cheapest := ⟨let ⟨fd, e⟩ := (c.def_ 41 (d := d_cheapest) rfl); ⟨_, fd, e, He.glo_ok X G (c.fact 19 (f := .glo "cheapest") rfl)⟩⟩
theorem at_heights (X : K.In h) (G : h.Ns mainGlobals mg) (c : He.SaysD fa fn K) : DefAt K mg "heights" "heights" s_heights := ⟨let ⟨fd, e⟩ := (c.def_ 42 (d := d_heights) rfl); ⟨_, fd, e, He.glo_ok X G (c.fact 20 (f := .glo "heights") rfl)⟩⟩
theorem at_is_duties (X : K.In h) (G : h.Ns mainGlobals mg) (c : He.SaysD fa fn K) : DefAt K mg "is_duties" "is_duties" s_is_duties := ⟨let ⟨fd, e⟩ := (c.def_ 45 (d := d_is_duties) rfl); ⟨_, fd, e, He.glo_ok X G (c.fact 23 (f := .glo "is_duties") rfl)⟩⟩
theorem at_is_count (X : K.In h) (G : h.Ns mainGlobals mg) (c : He.SaysD fa fn K) : DefAt K mg "is_count" "is_count" s_is_count := ⟨let ⟨fd, e⟩ := (c.def_ 46 (d := d_is_count) rfl); ⟨_, fd, e, He.glo_ok X G (c.fact 24 (f := .glo "is_count") rfl)⟩⟩
theorem at_are_marks (X : K.In h) (G : h.Ns mainGlobals mg) (c : He.SaysD fa fn K) : DefAt K mg "are_marks" "are_marks" s_are_marks := ⟨let ⟨fd, e⟩ := (c.def_ 47 (d := d_are_marks) rfl); ⟨_, fd, e, He.glo_ok X G (c.fact 25 (f := .glo "are_marks") rfl)⟩⟩
theorem at_book_init (X : K.In h) (G : h.Ns mainGlobals mg) (c : He.SaysD fa fn K) : MakAt K mg "Book" (He.ga K "Book") "Book.__init__" s_book_init := ⟨let ⟨fd, e⟩ := (c.def_ 48 (d := d_book_init) rfl); ⟨_, fd, e, He.mkr_ok (c.fact 83 (f := .mkr "Book") rfl), He.glo_ok X G (c.fact 57 (f := .glo "Book") rfl)⟩⟩
theorem at_l_tape (X : K.In h) (G : h.Ns mainGlobals mg) (c : He.SaysD fa fn K) : DefAt K mg "_law_tape" "_law_tape" s_l_tape := ⟨let ⟨fd, e⟩ := (c.def_ 49 (d := d_l_tape) rfl); ⟨_, fd, e, He.glo_ok X G (c.fact 26 (f := .glo "_law_tape") rfl)⟩⟩
theorem at_l_pick (X : K.In h) (G : h.Ns mainGlobals mg) (c : He.SaysD fa fn K) : DefAt K mg "_law_pick" "_law_pick" s_l_pick := ⟨let ⟨fd, e⟩ := (c.def_ 50 (d := d_l_pick) rfl); ⟨_, fd, e, He.glo_ok X G (c.fact 27 (f := .glo "_law_pick") rfl)⟩⟩
theorem at_l_bits (X : K.In h) (G : h.Ns mainGlobals mg) (c : He.SaysD fa fn K) : DefAt K mg "_law_bits" "_law_bits" s_l_bits := ⟨let ⟨fd, e⟩ := (c.def_ 51 (d := d_l_bits) rfl); ⟨_, fd, e, He.glo_ok X G (c.fact 28 (f := .glo "_law_bits") rfl)⟩⟩
theorem at_l_number (X : K.In h) (G : h.Ns mainGlobals mg) (c : He.SaysD fa fn K) : DefAt K mg "_law_number" "_law_number" s_l_number := ⟨let ⟨fd, e⟩ := (c.def_ 52 (d := d_l_number) rfl); ⟨_, fd, e, He.glo_ok X G (c.fact 29 (f := .glo "_law_number") rfl)⟩⟩
theorem at_l_other (X : K.In h) (G : h.Ns mainGlobals mg) (c : He.SaysD fa fn K) : DefAt K mg "_law_other" "_law_other" s_l_other := ⟨let ⟨fd, e⟩ := (c.def_ 53 (d := d_l_other) rfl); ⟨_, fd, e, He.glo_ok X G (c.fact 30 (f := .glo "_law_other") rfl)⟩⟩
theorem at_l_size (X : K.In h) (G : h.Ns mainGlobals mg) (c : He.SaysD fa fn K) : DefAt K mg "_law_size" "_law_size" s_l_size := ⟨let ⟨fd, e⟩ := (c.def_ 54 (d := d_l_size) rfl); ⟨_, fd, e, He.glo_ok X G (c.fact 31 (f := .glo "_law_size") rfl)⟩⟩
theorem at_l_duties (X : K.In h) (G : h.Ns mainGlobals mg) (c : He.SaysD fa fn K) : DefAt K mg "_law_duties" "_law_duties" s_l_duties := ⟨let ⟨fd, e⟩ := (c.def_ 55 (d := d_l_duties) rfl); ⟨_, fd, e, He.glo_ok X G (c.fact 32 (f := .glo "_law_duties") rfl)⟩⟩
theorem at_l_rule (X : K.In h) (G : h.Ns mainGlobals mg) (c : He.SaysD fa fn K) : DefAt K mg "_law_rule" "_law_rule" s_l_rule := ⟨let ⟨fd, e⟩ := (c.def_ 56 (d := d_l_rule) rfl); ⟨_, fd, e, He.glo_ok X G (c.fact 33 (f := .glo "_law_rule") rfl)⟩⟩
theorem at_l_drawn (X : K.In h) (G : h.Ns mainGlobals mg) (c : He.SaysD fa fn K) : DefAt K mg "_law_drawn" "_law_drawn" s_l_drawn := ⟨let ⟨fd, e⟩ := (c.def_ 57 (d := d_l_drawn) rfl); ⟨_, fd, e, He.glo_ok X G (c.fact 34 (f := .glo "_law_drawn") rfl)⟩⟩
theorem at_l_ties (X : K.In h) (G : h.Ns mainGlobals mg) (c : He.SaysD fa fn K) : DefAt K mg "_law_ties" "_law_ties" s_l_ties := ⟨let ⟨fd, e⟩ := (c.def_ 58 (d := d_l_ties) rfl); ⟨_, fd, e, He.glo_ok X G (c.fact 35 (f := .glo "_law_ties") rfl)⟩⟩
theorem at_l_fillings (X : K.In h) (G : h.Ns mainGlobals mg) (c : He.SaysD fa fn K) : DefAt K mg "_law_fillings" "_law_fillings" s_l_fillings := ⟨let ⟨fd, e⟩ := (c.def_ 59 (d := d_l_fillings) rfl); ⟨_, fd, e, He.glo_ok X G (c.fact 36 (f := .glo "_law_fillings") rfl)⟩⟩
theorem at_l_is_lot (X : K.In h) (G : h.Ns mainGlobals mg) (c : He.SaysD fa fn K) : DefAt K mg "_law_is_lot" "_law_is_lot" s_l_is_lot := ⟨let ⟨fd, e⟩ := (c.def_ 60 (d := d_l_is_lot) rfl); ⟨_, fd, e, He.glo_ok X G (c.fact 37 (f := .glo "_law_is_lot") rfl)⟩⟩
theorem at_l_keeps (X : K.In h) (G : h.Ns mainGlobals mg) (c : He.SaysD fa fn K) : DefAt K mg "_law_keeps" "_law_keeps" s_l_keeps := ⟨let ⟨fd, e⟩ := (c.def_ 61 (d := d_l_keeps) rfl); ⟨_, fd, e, He.glo_ok X G (c.fact 38 (f := .glo "_law_keeps") rfl)⟩⟩
theorem at_l_prices (X : K.In h) (G : h.Ns mainGlobals mg) (c : He.SaysD fa fn K) : DefAt K mg "_law_prices" "_law_prices" s_l_prices := ⟨let ⟨fd, e⟩ := (c.def_ 62 (d := d_l_prices) rfl); ⟨_, fd, e, He.glo_ok X G (c.fact 39 (f := .glo "_law_prices") rfl)⟩⟩
theorem at_l_price (X : K.In h) (G : h.Ns mainGlobals mg) (c : He.SaysD fa fn K) : DefAt K mg "_law_price" "_law_price" s_l_price := ⟨let ⟨fd, e⟩ := (c.def_ 63 (d := d_l_price) rfl); ⟨_, fd, e, He.glo_ok X G (c.fact 40 (f := .glo "_law_price") rfl)⟩⟩
theorem at_l_reach (X : K.In h) (G : h.Ns mainGlobals mg) (c : He.SaysD fa fn K) : DefAt K mg "_law_reach" "_law_reach" s_l_reach := ⟨let ⟨fd, e⟩ := (c.def_ 64 (d := d_l_reach) rfl); ⟨_, fd, e, He.glo_ok X G (c.fact 41 (f := .glo "_law_reach") rfl)⟩⟩
theorem at_l_reached (X : K.In h) (G : h.Ns mainGlobals mg) (c : He.SaysD fa fn K) : DefAt K mg "_law_reached" "_law_reached" s_l_reached := ⟨let ⟨fd, e⟩ := (c.def_ 65 (d := d_l_reached) rfl); ⟨_, fd, e, He.glo_ok X G (c.fact 42 (f := .glo "_law_reached") rfl)⟩⟩
theorem at_l_told (X : K.In h) (G : h.Ns mainGlobals mg) (c : He.SaysD fa fn K) : DefAt K mg "_law_told" "_law_told" s_l_told := ⟨let ⟨fd, e⟩ := (c.def_ 67 (d := d_l_told) rfl); ⟨_, fd, e, He.glo_ok X G (c.fact 44 (f := .glo "_law_told") rfl)⟩⟩
theorem at_l_high (X : K.In h) (G : h.Ns mainGlobals mg) (c : He.SaysD fa fn K) : DefAt K mg "_law_high" "_law_high" s_l_high := ⟨let ⟨fd, e⟩ := (c.def_ 66 (d := d_l_high) rfl); ⟨_, fd, e, He.glo_ok X G (c.fact 43 (f := .glo "_law_high") rfl)⟩⟩
theorem all_ok {P : Program} {w : World} {f : Addr} (X : K.In h) (G : h.Ns mainGlobals mg) (hfa : mg ("law" : Str) = some (.ref f)) (c0 : Ok3 K) :
    ∃ fd : FuncData, (∀ (s : Shared) (v : Value), BindsTo s fd ⟨[v], []⟩ [("_law_script", v)]) ∧ ∀ base : Heap, K.In base → base.Ns mainGlobals mg → FnOk P w K mg base CX0 11 f fd ["_law_script"] (spLaw K) := by
  have c := ok3_says c0
  obtain ⟨fd, F⟩ := c.def_ 68 (d := d_law) rfl
  have e := hfa.symm.trans (He.glo_ok X G (c.fact 45 (f := .glo "law") rfl))
  cases e
  have b := FunD.bindsA (ps := ["_law_script"]) F fun _ _ _ _ _ _ us hl => match us, hl with | [_], _ => rfl
  refine ⟨fd, fun s v => b s [v] rfl, fun base _ _ => ?_⟩
  have c_is_integer := K31.c_is_integer (P := P) (w := w) (base := base) (fx X G c (ok3_tabs c0)) (at_is_integer X G c) 
  have c_is_pair := K31.c_is_pair (P := P) (w := w) (base := base) (fx X G c (ok3_tabs c0)) (at_is_pair X G c) 
  have c_is_table := K31.c_is_table (P := P) (w := w) (base := base) (fx X G c (ok3_tabs c0)) (at_is_table X G c) 
  have c_has_yes := K31.c_has_yes (P := P) (w := w) (base := base) (fx X G c (ok3_tabs c0)) (at_has_yes X G c) 
  have c_mark_bounds := K31.c_mark_bounds (P := P) (w := w) (base := base) (fx X G c (ok3_tabs c0)) (at_mark_bounds X G c) 
  have c_tie_bounds := K31.c_tie_bounds (P := P) (w := w) (base := base) (fx X G c (ok3_tabs c0)) (at_tie_bounds X G c) 
  have c_pipes_bounds := K31.c_pipes_bounds (P := P) (w := w) (base := base) (fx X G c (ok3_tabs c0)) (at_pipes_bounds c) 
  have c_price_of := K31.c_price_of (P := P) (w := w) (base := base) (fx X G c (ok3_tabs c0)) (at_price_of X G c) 
  have c_costs_add := K31.c_costs_add (P := P) (w := w) (base := base) (fx X G c (ok3_tabs c0)) (at_costs_add c) 
  have c_costs_amount := K31.c_costs_amount (P := P) (w := w) (base := base) (fx X G c (ok3_tabs c0)) (at_costs_amount c) 
  have c_costs_reduced := K31.c_costs_reduced (P := P) (w := w) (base := base) (fx X G c (ok3_tabs c0)) (at_costs_reduced c) 
  have c_costs_next_open := K31.c_costs_next_open (P := P) (w := w) (base := base) (fx X G c (ok3_tabs c0)) (at_costs_next_open c) 
  have c_costs_push := K31.c_costs_push (P := P) (w := w) (base := base) (fx X G c (ok3_tabs c0)) (at_costs_push c) 
  have c_costs_init := K31.c_costs_init (P := P) (w := w) (base := base) (fx X G c (ok3_tabs c0)) (at_costs_init X G c) 
  have c_bill_bounds := K31.c_bill_bounds (P := P) (w := w) (base := base) (fx X G c (ok3_tabs c0)) (at_bill_bounds c) 
  have c_bill_heights := K31.c_bill_heights (P := P) (w := w) (base := base) (fx X G c (ok3_tabs c0)) (at_bill_heights c) 
  have c_are_marks := K31.c_are_marks (P := P) (w := w) (base := base) (fx X G c (ok3_tabs c0)) (at_are_marks X G c) 
  have c_l_tape := K31.c_l_tape (P := P) (w := w) (base := base) (fx X G c (ok3_tabs c0)) (at_l_tape X G c) 
  have c_l_pick := K31.c_l_pick (P := P) (w := w) (base := base) (fx X G c (ok3_tabs c0)) (at_l_pick X G c) 
  have c_l_bits := K31.c_l_bits (P := P) (w := w) (base := base) (fx X G c (ok3_tabs c0)) (at_l_bits X G c) 
  have c_l_number := K31.c_l_number (P := P) (w := w) (base := base) (fx X G c (ok3_tabs c0)) (at_l_number X G c) 
  have c_l_size := K31.c_l_size (P := P) (w := w) (base := base) (fx X G c (ok3_tabs c0)) (at_l_size X G c) 
  have c_l_fillings := K31.c_l_fillings (P := P) (w := w) (base := base) (fx X G c (ok3_tabs c0)) (at_l_fillings X G c) 
  have c_l_is_lot := K31.c_l_is_lot (P := P) (w := w) (base := base) (fx X G c (ok3_tabs c0)) (at_l_is_lot X G c) 
  have c_l_price := K31.c_l_price (P := P) (w := w) (base := base) (fx X G c (ok3_tabs c0)) (at_l_price X G c) 
  have c_is_within := K31.c_is_within (P := P) (w := w) (base := base) (fx X G c (ok3_tabs c0)) (at_is_within X G c) c_is_integer
  have c_turned := K31.c_turned (P := P) (w := w) (base := base) (fx X G c (ok3_tabs c0)) (at_turned X G c) c_has_yes
  have c_is_even := K31.c_is_even (P := P) (w := w) (base := base) (fx X G c (ok3_tabs c0)) (at_is_even X G c) c_has_yes
  have c_is_torn := K31.c_is_torn (P := P) (w := w) (base := base) (fx X G c (ok3_tabs c0)) (at_is_torn X G c) c_tie_bounds
  have c_most_brought := K31.c_most_brought (P := P) (w := w) (base := base) (fx X G c (ok3_tabs c0)) (at_most_brought X G c) c_tie_bounds
  have c_costs_nearest := K31.c_costs_nearest (P := P) (w := w) (base := base) (fx X G c (ok3_tabs c0)) (at_costs_nearest c) c_costs_next_open c_costs_reduced
  have c_costs_free_arc := K31.c_costs_free_arc (P := P) (w := w) (base := base) (fx X G c (ok3_tabs c0)) (at_costs_free_arc c) c_costs_reduced
  have c_bill_lay := K31.c_bill_lay (P := P) (w := w) (base := base) (fx X G c (ok3_tabs c0)) (at_bill_lay c) c_costs_add
  have c_bill_is_picked := K31.c_bill_is_picked (P := P) (w := w) (base := base) (fx X G c (ok3_tabs c0)) (at_bill_is_picked c) c_costs_amount
  have c_l_other := K31.c_l_other (P := P) (w := w) (base := base) (fx X G c (ok3_tabs c0)) (at_l_other X G c) c_l_bits c_l_number
  have c_l_duties := K31.c_l_duties (P := P) (w := w) (base := base) (fx X G c (ok3_tabs c0)) (at_l_duties X G c) c_l_pick
  have c_l_prices := K31.c_l_prices (P := P) (w := w) (base := base) (fx X G c (ok3_tabs c0)) (at_l_prices X G c) c_l_pick c_l_size
  have c_l_high := K31.c_l_high (P := P) (w := w) (base := base) (fx X G c (ok3_tabs c0)) (at_l_high X G c) c_l_pick c_l_size
  have c_is_many := K31.c_is_many (P := P) (w := w) (base := base) (fx X G c (ok3_tabs c0)) (at_is_many X G c) c_is_within
  have c_own_ties := K31.c_own_ties (P := P) (w := w) (base := base) (fx X G c (ok3_tabs c0)) (at_own_ties X G c) c_has_yes c_turned
  have c_pipes_is_torn_at := K31.c_pipes_is_torn_at (P := P) (w := w) (base := base) (fx X G c (ok3_tabs c0)) (at_pipes_is_torn_at c) c_is_torn c_pipes_bounds
  have c_is_price_row := K31.c_is_price_row (P := P) (w := w) (base := base) (fx X G c (ok3_tabs c0)) (at_is_price_row X G c) c_is_table c_is_within
  have c_least_of_tie := K31.c_least_of_tie (P := P) (w := w) (base := base) (fx X G c (ok3_tabs c0)) (at_least_of_tie X G c) c_most_brought
  have c_costs_way_from := K31.c_costs_way_from (P := P) (w := w) (base := base) (fx X G c (ok3_tabs c0)) (at_costs_way_from c) c_costs_free_arc
  have c_bill_lay_tie := K31.c_bill_lay_tie (P := P) (w := w) (base := base) (fx X G c (ok3_tabs c0)) (at_bill_lay_tie c) c_bill_bounds c_bill_lay c_tie_bounds
  have c_bill_rule := K31.c_bill_rule (P := P) (w := w) (base := base) (fx X G c (ok3_tabs c0)) (at_bill_rule c) c_bill_is_picked
  have c_bill_init := K31.c_bill_init (P := P) (w := w) (base := base) (fx X G c (ok3_tabs c0)) (at_bill_init X G c) c_costs_init c_is_even c_mark_bounds
  have c_is_count := K31.c_is_count (P := P) (w := w) (base := base) (fx X G c (ok3_tabs c0)) (at_is_count X G c) c_is_pair c_is_within
  have c_l_rule := K31.c_l_rule (P := P) (w := w) (base := base) (fx X G c (ok3_tabs c0)) (at_l_rule X G c) c_l_pick c_l_bits c_l_other c_l_size
  have c_l_ties := K31.c_l_ties (P := P) (w := w) (base := base) (fx X G c (ok3_tabs c0)) (at_l_ties X G c) c_l_bits c_l_other c_l_size
  have c_pipes_init := K31.c_pipes_init (P := P) (w := w) (base := base) (fx X G c (ok3_tabs c0)) (at_pipes_init X G c) c_mark_bounds c_own_ties c_pipes_is_torn_at
  have c_check_prices := K31.c_check_prices (P := P) (w := w) (base := base) (fx X G c (ok3_tabs c0)) (at_check_prices X G c) c_is_table c_is_price_row
  have c_costs_push_all := K31.c_costs_push_all (P := P) (w := w) (base := base) (fx X G c (ok3_tabs c0)) (at_costs_push_all c) c_costs_push c_costs_way_from
  have c_is_duties := K31.c_is_duties (P := P) (w := w) (base := base) (fx X G c (ok3_tabs c0)) (at_is_duties X G c) c_is_many
  have c_l_drawn := K31.c_l_drawn (P := P) (w := w) (base := base) (fx X G c (ok3_tabs c0)) (at_l_drawn X G c) c_l_duties c_l_pick c_l_rule
  have c_l_keeps := K31.c_l_keeps (P := P) (w := w) (base := base) (fx X G c (ok3_tabs c0)) (at_l_keeps X G c) c_l_fillings c_l_is_lot c_l_ties
  have c_l_reach := K31.c_l_reach (P := P) (w := w) (base := base) (fx X G c (ok3_tabs c0)) (at_l_reach X G c) c_l_fillings c_l_ties
  have c_torn_ties := K31.c_torn_ties (P := P) (w := w) (base := base) (fx X G c (ok3_tabs c0)) (at_torn_ties X G c) c_pipes_init
  have c_costs_solve := K31.c_costs_solve (P := P) (w := w) (base := base) (fx X G c (ok3_tabs c0)) (at_costs_solve c) c_costs_nearest c_costs_push_all
  have c_book_init := K31.c_book_init (P := P) (w := w) (base := base) (fx X G c (ok3_tabs c0)) (at_book_init X G c) c_is_duties c_is_table c_is_count c_are_marks
  have c_reach := K31.c_reach (P := P) (w := w) (base := base) (fx X G c (ok3_tabs c0)) (at_reach X G c) c_check_prices c_is_integer c_is_table c_least_of_tie c_mark_bounds c_own_ties c_torn_ties
  have c_bill_solve := K31.c_bill_solve (P := P) (w := w) (base := base) (fx X G c (ok3_tabs c0)) (at_bill_solve c) c_own_ties c_bill_lay_tie c_costs_add c_costs_solve
  have c_cheapest_bill := K31.c_cheapest_bill (P := P) (w := w) (base := base) (fx X G c (ok3_tabs c0)) (at_cheapest_bill X G c) c_bill_init c_bill_solve
  have c_l_reached := K31.c_l_reached (P := P) (w := w) (base := base) (fx X G c (ok3_tabs c0)) (at_l_reached X G c) c_reach
  have c_bill_of := K31.c_bill_of (P := P) (w := w) (base := base) (fx X G c (ok3_tabs c0)) (at_bill_of X G c) c_check_prices c_cheapest_bill
  have c_cheapest := K31.c_cheapest (P := P) (w := w) (base := base) (fx X G c (ok3_tabs c0)) (at_cheapest X G c) c_bill_of c_bill_rule c_price_of
  have c_heights := K31.c_heights (P := P) (w := w) (base := base) (fx X G c (ok3_tabs c0)) (at_heights X G c) c_bill_of c_bill_heights
  have c_l_told := K31.c_l_told (P := P) (w := w) (base := base) (fx X G c (ok3_tabs c0)) (at_l_told X G c) c_cheapest c_heights
  exact ok_law (fx X G c (ok3_tabs c0)) F c_book_init c_l_drawn c_l_fillings c_l_high c_l_keeps c_l_price c_l_prices c_l_reach c_l_reached c_l_rule c_l_tape c_l_ties c_l_told
end
end K31
open PySem PySem.W PySem.Calls PyProof.Rows
theorem PySem.Challenge.cw_owncause_k31_whole_no_heights_reach_more_holds : PySem.Challenge.rw_owncause_k31_whole_no_heights_reach_more.Holds := by
  w_on; o_law
  refine HandSHeadRun.head_any (r := OpenLaw.row PySem.Challenge.rw_owncause_k31_whole_no_heights_reach_more) (q := view (OpenLaw.row PySem.Challenge.rw_owncause_k31_whole_no_heights_reach_more).prog [70]) (H := K31.hookX) (ob := K31.ob) (M := 20000) (loose := K31.loose) (d := HandSHeadRun.topDef (OpenLaw.row PySem.Challenge.rw_owncause_k31_whole_no_heights_reach_more).prog 70) (kwd := []) K31.ob_eq
    (by kernel_rfl) (fun s => by kernel_rfl) K31.run (by kernel_rfl) (by kernel_rfl) (by kernel_rfl) (by rfl) (by first | assumption | decide +kernel) (by decide +kernel) ⟨rfl, rfl, rfl, rfl, rfl, by decide +kernel⟩ ?hw ?hc
  case hw => w_witness2
  case hc =>
    refine L2.walk_ofE (l := PySem.Challenge.rw_owncause_k31_whole_no_heights_reach_more) (n := 63) (k := 11) (x := "_law_script") (CX := L2.CX0) rfl (by decide) (by kernel_rfl) ⟨rfl, by decide, by decide⟩ ?F (fun _ _ _ _ z => z)
    intro w mg fa h Y G hmg0
    obtain ⟨K, KX, c⟩ := Y
    have hmg : mg ("law" : PySem.Str) = some (.ref fa) := by
      have e : (HandSHeadRun.topDef (OpenLaw.row PySem.Challenge.rw_owncause_k31_whole_no_heights_reach_more).prog 70).name = ("law" : PySem.Str) := by kernel_rfl
      rw [← e]
      exact hmg0
    obtain ⟨fd, hb, hF⟩ := K31.all_ok (P := (PySem.Challenge.rw_owncause_k31_whole_no_heights_reach_more).prog) (w := w) KX G hmg c
    exact ⟨K, fd, K31.spLaw K, KX, hb, fun H a ns hl _ hS => ⟨a, ns, rfl, hS, fun _ => rfl⟩, hF⟩

set_option autoImplicit true
