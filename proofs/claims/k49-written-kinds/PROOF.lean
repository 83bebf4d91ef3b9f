import PyProof.Rows.All
import Wide.All
import OpenK.AllK
import Wide.FinOn
import KE.KStateDown
import HandS.ForMost
import HandS.Defaults
import HandS.Head0
import HandS.Head1
import HandS.Head2
import HandS.HeadEnd
import HandS.HeadHook1
import HandS.HeadHook2
import HandS.HeadHook3
import HandS.HeadHook4
import HandS.IsInst
import HandS.Zip
import HandS.TupAny
import HandS.TupMul
import HandS.RaiseMore
import HandS.DictComp
import HandS.More
import HandS.Codes
import HandS.Iter
import KE.GoesEnum
import KE.GoesMore
import KE.GoesZip
import KE.KDictPairs
import HandS.SetFor
import HandS.SortInts
import HandS.NamedTupSort
import HandS.Conv
import HandS.TupSets
import KE.KTupSum
import OpenK.KOps
import HandS.OwnIter
import HandS.DictTup
import HandS.RevTup
import HandS.MapObj
import KE.KDictZip
import KE.KDictItemsList
import HandS.WordsDict
import PySem.Challenge.RW_cutorall_k49_whole_kinds_kept_by_writing
set_option Elab.async false
set_option linter.all false
set_option maxRecDepth 100000
section
set_option maxHeartbeats 0
namespace Cut
open PySem PySem.W PySem.Spec PyProof.Rows L2
def top (i : Nat) : Stmt := PySem.Challenge.pw_cutorall_k49_whole_kinds_kept_by_writing.main.body.getD i (.Pass ⟨0, 0, 0, 0⟩)
abbrev s_is_below_prices : Stmt := top 15
abbrev s_is_below_sides : Stmt := top 54
abbrev s_is_integer : Stmt := top 14
abbrev s_is_size : Stmt := top 17
abbrev s_is_row : Stmt := top 18
abbrev s_are_integers : Stmt := top 19
abbrev s_number_of : Stmt := top 21
abbrev s_are_prices : Stmt := top 25
abbrev s_rows_of : Stmt := top 31
abbrev s_and_of : Stmt := top 32
abbrev s_or_of : Stmt := top 33
abbrev s_has_one_more : Stmt := top 34
abbrev s_shows_row : Stmt := top 35
abbrev s_shows_pair : Stmt := top 36
abbrev s_shown_by : Stmt := top 37
abbrev s_fault_of : Stmt := top 38
abbrev s_is_kind : Stmt := top 39
abbrev s_free_kinds : Stmt := top 40
abbrev s_fixed_kinds : Stmt := top 41
abbrev s_are_cells : Stmt := top 43
abbrev s_is_tie : Stmt := top 44
abbrev s_is_filling : Stmt := top 46
abbrev s_sum_of_ties : Stmt := top 47
abbrev s_total_of : Stmt := top 48
abbrev s_is_start : Stmt := top 49
abbrev s_rows_with : Stmt := top 50
abbrev s_all_cheapest : Stmt := top 51
abbrev s_side : Stmt := top 53
abbrev s_is_rising : Stmt := top 58
abbrev s_is_member : Stmt := top 59
abbrev s_is_sum : Stmt := top 60
abbrev s_worth_at : Stmt := top 61
abbrev s_sum_told : Stmt := top 62
abbrev s_sum_of_price : Stmt := top 63
abbrev s_letters_read : Stmt := top 64
abbrev s_sum_of : Stmt := top 65
abbrev s_pairs_of : Stmt := top 66
abbrev s_is_bent : Stmt := top 67
abbrev s_network_of : Stmt := top 73
abbrev s_least_side : Stmt := top 76
abbrev s_filled_with : Stmt := top 79
abbrev s_bent_network : Stmt := top 81
abbrev s_kind_for : Stmt := top 82
abbrev s_filling_by_side : Stmt := top 83
abbrev s_some_cheapest : Stmt := top 84
abbrev s_least_total : Stmt := top 85
abbrev s_are_free_cells : Stmt := top 88
abbrev s_written_price : Stmt := top 89
abbrev s_law_draws : Stmt := top 91
abbrev s_law_take : Stmt := top 92
abbrev s_law_rows : Stmt := top 93
abbrev s_law_at : Stmt := top 94
abbrev s_law_is : Stmt := top 95
abbrev s_law_amount : Stmt := top 96
abbrev s_law_ties : Stmt := top 97
abbrev s_law_made_book : Stmt := top 98
abbrev s_law_total : Stmt := top 99
abbrev s_law_keeps : Stmt := top 100
abbrev s_law_totals : Stmt := top 101
abbrev s_law_start : Stmt := top 102
abbrev s_law_free : Stmt := top 103
abbrev s_law_bent : Stmt := top 104
abbrev s_law_kind_price : Stmt := top 105
abbrev s_law : Stmt := top 106
abbrev s_Price_init : Stmt := inClass (top 22) 0
abbrev s_Price_cost : Stmt := inClass (top 22) 2
abbrev s_Book_init : Stmt := inClass (top 26) 0
abbrev s_Book_len : Stmt := inClass (top 26) 2
abbrev s_Puzzle_init : Stmt := inClass (top 45) 0
abbrev s_Maker_init : Stmt := inClass (top 72) 0
abbrev s_Maker_put_triple : Stmt := inClass (top 72) 1
abbrev s_Maker_put_pairs : Stmt := inClass (top 72) 2
abbrev s_Maker_put_singles : Stmt := inClass (top 72) 3
abbrev s_Maker_network : Stmt := inClass (top 72) 4
abbrev s_Flowing_init : Stmt := inClass (top 75) 0
abbrev s_Flowing_room : Stmt := inClass (top 75) 1
abbrev s_Flowing_walk : Stmt := inClass (top 75) 2
abbrev s_Flowing_send : Stmt := inClass (top 75) 3
abbrev s_Flowing_fill : Stmt := inClass (top 75) 4
def d_is_below_prices : He.DefD := ⟨("is_below_prices", none), "is_below", "is_below", defArgs s_is_below_prices, defBody s_is_below_prices, defScope s_is_below_prices, [], []⟩
def d_is_below_sides : He.DefD := ⟨("is_below_sides", none), "is_below", "is_below", defArgs s_is_below_sides, defBody s_is_below_sides, defScope s_is_below_sides, [], []⟩
def d_is_integer : He.DefD := ⟨("is_integer", none), "is_integer", "is_integer", defArgs s_is_integer, defBody s_is_integer, defScope s_is_integer, [], []⟩
def d_is_size : He.DefD := ⟨("is_size", none), "is_size", "is_size", defArgs s_is_size, defBody s_is_size, defScope s_is_size, [], []⟩
def d_is_row : He.DefD := ⟨("is_row", none), "is_row", "is_row", defArgs s_is_row, defBody s_is_row, defScope s_is_row, [], []⟩
def d_are_integers : He.DefD := ⟨("are_integers", none), "are_integers", "are_integers", defArgs s_are_integers, defBody s_are_integers, defScope s_are_integers, [], []⟩
def d_number_of : He.DefD := ⟨("number_of", none), "number_of", "number_of", defArgs s_number_of, defBody s_number_of, defScope s_number_of, [], []⟩
def d_are_prices : He.DefD := ⟨("are_prices", none), "are_prices", "are_prices", defArgs s_are_prices, defBody s_are_prices, defScope s_are_prices, [], []⟩
def d_rows_of : He.DefD := ⟨("rows_of", none), "rows_of", "rows_of", defArgs s_rows_of, defBody s_rows_of, defScope s_rows_of, [], []⟩
def d_and_of : He.DefD := ⟨("and_of", none), "and_of", "and_of", defArgs s_and_of, defBody s_and_of, defScope s_and_of, [], []⟩
def d_or_of : He.DefD := ⟨("or_of", none), "or_of", "or_of", defArgs s_or_of, defBody s_or_of, defScope s_or_of, [], []⟩
def d_has_one_more : He.DefD := ⟨("has_one_more", none), "has_one_more", "has_one_more", defArgs s_has_one_more, defBody s_has_one_more, defScope s_has_one_more, [], []⟩
def d_shows_row : He.DefD := ⟨("shows_row", none), "shows_row", "shows_row", defArgs s_shows_row, defBody s_shows_row, defScope s_shows_row, [], []⟩
def d_shows_pair : He.DefD := ⟨("shows_pair", none), "shows_pair", "shows_pair", defArgs s_shows_pair, defBody s_shows_pair, defScope s_shows_pair, [], []⟩
def d_shown_by : He.DefD := ⟨("shown_by", none), "shown_by", "shown_by", defArgs s_shown_by, defBody s_shown_by, defScope s_shown_by, [], []⟩
def d_fault_of : He.DefD := ⟨("fault_of", none), "fault_of", "fault_of", defArgs s_fault_of, defBody s_fault_of, defScope s_fault_of, [], []⟩
def d_is_kind : He.DefD := ⟨("is_kind", none), "is_kind", "is_kind", defArgs s_is_kind, defBody s_is_kind, defScope s_is_kind, [], []⟩
def d_free_kinds : He.DefD := ⟨("free_kinds", none), "free_kinds", "free_kinds", defArgs s_free_kinds, defBody s_free_kinds, defScope s_free_kinds, [], []⟩
def d_fixed_kinds : He.DefD := ⟨("fixed_kinds", none), "fixed_kinds", "fixed_kinds", defArgs s_fixed_kinds, defBody s_fixed_kinds, defScope s_fixed_kinds, [], []⟩
def d_are_cells : He.DefD := ⟨("are_cells", none), "are_cells", "are_cells", defArgs s_are_cells, defBody s_are_cells, defScope s_are_cells, [], []⟩
def d_is_tie : He.DefD := ⟨("is_tie", none), "is_tie", "is_tie", defArgs s_is_tie, defBody s_is_tie, defScope s_is_tie, [], []⟩
def d_is_filling : He.DefD := ⟨("is_filling", none), "is_filling", "is_filling", defArgs s_is_filling, defBody s_is_filling, defScope s_is_filling, [], []⟩
def d_sum_of_ties : He.DefD := ⟨("sum_of_ties", none), "sum_of_ties", "sum_of_ties", defArgs s_sum_of_ties, defBody s_sum_of_ties, defScope s_sum_of_ties, [], []⟩
def d_total_of : He.DefD := ⟨("total_of", none), "total_of", "total_of", defArgs s_total_of, defBody s_total_of, defScope s_total_of, [], []⟩
def d_is_start : He.DefD := ⟨("is_start", none), "is_start", "is_start", defArgs s_is_start, defBody s_is_start, defScope s_is_start, [], []⟩
def d_rows_with : He.DefD := ⟨("rows_with", none), "rows_with", "rows_with", defArgs s_rows_with, defBody s_rows_with, defScope s_rows_with, [], []⟩
def d_all_cheapest : He.DefD := ⟨("all_cheapest", none), "all_cheapest", "all_cheapest", defArgs s_all_cheapest, defBody s_all_cheapest, defScope s_all_cheapest, [.adr (He.dflAt ("all_cheapest", none) 0)], []⟩
def d_side : He.DefD := ⟨("side", none), "side", "side", defArgs s_side, defBody s_side, defScope s_side, [], [("fixed", .bl false)]⟩
def d_is_rising : He.DefD := ⟨("is_rising", none), "is_rising", "is_rising", defArgs s_is_rising, defBody s_is_rising, defScope s_is_rising, [], []⟩
def d_is_member : He.DefD := ⟨("is_member", none), "is_member", "is_member", defArgs s_is_member, defBody s_is_member, defScope s_is_member, [], []⟩
def d_is_sum : He.DefD := ⟨("is_sum", none), "is_sum", "is_sum", defArgs s_is_sum, defBody s_is_sum, defScope s_is_sum, [], []⟩
def d_worth_at : He.DefD := ⟨("worth_at", none), "worth_at", "worth_at", defArgs s_worth_at, defBody s_worth_at, defScope s_worth_at, [], []⟩
def d_sum_told : He.DefD := ⟨("sum_told", none), "sum_told", "sum_told", defArgs s_sum_told, defBody s_sum_told, defScope s_sum_told, [], []⟩
def d_sum_of_price : He.DefD := ⟨("sum_of_price", none), "sum_of_price", "sum_of_price", defArgs s_sum_of_price, defBody s_sum_of_price, defScope s_sum_of_price, [], []⟩
def d_letters_read : He.DefD := ⟨("letters_read", none), "letters_read", "letters_read", defArgs s_letters_read, defBody s_letters_read, defScope s_letters_read, [], []⟩
def d_sum_of : He.DefD := ⟨("sum_of", none), "sum_of", "sum_of", defArgs s_sum_of, defBody s_sum_of, defScope s_sum_of, [.adr (He.dflAt ("sum_of", none) 0)], []⟩
def d_pairs_of : He.DefD := ⟨("pairs_of", none), "pairs_of", "pairs_of", defArgs s_pairs_of, defBody s_pairs_of, defScope s_pairs_of, [], []⟩
def d_is_bent : He.DefD := ⟨("is_bent", none), "is_bent", "is_bent", defArgs s_is_bent, defBody s_is_bent, defScope s_is_bent, [], []⟩
def d_network_of : He.DefD := ⟨("network_of", none), "network_of", "network_of", defArgs s_network_of, defBody s_network_of, defScope s_network_of, [], []⟩
def d_least_side : He.DefD := ⟨("least_side", none), "least_side", "least_side", defArgs s_least_side, defBody s_least_side, defScope s_least_side, [], []⟩
def d_filled_with : He.DefD := ⟨("filled_with", none), "filled_with", "filled_with", defArgs s_filled_with, defBody s_filled_with, defScope s_filled_with, [], []⟩
def d_bent_network : He.DefD := ⟨("bent_network", none), "bent_network", "bent_network", defArgs s_bent_network, defBody s_bent_network, defScope s_bent_network, [], []⟩
def d_kind_for : He.DefD := ⟨("kind_for", none), "kind_for", "kind_for", defArgs s_kind_for, defBody s_kind_for, defScope s_kind_for, [], []⟩
def d_filling_by_side : He.DefD := ⟨("filling_by_side", none), "filling_by_side", "filling_by_side", defArgs s_filling_by_side, defBody s_filling_by_side, defScope s_filling_by_side, [], []⟩
def d_some_cheapest : He.DefD := ⟨("some_cheapest", none), "some_cheapest", "some_cheapest", defArgs s_some_cheapest, defBody s_some_cheapest, defScope s_some_cheapest, [.adr (He.dflAt ("some_cheapest", none) 0)], []⟩
def d_least_total : He.DefD := ⟨("least_total", none), "least_total", "least_total", defArgs s_least_total, defBody s_least_total, defScope s_least_total, [.adr (He.dflAt ("least_total", none) 0)], []⟩
def d_are_free_cells : He.DefD := ⟨("are_free_cells", none), "are_free_cells", "are_free_cells", defArgs s_are_free_cells, defBody s_are_free_cells, defScope s_are_free_cells, [], []⟩
def d_written_price : He.DefD := ⟨("written_price", none), "written_price", "written_price", defArgs s_written_price, defBody s_written_price, defScope s_written_price, [.adr (He.dflAt ("written_price", none) 0)], []⟩
def d_law_draws : He.DefD := ⟨("_law_draws", none), "_law_draws", "_law_draws", defArgs s_law_draws, defBody s_law_draws, defScope s_law_draws, [], []⟩
def d_law_take : He.DefD := ⟨("_law_take", none), "_law_take", "_law_take", defArgs s_law_take, defBody s_law_take, defScope s_law_take, [], []⟩
def d_law_rows : He.DefD := ⟨("_law_rows", none), "_law_rows", "_law_rows", defArgs s_law_rows, defBody s_law_rows, defScope s_law_rows, [], []⟩
def d_law_at : He.DefD := ⟨("_law_at", none), "_law_at", "_law_at", defArgs s_law_at, defBody s_law_at, defScope s_law_at, [], []⟩
def d_law_is : He.DefD := ⟨("_law_is", none), "_law_is", "_law_is", defArgs s_law_is, defBody s_law_is, defScope s_law_is, [], []⟩
def d_law_amount : He.DefD := ⟨("_law_amount", none), "_law_amount", "_law_amount", defArgs s_law_amount, defBody s_law_amount, defScope s_law_amount, [], []⟩
def d_law_ties : He.DefD := ⟨("_law_ties", none), "_law_ties", "_law_ties", defArgs s_law_ties, defBody s_law_ties, defScope s_law_ties, [], []⟩
def d_law_made_book : He.DefD := ⟨("_law_made_book", none), "_law_made_book", "_law_made_book", defArgs s_law_made_book, defBody s_law_made_book, defScope s_law_made_book, [], []⟩
def d_law_total : He.DefD := ⟨("_law_total", none), "_law_total", "_law_total", defArgs s_law_total, defBody s_law_total, defScope s_law_total, [], []⟩
def d_law_keeps : He.DefD := ⟨("_law_keeps", none), "_law_keeps", "_law_keeps", defArgs s_law_keeps, defBody s_law_keeps, defScope s_law_keeps, [], []⟩
def d_law_totals : He.DefD := ⟨("_law_totals", none), "_law_totals", "_law_totals", defArgs s_law_totals, defBody s_law_totals, defScope s_law_totals, [], []⟩
def d_law_start : He.DefD := ⟨("_law_start", none), "_law_start", "_law_start", defArgs s_law_start, defBody s_law_start, defScope s_law_start, [], []⟩
def d_law_free : He.DefD := ⟨("_law_free", none), "_law_free", "_law_free", defArgs s_law_free, defBody s_law_free, defScope s_law_free, [], []⟩
def d_law_bent : He.DefD := ⟨("_law_bent", none), "_law_bent", "_law_bent", defArgs s_law_bent, defBody s_law_bent, defScope s_law_bent, [], []⟩
def d_law_kind_price : He.DefD := ⟨("_law_kind_price", none), "_law_kind_price", "_law_kind_price", defArgs s_law_kind_price, defBody s_law_kind_price, defScope s_law_kind_price, [], []⟩
def d_law : He.DefD := ⟨("law", none), "law", "law", defArgs s_law, defBody s_law, defScope s_law, [], []⟩
def d_Price_init : He.DefD := ⟨("Price", some "__init__"), "__init__", "Price.__init__", defArgs s_Price_init, defBody s_Price_init, defScope s_Price_init, [], []⟩
def d_Price_cost : He.DefD := ⟨("Price", some "cost"), "cost", "Price.cost", defArgs s_Price_cost, defBody s_Price_cost, defScope s_Price_cost, [], []⟩
def d_Book_init : He.DefD := ⟨("Book", some "__init__"), "__init__", "Book.__init__", defArgs s_Book_init, defBody s_Book_init, defScope s_Book_init, [], []⟩
def d_Book_len : He.DefD := ⟨("Book", some "__len__"), "__len__", "Book.__len__", defArgs s_Book_len, defBody s_Book_len, defScope s_Book_len, [], []⟩
def d_Puzzle_init : He.DefD := ⟨("Puzzle", some "__init__"), "__init__", "Puzzle.__init__", defArgs s_Puzzle_init, defBody s_Puzzle_init, defScope s_Puzzle_init, [], []⟩
def d_Maker_init : He.DefD := ⟨("Maker", some "__init__"), "__init__", "Maker.__init__", defArgs s_Maker_init, defBody s_Maker_init, defScope s_Maker_init, [], []⟩
def d_Maker_put_triple : He.DefD := ⟨("Maker", some "put_triple"), "put_triple", "Maker.put_triple", defArgs s_Maker_put_triple, defBody s_Maker_put_triple, defScope s_Maker_put_triple, [], []⟩
def d_Maker_put_pairs : He.DefD := ⟨("Maker", some "put_pairs"), "put_pairs", "Maker.put_pairs", defArgs s_Maker_put_pairs, defBody s_Maker_put_pairs, defScope s_Maker_put_pairs, [], []⟩
def d_Maker_put_singles : He.DefD := ⟨("Maker", some "put_singles"), "put_singles", "Maker.put_singles", defArgs s_Maker_put_singles, defBody s_Maker_put_singles, defScope s_Maker_put_singles, [], []⟩
def d_Maker_network : He.DefD := ⟨("Maker", some "network"), "network", "Maker.network", defArgs s_Maker_network, defBody s_Maker_network, defScope s_Maker_network, [], []⟩
def d_Flowing_init : He.DefD := ⟨("Flowing", some "__init__"), "__init__", "Flowing.__init__", defArgs s_Flowing_init, defBody s_Flowing_init, defScope s_Flowing_init, [], []⟩
def d_Flowing_room : He.DefD := ⟨("Flowing", some "room"), "room", "Flowing.room", defArgs s_Flowing_room, defBody s_Flowing_room, defScope s_Flowing_room, [], []⟩
def d_Flowing_walk : He.DefD := ⟨("Flowing", some "walk"), "walk", "Flowing.walk", defArgs s_Flowing_walk, defBody s_Flowing_walk, defScope s_Flowing_walk, [], []⟩
def d_Flowing_send : He.DefD := ⟨("Flowing", some "send"), "send", "Flowing.send", defArgs s_Flowing_send, defBody s_Flowing_send, defScope s_Flowing_send, [], []⟩
def d_Flowing_fill : He.DefD := ⟨("Flowing", some "fill"), "fill", "Flowing.fill", defArgs s_Flowing_fill, defBody s_Flowing_fill, defScope s_Flowing_fill, [], []⟩
def fn : List He.DefD := [d_is_below_prices, d_is_below_sides, d_is_integer, d_is_size, d_is_row, d_are_integers, d_number_of, d_are_prices, d_rows_of, d_and_of, d_or_of, d_has_one_more, d_shows_row, d_shows_pair, d_shown_by, d_fault_of, d_is_kind, d_free_kinds, d_fixed_kinds, d_are_cells, d_is_tie, d_is_filling, d_sum_of_ties, d_total_of, d_is_start, d_rows_with, d_all_cheapest, d_side, d_is_rising, d_is_member, d_is_sum, d_worth_at, d_sum_told, d_sum_of_price, d_letters_read, d_sum_of, d_pairs_of, d_is_bent, d_network_of, d_least_side, d_filled_with, d_bent_network, d_kind_for, d_filling_by_side, d_some_cheapest, d_least_total, d_are_free_cells, d_written_price, d_law_draws, d_law_take, d_law_rows, d_law_at, d_law_is, d_law_amount, d_law_ties, d_law_made_book, d_law_total, d_law_keeps, d_law_totals, d_law_start, d_law_free, d_law_bent, d_law_kind_price, d_law, d_Price_init, d_Price_cost, d_Book_init, d_Book_len, d_Puzzle_init, d_Maker_init, d_Maker_put_triple, d_Maker_put_pairs, d_Maker_put_singles, d_Maker_network, d_Flowing_init, d_Flowing_room, d_Flowing_walk, d_Flowing_send, d_Flowing_fill]
def fa : List He.Fa := [.glo "is_below_prices", .glo "is_below_sides", .glo "is_integer", .glo "is_size", .glo "is_row", .glo "are_integers", .glo "number_of", .glo "are_prices", .glo "rows_of", .glo "and_of", .glo "or_of", .glo "has_one_more", .glo "shows_row", .glo "shows_pair", .glo "shown_by", .glo "fault_of", .glo "is_kind", .glo "free_kinds", .glo "fixed_kinds", .glo "are_cells", .glo "is_tie", .glo "is_filling", .glo "sum_of_ties", .glo "total_of", .glo "is_start", .glo "rows_with", .glo "all_cheapest", .glo "side", .glo "is_rising", .glo "is_member", .glo "is_sum", .glo "worth_at", .glo "sum_told", .glo "sum_of_price", .glo "letters_read", .glo "sum_of", .glo "pairs_of", .glo "is_bent", .glo "network_of", .glo "least_side", .glo "filled_with", .glo "bent_network", .glo "kind_for", .glo "filling_by_side", .glo "some_cheapest", .glo "least_total", .glo "are_free_cells", .glo "written_price", .glo "_law_draws", .glo "_law_take", .glo "_law_rows", .glo "_law_at", .glo "_law_is", .glo "_law_amount", .glo "_law_ties", .glo "_law_made_book", .glo "_law_total", .glo "_law_keeps", .glo "_law_totals", .glo "_law_start", .glo "_law_free", .glo "_law_bent", .glo "_law_kind_price", .glo "law", .glo "Price", .cls "Price", .mkr "Price", .noat "Price" "size", .noat "Price" "amounts", .glo "Book", .cls "Book", .mkr "Book", .noat "Book" "prices", .noat "Book" "plain", .glo "Puzzle", .cls "Puzzle", .mkr "Puzzle", .noat "Puzzle" "book", .noat "Puzzle" "cell_count", .noat "Puzzle" "ties", .glo "Maker", .cls "Maker", .mkr "Maker", .noat "Maker" "base", .noat "Maker" "single", .noat "Maker" "pairs", .noat "Maker" "triples", .noat "Maker" "arcs", .glo "Flowing", .cls "Flowing", .mkr "Flowing", .noat "Flowing" "arcs", .noat "Flowing" "sent", .noat "Flowing" "ways", .meth "Price" "cost", .meth "Maker" "put_triple", .meth "Maker" "put_pairs", .meth "Maker" "put_singles", .meth "Maker" "network", .meth "Flowing" "room", .meth "Flowing" "walk", .meth "Flowing" "send", .meth "Flowing" "fill", .meth "Book" "__len__", .int "MOST_SIZE" 3, .int "MOST_PRICES" 6, .int "MOST_LETTERS" 3, .int "YES_END" 0, .int "NO_END" 1, .int "FIRST_LETTER" 2, .int "MOST_CELLS" 3, .glo "FREE_KINDS", .glo "FIXED_KINDS", .glo "KINDS", .glo "KIND_VALUES", .free "len", .free "range", .free "isinstance", .free "tuple", .free "list", .free "int", .free "bool", .free "dict", .free "set", .free "sorted", .free "zip", .free "enumerate", .free "sum", .free "min", .free "max", .free "any", .free "all", .free "abs", .free "repr"]
def kvs : List (Str × He.Dv) := [("all no", .int 0), ("rising", .int 0), ("all yes", .int 1), ("falling", .int 1)]
def ts : List He.Tab := [(fun K => He.ga K "KIND_VALUES", kvs.map (·.1))]
/-- what isinstance asks of an own class -/
def insB (K : PySem.W.Frag) (x : Str) : Bool := He.eqO (PySem.W.findIn K (.ref (He.ga K x)) "__class__") (some (some (.builtin "object.__class__"))) && He.eqO (PySem.W.specialIn K (.builtin "object.__class__") "__get__") (some (some (.builtin "getset_descriptor.__get__"))) &&
  decide (PySem.W.takesIn K (.builtin "object.__class__") = some true) && decide (PySem.W.mroIn K (He.ga K x) (.type "object") = some true) && decide (PySem.W.kitOne K (.ref (He.ga K x)) (.ref (He.ga K x)) = some true)
def ex (K : PySem.W.Frag) : Bool := He.tupB K "FREE_KINDS" [.str "all no", .str "all yes", .str "bent"] && He.tupB K "FIXED_KINDS" [.str "rising", .str "falling", .str "bent"] && He.tupB K "KINDS" [.str "all no", .str "all yes", .str "bent", .str "rising", .str "falling"] && He.valsB K (He.ga K "KIND_VALUES") kvs && insB K "Price" && insB K "Book"
def loose0 : List PySem.Str := [("_wall" : PySem.Str), ("PriceError" : PySem.Str), ("InvalidNumber" : PySem.Str), ("InvalidPrice" : PySem.Str), ("InvalidBook" : PySem.Str), ("InvalidPuzzle" : PySem.Str), ("InvalidStart" : PySem.Str), ("InvalidFilling" : PySem.Str), ("InvalidSum" : PySem.Str), ("InvalidCells" : PySem.Str), ("Undefined" : PySem.Str), ("MOST_SIZE" : PySem.Str), ("is_integer" : PySem.Str), ("is_below" : PySem.Str), ("is_below_prices" : PySem.Str), ("is_size" : PySem.Str), ("is_row" : PySem.Str), ("are_integers" : PySem.Str), ("all_rows" : PySem.Str), ("number_of" : PySem.Str), ("Price" : PySem.Str), ("MOST_PRICES" : PySem.Str), ("are_prices" : PySem.Str), ("Book" : PySem.Str), ("FREE_KINDS" : PySem.Str), ("FIXED_KINDS" : PySem.Str), ("KINDS" : PySem.Str), ("rows_of" : PySem.Str), ("and_of" : PySem.Str), ("or_of" : PySem.Str), ("has_one_more" : PySem.Str), ("shows_row" : PySem.Str), ("shows_pair" : PySem.Str), ("shown_by" : PySem.Str), ("fault_of" : PySem.Str)]
def loose1 : List PySem.Str := [("is_kind" : PySem.Str), ("free_kinds" : PySem.Str), ("fixed_kinds" : PySem.Str), ("are_cells" : PySem.Str), ("is_tie" : PySem.Str), ("Puzzle" : PySem.Str), ("is_filling" : PySem.Str), ("sum_of_ties" : PySem.Str), ("total_of" : PySem.Str), ("is_start" : PySem.Str), ("rows_with" : PySem.Str), ("all_cheapest" : PySem.Str), ("side" : PySem.Str), ("is_below_sides" : PySem.Str), ("MOST_LETTERS" : PySem.Str), ("is_rising" : PySem.Str), ("is_member" : PySem.Str), ("is_sum" : PySem.Str), ("worth_at" : PySem.Str), ("sum_told" : PySem.Str), ("sum_of_price" : PySem.Str), ("letters_read" : PySem.Str), ("sum_of" : PySem.Str), ("pairs_of" : PySem.Str), ("is_bent" : PySem.Str), ("YES_END" : PySem.Str), ("NO_END" : PySem.Str), ("FIRST_LETTER" : PySem.Str), ("Maker" : PySem.Str), ("network_of" : PySem.Str), ("Flowing" : PySem.Str), ("least_side" : PySem.Str), ("KIND_VALUES" : PySem.Str), ("filled_with" : PySem.Str), ("bent_network" : PySem.Str)]
def loose2 : List PySem.Str := [("kind_for" : PySem.Str), ("filling_by_side" : PySem.Str), ("some_cheapest" : PySem.Str), ("least_total" : PySem.Str), ("MOST_CELLS" : PySem.Str), ("are_free_cells" : PySem.Str), ("written_price" : PySem.Str), ("_law_draws" : PySem.Str), ("_law_take" : PySem.Str), ("_law_rows" : PySem.Str), ("_law_at" : PySem.Str), ("_law_is" : PySem.Str), ("_law_amount" : PySem.Str), ("_law_ties" : PySem.Str), ("_law_made_book" : PySem.Str), ("_law_total" : PySem.Str), ("_law_keeps" : PySem.Str), ("_law_totals" : PySem.Str), ("_law_start" : PySem.Str), ("_law_free" : PySem.Str), ("_law_bent" : PySem.Str), ("_law_kind_price" : PySem.Str)]
def loose : List PySem.Str := loose0 ++ loose1 ++ loose2
def as0 : List Nat := [3, 212, 211, 549, 548, 219, 218, 226, 225, 233, 232, 240, 239, 245, 244, 252, 251, 328, 327, 266, 265, 273, 272, 280, 279, 287, 286, 294, 293, 301, 300, 308, 307, 313, 312, 318, 317, 325, 324, 326, 329, 330, 339, 338, 368, 367, 351, 350, 358, 357, 365, 364, 366, 369, 370, 373, 374, 375, 380, 379]
def as1 : List Nat := [385, 384, 390, 389, 397, 396, 404, 403, 411, 410, 416, 415, 423, 422, 430, 429, 435, 434, 440, 439, 447, 446, 454, 453, 492, 491, 468, 467, 475, 474, 482, 481, 489, 488, 490, 493, 494, 503, 502, 508, 507, 515, 514, 522, 521, 527, 526, 534, 533, 529, 528, 542, 541, 535, 554, 553, 559, 558, 564, 563]
def as2 : List Nat := [569, 568, 574, 573, 579, 578, 586, 585, 593, 592, 588, 587, 598, 597, 603, 602, 646, 645, 615, 614, 622, 621, 629, 628, 636, 635, 643, 642, 644, 647, 648, 657, 656, 698, 697, 669, 668, 676, 675, 683, 682, 688, 687, 695, 694, 696, 699, 700, 707, 706, 708, 713, 712, 720, 719, 727, 726, 732, 731, 741]
def as3 : List Nat := [740, 734, 733, 750, 749, 743, 742, 755, 754, 764, 763, 757, 756, 769, 768, 776, 775, 783, 782, 790, 789, 795, 794, 802, 801, 807, 806, 812, 811, 817, 816, 822, 821, 829, 828, 836, 835, 841, 840, 846, 845, 851, 850, 856, 855]
def as : List Nat := as0 ++ as1 ++ as2 ++ as3
abbrev AlY : Type := He.AlT × Bool
def obsY (g : Addr → Option Obj) : AlY := (He.obsT fa fn ts (He.frG g as), ex (He.frG g as))
def valY (w : World) : AlY := (He.valT fn ts w, true)
def SaysY (w : World) (K : PySem.W.Frag) : Prop := He.SaysT fa fn ts w K ∧ ex K = true
def hk : PySem.W.Hook where
  α := AlY
  obs := fun s => obsY s.heap.get?
  val := fun w => valY w
  says := fun w h => ∃ K : PySem.W.Frag, K.In h ∧ SaysY w K
  of := fun _ _ e => ⟨_, He.frG_in, congrArg (fun z : AlY => z.1) e, congrArg (fun z : AlY => z.2) e⟩
  keeps := fun _ _ _ ⟨K, hK, c⟩ k => ⟨K, PySem.W.Frag.In.keeps hK k, c⟩
abbrev R : PySem.W.OpenRow := PySem.W.OpenLaw.row PySem.Challenge.rw_cutorall_k49_whole_kinds_kept_by_writing
def ob (s : PySem.W.SharedT) : AlY := obsY (HandSHeadRun.getT s)
theorem ob_eq (s : PySem.W.SharedT) : ob s = hk.obs s.abs := by
  have e : HandSHeadRun.getT s = s.abs.heap.get? := funext (HandSHeadRun.getT_eq s)
  unfold ob
  rw [e] <;> rfl
end Cut
end

section
set_option maxHeartbeats 0
namespace Cut
open PySem PySem.W PySem.Spec PyProof.Rows L2
theorem runT (w : World) : HandSHeadRun.RunEq R (PySem.W.view R.prog [106]) hk ob 6500 loose (w.withFollow "special-get-raises" true) := by
  intro os
  kernel_rfl
theorem runF (w : World) : HandSHeadRun.RunEq R (PySem.W.view R.prog [106]) hk ob 6500 loose (w.withFollow "special-get-raises" false) := by
  intro os
  kernel_rfl
theorem run (w : World) : HandSHeadRun.RunEq R (PySem.W.view R.prog [106]) hk ob 6500 loose w :=
  byRow2 "special-get-raises" (P := fun w => HandSHeadRun.RunEq R (PySem.W.view R.prog [106]) hk ob 6500 loose w) runF runT w
end Cut
end

section
set_option maxHeartbeats 4000000
namespace Cut
open PySem PySem.Spec PyProof.Rows L2

/-! ### heaps -/
abbrev Ex (H H' : Hp) : Prop := L2.Same H H'
def Tx (H H' : Hp) : Prop := ∀ a xs, H a = some (.tup xs) → H' a = some (.tup xs)
theorem Ex.rf (H : Hp) : Ex H H := Same.refl H
theorem Ex.tr {H H1 H2 : Hp} (a : Ex H H1) (b : Ex H1 H2) : Ex H H2 := Same.trans a b
theorem Ex.new {H : Hp} {p : Addr} {o : HO} (h : H p = none) : Ex H (upd H p o) := fun b x e => by
  rw [upd_ne (ne_of_none e h)]
  exact e
theorem Ex.mut {H H' : Hp} {p : Addr} {o : HO} (e : Ex H H') (h : H p = none) : Ex H (upd H' p o) := fun a u ha => by
  rw [upd_ne (ne_of_none ha h)]
  exact e a u ha
theorem Ex.back {H H' : Hp} {p : Addr} (e : Ex H H') (h : H' p = none) : H p = none := Same.free e h
theorem Tx.rf (H : Hp) : Tx H H := fun _ _ h => h
theorem Tx.tr {H H1 H2 : Hp} (a : Tx H H1) (b : Tx H1 H2) : Tx H H2 := fun x o h => b x o (a x o h)
theorem Ex.tx {H H' : Hp} (e : Ex H H') : Tx H H' := fun _ _ h => e _ _ h
/-- a write at what is no tuple -/
theorem Tx.mut {H : Hp} {p : Addr} {o u : HO} (h : H p = some u) (hu : ∀ xs, u ≠ .tup xs) : Tx H (upd H p o) := fun a xs ha => by
  have n : a ≠ p := fun z => by
    rw [z, h] at ha
    exact hu xs (Option.some.inj ha)
  rw [upd_ne n]
  exact ha
theorem Tx.new {H : Hp} {p : Addr} {o : HO} (h : H p = none) : Tx H (upd H p o) := (Ex.new h).tx
/-- tuples, instances and their dicts are kept -/
def Fz : HO → Prop
  | .tup _ => True
  | .ins _ _ _ => True
  | .own _ => True
  | .frz _ (.tup _) => True
  | _ => False
def Zx (H H' : Hp) : Prop := ∀ a o, Fz o → H a = some o → H' a = some o
theorem Zx.rf (H : Hp) : Zx H H := fun _ _ _ h => h
theorem Zx.tr {H H1 H2 : Hp} (a : Zx H H1) (b : Zx H1 H2) : Zx H H2 := fun x o f h => b x o f (a x o f h)
theorem Ex.zx {H H' : Hp} (e : Ex H H') : Zx H H' := fun _ _ _ h => e _ _ h
theorem Zx.tx {H H' : Hp} (e : Zx H H') : Tx H H' := fun _ _ h => e _ _ True.intro h
theorem Zx.mut {H : Hp} {p : Addr} {o u : HO} (h : H p = some u) (hu : ¬ Fz u) : Zx H (upd H p o) := fun a v f ha => by
  have n : a ≠ p := fun z => by
    rw [z, h] at ha
    cases ha
    exact hu f
  rw [upd_ne n]
  exact ha
/-- all but the object at l is kept -/
def But (l : Addr) (H H' : Hp) : Prop := ∀ a o, a ≠ l → H a = some o → H' a = some o
theorem But.rf (l : Addr) (H : Hp) : But l H H := fun _ _ _ h => h
theorem But.tr {l : Addr} {H H1 H2 : Hp} (a : But l H H1) (b : But l H1 H2) : But l H H2 := fun x o n h => b x o n (a x o n h)
theorem Ex.but {l : Addr} {H H' : Hp} (e : Ex H H') : But l H H' := fun a o _ h => e a o h
theorem But.mut {l : Addr} {H : Hp} {o : HO} : But l H (upd H l o) := fun a u n h => by
  rw [upd_ne n]
  exact h
theorem But.zx {l : Addr} {H H' : Hp} (e : But l H H') {u : HO} (h : H l = some u) (hu : ¬ Fz u) : Zx H H' := fun a v f ha => by
  have n : a ≠ l := fun z => by
    rw [z, h] at ha
    cases ha
    exact hu f
  exact e a v n ha
theorem But.tx {l : Addr} {H H' : Hp} (e : But l H H') {u : HO} (h : H l = some u) (hu : ∀ xs, u ≠ .tup xs) : Tx H H' := fun a xs ha => by
  have n : a ≠ l := fun z => by
    rw [z, h] at ha
    exact hu xs (Option.some.inj ha)
  exact e a _ n ha
/-- from before l stood -/
theorem But.ex {l : Addr} {H0 H H' : Hp} (a : Ex H0 H) (e : But l H H') (h : H0 l = none) : Ex H0 H' := fun b o hb => e b o (ne_of_none hb h) (a b o hb)

/-! ### what a value says -/
abbrev Rp := Hp → V → Prop
class Mo (r : Rp) : Prop where
  up : ∀ {H H' : Hp} {v : V}, Ex H H' → r H v → r H' v
class Im (r : Rp) : Prop where
  upT : ∀ {H H' : Hp} {v : V}, Tx H H' → r H v → r H' v
/-- .. where instances stand too -/
class Iz (r : Rp) : Prop where
  upZ : ∀ {H H' : Hp} {v : V}, Zx H H' → r H v → r H' v
instance (priority := 10) {r : Rp} [Im r] : Iz r := ⟨fun e h => Im.upT e.tx h⟩
instance (priority := 10) {r : Rp} [Iz r] : Mo r := ⟨fun e h => Iz.upZ e.zx h⟩
inductive Al {α : Type} (R : V → α → Prop) : List V → List α → Prop where
  | nil : Al R [] []
  | cons {v : V} {x : α} {vs : List V} {xs : List α} (h : R v x) (t : Al R vs xs) : Al R (v :: vs) (x :: xs)
theorem Al.len {α : Type} {R : V → α → Prop} : ∀ {vs : List V} {xs : List α}, Al R vs xs → vs.length = xs.length
  | _, _, .nil => rfl
  | _, _, .cons _ t => congrArg Nat.succ t.len
theorem Al.mono {α : Type} {R S : V → α → Prop} (f : ∀ v x, R v x → S v x) : ∀ {vs : List V} {xs : List α}, Al R vs xs → Al S vs xs
  | _, _, .nil => .nil
  | _, _, .cons h t => .cons (f _ _ h) (t.mono f)
theorem Al.get {α : Type} {R : V → α → Prop} : ∀ {vs : List V} {xs : List α} {i : Nat} {x : α}, Al R vs xs → xs[i]? = some x → ∃ v, vs[i]? = some v ∧ R v x
  | _, _, _, _, .nil, e => by simp at e
  | _, _, 0, _, .cons h _, e => by
    simp at e
    subst e
    exact ⟨_, rfl, h⟩
  | _, _, i + 1, x, .cons _ t, e => by
    obtain ⟨v, h1, h2⟩ := Al.get (i := i) (x := x) t (by simpa using e)
    exact ⟨v, by simpa using h1, h2⟩
theorem Al.app {α : Type} {R : V → α → Prop} : ∀ {vs us : List V} {xs ys : List α}, Al R vs xs → Al R us ys → Al R (vs ++ us) (xs ++ ys)
  | _, _, _, _, .nil, s => s
  | _, _, _, _, .cons h t, s => .cons h (t.app s)
theorem Al.snoc {α : Type} {R : V → α → Prop} {vs : List V} {xs : List α} {v : V} {x : α} (h : Al R vs xs) (k : R v x) : Al R (vs ++ [v]) (xs ++ [x]) := h.app (.cons k .nil)
theorem Al.take {α : Type} {R : V → α → Prop} : ∀ {vs : List V} {xs : List α} (n : Nat), Al R vs xs → Al R (vs.take n) (xs.take n)
  | _, _, 0, _ => .nil
  | _, _, _ + 1, .nil => .nil
  | _, _, n + 1, .cons h t => .cons h (t.take n)
theorem Al.drop {α : Type} {R : V → α → Prop} : ∀ {vs : List V} {xs : List α} (n : Nat), Al R vs xs → Al R (vs.drop n) (xs.drop n)
  | _, _, 0, r => r
  | _, _, _ + 1, .nil => .nil
  | _, _, n + 1, .cons _ t => t.drop n
theorem Al.set {α : Type} {R : V → α → Prop} {v : V} {x : α} (k : R v x) : ∀ {vs : List V} {xs : List α} (i : Nat), Al R vs xs → Al R (vs.set i v) (xs.set i x)
  | _, _, _, .nil => .nil
  | _, _, 0, .cons _ t => .cons k t
  | _, _, i + 1, .cons h t => .cons h (t.set k i)
theorem Al.map {α β : Type} {R : V → β → Prop} {f : α → β} : ∀ {vs : List V} {xs : List α}, Al (fun v x => R v (f x)) vs xs → Al R vs (xs.map f)
  | _, _, .nil => .nil
  | _, _, .cons h t => .cons h t.map
theorem Al.eraseIdx {α : Type} {R : V → α → Prop} : ∀ {vs : List V} {xs : List α} (i : Nat), Al R vs xs → Al R (vs.eraseIdx i) (xs.eraseIdx i)
  | _, _, _, .nil => .nil
  | _, _, 0, .cons _ t => t
  | _, _, i + 1, .cons h t => .cons h (t.eraseIdx i)
theorem Al.replicate {α : Type} {R : V → α → Prop} {v : V} {x : α} (h : R v x) : ∀ n : Nat, Al R (List.replicate n v) (List.replicate n x)
  | 0 => .nil
  | n + 1 => .cons h (Al.replicate h n)
theorem Al.all {α : Type} {R : V → α → Prop} (p : V → Bool) (hp : ∀ v x, R v x → p v = true) : ∀ {vs : List V} {xs : List α}, Al R vs xs → vs.all p = true
  | _, _, .nil => rfl
  | _, _, .cons h t => by
    rw [List.all_cons, hp _ _ h, t.all p hp] <;> rfl

def rI (i : Int) : Rp := fun _ v => v = .int i
def rB (b : Bool) : Rp := fun _ v => v = .bl b
def rS (s : Str) : Rp := fun _ v => v = .str s
def rN : Rp := fun _ v => v = .non
/-- a tuple, a list of alike things -/
def rTu {α : Type} (f : α → Rp) (xs : List α) : Rp := fun H v => ∃ a vs, v = .ref a ∧ H a = some (.tup vs) ∧ Al (fun w x => f x H w) vs xs
def rLi {α : Type} (f : α → Rp) (xs : List α) : Rp := fun H v => ∃ a vs, v = .ref a ∧ H a = some (.lst vs) ∧ Al (fun w x => f x H w) vs xs
def r2 (p q : Rp) : Rp := fun H v => ∃ a x y, v = .ref a ∧ H a = some (.tup [x, y]) ∧ p H x ∧ q H y
def r3 (p q r : Rp) : Rp := fun H v => ∃ a x y z, v = .ref a ∧ H a = some (.tup [x, y, z]) ∧ p H x ∧ q H y ∧ r H z
instance (i : Int) : Im (rI i) := ⟨fun _ h => h⟩
instance (b : Bool) : Im (rB b) := ⟨fun _ h => h⟩
instance (s : Str) : Im (rS s) := ⟨fun _ h => h⟩
instance : Im rN := ⟨fun _ h => h⟩
theorem Al.upT {α : Type} {f : α → Rp} [∀ x, Im (f x)] {H H' : Hp} (e : Tx H H') {vs : List V} {xs : List α} (h : Al (fun w x => f x H w) vs xs) : Al (fun w x => f x H' w) vs xs := Al.mono (R := fun w x => f x H w) (S := fun w x => f x H' w) (fun _ x h => (inferInstance : Im (f x)).upT e h) h
theorem Al.upZ {α : Type} {f : α → Rp} [∀ x, Iz (f x)] {H H' : Hp} (e : Zx H H') {vs : List V} {xs : List α} (h : Al (fun w x => f x H w) vs xs) : Al (fun w x => f x H' w) vs xs := Al.mono (R := fun w x => f x H w) (S := fun w x => f x H' w) (fun _ x h => (inferInstance : Iz (f x)).upZ e h) h
theorem Al.up {α : Type} {f : α → Rp} [∀ x, Mo (f x)] {H H' : Hp} (e : Ex H H') {vs : List V} {xs : List α} (h : Al (fun w x => f x H w) vs xs) : Al (fun w x => f x H' w) vs xs := Al.mono (R := fun w x => f x H w) (S := fun w x => f x H' w) (fun _ x h => (inferInstance : Mo (f x)).up e h) h
instance {α : Type} (f : α → Rp) (xs : List α) [∀ x, Im (f x)] : Im (rTu f xs) := ⟨fun e ⟨a, vs, h1, h2, h3⟩ => ⟨a, vs, h1, e _ _ h2, h3.upT e⟩⟩
instance {α : Type} (f : α → Rp) (xs : List α) [∀ x, Iz (f x)] : Iz (rTu f xs) := ⟨fun e ⟨a, vs, h1, h2, h3⟩ => ⟨a, vs, h1, e.tx _ _ h2, h3.upZ e⟩⟩
instance {α : Type} (f : α → Rp) (xs : List α) [∀ x, Mo (f x)] : Mo (rTu f xs) := ⟨fun e ⟨a, vs, h1, h2, h3⟩ => ⟨a, vs, h1, e _ _ h2, h3.up e⟩⟩
instance {α : Type} (f : α → Rp) (xs : List α) [∀ x, Mo (f x)] : Mo (rLi f xs) := ⟨fun e ⟨a, vs, h1, h2, h3⟩ => ⟨a, vs, h1, e _ _ h2, h3.up e⟩⟩
instance (p q : Rp) [Im p] [Im q] : Im (r2 p q) := ⟨fun e ⟨a, x, y, h1, h2, h3, h4⟩ => ⟨a, x, y, h1, e _ _ h2, Im.upT e h3, Im.upT e h4⟩⟩
instance (p q r : Rp) [Im p] [Im q] [Im r] : Im (r3 p q r) := ⟨fun e ⟨a, x, y, z, h1, h2, h3, h4, h5⟩ => ⟨a, x, y, z, h1, e _ _ h2, Im.upT e h3, Im.upT e h4, Im.upT e h5⟩⟩
abbrev rIs (ns : List Int) : Rp := rTu rI ns
theorem al_ints {H : Hp} : ∀ {vs : List V} {ns : List Int}, Al (fun w x => rI x H w) vs ns → vs = ns.map V.int
  | _, _, .nil => rfl
  | _, _, .cons h t => by
    have e : _ = V.int _ := h
    rw [e, al_ints t] <;> rfl
theorem ints_al {H : Hp} : ∀ ns : List Int, Al (fun w x => rI x H w) (ns.map V.int) ns
  | [] => .nil
  | n :: ns => .cons rfl (ints_al ns)
theorem al_bools {H : Hp} : ∀ {vs : List V} {ns : List Bool}, Al (fun w x => rB x H w) vs ns → vs = ns.map V.bl
  | _, _, .nil => rfl
  | _, _, .cons h t => by
    have e : _ = V.bl _ := h
    rw [e, al_bools t] <;> rfl
theorem rIs.of {H : Hp} {v : V} {ns : List Int} (h : rIs ns H v) : ∃ a, v = .ref a ∧ H a = some (.tup (ns.map V.int)) := by
  obtain ⟨a, vs, e, ha, al⟩ := h
  rw [al_ints al] at ha
  exact ⟨a, e, ha⟩
theorem rIs.mk {H : Hp} {a : Addr} {ns : List Int} (h : H a = some (.tup (ns.map V.int))) : rIs ns H (.ref a) := ⟨a, _, rfl, h, ints_al ns⟩
theorem sq_t {K : PySem.W.Frag} {H : Hp} {a : Addr} {xs : List V} (h : H a = some (.tup xs)) : SqT K H a xs := .inl (.inl h)
theorem sq_l {K : PySem.W.Frag} {H : Hp} {a : Addr} {xs : List V} (h : H a = some (.lst xs)) : SqL K H a xs := .inl (.inl h)
theorem sz {n : Nat} (h : n ≤ 1000000) : n ≤ sizeLine := Nat.le_trans h (by decide)
theorem szl {n : Nat} (h : n < 1000000) : n < sizeLine := Nat.lt_of_lt_of_le h (by decide)
theorem rTu.mk {α : Type} {f : α → Rp} {xs : List α} {H : Hp} {a : Addr} {vs : List V} (h : H a = some (.tup vs)) (al : Al (fun w x => f x H w) vs xs) : rTu f xs H (.ref a) := ⟨a, vs, rfl, h, al⟩
theorem rLi.mk {α : Type} {f : α → Rp} {xs : List α} {H : Hp} {a : Addr} {vs : List V} (h : H a = some (.lst vs)) (al : Al (fun w x => f x H w) vs xs) : rLi f xs H (.ref a) := ⟨a, vs, rfl, h, al⟩

/-! ### promises -/
/-- a pure def: R says what comes back, in a heap that keeps all -/
def PSp (pre : List V → Hp → Rp → Prop) : Sp := fun vs H Q _ => ∃ R, pre vs H R ∧ ∀ v H', Ex H H' → R H' v → Q v H'
/-- a def that makes nothing -/
def VSp (pre : List V → Hp → V → Prop) : Sp := fun vs H Q _ => ∃ v, pre vs H v ∧ Q v H

/-! ### a def that may be called by its name -/
structure Cal (P : Program) (w : World) (K : PySem.W.Frag) (mg : Str → Option Value) (base : Heap) (x : Str) (k : Nat) (ps : List Str) (sp : Sp) : Prop where
  ex : ∃ (f : Addr) (fd : FuncData), FnOk P w K mg base CX0 k f fd ps sp ∧ mg x = some (.ref f) ∧ PySem.W.keepIn K (.ref f) = true ∧ Binds K fd ps []
theorem Cal.mono {P : Program} {w : World} {K : PySem.W.Frag} {mg : Str → Option Value} {base : Heap} {x : Str} {j k : Nat} {ps : List Str} {sp : Sp} (c : Cal P w K mg base x j ps sp) (h : j ≤ k) : Cal P w K mg base x k ps sp := by
  obtain ⟨f, fd, F, m, kp, b⟩ := c.ex
  exact ⟨f, fd, F.mono h, m, kp, b⟩
theorem pe_cal {X : Cx} {x : Str} {k n : Nat} {ps : List Str} {sp : Sp} {p pos : Pos} {e : Expr} {es : List Expr} {t : TA} (c : Cal X.prog X.w X.K X.mg X.base x k ps sp) (hr : Room n X.A) (ha : PA X (e :: es) t) (hg : Gl X x := by rfl) (hk : k ≤ n := by decide)
    (hdb : (x == ("__debug__" : Str)) = false := by decide) (he : starEach (e :: es) X.env = (false, eval e X.env) :: starEach es X.env := by rfl) (hpl : (backTo pos (starEach es X.env)).any (·.1) = false := by rfl) :
    PE X (.Call (.Name x p) (e :: es) [] pos) (tCall sp [] E0 t) := by
  obtain ⟨f, fd, F, m, kp, b⟩ := c.ex
  exact pe_call F (hr.mono hk) hg m kp b .nil pass0 ha hdb he hpl
/-- a class whose __init__ is a def of the text -/
structure CalC (P : Program) (w : World) (K : PySem.W.Frag) (mg : Str → Option Value) (base : Heap) (x : Str) (C : Addr) (k : Nat) (ps : List Str) (sp : Sp) : Prop where
  ex : ∃ (f : Addr) (fd : FuncData), FnOk P w K mg base CX0 k f fd ps sp ∧ mg x = some (.ref C) ∧ Mk K C f ∧ Binds K fd ps []
theorem pe_calC {X : Cx} {x : Str} {C : Addr} {k n : Nat} {ps : List Str} {sp : Sp} {p pos : Pos} {e : Expr} {es : List Expr} {t : TA} (c : CalC X.prog X.w X.K X.mg X.base x C k ps sp) (hr : Room n X.A) (ha : PA X (e :: es) t) (hg : Gl X x := by rfl) (hk : k + 1 ≤ n := by decide)
    (hdb : (x == ("__debug__" : Str)) = false := by decide) (he : starEach (e :: es) X.env = (false, eval e X.env) :: starEach es X.env := by rfl) (hpl : (backTo pos (starEach es X.env)).any (·.1) = false := by rfl) :
    PE X (.Call (.Name x p) (e :: es) [] pos) (tMake C sp [] E0 t) := by
  obtain ⟨f, fd, F, m, M, b⟩ := c.ex
  exact pe_make M F (hr.mono hk) hg m b .nil pass0 ha hdb he hpl
/-- a method -/
structure CalM (P : Program) (w : World) (K : PySem.W.Frag) (mg : Str → Option Value) (base : Heap) (C : Addr) (m : Str) (k : Nat) (ps : List Str) (sp : Sp) : Prop where
  ex : ∃ (f : Addr) (fd : FuncData), FnOk P w K mg base CX0 k f fd ps sp ∧ Cls K C ∧ Meth K C m f ∧ Binds K fd ps []
end Cut
end

section
set_option maxHeartbeats 4000000
namespace Cut
open PySem PySem.Spec L2

/-- the source J gives xs while G stands -/
structure Wk {α : Type} (J : It) (G : Hp → Prop) (f : α → Rp) (xs : List α) : Prop where
  go : ∀ i H, i < xs.length → G H → J.go i H
  yld : ∀ i x H v H', xs[i]? = some x → G H → J.yld i H v H' → Ex H H' ∧ f x H' v
  stop : ∀ H, G H → J.stop xs.length H
theorem wk_tup {α : Type} {K : PySem.W.Frag} {a : Addr} {G : Hp → Prop} {f : α → Rp} {xs : List α} (h : ∀ H, G H → ∃ vs, SqT K H a vs ∧ Al (fun w x => f x H w) vs xs) : Wk (Itt K a) G f xs where
  go := fun i H hi g => by
    obtain ⟨vs, e, al⟩ := h H g
    obtain ⟨v, hv, _⟩ := al.get (List.getElem?_eq_getElem hi)
    exact ⟨vs, v, e, hv⟩
  yld := fun i x H v H' hx g ⟨e, y⟩ => by
    subst e
    obtain ⟨vs, e, al⟩ := h _ g
    obtain ⟨w, hw, r⟩ := al.get hx
    have q := y vs (e)
    rw [hw] at q
    cases q
    exact ⟨Ex.rf _, r⟩
  stop := fun H g => by
    obtain ⟨vs, e, al⟩ := h H g
    exact ⟨vs, e, by rw [al.len] <;> exact Nat.le_refl _⟩
theorem wk_lst {α : Type} {K : PySem.W.Frag} {a : Addr} {G : Hp → Prop} {f : α → Rp} {xs : List α} (h : ∀ H, G H → ∃ vs, SqL K H a vs ∧ Al (fun w x => f x H w) vs xs) : Wk (Itl K a) G f xs where
  go := fun i H hi g => by
    obtain ⟨vs, e, al⟩ := h H g
    obtain ⟨v, hv, _⟩ := al.get (List.getElem?_eq_getElem hi)
    exact ⟨vs, v, e, hv⟩
  yld := fun i x H v H' hx g ⟨e, y⟩ => by
    subst e
    obtain ⟨vs, e, al⟩ := h _ g
    obtain ⟨w, hw, r⟩ := al.get hx
    have q := y vs e
    rw [hw] at q
    cases q
    exact ⟨Ex.rf _, r⟩
  stop := fun H g => by
    obtain ⟨vs, e, al⟩ := h H g
    exact ⟨vs, e, by rw [al.len] <;> exact Nat.le_refl _⟩
theorem wk_rng {lo : Int} {n : Nat} {G : Hp → Prop} : Wk (Itr lo n) G (fun k : Nat => rI (lo + k)) (List.range n) where
  go := fun i H hi _ => by
    rw [List.length_range] at hi
    exact hi
  yld := fun i x H v H' hx _ ⟨e, y⟩ => by
    subst e
    have hi : i < n := by
      have q := (List.getElem?_eq_some_iff.mp hx).1
      rw [List.length_range] at q
      exact q
    rw [List.getElem?_range hi] at hx
    cases hx
    exact ⟨Ex.rf _, y⟩
  stop := fun H _ => by
    rw [List.length_range]
    exact Nat.le_refl _
theorem wk_rng0 {n : Nat} {G : Hp → Prop} : Wk (Itr 0 n) G (fun k : Nat => rI (k : Int)) (List.range n) where
  go := wk_rng.go
  yld := fun i x H v H' hx g y => by
    have q := wk_rng.yld i x H v H' hx g y
    refine ⟨q.1, ?_⟩
    have r : v = V.int (0 + (x : Int)) := q.2
    rw [Int.zero_add] at r
    exact r
  stop := wk_rng.stop
theorem Wk.mono {α : Type} {J : It} {G G' : Hp → Prop} {f : α → Rp} {xs : List α} (w : Wk J G f xs) (h : ∀ H, G' H → G H) : Wk J G' f xs :=
  ⟨fun i H hi g => w.go i H hi (h H g), fun i x H v H' hx g y => w.yld i x H v H' hx (h H g) y, fun H g => w.stop H (h H g)⟩

theorem gName_app (i : Nat) (v : V) (σ : St) (H : Hp) (Q : St → Hp → Prop) : gName i v σ H Q = Q (σ.set i (some v)) H := rfl
theorem gTup_app (K : PySem.W.Frag) (n : Nat) (t : TGs) (v : V) (σ : St) (H : Hp) (Q : St → Hp → Prop) : gTup K n t v σ H Q = ∃ a xs, v = .ref a ∧ SqT K H a xs ∧ xs.length = n ∧ t xs σ H Q := rfl
theorem gCons_app (t : TG) (u : TGs) (vs : List V) (σ : St) (H : Hp) (Q : St → Hp → Prop) : gCons t u vs σ H Q = ∃ v r, vs = v :: r ∧ t v σ H fun σ' H' => u r σ' H' Q := rfl
theorem gNil_app (vs : List V) (σ : St) (H : Hp) (Q : St → Hp → Prop) : gNil vs σ H Q = (vs = [] ∧ Q σ H) := rfl
theorem gSub_app (to ti : TE) (t : TSet) (v : V) (σ : St) (H : Hp) (Q : St → Hp → Prop) : gSub to ti t v σ H Q = to σ H fun o H1 => ti σ H1 fun i H2 => t o i v H2 fun H3 => Q σ H3 := rfl
/-- a for over what J gives -/
def ForL (J : It) (g : TG) (tb : TS) (D : Ends) (σ : St) (H : Hp) : Prop := ∃ W : Nat → Nat → St → Hp → Prop, (∃ m, W 0 m σ H) ∧ ∀ i m σ H, W i m σ H →
  (J.stop i H ∧ D.nx σ H) ∨ (J.go i H ∧ ∃ N : St → Hp → Prop, (∀ σ' H', N σ' H' → ∃ m', m' < m ∧ W (i + 1) m' σ' H') ∧ ∀ x H', J.yld i H x H' → g x σ H' fun σ2 H2 => tb { D with nx := N, ct := N, bk := D.nx } σ2 H2)
theorem tFor_eq (wi : TI) (g : TG) (tb : TS) : tFor wi g tb = fun D σ H => wi σ H fun J H1 => ForL J g tb D σ H1 := rfl
/-- a comprehension over what J gives -/
def LcL (J : It) (g : TG) (tt : TT) (te : TE) (vs : List Nat) (σ : St) (H1 : Hp) (Q : VK) : Prop := ∀ D, H1 D = none → ∃ W : Nat → Nat → Hp → Prop, (∃ m, W 0 m (upd H1 D (.lst []))) ∧ ∀ i m H, W i m H →
  (J.stop i H ∧ Q (.ref D) H) ∨ (J.go i H ∧ ∃ Nx : Hp → Prop, (∀ H', Nx H' → ∃ m', m' < m ∧ W (i + 1) m' H') ∧ ∀ x H', J.yld i H x H' → g x (wipe σ vs) H' fun σ2 H2 => wipe σ2 vs = wipe σ vs ∧ tt σ2 H2 fun b H3 =>
    if b = true then te σ2 H3 fun y H4 => ∃ acc, H4 D = some (.lst acc) ∧ acc.length < sizeLine ∧ Nx (upd H4 D (.lst (acc ++ [y]))) else Nx H3)
theorem tLc_eq (wi : TI) (g : TG) (tt : TT) (te : TE) (vs : List Nat) : tLc wi g tt te vs = fun σ H Q => wi σ H fun J H1 => LcL J g tt te vs σ H1 Q := rfl
def Lc2L (J : It) (g : TG) (tt : TT) (wi1 : TI) (g1 : TG) (tt1 : TT) (te : TE) (vs vs1 : List Nat) (σ : St) (H1 : Hp) (Q : VK) : Prop := ∀ D, H1 D = none → ∃ W : Nat → Nat → Hp → Prop, (∃ m, W 0 m (upd H1 D (.lst []))) ∧ ∀ i m H, W i m H →
  (J.stop i H ∧ Q (.ref D) H) ∨ (J.go i H ∧ ∃ Nx : Hp → Prop, (∀ H', Nx H' → ∃ m', m' < m ∧ W (i + 1) m' H') ∧ ∀ x H', J.yld i H x H' → g x (wipe σ vs) H' fun σ2 H2 => wipe σ2 vs = wipe σ vs ∧ tt σ2 H2 fun b H3 =>
    if b = true then wi1 σ2 H3 fun J1 H4 => ∃ W1 : Nat → Nat → Hp → Prop, (∃ m, W1 0 m H4) ∧ ∀ j k H, W1 j k H →
      (J1.stop j H ∧ Nx H) ∨ (J1.go j H ∧ ∃ Nx1 : Hp → Prop, (∀ H', Nx1 H' → ∃ k', k' < k ∧ W1 (j + 1) k' H') ∧ ∀ x H', J1.yld j H x H' → g1 x (wipe σ2 vs1) H' fun σ3 H5 => wipe σ3 vs1 = wipe σ2 vs1 ∧ tt1 σ3 H5 fun b H6 =>
        if b = true then te σ3 H6 fun y H7 => ∃ acc, H7 D = some (.lst acc) ∧ acc.length < sizeLine ∧ Nx1 (upd H7 D (.lst (acc ++ [y]))) else Nx1 H6)
    else Nx H3)
theorem tLc2_eq (wi : TI) (g : TG) (tt : TT) (wi1 : TI) (g1 : TG) (tt1 : TT) (te : TE) (vs vs1 : List Nat) : tLc2 wi g tt wi1 g1 tt1 te vs vs1 = fun σ H Q => wi σ H fun J H1 => Lc2L J g tt wi1 g1 tt1 te vs vs1 σ H1 Q := rfl

theorem for_gen {α : Type} {J : It} {G : Hp → Prop} {f : α → Rp} {xs : List α} (wk : Wk J G f xs) {g : TG} {tb : TS} {D : Ends} {σ : St} {H : Hp} (Pv : Nat → St → Hp → Prop) (h0 : Pv 0 σ H) (hG : ∀ i σ H, i ≤ xs.length → Pv i σ H → G H)
    (hs : ∀ i x v σ H H', xs[i]? = some x → Pv i σ H → Ex H H' → f x H' v → g v σ H' fun σ2 H2 => tb { D with nx := Pv (i + 1), ct := Pv (i + 1), bk := D.nx } σ2 H2) (hd : ∀ σ H, Pv xs.length σ H → D.nx σ H) :
    ForL J g tb D σ H := by
  refine ⟨fun i m σ H => m = xs.length - i ∧ i ≤ xs.length ∧ Pv i σ H, ⟨xs.length, by simp, Nat.zero_le _, h0⟩, ?_⟩
  rintro i m σ H ⟨rfl, hi, p⟩
  by_cases hlt : i < xs.length
  · refine .inr ⟨wk.go i H hlt (hG i σ H hi p), Pv (i + 1), fun σ' H' p' => ⟨xs.length - (i + 1), by omega, rfl, hlt, p'⟩, fun v H' y => ?_⟩
    obtain ⟨e, r⟩ := wk.yld i _ H v H' (List.getElem?_eq_getElem hlt) (hG i σ H hi p) y
    exact hs i _ v σ H H' (List.getElem?_eq_getElem hlt) p e r
  · have e : i = xs.length := by omega
    subst e
    exact .inl ⟨wk.stop H (hG _ σ H hi p), hd σ H p⟩

theorem yes_run {σ : St} {H : Hp} {A B : Hp → Prop} (h : A H) : tYes σ H fun b H3 => if b = true then A H3 else B H3 := iteT (A := A H) (B := B H) h
/-- a source that makes nothing -/
structure WkS {α : Type} (J : It) (G : Hp → Prop) (f : α → Rp) (xs : List α) : Prop where
  go : ∀ i H, i < xs.length → G H → J.go i H
  yld : ∀ i x H v H', xs[i]? = some x → G H → J.yld i H v H' → H' = H ∧ f x H v
  stop : ∀ H, G H → J.stop xs.length H
theorem WkS.wk {α : Type} {J : It} {G : Hp → Prop} {f : α → Rp} {xs : List α} (w : WkS J G f xs) : Wk J G f xs :=
  ⟨w.go, fun i x H v H' hx g y => by
    obtain ⟨e, r⟩ := w.yld i x H v H' hx g y
    subst e
    exact ⟨Ex.rf _, r⟩, w.stop⟩
theorem ws_tup {α : Type} {K : PySem.W.Frag} {a : Addr} {G : Hp → Prop} {f : α → Rp} {xs : List α} (h : ∀ H, G H → ∃ vs, SqT K H a vs ∧ Al (fun w x => f x H w) vs xs) : WkS (Itt K a) G f xs where
  go := fun i H hi g => by
    obtain ⟨vs, e, al⟩ := h H g
    obtain ⟨v, hv, _⟩ := al.get (List.getElem?_eq_getElem hi)
    exact ⟨vs, v, e, hv⟩
  yld := fun i x H v H' hx g ⟨e, y⟩ => by
    subst e
    obtain ⟨vs, e, al⟩ := h _ g
    obtain ⟨w, hw, r⟩ := al.get hx
    have q := y vs e
    rw [hw] at q
    cases q
    exact ⟨rfl, r⟩
  stop := fun H g => by
    obtain ⟨vs, e, al⟩ := h H g
    exact ⟨vs, e, by rw [al.len] <;> exact Nat.le_refl _⟩
theorem ws_lst {α : Type} {K : PySem.W.Frag} {a : Addr} {G : Hp → Prop} {f : α → Rp} {xs : List α} (h : ∀ H, G H → ∃ vs, SqL K H a vs ∧ Al (fun w x => f x H w) vs xs) : WkS (Itl K a) G f xs where
  go := fun i H hi g => by
    obtain ⟨vs, e, al⟩ := h H g
    obtain ⟨v, hv, _⟩ := al.get (List.getElem?_eq_getElem hi)
    exact ⟨vs, v, e, hv⟩
  yld := fun i x H v H' hx g ⟨e, y⟩ => by
    subst e
    obtain ⟨vs, e, al⟩ := h _ g
    obtain ⟨w, hw, r⟩ := al.get hx
    have q := y vs e
    rw [hw] at q
    cases q
    exact ⟨rfl, r⟩
  stop := fun H g => by
    obtain ⟨vs, e, al⟩ := h H g
    exact ⟨vs, e, by rw [al.len] <;> exact Nat.le_refl _⟩
theorem ws_rng0 {n : Nat} {G : Hp → Prop} : WkS (Itr 0 n) G (fun k : Nat => rI (k : Int)) (List.range n) where
  go := wk_rng.go
  yld := fun i x H v H' hx g y => by
    obtain ⟨e, y⟩ := y
    subst e
    have q := (wk_rng (lo := 0) (n := n) (G := G)).yld i x _ v _ hx g ⟨rfl, y⟩
    refine ⟨rfl, ?_⟩
    have r : v = V.int (0 + (x : Int)) := q.2
    rw [Int.zero_add] at r
    exact r
  stop := wk_rng.stop
theorem ws_rng {lo : Int} {n : Nat} {G : Hp → Prop} : WkS (Itr lo n) G (fun k : Nat => rI (lo + (k : Int))) (List.range n) where
  go := wk_rng.go
  yld := fun i x H v H' hx g y => by
    obtain ⟨e, y⟩ := y
    subst e
    exact ⟨rfl, ((wk_rng (lo := lo) (n := n) (G := G)).yld i x _ v _ hx g ⟨rfl, y⟩).2⟩
  stop := wk_rng.stop
theorem for_s {α : Type} {J : It} {G : Hp → Prop} {f : α → Rp} {xs : List α} (wk : WkS J G f xs) {g : TG} {tb : TS} {D : Ends} {σ : St} {H : Hp} (Pv : Nat → St → Hp → Prop) (h0 : Pv 0 σ H) (hG : ∀ i σ H, i ≤ xs.length → Pv i σ H → G H)
    (hs : ∀ i x v σ H, xs[i]? = some x → Pv i σ H → f x H v → g v σ H fun σ2 H2 => tb { D with nx := Pv (i + 1), ct := Pv (i + 1), bk := D.nx } σ2 H2) (hd : ∀ σ H, Pv xs.length σ H → D.nx σ H) :
    ForL J g tb D σ H := by
  refine ⟨fun i m σ H => m = xs.length - i ∧ i ≤ xs.length ∧ Pv i σ H, ⟨xs.length, by simp, Nat.zero_le _, h0⟩, ?_⟩
  rintro i m σ H ⟨rfl, hi, p⟩
  by_cases hlt : i < xs.length
  · refine .inr ⟨wk.go i H hlt (hG i σ H hi p), Pv (i + 1), fun σ' H' p' => ⟨xs.length - (i + 1), by omega, rfl, hlt, p'⟩, fun v H' y => ?_⟩
    obtain ⟨e, r⟩ := wk.yld i _ H v H' (List.getElem?_eq_getElem hlt) (hG i σ H hi p) y
    subst e
    exact hs i _ v σ _ (List.getElem?_eq_getElem hlt) p r
  · have e : i = xs.length := by omega
    subst e
    exact .inl ⟨wk.stop H (hG _ σ H hi p), hd σ H p⟩
theorem for_seq {α : Type} {K : PySem.W.Frag} {a : Addr} {G : Hp → Prop} {f : α → Rp} {xs : List α} (hl : (∀ H, G H → ∃ vs, SqL K H a vs ∧ Al (fun w x => f x H w) vs xs) ∨ (∀ H, G H → ∃ vs, SqT K H a vs ∧ Al (fun w x => f x H w) vs xs))
    {g : TG} {tb : TS} {D : Ends} {σ : St} {H : Hp} (Pv : Nat → St → Hp → Prop) (h0 : Pv 0 σ H) (hG : ∀ i σ H, i ≤ xs.length → Pv i σ H → G H)
    (hs : ∀ i x v σ H, xs[i]? = some x → Pv i σ H → f x H v → g v σ H fun σ2 H2 => tb { D with nx := Pv (i + 1), ct := Pv (i + 1), bk := D.nx } σ2 H2) (hd : ∀ σ H, Pv xs.length σ H → D.nx σ H) :
    ((∃ xs, SqL K H a xs) ∧ ForL (Itl K a) g tb D σ H) ∨ ((∃ xs, SqT K H a xs) ∧ ForL (Itt K a) g tb D σ H) := by
  have g0 := hG 0 σ H (Nat.zero_le _) h0
  rcases hl with h | h
  · obtain ⟨vs, e, _⟩ := h H g0
    exact .inl ⟨⟨vs, e⟩, for_s (ws_lst h) Pv h0 hG hs hd⟩
  · obtain ⟨vs, e, _⟩ := h H g0
    exact .inr ⟨⟨vs, e⟩, for_s (ws_tup h) Pv h0 hG hs hd⟩
/-- what has been kept of the first i -/
theorem filterMap_take {α β : Type} (F : α → Option β) {xs : List α} {i : Nat} {x : α} (h : xs[i]? = some x) : (xs.take (i + 1)).filterMap F = (xs.take i).filterMap F ++ (match F x with | some z => [z] | none => []) := by
  rw [List.take_add_one, h, List.filterMap_append]
  congr 1
  show List.filterMap F [x] = _
  rw [List.filterMap_cons]
  cases F x <;> rfl
/-- a comprehension of one clause: F x = none where the test fails -/
theorem lc_gen {α β : Type} {J : It} {f : α → Rp} {xs : List α} {rb : β → Rp} [∀ y, Iz (rb y)] {H1 : Hp} {F : α → Option β} (wk : Wk J (fun H => Ex H1 H) f xs) (hz : xs.length ≤ 100000) {g : TG} {tt : TT} {te : TE} {vs : List Nat} {σ : St} {Q : VK}
    (turn : ∀ (i : Nat) (x : α) (v : V) (H' : Hp) (K1 : VK) (K2 : Hp → Prop), xs[i]? = some x → Ex H1 H' → f x H' v → (∀ z y H4, F x = some z → Ex H' H4 → rb z H4 y → K1 y H4) → (∀ H4, F x = none → Ex H' H4 → K2 H4) →
      g v (wipe σ vs) H' fun σ2 H2 => wipe σ2 vs = wipe σ vs ∧ tt σ2 H2 fun b H3 => if b = true then te σ2 H3 K1 else K2 H3)
    (done : ∀ (p : Addr) (H' : Hp), H1 p = none → Ex H1 H' → rLi rb (xs.filterMap F) H' (.ref p) → Q (.ref p) H') :
    LcL J g tt te vs σ H1 Q := by
  intro D hD
  let Pv : Nat → Hp → Prop := fun i H => Ex H1 H ∧ ∃ acc, H D = some (.lst acc) ∧ Al (fun w x => rb x H w) acc ((xs.take i).filterMap F)
  refine ⟨fun i m H => m = xs.length - i ∧ i ≤ xs.length ∧ Pv i H, ⟨xs.length, by simp, Nat.zero_le _, Ex.new hD, [], upd_same, by simpa using Al.nil⟩, ?_⟩
  rintro i m H ⟨rfl, hi, e, acc, hacc, al⟩
  by_cases hlt : i < xs.length
  · refine .inr ⟨wk.go i H hlt e, fun H' => Pv (i + 1) H', fun H' p' => ⟨xs.length - (i + 1), by omega, rfl, hlt, p'⟩, fun v H' y => ?_⟩
    have hx := List.getElem?_eq_getElem hlt
    obtain ⟨e1, r⟩ := wk.yld i _ H v H' hx e y
    refine turn i _ v H' _ _ hx (e.tr e1) r (fun z y H4 hF e4 hz2 => ?_) (fun H4 hF e4 => ?_)
    · have h4 : H4 D = some (.lst acc) := e4 _ _ (e1 _ _ hacc)
      have hl : acc.length ≤ 100000 := by
        rw [al.len]
        exact Nat.le_trans (List.length_filterMap_le _ _) (Nat.le_trans (List.length_take_le _ _) (by omega))
      refine ⟨acc, h4, szl (by omega), ((e.tr e1).tr e4).mut hD, acc ++ [y], upd_same, ?_⟩
      have tx : Zx H4 (upd H4 D (.lst (acc ++ [y]))) := Zx.mut h4 (fun q => q)
      rw [filterMap_take F hx, hF]
      exact ((al.upZ (e1.tr e4).zx).snoc hz2).upZ tx
    · refine ⟨(e.tr e1).tr e4, acc, e4 _ _ (e1 _ _ hacc), ?_⟩
      rw [filterMap_take F hx, hF, List.append_nil]
      exact al.upZ (e1.tr e4).zx
  · have ei : i = xs.length := by omega
    subst ei
    refine .inl ⟨wk.stop H e, done D H hD e ?_⟩
    rw [List.take_length] at al
    exact rLi.mk hacc al
theorem filterMap_some {α β : Type} (F : α → β) (xs : List α) : xs.filterMap (fun x => some (F x)) = xs.map F := by
  induction xs with
  | nil => rfl
  | cons x r ih => rw [List.filterMap_cons, List.map_cons, ih]
/-- .. without a test -/
theorem lc_map {α β : Type} {J : It} {f : α → Rp} {xs : List α} {rb : β → Rp} [∀ y, Iz (rb y)] {H1 : Hp} {F : α → β} (wk : Wk J (fun H => Ex H1 H) f xs) (hz : xs.length ≤ 100000) {g : TG} {te : TE} {vs : List Nat} {σ : St} {Q : VK}
    (turn : ∀ (i : Nat) (x : α) (v : V) (H' : Hp) (K1 : VK), xs[i]? = some x → Ex H1 H' → f x H' v → (∀ y H4, Ex H' H4 → rb (F x) H4 y → K1 y H4) →
      g v (wipe σ vs) H' fun σ2 H2 => wipe σ2 vs = wipe σ vs ∧ te σ2 H2 K1)
    (done : ∀ (p : Addr) (H' : Hp), H1 p = none → Ex H1 H' → rLi rb (xs.map F) H' (.ref p) → Q (.ref p) H')
    (gm : ∀ (v : V) (σ : St) (H : Hp) (A B : St → Hp → Prop), (∀ s h, A s h → B s h) → g v σ H A → g v σ H B) :
    LcL J g tYes te vs σ H1 Q := by
  refine lc_gen (F := fun x => some (F x)) (rb := rb) wk hz (fun i x v H' K1 K2 hx e r h1 _ => ?_) (fun p H' hp e r => ?_)
  · refine gm _ _ _ _ _ (fun s h q => ⟨q.1, ?_⟩) (turn i x v H' K1 hx e r fun y H4 e4 hy => h1 (F x) y H4 rfl e4 hy)
    exact yes_run q.2
  · rw [filterMap_some] at r
    exact done p H' hp e r
/-- .. whose target is one name -/
theorem lc_mapN {α β : Type} {J : It} {f : α → Rp} {xs : List α} {rb : β → Rp} [∀ y, Iz (rb y)] {H1 : Hp} {F : α → β} {j : Nat} (wk : Wk J (fun H => Ex H1 H) f xs) (hz : xs.length ≤ 100000) {te : TE} {vs : List Nat} {σ : St} {Q : VK}
    (hw : ∀ x : V, wipe ((wipe σ vs).set j (some x)) vs = wipe σ vs)
    (turn : ∀ (i : Nat) (x : α) (v : V) (H' : Hp) (K1 : VK), xs[i]? = some x → Ex H1 H' → f x H' v → (∀ y H4, Ex H' H4 → rb (F x) H4 y → K1 y H4) → te ((wipe σ vs).set j (some v)) H' K1)
    (done : ∀ (p : Addr) (H' : Hp), H1 p = none → Ex H1 H' → rLi rb (xs.map F) H' (.ref p) → Q (.ref p) H') :
    LcL J (gName j) tYes te vs σ H1 Q :=
  lc_map wk hz (fun i x v H' K1 hx e r h => ⟨hw v, turn i x v H' K1 hx e r h⟩) done (fun _ _ _ _ _ h q => h _ _ q)
theorem flat_take {α β : Type} (F : α → List β) {xs : List α} {i : Nat} {x : α} (h : xs[i]? = some x) : (xs.take (i + 1)).flatMap F = (xs.take i).flatMap F ++ F x := by
  rw [List.take_add_one, h, List.flatMap_append]
  congr 1
  show List.flatMap F [x] = _
  rw [List.flatMap_cons, List.flatMap_nil, List.append_nil]
/-- what the second clause does for x, from the slots σ2, over J1 -/
def In2 {β γ : Type} (D : Addr) (vs1 : List Nat) (g1 : TG) (te : TE) (rb : γ → Rp) (f1 : β → Rp) (ys : List β) (F : β → γ) (σ2 : St) (J1 : It) (H4 : Hp) : Prop :=
  Wk J1 (fun H => But D H4 H ∧ Zx H4 H) f1 ys ∧ ∀ (j : Nat) (y : β) (u : V) (H5 : Hp) (K1 : VK), ys[j]? = some y → But D H4 H5 → Zx H4 H5 → f1 y H5 u → (∀ z H7, Ex H5 H7 → rb (F y) H7 z → K1 z H7) →
    g1 u (wipe σ2 vs1) H5 fun σ3 H6 => wipe σ3 vs1 = wipe σ2 vs1 ∧ te σ3 H6 K1
theorem lc2_gen {α β γ : Type} {J : It} {f : α → Rp} {xs : List α} {rb : γ → Rp} [∀ y, Iz (rb y)] {H1 : Hp} {f1 : α → β → Rp} {ys : α → List β} {F : α → β → γ} (wk : Wk J (fun H => Ex H1 H) f xs) (hz : (xs.flatMap fun x => (ys x).map (F x)).length ≤ 100000)
    {g g1 : TG} {te : TE} {wi1 : TI} {vs vs1 : List Nat} {σ : St} {Q : VK}
    (turn : ∀ (i : Nat) (x : α) (v : V) (H' : Hp) (Qi : St → It → Hp → Prop) (D : Addr) (acc : List V), H' D = some (.lst acc) → xs[i]? = some x → Ex H1 H' → f x H' v → (∀ σ2 J1 H4, Ex H' H4 → In2 D vs1 g1 te rb (f1 x) (ys x) (F x) σ2 J1 H4 → Qi σ2 J1 H4) →
      g v (wipe σ vs) H' fun σ2 H2 => wipe σ2 vs = wipe σ vs ∧ wi1 σ2 H2 (Qi σ2))
    (done : ∀ (p : Addr) (H' : Hp), H1 p = none → Ex H1 H' → rLi rb (xs.flatMap fun x => (ys x).map (F x)) H' (.ref p) → Q (.ref p) H')
    (gm : ∀ (v : V) (σ : St) (H : Hp) (A B : St → Hp → Prop), (∀ s h, A s h → B s h) → g v σ H A → g v σ H B) (gm1 : ∀ (v : V) (σ : St) (H : Hp) (A B : St → Hp → Prop), (∀ s h, A s h → B s h) → g1 v σ H A → g1 v σ H B) :
    Lc2L J g tYes wi1 g1 tYes te vs vs1 σ H1 Q := by
  intro D hD
  let Pv : Nat → Hp → Prop := fun i H => Ex H1 H ∧ ∃ acc, H D = some (.lst acc) ∧ Al (fun w x => rb x H w) acc ((xs.take i).flatMap fun x => (ys x).map (F x))
  refine ⟨fun i m H => m = xs.length - i ∧ i ≤ xs.length ∧ Pv i H, ⟨xs.length, by simp, Nat.zero_le _, Ex.new hD, [], upd_same, by simpa using Al.nil⟩, ?_⟩
  rintro i m H ⟨rfl, hi, e, acc, hacc, al⟩
  by_cases hlt : i < xs.length
  · refine .inr ⟨wk.go i H hlt e, fun H' => Pv (i + 1) H', fun H' p' => ⟨xs.length - (i + 1), by omega, rfl, hlt, p'⟩, fun v H' y => ?_⟩
    have hx := List.getElem?_eq_getElem hlt
    obtain ⟨e1, r⟩ := wk.yld i _ H v H' hx e y
    have bound : ∀ n, ((xs.take i).flatMap fun x => (ys x).map (F x)).length + (((ys xs[i]).take n).map (F xs[i])).length ≤ 100000 := fun n => by
      have h1 : ((xs.take (i + 1)).flatMap fun x => (ys x).map (F x)).length ≤ (xs.flatMap fun x => (ys x).map (F x)).length := by
        have h2 : xs = xs.take (i + 1) ++ xs.drop (i + 1) := (List.take_append_drop _ _).symm
        have h3 : (xs.flatMap fun x => (ys x).map (F x)) = ((xs.take (i + 1)).flatMap fun x => (ys x).map (F x)) ++ ((xs.drop (i + 1)).flatMap fun x => (ys x).map (F x)) := by
          rw [← List.flatMap_append, ← h2]
        rw [h3, List.length_append]
        exact Nat.le_add_right _ _
      rw [flat_take _ hx, List.length_append, List.length_map] at h1
      rw [List.length_map]
      have h4 := List.length_take_le n (ys xs[i])
      have h5 : ((ys xs[i]).take n).length ≤ (ys xs[i]).length := by
        rw [List.length_take]
        exact Nat.min_le_right _ _
      omega
    refine gm _ _ _ _ _ (fun s h q => ⟨q.1, ?_⟩) (turn i _ v H' (fun σ2 J1 H4 => ∃ W1 : Nat → Nat → Hp → Prop, (∃ m, W1 0 m H4) ∧ ∀ j k H, W1 j k H →
          (J1.stop j H ∧ Pv (i + 1) H) ∨ (J1.go j H ∧ ∃ Nx1 : Hp → Prop, (∀ H', Nx1 H' → ∃ k', k' < k ∧ W1 (j + 1) k' H') ∧ ∀ x H', J1.yld j H x H' → g1 x (wipe σ2 vs1) H' fun σ3 H5 => wipe σ3 vs1 = wipe σ2 vs1 ∧ tYes σ3 H5 fun b H6 =>
            if b = true then te σ3 H6 fun y H7 => ∃ acc, H7 D = some (.lst acc) ∧ acc.length < sizeLine ∧ Nx1 (upd H7 D (.lst (acc ++ [y]))) else Nx1 H6)) D acc (e1 _ _ hacc) hx (e.tr e1) r fun σ2 J1 H4 e4 I2 => ?_)
    · exact yes_run q.2
    · obtain ⟨wk1, step⟩ := I2
      let P1 : Nat → Hp → Prop := fun j H => Ex H1 H ∧ But D H4 H ∧ Zx H4 H ∧ ∃ acc, H D = some (.lst acc) ∧ Al (fun w x => rb x H w) acc (((xs.take i).flatMap fun x => (ys x).map (F x)) ++ ((ys xs[i]).take j).map (F xs[i]))
      refine ⟨fun j m H => m = (ys xs[i]).length - j ∧ j ≤ (ys xs[i]).length ∧ P1 j H, ⟨(ys xs[i]).length, by simp, Nat.zero_le _, (e.tr e1).tr e4, But.rf _ _, Zx.rf _, acc, e4 _ _ (e1 _ _ hacc), by simpa using al.upZ (e1.tr e4).zx⟩, ?_⟩
      rintro j m H5 ⟨rfl, hj, x5, b5, t5, ac, hac, al5⟩
      by_cases hlj : j < (ys xs[i]).length
      · refine .inr ⟨wk1.go j H5 hlj ⟨b5, t5⟩, fun H' => P1 (j + 1) H', fun H' p' => ⟨(ys xs[i]).length - (j + 1), by omega, rfl, hlj, p'⟩, fun u H6 y6 => ?_⟩
        have hy := List.getElem?_eq_getElem hlj
        obtain ⟨e6, r6⟩ := wk1.yld j _ H5 u H6 hy ⟨b5, t5⟩ y6
        refine gm1 _ _ _ _ _ (fun s h q => ⟨q.1, ?_⟩) (step j _ u H6 (fun y H7 => ∃ acc, H7 D = some (.lst acc) ∧ acc.length < sizeLine ∧ P1 (j + 1) (upd H7 D (.lst (acc ++ [y])))) hy (b5.tr e6.but) (t5.tr e6.zx) r6 fun z H7 e7 hz7 => ?_)
        · exact yes_run q.2
        · have h7 : H7 D = some (.lst ac) := e7 _ _ (e6 _ _ hac)
          have hl : ac.length ≤ 100000 := by
            rw [al5.len, List.length_append]
            exact bound j
          have tx : Zx H7 (upd H7 D (.lst (ac ++ [z]))) := Zx.mut h7 (fun q => q)
          refine ⟨ac, h7, szl (by omega), ((x5.tr e6).tr e7).mut hD, ((b5.tr e6.but).tr e7.but).tr But.mut, ((t5.tr e6.zx).tr e7.zx).tr tx, ac ++ [z], upd_same, ?_⟩
          · rw [List.take_add_one, hy, List.map_append, ← List.append_assoc]
            exact ((al5.upZ (e6.tr e7).zx).snoc hz7).upZ tx
      · have ej : j = (ys xs[i]).length := by omega
        subst ej
        refine .inl ⟨wk1.stop H5 ⟨b5, t5⟩, x5, ac, hac, ?_⟩
        rw [flat_take _ hx]
        rw [List.take_length] at al5
        exact al5
  · have ei : i = xs.length := by omega
    subst ei
    refine .inl ⟨wk.stop H e, done D H hD e ?_⟩
    rw [List.take_length] at al
    exact rLi.mk hacc al
end Cut
end

section
set_option maxHeartbeats 4000000
namespace Cut
open PySem PySem.Spec L2
/-! ### what the top has left, by names -/
structure GG (K : PySem.W.Frag) (w : World) (mg : Str → Option Value) : Prop where
  f_len : mg "len" = none
  f_range : mg "range" = none
  f_isinstance : mg "isinstance" = none
  f_tuple : mg "tuple" = none
  f_list : mg "list" = none
  f_int : mg "int" = none
  f_bool : mg "bool" = none
  f_dict : mg "dict" = none
  f_set : mg "set" = none
  f_sorted : mg "sorted" = none
  f_zip : mg "zip" = none
  f_enumerate : mg "enumerate" = none
  f_sum : mg "sum" = none
  f_min : mg "min" = none
  f_max : mg "max" = none
  f_any : mg "any" = none
  f_all : mg "all" = none
  f_abs : mg "abs" = none
  f_repr : mg "repr" = none
  i_MOST_SIZE : ∃ t, mg "MOST_SIZE" = some (.int 3 t)
  i_MOST_PRICES : ∃ t, mg "MOST_PRICES" = some (.int 6 t)
  i_MOST_LETTERS : ∃ t, mg "MOST_LETTERS" = some (.int 3 t)
  i_YES_END : ∃ t, mg "YES_END" = some (.int 0 t)
  i_NO_END : ∃ t, mg "NO_END" = some (.int 1 t)
  i_FIRST_LETTER : ∃ t, mg "FIRST_LETTER" = some (.int 2 t)
  i_MOST_CELLS : ∃ t, mg "MOST_CELLS" = some (.int 3 t)
  g_FREE_KINDS : mg "FREE_KINDS" = some (.ref (He.ga K "FREE_KINDS"))
  t_FREE_KINDS : ∀ H : Hp, SqT K H (He.ga K "FREE_KINDS") [.str "all no", .str "all yes", .str "bent"]
  g_FIXED_KINDS : mg "FIXED_KINDS" = some (.ref (He.ga K "FIXED_KINDS"))
  t_FIXED_KINDS : ∀ H : Hp, SqT K H (He.ga K "FIXED_KINDS") [.str "rising", .str "falling", .str "bent"]
  g_KINDS : mg "KINDS" = some (.ref (He.ga K "KINDS"))
  t_KINDS : ∀ H : Hp, SqT K H (He.ga K "KINDS") [.str "all no", .str "all yes", .str "bent", .str "rising", .str "falling"]
  g_KIND_VALUES : mg "KIND_VALUES" = some (.ref (He.ga K "KIND_VALUES"))
  d_KIND_VALUES : ∃ es n, KDict K w (He.ga K "KIND_VALUES") es n
  k_an : ∃ t, PySem.W.nsIn K (He.ga K "KIND_VALUES") "all no" = some (some (.int 0 t))
  k_ri : ∃ t, PySem.W.nsIn K (He.ga K "KIND_VALUES") "rising" = some (some (.int 0 t))
  k_ay : ∃ t, PySem.W.nsIn K (He.ga K "KIND_VALUES") "all yes" = some (some (.int 1 t))
  k_fa : ∃ t, PySem.W.nsIn K (He.ga K "KIND_VALUES") "falling" = some (some (.int 1 t))
  g_Price : mg "Price" = some (.ref (He.ga K "Price"))
  c_Price : Cls K (He.ga K "Price")
  m_Price : Mk K (He.ga K "Price") (He.ma K (He.ga K "Price") "__init__")
  n_Price_size : NoAttr K (He.ga K "Price") "size"
  n_Price_amounts : NoAttr K (He.ga K "Price") "amounts"
  g_Book : mg "Book" = some (.ref (He.ga K "Book"))
  c_Book : Cls K (He.ga K "Book")
  m_Book : Mk K (He.ga K "Book") (He.ma K (He.ga K "Book") "__init__")
  n_Book_prices : NoAttr K (He.ga K "Book") "prices"
  n_Book_plain : NoAttr K (He.ga K "Book") "plain"
  g_Puzzle : mg "Puzzle" = some (.ref (He.ga K "Puzzle"))
  c_Puzzle : Cls K (He.ga K "Puzzle")
  m_Puzzle : Mk K (He.ga K "Puzzle") (He.ma K (He.ga K "Puzzle") "__init__")
  n_Puzzle_book : NoAttr K (He.ga K "Puzzle") "book"
  n_Puzzle_cell_count : NoAttr K (He.ga K "Puzzle") "cell_count"
  n_Puzzle_ties : NoAttr K (He.ga K "Puzzle") "ties"
  g_Maker : mg "Maker" = some (.ref (He.ga K "Maker"))
  c_Maker : Cls K (He.ga K "Maker")
  m_Maker : Mk K (He.ga K "Maker") (He.ma K (He.ga K "Maker") "__init__")
  n_Maker_base : NoAttr K (He.ga K "Maker") "base"
  n_Maker_single : NoAttr K (He.ga K "Maker") "single"
  n_Maker_pairs : NoAttr K (He.ga K "Maker") "pairs"
  n_Maker_triples : NoAttr K (He.ga K "Maker") "triples"
  n_Maker_arcs : NoAttr K (He.ga K "Maker") "arcs"
  g_Flowing : mg "Flowing" = some (.ref (He.ga K "Flowing"))
  c_Flowing : Cls K (He.ga K "Flowing")
  m_Flowing : Mk K (He.ga K "Flowing") (He.ma K (He.ga K "Flowing") "__init__")
  n_Flowing_arcs : NoAttr K (He.ga K "Flowing") "arcs"
  n_Flowing_sent : NoAttr K (He.ga K "Flowing") "sent"
  n_Flowing_ways : NoAttr K (He.ga K "Flowing") "ways"
  s_Price : C8.InsC K (He.ga K "Price")
  s_Book : C8.InsC K (He.ga K "Book")
  e_Price_cost : Meth K (He.ga K "Price") "cost" (He.ma K (He.ga K "Price") "cost")
  e_Maker_put_triple : Meth K (He.ga K "Maker") "put_triple" (He.ma K (He.ga K "Maker") "put_triple")
  e_Maker_put_pairs : Meth K (He.ga K "Maker") "put_pairs" (He.ma K (He.ga K "Maker") "put_pairs")
  e_Maker_put_singles : Meth K (He.ga K "Maker") "put_singles" (He.ma K (He.ga K "Maker") "put_singles")
  e_Maker_network : Meth K (He.ga K "Maker") "network" (He.ma K (He.ga K "Maker") "network")
  e_Flowing_room : Meth K (He.ga K "Flowing") "room" (He.ma K (He.ga K "Flowing") "room")
  e_Flowing_walk : Meth K (He.ga K "Flowing") "walk" (He.ma K (He.ga K "Flowing") "walk")
  e_Flowing_send : Meth K (He.ga K "Flowing") "send" (He.ma K (He.ga K "Flowing") "send")
  e_Flowing_fill : Meth K (He.ga K "Flowing") "fill" (He.ma K (He.ga K "Flowing") "fill")
  e_Book_len : Meth K (He.ga K "Book") "__len__" (He.ma K (He.ga K "Book") "__len__")
  g_is_below_prices : mg "is_below_prices" = some (.ref (He.ga K "is_below_prices"))
  g_is_below_sides : mg "is_below_sides" = some (.ref (He.ga K "is_below_sides"))
  g_is_integer : mg "is_integer" = some (.ref (He.ga K "is_integer"))
  g_is_size : mg "is_size" = some (.ref (He.ga K "is_size"))
  g_is_row : mg "is_row" = some (.ref (He.ga K "is_row"))
  g_are_integers : mg "are_integers" = some (.ref (He.ga K "are_integers"))
  g_number_of : mg "number_of" = some (.ref (He.ga K "number_of"))
  g_are_prices : mg "are_prices" = some (.ref (He.ga K "are_prices"))
  g_rows_of : mg "rows_of" = some (.ref (He.ga K "rows_of"))
  g_and_of : mg "and_of" = some (.ref (He.ga K "and_of"))
  g_or_of : mg "or_of" = some (.ref (He.ga K "or_of"))
  g_has_one_more : mg "has_one_more" = some (.ref (He.ga K "has_one_more"))
  g_shows_row : mg "shows_row" = some (.ref (He.ga K "shows_row"))
  g_shows_pair : mg "shows_pair" = some (.ref (He.ga K "shows_pair"))
  g_shown_by : mg "shown_by" = some (.ref (He.ga K "shown_by"))
  g_fault_of : mg "fault_of" = some (.ref (He.ga K "fault_of"))
  g_is_kind : mg "is_kind" = some (.ref (He.ga K "is_kind"))
  g_free_kinds : mg "free_kinds" = some (.ref (He.ga K "free_kinds"))
  g_fixed_kinds : mg "fixed_kinds" = some (.ref (He.ga K "fixed_kinds"))
  g_are_cells : mg "are_cells" = some (.ref (He.ga K "are_cells"))
  g_is_tie : mg "is_tie" = some (.ref (He.ga K "is_tie"))
  g_is_filling : mg "is_filling" = some (.ref (He.ga K "is_filling"))
  g_sum_of_ties : mg "sum_of_ties" = some (.ref (He.ga K "sum_of_ties"))
  g_total_of : mg "total_of" = some (.ref (He.ga K "total_of"))
  g_is_start : mg "is_start" = some (.ref (He.ga K "is_start"))
  g_rows_with : mg "rows_with" = some (.ref (He.ga K "rows_with"))
  g_all_cheapest : mg "all_cheapest" = some (.ref (He.ga K "all_cheapest"))
  g_side : mg "side" = some (.ref (He.ga K "side"))
  g_is_rising : mg "is_rising" = some (.ref (He.ga K "is_rising"))
  g_is_member : mg "is_member" = some (.ref (He.ga K "is_member"))
  g_is_sum : mg "is_sum" = some (.ref (He.ga K "is_sum"))
  g_worth_at : mg "worth_at" = some (.ref (He.ga K "worth_at"))
  g_sum_told : mg "sum_told" = some (.ref (He.ga K "sum_told"))
  g_sum_of_price : mg "sum_of_price" = some (.ref (He.ga K "sum_of_price"))
  g_letters_read : mg "letters_read" = some (.ref (He.ga K "letters_read"))
  g_sum_of : mg "sum_of" = some (.ref (He.ga K "sum_of"))
  g_pairs_of : mg "pairs_of" = some (.ref (He.ga K "pairs_of"))
  g_is_bent : mg "is_bent" = some (.ref (He.ga K "is_bent"))
  g_network_of : mg "network_of" = some (.ref (He.ga K "network_of"))
  g_least_side : mg "least_side" = some (.ref (He.ga K "least_side"))
  g_filled_with : mg "filled_with" = some (.ref (He.ga K "filled_with"))
  g_bent_network : mg "bent_network" = some (.ref (He.ga K "bent_network"))
  g_kind_for : mg "kind_for" = some (.ref (He.ga K "kind_for"))
  g_filling_by_side : mg "filling_by_side" = some (.ref (He.ga K "filling_by_side"))
  g_some_cheapest : mg "some_cheapest" = some (.ref (He.ga K "some_cheapest"))
  g_least_total : mg "least_total" = some (.ref (He.ga K "least_total"))
  g_are_free_cells : mg "are_free_cells" = some (.ref (He.ga K "are_free_cells"))
  g_written_price : mg "written_price" = some (.ref (He.ga K "written_price"))
  g_law_draws : mg "_law_draws" = some (.ref (He.ga K "_law_draws"))
  g_law_take : mg "_law_take" = some (.ref (He.ga K "_law_take"))
  g_law_rows : mg "_law_rows" = some (.ref (He.ga K "_law_rows"))
  g_law_at : mg "_law_at" = some (.ref (He.ga K "_law_at"))
  g_law_is : mg "_law_is" = some (.ref (He.ga K "_law_is"))
  g_law_amount : mg "_law_amount" = some (.ref (He.ga K "_law_amount"))
  g_law_ties : mg "_law_ties" = some (.ref (He.ga K "_law_ties"))
  g_law_made_book : mg "_law_made_book" = some (.ref (He.ga K "_law_made_book"))
  g_law_total : mg "_law_total" = some (.ref (He.ga K "_law_total"))
  g_law_keeps : mg "_law_keeps" = some (.ref (He.ga K "_law_keeps"))
  g_law_totals : mg "_law_totals" = some (.ref (He.ga K "_law_totals"))
  g_law_start : mg "_law_start" = some (.ref (He.ga K "_law_start"))
  g_law_free : mg "_law_free" = some (.ref (He.ga K "_law_free"))
  g_law_bent : mg "_law_bent" = some (.ref (He.ga K "_law_bent"))
  g_law_kind_price : mg "_law_kind_price" = some (.ref (He.ga K "_law_kind_price"))
  g_law : mg "law" = some (.ref (He.ga K "law"))

section
variable {X : Cx} {x : Str} {p pos : Pos} {e : Expr} {es : List Expr} {t : TA}
theorem pe_gI {i : Int} (h : ∃ t, X.mg x = some (.int i t)) (hg : Gl X x := by rfl) (hd : (x == ("__debug__" : Str)) = false := by decide) : PE X (.Name x pos) (tC (.int i)) := by
  obtain ⟨t, h⟩ := h
  exact pe_glob hg h ⟨t, rfl⟩ hd
theorem pe_gR {a : Addr} (h : X.mg x = some (.ref a)) (hg : Gl X x := by rfl) (hd : (x == ("__debug__" : Str)) = false := by decide) : PE X (.Name x pos) (tC (.ref a)) := pe_glob hg h rfl hd
theorem pe_ty {n : String} (h : X.mg x = none) (hv : bootBuiltins x = some (.type n)) (hg : Gl X x := by rfl) (hn : x ≠ "__name__" := by decide) (hd : (x == ("__debug__" : Str)) = false := by decide) : PE X (.Name x pos) (tC (.ty n)) := pe_bltn hg h hv rfl hn hd
theorem bt_tuple : bootBuiltins "tuple" = some (.type "tuple") := by decide +kernel
theorem bt_list : bootBuiltins "list" = some (.type "list") := by decide +kernel
theorem bt_int : bootBuiltins "int" = some (.type "int") := by decide +kernel
theorem bt_bool : bootBuiltins "bool" = some (.type "bool") := by decide +kernel
theorem bt_dict : bootBuiltins "dict" = some (.type "dict") := by decide +kernel
theorem bt_set : bootBuiltins "set" = some (.type "set") := by decide +kernel
theorem bb_len : bootBuiltins "len" = some (.builtin "len") := by decide +kernel
theorem bb_isinstance : bootBuiltins "isinstance" = some (.builtin "isinstance") := by decide +kernel
theorem bb_sorted : bootBuiltins "sorted" = some (.builtin "sorted") := by decide +kernel
theorem bb_sum : bootBuiltins "sum" = some (.builtin "sum") := by decide +kernel
theorem bb_min : bootBuiltins "min" = some (.builtin "min") := by decide +kernel
theorem bb_max : bootBuiltins "max" = some (.builtin "max") := by decide +kernel
theorem bb_any : bootBuiltins "any" = some (.builtin "any") := by decide +kernel
theorem bb_all : bootBuiltins "all" = some (.builtin "all") := by decide +kernel
theorem bb_abs : bootBuiltins "abs" = some (.builtin "abs") := by decide +kernel
theorem bb_repr : bootBuiltins "repr" = some (.builtin "repr") := by decide +kernel
theorem pe_b_len {r : List V → Hp → VK → Prop} (hm : X.mg "len" = none) (hc : CallR X (.builtin "len") r) (ha : PA X (e :: es) t) (hg : Gl X "len" := by rfl) (he : starEach (e :: es) X.env = (false, eval e X.env) :: starEach es X.env := by rfl) (hpl : (backTo pos (starEach es X.env)).any (·.1) = false := by rfl) : PE X (.Call (.Name "len" p) (e :: es) [] pos) (tCB r t) := pe_callB hc hg hm bb_len ha (by decide) (by decide) he hpl
theorem pe_b_isinstance {r : List V → Hp → VK → Prop} (hm : X.mg "isinstance" = none) (hc : CallR X (.builtin "isinstance") r) (ha : PA X (e :: es) t) (hg : Gl X "isinstance" := by rfl) (he : starEach (e :: es) X.env = (false, eval e X.env) :: starEach es X.env := by rfl) (hpl : (backTo pos (starEach es X.env)).any (·.1) = false := by rfl) : PE X (.Call (.Name "isinstance" p) (e :: es) [] pos) (tCB r t) := pe_callB hc hg hm bb_isinstance ha (by decide) (by decide) he hpl
theorem pe_b_tuple {r : List V → Hp → VK → Prop} (hm : X.mg "tuple" = none) (hc : CallR X (.type "tuple") r) (ha : PA X (e :: es) t) (hg : Gl X "tuple" := by rfl) (he : starEach (e :: es) X.env = (false, eval e X.env) :: starEach es X.env := by rfl) (hpl : (backTo pos (starEach es X.env)).any (·.1) = false := by rfl) : PE X (.Call (.Name "tuple" p) (e :: es) [] pos) (tCB r t) := pe_callTy hc hg hm bt_tuple ha (by decide) (by decide) he hpl
theorem pe_b_int {r : List V → Hp → VK → Prop} (hm : X.mg "int" = none) (hc : CallR X (.type "int") r) (ha : PA X (e :: es) t) (hg : Gl X "int" := by rfl) (he : starEach (e :: es) X.env = (false, eval e X.env) :: starEach es X.env := by rfl) (hpl : (backTo pos (starEach es X.env)).any (·.1) = false := by rfl) : PE X (.Call (.Name "int" p) (e :: es) [] pos) (tCB r t) := pe_callTy hc hg hm bt_int ha (by decide) (by decide) he hpl
theorem pe_b_dict {r : List V → Hp → VK → Prop} (hm : X.mg "dict" = none) (hc : CallR X (.type "dict") r) (ha : PA X (e :: es) t) (hg : Gl X "dict" := by rfl) (he : starEach (e :: es) X.env = (false, eval e X.env) :: starEach es X.env := by rfl) (hpl : (backTo pos (starEach es X.env)).any (·.1) = false := by rfl) : PE X (.Call (.Name "dict" p) (e :: es) [] pos) (tCB r t) := pe_callTy hc hg hm bt_dict ha (by decide) (by decide) he hpl
theorem pe_b_sorted {r : List V → Hp → VK → Prop} (hm : X.mg "sorted" = none) (hc : CallR X (.builtin "sorted") r) (ha : PA X (e :: es) t) (hg : Gl X "sorted" := by rfl) (he : starEach (e :: es) X.env = (false, eval e X.env) :: starEach es X.env := by rfl) (hpl : (backTo pos (starEach es X.env)).any (·.1) = false := by rfl) : PE X (.Call (.Name "sorted" p) (e :: es) [] pos) (tCB r t) := pe_callB hc hg hm bb_sorted ha (by decide) (by decide) he hpl
theorem pe_b_sum {r : List V → Hp → VK → Prop} (hm : X.mg "sum" = none) (hc : CallR X (.builtin "sum") r) (ha : PA X (e :: es) t) (hg : Gl X "sum" := by rfl) (he : starEach (e :: es) X.env = (false, eval e X.env) :: starEach es X.env := by rfl) (hpl : (backTo pos (starEach es X.env)).any (·.1) = false := by rfl) : PE X (.Call (.Name "sum" p) (e :: es) [] pos) (tCB r t) := pe_callB hc hg hm bb_sum ha (by decide) (by decide) he hpl
theorem pe_b_min {r : List V → Hp → VK → Prop} (hm : X.mg "min" = none) (hc : CallR X (.builtin "min") r) (ha : PA X (e :: es) t) (hg : Gl X "min" := by rfl) (he : starEach (e :: es) X.env = (false, eval e X.env) :: starEach es X.env := by rfl) (hpl : (backTo pos (starEach es X.env)).any (·.1) = false := by rfl) : PE X (.Call (.Name "min" p) (e :: es) [] pos) (tCB r t) := pe_callB hc hg hm bb_min ha (by decide) (by decide) he hpl
theorem pe_b_max {r : List V → Hp → VK → Prop} (hm : X.mg "max" = none) (hc : CallR X (.builtin "max") r) (ha : PA X (e :: es) t) (hg : Gl X "max" := by rfl) (he : starEach (e :: es) X.env = (false, eval e X.env) :: starEach es X.env := by rfl) (hpl : (backTo pos (starEach es X.env)).any (·.1) = false := by rfl) : PE X (.Call (.Name "max" p) (e :: es) [] pos) (tCB r t) := pe_callB hc hg hm bb_max ha (by decide) (by decide) he hpl
theorem pe_b_any {r : List V → Hp → VK → Prop} (hm : X.mg "any" = none) (hc : CallR X (.builtin "any") r) (ha : PA X (e :: es) t) (hg : Gl X "any" := by rfl) (he : starEach (e :: es) X.env = (false, eval e X.env) :: starEach es X.env := by rfl) (hpl : (backTo pos (starEach es X.env)).any (·.1) = false := by rfl) : PE X (.Call (.Name "any" p) (e :: es) [] pos) (tCB r t) := pe_callB hc hg hm bb_any ha (by decide) (by decide) he hpl
theorem pe_b_all {r : List V → Hp → VK → Prop} (hm : X.mg "all" = none) (hc : CallR X (.builtin "all") r) (ha : PA X (e :: es) t) (hg : Gl X "all" := by rfl) (he : starEach (e :: es) X.env = (false, eval e X.env) :: starEach es X.env := by rfl) (hpl : (backTo pos (starEach es X.env)).any (·.1) = false := by rfl) : PE X (.Call (.Name "all" p) (e :: es) [] pos) (tCB r t) := pe_callB hc hg hm bb_all ha (by decide) (by decide) he hpl
theorem pe_b_abs {r : List V → Hp → VK → Prop} (hm : X.mg "abs" = none) (hc : CallR X (.builtin "abs") r) (ha : PA X (e :: es) t) (hg : Gl X "abs" := by rfl) (he : starEach (e :: es) X.env = (false, eval e X.env) :: starEach es X.env := by rfl) (hpl : (backTo pos (starEach es X.env)).any (·.1) = false := by rfl) : PE X (.Call (.Name "abs" p) (e :: es) [] pos) (tCB r t) := pe_callB hc hg hm bb_abs ha (by decide) (by decide) he hpl
theorem pe_b_repr {r : List V → Hp → VK → Prop} (hm : X.mg "repr" = none) (hc : CallR X (.builtin "repr") r) (ha : PA X (e :: es) t) (hg : Gl X "repr" := by rfl) (he : starEach (e :: es) X.env = (false, eval e X.env) :: starEach es X.env := by rfl) (hpl : (backTo pos (starEach es X.env)).any (·.1) = false := by rfl) : PE X (.Call (.Name "repr" p) (e :: es) [] pos) (tCB r t) := pe_callB hc hg hm bb_repr ha (by decide) (by decide) he hpl
theorem pe_bI {r : List V → Hp → VK → Prop} (hm : X.mg "isinstance" = none) (hc : CallR X (.builtin "isinstance") r) (ha : PA X (e :: es) t) (hg : Gl X "isinstance" := by rfl) (he : starEach (e :: es) X.env = (false, eval e X.env) :: starEach es X.env := by rfl) (hpl : (backTo pos (starEach es X.env)).any (·.1) = false := by rfl) :
    PE X (.Call (.Name "isinstance" p) (e :: es) [] pos) (tCB r t) := pe_b_isinstance hm hc ha hg he hpl
theorem pe_calM {pl : Sem Bool} {C : Addr} {m : Str} {k n : Nat} {ps : List Str} {sp : Sp} {o : Expr} {ta : TE} {apos : Pos} (c : CalM X.prog X.w X.K X.mg X.base C m k ps sp) (hr : Room n X.A) (he : PE X o ta) (ha : PA X (e :: es) t) (hk : k ≤ n := by decide)
    (hst : starEach (e :: es) X.env = (false, eval e X.env) :: starEach es X.env := by rfl) (hpl : (backTo pos (starEach es X.env)).any (·.1) = false := by rfl)
    (ht : eval (.Call (.Attribute o m apos) (e :: es) [] pos) X.env = (do
      let ov ← eval o X.env
      standAt apos.atName
      let (f, first) ← holding [ov] (getMethod ov m pl)
      callWith pos f first (backTo pos (starEach (e :: es) X.env)) (backToKw pos (keywordEach [] X.env))) := by rfl) :
    PE X (.Call (.Attribute o m apos) (e :: es) [] pos) (tMeth C m sp [] E0 ta t) := by
  obtain ⟨f, fd, F, cl, mt, b⟩ := c.ex
  exact pe_meth (pl := pl) he cl mt F (hr.mono hk) b .nil pass0 ha hst hpl ht
theorem pe_calM0 {pl : Sem Bool} {C : Addr} {m : Str} {k n : Nat} {ps : List Str} {sp : Sp} {o : Expr} {ta : TE} {apos : Pos} (c : CalM X.prog X.w X.K X.mg X.base C m k ps sp) (hr : Room n X.A) (he : PE X o ta) (hk : k ≤ n := by decide)
    (ht : eval (.Call (.Attribute o m apos) [] [] pos) X.env = (do
      let ov ← eval o X.env
      standAt apos.atName
      let (f, first) ← holding [ov] (getMethod ov m pl)
      callWith pos f first (backTo pos (starEach [] X.env)) (backToKw pos (keywordEach [] X.env))) := by rfl) :
    PE X (.Call (.Attribute o m apos) [] [] pos) (tMeth C m sp [] E0 ta tNil) := by
  obtain ⟨f, fd, F, cl, mt, b⟩ := c.ex
  exact pe_meth0 (pl := pl) he cl mt F (hr.mono hk) b .nil pass0 ht
end
section
variable {P : Program} {w : World} {K : PySem.W.Frag} {mg : Str → Option Value} {base : Heap}
theorem cal_of {x qual : Str} {nm : Str} {params : Arguments} {body : List Stmt} {scope : Scope} {fd : FuncData} {ps : List Str} {k : Nat} {sp : Sp} (F : FunD K nm qual params body scope [] [] (He.fAd K (x, none)) fd) (hm : mg x = some (.ref (He.ga K x)))
    (hb : ∀ (kV doc pm : Value) (an : Option Addr) (cdv ct : Value) (us : List Value), us.length = ps.length → bindArgs (PySem.W.fnOf nm qual params body scope .none kV doc pm an cdv ct) ⟨us, []⟩ = pure (ps.zip us))
    (h : FnOk P w K mg base CX0 k (He.fAd K (x, none)) fd ps sp) : Cal P w K mg base x k ps sp := ⟨_, fd, h, hm, F.kp, F.bindsN hb⟩
/-- .. with defaults that are never used -/
theorem cal_ofD {x qual : Str} {nm : Str} {params : Arguments} {body : List Stmt} {scope : Scope} {fd : FuncData} {ps : List Str} {k : Nat} {sp : Sp} {dv : V} (F : FunD K nm qual params body scope [dv] [] (He.fAd K (x, none)) fd) (hm : mg x = some (.ref (He.ga K x)))
    (hb : ∀ (T : Addr) (kV doc pm : Value) (an : Option Addr) (cdv ct : Value) (us its : List Value), us.length = ps.length → its.length = 1 → ∃ k, bindArgs (PySem.W.fnOf nm qual params body scope (.ref T) kV doc pm an cdv ct) ⟨us, []⟩ = seqItems? (.ref T) >>= k ∧ k (some its.toArray) = pure (ps.zip us))
    (h : FnOk P w K mg base CX0 k (He.fAd K (x, none)) fd ps sp) : Cal P w K mg base x k ps sp := by
  obtain ⟨ds, r, b⟩ := F.binds1 (ps := ps) ps.length 1 (List.cons_ne_nil _ _) (by simp) (fun T kV doc pm an cdv ct us its h1 h2 => by
    obtain ⟨k, e1, e2⟩ := hb T kV doc pm an cdv ct us its h1 h2
    refine ⟨k, e1, ?_⟩
    rw [e2]
    have e3 : its.drop 1 = [] := by
      rw [List.drop_eq_nil_iff]
      have h3 : its.length = 1 := h2
      rw [h3]
      exact Nat.le_refl _
    rw [e3, List.append_nil])
  have r' : Vals ([] : List V) ds := r
  cases r'
  exact ⟨_, fd, h, hm, F.kp, b⟩
theorem calM_of {C m qual : Str} {params : Arguments} {body : List Stmt} {scope : Scope} {fd : FuncData} {ps : List Str} {k : Nat} {sp : Sp} (F : FunD K m qual params body scope [] [] (He.fAd K (C, some m)) fd) (c : Cls K (He.ga K C)) (hm : Meth K (He.ga K C) m (He.ma K (He.ga K C) m))
    (hb : ∀ (kV doc pm : Value) (an : Option Addr) (cdv ct : Value) (us : List Value), us.length = ps.length → bindArgs (PySem.W.fnOf m qual params body scope .none kV doc pm an cdv ct) ⟨us, []⟩ = pure (ps.zip us))
    (h : FnOk P w K mg base CX0 k (He.fAd K (C, some m)) fd ps sp) : CalM P w K mg base (He.ga K C) m k ps sp := ⟨_, fd, h, c, hm, F.bindsN hb⟩
theorem calC_of {C qual : Str} {params : Arguments} {body : List Stmt} {scope : Scope} {fd : FuncData} {ps : List Str} {k : Nat} {sp : Sp} (F : FunD K "__init__" qual params body scope [] [] (He.fAd K (C, some "__init__")) fd) (hm : mg C = some (.ref (He.ga K C))) (hk : Mk K (He.ga K C) (He.ma K (He.ga K C) "__init__"))
    (hb : ∀ (kV doc pm : Value) (an : Option Addr) (cdv ct : Value) (us : List Value), us.length = ps.length → bindArgs (PySem.W.fnOf "__init__" qual params body scope .none kV doc pm an cdv ct) ⟨us, []⟩ = pure (ps.zip us))
    (h : FnOk P w K mg base CX0 k (He.fAd K (C, some "__init__")) fd ps sp) : CalC P w K mg base C (He.ga K C) k ps sp := ⟨_, fd, h, hm, hk, F.bindsN hb⟩
end
section
/-! the rules with the written part told, for a comprehension's block -/
variable {X : Cx} {K : PySem.W.Frag}
theorem pe_fldK (h : X.K = K) {e : Expr} {ta : TE} {f : Str} {pos : Pos} (he : PE X e ta) (hb : attributeBase e f X.env (eval e X.env) = eval e X.env) : PE X (.Attribute e f pos) (tFld K ta f) := by
  subst h
  exact pe_fld he hb
theorem ix_listK (h : X.K = K) : IxR X (rIxL K) := by
  subst h
  exact ix_list
theorem ix_tupK (h : X.K = K) : IxR X (rIxT K) := by
  subst h
  exact ix_tup
theorem op_catAK (h : X.K = K) : OpR X (binaryOp .Add) (rCatA K) := by
  subst h
  exact op_catA
theorem sl_tupAK (h : X.K = K) : SlR X (rSlA K) := by
  subst h
  exact sl_tupA
theorem sl_listK (h : X.K = K) : SlR X (rSlL K) := by
  subst h
  exact sl_list
theorem op_ltTK (h : X.K = K) (hu : X.A.units < cLine) : OpR X (compareOp .Lt) (rLtT K) := by
  subst h
  exact op_ltT hu
theorem pg_tupK (h : X.K = K) {es : List Expr} {k : Nat} {t : TGs} {n : Nat} {pos : Pos} (hc : X.calm = true) (hp : PGs X es t) (hn : (assignEach es X.env).length = n := by rfl) (hst : (assignEach es X.env).findIdx? (·.1) = none := by rfl) : PG X (.Tuple es k pos) (gTup K n t) := by
  subst h
  exact pg_tup hc hp hn hst
theorem pi_listK (h : X.K = K) {tg l : Expr} {tl : TE} (hl : PE X l tl) : PI X tg l (iList K tl) := by
  subst h
  exact pi_list hl
theorem pi_tupK (h : X.K = K) {tg l : Expr} {tl : TE} (hl : PE X l tl) : PI X tg l (iTup K tl) := by
  subst h
  exact pi_tup hl
theorem cr_allK (h : X.K = K) (hc : X.calm = true) : CallR X (.builtin "all") (rAll K) := by
  subst h
  exact cr_all hc
end
end Cut
end

section
set_option maxHeartbeats 4000000
namespace Cut
open PySem PySem.Spec L2
section
variable {X : Cx} {tg : Expr}
/-- over a list or a tuple -/
def iSeq (K : PySem.W.Frag) (tl : TE) : TI := fun σ H R => tl σ H fun x H1 => ∃ a, x = .ref a ∧ (((∃ xs, SqL K H1 a xs) ∧ R (Itl K a) H1) ∨ ((∃ xs, SqT K H1 a xs) ∧ R (Itt K a) H1))
theorem pi_seq {l : Expr} {tl : TE} (hl : PE X l tl) : PI X tg l (iSeq X.K tl) := by
  refine ⟨fun pins s σ H R I h => ?_⟩
  refine thn (hl.run pins s σ H _ I h) fun v s1 ⟨x, H1, I1, r1, q1⟩ => ?_
  obtain ⟨a, e, q⟩ := q1
  subst e
  cases r1
  have fp : ∀ b ∈ [s1.heap.objs.size], FpOk X pins H1 b := fun b hb => by
    have e : b = s1.heap.objs.size := by simpa using hb
    subst e
    exact I1.fpOk (Nat.le_refl _) (I1.hok.fresh (Nat.le_refl _))
  rcases q with ⟨⟨xs, hq⟩, q⟩ | ⟨⟨xs, hq⟩, q⟩
  · obtain ⟨its, rv, p, hz⟩ := I1.list hq
    refine wpAny_pyIter_list p.isList ?_
    exact ⟨s1.heap.objs.size, [s1.heap.objs.size], _, _, H1, rfl, I1.kept (t' := s1.toks) fun b o e => Heap.get?_push_of_some _ e, turn_list a _, ⟨_, Heap.get?_push_size _ rfl, rfl, rfl⟩, fp, q⟩
  · obtain ⟨its, rv, p, hz⟩ := I1.tuple hq
    refine wpAny_pyIter_tuple (show s1.heap.IsTuple a its.toArray from p) ?_
    exact ⟨s1.heap.objs.size, [s1.heap.objs.size], _, _, H1, rfl, I1.kept (t' := s1.toks) fun b o e => Heap.get?_push_of_some _ e, turn_tuple a _, ⟨_, Heap.get?_push_size _ rfl, rfl, rfl⟩, fp, q⟩
/-- x[i] for a list's own in-place operation -/
def rGetL (K : PySem.W.Frag) : V → V → Hp → VK → Prop := fun x y H Q => ∃ p xs i v, x = .ref p ∧ y = .int i ∧ SqL K H p xs ∧ atI xs i = some v ∧ Q v H
end
end Cut
end

section
set_option maxHeartbeats 4000000
namespace Cut
open PySem PySem.Spec L2
open PyProof.Rows (IsTup)
theorem meets_enumerate_newB1 {v : Value} {o : Obj} {H : Heap → Prop} (B : Begins v o H) :
    Meets (Builtin.«enumerate.__new__» ⟨[.type "enumerate", v], []⟩) (fun _ R s => H s.heap ∧
      R (.ok (.ret (.ref (s.heap.push o).objs.size))) { s with heap := (s.heap.push o).push { cls := .type "enumerate", data := .fields #[.none, .bool false, .ref s.heap.objs.size, rawInt 0, .none, .none] } }) :=
  .of_wp fun prog w A R s h => by
    obtain ⟨hp, g, d, tk, os⟩ := s; obtain ⟨h1, h⟩ := h
    have hsub := sub_enumerate
    have q1 : ∀ {A' : Around} {E : Value → Shared → Prop} {Q : Value → Shared → Prop}, Q (.ref hp.objs.size) ⟨hp.push o, g, d, tk, os⟩ → wpAny (model prog w) A' (pyIter v) Q E ⟨hp, g, d, tk, os⟩ :=
      fun q => B.iter prog w _ _ ⟨hp, g, d, tk, os⟩ _ h1 q
    wp_walk using q1
    refine wpAny_stack_any fun st => wpAny_pure ?_
    split
    · rename_i c _ _ _ _ _
      cases (c == Value.type "enumerate")
      · wp_walk using q1
        exact ⟨_, rfl, h⟩
      · wp_walk using q1
        exact ⟨_, rfl, h⟩
    · wp_walk using q1
      exact ⟨_, rfl, h⟩
theorem enum_begins1 {prog : Program} {w : World} {A : Around} {E : Value → Shared → Prop} {s : Shared} {v : Value} {o : Obj} {H : Heap → Prop} {Q : Value → Shared → Prop} (B : Begins v o H) (h1 : H s.heap)
    (h : ∀ h', IsEnum h' (s.heap.objs.size + 1) s.heap.objs.size 0 .none → h'.get? s.heap.objs.size = some o → h'.objs.size = s.heap.objs.size + 2 →
      (∀ b o, s.heap.get? b = some o → h'.get? b = some o) → Q (.ref (s.heap.objs.size + 1)) { s with heap := h' }) :
    wpAny (model prog w) A (call (.type "enumerate") [v]) Q E s := by
  refine callType_new F.called_enumerate (by decide) (F.typeCall_enumerate_1 _) (F.newCall_enumerate_1 _) (fun obj => F.args_object_init_2 obj _) F.entry_enumerate_new
    (meets_enumerate_newB1 B) ⟨h1, ?_⟩
  have hz : (s.heap.push o).objs.size = s.heap.objs.size + 1 := Heap.size_push ..
  show _ ∧ _
  rw [hz]
  have he : IsEnum ((s.heap.push o).push { cls := .type "enumerate", data := .fields #[.none, .bool false, .ref s.heap.objs.size, rawInt 0, .none, .none] }) (s.heap.objs.size + 1) s.heap.objs.size 0 .none := by
    have := Heap.get?_push_size (s.heap.push o) (o := { cls := .type "enumerate", data := .fields #[.none, .bool false, .ref s.heap.objs.size, rawInt 0, .none, .none] }) rfl
    rw [hz] at this; exact this
  refine ⟨⟨_, he, rfl⟩, h _ he (Heap.get?_push_of_some _ (Heap.get?_push_size _ B.free)) (by rw [Heap.size_push, hz]) fun b o x => Heap.get?_push_of_some _ (Heap.get?_push_of_some _ x)⟩
def Itet (K : PySem.W.Frag) (a : Addr) : It :=
  ⟨fun i H => ∃ (xs : List V) (x : V), SqT K H a xs ∧ xs[i]? = some x, fun i H v H' => ∃ T x, v = .ref T ∧ H T = none ∧ H' = upd H T (.tup [.int (i : Nat), x]) ∧ ∀ xs, SqT K H a xs → xs[i]? = some x, fun i H => ∃ xs : List V, SqT K H a xs ∧ xs.length ≤ i⟩
theorem turn_enumT {P : Program} {w : World} {K : PySem.W.Frag} {elts : List Expr} {kk : Nat} {tpos : Pos} (a e it : Addr) (hei : e ≠ it) (hai : a ≠ it) (hea : e ≠ a) :
    Turn P w K (.Tuple elts kk tpos) (Itet K a) [e, it] e (fun i h => (∃ old, IsEnum h e it ((i : Nat) : Int) old) ∧ h.IsTupleIter it a i) where
  mem := by simp
  obj := fun i h st b hb => by
    obtain ⟨⟨old, he⟩, ⟨o, ho, hc, hd⟩⟩ := st
    have e' : b = e ∨ b = it := by simpa using hb
    rcases e' with z | z
    · rw [z]; exact ⟨_, he, fun v q => nomatch q⟩
    · rw [z]; exact ⟨o, ho, fun v q => by rw [hd] at q; cases q⟩
  keep := fun i h h' st k => let ⟨⟨old, he⟩, hi⟩ := st; ⟨⟨old, k e (by simp) _ he⟩, hi.at fun o q => k it (by simp) o q⟩
  item := by
    intro X hP hw hK hc i pins s σ H E I hf st hg
    subst hP hw hK
    obtain ⟨⟨old, he⟩, hit⟩ := st
    obtain ⟨xs, x, hq, hx⟩ := hg
    obtain ⟨its, rv, p, hz⟩ := I.tuple hq
    obtain ⟨u, hu, ru⟩ := rv.get hx
    have hel : e < s.heap.objs.size := Heap.lt_size he
    have hil : it < s.heap.objs.size := by obtain ⟨_, q, _⟩ := hit; exact Heap.lt_size q
    have hlt : i < its.toArray.size := by
      have := (List.getElem?_eq_some_iff.mp hu).1
      simpa using this
    refine wpAny_pyNext_enum_itemD (Draws.tuple (A := X.A.in1) (I.ok.hd hc) it a hai its.toArray) he ⟨hit, (show s.heap.IsTuple a its.toArray from p)⟩ hlt hei (by simp [hei, hea]) fun x' h' tk hP ho hst' hT hsz hk => ?_
    have ex : x' = u := by
      have q : its.toArray[i]? = some u := by simpa using hu
      exact Option.some.inj (hP.symm.trans q)
    subst ex
    refine ⟨_, rfl, wpAny_letOwnedTupleGo_enum (s := { s with heap := h', toks := tk + 1 }) ho fun h'' he' sb => ?_⟩
    have hT2 : h''.get? s.heap.objs.size = some { cls := .type "tuple", data := .seq #[.int i tk, x'] } := (sb.2 _ (Nat.ne_of_gt hel)).trans hT
    have new : ObjOk X.prog X.w (upd H s.heap.objs.size (.tup [.int (i : Nat), x])) h'' s.heap.objs.size (.tup [.int (i : Nat), x]) :=
      ⟨by show 2 ≤ sizeLine; decide, [.int i tk, x'], .cons ⟨_, rfl⟩ (.cons ru .nil), ⟨_, hT2, rfl, _, rfl⟩⟩
    have I1 : L2.Inv X pins σ (upd H s.heap.objs.size (.tup [.int (i : Nat), x])) { s with heap := h'', toks := tk + 1 } :=
      I.turnedNew (ch := [e, it]) (fun b ob hb q => (sb.2 b (fun z => hb (by simp [z]))).trans (hk b ob (fun z => hb (by simp [z])) (fun z => hb (by simp [z])) q)) hf (Nat.le_refl _) new
    refine ⟨.ref s.heap.objs.size, _, I1, rfl, ⟨_, x, rfl, I.hok.fresh (Nat.le_refl _), rfl, fun ys hy => by rw [I.tuple_inj hy hq]; exact hx⟩, ⟨⟨x', ?_⟩, hst'.1.at fun o q => (sb.2 it (Ne.symm hei)).trans q⟩, fun b hb => ?_⟩
    · have e1 : ((i + 1 : Nat) : Int) = (i : Int) + 1 := by omega
      rw [e1]; exact he'
    · have hb' : b < s.heap.objs.size := by
        have e' : b = e ∨ b = it := by simpa using hb
        rcases e' with z | z
        · rw [z]; exact hel
        · rw [z]; exact hil
      rw [upd_ne (Nat.ne_of_lt hb')]
      exact (hf b hb).1
  done := by
    intro X hP hw hK hc i pins s σ H E I hf st hg
    subst hP hw hK
    obtain ⟨⟨old, he⟩, hit⟩ := st
    obtain ⟨xs, hq, hx⟩ := hg
    obtain ⟨its, rv, p, hz⟩ := I.tuple hq
    obtain ⟨f0, f1, f2, f3, f4, f5⟩ := hf it (by simp)
    have hl := rv.length
    have D := Draws.tuple (prog := X.prog) (w := X.w) (A := X.A.in1) (I.ok.hd hc) it a hai its.toArray
    have hT : s.TypeIs (.ref e) "enumerate" := ⟨_, he, rfl⟩
    unfold pyNext
    refine wpAny_bind (wpAny_attempt (wpAny_callSpecial?_slot (name := Str.ofString "__next__") hT F.slot_enumerate_next
      (wpAny_call_entry F.slot_enumerate_next hT F.entry_enumerate_next ?_ (F.args_enumerate_next_1 _))))
    show wpAny _ _ (field (.ref e) 2 >>= _) _ _ _
    refine wpAny_bind (wpAny_field he rfl (x := .ref it) rfl ?_)
    refine wpAny_bind (RZ.nextOf_tuple_end (A := X.A.in1) (I.ok.hd hc) hit (show s.heap.IsTuple a its.toArray from p) (by simp; omega) fun h' x he' hx' => ?_)
    obtain ⟨o, ho, hcx⟩ := hx'
    refine wpAny_bind (wpAny_isInstance (T := "StopIteration") (b := true) ⟨o, ho, hcx⟩ isSubtype_stop ?_)
    exact wpAny_pure ⟨rfl, I.turned (t' := s.toks) (fun b o hb q => he' b o hb q) f0 f1 f3 f4 f5⟩
  self := fun A i s Q E st h => let ⟨⟨_, he⟩, _⟩ := st; wpAny_pyIter_enum he h
def iEnumT (K : PySem.W.Frag) (ta : TA) : TI := fun σ H R => ta σ H fun vs H1 => ∃ a xs, vs = [.ref a] ∧ SqT K H1 a xs ∧ R (Itet K a) H1
theorem pi_enumT {X : Cx} {e : Expr} {ta : TA} {p pos tpos : Pos} {elts : List Expr} {kk : Nat} (hg : Gl X "enumerate") (hm : X.mg "enumerate" = none) (ha : PA X [e] ta) (hs : starEach [e] X.env = [(false, eval e X.env)] := by rfl) :
    PI X (.Tuple elts kk tpos) (.Call (.Name "enumerate" p) [e] [] pos) (iEnumT X.K ta) := by
  refine ⟨fun pins s σ H R I h => ?_⟩
  refine PyProof.Rows.Call_ (ld_blt I hg hm PyProof.Rows.boot_enumerate (PyProof.Rows.callWith_type1 (thn (ha.run pos pins s σ H _ I h) fun us s1 ⟨vs, H1, I1, r1, q1⟩ => ?_) hs rfl))
  obtain ⟨a, xs, ex, hq, q⟩ := q1
  subst ex
  cases r1 with
  | cons r rr =>
    cases rr
    cases r
    obtain ⟨its, rv, p', hz⟩ := I1.tuple hq
    obtain ⟨oa, hoa, _⟩ := id p'
    have hal := Heap.lt_size hoa
    refine enum_begins1 (begins_tuple a its.toArray) (show s1.heap.IsTuple a its.toArray from p') fun h' he hit hsz hk => wpAny_pyIter_enum he ?_
    have I2 : L2.Inv X pins σ H1 { s1 with heap := h' } := I1.kept (t' := s1.toks) hk
    refine ⟨s1.heap.objs.size + 1, [s1.heap.objs.size + 1, s1.heap.objs.size], _, _, H1, rfl, I2, turn_enumT a (s1.heap.objs.size + 1) s1.heap.objs.size (Nat.succ_ne_self _) (Nat.ne_of_lt hal) (Nat.ne_of_gt (Nat.lt_succ_of_lt hal)), ⟨⟨.none, he⟩, ⟨_, hit, rfl, rfl⟩⟩, fun b hb => ?_, q⟩
    have e' : b = s1.heap.objs.size + 1 ∨ b = s1.heap.objs.size := by simpa using hb
    have hle : s1.heap.objs.size ≤ b := by
      rcases e' with z | z
      · rw [z]; exact Nat.le_add_right _ _
      · rw [z]; exact Nat.le_refl _
    exact I1.fpOk hle (I1.hok.fresh hle)
end Cut
end

section
set_option maxHeartbeats 4000000
namespace Cut
open PySem PySem.Spec L2
open PyProof.Rows (IsTup)
def Itzm (K : PySem.W.Frag) (a b : Addr) : It :=
  ⟨fun i H => ∃ (xs ys : List V) (x y : V), SqL K H a xs ∧ SqT K H b ys ∧ xs[i]? = some x ∧ ys[i]? = some y,
    fun i H v H' => ∃ T x y, v = .ref T ∧ H T = none ∧ H' = upd H T (.tup [x, y]) ∧ (∀ xs, SqL K H a xs → xs[i]? = some x) ∧ ∀ ys, SqT K H b ys → ys[i]? = some y,
    fun i H => ∃ xs ys : List V, SqL K H a xs ∧ SqT K H b ys ∧ (xs.length = i ∧ i ≤ ys.length ∨ ys.length = i ∧ i ≤ xs.length)⟩
theorem turn_zipM {P : Program} {w : World} {K : PySem.W.Frag} {elts : List Expr} {kk : Nat} {tpos : Pos} {a b z TI TO i1 i2 : Addr} (S : ZipSep2 z TI TO i1 i2 [i1, a] [i2, b]) (h1n : a ≠ i1) (h2n : b ≠ i2) (hTI1 : TI ≠ i1) :
    Turn P w K (.Tuple elts kk tpos) (Itzm K a b) [z, TI, TO, i1, i2] z (fun i h => IsZip h z TI TO .none ∧ IsPair h TI (.ref i1) (.ref i2) ∧ (∃ x y, IsPair h TO x y) ∧ h.IsListIter i1 a i ∧ h.IsTupleIter i2 b i) where
  mem := by simp
  obj := fun i h st c hc => by
    obtain ⟨hz, hTI, ⟨x, y, hTO⟩, ⟨o1, e1, _, d1⟩, ⟨o2, e2, _, d2⟩⟩ := st
    have e' : c = z ∨ c = TI ∨ c = TO ∨ c = i1 ∨ c = i2 := by simpa using hc
    rcases e' with q | q | q | q | q
    · rw [q]; exact ⟨_, hz, fun v q => nomatch q⟩
    · rw [q]; exact ⟨_, hTI, fun v q => nomatch q⟩
    · rw [q]; exact ⟨_, hTO, fun v q => nomatch q⟩
    · rw [q]; exact ⟨o1, e1, fun v q => by rw [d1] at q; cases q⟩
    · rw [q]; exact ⟨o2, e2, fun v q => by rw [d2] at q; cases q⟩
  keep := fun i h h' st k => by
    obtain ⟨hz, hTI, ⟨x, y, hTO⟩, h1, h2⟩ := st
    exact ⟨k z (by simp) _ hz, k TI (by simp) _ hTI, ⟨x, y, k TO (by simp) _ hTO⟩, h1.at fun o q => k i1 (by simp) o q, h2.at fun o q => k i2 (by simp) o q⟩
  item := by
    intro X hP hw hK hc i pins s σ H E I hf st hg
    subst hP hw hK
    obtain ⟨hz, hTI, ⟨x0, y0, hTO⟩, h1, h2⟩ := st
    obtain ⟨xs, ys, x, y, hqx, hqy, hx, hy⟩ := hg
    obtain ⟨its, rv, p, _⟩ := I.list hqx
    obtain ⟨its2, rv2, p2, _⟩ := I.tuple hqy
    obtain ⟨u, hu, ru⟩ := rv.get hx
    obtain ⟨u2, hu2, ru2⟩ := rv2.get hy
    have hzl : z < s.heap.objs.size := Heap.lt_size hz
    have l1 : i < its.toArray.size := by simpa using (List.getElem?_eq_some_iff.mp hu).1
    have l2 : i < its2.toArray.size := by simpa using (List.getElem?_eq_some_iff.mp hu2).1
    refine wpAny_pyNext_zipD2_item (A := X.A) S (Draws.list (A := X.A.in1) (I.ok.hd hc) i1 a h1n its.toArray) (Draws.tuple (A := X.A.in1) (I.ok.hd hc) i2 b h2n its2.toArray) hz hTI hTO ⟨h1, p.isList⟩ ⟨h2, (show s.heap.IsTuple b its2.toArray from p2)⟩ l1 l2 fun x1 x2 h' tk q1 q2 z' TO' s1' s2' hT hsz hk => ?_
    have e1 : x1 = u := Option.some.inj (q1.symm.trans (by simpa using hu))
    have e2 : x2 = u2 := Option.some.inj (q2.symm.trans (by simpa using hu2))
    subst e1 e2
    refine ⟨_, rfl, wpAny_letOwnedTupleGo_zip (s := { s with heap := h', toks := tk }) z' fun h'' z'' sb => ?_⟩
    have hT2 : h''.get? s.heap.objs.size = some { cls := .type "tuple", data := .seq #[x1, x2] } := (sb.2 _ (Nat.ne_of_gt hzl)).trans hT
    have new : ObjOk X.prog X.w (upd H s.heap.objs.size (.tup [x, y])) h'' s.heap.objs.size (.tup [x, y]) :=
      ⟨by show 2 ≤ sizeLine; decide, [x1, x2], .cons ru (.cons ru2 .nil), ⟨_, hT2, rfl, _, rfl⟩⟩
    have I1 : L2.Inv X pins σ (upd H s.heap.objs.size (.tup [x, y])) { s with heap := h'', toks := tk } :=
      I.turnedNew (t' := tk) (ch := [z, TI, TO, i1, i2]) (fun c o hb q => (sb.2 c (fun q' => hb (by simp [q']))).trans (hk c o (fun q' => hb (by simp [q'])) (fun q' => hb (by simp [q'])) (fun q' => hb (by simp [q'])) (fun q' => hb (by simp [q'])) q)) hf (Nat.le_refl _) new
    have hTI' : IsPair h' TI (.ref i1) (.ref i2) := hk _ _ S.TIz S.TITO S.TIi1 S.TIi2 hTI
    refine ⟨.ref s.heap.objs.size, _, I1, rfl, ⟨_, x, y, rfl, I.hok.fresh (Nat.le_refl _), rfl, fun l hl => by rw [I.list_inj hl hqx]; exact hx, fun l hl => by rw [I.tuple_inj hl hqy]; exact hy⟩, ⟨z'', ?_, ⟨x1, x2, ?_⟩, ?_, ?_⟩, fun c hcm => ?_⟩
    · exact (sb.2 _ S.TIz).trans hTI'
    · exact (sb.2 _ S.TOz).trans TO'
    · exact s1'.1.at fun o q => (sb.2 _ (Ne.symm S.zi1)).trans q
    · exact s2'.1.at fun o q => (sb.2 _ (Ne.symm S.zi2)).trans q
    · have hlt : c < s.heap.objs.size := by
        have e' : c = z ∨ c = TI ∨ c = TO ∨ c = i1 ∨ c = i2 := by simpa using hcm
        rcases e' with q | q | q | q | q
        · rw [q]; exact hzl
        · rw [q]; exact Heap.lt_size hTI
        · rw [q]; exact Heap.lt_size hTO
        · rw [q]; obtain ⟨_, e1, _⟩ := h1; exact Heap.lt_size e1
        · rw [q]; obtain ⟨_, e1, _⟩ := h2; exact Heap.lt_size e1
      rw [upd_ne (Nat.ne_of_lt hlt)]
      exact (hf c hcm).1
  done := by
    intro X hP hw hK hc i pins s σ H E I hf st hg
    subst hP hw hK
    obtain ⟨hz, hTI, ⟨x0, y0, hTO⟩, h1, h2⟩ := st
    obtain ⟨xs, ys, hqx, hqy, hend⟩ := hg
    obtain ⟨its, rv, p, _⟩ := I.list hqx
    obtain ⟨its2, rv2, p2, _⟩ := I.tuple hqy
    have l1 := rv.length
    have l2 := rv2.length
    refine wpAny_pyNext_zipD2_end (A := X.A) (i := i) S (Draws.list (A := X.A.in1) (I.ok.hd hc) i1 a h1n its.toArray) (Draws.tuple (A := X.A.in1) (I.ok.hd hc) i2 b h2n its2.toArray) hz hTI hTO ⟨h1, p.isList⟩ ⟨h2, (show s.heap.IsTuple b its2.toArray from p2)⟩ (by simp; omega) (by simp; omega) (by simp; omega) fun h' tk hk => ⟨rfl, I.turnedL (t' := tk) (ch := [z, TI, TO, i1, i2]) (fun c o hb q =>
      hk c o (fun q' => hb (by simp [q'])) (fun q' => hb (by simp [q'])) (fun q' => hb (by simp [q'])) (fun q' => hb (by simp [q'])) q) hf⟩
  self := fun A i s Q E st h => wpAny_pyIter_zip st.1 h
def iZipX (K : PySem.W.Frag) (ta : TA) : TI := fun σ H R => ta σ H fun vs H1 => ∃ a b, vs = [.ref a, .ref b] ∧
  (((∃ xs ys, SqL K H1 a xs ∧ SqL K H1 b ys) ∧ R (Itz K a b) H1) ∨ ((∃ xs ys, SqT K H1 a xs ∧ SqT K H1 b ys) ∧ R (RZ.ItzT K a b) H1) ∨ ((∃ xs ys, SqL K H1 a xs ∧ SqT K H1 b ys) ∧ R (Itzm K a b) H1))
theorem pi_zipX {X : Cx} {e e2 : Expr} {ta : TA} {p pos tpos : Pos} {elts : List Expr} {kk : Nat} (hg : Gl X "zip") (hm : X.mg "zip" = none) (ha : PA X [e, e2] ta)
    (hs : starEach [e, e2] X.env = (false, eval e X.env) :: starEach [e2] X.env := by rfl) (hpl : (backTo pos (starEach [e2] X.env)).any (·.1) = false := by rfl) :
    PI X (.Tuple elts kk tpos) (.Call (.Name "zip" p) [e, e2] [] pos) (iZipX X.K ta) := by
  refine ⟨fun pins s σ H R I h => ?_⟩
  refine PyProof.Rows.Call_ (ld_blt I hg hm PyProof.Rows.boot_zip (PyProof.Rows.callWith_type1 (thn (ha.run pos pins s σ H _ I h) fun us s1 ⟨vs, H1, I1, r1, q1⟩ => ?_) hs hpl))
  obtain ⟨a, b, ex, q1⟩ := q1
  subst ex
  cases r1 with
  | cons r rr =>
    cases rr with
    | cons r' rr =>
      cases rr
      cases r
      cases r'
      have fresh5 : ∀ c, c ∈ [s1.heap.objs.size + 4, s1.heap.objs.size + 2, s1.heap.objs.size + 3, s1.heap.objs.size, s1.heap.objs.size + 1] → FpOk X pins H1 c := fun c hcm => by
        have e' : c = s1.heap.objs.size + 4 ∨ c = s1.heap.objs.size + 2 ∨ c = s1.heap.objs.size + 3 ∨ c = s1.heap.objs.size ∨ c = s1.heap.objs.size + 1 := by simpa using hcm
        have hle : s1.heap.objs.size ≤ c := by
          rcases e' with z | z | z | z | z
          · rw [z]; exact Nat.le_add_right _ _
          · rw [z]; exact Nat.le_add_right _ _
          · rw [z]; exact Nat.le_add_right _ _
          · rw [z]; exact Nat.le_refl _
          · rw [z]; exact Nat.le_add_right _ _
        exact I1.fpOk hle (I1.hok.fresh hle)
      rcases q1 with ⟨⟨xs, ys, hqx, hqy⟩, q⟩ | ⟨⟨xs, ys, hqx, hqy⟩, q⟩ | ⟨⟨xs, ys, hqx, hqy⟩, q⟩
      · obtain ⟨its, rv, p1, _⟩ := I1.list hqx
        obtain ⟨its2, rv2, p2, _⟩ := I1.list hqy
        refine call_zip_2 p1.isList p2.isList fun h' hz hTI hTO h1 h2 hsz hk => wpAny_pyIter_zip hz ?_
        have I2 : L2.Inv X pins σ H1 { s1 with heap := h' } := I1.kept (t' := s1.toks) hk
        exact ⟨s1.heap.objs.size + 4, [s1.heap.objs.size + 4, s1.heap.objs.size + 2, s1.heap.objs.size + 3, s1.heap.objs.size, s1.heap.objs.size + 1], _, _, H1, rfl, I2, turn_zip (PySem.W.ktu_apart s1.heap.objs.size a b p1.lt p2.lt), ⟨hz, hTI, ⟨_, _, hTO⟩, h1, h2⟩, fresh5, q⟩
      · obtain ⟨its, rv, p1, _⟩ := I1.tuple hqx
        obtain ⟨its2, rv2, p2, _⟩ := I1.tuple hqy
        obtain ⟨o1, ho1, _⟩ := id p1
        obtain ⟨o2, ho2, _⟩ := id p2
        refine RZ.call_zipT (show s1.heap.IsTuple a its.toArray from p1) (show s1.heap.IsTuple b its2.toArray from p2) fun h' hz hTI hTO h1 h2 hsz hk => wpAny_pyIter_zip hz ?_
        have I2 : L2.Inv X pins σ H1 { s1 with heap := h' } := I1.kept (t' := s1.toks) hk
        exact ⟨s1.heap.objs.size + 4, [s1.heap.objs.size + 4, s1.heap.objs.size + 2, s1.heap.objs.size + 3, s1.heap.objs.size, s1.heap.objs.size + 1], _, _, H1, rfl, I2, RZ.turn_zipT (PySem.W.ktu_apart s1.heap.objs.size a b (Heap.lt_size ho1) (Heap.lt_size ho2)), ⟨hz, hTI, ⟨_, _, hTO⟩, h1, h2⟩, fresh5, q⟩
      · obtain ⟨its, rv, p1, _⟩ := I1.list hqx
        obtain ⟨its2, rv2, p2, _⟩ := I1.tuple hqy
        obtain ⟨o2, ho2, _⟩ := id p2
        have la := p1.lt
        have lb := Heap.lt_size ho2
        refine zip_begins2 (begins_list a its.toArray) (begins_tuple b its2.toArray) p1.isList (show s1.heap.IsTuple b its2.toArray from p2) fun h' hz hTI hTO h1 h2 hsz hk => wpAny_pyIter_zip hz ?_
        have I2 : L2.Inv X pins σ H1 { s1 with heap := h' } := I1.kept (t' := s1.toks) hk
        have S : ZipSep2 (s1.heap.objs.size + 4) (s1.heap.objs.size + 2) (s1.heap.objs.size + 3) s1.heap.objs.size (s1.heap.objs.size + 1) [s1.heap.objs.size, a] [s1.heap.objs.size + 1, b] := zip_sep2 (fun c hc => by rw [List.mem_singleton.mp hc]; exact la) (fun c hc => by rw [List.mem_singleton.mp hc]; exact lb)
        exact ⟨s1.heap.objs.size + 4, [s1.heap.objs.size + 4, s1.heap.objs.size + 2, s1.heap.objs.size + 3, s1.heap.objs.size, s1.heap.objs.size + 1], _, _, H1, rfl, I2, turn_zipM S (Nat.ne_of_lt la) (Nat.ne_of_lt (Nat.lt_succ_of_lt lb)) S.TIi1, ⟨hz, hTI, ⟨_, _, hTO⟩, ⟨_, h1, rfl, rfl⟩, ⟨_, h2, rfl, rfl⟩⟩, fresh5, q⟩
end Cut
end

section
set_option maxHeartbeats 4000000
namespace Cut
open PySem PySem.Spec L2
theorem pairs_ofT {X : Cx} {pins : List (Addr × Obj)} {σ : St} {H : Hp} {s : Shared} (I : L2.Inv X pins σ H s) : ∀ {ps : List Addr} {kvs : List (Key × V)}, Paired (fun p kv => SqT X.K H p [kV kv.1, kv.2]) ps kvs →
    ∃ (prs : List (Key × Value)) (us : List (Value × Value)), KV kvs prs ∧ prs.length = ps.length ∧ us.length = ps.length ∧ (∀ (j : Nat) (k v : Value), us[j]? = some (k, v) → ∃ (b : Addr) (q : Key), ps[j]? = some b ∧ prs[j]? = some (q, v) ∧ s.heap.IsTuple b #[k, v] ∧ keyIs q k = true)
  | _, _, .nil => ⟨[], [], .nil, rfl, rfl, fun j k v e => by simp at e⟩
  | _, _, .cons (a := p) (b := kv) h t => by
    obtain ⟨prs, us, r, hl, hl2, hp⟩ := pairs_ofT I t
    obtain ⟨its, rv, ht, _⟩ := I.tuple h
    obtain ⟨u, y, ei, ru, ry⟩ := vals2 rv
    subst ei
    refine ⟨(kv.1, y) :: prs, (u, y) :: us, .cons ⟨rfl, ry⟩ r, by rw [List.length_cons, List.length_cons, hl], by rw [List.length_cons, List.length_cons, hl2], fun j k v e => ?_⟩
    cases j with
    | zero =>
      have e' : (u, y) = (k, v) := Option.some.inj e
      cases e'
      exact ⟨p, kv.1, rfl, rfl, ht, kV_is (P := X.prog) (w := X.w) ru⟩
    | succ j =>
      obtain ⟨b, q, e1, e2, e3, e4⟩ := hp j k v (by simpa using e)
      exact ⟨b, q, by simpa using e1, by simpa using e2, e3, e4⟩
theorem call_dictT {X : Cx} (hcalm : X.calm = true) : CallR X (.type "dict") (fun xs H Q => ∃ (a : Addr) (ps : List Addr) (kvs : List (Key × V)), xs = [.ref a] ∧ (∃ o, H a = some (.frz o (.tup (ps.map V.ref))) ∧ o.dict = none) ∧ Paired (fun p kv => SqT X.K H p [kV kv.1, kv.2]) ps kvs ∧
    ∀ p, H p = none → Q (.ref p) (upd H p (.dK (mergeK [] kvs)))) := by
  intro pins s σ H xs us Q I r q
  obtain ⟨a, ps, kvs, ex, ⟨o0, hq, hd0⟩, hp, q⟩ := q
  subst ex
  obtain ⟨u, eu, rx⟩ := vals1 r
  subst eu
  cases rx
  obtain ⟨ho, hz, its, rv, o, ho2, hc, n, hdat⟩ := I.hok a _ hq
  rw [ho] at ho2
  cases ho2
  have ei := refs_at rv
  subst ei
  rw [List.length_map] at hz
  obtain ⟨prs, us, rel, hl, hl2, hpr⟩ := pairs_ofT I hp
  refine call_dict_pairs (knd := mixKind X.prog X.w) (kvs := prs) (PairArg.tuple a (ps.map Value.ref).toArray (fun j => ps.getD j 0) us) (I.ok.hd hcalm) ⟨⟨o0, n, ho, hc, hd0, hdat⟩, by simp [hl2], fun j k v e => ?_⟩ ⟨by rw [hl, hl2], fun j k v e => ?_⟩ (by rw [hl2]; exact hz) fun h' tk hd' k => ?_
  · obtain ⟨b, q', e1, e2, e3, e4⟩ := hpr j k v e
    have eb : ps.getD j 0 = b := by
      rw [List.getD_eq_getElem?_getD, e1] <;> rfl
    refine ⟨by simp [e1], .inl ?_⟩
    show s.heap.IsTuple (ps.getD j 0) #[k, v]
    rw [eb]
    exact e3
  · obtain ⟨b, q', e1, e2, e3, e4⟩ := hpr j k v e
    exact ⟨q', e2, e4⟩
  · have hm : (s.heap.objs.size == sysModules) = false := beq_eq_false_iff_ne.mpr (Nat.ne_of_gt I.big)
    have hlen : (mergeK [] kvs).length ≤ sizeLine := by
      refine Nat.le_trans (length_mergeK kvs []) ?_
      rw [List.length_nil, Nat.zero_add, rel.length, hl]
      exact hz
    exact ⟨.ref s.heap.objs.size, upd H s.heap.objs.size (.dK (mergeK [] kvs)), I.laid (t' := tk) (fun b o e => k b o (by simp) e) (Nat.le_refl _) (show ObjOk X.prog X.w _ _ _ (.dK (mergeK [] kvs)) from ⟨hlen, hm, merged [] prs, KV.merge rel .nil, hd'⟩), rfl, q _ (I.hok.fresh (Nat.le_refl _))⟩
/-- tuple(list), as an object that is known to have no dict -/
theorem call_tuple_ofF {X : Cx} : CallR X (.type "tuple") (fun xs H Q => ∃ p ys, xs = [.ref p] ∧ SqL X.K H p ys ∧ ∀ (l : Addr) (o : Obj), o.dict = none → H l = none → Q (.ref l) (upd H l (.frz o (.tup ys)))) := by
  intro pins s σ H xs us Q I r h
  obtain ⟨p, ys, rfl, hq, q⟩ := h
  obtain ⟨u, rfl, rx⟩ := vals1 r
  cases rx
  obtain ⟨its, r', pl, hz⟩ := I.list hq
  have hlen := r'.length
  refine call_tuple_list pl.isList (fun h' kp => ?_) (by simp only [List.size_toArray] <;> omega)
  have I1 : L2.Inv X pins σ H { s with heap := h' } := I.kept (t' := s.toks) kp
  have I2 : L2.Inv X pins σ (upd H h'.objs.size (.frz { cls := .type "tuple", data := .seq its.toArray } (.tup ys))) { s with heap := h'.push { cls := .type "tuple", data := .seq its.toArray } } :=
    I1.laid (t' := s.toks) (fun b o e => Heap.get?_push_of_some _ e) (Nat.le_refl _) (show ObjOk X.prog X.w _ _ _ (.frz _ (.tup ys)) from ⟨Heap.get?_push_size _ rfl, hz, its, r', PyProof.Rows.IsTup.new _ _⟩)
  exact ⟨.ref h'.objs.size, _, I2, rfl, q _ _ rfl (I1.hok.fresh (Nat.le_refl _))⟩
def tTup0F : TE := fun _ H Q => ∀ (l : Addr) (o : Obj), o.dict = none → H l = none → Q (.ref l) (upd H l (.frz o (.tup [])))
theorem pe_tup0F {X : Cx} {x1 : Nat} {pos : Pos} : PE X (.Tuple [] x1 pos) tTup0F := by
  refine ⟨fun pins s σ H Q I q => ?_⟩
  refine wpAny_Tuple_spliced (thn ((pa_nil (X := X)).run pos pins s σ H (fun xs H1 => xs = [] ∧ H1 = H) I ⟨rfl, rfl⟩) fun us s1 ⟨xs, H1, I1, r, e1, e2⟩ => ?_)
  subst e1 e2
  cases r
  refine ⟨by show 0 ≤ sizeLine; exact Nat.zero_le _, ?_⟩
  have hf := I1.hok.fresh (Nat.le_refl s1.heap.objs.size)
  refine ⟨.ref s1.heap.objs.size, upd H1 s1.heap.objs.size (.frz { cls := .type "tuple", data := .seq ([] : List Value).toArray } (.tup [])), I1.laid (t' := s1.toks) (fun b u e => Heap.get?_push_of_some _ e) (Nat.le_refl _) ?_, rfl, q _ _ rfl hf⟩
  exact ⟨Heap.get?_push_size _ rfl, Nat.zero_le _, [], .nil, ⟨_, Heap.get?_push_size _ rfl, rfl, _, rfl⟩⟩
/-- t[lo:hi], not the whole -/
def rSlF (K : PySem.W.Frag) : V → Option Int → Option Int → Hp → VK → Prop := fun x lo hi H Q => ∃ a xs, x = .ref a ∧ SqT K H a xs ∧
  ¬ (HT.sIx xs.length 0 lo = 0 ∧ HT.sIx xs.length xs.length hi = xs.length) ∧ ∀ (p : Addr) (o : Obj), o.dict = none → H p = none → Q (.ref p) (upd H p (.frz o (.tup (cutV xs lo hi))))
theorem sl_tupF {X : Cx} : SlR X (rSlF X.K) := by
  intro pins s σ H x v vl vu lo hi sl Q I rx hs pl pu h
  obtain ⟨a, xs, rfl, hx, hw, q⟩ := h
  cases rx
  obtain ⟨its, r, ht, hz⟩ := I.tuple hx
  have hlen : its.toArray.size = xs.length := by rw [List.size_toArray]; exact r.length.symm
  refine ⟨"tuple", _, PyProof.Rows.slot_tuple_getitem.lookup, ht.typeIs, ?_⟩
  refine HT.getItem_tuple_cut ht hs pl pu (by rw [hlen]; exact hw) ?_ (by rw [hlen]; exact hz)
  rw [hlen]
  refine ⟨.ref s.heap.objs.size, _, I.laid (t' := s.toks) (o := .frz _ (.tup (cutV xs lo hi))) (fun b ob q => Heap.get?_push_of_some _ q) (Nat.le_refl _) ⟨Heap.get?_push_size _ rfl, ?_⟩, rfl, q _ _ rfl (I.hok.fresh (Nat.le_refl _))⟩
  exact ⟨Nat.le_trans (cutV_length xs lo hi) hz, _, (r.drop (HT.sIx xs.length 0 lo)).take (HT.sIx xs.length xs.length hi - HT.sIx xs.length 0 lo), PyProof.Rows.IsTup.new _ _⟩
theorem sl_tupFK {X : Cx} {K : PySem.W.Frag} (h : X.K = K) : SlR X (rSlF K) := by
  subst h
  exact sl_tupF
end Cut
end

section
set_option maxHeartbeats 4000000
namespace Cut
open PySem PySem.Spec L2
def tLenSet (K : PySem.W.Frag) (ta : TE) : TE := fun σ H Q => ta σ H fun x H1 => ∃ (l : Addr) (ns : List Int), x = .ref l ∧ SqT K H1 l (ns.map V.int) ∧ ns.Nodup ∧ ns.length ≤ 4000 ∧ Q (.int (ns.length : Nat)) H1
theorem pe_lenSet {X : Cx} {a : Expr} {ta : TE} {p p2 q pos : Pos} (hm : X.mg "len" = none) (hm2 : X.mg "set" = none) (ha : PE X a ta) (hg : Gl X "len" := by rfl) (hg2 : Gl X "set" := by rfl) (hc : X.calm = true := by rfl)
    (na : starEach [a] X.env = (false, eval a X.env) :: starEach [] X.env := by rfl) : PE X (.Call (.Name "len" p) [.Call (.Name "set" p2) [a] [] q] [] pos) (tLenSet X.K ta) := by
  refine ⟨fun pins s σ H Q I h => ?_⟩
  refine PyProof.Rows.Call_ (ld_blt I hg hm PySem.boot_len ?_)
  refine PyProof.Rows.callWith_builtin1 (PyProof.Rows.args_cons ?_ rfl) rfl rfl
  refine PyProof.Rows.Call_ (ld_blt I hg2 hm2 PyProof.Rows.boot_set ?_)
  refine PyProof.Rows.callWith_type1 (PyProof.Rows.args_cons (thn (ha.run pins s σ H _ I h) fun v s1 ⟨x, H1, I1, r1, q1⟩ => PyProof.Rows.args_nil ?_) na) na rfl
  obtain ⟨l, ns, rfl, hq, hnd, hl, q1⟩ := q1
  cases r1
  obtain ⟨its, r, pl, hz⟩ := I1.tuple hq
  refine call_set_tupI ns (I1.ok.hd hc) (show s1.heap.IsTuple l its.toArray from pl) (by simpa using r.ints) (by unfold scanBound; omega) fun h' tk c hS hc hk => ?_
  refine PyProof.Rows.args_nil ?_
  obtain ⟨o, es, ep, t, ho, hex, hd, _, hn1, hn2, _, hf, hn, _⟩ := hS
  have hp : (es.toList.map keyOf).Perm ns := (List.perm_ext_iff_of_nodup hn1 hnd).mpr fun k => by
    rw [← hn2 k]
    simp
  have hes : es.size = ns.length := by
    have q := hp.length_eq
    rw [List.length_map, Array.length_toList] at q
    exact q
  have I2 : L2.Inv X pins σ H1 { s1 with heap := h', toks := tk } := I1.kept fun b o e => hk b o e
  exact call_len_set ho hex hd hf (by omega) ⟨.int ns.length, H1, I2.tok _, ⟨_, by rw [hes]⟩, q1⟩
end Cut
end

section
set_option maxHeartbeats 4000000
namespace Cut
open PySem PySem.Spec L2
open PyProof.Rows
open PySem.W (KatLex kat_cons kat_yes kat_no kat_go kat_nil kat_lt kat_one kat_kind KatTups Looks kas_first_eq kas_mapM)
section
variable {prog : Program} {w : World} {A : Around} {E : Value → Shared → Prop} {s : Shared}
theorem katlex_ints {b : Bool} {Q : Bool → Shared → Prop} : ∀ {vs ws : List Value} {ns ms : List Int} (i : Nat), IntsAre vs ns → IntsAre ws ms → Q (HT.lexLt ns ms) s → KatLex prog w A b (decide (vs.length < ws.length)) Q (vs.zip ws) i s
  | _, _, _, _, i, .nil, .nil, q => by
    rw [HT.lexLt_nil_nil] at q
    exact kat_nil q
  | _, _, _, _, i, .nil, .cons m t r, q => by
    rw [HT.lexLt_nil_cons] at q
    exact kat_nil q
  | _, _, _, _, i, .cons m t r, .nil, q => by
    rw [HT.lexLt_cons_nil] at q
    exact kat_nil q
  | _, _, _, _, i, .cons (vs := vs) n t r, .cons (vs := ws) m u r', q => by
    rw [List.zip_cons_cons]
    refine kat_cons (SeqAt.EqAt.int_int n t m u prog w _ _ ?_)
    rw [HT.lexLt_cons] at q
    have e : decide ((Value.int n t :: vs).length < (Value.int m u :: ws).length) = decide (vs.length < ws.length) := by simp
    rw [e]
    refine kat_go (fun e1 => ?_) (fun e1 => ?_)
    · have ex : n = m := by simpa using e1
      rw [if_pos ex] at q
      exact kat_yes (katlex_ints (i + 1) r r' q)
    · have ex : ¬ n = m := by simpa using e1
      rw [if_neg ex] at q
      by_cases hb : (b && i == 0) = true
      · refine kat_no ?_
        rw [hb]
        exact oneLt_int q
      · refine kat_no ?_
        rw [show (b && i == 0) = false from by simpa using hb]
        exact kat_one _ _ (lt_int q)
/-- v is a tuple of these ints -/
def TupV (h : Heap) (v : Value) (ns : List Int) : Prop := ∃ (a : Addr) (its : List Value), v = .ref a ∧ IsTup h a its.toArray ∧ IntsAre its ns
theorem TupV.keeps {h h' : Heap} {v : Value} {ns : List Int} (x : TupV h v ns) (k : ∀ b o, h.get? b = some o → o.cls = .type "tuple" → h'.get? b = some o) : TupV h' v ns := by
  obtain ⟨a, its, e, ⟨o, ho, hc, r⟩, i⟩ := x
  exact ⟨a, its, e, ⟨o, k _ _ ho hc, hc, r⟩, i⟩
theorem TupV.type {M : Model} {h : Heap} {v : Value} {ns : List Int} (x : TupV h v ns) : Looks M h (typeOf v) (.type "tuple") := by
  obtain ⟨a, its, rfl, ⟨o, ho, hc, r⟩, i⟩ := x
  rw [← hc]
  exact (Looks.ld ho).andThen .now
theorem firstsO : ∀ (vs : List Value) (k : Value → List Int) {Q : List (Option Value) → Shared → Prop}, (∀ v ∈ vs, TupV s.heap v (k v)) →
    (∀ fs : List (Option Value), fs.length = vs.length → (∀ (i : Nat) (f : Option Value), fs[i]? = some f → ∃ v, vs[i]? = some v ∧ ((f = none ∧ k v = []) ∨ ∃ n t r, f = some (.int n t) ∧ k v = n :: r)) → Q fs s) → wpAny (model prog w) A (vs.mapM firstOfTuple') Q E s
  | [], _, _, _, h => by
    rw [List.mapM_nil]
    exact wpAny_pure (h [] rfl fun i f e => by simp at e)
  | v :: vs, k, Q, hv, h => by
    obtain ⟨a, its, rfl, ⟨o, ho, hc, n, hd⟩, hi⟩ := hv v (.head _)
    rw [List.mapM_cons]
    refine wpAny_bind ?_
    rw [kas_first_eq]
    refine wpAny_bind (Looks.here (show Looks (model prog w) s.heap (typeOf (.ref a)) o.cls from (Looks.ld ho).andThen .now) ?_)
    rw [hc, if_neg (by first | decide | simp)]
    refine wpAny_bind (listItems_at ho hd (wpAny_pure ?_))
    refine wpAny_bind (firstsO vs k (Q := fun bs s' => wpAny (model prog w) A (pure (its.toArray[0]? :: bs)) Q E s') (fun u hu => hv u (.tail _ hu)) fun fs hl hf => wpAny_pure (h _ (by simp [hl]) fun i f e => ?_))
    cases i with
    | zero =>
      have e' : its.toArray[0]? = f := by simpa using e
      refine ⟨_, rfl, ?_⟩
      generalize k (.ref a) = ns at hi
      cases hi with
      | nil => exact .inl ⟨by rw [← e'] <;> simp, rfl⟩
      | cons n t r => exact .inr ⟨n, t, _, by rw [← e'] <;> simp, rfl⟩
    | succ i =>
      obtain ⟨u, hu, r⟩ := hf i f (by simpa using e)
      exact ⟨u, by simpa using hu, r⟩
abbrev ltK (k : Value → List Int) (v u : Value) : Bool := HT.lexLt (k v) (k u)
theorem cmpT {b : Bool} {vs : List Value} {k : Value → List Int} (hv : ∀ v ∈ vs, TupV s.heap v (k v)) : SrtO.Cmp prog w A s (tuples' b) (fun p => p.1 ∈ vs) (SrtO.lt2 (ltK k)) := by
  intro p q hm hm'
  obtain ⟨a, its, e, ⟨o, ho, hc, n, hd⟩, hi⟩ := hv _ hm
  obtain ⟨a', its', e', ⟨o', ho', hc', n', hd'⟩, hi'⟩ := hv _ hm'
  show wpAny (model prog w) A (keyLt' (tuples' b) p.1 q.1) (fun r s' => s' = s ∧ r = HT.lexLt (k p.1) (k q.1)) (fun _ _ => False) s
  generalize k p.1 = ns at hi ⊢
  generalize k q.1 = ms at hi' ⊢
  rw [e, e']
  refine kat_lt ho hd ho' hd' ?_
  have h := katlex_ints (prog := prog) (w := w) (A := A) (s := s) (b := b) (Q := fun r s' => s' = s ∧ r = HT.lexLt ns ms) 0 hi hi' ⟨rfl, rfl⟩
  simpa using h
theorem cmpG {vs : List Value} {k : Value → List Int} (hu : A.units < cLine) (hv : ∀ v ∈ vs, TupV s.heap v (k v)) : SrtO.Cmp prog w A s general' (fun p => p.1 ∈ vs) (SrtO.lt2 (ltK k)) := by
  intro p q hm hm'
  obtain ⟨a, its, e, ht, hi⟩ := hv _ hm
  obtain ⟨a', its', e', ht', hi'⟩ := hv _ hm'
  show wpAny (model prog w) A (oneLt' false p.1 q.1) (fun r s' => s' = s ∧ r = HT.lexLt (k p.1) (k q.1)) (fun _ _ => False) s
  generalize k p.1 = ns at hi ⊢
  generalize k q.1 = ms at hi' ⊢
  rw [e, e']
  refine kat_one _ _ (HT.lt_tupInts ht ht' (by simpa using hi) (by simpa using hi') hu ?_)
  exact (show s = s ∧ _ from ⟨rfl, rfl⟩)
theorem isinst_tup {M : Model} {h : Heap} {a : Addr} {its : Array Value} (t : IsTup h a its) : Looks M h (isInstance (.ref a) (.type "tuple")) true := fun A Q E s k q => by
  obtain ⟨o, ho, hc, _⟩ := t
  exact wpAny_isInstance (T := "tuple") ⟨o, k _ _ ho, hc⟩ sub_tuple_self q
theorem cmpO {vs : List Value} {k : Value → List Int} (hu : A.units < cLine) (hv : ∀ v ∈ vs, TupV s.heap v (k v)) : SrtO.Cmp prog w A s oneType' (fun p => p.1 ∈ vs) (SrtO.lt2 (ltK k)) := by
  intro p q hm hm'
  obtain ⟨a, its, e, ht, hi⟩ := hv _ hm
  obtain ⟨a', its', e', ht', hi'⟩ := hv _ hm'
  show wpAny (model prog w) A (oneLt' true p.1 q.1) (fun r s' => s' = s ∧ r = HT.lexLt (k p.1) (k q.1)) (fun _ _ => False) s
  generalize k p.1 = ns at hi ⊢
  generalize k q.1 = ms at hi' ⊢
  rw [e, e']
  obtain ⟨⟨cls, dd, data, sl⟩, ho, hc, n, hd⟩ := id ht
  obtain ⟨⟨cls2, dd2, data2, sl2⟩, ho2, hc2, n2, hd2⟩ := id ht'
  simp only at hc hd hc2 hd2
  subst hc hd hc2 hd2
  rw [oneLt'_eq]
  simp only [if_true]
  refine wpAny_bind (wpAny_cRoomFor hu ?_)
  refine wpAny_bind (wpAny_callSpecialIfBound?_slot (T := "tuple") ⟨_, ho, rfl⟩ F.slot_tuple_lt (call_meets F.slot_tuple_lt ⟨_, ho, rfl⟩ F.entry_tuple_lt (F.args_tuple_lt_2 _ _) (NtL.nt_lt_ints a a' _ _ its.toArray its'.toArray n n2 dd dd2 sl sl2 ns ms (by simpa using hi) (by simpa using hi')) ⟨ho, ho2, fun M => isinst_tup ht', ?_⟩))
  exact wpAny_truthy_bool (show s = s ∧ _ from ⟨rfl, rfl⟩)
theorem katT : ∀ {vs : List Value} {k : Value → List Int} {h : Heap}, (∀ v ∈ vs, TupV h v (k v) ∧ k v ≠ []) → ∃ fs, KatTups h vs fs ∧ fs.length = vs.length ∧ ∀ f ∈ fs, ∃ x t, f = Value.int x t
  | [], _, _, _ => ⟨[], KatTups.nil, rfl, fun f hf => absurd hf (by simp)⟩
  | v :: vs, k, h, hv => by
    obtain ⟨fs, h1, h2, h3⟩ := katT (vs := vs) (k := k) fun u hu => hv u (.tail _ hu)
    obtain ⟨⟨a, its, rfl, ⟨o, ho, hc, n, hd⟩, hi⟩, ne⟩ := hv v (.head _)
    generalize k (.ref a) = ns at hi ne
    cases hi with
    | nil => exact absurd rfl ne
    | cons x t r =>
      refine ⟨.int x t :: fs, KatTups.cons ho hc hd (by simp) h1, by simp [h2], fun f hf => ?_⟩
      rcases List.mem_cons.mp hf with e | hf
      · exact ⟨x, t, e⟩
      · exact h3 f hf
theorem kind_of {vs : List Value} {k : Value → List Int} {h' : Heap} (h2 : 2 ≤ vs.length) (hv' : ∀ v ∈ vs, TupV h' v (k v)) :
    ∃ κ, (κ = tuples' true ∨ κ = general' ∨ κ = oneType') ∧ ∀ (Q : SortKind → Shared → Prop) (E : Value → Shared → Prop), Q κ { s with heap := h' } → wpAny (model prog w) A (keyKind' vs.toArray) Q E { s with heap := h' } := by
  by_cases hall : ∀ v ∈ vs, k v ≠ []
  · obtain ⟨fs, h1, h3, h4⟩ := katT (h := h') fun v hm => ⟨hv' v hm, hall v hm⟩
    refine ⟨tuples' true, .inl rfl, fun Q E hq => ?_⟩
    refine kat_kind (s := { s with heap := h' }) (T := .type "int") h1 (by omega) (fun f hm => ?_) (by rfl) ?_
    · obtain ⟨x, t, rfl⟩ := h4 f hm
      exact Looks.now
    · have e : (Value.type "int" != Value.type "tuple") = true := by first | decide +kernel | rfl | decide
      rw [e]
      exact hq
  · obtain ⟨v0, vr, rfl⟩ : ∃ v0 vr, vs = v0 :: vr := by
      match vs, h2 with
      | v0 :: vr, _ => exact ⟨v0, vr, rfl⟩
    have run : ∀ {κ : SortKind} {Q : SortKind → Shared → Prop} {E : Value → Shared → Prop}, ((k v0 ≠ [] ∧ κ = general') ∨ (k v0 = [] ∧ κ = oneType')) → Q κ { s with heap := h' } → wpAny (model prog w) A (keyKind' (v0 :: vr).toArray) Q E { s with heap := h' } := by
      intro κ Q E hκ hq
      rw [keyKind'_eq, List.mapM_toArray, map_eq_pure_bind]
      refine wpAny_bind (wpAny_bind (firstsO (s := { s with heap := h' }) (v0 :: vr) k hv' fun fs hl hf => wpAny_pure ?_))
      have hno : fs.toArray.all (fun x => x.isSome) = false := by
        rw [List.all_toArray]
        cases ha : fs.all (fun x => x.isSome) with
        | false => rfl
        | true =>
          refine absurd (fun v hm => ?_) hall
          obtain ⟨i, hi⟩ := List.mem_iff_getElem?.mp hm
          have hil : i < fs.length := by
            rw [hl]
            exact (List.getElem?_eq_some_iff.mp hi).1
          obtain ⟨u, hu, r⟩ := hf i fs[i] (List.getElem?_eq_getElem hil)
          have e : u = v := Option.some.inj (hu.symm.trans hi)
          subst e
          rcases r with ⟨r1, r2⟩ | ⟨n, t, r, _, r2⟩
          · have q := List.all_eq_true.mp ha fs[i] (List.getElem_mem hil)
            rw [r1] at q
            cases q
          · rw [r2]
            exact fun z => nomatch z
      rw [hno, if_neg (by decide)]
      obtain ⟨f0, fr, rfl⟩ : ∃ f0 fr, fs = f0 :: fr := by
        match fs, hl with
        | f0 :: fr, _ => exact ⟨f0, fr, rfl⟩
      obtain ⟨u, hu, r0⟩ := hf 0 f0 rfl
      have eu : v0 = u := by simpa using hu
      subst eu
      have h0 : ((f0 :: fr).toArray[0]?.bind id) = f0 := by simp
      rw [h0]
      rcases r0 with ⟨r1, r2⟩ | ⟨n, t, r, r1, r2⟩
      · rcases hκ with ⟨z, _⟩ | ⟨_, e⟩
        · exact absurd r2 z
        · subst e
          rw [r1, if_neg (by decide), oneTypeOnly'_eq, List.mapM_toArray, map_eq_pure_bind]
          refine wpAny_bind (wpAny_bind (wpAny_bind (kas_mapM (r := Value.type "tuple") _ (fun v hm Q' hq' => (hv' v hm).type.here hq') (wpAny_pure ?_))))
          have hall2 : ((List.map (fun _ => Value.type "tuple") (v0 :: vr)).toArray.all fun x => x == Value.type "tuple") = true := by
            simp only [List.all_toArray, List.all_map, List.all_eq_true]
            intro _ _
            rfl
          have h0 : (List.map (fun _ => Value.type "tuple") (v0 :: vr)).toArray[0]? = some (Value.type "tuple") := by simp
          rw [h0]
          simp only [hall2, if_true]
          exact wpAny_pure (wpAny_pure hq)
      · rcases hκ with ⟨_, e⟩ | ⟨z, _⟩
        · subst e
          rw [r1, if_pos (show (some (Value.int n t)).isSome = true from rfl)]
          exact wpAny_pure hq
        · rw [r2] at z
          cases z
    by_cases h0 : k v0 = []
    · exact ⟨oneType', .inr (.inr rfl), fun Q E hq => run (.inr ⟨h0, rfl⟩) hq⟩
    · exact ⟨general', .inr (.inl rfl), fun Q E hq => run (.inl ⟨h0, rfl⟩) hq⟩
theorem sortableT {a : Addr} {vs : List Value} {k : Value → List Int} (hu : A.units < cLine) (h2 : 2 ≤ vs.length) (hv : ∀ v ∈ vs, TupV s.heap v (k v)) (ha : ∀ o, s.heap.get? a = some o → o.cls ≠ .type "tuple") : SrtO.SortableO prog w A s a vs (ltK k) := by
  intro h' keep
  have hv' : ∀ v ∈ vs, TupV h' v (k v) := fun v hm => (hv v hm).keeps fun b o e c => keep b o (fun z => by subst z; exact ha o e c) e
  obtain ⟨κ, hκ, hk⟩ := kind_of (prog := prog) (w := w) (A := A) (s := s) h2 hv'
  refine ⟨κ, hk, ?_⟩
  rcases hκ with e | e | e <;> subst e
  · exact cmpT (s := { s with heap := h' }) hv'
  · exact cmpG (s := { s with heap := h' }) hu hv'
  · exact cmpO (s := { s with heap := h' }) hu hv'
theorem collect_seq {T : String} {l : Addr} {vs : List Value} {Q : List Value → Shared → Prop} (hT : T = "list" ∨ T = "tuple") (hl : ∃ o, s.heap.get? l = some o ∧ o.cls = .type T ∧ ∃ n, o.data = .seq vs.toArray n)
    (h : Q vs { s with heap := (s.heap.push (seqObj "list" #[] 0)).update s.heap.objs.size (Obj.mapSeq (· ++ vs.toArray)) }) (hsz : vs.length ≤ sizeLine) :
    wpAny (model prog w) A (collect (.ref l)) Q E s := by
  obtain ⟨o, ho, hc, n, hd⟩ := id hl
  unfold collect
  refine wpAny_bind (wpAny_runValue (codeAny_builtin entry_proto_collect' ?_))
  show wpAny _ _ (do again (.builtin "list.__iadd__" ⟨[← newList [], .ref l], []⟩)) _ _ s
  refine wpAny_bind (wpAny_newList (wpAny_pure ⟨Code.quiet_builtin _ (by decide +kernel), codeAny_builtin entry_list_iadd' ?_⟩))
  show wpAny _ _ (Builtin.List.listExtendWith (.ref s.heap.objs.size) (.ref l) (.ref s.heap.objs.size)) _ _ { s with heap := s.heap.push (seqObj "list" #[] 0) }
  unfold Builtin.List.listExtendWith
  have ho' : (s.heap.push (seqObj "list" #[] 0)).get? l = some o := Heap.get?_push_of_some _ ho
  refine wpAny_bind (wpAny_typeOf (T := T) ⟨o, ho', hc⟩ ?_)
  have ht : (Value.type T == Value.type "list" || Value.type T == Value.type "tuple") = true := by
    rcases hT with e | e <;> subst e <;> decide
  first
  | rw [if_pos (by rcases hT with e | e <;> subst e <;> simp)]
  | rw [if_pos (by simp [ht])]
  refine wpAny_bind (listItems_at ho' hd ?_)
  refine wpAny_bind (listItems_at (xs := #[]) (n := 0) (Heap.get?_push_size _ rfl) rfl ?_)
  rw [if_neg (by simp)]
  refine wpAny_bind (listUpdate_at (xs := #[]) (n := 0) (Heap.get?_push_size _ rfl) rfl ?_ (Nat.zero_le _) (by show (#[] ++ vs.toArray).size ≤ sizeLine + 1; simp only [Array.size_append, List.size_toArray, List.length_nil]; omega))
  refine wpAny_pure ?_
  show wpAny (model prog w) A (do
      let o ← load s.heap.objs.size
      match o.data with
      | .seq xs _ => pure xs.toList
      | _ => unsupported "internal:collect") Q E { s with heap := (s.heap.push (seqObj "list" #[] 0)).update s.heap.objs.size (Obj.mapSeq (· ++ vs.toArray)) }
  refine wpAny_bind (wpAny_load (get?_update_seq (Heap.get?_push_size _ rfl) _) ?_)
  show wpAny _ _ (pure ((#[] : Array Value) ++ vs.toArray).toList) Q E _
  rw [show ((#[] : Array Value) ++ vs.toArray).toList = vs by simp]
  exact wpAny_pure h
/-- sorted(x), x gathered as vs -/
theorem sorted_col {x : Value} {vs : List Value} {k : Value → List Int} {Q : Value → Shared → Prop} (hu : A.units + 16 < cLine) (hz : vs.length ≤ sizeLine) (hv : ∀ v ∈ vs, TupV s.heap v (k v))
    (hcol : ∀ R : List Value → Shared → Prop, (∀ (h1 : Heap) (tk : Nat), (∀ b o, s.heap.get? b = some o → h1.get? b = some o) → R vs { s with heap := h1, toks := tk }) → wpAny (model prog w) A.in1 (collect x) R E s)
    (h : ∀ (h1 h' : Heap) (tk : Nat) (out : List Value), SrtO.Srtd (ltK k) out → SrtO.Stb (ltK k) out vs → (∀ b o, s.heap.get? b = some o → h1.get? b = some o) → (∀ b o, h1.get? b = some o → h'.get? b = some o) → (∃ n, h'.get? h1.objs.size = some (seqObj "list" out.toArray n)) → Q (.ref h1.objs.size) { s with heap := h', toks := tk }) :
    wpAny (model prog w) A (call (.builtin "sorted") [x]) Q E s := by
  refine Calls.call_function_entry kind_sorted plain_sorted entry_sorted (args_sorted1 _) ?_
  unfold Builtin.«sorted»
  refine wpAny_bind (m := checkCount "sorted" 1 1 _) (wpAny_pure ?_)
  refine wpAny_bind (hcol _ fun h1 tk k1 => ?_)
  refine wpAny_bind (wpAny_newList ?_ hz)
  have hoL : (h1.push (seqObj "list" vs.toArray 0)).get? h1.objs.size = some (seqObj "list" vs.toArray 0) := Heap.get?_push_size _ rfl
  have k2 : ∀ b o, s.heap.get? b = some o → (h1.push (seqObj "list" vs.toArray 0)).get? b = some o := fun b o e => Heap.get?_push_of_some _ (k1 b o e)
  show wpAny _ _ _ _ _ { s with heap := h1.push (seqObj "list" vs.toArray 0), toks := tk }
  refine wpAny_bind (wpAny_holding (wpAny_call_entry slot_list_sort ⟨_, hoL, rfl⟩ entry_list_sort (SrtO.list_sort_ord (s := { s with heap := h1.push (seqObj "list" vs.toArray 0), toks := tk }) (NtL.swo_lexL k) hoL hz (fun h2 =>
    sortableT (s := { s with heap := h1.push (seqObj "list" vs.toArray 0), toks := tk }) (by show A.units + 1 + 1 < cLine; omega) h2 (fun v hm => (hv v hm).keeps fun b o e _ => k2 b o e) fun o e => ?_) fun out hs hb => ⟨_, rfl, ?_⟩) (args_list_sort _)))
  · have e' : some o = some (seqObj "list" vs.toArray 0) := e.symm.trans hoL
    cases e'
    intro c
    exact absurd (Value.type.inj c) (by decide)
  · obtain ⟨n, hn⟩ := sortedHeap_at (vs := vs) (out := out.toArray) hoL
    refine wpAny_pure ⟨_, rfl, h h1 _ _ out hs hb k1 (fun b o q => ?_) ⟨n, hn⟩⟩
    have hb' := Heap.lt_size q
    show (sortedHeap (h1.push (seqObj "list" vs.toArray 0)) h1.objs.size vs out.toArray).get? b = some o
    rw [sortedHeap_old (Nat.ne_of_lt hb') (by rw [size_push']; exact Nat.lt_succ_of_lt hb')]
    exact Heap.get?_push_of_some _ q
end
/-! ### the rules -/
abbrev TupI (K : PySem.W.Frag) (H : Hp) (x : V) (ns : List Int) : Prop := ∃ t, x = .ref t ∧ SqT K H t (ns.map V.int)
def SortedBy (k : V → List Int) (xs ys : List V) : Prop := ys.Perm xs ∧ ys.Pairwise (fun x y => HT.lexLt (k y) (k x) = false)
def rSortU2 (K : PySem.W.Frag) : List V → Hp → VK → Prop := fun vs H Q => ∃ (a : Addr) (xs : List V) (k : V → List Int), vs = [V.ref a] ∧ (SqL K H a xs ∨ SqT K H a xs) ∧ (∀ x ∈ xs, TupI K H x (k x)) ∧
  ∀ (ys : List V) (p : Addr), SortedBy k xs ys → H p = none → Q (.ref p) (upd H p (.lst ys))
def rSortKT : List V → Hp → VK → Prop := fun vs H Q => ∃ (a : Addr) (kvs : List (List Key × V)) (ks : List (List Int)), vs = [V.ref a] ∧ H a = some (.dT kvs) ∧ kvs.map (·.1) = ks.map (fun n => n.map Sum.inl) ∧
  ∀ (bs : List (Addr × List Int)) (p : Addr), (bs.map (·.2)).Perm ks → (bs.map (·.2)).Pairwise (fun x y => HT.lexLt y x = false) → (∀ b ∈ bs, H b.1 = some (.tup (b.2.map V.int))) → H p = none → Q (.ref p) (upd H p (.lst (bs.map fun b => V.ref b.1)))
section
variable {X : Cx} {pins : List (Addr × Obj)} {σ : L2.St} {H : Hp} {s : Shared}
theorem tupV_of (I : L2.Inv X pins σ H s) {t : Addr} {ns : List Int} (h : SqT X.K H t (ns.map V.int)) : TupV s.heap (.ref t) ns := by
  obtain ⟨its, rv, hT, _⟩ := I.tuple h
  exact ⟨t, its, rfl, hT, rv.ints⟩
theorem cr_sorted3 (hu : X.A.units + 16 < cLine) : CallR X (.builtin "sorted") (rSortU2 X.K) := by
  intro pins s σ H vs us Q I r h
  obtain ⟨a, xs, k, rfl, hs, hx, q⟩ := h
  rw [Vals.ref1 r]
  obtain ⟨T, its, rv, hT, hl, hz⟩ : ∃ (T : String) (its : List Value), Vals xs its ∧ (T = "list" ∨ T = "tuple") ∧ (∃ o, s.heap.get? a = some o ∧ o.cls = .type T ∧ ∃ n, o.data = .seq its.toArray n) ∧ xs.length ≤ sizeLine := by
    rcases hs with hs | hs
    · obtain ⟨its, rv, hl, hz⟩ := I.list hs
      exact ⟨"list", its, rv, .inl rfl, hl.isList, hz⟩
    · obtain ⟨its, rv, hl, hz⟩ := I.tuple hs
      exact ⟨"tuple", its, rv, .inr rfl, hl, hz⟩
  obtain ⟨e1, e2⟩ := bkV_refs rv fun x m => by
    obtain ⟨t, e, _⟩ := hx x m
    exact ⟨t, e⟩
  refine sorted_col (k := fun u => k (bkV u)) hu (by rw [← rv.length]; exact hz) (fun v hv => ?_) (fun R hR => ?_) fun h1 h' tk out o1 o2 k1 k2 hn => ?_
  · obtain ⟨t, rfl⟩ := e2 v hv
    have hm : V.ref t ∈ xs := by
      rw [e1]
      exact List.mem_map.mpr ⟨_, hv, rfl⟩
    obtain ⟨t', e, ht⟩ := hx _ hm
    cases e
    exact tupV_of I ht
  · refine collect_seq hT hl (hR _ s.toks fun b o e => ?_) (by rw [← rv.length]; exact hz)
    rw [Heap.get?_update_ne _ _ _ _ (Nat.ne_of_lt (Heap.lt_size e))]
    exact Heap.get?_push_of_some _ e
  · have I1 : L2.Inv X pins σ H { s with heap := h1, toks := tk } := I.kept k1
    obtain ⟨n, hn⟩ := hn
    have h3 : ∀ u ∈ out, ∃ a, u = Value.ref a := fun u hu => e2 u (o2.perm.mem_iff.mp hu)
    have hp : (out.map bkV).Perm xs := by
      rw [e1]
      exact o2.perm.map bkV
    have hlen : (out.map bkV).length ≤ sizeLine := by
      rw [hp.length_eq]
      exact hz
    refine ⟨.ref h1.objs.size, upd H h1.objs.size (.lst (out.map bkV)), I1.laid (t' := tk) k2 (Nat.le_refl _) ⟨hlen, out, n, bkV_vals h3, hn⟩, rfl, q _ _ ⟨hp, ?_⟩ (I1.hok.fresh (Nat.le_refl _))⟩
    exact List.pairwise_map.mpr o1
theorem key_ints {H : Hp} {q : List Int} : ((q.map Sum.inl : List Key)).map kV = q.map V.int := by
  rw [List.map_map] <;> rfl
theorem cr_sortedKT (hc : X.calm = true) (hu : X.A.units + 16 < cLine) : CallR X (.builtin "sorted") rSortKT := by
  intro pins s σ H vs us Q I r h
  obtain ⟨d, kvs, kss, rfl, hd, hks, q⟩ := h
  rw [Vals.ref1 r]
  obtain ⟨z, hs, ks, pr, o, es, ep, ho, hx, hdt, he, hn⟩ := (show ObjOk X.prog X.w H s.heap d (.dT kvs) from I.hok d _ hd)
  have l1 : es.size = ks.length := size_of_entries he
  have l2 : kvs.length = ks.length := Paired.length pr
  have hkk : ks.map (·.1) = kss.map (fun n => n.map Sum.inl) := by
    rw [← hks]
    clear hks he l1 l2 q z hd hn
    induction pr with
    | nil => rfl
    | cons h t ih => rw [List.map_cons, List.map_cons, h.1, ih]
  -- the keys' objects
  have hkt : ∀ x ∈ ks, H x.2.1 = some (.tup (x.1.map kV)) := by
    clear hks he l1 l2 q z hkk hd hn
    induction pr with
    | nil => intro x hx; cases hx
    | cons h t ih =>
      intro x hx
      rcases List.mem_cons.mp hx with e | hx
      · subst e
        rw [← h.1]
        exact h.2.1
      · exact ih x hx
  -- as pairs (address, ints)
  obtain ⟨bs, hb1, hb2⟩ : ∃ bs : List (Addr × List Int), bs.map (·.1) = ks.map (·.2.1) ∧ bs.map (·.2) = kss ∧ ∀ b ∈ bs, H b.1 = some (.tup (b.2.map V.int)) := by
    clear hks he l1 l2 q z pr hn
    induction ks generalizing kss with
    | nil =>
      cases kss with
      | nil => exact ⟨[], rfl, rfl, fun b hb => nomatch hb⟩
      | cons x r => simp at hkk
    | cons x r ih =>
      cases kss with
      | nil => simp at hkk
      | cons n r' =>
        rw [List.map_cons, List.map_cons, List.cons.injEq] at hkk
        obtain ⟨bs, b1, b2, b3⟩ := ih r' hkk.2 fun y hy => hkt y (.tail _ hy)
        refine ⟨(x.2.1, n) :: bs, by rw [List.map_cons, List.map_cons, b1], by rw [List.map_cons, b2], fun b hb => ?_⟩
        rcases List.mem_cons.mp hb with e | hb
        · subst e
          have q := hkt x (.head _)
          rw [hkk.1, key_ints (H := H)] at q
          exact q
        · exact b3 b hb
  obtain ⟨hb2, hb3⟩ := hb2
  have hkT : ∀ b ∈ bs, TupV s.heap (.ref b.1) b.2 := fun b hb => tupV_of I (sq_t (hb3 b hb))
  have hfun : ∀ b ∈ bs, ∀ c ∈ bs, b.1 = c.1 → b.2 = c.2 := fun b hb c hc e => by
    have h1 := hb3 b hb
    have h2 := hb3 c hc
    rw [e, h2] at h1
    have h3 := Option.some.inj h1
    injection h3 with h3
    exact (List.map_inj_right (fun x y z => by injection z)).mp h3.symm
  let k : Value → List Int := fun v => match bs.find? (fun b => v == .ref b.1) with | some b => b.2 | none => []
  have hk : ∀ b ∈ bs, k (.ref b.1) = b.2 := fun b hb => by
    show (match bs.find? (fun c => Value.ref b.1 == .ref c.1) with | some b => b.2 | none => []) = b.2
    cases hf : bs.find? (fun c => Value.ref b.1 == .ref c.1) with
    | none =>
      have := List.find?_eq_none.mp hf b hb
      simp at this
    | some c =>
      have h1 := List.find?_some hf
      have h2 := List.mem_of_find?_eq_some hf
      have e : b.1 = c.1 := by simpa using h1
      exact (hfun b hb c h2 e).symm
  refine sorted_col (vs := bs.map fun b => Value.ref b.1) (k := k) hu (by rw [List.length_map]; have q1 := congrArg List.length hb1; rw [List.length_map, List.length_map] at q1; omega) (fun v hv => ?_) (fun R hR => ?_) fun h1 h' tk out o1 o2 k1 k2 hn => ?_
  · obtain ⟨b, hb, rfl⟩ := List.mem_map.mp hv
    rw [hk b hb]
    exact hkT b hb
  · refine PySem.W.kdu_collect (A := X.A.in1) (kdl_raw hs hx hdt) (I.ok.hd hc) ho (by omega) fun h1 tk acc kp it => ?_
    have ea : acc.toList = bs.map fun b => Value.ref b.1 := by
      have hl : acc.toList.length = ks.length := by rw [Array.length_toList, it.1]; exact l1
      have e0 : (bs.map fun b => Value.ref b.1) = ks.map fun x => Value.ref x.2.1 := by
        have q1 := congrArg (List.map Value.ref) hb1
        rw [List.map_map, List.map_map] at q1
        exact q1
      rw [e0]
      apply List.ext_getElem?
      intro j
      rw [List.getElem?_map]
      cases hj : acc.toList[j]? with
      | none =>
        have h1 := List.getElem?_eq_none_iff.mp hj
        rw [List.getElem?_eq_none (by omega)]
        all_goals rfl
      | some v =>
        obtain ⟨en, hen, hv⟩ := it.2 j v (by rw [← Array.getElem?_toList]; exact hj)
        have qe := entry_at he j
        rw [hen] at qe
        cases hb : ks[j]? with
        | none =>
          rw [hb] at qe
          exact nomatch (show some en = none from qe)
        | some b =>
          rw [hb] at qe
          have e2 : en = entryOfKey (tupleKind (mixKind X.prog X.w)) b := Option.some.inj qe
          rw [hv, e2]
          all_goals rfl
    rw [ea]
    exact hR h1 tk kp
  · have I1 : L2.Inv X pins σ H { s with heap := h1, toks := tk } := I.kept k1
    obtain ⟨n, hn⟩ := hn
    obtain ⟨zs, pz, ez⟩ := perm_lift (fun b : Addr × List Int => Value.ref b.1) o2.perm bs rfl
    have hzb : ∀ b ∈ zs, b ∈ bs := fun b hb => pz.mem_iff.mp hb
    have hsrt : (zs.map (·.2)).Pairwise (fun x y => HT.lexLt y x = false) := by
      have o1' : (zs.map fun b => Value.ref b.1).Pairwise (fun x y => ltK k y x = false) := by
        rw [ez]
        exact o1
      rw [List.pairwise_map] at o1' ⊢
      refine List.Pairwise.imp_of_mem (fun {x y} hx hy h => ?_) o1'
      have e : HT.lexLt (k (.ref y.1)) (k (.ref x.1)) = false := h
      rw [hk y (hzb y hy), hk x (hzb x hx)] at e
      exact e
    have hlen : (zs.map fun b => V.ref b.1).length ≤ sizeLine := by
      have q1 := congrArg List.length hb1
      rw [List.length_map, List.length_map] at q1
      rw [List.length_map, pz.length_eq]
      omega
    have rv : Vals (zs.map fun b => V.ref b.1) out := by
      rw [← ez]
      clear ez pz hzb hsrt hlen
      induction zs with
      | nil => exact .nil
      | cons b r ih => exact .cons rfl ih
    refine ⟨.ref h1.objs.size, upd H h1.objs.size (.lst (zs.map fun b => V.ref b.1)), I1.laid (t' := tk) k2 (Nat.le_refl _) ⟨hlen, out, n, rv, hn⟩, rfl, q zs _ ?_ hsrt (fun b hb => hb3 b (hzb b hb)) (I1.hok.fresh (Nat.le_refl _))⟩
    rw [← hb2]
    exact pz.map (·.2)
end
end Cut
end

section
set_option maxHeartbeats 4000000
namespace Cut
open PySem PySem.Spec L2
theorem get_list {X : Cx} : PGet X (rGetL X.K) := by
  intro pins s σ H o i ov iv Q I ro ri h
  obtain ⟨p, xs, k, z, rfl, rfl, hq, he, q⟩ := h
  cases ro
  obtain ⟨t, rfl⟩ := ri
  obtain ⟨its, r, pl, hz⟩ := I.list hq
  obtain ⟨j, h1, h2, h3, h4, h5⟩ := atI_get he
  obtain ⟨w, ew, rw'⟩ := r.get h2
  have hl := r.length
  have hn := line63
  have fin : EP X pins σ Q w s := ⟨z, H, I, rw', q⟩
  by_cases h0 : 0 ≤ k
  · have hj : k.toNat = j := by
      rw [seqIndex_of h0 h5] at h1
      exact Option.some.inj h1
    refine wpAny_getItem_list pl.isList h0 (by omega) ?_ fin
    rw [hj]
    simpa using ew
  · have hj : (k + (its.toArray.size : Int)).toNat = j := by
      rw [seqIndex_neg (by omega) h4] at h1
      rw [List.size_toArray, ← hl]
      exact Option.some.inj h1
    exact wpAny_getItem_list_neg pl.isList (by omega) (by rw [List.size_toArray] <;> omega) (by omega) (by rw [hj]; simpa using ew) fin
/-! ### a, o.f = .. -/
def gFld (K : PySem.W.Frag) (to : TE) (f : Str) : TG := fun v σ H Q => to σ H fun o H1 => ∃ a C dx fs, o = .ref a ∧ H1 a = some (.ins C dx fs) ∧ Cls K C ∧ NoAttr K C f ∧ fs.length < 1000 ∧ Q σ (upd H1 a (.ins C dx (putF f v fs)))
theorem pg_fld {X : Cx} {o : Expr} {f : Str} {to : TE} {pos : Pos} (ho : PE X o to) : PG X (.Attribute o f pos) (gFld X.K to f) := by
  refine ⟨fun pins s σ H v u Q I r h => ?_⟩
  have ha : assign (.Attribute o f pos) X.env u = (do
      let ov ← holding [u] (eval o X.env)
      standAt pos.atName
      holding [u, ov] (setAttr ov f u)
      release [u, ov] []) := rfl
  rw [ha]
  refine wpAny_bind (wpAny_holding (thn (ho.run pins s σ H _ I h) fun ov s1 ⟨x, H1, I1, r1, q1⟩ => ?_))
  obtain ⟨a, C, dx, fs, ex, ea, c, n, l, q⟩ := q1
  subst ex
  obtain rfl : ov = Value.ref a := r1
  refine wpAny_bind (wpAny_standAt (wpAny_bind (wpAny_holding (setattr_ok I1 ea c n l r fun s3 I3 => ?_))))
  exact wpAny_release ⟨σ, _, I3, q⟩
end Cut
end

section
set_option maxHeartbeats 4000000
namespace Cut
open PySem PySem.Spec L2
open PyProof.V
/-! ### sum(tuple) -/
def rSumT (K : PySem.W.Frag) : List V → Hp → VK → Prop := fun vs H Q => ∃ (a : Addr) (ns : List Int), vs = [V.ref a] ∧ SqT K H a (ns.map V.int) ∧ Q (.int ns.sum) H
theorem cr_sumT {X : Cx} (hc : X.calm = true) : CallR X (.builtin "sum") (rSumT X.K) := by
  intro pins s σ H vs us Q I r h
  obtain ⟨a, ns, rfl, hs, q⟩ := h
  obtain ⟨its, rv, hl, _⟩ := I.tuple hs
  rw [Vals.ref1 r]
  have hi := rv.ints
  obtain ⟨xs, e⟩ := hi.allInts.items
  have hn : numsOf (intItems xs).toList = ns := by rw [← e]; exact hi.numsOf
  rw [nums_intItems] at hn
  have hl' : s.heap.IsTuple a its.toArray := hl
  rw [e] at hl'
  refine PySem.W.ktm_sumG (I.ok.hd hc) hl' fun h' tk t' hk => ?_
  rw [preSum_eq, List.take_of_length_le (by simp), hn]
  exact ⟨.int _, H, I.kept hk, ⟨_, rfl⟩, q⟩
/-! ### equality of tuples of ints -/
theorem dpAll_ints {K : PySem.W.Frag} {H : Hp} : ∀ ns : List Int, DpAll K H (ns.map V.int) (ns.map PyData.int)
  | [] => .nil
  | n :: ns => .cons (.int n) (dpAll_ints ns)
theorem eqvAll_ints : ∀ ns ms : List Int, PyData.eqvAll (ns.map PyData.int) (ms.map PyData.int) = decide (ns = ms)
  | [], [] => by simp [PyData.eqvAll]
  | [], m :: ms => by simp [PyData.eqvAll]
  | n :: ns, [] => by simp [PyData.eqvAll]
  | n :: ns, m :: ms => by
    simp only [List.map_cons, PyData.eqvAll, PyData.eqv, eqvAll_ints ns ms]
    by_cases h : n = m <;> by_cases h2 : ns = ms <;> simp [h, h2]
theorem shaped_ints (ns : List Int) : SeqAt.shaped (.tuple (ns.map PyData.int)) = true := by
  have h1 : ∀ ns : List Int, PyData.canLayAll0 (ns.map PyData.int) = true := fun ns => by
    induction ns with
    | nil => rfl
    | cons n ns ih => simp [PyData.canLayAll0, PyData.canLay0, ih]
  have h2 : ∀ ns : List Int, PyData.depthAll (ns.map PyData.int) ≤ 1 := fun ns => by
    induction ns with
    | nil => simp [PyData.depthAll]
    | cons n ns ih => simp [PyData.depthAll, PyData.depth]; exact ih
  unfold SeqAt.shaped
  rw [show (PyData.tuple (ns.map PyData.int)).canLay0 = true from by simp [PyData.canLay0, h1]]
  have := h2 ns
  simp [PyData.depth]
  omega
theorem eqD_ints {K : PySem.W.Frag} {H : Hp} {Q : VK} {a b : Addr} {ns ms : List Int} (ha : SqT K H a (ns.map V.int)) (hb : SqT K H b (ms.map V.int)) (q : Q (.bl (decide (ns = ms))) H) : rEqD K (.ref a) (.ref b) H Q :=
  ⟨.tuple (ns.map .int), .tuple (ms.map .int), .tup ha (dpAll_ints ns), .tup hb (dpAll_ints ms), shaped_ints ns, shaped_ints ms, by
    rw [show PyData.eqv (.tuple (ns.map PyData.int)) (.tuple (ms.map PyData.int)) = decide (ns = ms) from by simp only [PyData.eqv, eqvAll_ints]]
    exact q⟩
/-! ### a def with one keyword-only parameter -/
structure CalK (P : Program) (w : World) (K : PySem.W.Frag) (mg : Str → Option Value) (base : Heap) (x : Str) (k : Nat) (ps : List Str) (ks : List Str) (sp : Sp) : Prop where
  ex : ∃ (f : Addr) (fd : FuncData), FnOk P w K mg base CX0 k f fd ps sp ∧ mg x = some (.ref f) ∧ PySem.W.keepIn K (.ref f) = true ∧ KBn K fd ps 1 ks (fun us ws => us ++ ws) (fun vs zs => vs ++ zs)
theorem vals_app {vs zs : List V} {us ws : List Value} (a : Vals vs us) (b : Vals zs ws) : Vals (vs ++ zs) (us ++ ws) := a.append b
theorem calK_of {P : Program} {w : World} {K : PySem.W.Frag} {mg : Str → Option Value} {base : Heap} {x qual nm : Str} {params : Arguments} {body : List Stmt} {scope : Scope} {kws : List (Str × V)} {fd : FuncData} {ps ks : List Str} {k : Nat} {sp : Sp} (F : FunD K nm qual params body scope [] kws (He.fAd K (x, none)) fd) (hm : mg x = some (.ref (He.ga K x)))
    (hb : ∀ (kV doc pm : Value) (an : Option Addr) (cdv ct : Value) (us ws : List Value), us.length = 1 → ws.length = ks.length → bindArgs (PySem.W.fnOf nm qual params body scope .none kV doc pm an cdv ct) ⟨us, ks.zip ws⟩ = pure (ps.zip (us ++ ws)))
    (h : FnOk P w K mg base CX0 k (He.fAd K (x, none)) fd ps sp) : CalK P w K mg base x k ps ks sp := by
  obtain ⟨oc, od, dV, kV, doc, pm, an, cdv, ct, osl, rfl, lk, hcd, hD, hK⟩ := id F.ex
  rcases hD with ⟨_, rfl⟩ | ⟨e, _⟩
  · exact ⟨_, _, h, hm, F.kp, ⟨fun s us ws X l1 l2 => BindsTo.of_looks fun M => PySem.W.Looks.of_pure (hb _ _ _ _ _ _ us ws l1 l2), fun r1 r2 => vals_app r1 r2⟩⟩
  · exact absurd rfl e
theorem pe_calK {X : Cx} {x : Str} {k n : Nat} {ps ks : List Str} {sp : Sp} {p pos : Pos} {e : Expr} {es : List Expr} {kws : List Keyword} {t tk : TA} (c : CalK X.prog X.w X.K X.mg X.base x k ps ks sp) (hr : Room n X.A) (ha : PA X (e :: es) t) (hkw : PK X kws tk) (hg : Gl X x := by rfl) (hk : k ≤ n := by decide)
    (hall : (backToKw pos (keywordEach kws X.env)).all (·.1.isSome) = true := by rfl) (hks : (backToKw pos (keywordEach kws X.env)).filterMap (·.1) = ks := by rfl)
    (hdb : (x == ("__debug__" : Str)) = false := by decide) (he : starEach (e :: es) X.env = (false, eval e X.env) :: starEach es X.env := by rfl)
    (hpl : ((backTo pos (starEach (e :: es) X.env)).any (·.1) || (backToKw pos (keywordEach kws X.env)).any (·.1.isNone)) = false := by rfl) :
    PE X (.Call (.Name x p) (e :: es) kws pos) (tCallN 1 ks.length sp (fun vs zs => vs ++ zs) E0 t tk) := by
  obtain ⟨f, fd, F, m, kp, b⟩ := c.ex
  exact pe_callN F (hr.mono hk) hg m kp b pass0 ha hkw hall hks hdb he hpl
end Cut
end

section
set_option maxHeartbeats 4000000
namespace Cut
open PySem PySem.Spec L2 PySem.Calls
/-- len(x), x of a class of the text with its own __len__ -/
def rLenO (C : Addr) (sp : Sp) : List V → Hp → VK → Prop := fun xs H Q => ∃ a dx fs, xs = [.ref a] ∧ H a = some (.ins C dx fs) ∧ sp [.ref a] H (fun v H' => ∃ n : Int, v = .int n ∧ 0 ≤ n ∧ n < 2 ^ 63 ∧ Q (.int n) H') E0
theorem cr_lenO {X : Cx} {C : Addr} {k n : Nat} {ps : List Str} {sp : Sp} (c : CalM X.prog X.w X.K X.mg X.base C "__len__" k ps sp) (hr : Room n X.A) (hk : k + 1 ≤ n := by decide) : CallR X (.builtin "len") (rLenO C sp) := by
  intro pins s σ H xs us Q I r h
  obtain ⟨a, dx, fs, rfl, ha, hsp⟩ := h
  rw [Vals.ref1 r]
  obtain ⟨f, fd, F, cl, mt, b⟩ := c.ex
  obtain ⟨mA, J, _⟩ := ins_get I.hok ha
  obtain ⟨od, J, _⟩ := J.look
  refine Calls.call_function_entry kind_len plain_len entry_len (args_len1 _) ?_
  unfold Builtin.«len»
  refine wpAny_bind (m := oneArg "len" _) (wpAny_pure ?_)
  have hl := F.len _ _ _ _ hsp
  have e0 : Env0 X.prog X.w X.K X.mg X.base X.A.in1 X.stack s H := by
    have e := I.env0
    exact ⟨e.frames, e.mod, e.bs, e.bsz, e.funs, e.frf, e.hok, e.bare⟩
  have r2 : Vals [V.ref a] [Value.ref a] := .cons rfl .nil
  refine wpAny_bind (m := callSpecial? (.ref a) (Str.ofString "__len__")) (PySem.W.special_fn I.kIn J mt.at_ (beq_iff_eq.mp mt.fn) ?_)
  refine wpAny_call (codeAny_mono (F.run X.A.in1 X.stack s H ⟨[.ref a], []⟩ [.ref a] [.ref a] _ E0 ((hr.mono hk).in1) e0 (by
    have := b s [.ref a] I.kIn (by simpa using hl)
    simpa using this) r2 hsp) fun r s' hq => ?_)
  cases r with
  | error e => exact pass0 pins σ H s e s' I hq
  | ok fl =>
    cases fl with
    | next => exact False.elim hq
    | brk => exact False.elim hq
    | cont => exact False.elim hq
    | ret u =>
      obtain ⟨v, H', I', rv, n, ev, h0, h1, q⟩ := I.after hq
      subst ev
      obtain ⟨t, rfl⟩ := rv
      refine wpAny_bind (wpAny_holding (wpAny_pure ?_))
      refine wpAny_bind (wpAny_letGo ?_)
      show wpAny _ _ (if n < 0 then _ else _) _ _ _
      rw [if_neg (by omega)]
      show wpAny _ _ (if n ≥ 2 ^ 63 then _ else _) _ _ _
      rw [if_neg (by omega)]
      exact wpAny_bind (wpAny_mkInt (wpAny_pure ⟨_, rfl, .int n, H', I'.tok _, ⟨_, rfl⟩, q⟩))
end Cut
end

section
set_option maxHeartbeats 4000000
namespace Cut
open PySem PySem.W PySem.Calls
open PyProof.Rows (IsTup)
theorem zip_nolen : typeLookup (.type "zip") "__len__" = pure none := by rw [typeLookup_type, builtinLookup_eq_fast]; kernel_rfl
theorem zip_nohint : typeLookup (.type "zip") "__length_hint__" = pure none := by rw [typeLookup_type, builtinLookup_eq_fast]; kernel_rfl
section
variable {prog : Program} {w : World} {A : Around} {E : Value → Shared → Prop} {s : Shared}
theorem zipT_item_held {z TI TO T i1 i2 l1 l2 : Addr} {f : Bool} {oT : Obj} {k1 k2 : Nat} {xs ys : Array Value} {x y : Value} {Q : Value → Shared → Prop} (D : ZipApart z TI TO i1 i2 l1 l2)
    (hz : IsZipHeld s.heap z TI TO T f) (hT : s.heap.get? T = some oT) (hTI : IsPair s.heap TI (.ref i1) (.ref i2))
    (h1 : s.heap.IsTupleIter i1 l1 k1) (h2 : s.heap.IsTupleIter i2 l2 k2) (hl1 : s.heap.IsTuple l1 xs) (hl2 : s.heap.IsTuple l2 ys) (hx : xs[k1]? = some x) (hy : ys[k2]? = some y)
    (hQ : ∀ h', IsZipHeld h' z TI TO T true → h'.IsTupleIter i1 l1 (k1 + 1) → h'.IsTupleIter i2 l2 (k2 + 1) → IsPair h' s.heap.objs.size x y → h'.objs.size = s.heap.objs.size + 1 →
      (∀ c o, c ≠ z → c ≠ i1 → c ≠ i2 → s.heap.get? c = some o → h'.get? c = some o) → Q (.ref s.heap.objs.size) { s with heap := h' }) :
    wpAny (model prog w) A (Builtin.«zip.__next__» ⟨[.ref z], []⟩) (fun fin s' => ∃ v, fin = .done (.ret v) ∧ Q v s') E s := by
  show wpAny _ _ (field (.ref z) 2 >>= _) _ _ _
  refine wpAny_bind (wpAny_field hz rfl (x := .bool false) rfl ?_)
  show wpAny _ _ (field (.ref z) 3 >>= _) _ _ _
  refine wpAny_bind (wpAny_field hz rfl (x := .ref TI) rfl ?_)
  refine wpAny_bind (wpAny_seqItems hTI rfl ?_)
  show wpAny _ _ (Builtin.SmallTypes.ownedTupleIsFree (.ref z) >>= _) _ _ _
  refine wpAny_bind (wpAny_tupleHeld_zip hz hT fun h₁ hz₁ hs₁ => ?_)
  simp only [Bool.false_eq_true, if_false]
  refine wpAny_bind ?_
  rw [← Array.forIn_toList]
  simp only [List.forIn_cons, List.forIn_nil]
  refine wpAny_bind (wpAny_bind (wpAny_holding ?_))
  show wpAny _ _ (Builtin.SmallTypes.nextOf (.ref i1) >>= _) _ _ _
  refine wpAny_bind (RZ.nextOf_tuple_item (s := { s with heap := h₁ }) (h1.extBut hs₁.extBut D.i1z) (hl1.extBut hs₁.extBut D.l1z) hx fun h₂ h1₂ hs₂ => wpAny_pure ?_)
  refine wpAny_pure ?_
  refine wpAny_bind (wpAny_bind (wpAny_holding ?_))
  show wpAny _ _ (Builtin.SmallTypes.nextOf (.ref i2) >>= _) _ _ _
  refine wpAny_bind (RZ.nextOf_tuple_item (s := { s with heap := h₂ }) ((h2.extBut hs₁.extBut D.i2z).extBut hs₂.extBut D.i12.symm) ((hl2.extBut hs₁.extBut D.l2z).extBut hs₂.extBut D.l2i1) hy fun h₃ h2₃ hs₃ => wpAny_pure ?_)
  refine wpAny_pure (wpAny_pure ?_)
  show wpAny _ _ (newTuple [x, y] >>= _) _ _ _
  refine wpAny_bind (wpAny_newTuple ?_)
  have hsz : h₃.objs.size = s.heap.objs.size := by rw [hs₃.1, hs₂.1, hs₁.1]
  have hz₃ : IsZipHeld h₃ z TI TO T true := hs₃.extBut _ _ D.i2z.symm (hs₂.extBut _ _ D.i1z.symm hz₁)
  have hk : ∀ c o, c ≠ z → c ≠ i1 → c ≠ i2 → s.heap.get? c = some o → h₃.get? c = some o := fun c o c1 c2 c3 e => hs₃.extBut _ _ c3 (hs₂.extBut _ _ c2 (hs₁.extBut _ _ c1 e))
  have h1₃ : h₃.IsTupleIter i1 l1 (k1 + 1) := h1₂.extBut hs₃.extBut D.i12
  refine wpAny_pure ⟨_, rfl, ?_⟩
  show Q (.ref h₃.objs.size) _
  have hp : IsPair (h₃.push { cls := .type "tuple", data := .seq #[x, y] }) h₃.objs.size x y := Heap.get?_push_size _ rfl
  have hz4 : (h₃.push { cls := .type "tuple", data := .seq #[x, y] }).objs.size = h₃.objs.size + 1 := Heap.size_push ..
  rw [hsz] at hp hz4 ⊢
  exact hQ _ (Heap.get?_push_of_some _ hz₃) (h1₃.at fun o e => Heap.get?_push_of_some _ e) (h2₃.at fun o e => Heap.get?_push_of_some _ e) hp hz4 fun c o c1 c2 c3 e => Heap.get?_push_of_some _ (hk c o c1 c2 c3 e)
theorem zipT_end_held {z TI TO T i1 i2 l1 l2 : Addr} {f : Bool} {oT : Obj} {k1 : Nat} {xs : Array Value} {Q : Fin → Shared → Prop} (hh : A.handled = none) (D : ZipApart z TI TO i1 i2 l1 l2)
    (hz : IsZipHeld s.heap z TI TO T f) (hT : s.heap.get? T = some oT) (hTI : IsPair s.heap TI (.ref i1) (.ref i2))
    (h1 : s.heap.IsTupleIter i1 l1 k1) (hl1 : s.heap.IsTuple l1 xs) (hend : xs[k1]? = none)
    (hE : ∀ h' e, (∀ c o, c ≠ z → c ≠ i1 → c ≠ i2 → s.heap.get? c = some o → h'.get? c = some o) → (∃ o, h'.get? e = some o ∧ o.cls = .type "StopIteration") → E (.ref e) { s with heap := h' }) :
    wpAny (model prog w) A (Builtin.«zip.__next__» ⟨[.ref z], []⟩) Q E s := by
  show wpAny _ _ (field (.ref z) 2 >>= _) _ _ _
  refine wpAny_bind (wpAny_field hz rfl (x := .bool false) rfl ?_)
  show wpAny _ _ (field (.ref z) 3 >>= _) _ _ _
  refine wpAny_bind (wpAny_field hz rfl (x := .ref TI) rfl ?_)
  refine wpAny_bind (wpAny_seqItems hTI rfl ?_)
  show wpAny _ _ (Builtin.SmallTypes.ownedTupleIsFree (.ref z) >>= _) _ _ _
  refine wpAny_bind (wpAny_tupleHeld_zip hz hT fun h₁ hz₁ hs₁ => ?_)
  simp only [Bool.false_eq_true, if_false]
  refine wpAny_bind ?_
  rw [← Array.forIn_toList]
  simp only [List.forIn_cons, List.forIn_nil]
  refine wpAny_bind (wpAny_bind (wpAny_holding ?_))
  show wpAny _ _ (Builtin.SmallTypes.nextOf (.ref i1) >>= _) _ _ _
  refine wpAny_bind (RZ.nextOf_tuple_end (s := { s with heap := h₁ }) hh (h1.extBut hs₁.extBut D.i1z) (hl1.extBut hs₁.extBut D.l1z) hend fun h₂ e hs₂ he => ?_)
  exact hE h₂ e (fun c o c1 c2 _ x => hs₂ _ _ c2 (hs₁.extBut _ _ c1 x)) he
/-- the zip at its i-th turn, while a list S is filled with what it gave -/
structure ZSt (h : Heap) (z TI TO i1 i2 l1 l2 S : Addr) (xs ys : Array Value) (i : Nat) : Prop where
  ti : IsPair h TI (.ref i1) (.ref i2)
  h1 : h.IsTupleIter i1 l1 i
  h2 : h.IsTupleIter i2 l2 i
  l1 : h.IsTuple l1 xs
  l2 : h.IsTuple l2 ys
  out : (IsZip h z TI TO .none ∧ ∃ x y, IsPair h TO x y) ∨ ∃ T f oT, IsZipHeld h z TI TO T f ∧ h.get? T = some oT ∧ T ≠ z ∧ T ≠ i1 ∧ T ≠ i2 ∧ T ≠ S
theorem ZSt.keep {h h' : Heap} {z TI TO i1 i2 l1 l2 S : Addr} {xs ys : Array Value} {i : Nat} (st : ZSt h z TI TO i1 i2 l1 l2 S xs ys i) (k : ∀ b o, b ≠ S → h.get? b = some o → h'.get? b = some o) (hS : ∀ b ∈ [z, TI, TO, i1, i2, l1, l2], b ≠ S) : ZSt h' z TI TO i1 i2 l1 l2 S xs ys i where
  ti := k _ _ (hS _ (by simp)) st.ti
  h1 := st.h1.at fun o e => k _ _ (hS _ (by simp)) e
  h2 := st.h2.at fun o e => k _ _ (hS _ (by simp)) e
  l1 := st.l1.at fun o e => k _ _ (hS _ (by simp)) e
  l2 := st.l2.at fun o e => k _ _ (hS _ (by simp)) e
  out := by
    rcases st.out with ⟨a, x, y, b⟩ | ⟨T, f, oT, a, b, c1, c2, c3, c4⟩
    · exact .inl ⟨k _ _ (hS _ (by simp)) a, x, y, k _ _ (hS _ (by simp)) b⟩
    · exact .inr ⟨T, f, oT, k _ _ (hS _ (by simp)) a, k _ _ c4 b, c1, c2, c3, c4⟩
theorem zst_item {z TI TO i1 i2 l1 l2 S : Addr} {xs ys : Array Value} {i : Nat} {x y : Value} {Q : Option Value → Shared → Prop} (D : ZipApart z TI TO i1 i2 l1 l2) (st : ZSt s.heap z TI TO i1 i2 l1 l2 S xs ys i) (hS : S < s.heap.objs.size)
    (hx : xs[i]? = some x) (hy : ys[i]? = some y)
    (hQ : ∀ h', ZSt h' z TI TO i1 i2 l1 l2 S xs ys (i + 1) → IsPair h' s.heap.objs.size x y → h'.objs.size = s.heap.objs.size + 1 →
      (∀ c o, c ≠ z → c ≠ TO → c ≠ i1 → c ≠ i2 → s.heap.get? c = some o → h'.get? c = some o) → Q (some (.ref s.heap.objs.size)) { s with heap := h' }) :
    wpAny (model prog w) A (pyNext (.ref z)) Q E s := by
  rcases st.out with ⟨hz, a, b, hTO⟩ | ⟨T, f, oT, hz, hT, t1, t2, t3, t4⟩
  · have zl : z < s.heap.objs.size := Heap.lt_size hz
    have il1 : i1 < s.heap.objs.size := by obtain ⟨_, e, _⟩ := st.h1; exact Heap.lt_size e
    have il2 : i2 < s.heap.objs.size := by obtain ⟨_, e, _⟩ := st.h2; exact Heap.lt_size e
    refine RZ.pyNext_zipT_item D hz st.ti hTO st.h1 st.h2 st.l1 st.l2 hx hy fun h' hz' hTO' h1' h2' hT hsz hk => ?_
    refine hQ h' ⟨hk _ _ D.TIz D.TITO D.TIi1 D.TIi2 st.ti, h1', h2', st.l1.at fun o e => hk _ _ D.l1z D.l1TO D.l1i1 D.l1i2 e, st.l2.at fun o e => hk _ _ D.l2z D.l2TO D.l2i1 D.l2i2 e,
      .inr ⟨_, false, _, hz', hT, Nat.ne_of_gt zl, Nat.ne_of_gt il1, Nat.ne_of_gt il2, Nat.ne_of_gt hS⟩⟩ hT hsz hk
  · have hTy : s.TypeIs (.ref z) "zip" := ⟨_, hz, rfl⟩
    unfold pyNext
    refine wpAny_bind (wpAny_attempt (wpAny_callSpecial?_slot (name := Str.ofString "__next__") hTy F.slot_zip_next
      (wpAny_call_entry F.slot_zip_next hTy F.entry_zip_next
        (zipT_item_held D hz hT st.ti st.h1 st.h2 st.l1 st.l2 hx hy fun h' hz' h1' h2' hp hsz hk => wpAny_pure ?_) (F.args_zip_next_1 _))))
    refine hQ h' ⟨hk _ _ D.TIz D.TIi1 D.TIi2 st.ti, h1', h2', st.l1.at fun o e => hk _ _ D.l1z D.l1i1 D.l1i2 e, st.l2.at fun o e => hk _ _ D.l2z D.l2i1 D.l2i2 e, .inr ⟨T, true, oT, hz', hk _ _ t1 t2 t3 hT, t1, t2, t3, t4⟩⟩ hp hsz fun c o c1 _ c2 c3 e => hk c o c1 c2 c3 e
theorem zst_end {z TI TO i1 i2 l1 l2 S : Addr} {xs ys : Array Value} {i : Nat} {Q : Option Value → Shared → Prop} (hh : A.handled = none) (D : ZipApart z TI TO i1 i2 l1 l2) (st : ZSt s.heap z TI TO i1 i2 l1 l2 S xs ys i)
    (hx : xs[i]? = none) (hQ : ∀ h', (∀ c o, c ≠ z → c ≠ TO → c ≠ i1 → c ≠ i2 → s.heap.get? c = some o → h'.get? c = some o) → Q none { s with heap := h' }) :
    wpAny (model prog w) A (pyNext (.ref z)) Q E s := by
  rcases st.out with ⟨hz, a, b, hTO⟩ | ⟨T, f, oT, hz, hT, t1, t2, t3, t4⟩
  · exact RZ.pyNext_zipT_end hh D hz st.ti hTO st.h1 st.h2 st.l1 st.l2 (.inl hx) hQ
  · have hTy : s.TypeIs (.ref z) "zip" := ⟨_, hz, rfl⟩
    unfold pyNext
    refine wpAny_bind (wpAny_attempt (wpAny_callSpecial?_slot (name := Str.ofString "__next__") hTy F.slot_zip_next
      (wpAny_call_entry F.slot_zip_next hTy F.entry_zip_next (zipT_end_held (A := A.in1) hh D hz hT st.ti st.h1 st.l1 hx fun h' e hk he => ?_) (F.args_zip_next_1 _))))
    obtain ⟨o, ho, hc⟩ := he
    refine wpAny_bind (wpAny_isInstance (T := "StopIteration") (b := true) ⟨o, ho, hc⟩ isSubtype_stop ?_)
    exact wpAny_pure (hQ _ fun c o c1 _ c2 c3 e => hk c o c1 c2 c3 e)
end
/-- the new pairs -/
structure PG (lo : Addr) (xs ys : Array Value) (h : Heap) (as : List Addr) : Prop where
  rise : as.Pairwise (· < ·)
  above : ∀ a ∈ as, lo ≤ a
  pairs : ∀ (j : Nat) (a : Addr), as[j]? = some a → ∃ x y, xs[j]? = some x ∧ ys[j]? = some y ∧ IsPair h a x y
section
variable {prog : Program} {w : World} {A : Around} {s : Shared} {R : Result → Shared → Prop} {z TI TO i1 i2 l1 l2 S : Addr} {xs ys : Array Value}
theorem zst_loop {N : Addr} (hh : A.handled = none) (D : ZipApart z TI TO i1 i2 l1 l2) (hne : ∀ b ∈ [z, TI, TO, i1, i2, l1, l2], b ≠ S) (hlo : ∀ b ∈ [z, TO, i1, i2, S], b < N) (hlen : xs.size = ys.size) (hn : xs.size ≤ sizeLine) (res : Value) {h₁ : Heap}
    (hR : ∀ h' tk acc c as, (∀ b o, b ≠ S → b ≠ z → b ≠ TO → b ≠ i1 → b ≠ i2 → h₁.get? b = some o → h'.get? b = some o) → h'.get? S = some { cls := .type "list", dict := none, data := .seq acc c, slots := #[] } → as.length = xs.size → PG N xs ys h' as →
      acc.toList = as.map Value.ref → R (.ok (.ret res)) { s with heap := h', toks := tk }) :
    ∀ (k i : Nat) (h : Heap) (tk c : Nat) (acc : Array Value) (as : List Addr), xs.size - i = k → i ≤ xs.size → ZSt h z TI TO i1 i2 l1 l2 S xs ys i → (∀ b o, b ≠ S → b ≠ z → b ≠ TO → b ≠ i1 → b ≠ i2 → h₁.get? b = some o → h.get? b = some o) →
      h.get? S = some { cls := .type "list", dict := none, data := .seq acc c, slots := #[] } → acc.toList = as.map Value.ref → as.length = i → PG N xs ys h as → N ≤ h.objs.size →
      codeAny (model prog w) A (.builtin "list.extend.loop" ⟨[.ref S, .ref z, res], []⟩) R { s with heap := h, toks := tk } := by
  have away : ∀ a, N ≤ a → a ≠ S ∧ a ≠ z ∧ a ≠ TO ∧ a ≠ i1 ∧ a ≠ i2 := fun a ha =>
    ⟨Nat.ne_of_gt (Nat.lt_of_lt_of_le (hlo _ (by simp)) ha), Nat.ne_of_gt (Nat.lt_of_lt_of_le (hlo _ (by simp)) ha), Nat.ne_of_gt (Nat.lt_of_lt_of_le (hlo _ (by simp)) ha), Nat.ne_of_gt (Nat.lt_of_lt_of_le (hlo _ (by simp)) ha), Nat.ne_of_gt (Nat.lt_of_lt_of_le (hlo _ (by simp)) ha)⟩
  have nSz : S ≠ z := Ne.symm (hne _ (by simp))
  have nST : S ≠ TO := Ne.symm (hne _ (by simp))
  have nS1 : S ≠ i1 := Ne.symm (hne _ (by simp))
  have nS2 : S ≠ i2 := Ne.symm (hne _ (by simp))
  intro k
  induction k with
  | zero =>
    intro i h tk c acc as hk hi hst hkeep hS hacc hal hG hIs
    have hin : i = xs.size := by omega
    refine codeAny_builtin PySem.F.entry_extend_loop ?_
    rw [Around.under_plainId PySem.F.plain_extend_loop _]
    show wpAny _ A.in1 (pyNext (.ref z) >>= _) _ _ _
    refine wpAny_bind (zst_end (s := { s with heap := h, toks := tk }) (A := A.in1) hh D hst (Array.getElem?_eq_none (by omega)) fun h' he => ?_)
    refine wpAny_pure (hR h' tk acc c as (fun b o h1 h2 h3 h4 h5 e => he b o h2 h3 h4 h5 (hkeep b o h1 h2 h3 h4 h5 e)) (he S _ nSz nST nS1 nS2 hS) (by omega) ⟨hG.rise, hG.above, fun j a hj => ?_⟩ hacc)
    obtain ⟨x, y, e1, e2, e3⟩ := hG.pairs j a hj
    obtain ⟨a1, a2, a3, a4, a5⟩ := away a (hG.above a (List.mem_of_getElem? hj))
    exact ⟨x, y, e1, e2, he a _ a2 a3 a4 a5 e3⟩
  | succ k ih =>
    intro i h tk c acc as hk hi hst hkeep hS hacc hal hG hIs
    have hlt : i < xs.size := by omega
    have hlt2 : i < ys.size := by omega
    have hsz : acc.size = i := by rw [← Array.length_toList, hacc, List.length_map, hal]
    have hSl : S < h.objs.size := Heap.lt_size hS
    refine codeAny_builtin PySem.F.entry_extend_loop ?_
    rw [Around.under_plainId PySem.F.plain_extend_loop _]
    show wpAny _ A.in1 (pyNext (.ref z) >>= _) _ _ _
    refine wpAny_bind (zst_item (s := { s with heap := h, toks := tk }) (S := S) (A := A.in1) D hst hSl (x := xs[i]) (y := ys[i]) (Array.getElem?_eq_getElem hlt) (Array.getElem?_eq_getElem hlt2) fun h' hst' ht hz hkp => ?_)
    dsimp only at ht hz hkp ⊢
    have hS' := hkp S _ nSz nST nS1 nS2 hS
    have up : ∀ b o, b ≠ S → h'.get? b = some o → (h'.update S (Obj.mapSeq (·.push (Value.ref h.objs.size)))).get? b = some o := fun b o hb e => (Heap.get?_update_other _ _ (Ne.symm hb)).trans e
    show wpAny _ A.in1 (updateSeq S (·.push (Value.ref h.objs.size)) >>= _) _ _ _
    refine wpAny_bind ?_
    refine wpAny_updateSeq hS' rfl (wpAny_pure ⟨plainId_quiet PySem.F.plain_extend_loop _, ih (i + 1) _ tk _ (acc.push (Value.ref h.objs.size)) (as ++ [h.objs.size]) (by omega) hlt (hst'.keep up hne)
      (fun b o h1 h2 h3 h4 h5 e => up b o h1 (hkp b o h2 h3 h4 h5 (hkeep b o h1 h2 h3 h4 h5 e))) (Heap.get?_update_self _ hS' rfl) (by rw [Array.toList_push, hacc, List.map_append]; rfl) (by rw [List.length_append, hal]; rfl) ⟨?_, ?_, ?_⟩ ?_⟩) (by rw [hsz]; omega) (by show (acc.push (Value.ref h.objs.size)).size ≤ sizeLine + 1; rw [Array.size_push, hsz]; omega)
    · refine List.pairwise_append.mpr ⟨hG.rise, List.pairwise_singleton _ _, fun a ha b hb => ?_⟩
      rw [List.mem_singleton.mp hb]
      obtain ⟨j, hj⟩ := List.mem_iff_getElem?.mp ha
      obtain ⟨_, _, _, _, e⟩ := hG.pairs j a hj
      exact Heap.lt_size e
    · intro a ha
      rcases List.mem_append.mp ha with ha | ha
      · exact hG.above a ha
      · rw [List.mem_singleton.mp ha]; exact hIs
    · intro j b hj
      rcases Nat.lt_trichotomy j as.length with q1 | q1 | q1
      · rw [List.getElem?_append_left q1] at hj
        obtain ⟨x, y, e1, e2, e3⟩ := hG.pairs j b hj
        obtain ⟨a1, a2, a3, a4, a5⟩ := away b (hG.above b (List.mem_of_getElem? hj))
        exact ⟨x, y, e1, e2, up b _ a1 (hkp b _ a2 a3 a4 a5 e3)⟩
      · subst q1
        have hb : h.objs.size = b := by simpa using hj
        subst hb
        refine ⟨xs[i], ys[i], by rw [hal]; exact Array.getElem?_eq_getElem hlt, by rw [hal]; exact Array.getElem?_eq_getElem hlt2, up _ _ (Nat.ne_of_gt hSl) ht⟩
      · have hnone : (as ++ [h.objs.size])[j]? = none := List.getElem?_eq_none (by rw [List.length_append, List.length_singleton]; omega)
        rw [hnone] at hj; cases hj
    · rw [Heap.size_update, hz]
      exact Nat.le_succ_of_le hIs
end
section
variable {prog : Program} {w : World} {A : Around} {E : Value → Shared → Prop} {s : Shared} {z TI TO i1 i2 l1 l2 : Addr} {xs ys : Array Value}
theorem collect_zip {Q : List Value → Shared → Prop} (hh : A.handled = none) (D : ZipApart z TI TO i1 i2 l1 l2) (hz : IsZip s.heap z TI TO .none) (hTI : IsPair s.heap TI (.ref i1) (.ref i2)) {a b : Value} (hTO : IsPair s.heap TO a b)
    (h1 : s.heap.IsTupleIter i1 l1 0) (h2 : s.heap.IsTupleIter i2 l2 0) (hl1 : s.heap.IsTuple l1 xs) (hl2 : s.heap.IsTuple l2 ys) (hlen : xs.size = ys.size) (hn : xs.size ≤ sizeLine)
    (hQ : ∀ (h' : Heap) (tk : Nat) (as : List Addr), (∀ b o, b ≠ z → b ≠ TO → b ≠ i1 → b ≠ i2 → s.heap.get? b = some o → h'.get? b = some o) → as.length = xs.size → PG s.heap.objs.size xs ys h' as → Q (as.map Value.ref) { s with heap := h', toks := tk }) :
    wpAny (model prog w) A (collect (.ref z)) Q E s := by
  have lz : z < s.heap.objs.size := Heap.lt_size hz
  have lTI : TI < s.heap.objs.size := Heap.lt_size hTI
  have lTO : TO < s.heap.objs.size := Heap.lt_size hTO
  have li1 : i1 < s.heap.objs.size := by obtain ⟨_, e, _⟩ := h1; exact Heap.lt_size e
  have li2 : i2 < s.heap.objs.size := by obtain ⟨_, e, _⟩ := h2; exact Heap.lt_size e
  have ll1 : l1 < s.heap.objs.size := by obtain ⟨_, e, _⟩ := hl1; exact Heap.lt_size e
  have ll2 : l2 < s.heap.objs.size := by obtain ⟨_, e, _⟩ := hl2; exact Heap.lt_size e
  have hT : s.TypeIs (.ref z) "zip" := ⟨_, hz, rfl⟩
  have hSI : s.heap.objs.size ≠ z := Nat.ne_of_gt lz
  unfold collect
  refine wpAny_bind (wpAny_runValue (codeAny_builtin F.entry_proto_collect ?_))
  rw [Around.under_plainId F.plain_proto_collect _]
  show wpAny _ A.in1 (newList [] >>= fun l => again (.builtin "list.__iadd__" ⟨[l, .ref z], []⟩)) _ _ s
  refine wpAny_bind (wpAny_newObj_type ?_)
  refine wpAny_pure ⟨plainId_quiet F.plain_list_iadd _, codeAny_builtin F.entry_list_iadd ?_⟩
  rw [Around.under_plainId F.plain_list_iadd _]
  have p1 : ∀ b o, s.heap.get? b = some o → (s.heap.push { cls := .type "list", data := .seq ([] : List Value).toArray }).get? b = some o := fun b o e => Heap.get?_push_of_some _ e
  have hT1 : ({ s with heap := s.heap.push { cls := .type "list", data := .seq ([] : List Value).toArray } } : Shared).TypeIs (.ref z) "zip" := ⟨_, p1 _ _ hz, rfl⟩
  show wpAny _ A.in1 (Builtin.List.listExtendWith (.ref s.heap.objs.size) (.ref z) (.ref s.heap.objs.size)) _ _ _
  unfold Builtin.List.listExtendWith
  refine wpAny_bind (wpAny_typeOf hT1 ?_)
  have e1 : Builtin.List.listSameRef (.ref s.heap.objs.size) (.ref z) = false := by simp [Builtin.List.listSameRef, hSI]
  have e2 : (Value.type "zip" == Value.type "list") = false := by decide
  have e3 : (Value.type "zip" == Value.type "tuple") = false := by decide
  simp only [e1, e2, e3, Bool.or_false, Bool.false_eq_true, if_false]
  refine wpAny_bind (wpAny_pyIter_zip (s := { s with heap := s.heap.push { cls := .type "list", data := .seq ([] : List Value).toArray } }) (p1 _ _ hz) ?_)
  refine wpAny_bind (wpAny_holding ?_)
  unfold Builtin.List.listLengthHint
  refine wpAny_bind (wpAny_specialOf hT1 zip_nolen ?_)
  show wpAny _ A.in1 (specialOf (Value.ref z) (Str.ofString "__length_hint__") >>= _) _ _ _
  refine wpAny_bind (wpAny_specialOf hT1 zip_nohint ?_)
  refine wpAny_pure ?_
  show wpAny _ A.in1 (rule "list.extend.makes-room" >>= fun _ => Builtin.List.listTouch (.ref s.heap.objs.size) >>= fun _ =>
    again (.builtin "list.extend.loop" ⟨[.ref s.heap.objs.size, .ref z, .ref s.heap.objs.size], []⟩)) _ _ _
  refine wpAny_bind (wpAny_rule ?_)
  have hS₁ : (s.heap.push { cls := .type "list", data := .seq ([] : List Value).toArray }).get? s.heap.objs.size = some { cls := .type "list", data := .seq ([] : List Value).toArray } := Heap.get?_push_size _ rfl
  refine wpAny_bind ?_
  show wpAny _ A.in1 (updateSeq s.heap.objs.size (·.push .none) >>= fun _ => updateSeq s.heap.objs.size (·.pop)) _ _ _
  refine wpAny_bind (wpAny_updateSeq hS₁ rfl ?_)
  have hS₂ := Heap.get?_update_self (Obj.mapSeq (·.push Value.none)) hS₁ rfl
  refine wpAny_updateSeq hS₂ rfl ?_
  have hS₃ := Heap.get?_update_self (Obj.mapSeq (·.pop)) hS₂ rfl
  have oth : ∀ b o, b ≠ s.heap.objs.size → s.heap.get? b = some o →
      (((s.heap.push { cls := .type "list", data := .seq ([] : List Value).toArray }).update s.heap.objs.size (Obj.mapSeq (·.push Value.none))).update s.heap.objs.size (Obj.mapSeq (·.pop))).get? b = some o :=
    fun b o hb e => (Heap.get?_update_other _ _ (Ne.symm hb)).trans ((Heap.get?_update_other _ _ (Ne.symm hb)).trans (p1 b o e))
  have hne : ∀ b ∈ [z, TI, TO, i1, i2, l1, l2], b ≠ s.heap.objs.size := fun b hb => by
    simp only [List.mem_cons, List.not_mem_nil, or_false] at hb
    rcases hb with e | e | e | e | e | e | e <;> subst e <;> first | exact Nat.ne_of_lt lz | exact Nat.ne_of_lt lTI | exact Nat.ne_of_lt lTO | exact Nat.ne_of_lt li1 | exact Nat.ne_of_lt li2 | exact Nat.ne_of_lt ll1 | exact Nat.ne_of_lt ll2
  have st0 : ZSt s.heap z TI TO i1 i2 l1 l2 s.heap.objs.size xs ys 0 := ⟨hTI, h1, h2, hl1, hl2, .inl ⟨hz, a, b, hTO⟩⟩
  refine wpAny_pure ⟨plainId_quiet F.plain_extend_loop _, zst_loop (s := s) (N := s.heap.objs.size + 1) (h₁ := s.heap) hh D hne (fun b hb => ?_) hlen hn _ (fun h' tk acc c as hk hS' hal hG hacc => ?_) xs.size 0 _ _ _ #[] [] (Nat.sub_zero _) (Nat.zero_le _) (st0.keep oth hne) (fun b o hb _ _ _ _ e => oth b o hb e) hS₃ rfl rfl
    ⟨List.Pairwise.nil, (fun _ ha => nomatch ha), (fun j a hj => by simp at hj)⟩ ?_⟩
  · simp only [List.mem_cons, List.not_mem_nil, or_false] at hb
    rcases hb with e | e | e | e | e <;> rw [e] <;> first | exact Nat.lt_succ_of_lt lz | exact Nat.lt_succ_of_lt lTO | exact Nat.lt_succ_of_lt li1 | exact Nat.lt_succ_of_lt li2 | exact Nat.lt_succ_self _
  · show wpAny _ A (load s.heap.objs.size >>= _) _ _ _
    refine wpAny_bind (wpAny_load hS' ?_)
    refine wpAny_pure ?_
    show Q acc.toList _
    rw [hacc]
    exact hQ h' tk as (fun b o h1 h2 h3 h4 e => hk b o (Nat.ne_of_lt (Heap.lt_size e)) h1 h2 h3 h4 e) hal ⟨hG.rise, fun a ha => Nat.le_of_succ_le (hG.above a ha), hG.pairs⟩
  · rw [Heap.size_update, Heap.size_update, Heap.size_push]
    exact Nat.le_refl _
theorem code_tuple_new_zip {Q₁ : Value → Shared → Prop} (hh : A.handled = none) (D : ZipApart z TI TO i1 i2 l1 l2) (hz : IsZip s.heap z TI TO .none) (hTI : IsPair s.heap TI (.ref i1) (.ref i2)) {a b : Value} (hTO : IsPair s.heap TO a b)
    (h1 : s.heap.IsTupleIter i1 l1 0) (h2 : s.heap.IsTupleIter i2 l2 0) (hl1 : s.heap.IsTuple l1 xs) (hl2 : s.heap.IsTuple l2 ys) (hlen : xs.size = ys.size) (hn : xs.size ≤ sizeLine)
    (h : ∀ (h' : Heap) (tk : Nat) (as : List Addr), (∀ b o, b ≠ z → b ≠ TO → b ≠ i1 → b ≠ i2 → s.heap.get? b = some o → h'.get? b = some o) → as.length = xs.size → PG s.heap.objs.size xs ys h' as →
      Q₁ (.ref h'.objs.size) { s with heap := h'.push { cls := .type "tuple", data := .seq (as.map Value.ref).toArray }, toks := tk }) :
    codeAny (model prog w) A (.call (.builtin "tuple.__new__") ⟨[.type "tuple", .ref z], []⟩) (wants Q₁ E) s := by
  refine codeAny_of_tree ?_
  show wpAny _ A.in1 (do checkBuiltinCall "tuple.__new__" ⟨[.type "tuple", .ref z], []⟩; again (.builtin "tuple.__new__" ⟨[.type "tuple", .ref z], []⟩)) _ _ s
  refine wpAny_bind (wpAny_of_eq (F.newCall_tuple_1 _) (wpAny_pure ⟨plainId_quiet F.plain_tuple_new _, codeAny_builtin F.entry_tuple_new ?_⟩))
  rw [Around.under_plainId F.plain_tuple_new _]
  have hsub := sub_tuple_self
  have hinit := init_tuple_lookup
  have hmh := madeHere_tuple
  have hTz : s.TypeIs (.ref z) "zip" := ⟨_, hz, rfl⟩
  have hh1 : A.in1.handled = none := hh
  wp_walk using wpAny_typeOf hTz, collect_zip (A := A.in1) hh1 D hz hTI hTO h1 h2 hl1 hl2 hlen hn
  intro h' tk as hk hl hG
  show wpAny _ _ (Builtin.Tuple.tupleExact (as.map Value.ref).toArray >>= fun v => ret v) _ _ _
  unfold Builtin.Tuple.tupleExact
  refine wpAny_bind (wpAny_newObj_type ?_ (by show (as.map Value.ref).toArray.size ≤ sizeLine; rw [List.size_toArray, List.length_map, hl]; exact hn))
  refine wpAny_pure ?_
  exact h h' tk as hk hl hG
theorem call_tuple_zip {Q : Value → Shared → Prop} (hh : A.handled = none) (D : ZipApart z TI TO i1 i2 l1 l2) (hz : IsZip s.heap z TI TO .none) (hTI : IsPair s.heap TI (.ref i1) (.ref i2)) {a b : Value} (hTO : IsPair s.heap TO a b)
    (h1 : s.heap.IsTupleIter i1 l1 0) (h2 : s.heap.IsTupleIter i2 l2 0) (hl1 : s.heap.IsTuple l1 xs) (hl2 : s.heap.IsTuple l2 ys) (hlen : xs.size = ys.size) (hn : xs.size ≤ sizeLine)
    (hQ : ∀ (h' : Heap) (tk : Nat) (as : List Addr), (∀ b o, b ≠ z → b ≠ TO → b ≠ i1 → b ≠ i2 → s.heap.get? b = some o → h'.get? b = some o) → as.length = xs.size → PG s.heap.objs.size xs ys h' as →
      Q (.ref h'.objs.size) { s with heap := h'.push { cls := .type "tuple", data := .seq (as.map Value.ref).toArray }, toks := tk }) :
    wpAny (model prog w) A (call (.type "tuple") [.ref z]) Q E s := by
  refine callType_codes (Q₁ := fun obj s₁ => s₁.TypeIs obj "tuple" ∧ Q obj s₁) F.called_tuple (F.typeCall_tuple_1 _) F.entry_object_init
    (code_tuple_new_zip (A := A.in1) hh D hz hTI hTO h1 h2 hl1 hl2 hlen hn fun h' tk as hk hl hG => ⟨⟨_, Heap.get?_push_size _ rfl, rfl⟩, hQ h' tk as hk hl hG⟩) fun obj s₁ h₁ => ?_
  exact ⟨h₁.1, F.args_object_init_2 obj _, object_init_meets F.called_tuple.init.lookup F.called_tuple.made (by decide) prog w A.in1 _ s₁ ⟨h₁.1, rfl, h₁.2⟩⟩
end
section
open PySem.Spec L2
/-- new pairs at ps -/
def PairsAt (H : Hp) : List Addr → List V → List V → Prop
  | p :: ps, x :: xs, y :: ys => H p = some (.tup [x, y]) ∧ PairsAt H ps xs ys
  | [], [], [] => True
  | _, _, _ => False
theorem pairsAt_of {H : Hp} : ∀ (as : List Addr) (xs ys : List V), as.length = xs.length → xs.length = ys.length → (∀ (j : Nat) (a : Addr), as[j]? = some a → ∃ x y, xs[j]? = some x ∧ ys[j]? = some y ∧ H a = some (.tup [x, y])) → PairsAt H as xs ys
  | [], [], [], _, _, _ => True.intro
  | [], _ :: _, _, h, _, _ => by simp at h
  | [], [], _ :: _, _, h, _ => by simp at h
  | _ :: _, [], _, h, _, _ => by simp at h
  | _ :: _, _ :: _, [], _, h, _ => by simp at h
  | a :: as, x :: xs, y :: ys, h1, h2, h => by
    obtain ⟨x', y', e1, e2, e3⟩ := h 0 a rfl
    cases e1
    cases e2
    refine ⟨e3, pairsAt_of as xs ys (by simpa using h1) (by simpa using h2) fun j b hj => ?_⟩
    obtain ⟨x', y', e1, e2, e3⟩ := h (j + 1) b (by simpa using hj)
    exact ⟨x', y', by simpa using e1, by simpa using e2, e3⟩
def tTupZip (K : PySem.W.Frag) (ta : TA) : TE := fun σ H Q => ta σ H fun vs H1 => ∃ a b xs ys, vs = [.ref a, .ref b] ∧ SqT K H1 a xs ∧ SqT K H1 b ys ∧ xs.length = ys.length ∧
  ∀ (t : Addr) (ps : List Addr) (H' : Hp), Ex H1 H' → H' t = some (.tup (ps.map V.ref)) → PairsAt H' ps xs ys → Q (.ref t) H'
theorem pe_tupZip {X : Cx} {e e2 : Expr} {ta : TA} {p q pos pos2 : Pos} (hm : X.mg "tuple" = none) (hm2 : X.mg "zip" = none) (ha : PA X [e, e2] ta) (hc : X.calm = true := by rfl) (hg : Gl X "tuple" := by rfl) (hg2 : Gl X "zip" := by rfl)
    (hs : starEach [e, e2] X.env = (false, eval e X.env) :: starEach [e2] X.env := by rfl) (hpl : (backTo pos (starEach [e2] X.env)).any (·.1) = false := by rfl)
    (na : starEach [Expr.Call (.Name "zip" p) [e, e2] [] pos] X.env = (false, eval (.Call (.Name "zip" p) [e, e2] [] pos) X.env) :: starEach [] X.env := by rfl) :
    PE X (.Call (.Name "tuple" q) [.Call (.Name "zip" p) [e, e2] [] pos] [] pos2) (tTupZip X.K ta) := by
  refine ⟨fun pins s σ H Q I h => ?_⟩
  refine PyProof.Rows.Call_ (ld_blt I hg hm (by first | exact PyProof.Rows.boot_tuple | decide +kernel) ?_)
  refine PyProof.Rows.callWith_type1 (PyProof.Rows.args_cons ?_ na) na rfl
  refine PyProof.Rows.Call_ (ld_blt I hg2 hm2 PyProof.Rows.boot_zip (PyProof.Rows.callWith_type1 (thn (ha.run pos pins s σ H _ I h) fun us s1 ⟨vs, H1, I1, r1, q1⟩ => ?_) hs hpl))
  obtain ⟨a, b, xs, ys, ex, hqx, hqy, hl, q1⟩ := q1
  subst ex
  cases r1 with
  | cons r rr =>
    cases rr with
    | cons r' rr =>
      cases rr
      cases r
      cases r'
      obtain ⟨its, rv, p1, hz1⟩ := I1.tuple hqx
      obtain ⟨its2, rv2, p2, hz2⟩ := I1.tuple hqy
      obtain ⟨o1, ho1, _⟩ := id p1
      obtain ⟨o2, ho2, _⟩ := id p2
      have ln1 := rv.length
      have ln2 := rv2.length
      refine RZ.call_zipT (show s1.heap.IsTuple a its.toArray from p1) (show s1.heap.IsTuple b its2.toArray from p2) fun h' hz hTI hTO h1 h2 hsz hk => PyProof.Rows.args_nil ?_
      have D := PySem.W.ktu_apart s1.heap.objs.size a b (Heap.lt_size ho1) (Heap.lt_size ho2)
      refine call_tuple_zip (s := { s1 with heap := h' }) (I1.ok.hd hc) D hz hTI hTO h1 h2 (xs := its.toArray) (ys := its2.toArray) ((show s1.heap.IsTuple a its.toArray from p1).at fun o e => hk _ o e) ((show s1.heap.IsTuple b its2.toArray from p2).at fun o e => hk _ o e) (by simp; omega) (by simp; omega) fun h2' tk as k2 hal hG => ?_
      have kA : ∀ b o, s1.heap.get? b = some o → h2'.get? b = some o := fun b o e => by
        have hlt := Heap.lt_size e
        exact k2 b o (Nat.ne_of_lt (Nat.lt_add_right 4 hlt)) (Nat.ne_of_lt (Nat.lt_add_right 3 hlt)) (Nat.ne_of_lt hlt) (Nat.ne_of_lt (Nat.lt_add_right 1 hlt)) (hk b o e)
      have I2 : L2.Inv X pins σ H1 { s1 with heap := h2', toks := tk } := I1.kept (t' := tk) kA
      have nd : as.Nodup := hG.rise.imp fun h => Nat.ne_of_lt h
      obtain ⟨H2, I3, g, qt⟩ := L2.DX.takeT (P := fun b vs => ∃ (j : Nat) (x y : V), as[j]? = some b ∧ xs[j]? = some x ∧ ys[j]? = some y ∧ vs = [x, y]) I1 as _ I2 nd fun c hc => by
        obtain ⟨j, hj⟩ := List.mem_iff_getElem?.mp hc
        obtain ⟨u, v, e1, e2, e3⟩ := hG.pairs j c hj
        have hjl : j < xs.length := by
          have := (Array.getElem?_eq_some_iff.mp e1).1
          simp at this
          omega
        have hjl2 : j < ys.length := by omega
        have hx := List.getElem?_eq_getElem hjl
        have hy := List.getElem?_eq_getElem hjl2
        obtain ⟨u', hu', ru⟩ := rv.get hx
        obtain ⟨v', hv', rw'⟩ := rv2.get hy
        have eu : u = u' := by
          have : its.toArray[j]? = some u' := by simpa using hu'
          exact Option.some.inj (e1.symm.trans this)
        have ev : v = v' := by
          have : its2.toArray[j]? = some v' := by simpa using hv'
          exact Option.some.inj (e2.symm.trans this)
        subst eu ev
        have hab : h'.objs.size ≤ c := hG.above c hc
        have hab2 : s1.heap.objs.size ≤ c := Nat.le_trans (by rw [hsz]; exact Nat.le_add_right _ _) hab
        refine ⟨hab2, I1.hok.fresh hab2, [xs[j], ys[j]], ⟨j, _, _, hj, hx, hy, rfl⟩, fun H3 => ⟨by show 2 ≤ sizeLine; decide, [u, v], .cons ru (.cons rw' .nil), ⟨_, e3, rfl, 0, rfl⟩⟩⟩
      have rr : Vals (as.map V.ref) (as.map Value.ref) := by
        clear qt hG nd hal
        induction as with
        | nil => exact .nil
        | cons c r ih => exact .cons rfl ih
      have hnT : H2 h2'.objs.size = none := I3.hok.fresh (Nat.le_refl _)
      have I4 : L2.Inv X pins σ (upd H2 h2'.objs.size (.tup (as.map V.ref))) { s1 with heap := h2'.push { cls := .type "tuple", data := .seq (as.map Value.ref).toArray }, toks := tk } :=
        I3.laid (t' := tk) (fun b o e => Heap.get?_push_of_some _ e) (Nat.le_refl _) (show ObjOk X.prog X.w _ _ _ (.tup (as.map V.ref)) from ⟨by rw [List.length_map, hal]; simp; omega, _, rr, ⟨_, Heap.get?_push_size _ rfl, rfl, 0, rfl⟩⟩)
      refine ⟨.ref h2'.objs.size, _, I4, rfl, q1 _ as _ (Ex.tr (fun b o e => g b o e) (Ex.new hnT)) upd_same ?_⟩
      refine pairsAt_of as xs ys (by rw [hal]; simp; omega) hl fun j c hj => ?_
      obtain ⟨vs, ⟨j', x, y, e1, e2, e3, e4⟩, hH⟩ := qt c (List.mem_of_getElem? hj)
      have ejj : j = j' := (List.getElem?_inj (List.getElem?_eq_some_iff.mp hj).1 nd).mp (hj.trans e1.symm)
      subst ejj
      refine ⟨x, y, e2, e3, ?_⟩
      rw [upd_ne (ne_of_none hH hnT), hH, e4]
end
end Cut
end

section
set_option maxHeartbeats 4000000
namespace Cut
open PySem PySem.Spec L2
theorem h16 {A : Around} {k : Nat} (hr : Room k A) : A.units + 16 < cLine := Nat.lt_of_le_of_lt (Nat.add_le_add_left (by decide : 16 ≤ 64) _) hr.units
theorem gFld_app (K : PySem.W.Frag) (to : TE) (f : Str) (v : V) (σ : L2.St) (H : Hp) (Q : L2.St → Hp → Prop) : gFld K to f v σ H Q = (to σ H fun o H1 => ∃ a C dx fs, o = .ref a ∧ H1 a = some (.ins C dx fs) ∧ Cls K C ∧ NoAttr K C f ∧ fs.length < 1000 ∧ Q σ (upd H1 a (.ins C dx (putF f v fs)))) := rfl
/-- a tuple that is known to have no dict -/
def rFr {α : Type} (f : α → Rp) (xs : List α) : Rp := fun H v => ∃ a o vs, v = .ref a ∧ H a = some (.frz o (.tup vs)) ∧ o.dict = none ∧ Al (fun w x => f x H w) vs xs
instance {α : Type} (f : α → Rp) (xs : List α) [∀ x, Iz (f x)] : Iz (rFr f xs) := ⟨fun e ⟨a, o, vs, h1, h2, h3, h4⟩ => ⟨a, o, vs, h1, e _ _ True.intro h2, h3, h4.upZ e⟩⟩
theorem sq_f {K : PySem.W.Frag} {H : Hp} {a : Addr} {o : Obj} {xs : List V} (h : H a = some (.frz o (.tup xs))) : SqT K H a xs := .inl (.inr ⟨o, h⟩)
/-! ### what is walked by zip, by enumerate -/
theorem zip_at {α β : Type} {xs : List α} {ys : List β} {i : Nat} {p : α × β} (h : (xs.zip ys)[i]? = some p) : xs[i]? = some p.1 ∧ ys[i]? = some p.2 := List.getElem?_zip_eq_some.mp h
theorem wk_zipT {α β : Type} {K : PySem.W.Frag} {a b : Addr} {G : Hp → Prop} {f : α → Rp} {g : β → Rp} [∀ x, Mo (f x)] [∀ y, Mo (g y)] {xs : List α} {ys : List β} (h : ∀ H, G H → ∃ vs us, SqT K H a vs ∧ SqT K H b us ∧ Al (fun w x => f x H w) vs xs ∧ Al (fun w y => g y H w) us ys) :
    Wk (RZ.ItzT K a b) G (fun p : α × β => r2 (f p.1) (g p.2)) (xs.zip ys) where
  go := fun i H hi w => by
    obtain ⟨vs, us, e1, e2, a1, a2⟩ := h H w
    rw [List.length_zip] at hi
    obtain ⟨v, hv, _⟩ := a1.get (List.getElem?_eq_getElem (show i < xs.length by omega))
    obtain ⟨u, hu, _⟩ := a2.get (List.getElem?_eq_getElem (show i < ys.length by omega))
    exact ⟨vs, us, v, u, e1, e2, hv, hu⟩
  yld := fun i p H v H' hp w ⟨T, x, y, ev, hT, eH, hx, hy⟩ => by
    obtain ⟨vs, us, e1, e2, a1, a2⟩ := h H w
    obtain ⟨q1, q2⟩ := zip_at hp
    obtain ⟨v', hv, r1⟩ := a1.get q1
    obtain ⟨u', hu, r2'⟩ := a2.get q2
    have z1 := hx vs e1
    have z2 := hy us e2
    rw [hv] at z1
    rw [hu] at z2
    cases z1
    cases z2
    subst eH
    exact ⟨Ex.new hT, T, _, _, ev, upd_same, Mo.up (Ex.new hT) r1, Mo.up (Ex.new hT) r2'⟩
  stop := fun H w => by
    obtain ⟨vs, us, e1, e2, a1, a2⟩ := h H w
    refine ⟨vs, us, e1, e2, ?_⟩
    rw [List.length_zip, a1.len, a2.len]
    omega
theorem wk_zipL {α β : Type} {K : PySem.W.Frag} {a b : Addr} {G : Hp → Prop} {f : α → Rp} {g : β → Rp} [∀ x, Mo (f x)] [∀ y, Mo (g y)] {xs : List α} {ys : List β} (h : ∀ H, G H → ∃ vs us, SqL K H a vs ∧ SqL K H b us ∧ Al (fun w x => f x H w) vs xs ∧ Al (fun w y => g y H w) us ys) :
    Wk (Itz K a b) G (fun p : α × β => r2 (f p.1) (g p.2)) (xs.zip ys) where
  go := fun i H hi w => by
    obtain ⟨vs, us, e1, e2, a1, a2⟩ := h H w
    rw [List.length_zip] at hi
    obtain ⟨v, hv, _⟩ := a1.get (List.getElem?_eq_getElem (show i < xs.length by omega))
    obtain ⟨u, hu, _⟩ := a2.get (List.getElem?_eq_getElem (show i < ys.length by omega))
    exact ⟨vs, us, v, u, e1, e2, hv, hu⟩
  yld := fun i p H v H' hp w ⟨T, x, y, ev, hT, eH, hx, hy⟩ => by
    obtain ⟨vs, us, e1, e2, a1, a2⟩ := h H w
    obtain ⟨q1, q2⟩ := zip_at hp
    obtain ⟨v', hv, r1⟩ := a1.get q1
    obtain ⟨u', hu, r2'⟩ := a2.get q2
    have z1 := hx vs e1
    have z2 := hy us e2
    rw [hv] at z1
    rw [hu] at z2
    cases z1
    cases z2
    subst eH
    exact ⟨Ex.new hT, T, _, _, ev, upd_same, Mo.up (Ex.new hT) r1, Mo.up (Ex.new hT) r2'⟩
  stop := fun H w => by
    obtain ⟨vs, us, e1, e2, a1, a2⟩ := h H w
    refine ⟨vs, us, e1, e2, ?_⟩
    rw [List.length_zip, a1.len, a2.len]
    omega
theorem wk_zipM {α β : Type} {K : PySem.W.Frag} {a b : Addr} {G : Hp → Prop} {f : α → Rp} {g : β → Rp} [∀ x, Mo (f x)] [∀ y, Mo (g y)] {xs : List α} {ys : List β} (h : ∀ H, G H → ∃ vs us, SqL K H a vs ∧ SqT K H b us ∧ Al (fun w x => f x H w) vs xs ∧ Al (fun w y => g y H w) us ys) :
    Wk (Itzm K a b) G (fun p : α × β => r2 (f p.1) (g p.2)) (xs.zip ys) where
  go := fun i H hi w => by
    obtain ⟨vs, us, e1, e2, a1, a2⟩ := h H w
    rw [List.length_zip] at hi
    obtain ⟨v, hv, _⟩ := a1.get (List.getElem?_eq_getElem (show i < xs.length by omega))
    obtain ⟨u, hu, _⟩ := a2.get (List.getElem?_eq_getElem (show i < ys.length by omega))
    exact ⟨vs, us, v, u, e1, e2, hv, hu⟩
  yld := fun i p H v H' hp w ⟨T, x, y, ev, hT, eH, hx, hy⟩ => by
    obtain ⟨vs, us, e1, e2, a1, a2⟩ := h H w
    obtain ⟨q1, q2⟩ := zip_at hp
    obtain ⟨v', hv, r1⟩ := a1.get q1
    obtain ⟨u', hu, r2'⟩ := a2.get q2
    have z1 := hx vs e1
    have z2 := hy us e2
    rw [hv] at z1
    rw [hu] at z2
    cases z1
    cases z2
    subst eH
    exact ⟨Ex.new hT, T, _, _, ev, upd_same, Mo.up (Ex.new hT) r1, Mo.up (Ex.new hT) r2'⟩
  stop := fun H w => by
    obtain ⟨vs, us, e1, e2, a1, a2⟩ := h H w
    refine ⟨vs, us, e1, e2, ?_⟩
    rw [List.length_zip, a1.len, a2.len]
    omega
/-- the items with their places -/
def enu {α : Type} (xs : List α) : List (Nat × α) := (List.range xs.length).zip xs
theorem enu_len {α : Type} (xs : List α) : (enu xs).length = xs.length := by simp [enu]
theorem enu_at {α : Type} {xs : List α} {i : Nat} {p : Nat × α} (h : (enu xs)[i]? = some p) : p.1 = i ∧ xs[i]? = some p.2 := by
  obtain ⟨h1, h2⟩ := zip_at h
  have hi := (List.getElem?_eq_some_iff.mp h1).1
  rw [List.length_range] at hi
  rw [List.getElem?_range hi] at h1
  exact ⟨(Option.some.inj h1).symm, h2⟩
theorem wk_enuT {α : Type} {K : PySem.W.Frag} {a : Addr} {G : Hp → Prop} {f : α → Rp} [∀ x, Mo (f x)] {xs : List α} (h : ∀ H, G H → ∃ vs, SqT K H a vs ∧ Al (fun w x => f x H w) vs xs) :
    Wk (Itet K a) G (fun p : Nat × α => r2 (rI (p.1 : Int)) (f p.2)) (enu xs) where
  go := fun i H hi w => by
    obtain ⟨vs, e1, a1⟩ := h H w
    rw [enu_len] at hi
    obtain ⟨v, hv, _⟩ := a1.get (List.getElem?_eq_getElem hi)
    exact ⟨vs, v, e1, hv⟩
  yld := fun i p H v H' hp w ⟨T, x, ev, hT, eH, hx⟩ => by
    obtain ⟨vs, e1, a1⟩ := h H w
    obtain ⟨q1, q2⟩ := enu_at hp
    obtain ⟨v', hv, r1⟩ := a1.get q2
    have z1 := hx vs e1
    rw [hv] at z1
    cases z1
    subst eH
    exact ⟨Ex.new hT, T, _, _, ev, upd_same, by rw [q1] <;> rfl, Mo.up (Ex.new hT) r1⟩
  stop := fun H w => by
    obtain ⟨vs, e1, a1⟩ := h H w
    exact ⟨vs, e1, by rw [enu_len, a1.len] <;> exact Nat.le_refl _⟩
theorem wk_enuL {α : Type} {K : PySem.W.Frag} {a : Addr} {G : Hp → Prop} {f : α → Rp} [∀ x, Mo (f x)] {xs : List α} (h : ∀ H, G H → ∃ vs, SqL K H a vs ∧ Al (fun w x => f x H w) vs xs) :
    Wk (Ite K a) G (fun p : Nat × α => r2 (rI (p.1 : Int)) (f p.2)) (enu xs) where
  go := fun i H hi w => by
    obtain ⟨vs, e1, a1⟩ := h H w
    rw [enu_len] at hi
    obtain ⟨v, hv, _⟩ := a1.get (List.getElem?_eq_getElem hi)
    exact ⟨vs, v, e1, hv⟩
  yld := fun i p H v H' hp w ⟨T, x, ev, hT, eH, hx⟩ => by
    obtain ⟨vs, e1, a1⟩ := h H w
    obtain ⟨q1, q2⟩ := enu_at hp
    obtain ⟨v', hv, r1⟩ := a1.get q2
    have z1 := hx vs e1
    rw [hv] at z1
    cases z1
    subst eH
    exact ⟨Ex.new hT, T, _, _, ev, upd_same, by rw [q1] <;> rfl, Mo.up (Ex.new hT) r1⟩
  stop := fun H w => by
    obtain ⟨vs, e1, a1⟩ := h H w
    exact ⟨vs, e1, by rw [enu_len, a1.len] <;> exact Nat.le_refl _⟩
theorem gm_pair {K : PySem.W.Frag} {i j : Nat} (v : V) (σ : L2.St) (H : Hp) (A B : L2.St → Hp → Prop) (h : ∀ s h, A s h → B s h) (q : gTup K 2 (gCons (gName i) (gCons (gName j) gNil)) v σ H A) : gTup K 2 (gCons (gName i) (gCons (gName j) gNil)) v σ H B := by
  obtain ⟨a, xs, e, hs, hl, v1, r1, e1, v2, r2, e2, e3, q⟩ := q
  exact ⟨a, xs, e, hs, hl, v1, r1, e1, v2, r2, e2, e3, h _ _ q⟩
/-- tuple(a new list) -/
theorem tup_done {K : PySem.W.Frag} {α : Type} {f : α → Rp} [∀ x, Mo (f x)] {xs : List α} {H H' : Hp} {p : Addr} {Q : VK} (h : rLi f xs H' (.ref p)) (e : Ex H H') (q : ∀ v H2, Ex H H2 → rTu f xs H2 v → Q v H2) :
    ∃ p', V.ref p = .ref p' ∧ ∃ x, (SqL K H' p' x ∧ ∀ l, H' l = none → Q (.ref l) (upd H' l (.tup x))) ∨ SqT K H' p' x ∧ Q (.ref p') H' := by
  obtain ⟨p', vs, ep, hp, al⟩ := h
  exact ⟨p', ep, vs, .inl ⟨sq_l hp, fun l hl => q _ _ (e.tr (Ex.new hl)) ⟨l, vs, rfl, upd_same, al.up (Ex.new hl)⟩⟩⟩
/-! ### the keys of a locked dict -/
theorem ws_keys {d : Addr} {o : Obj} {kvs : List (Key × V)} {G : Hp → Prop} (h : ∀ H, G H → H d = some (.frz o (.dK kvs))) : WkS (Itk d o kvs) G (fun p : Key × V => fun _ v => v = kV p.1) kvs where
  go := fun i H hi g => ⟨h H g, hi⟩
  yld := fun i p H v H' hp g ⟨e, k, x, hk, hv⟩ => by
    rw [hp] at hk
    cases hk
    exact ⟨e, hv⟩
  stop := fun H g => ⟨h H g, Nat.le_refl _⟩
theorem ws_keysT {d : Addr} {o : Obj} {kvs : List (List Key × V)} {G : Hp → Prop} (h : ∀ H, G H → H d = some (.frz o (.dT kvs))) : WkS (Itkt d o kvs) G (fun p : List Key × V => fun H v => ∃ q, v = .ref q ∧ H q = some (.tup (p.1.map kV))) kvs where
  go := fun i H hi g => ⟨h H g, hi⟩
  yld := fun i p H v H' hp g ⟨e, k, x, q, hk, hv, hq⟩ => by
    rw [hp] at hk
    cases hk
    exact ⟨e, q, hv, hq⟩
  stop := fun H g => ⟨h H g, Nat.le_refl _⟩
/-! ### the rules with the written part told -/
theorem sl_tupFK' {X : Cx} {K : PySem.W.Frag} (h : X.K = K) : SlR X (rSlF K) := sl_tupFK h
theorem get_listK {X : Cx} {K : PySem.W.Frag} (h : X.K = K) : PGet X (rGetL K) := by
  subst h
  exact get_list
end Cut
end

section
set_option maxHeartbeats 4000000
namespace Cut
open PySem PySem.Spec L2
/-! ### tables -/
section
variable {κ α : Type} [DecidableEq κ]
def gt (d : List (κ × α)) (k : κ) : Option α := (d.find? fun e => decide (e.1 = k)).map (·.2)
def pt (d : List (κ × α)) (k : κ) (v : α) : List (κ × α) := if (d.any fun e => decide (e.1 = k)) = true then d.map (fun e => if e.1 = k then (e.1, v) else e) else d ++ [(k, v)]
theorem gt_nil (k : κ) : gt ([] : List (κ × α)) k = none := rfl
theorem gt_cons (e : κ × α) (d : List (κ × α)) (k : κ) : gt (e :: d) k = if e.1 = k then some e.2 else gt d k := by
  unfold gt
  rw [List.find?_cons]
  by_cases h : e.1 = k <;> simp [h]
theorem gt_mem {d : List (κ × α)} {k : κ} {v : α} (h : gt d k = some v) : (k, v) ∈ d := by
  induction d with
  | nil => cases h
  | cons e d ih =>
    rw [gt_cons] at h
    by_cases c : e.1 = k
    · rw [if_pos c] at h
      cases h
      rw [← c]
      exact .head _
    · rw [if_neg c] at h
      exact .tail _ (ih h)
theorem gt_none {d : List (κ × α)} {k : κ} (h : gt d k = none) : ∀ e ∈ d, e.1 ≠ k := by
  induction d with
  | nil => intro e he; cases he
  | cons e d ih =>
    rw [gt_cons] at h
    by_cases c : e.1 = k
    · rw [if_pos c] at h
      cases h
    · rw [if_neg c] at h
      intro f hf
      rcases List.mem_cons.mp hf with z | z
      · rw [z]; exact c
      · exact ih h f z
theorem gt_of_mem {d : List (κ × α)} (nd : (d.map (·.1)).Nodup) {k : κ} {v : α} (h : (k, v) ∈ d) : gt d k = some v := by
  induction d with
  | nil => cases h
  | cons e d ih =>
    rw [List.map_cons, List.nodup_cons] at nd
    rw [gt_cons]
    rcases List.mem_cons.mp h with z | z
    · rw [← z, if_pos rfl]
    · by_cases c : e.1 = k
      · exact absurd (List.mem_map.mpr ⟨_, z, c.symm⟩) nd.1
      · rw [if_neg c]
        exact ih nd.2 z
theorem any_key (d : List (κ × α)) (k : κ) : (d.any fun e => decide (e.1 = k)) = (gt d k).isSome := by
  induction d with
  | nil => rfl
  | cons e d ih =>
    rw [List.any_cons, ih, gt_cons]
    by_cases c : e.1 = k <;> simp [c]
theorem pt_new {d : List (κ × α)} {k : κ} (v : α) (h : gt d k = none) : pt d k v = d ++ [(k, v)] := by
  unfold pt
  rw [any_key, h, if_neg (by simp)]
theorem gt_app (d e : List (κ × α)) (k : κ) : gt (d ++ e) k = (gt d k).or (gt e k) := by
  induction d with
  | nil => rfl
  | cons x d ih =>
    rw [List.cons_append, gt_cons, gt_cons, ih]
    by_cases c : x.1 = k <;> simp [c]
theorem gt_map_set (d : List (κ × α)) (k j : κ) (v : α) : gt (d.map (fun e => if e.1 = k then (e.1, v) else e)) j = if j = k then (gt d k).map (fun _ => v) else gt d j := by
  induction d with
  | nil => by_cases c : j = k <;> simp [c, gt_nil]
  | cons e d ih =>
    rw [List.map_cons, gt_cons, gt_cons, gt_cons, ih]
    by_cases c : e.1 = k
    · rw [if_pos c]
      by_cases cj : j = k
      · subst cj
        simp [c]
      · have : ¬ e.1 = j := fun z => cj (z.symm.trans c)
        simp [this, cj]
    · rw [if_neg c]
      by_cases cj : j = k
      · subst cj
        simp [c]
      · simp [cj]
theorem gt_pt (d : List (κ × α)) (k j : κ) (v : α) : gt (pt d k v) j = if j = k then some v else gt d j := by
  unfold pt
  rw [any_key]
  by_cases c : (gt d k).isSome = true
  · rw [if_pos c, gt_map_set]
    obtain ⟨x, hx⟩ := Option.isSome_iff_exists.mp c
    by_cases cj : j = k
    · rw [if_pos cj, if_pos cj, hx] <;> rfl
    · rw [if_neg cj, if_neg cj]
  · rw [if_neg c, gt_app, gt_cons, gt_nil]
    have hn : gt d k = none := by simpa using c
    by_cases cj : j = k
    · rw [if_pos cj, cj, hn, if_pos rfl] <;> rfl
    · rw [if_neg (fun z => cj z.symm), if_neg cj, Option.or_none]
theorem pt_keys (d : List (κ × α)) (k : κ) (v : α) : (pt d k v).map (·.1) = if (gt d k).isSome = true then d.map (·.1) else d.map (·.1) ++ [k] := by
  unfold pt
  rw [any_key]
  by_cases c : (gt d k).isSome = true
  · rw [if_pos c, if_pos c, List.map_map]
    apply List.map_congr_left
    intro e _
    by_cases z : e.1 = k <;> simp [z]
  · rw [if_neg c, if_neg c, List.map_append] <;> rfl
theorem key_mem (d : List (κ × α)) (k : κ) : k ∈ d.map (·.1) ↔ (gt d k).isSome = true := by
  rw [← any_key, List.any_eq_true, List.mem_map]
  constructor
  · rintro ⟨e, he, rfl⟩
    exact ⟨e, he, by simp⟩
  · rintro ⟨e, he, h⟩
    exact ⟨e, he, by simpa using h⟩
theorem pt_nodup {d : List (κ × α)} (nd : (d.map (·.1)).Nodup) (k : κ) (v : α) : ((pt d k v).map (·.1)).Nodup := by
  rw [pt_keys]
  by_cases c : (gt d k).isSome = true
  · rw [if_pos c]; exact nd
  · rw [if_neg c, List.nodup_append]
    refine ⟨nd, by simp, ?_⟩
    intro a ha b hb
    have : b = k := by simpa using hb
    subst this
    intro z
    subst z
    exact c ((key_mem d _).mp ha)
theorem pt_len (d : List (κ × α)) (k : κ) (v : α) : (pt d k v).length ≤ d.length + 1 := by
  unfold pt
  split <;> simp
/-- as the model's tables -/
theorem valV_of {κ' : Type} [DecidableEq κ'] (f : κ → κ') (hf : ∀ x y, f x = f y → x = y) (g : α → V) (d : List (κ × α)) (k : κ) : valV (d.map fun e => (f e.1, g e.2)) (f k) = (gt d k).map g := by
  induction d with
  | nil => rfl
  | cons e d ih =>
    rw [List.map_cons, gt_cons]
    by_cases c : e.1 = k
    · rw [valV_pos (p := (f e.1, g e.2)) (by rw [c]), if_pos c] <;> rfl
    · rw [valV_neg (p := (f e.1, g e.2)) (fun z => c (hf _ _ z)), if_neg c, ih]
theorem putK_of {κ' : Type} [DecidableEq κ'] (f : κ → κ') (hf : ∀ x y, f x = f y → x = y) (g : α → V) (d : List (κ × α)) (k : κ) (v : α) : putK (d.map fun e => (f e.1, g e.2)) (f k) (g v) = (pt d k v).map fun e => (f e.1, g e.2) := by
  unfold putK pt
  have e1 : ((d.map fun e => (f e.1, g e.2)).any fun kv => decide (kv.1 = f k)) = (d.any fun e => decide (e.1 = k)) := by
    rw [List.any_map]
    congr 1
    funext e
    show decide (f e.1 = f k) = decide (e.1 = k)
    by_cases c : e.1 = k
    · simp [c]
    · have : ¬ f e.1 = f k := fun z => c (hf _ _ z)
      simp [c, this]
  rw [e1]
  by_cases c : (d.any fun e => decide (e.1 = k)) = true
  · rw [if_pos c, if_pos c, List.map_map, List.map_map]
    apply List.map_congr_left
    intro e _
    show (if f e.1 = f k then (f e.1, g v) else (f e.1, g e.2)) = _
    by_cases c : e.1 = k
    · simp [c]
    · have : ¬ f e.1 = f k := fun z => c (hf _ _ z)
      simp [c, this]
  · rw [if_neg c, if_neg c, List.map_append] <;> rfl
end
/-- int keys, int values -/
def dk (d : List (Int × Int)) : List (Key × V) := d.map fun e => (Sum.inl e.1, V.int e.2)
/-- keys: tuples of ints -/
def dt (d : List (List Int × Int)) : List (List Key × V) := d.map fun e => (e.1.map Sum.inl, V.int e.2)
theorem inl_inj (x y : Int) (h : (Sum.inl x : Key) = Sum.inl y) : x = y := Sum.inl.inj h
theorem inls_inj (x y : List Int) (h : (x.map Sum.inl : List Key) = y.map Sum.inl) : x = y := (List.map_inj_right (fun a b z => Sum.inl.inj z)).mp h
theorem valV_dk (d : List (Int × Int)) (k : Int) : valV (dk d) (Sum.inl k) = (gt d k).map V.int := valV_of (κ' := Key) Sum.inl inl_inj V.int d k
theorem putK_dk (d : List (Int × Int)) (k v : Int) : putK (dk d) (Sum.inl k) (.int v) = dk (pt d k v) := putK_of (κ' := Key) Sum.inl inl_inj V.int d k v
theorem valV_dt (d : List (List Int × Int)) (k : List Int) : valV (dt d) (k.map Sum.inl) = (gt d k).map V.int := valV_of (κ' := List Key) (fun k : List Int => k.map Sum.inl) inls_inj V.int d k
theorem putK_dt (d : List (List Int × Int)) (k : List Int) (v : Int) : putK (dt d) (k.map Sum.inl) (.int v) = dt (pt d k v) := putK_of (κ' := List Key) (fun k : List Int => k.map Sum.inl) inls_inj V.int d k v
theorem key_of_ints (k : List Int) : ((k.map Sum.inl : List Key)).map kV = k.map V.int := by
  rw [List.map_map] <;> rfl
theorem dget_k {H : Hp} {a : Addr} {d : List (Int × Int)} (h : H a = some (.dK (dk d))) (k : Int) : DGet H a (.int k) ((gt d k).map V.int) := by
  have := DGet.k (k := Sum.inl k) h
  rw [valV_dk] at this
  exact this
theorem dget_t {H : Hp} {a b : Addr} {d : List (List Int × Int)} (h : H a = some (.dT (dt d))) {k : List Int} (hb : H b = some (.tup (k.map V.int))) : DGet H a (.ref b) ((gt d k).map V.int) := by
  have := DGet.t (k := k.map Sum.inl) (b := b) h (by rw [key_of_ints]; exact hb)
  rw [valV_dt] at this
  exact this
theorem dput_k {H : Hp} {a : Addr} {d : List (Int × Int)} (h : H a = some (.dK (dk d))) (k v : Int) (hl : d.length ≤ 100000) : DPut H a (.int k) (.int v) (upd H a (.dK (dk (pt d k v)))) := by
  have := DPut.k (k := Sum.inl k) (v := .int v) h (by unfold dk; rw [List.length_map]; exact szl (by omega))
  rw [putK_dk] at this
  exact this
theorem dput_t {H : Hp} {a b : Addr} {d : List (List Int × Int)} (h : H a = some (.dT (dt d))) {k : List Int} (hb : H b = some (.tup (k.map V.int))) (v : Int) (hl : d.length ≤ 100000) : DPut H a (.ref b) (.int v) (upd H a (.dT (dt (pt d k v)))) := by
  have := DPut.t (k := k.map Sum.inl) (b := b) (v := .int v) h (by rw [key_of_ints]; exact hb) (by unfold dt; rw [List.length_map]; exact szl (by omega))
  rw [putK_dt] at this
  exact this
/-- dict of pairs with unlike keys -/
theorem mergeK_dk : ∀ (more d : List (Int × Int)), ((d ++ more).map (·.1)).Nodup → mergeK (dk d) (dk more) = dk (d ++ more)
  | [], d, _ => by rw [List.append_nil] <;> rfl
  | e :: more, d, h => by
    have h1 : gt d e.1 = none := by
      cases c : gt d e.1 with
      | none => rfl
      | some v =>
        rw [List.map_append, List.nodup_append] at h
        exact absurd rfl (h.2.2 e.1 ((key_mem d e.1).mpr (by rw [c]; rfl)) e.1 (by simp))
    show mergeK (putK (dk d) (Sum.inl e.1) (.int e.2)) (dk more) = _
    rw [putK_dk, pt_new _ h1]
    have e2 : d ++ e :: more = (d ++ [(e.1, e.2)]) ++ more := by rw [List.append_assoc] <;> rfl
    rw [e2] at h ⊢
    exact mergeK_dk more _ h
end Cut
end

section
/-! the plain side: rows, prices, puzzles -/
namespace Cut
/-- all rows of n values, ascending -/
def rows : Nat → List (List Int)
  | 0 => [[]]
  | n + 1 => (rows n).flatMap fun r => [r ++ [0], r ++ [1]]
/-- the place of a row -/
def num (r : List Int) : Int := r.foldl (fun n v => 2 * n + v) 0
def Row (r : List Int) (n : Nat) : Prop := r.length = n ∧ ∀ v ∈ r, v = 0 ∨ v = 1
abbrev PrD := Nat × List Int
def PrOk (p : PrD) : Prop := 1 ≤ p.1 ∧ p.1 ≤ 3 ∧ p.2.length = 2 ^ p.1
def cost (p : PrD) (r : List Int) : Int := p.2.getD (num r).toNat 0
theorem rows_len (n : Nat) : (rows n).length = 2 ^ n := by
  induction n with
  | zero => rfl
  | succ n ih =>
    show ((rows n).flatMap fun r => [r ++ [0], r ++ [1]]).length = _
    rw [List.length_flatMap, Nat.pow_succ, ← ih]
    have h : ∀ l : List (List Int), (l.map fun r => ([r ++ [0], r ++ [1]] : List (List Int)).length).sum = l.length * 2 := fun l => by
      induction l with
      | nil => rfl
      | cons x l ih => rw [List.map_cons, List.sum_cons, ih, List.length_cons]; simp only [List.length_cons, List.length_nil]; omega
    exact h _
theorem rows_row (n : Nat) : ∀ r ∈ rows n, Row r n := by
  induction n with
  | zero =>
    intro r h
    have e : r = [] := by simpa [rows] using h
    subst e
    exact ⟨rfl, fun v h => by cases h⟩
  | succ n ih =>
    intro r h
    obtain ⟨q, hq, hr⟩ := List.mem_flatMap.mp (show r ∈ (rows n).flatMap fun r => [r ++ [0], r ++ [1]] from h)
    obtain ⟨h1, h2⟩ := ih q hq
    have e : r = q ++ [0] ∨ r = q ++ [1] := by simpa using hr
    rcases e with e | e <;> subst e <;> refine ⟨by rw [List.length_append, h1] <;> rfl, fun v hv => ?_⟩
    · rcases List.mem_append.mp hv with hv | hv
      · exact h2 v hv
      · exact .inl (by simpa using hv)
    · rcases List.mem_append.mp hv with hv | hv
      · exact h2 v hv
      · exact .inr (by simpa using hv)
theorem mem_rows : ∀ (n : Nat) (r : List Int), Row r n → r ∈ rows n := by
  intro n
  induction n with
  | zero =>
    intro r h
    have e : r = [] := List.eq_nil_of_length_eq_zero h.1
    subst e
    exact List.mem_singleton.mpr rfl
  | succ n ih =>
    intro r h
    have hne : r ≠ [] := fun e => by
      have := h.1
      rw [e] at this
      cases this
    have e : r = r.dropLast ++ [r.getLast hne] := (List.dropLast_concat_getLast hne).symm
    have hd : Row r.dropLast n := ⟨by rw [List.length_dropLast, h.1] <;> rfl, fun v hv => h.2 v ((List.dropLast_subset _) hv)⟩
    refine List.mem_flatMap.mpr ⟨r.dropLast, ih _ hd, ?_⟩
    rcases h.2 _ (List.getLast_mem hne) with q | q
    · rw [e, q]
      simp
    · rw [e, q]
      simp
theorem num_app (r : List Int) (v : Int) : num (r ++ [v]) = 2 * num r + v := by
  unfold num
  rw [List.foldl_append] <;> rfl
theorem num_bound : ∀ (n : Nat) (r : List Int), Row r n → 0 ≤ num r ∧ num r < 2 ^ n := by
  intro n
  induction n with
  | zero =>
    intro r h
    have e : r = [] := List.eq_nil_of_length_eq_zero h.1
    subst e
    exact ⟨Int.le_refl _, by decide⟩
  | succ n ih =>
    intro r h
    have hne : r ≠ [] := fun e => by
      have := h.1
      rw [e] at this
      cases this
    have e : r = r.dropLast ++ [r.getLast hne] := (List.dropLast_concat_getLast hne).symm
    have hd : Row r.dropLast n := ⟨by rw [List.length_dropLast, h.1] <;> rfl, fun v hv => h.2 v ((List.dropLast_subset _) hv)⟩
    obtain ⟨h1, h2⟩ := ih _ hd
    have e2 := num_app r.dropLast (r.getLast hne)
    rw [← e] at e2
    have h3 : (2 : Int) ^ (n + 1) = 2 * 2 ^ n := by rw [Int.pow_succ, Int.mul_comm]
    rcases h.2 _ (List.getLast_mem hne) with q | q <;> rw [q] at e2 <;> rw [h3] <;> omega
/-- the i-th row's place is i -/
theorem rows_num (n : Nat) : ∀ (i : Nat) (r : List Int), (rows n)[i]? = some r → num r = (i : Int) := by
  induction n with
  | zero =>
    intro i r h
    have e : i = 0 := by
      have := (List.getElem?_eq_some_iff.mp h).1
      simp [rows] at this
      omega
    subst e
    have e2 : r = [] := by simpa [rows] using h.symm
    subst e2
    rfl
  | succ n ih =>
    have key : ∀ (l : List (List Int)) (i : Nat) (r : List Int), (l.flatMap fun r => [r ++ [0], r ++ [1]])[i]? = some r → ∃ q, l[i / 2]? = some q ∧ r = q ++ [((i % 2 : Nat) : Int)] := by
      intro l
      induction l with
      | nil => intro i r h; simp at h
      | cons x l ihl =>
        intro i r h
        rw [List.flatMap_cons] at h
        match i, h with
        | 0, h => exact ⟨x, rfl, by simpa using h.symm⟩
        | 1, h => exact ⟨x, rfl, by simpa using h.symm⟩
        | i + 2, h =>
          obtain ⟨q, h1, h2⟩ := ihl i r (by simpa using h)
          refine ⟨q, ?_, ?_⟩
          · rw [show (i + 2) / 2 = i / 2 + 1 by omega]
            simpa using h1
          · rw [show (i + 2) % 2 = i % 2 by omega]
            exact h2
    intro i r h
    obtain ⟨q, h1, h2⟩ := key _ i r h
    have h3 := ih _ q h1
    rw [h2, num_app, h3]
    omega
theorem cost_get {p : PrD} {r : List Int} (h : PrOk p) (hr : Row r p.1) : p.2[(num r).toNat]? = some (cost p r) := by
  obtain ⟨h1, h2⟩ := num_bound _ _ hr
  have h3 : (num r).toNat < p.2.length := by
    rw [h.2.2]
    have h4 : ((2 ^ p.1 : Nat) : Int) = (2 : Int) ^ p.1 := by rw [Int.natCast_pow] <;> rfl
    omega
  unfold cost
  rw [List.getD_eq_getElem?_getD, List.getElem?_eq_getElem h3] <;> rfl
end Cut
end

section
set_option maxHeartbeats 4000000
namespace Cut
/-! ### sums told as lists (letters, number) -/
abbrev Told := List (List Int × Int)
def WT (e : List Int × Int) (s : Int → Bool) : Int := if e.1.all s then e.2 else 0
def WW (t : Told) (s : Int → Bool) : Int := (t.map fun e => WT e s).sum
def on (r : List Int) : Int → Bool := fun c => decide (r.getD c.toNat 0 = 1)
theorem WW_nil (s : Int → Bool) : WW [] s = 0 := rfl
theorem WW_cons (e : List Int × Int) (t : Told) (s : Int → Bool) : WW (e :: t) s = WT e s + WW t s := by
  unfold WW
  rw [List.map_cons, List.sum_cons]
theorem WW_app (t u : Told) (s : Int → Bool) : WW (t ++ u) s = WW t s + WW u s := by
  unfold WW
  rw [List.map_append, List.sum_append]
theorem sum_perm {l m : List Int} (h : l.Perm m) : l.sum = m.sum := by
  induction h with
  | nil => rfl
  | cons x _ ih => rw [List.sum_cons, List.sum_cons, ih]
  | swap x y l => rw [List.sum_cons, List.sum_cons, List.sum_cons, List.sum_cons]; omega
  | trans _ _ h1 h2 => rw [h1, h2]
theorem WW_perm {t u : Told} (h : t.Perm u) (s : Int → Bool) : WW t s = WW u s := sum_perm (h.map _)
/-- what sum_told makes of a table -/
def pick (d : Told) (k : List Int) : Option (List Int × Int) := if (gt d k).getD 0 = 0 then none else some (k, (gt d k).getD 0)
def ToldOf (d t : Told) : Prop := ∃ ys : List (List Int), ys.Perm (d.map (·.1)) ∧ ys.Pairwise (fun x y => HT.lexLt y x = false) ∧ t = ys.filterMap (pick d)
theorem WW_pick (d : Told) (s : Int → Bool) : ∀ ys : List (List Int), WW (ys.filterMap (pick d)) s = (ys.map fun k => WT (k, (gt d k).getD 0) s).sum
  | [] => rfl
  | y :: ys => by
    rw [List.filterMap_cons, List.map_cons, List.sum_cons, ← WW_pick d s ys]
    by_cases h : (gt d y).getD 0 = 0
    · have hp : pick d y = none := if_pos h
      simp only [hp]
      rw [h]
      unfold WT
      split <;> simp
    · have hp : pick d y = some (y, (gt d y).getD 0) := if_neg h
      simp only [hp]
      exact WW_cons _ _ _
theorem told_WW {d t : Told} (nd : (d.map (·.1)).Nodup) (h : ToldOf d t) (s : Int → Bool) : WW t s = WW d s := by
  obtain ⟨ys, hp, _, rfl⟩ := h
  rw [WW_pick, sum_perm (hp.map _)]
  unfold WW
  rw [List.map_map]
  congr 1
  apply List.map_congr_left
  intro e he
  show WT (e.1, (gt d e.1).getD 0) s = WT e s
  rw [gt_of_mem nd (show (e.1, e.2) ∈ d from he)] <;> rfl
theorem told_mem {d t : Told} (h : ToldOf d t) {e : List Int × Int} (he : e ∈ t) : e ∈ d ∧ e.2 ≠ 0 := by
  obtain ⟨ys, hp, _, rfl⟩ := h
  obtain ⟨k, hk, hk2⟩ := List.mem_filterMap.mp he
  unfold pick at hk2
  by_cases c : (gt d k).getD 0 = 0
  · rw [if_pos c] at hk2
    cases hk2
  · rw [if_neg c] at hk2
    cases hk2
    refine ⟨?_, c⟩
    cases hg : gt d k with
    | none => rw [hg] at c; exact absurd rfl c
    | some v => exact gt_mem hg
/-- in the model's order -/
theorem lexLt_irrefl (x : List Int) : HT.lexLt x x = false := by
  induction x with
  | nil => exact HT.lexLt_nil_nil
  | cons a x ih => rw [HT.lexLt_cons, if_pos rfl, ih]
theorem lexLt_tri : ∀ x y : List Int, HT.lexLt y x = false → x ≠ y → HT.lexLt x y = true
  | [], [], _, h => absurd rfl h
  | [], b :: y, _, _ => HT.lexLt_nil_cons b y
  | a :: x, [], h, _ => by rw [HT.lexLt_nil_cons] at h; cases h
  | a :: x, b :: y, h, hne => by
    rw [HT.lexLt_cons] at h ⊢
    by_cases c : a = b
    · rw [if_pos c]
      rw [if_pos c.symm] at h
      exact lexLt_tri x y h fun z => hne (by rw [c, z])
    · rw [if_neg c]
      rw [if_neg (Ne.symm c)] at h
      have := of_decide_eq_false h
      exact decide_eq_true (by omega)
theorem told_keys {d t : Told} (nd : (d.map (·.1)).Nodup) (h : ToldOf d t) : (t.map (·.1)).Pairwise (fun x y => HT.lexLt x y = true) := by
  obtain ⟨ys, hp, hs, rfl⟩ := h
  have ndy : ys.Nodup := hp.nodup_iff.mpr nd
  have hs2 : ys.Pairwise (fun x y => HT.lexLt x y = true) := (hs.and ndy).imp fun h => lexLt_tri _ _ h.1 h.2
  clear hp hs ndy
  induction ys with
  | nil => exact .nil
  | cons y ys ih =>
    rw [List.pairwise_cons] at hs2
    rw [List.filterMap_cons]
    have hsub : ∀ k ∈ (ys.filterMap (pick d)).map (·.1), k ∈ ys := by
      intro k hk
      obtain ⟨e, he, rfl⟩ := List.mem_map.mp hk
      obtain ⟨j, hj, hj2⟩ := List.mem_filterMap.mp he
      unfold pick at hj2
      split at hj2
      · cases hj2
      · cases hj2
        exact hj
    unfold pick
    split
    · rename_i h1
      exact ih hs2.2
    · rename_i e h1
      rw [List.map_cons, List.pairwise_cons]
      refine ⟨fun k hk => ?_, ih hs2.2⟩
      split at h1
      · cases h1
      · cases h1
        exact hs2.1 k (hsub k hk)
/-- adding to a table -/
theorem WW_pt {d : Told} (nd : (d.map (·.1)).Nodup) (k : List Int) (n : Int) (s : Int → Bool) : WW (pt d k n) s = WW d s + WT (k, n - (gt d k).getD 0) s := by
  unfold pt
  rw [any_key]
  by_cases c : (gt d k).isSome = true
  · rw [if_pos c]
    obtain ⟨v, hv⟩ := Option.isSome_iff_exists.mp c
    rw [hv]
    show _ = _ + WT (k, n - v) s
    clear c
    induction d with
    | nil => cases hv
    | cons e d ih =>
      rw [List.map_cons, List.nodup_cons] at nd
      rw [List.map_cons, WW_cons, WW_cons]
      rw [gt_cons] at hv
      by_cases ce : e.1 = k
      · rw [if_pos ce] at hv
        cases hv
        have hno : d.map (fun e => if e.1 = k then (e.1, n) else e) = d := by
          have : ∀ f ∈ d, (if f.1 = k then (f.1, n) else f) = id f := fun f hf => by
            rw [if_neg (fun z => nd.1 (List.mem_map.mpr ⟨f, hf, z.trans ce.symm⟩))]
            rfl
          rw [List.map_congr_left this, List.map_id]
        rw [hno, if_pos ce]
        unfold WT
        rw [ce]
        split <;> simp <;> omega
      · rw [if_neg ce] at hv
        rw [if_neg ce, ih nd.2 hv]
        omega
  · have hn : gt d k = none := by simpa using c
    rw [if_neg c, WW_app, hn]
    show _ = _ + WT (k, n - 0) s
    rw [Int.sub_zero, WW_cons, WW_nil, Int.add_zero]
end Cut
end

section
set_option maxHeartbeats 4000000
namespace Cut
/-- the places that hold 1 -/
def supp (r : List Int) : List Int := (enu r).filterMap fun p => if decide (p.2 = 1) then some (p.1 : Int) else none
theorem enu_mem {α : Type} {xs : List α} {p : Nat × α} : p ∈ enu xs ↔ xs[p.1]? = some p.2 := by
  constructor
  · intro h
    obtain ⟨i, hi⟩ := List.mem_iff_getElem?.mp h
    obtain ⟨h1, h2⟩ := enu_at hi
    rw [h1]; exact h2
  · intro h
    have hl := (List.getElem?_eq_some_iff.mp h).1
    refine List.mem_iff_getElem?.mpr ⟨p.1, ?_⟩
    unfold enu
    rw [List.getElem?_zip_eq_some]
    exact ⟨List.getElem?_range hl, h⟩
theorem mem_supp {r : List Int} {l : Int} : l ∈ supp r ↔ ∃ i : Nat, l = (i : Int) ∧ r[i]? = some 1 := by
  unfold supp
  rw [List.mem_filterMap]
  constructor
  · rintro ⟨p, hp, h⟩
    by_cases c : p.2 = 1
    · simp only [c, decide_true, if_true, Option.some.injEq] at h
      refine ⟨p.1, h.symm, ?_⟩
      rw [← c]
      exact enu_mem.mp hp
    · simp [c] at h
  · rintro ⟨i, rfl, h⟩
    exact ⟨(i, 1), enu_mem.mpr h, by simp⟩
theorem supp_lt (r : List Int) : (supp r).Pairwise (· < ·) := by
  have h : (enu r).Pairwise (fun p q => p.1 < q.1) := by
    have h1 : ((enu r).map (·.1)).Pairwise (· < ·) := by
      have e : (enu r).map (·.1) = List.range r.length := by
        unfold enu
        rw [List.map_fst_zip (by rw [List.length_range] <;> exact Nat.le_refl _)]
      rw [e]
      exact List.pairwise_lt_range
    exact List.pairwise_map.mp h1
  unfold supp
  rw [List.pairwise_filterMap]
  refine h.imp fun {p q} hpq a ha b hb => ?_
  by_cases c : p.2 = 1
  · by_cases d : q.2 = 1
    · simp only [c, decide_true, if_true, Option.some.injEq] at ha
      simp only [d, decide_true, if_true, Option.some.injEq] at hb
      omega
    · simp [d] at hb
  · simp [c] at ha
theorem supp_len (r : List Int) : (supp r).length ≤ r.length := by
  refine Nat.le_trans (List.length_filterMap_le _ _) ?_
  rw [enu_len]
  exact Nat.le_refl _
theorem on_nat {q : List Int} {i : Nat} : on q (i : Int) = true ↔ q[i]? = some 1 := by
  unfold on
  rw [decide_eq_true_eq, Int.toNat_natCast, List.getD_eq_getElem?_getD]
  cases h : q[i]? with
  | none => simp
  | some v => simp
theorem supp_on {r q : List Int} : (supp r).all (on q) = true ↔ ∀ i : Nat, r[i]? = some 1 → q[i]? = some 1 := by
  rw [List.all_eq_true]
  constructor
  · intro h i hi
    exact on_nat.mp (h _ (mem_supp.mpr ⟨i, rfl, hi⟩))
  · intro h l hl
    obtain ⟨i, rfl, hi⟩ := mem_supp.mp hl
    exact on_nat.mpr (h i hi)
theorem fold_le : ∀ (r q : List Int) (a b : Int), a ≤ b → r.length = q.length → (∀ (i : Nat) (x y : Int), r[i]? = some x → q[i]? = some y → x ≤ y) → r.foldl (fun n v => 2 * n + v) a ≤ q.foldl (fun n v => 2 * n + v) b
  | [], [], _, _, h, _, _ => h
  | [], _ :: _, _, _, _, h, _ => by simp at h
  | _ :: _, [], _, _, _, h, _ => by simp at h
  | x :: r, y :: q, a, b, h, hl, hp => by
    refine fold_le r q _ _ ?_ (by simpa using hl) fun i u v hu hv => hp (i + 1) u v (by simpa using hu) (by simpa using hv)
    have := hp 0 x y rfl rfl
    show 2 * a + x ≤ 2 * b + y
    omega
theorem num_le {n : Nat} {r q : List Int} (hr : Row r n) (hq : Row q n) (h : ∀ i : Nat, r[i]? = some 1 → q[i]? = some 1) : num r ≤ num q := by
  refine fold_le r q 0 0 (Int.le_refl _) (by rw [hr.1, hq.1]) fun i x y hx hy => ?_
  rcases hr.2 x (List.mem_of_getElem? hx) with e | e
  · rcases hq.2 y (List.mem_of_getElem? hy) with f | f <;> omega
  · subst e
    have := h i hx
    rw [hy] at this
    cases this
    exact Int.le_refl _
/-- the table of sum_of_price after i rows -/
def SpInv (p : PrD) (i : Nat) (d : Told) : Prop := d.map (·.1) = ((rows p.1).take i).map supp ∧ ∀ (j : Nat) (r : List Int), j < i → (rows p.1)[j]? = some r → WW d (on r) = cost p r
theorem rows_at {n i : Nat} {r : List Int} (h : (rows n)[i]? = some r) : Row r n := rows_row n r (List.mem_of_getElem? h)
theorem sp_key {n i j : Nat} {r q : List Int} (hr : (rows n)[i]? = some r) (hq : (rows n)[j]? = some q) (h : (supp r).all (on q) = true) : i ≤ j := by
  have h1 := num_le (rows_at hr) (rows_at hq) (supp_on.mp h)
  rw [rows_num n i r hr, rows_num n j q hq] at h1
  omega
theorem supp_self (r : List Int) : (supp r).all (on r) = true := supp_on.mpr fun _ h => h
theorem sp_nodup {p : PrD} {i : Nat} {d : Told} (h : SpInv p i d) : (d.map (·.1)).Nodup := by
  rw [h.1]
  have key : ∀ m, (((rows p.1).take m).map supp).Nodup := fun m => by
    rw [List.Nodup, List.pairwise_map, List.pairwise_iff_getElem]
    intro a b ha hb hab e
    rw [List.length_take] at ha hb
    rw [List.getElem_take, List.getElem_take] at e
    have hra : (rows p.1)[a]? = some (rows p.1)[a] := List.getElem?_eq_getElem (by omega)
    have hrb : (rows p.1)[b]? = some (rows p.1)[b] := List.getElem?_eq_getElem (by omega)
    have := sp_key hrb hra (by rw [← e]; exact supp_self _)
    omega
  exact key i
theorem sp_step {p : PrD} {i : Nat} {d : Told} {r : List Int} (h : SpInv p i d) (hr : (rows p.1)[i]? = some r) : SpInv p (i + 1) (pt d (supp r) (cost p r - WW d (on r))) := by
  have hno : gt d (supp r) = none := by
    cases hg : gt d (supp r) with
    | none => rfl
    | some v =>
      have hm : supp r ∈ d.map (·.1) := (key_mem d _).mpr (by rw [hg]; rfl)
      rw [h.1] at hm
      obtain ⟨q, hq, e⟩ := List.mem_map.mp hm
      obtain ⟨j, hj⟩ := List.mem_iff_getElem?.mp hq
      rw [List.getElem?_take] at hj
      by_cases c : j < i
      · rw [if_pos c] at hj
        have := sp_key hr hj (by rw [← e]; exact supp_self _)
        omega
      · rw [if_neg c] at hj
        cases hj
  rw [pt_new _ hno]
  refine ⟨?_, fun j q hj hq => ?_⟩
  · rw [List.map_append, h.1, List.take_add_one, hr, List.map_append] <;> rfl
  · rw [WW_app, WW_cons, WW_nil, Int.add_zero]
    unfold WT
    by_cases c : j = i
    · subst c
      rw [hr] at hq
      cases hq
      rw [if_pos (supp_self r)]
      show _ + (cost p r - WW d (on r)) = _
      omega
    · have hji : j < i := by omega
      rw [if_neg fun z => by have := sp_key hr hq z; omega, h.2 j q hji hq, Int.add_zero]
/-- the sum that a price is -/
def PrTold (p : PrD) (t : Told) : Prop := (∀ r, Row r p.1 → WW t (on r) = cost p r) ∧ (∀ e ∈ t, e.2 ≠ 0 ∧ e.1.Pairwise (· < ·) ∧ (∀ l ∈ e.1, 0 ≤ l ∧ l < (p.1 : Int)) ∧ e.1.length ≤ p.1) ∧ t.length ≤ 2 ^ p.1
theorem sp_len {p : PrD} {i : Nat} {d : Told} (h : SpInv p i d) : d.length ≤ 2 ^ p.1 := by
  have e := congrArg List.length h.1
  rw [List.length_map, List.length_map, List.length_take, rows_len] at e
  omega
theorem sp_mem {p : PrD} {i : Nat} {d : Told} (h : SpInv p i d) {e : List Int × Int} (he : e ∈ d) : e.1.Pairwise (· < ·) ∧ (∀ l ∈ e.1, 0 ≤ l ∧ l < (p.1 : Int)) ∧ e.1.length ≤ p.1 := by
  have hm : e.1 ∈ d.map (·.1) := List.mem_map.mpr ⟨e, he, rfl⟩
  rw [h.1] at hm
  obtain ⟨r, hr, e2⟩ := List.mem_map.mp hm
  have hrow := rows_row _ _ (List.mem_of_mem_take hr)
  rw [← e2]
  refine ⟨supp_lt r, fun l hl => ?_, by have := supp_len r; rw [hrow.1] at this; exact this⟩
  obtain ⟨k, rfl, hk⟩ := mem_supp.mp hl
  have := (List.getElem?_eq_some_iff.mp hk).1
  rw [hrow.1] at this
  omega
theorem told_len {d t : Told} (h : ToldOf d t) : t.length ≤ d.length := by
  obtain ⟨ys, hp, _, rfl⟩ := h
  refine Nat.le_trans (List.length_filterMap_le _ _) ?_
  rw [hp.length_eq, List.length_map]
  exact Nat.le_refl _
theorem sp_told {p : PrD} {d t : Told} (h : SpInv p (rows p.1).length d) (ht : ToldOf d t) : PrTold p t := by
  refine ⟨fun r hr => ?_, fun e he => ?_, Nat.le_trans (told_len ht) (sp_len h)⟩
  · rw [told_WW (sp_nodup h) ht]
    obtain ⟨j, hj⟩ := List.mem_iff_getElem?.mp (mem_rows p.1 r hr)
    exact h.2 j r (List.getElem?_eq_some_iff.mp hj).1 hj
  · obtain ⟨h1, h2⟩ := told_mem ht he
    exact ⟨h2, sp_mem h h1⟩
end Cut
end

section
set_option maxHeartbeats 4000000
namespace Cut
def rowOf (s : Int → Bool) (n : Nat) : List Int := (List.range n).map fun (i : Nat) => if s (i : Int) = true then 1 else 0
def Keeps (st : List (Int × Int)) (s : Int → Bool) : Prop := ∀ p ∈ st, s p.1 = decide (p.2 = 1)
def StOk (n : Nat) (st : List (Int × Int)) : Prop := st.Pairwise (fun p q => p.1 < q.1) ∧ ∀ p ∈ st, 0 ≤ p.1 ∧ p.1 < (n : Int) ∧ (p.2 = 0 ∨ p.2 = 1)
/-- the letters that a told member of a price is read as -/
def LetOf (st : List (Int × Int)) (cells places : List Int) (ls : List Int) : Prop := ls.Pairwise (· < ·) ∧ (∀ c, c ∈ ls ↔ gt st c = none ∧ ∃ l ∈ places, cells.getD l.toNat 0 = c)
def sel (f cells : List Int) : List Int := cells.map fun c => f.getD c.toNat 0
theorem sel_row {f cells : List Int} {n m : Nat} (hf : Row f n) (hc : ∀ c ∈ cells, 0 ≤ c ∧ c < (n : Int)) (hm : cells.length = m) : Row (sel f cells) m := by
  refine ⟨by unfold sel; rw [List.length_map, hm], fun v hv => ?_⟩
  obtain ⟨c, h1, rfl⟩ := List.mem_map.mp hv
  obtain ⟨c0, c1⟩ := hc c h1
  have hl : c.toNat < f.length := by rw [hf.1]; omega
  rw [List.getD_eq_getElem?_getD, List.getElem?_eq_getElem hl]
  exact hf.2 _ (List.getElem_mem hl)
theorem rowOf_row (s : Int → Bool) (n : Nat) : Row (rowOf s n) n := by
  refine ⟨by unfold rowOf; rw [List.length_map, List.length_range], fun v hv => ?_⟩
  obtain ⟨i, _, rfl⟩ := List.mem_map.mp hv
  split
  · exact .inr rfl
  · exact .inl rfl
theorem rowOf_at (s : Int → Bool) {n i : Nat} (h : i < n) : (rowOf s n)[i]? = some (if s (i : Int) = true then 1 else 0) := by
  unfold rowOf
  rw [List.getElem?_map, List.getElem?_range h] <;> rfl
theorem rowOf_on (s : Int → Bool) {n : Nat} {c : Int} (h0 : 0 ≤ c) (h1 : c < (n : Int)) : on (rowOf s n) c = s c := by
  unfold on
  rw [List.getD_eq_getElem?_getD, rowOf_at s (show c.toNat < n by omega)]
  have : ((c.toNat : Nat) : Int) = c := by omega
  rw [this]
  cases s c <;> rfl
/-- a row is told by its letters -/
theorem on_rowOf {r : List Int} {n : Nat} (h : Row r n) : rowOf (on r) n = r := by
  apply List.ext_getElem?
  intro i
  by_cases hi : i < n
  · rw [rowOf_at _ hi]
    have hl : i < r.length := by rw [h.1]; exact hi
    rw [List.getElem?_eq_getElem hl]
    congr 1
    have h2 := h.2 _ (List.getElem_mem hl)
    by_cases c : on r (i : Int) = true
    · rw [if_pos c]
      have := on_nat.mp c
      rw [List.getElem?_eq_getElem hl] at this
      exact (Option.some.inj this).symm
    · rw [if_neg c]
      rcases h2 with z | z
      · exact z.symm
      · exact absurd (on_nat.mpr (by rw [List.getElem?_eq_getElem hl, z])) c
  · rw [List.getElem?_eq_none (by rw [(rowOf_row _ n).1]; omega), List.getElem?_eq_none (by rw [h.1]; omega)]
theorem WW_congr {t : Told} {s u : Int → Bool} (h : ∀ e ∈ t, ∀ l ∈ e.1, s l = u l) : WW t s = WW t u := by
  induction t with
  | nil => rfl
  | cons e t ih =>
    rw [WW_cons, WW_cons, ih fun f hf => h f (.tail _ hf)]
    congr 1
    unfold WT
    have : e.1.all s = e.1.all u := by
      have h1 := h e (.head _)
      generalize e.1 = ls at h1
      clear ih h
      induction ls with
      | nil => rfl
      | cons l ls ih => rw [List.all_cons, List.all_cons, h1 l (.head _), ih fun k hk => h1 k (.tail _ hk)]
    rw [this]
def cs (cells : List Int) (s : Int → Bool) : Int → Bool := fun l => s (cells.getD l.toNat 0)
theorem keeps_gt {st : List (Int × Int)} {s : Int → Bool} (h : Keeps st s) {c v : Int} (hg : gt st c = some v) : s c = decide (v = 1) := h _ (gt_mem hg)
theorem let_zero {st : List (Int × Int)} {s : Int → Bool} {cells places : List Int} (h : Keeps st s) (hz : ∃ l ∈ places, gt st (cells.getD l.toNat 0) = some 0) : places.all (cs cells s) = false := by
  obtain ⟨l, hl, hg⟩ := hz
  rw [List.all_eq_false]
  refine ⟨l, hl, ?_⟩
  unfold cs
  rw [keeps_gt h hg]
  decide
theorem let_all {n : Nat} {st : List (Int × Int)} {s : Int → Bool} {cells places ls : List Int} (hst : StOk n st) (h : Keeps st s) (hz : ¬ ∃ l ∈ places, gt st (cells.getD l.toNat 0) = some 0) (hl : LetOf st cells places ls) : ls.all s = places.all (cs cells s) := by
  have key : ls.all s = true ↔ places.all (cs cells s) = true := by
    rw [List.all_eq_true, List.all_eq_true]
    constructor
    · intro h1 l hlp
      unfold cs
      cases hg : gt st (cells.getD l.toNat 0) with
      | none => exact h1 _ ((hl.2 _).mpr ⟨hg, l, hlp, rfl⟩)
      | some v =>
        rw [keeps_gt h hg]
        rcases (hst.2 _ (gt_mem hg)).2.2 with z | z
        · have z' : v = 0 := z
          subst z'
          exact absurd ⟨l, hlp, hg⟩ hz
        · have z' : v = 1 := z
          subst z'
          rfl
    · intro h1 c hc
      obtain ⟨_, l, hlp, rfl⟩ := (hl.2 c).mp hc
      exact h1 l hlp
  cases h1 : ls.all s <;> cases h2 : places.all (cs cells s) <;> simp_all
theorem told_row {p : PrD} {u : Told} {s : Int → Bool} {cells : List Int} {n : Nat} (hu : PrTold p u) (hl : cells.length = p.1) (hc : ∀ c ∈ cells, 0 ≤ c ∧ c < (n : Int)) : WW u (cs cells s) = cost p (sel (rowOf s n) cells) := by
  rw [← hu.1 _ (sel_row (rowOf_row s n) hc hl)]
  refine WW_congr fun e he l hle => ?_
  obtain ⟨l0, l1⟩ := (hu.2.1 e he).2.2.1 l hle
  have hll : l.toNat < cells.length := by omega
  unfold cs on sel
  rw [List.getD_eq_getElem?_getD, List.getElem?_eq_getElem hll, List.getD_eq_getElem?_getD, List.getElem?_map, List.getElem?_eq_getElem hll]
  show s cells[l.toNat] = decide ((rowOf s n).getD cells[l.toNat].toNat 0 = 1)
  obtain ⟨c0, c1⟩ := hc _ (List.getElem_mem hll)
  exact (rowOf_on s c0 c1).symm
theorem nodup_sub_len {l m : List Int} (nd : l.Nodup) (h : ∀ x ∈ l, x ∈ m) : l.length ≤ m.length := by
  induction l generalizing m with
  | nil => exact Nat.zero_le _
  | cons x l ih =>
    rw [List.nodup_cons] at nd
    obtain ⟨a, b, rfl⟩ := List.append_of_mem (h x (.head _))
    have := ih (m := a ++ b) nd.2 fun y hy => by
      have h1 := h y (.tail _ hy)
      rw [List.mem_append, List.mem_cons] at h1
      rw [List.mem_append]
      rcases h1 with z | z | z
      · exact .inl z
      · subst z
        exact absurd hy nd.1
      · exact .inr z
    rw [List.length_append] at this
    rw [List.length_append, List.length_cons, List.length_cons]
    omega
theorem let_len {st : List (Int × Int)} {cells places ls : List Int} (h : LetOf st cells places ls) : ls.length ≤ places.length := by
  have := nodup_sub_len (m := places.map fun l => cells.getD l.toNat 0) (h.1.imp fun h => Int.ne_of_lt h) fun c hc => by
    obtain ⟨_, l, hl, rfl⟩ := (h.2 c).mp hc
    exact List.mem_map.mpr ⟨l, hl, rfl⟩
  rw [List.length_map] at this
  exact this
/-- what a table of sum_of keeps -/
structure SoInv (n : Nat) (st : List (Int × Int)) (d : Told) : Prop where
  nod : (d.map (·.1)).Nodup
  mem : ∀ e ∈ d, e.1.Pairwise (· < ·) ∧ (∀ l ∈ e.1, 0 ≤ l ∧ l < (n : Int)) ∧ e.1.length ≤ 3 ∧ ∀ l ∈ e.1, gt st l = none
theorem so_pt {n : Nat} {st : List (Int × Int)} {d : Told} (h : SoInv n st d) {ls : List Int} (h1 : ls.Pairwise (· < ·)) (h2 : ∀ l ∈ ls, 0 ≤ l ∧ l < (n : Int)) (h3 : ls.length ≤ 3) (h4 : ∀ l ∈ ls, gt st l = none) (v : Int) : SoInv n st (pt d ls v) := by
  refine ⟨pt_nodup h.nod _ _, fun e he => ?_⟩
  have hk : e.1 ∈ (pt d ls v).map (·.1) := List.mem_map.mpr ⟨e, he, rfl⟩
  rw [key_mem, gt_pt] at hk
  by_cases c : e.1 = ls
  · rw [c]
    exact ⟨h1, h2, h3, h4⟩
  · rw [if_neg c, ← key_mem] at hk
    obtain ⟨f, hf, e2⟩ := List.mem_map.mp hk
    rw [← e2]
    exact h.mem f hf
/-- one member of a price's sum, read under a start -/
theorem so_step {n : Nat} {st : List (Int × Int)} {s : Int → Bool} {cells places ls : List Int} (hst : StOk n st) (h : Keeps st s) (hz : ¬ ∃ l ∈ places, gt st (cells.getD l.toNat 0) = some 0) (hl : LetOf st cells places ls) {d : Told} (inv : SoInv n st d) (number times : Int) :
    WW (pt d ls ((gt d ls).getD 0 + number * times)) s = WW d s + WT (places, number) (cs cells s) * times := by
  rw [WW_pt inv.nod]
  congr 1
  unfold WT
  rw [show (ls, (gt d ls).getD 0 + number * times - (gt d ls).getD 0).1 = ls from rfl, let_all hst h hz hl]
  show (if places.all (cs cells s) = true then (gt d ls).getD 0 + number * times - (gt d ls).getD 0 else 0) = (if places.all (cs cells s) = true then number else 0) * times
  split
  · omega
  · rw [Int.zero_mul]
end Cut
end

section
set_option maxHeartbeats 4000000
namespace Cut
open PySem PySem.Spec L2
local macro_rules | `(tactic| walk_at "rd") => `(tactic| dsimp only [tFor_eq, tLc_eq, tLc2_eq, iTup, iList, iRng1, iRng2, iSeq, RZ.iZipA, iEnum, iZipX, iEnumT, iKeys, tTupZip, tLenSet, gFld_app, tLock, tLockE, tCallN, tTup0F, tAsg, tVar, tC, tCmp, tIsN, tNotN, tB, tAnd, tOr, tNot, tAndV, tOrV, tNotV, tIf, tNext, tSeq, tBreak, tCont, tDrop, tRet, tRetN, tIfS, gName_app, gTup_app, gCons_app, gNil_app, gSub_app, tAsg, tAug, tCall, tMeth, tMake, tCons, tNil, tTup, tLst, tCB, tOp, tUn, tTest, tChain, tFld, sFld, sFldAug, tBM, tBM0, tSl, tPart, tNoPart, tDGet, tDIn, tDNotIn, sDPut, sDAug, tDNewK, tDNewT, tDGet2, L2.rI, L2.rI0, L2.rU, rEq, rNe, t2I, ipI, cxOf, Cx.nox, Cx.wish])
local macro_rules | `(tactic| walk_at "ex") => `(tactic| simp only [L2.start, List.map_cons, List.map_nil, List.length_cons, List.length_nil, List.replicate_succ, List.replicate_zero, List.cons_append, List.nil_append, List.append_nil, List.getElem?_cons_zero, List.getElem?_cons_succ, List.set_cons_zero, List.set_cons_succ, L2.wipe, Option.some.injEq, V.int.injEq, V.bl.injEq, V.ref.injEq, V.str.injEq, V.ty.injEq, List.cons.injEq, exists_eq_left', exists_eq_left, exists_eq_right, and_true, true_and, and_self, exists_and_left, exists_and_right, exists_const, and_assoc, exists_eq, exists_eq', eq_self_iff_true, if_true, if_false, Bool.false_eq_true, decide_eq_true_eq, ne_eq, reduceCtorEq, not_false_eq_true, Nat.reduceAdd, Nat.reduceSub, Bool.not_true, Bool.not_false, Option.map_some, Option.map_none, Option.isSome_some, Option.isSome_none, Option.getD_some, Option.getD_none])
local macro_rules | `(tactic| walk_at "st") => `(tactic| ((try walk_at "rd"); (try walk_at "ex")))

section
variable {K : PySem.W.Frag} {H : Hp} {Q : VK}
theorem ty_i (n m : String) (b : Bool) (h : kitB n m = some b) {x : V} (t : TyX K H x (.type n)) (q : Q (.bl b) H) : rIsi K [x, .ty m] H Q := ⟨x, .ty m, .type n, .type m, b, rfl, .ty m, t, kit_ty h, q⟩
theorem isi_ii {i : Int} (q : Q (.bl true) H) : rIsi K [.int i, .ty "int"] H Q := ty_i "int" "int" true (by decide +kernel) (.base (.int i)) q
theorem isi_ib {i : Int} (q : Q (.bl false) H) : rIsi K [.int i, .ty "bool"] H Q := ty_i "int" "bool" false (by decide +kernel) (.base (.int i)) q
theorem isi_tt {a : Addr} {xs : List V} (h : H a = some (.tup xs)) (q : Q (.bl true) H) : rIsi K [.ref a, .ty "tuple"] H Q := ty_i "tuple" "tuple" true (by decide +kernel) (.base (.tup h)) q
theorem isi_own {a C dx : Addr} {fs : List (Str × V)} (s : C8.InsC K C) (h : H a = some (.ins C dx fs)) (q : Q (.bl true) H) : rIsi K [.ref a, .ref C] H Q :=
  ⟨.ref a, .ref C, .ref C, .ref C, true, rfl, .own C, .base (.ins h s.cl s.ha s.hn s.htk s.hm), s.me, q⟩
/-- isinstance(x, (list, tuple)) of a list, a tuple -/
theorem isi_lt {a p : Addr} {xs : List V} (hp : H p = some (.tup [.ty "list", .ty "tuple"])) (h : H a = some (.lst xs) ∨ H a = some (.tup xs)) (q : Q (.bl true) H) : rIsiT K [.ref a, .ref p] H Q := by
  rcases h with h | h
  · exact ⟨.ref a, p, _, .type "list", [.type "list", .type "tuple"], true, rfl, hp, .cons (.ty _) (.cons (.ty _) .nil), .base (.lst h), kitAny_cons (kit_ty (b := "list") (r := true) (by decide +kernel)) (fun z => nomatch z) (fun _ => rfl), q⟩
  · exact ⟨.ref a, p, _, .type "tuple", [.type "list", .type "tuple"], true, rfl, hp, .cons (.ty _) (.cons (.ty _) .nil), .base (.tup h), kitAny_cons (kit_ty (b := "list") (r := false) (by decide +kernel)) (fun _ => kitAny_cons (kit_ty (b := "tuple") (r := true) (by decide +kernel)) (fun z => nomatch z) (fun _ => rfl)) (fun z => nomatch z), q⟩
end
/-! ### values -/
def sp_is_integer (K : PySem.W.Frag) : Sp := VSp fun vs H v => ∃ i : Int, vs = [.int i] ∧ v = .bl true
abbrev nN_is_integer : List Str := ["value"]
theorem sc_is_integer : FnScope nN_is_integer ["value"] (defScope s_is_integer) := ⟨rfl, rfl, rfl, by decide +kernel, rfl, by decide +kernel, by decide +kernel⟩
theorem ok_is_integer {P : Program} {w : World} {K : PySem.W.Frag} {mg : Str → Option Value} {base : Heap} {fd : FuncData} (T : GG K w mg) (F : FunD K "is_integer" "is_integer" (defArgs s_is_integer) (defBody s_is_integer) (defScope s_is_integer) [] [] (He.fAd K ("is_integer", none)) fd)  : Cal P w K mg base "is_integer" 1 ["value"] (sp_is_integer K) := by
  have nd := sc_is_integer.nd
  refine cal_of F T.g_is_integer (fun _ _ _ _ _ _ us hl => match us, hl with | [_], _ => rfl) (FunD.ok F sc_is_integer (fun vs H Q E h => ?_) (fun cdv A outer s H vs Q E hr h => ?_))
  · obtain ⟨_, ⟨i, rfl, rfl⟩, q⟩ := h
    rfl
  obtain ⟨_, ⟨i, rfl, rfl⟩, q⟩ := h
  have hu := hu_of hr
  refine ⟨_, PSs.nox (pss_one (ps_ret (pe_and (pe_bI T.f_isinstance call_isi (pa_cons (pv 0) (pa_cons (pe_ty T.f_int bt_int) pa_nil))) (pe_one (pe_not (pe_bI T.f_isinstance call_isi (pa_cons (pv 0) (pa_cons (pe_ty T.f_bool bt_bool) pa_nil)))))))), ?_⟩
  walk_at "st"
  refine isi_ii ?_
  walk_at "st"
  refine isi_ib ?_
  walk_at "st"
  exact q
def sp_is_below_prices (K : PySem.W.Frag) : Sp := VSp fun vs H v => ∃ i n : Int, vs = [.int i, .int n] ∧ v = .bl (decide (0 ≤ i ∧ i < n))
abbrev nN_is_below_prices : List Str := ["value", "limit"]
theorem sc_is_below_prices : FnScope nN_is_below_prices ["value", "limit"] (defScope s_is_below_prices) := ⟨rfl, rfl, rfl, by decide +kernel, rfl, by decide +kernel, by decide +kernel⟩
theorem ok_is_below_prices {P : Program} {w : World} {K : PySem.W.Frag} {mg : Str → Option Value} {base : Heap} {fd : FuncData} (T : GG K w mg) (F : FunD K "is_below" "is_below" (defArgs s_is_below_prices) (defBody s_is_below_prices) (defScope s_is_below_prices) [] [] (He.fAd K ("is_below_prices", none)) fd) (c_is_integer : Cal P w K mg base "is_integer" 1 ["value"] (sp_is_integer K)) : Cal P w K mg base "is_below_prices" 2 ["value", "limit"] (sp_is_below_prices K) := by
  have nd := sc_is_below_prices.nd
  refine cal_of F T.g_is_below_prices (fun _ _ _ _ _ _ us hl => match us, hl with | [_, _], _ => rfl) (FunD.ok F sc_is_below_prices (fun vs H Q E h => ?_) (fun cdv A outer s H vs Q E hr h => ?_))
  · obtain ⟨_, ⟨i, n, rfl, rfl⟩, q⟩ := h
    rfl
  obtain ⟨_, ⟨i, n, rfl, rfl⟩, q⟩ := h
  have hu := hu_of hr
  refine ⟨_, PSs.nox (pss_one (ps_ret (pe_and (pe_cal c_is_integer hr (pa_cons (pv 0) pa_nil)) (pe_one (pe_chain op_le op_lt pe_int (pv 0) (pv 1)))))), ?_⟩
  walk_at "st"
  refine ⟨_, ⟨i, rfl, rfl⟩, ?_⟩
  walk_at "st"
  by_cases h0 : 0 ≤ i
  · rw [if_pos h0]
    simpa [h0] using q
  · rw [if_neg h0]
    simpa [h0] using q
def sp_is_below_sides (K : PySem.W.Frag) : Sp := VSp fun vs H v => ∃ i n : Int, vs = [.int i, .int n] ∧ v = .bl (decide (0 ≤ i ∧ i < n))
abbrev nN_is_below_sides : List Str := ["value", "many"]
theorem sc_is_below_sides : FnScope nN_is_below_sides ["value", "many"] (defScope s_is_below_sides) := ⟨rfl, rfl, rfl, by decide +kernel, rfl, by decide +kernel, by decide +kernel⟩
theorem ok_is_below_sides {P : Program} {w : World} {K : PySem.W.Frag} {mg : Str → Option Value} {base : Heap} {fd : FuncData} (T : GG K w mg) (F : FunD K "is_below" "is_below" (defArgs s_is_below_sides) (defBody s_is_below_sides) (defScope s_is_below_sides) [] [] (He.fAd K ("is_below_sides", none)) fd)  : Cal P w K mg base "is_below_sides" 1 ["value", "many"] (sp_is_below_sides K) := by
  have nd := sc_is_below_sides.nd
  refine cal_of F T.g_is_below_sides (fun _ _ _ _ _ _ us hl => match us, hl with | [_, _], _ => rfl) (FunD.ok F sc_is_below_sides (fun vs H Q E h => ?_) (fun cdv A outer s H vs Q E hr h => ?_))
  · obtain ⟨_, ⟨i, n, rfl, rfl⟩, q⟩ := h
    rfl
  obtain ⟨_, ⟨i, n, rfl, rfl⟩, q⟩ := h
  have hu := hu_of hr
  refine ⟨_, PSs.nox (pss_one (ps_ret (pe_and (pe_bI T.f_isinstance call_isi (pa_cons (pv 0) (pa_cons (pe_ty T.f_int bt_int) pa_nil))) (pe_and (pe_not (pe_bI T.f_isinstance call_isi (pa_cons (pv 0) (pa_cons (pe_ty T.f_bool bt_bool) pa_nil)))) (pe_one (pe_chain op_le op_lt pe_int (pv 0) (pv 1))))))), ?_⟩
  walk_at "st"
  refine isi_ii ?_
  walk_at "st"
  refine isi_ib ?_
  walk_at "st"
  by_cases h0 : 0 ≤ i
  · rw [if_pos h0]
    simpa [h0] using q
  · rw [if_neg h0]
    simpa [h0] using q
def sp_is_size (K : PySem.W.Frag) : Sp := VSp fun vs H v => ∃ i : Int, vs = [.int i] ∧ v = .bl (decide (1 ≤ i ∧ i ≤ 3))
abbrev nN_is_size : List Str := ["value"]
theorem sc_is_size : FnScope nN_is_size ["value"] (defScope s_is_size) := ⟨rfl, rfl, rfl, by decide +kernel, rfl, by decide +kernel, by decide +kernel⟩
theorem ok_is_size {P : Program} {w : World} {K : PySem.W.Frag} {mg : Str → Option Value} {base : Heap} {fd : FuncData} (T : GG K w mg) (F : FunD K "is_size" "is_size" (defArgs s_is_size) (defBody s_is_size) (defScope s_is_size) [] [] (He.fAd K ("is_size", none)) fd) (c_is_integer : Cal P w K mg base "is_integer" 1 ["value"] (sp_is_integer K)) : Cal P w K mg base "is_size" 2 ["value"] (sp_is_size K) := by
  have nd := sc_is_size.nd
  refine cal_of F T.g_is_size (fun _ _ _ _ _ _ us hl => match us, hl with | [_], _ => rfl) (FunD.ok F sc_is_size (fun vs H Q E h => ?_) (fun cdv A outer s H vs Q E hr h => ?_))
  · obtain ⟨_, ⟨i, rfl, rfl⟩, q⟩ := h
    rfl
  obtain ⟨_, ⟨i, rfl, rfl⟩, q⟩ := h
  have hu := hu_of hr
  refine ⟨_, PSs.nox (pss_one (ps_ret (pe_and (pe_cal c_is_integer hr (pa_cons (pv 0) pa_nil)) (pe_one (pe_chain op_le op_le pe_int (pv 0) (pe_gI T.i_MOST_SIZE)))))), ?_⟩
  walk_at "st"
  refine ⟨_, ⟨i, rfl, rfl⟩, ?_⟩
  walk_at "st"
  by_cases h0 : 1 ≤ i
  · rw [if_pos h0]
    simpa [h0] using q
  · rw [if_neg h0]
    simpa [h0] using q
def sp_is_row (K : PySem.W.Frag) : Sp := VSp fun vs H v => ∃ (a : Addr) (ns : List Int) (n : Nat), vs = [.ref a, .int n] ∧ H a = some (.tup (ns.map V.int)) ∧ Row ns n ∧ v = .bl true
abbrev nN_is_row : List Str := ["value", "size", "one"]
theorem sc_is_row : FnScope nN_is_row ["value", "size"] (defScope s_is_row) := ⟨rfl, rfl, rfl, by decide +kernel, rfl, by decide +kernel, by decide +kernel⟩
theorem ok_is_row {P : Program} {w : World} {K : PySem.W.Frag} {mg : Str → Option Value} {base : Heap} {fd : FuncData} (T : GG K w mg) (F : FunD K "is_row" "is_row" (defArgs s_is_row) (defBody s_is_row) (defScope s_is_row) [] [] (He.fAd K ("is_row", none)) fd) (c_is_below_prices : Cal P w K mg base "is_below_prices" 2 ["value", "limit"] (sp_is_below_prices K)) : Cal P w K mg base "is_row" 3 ["value", "size"] (sp_is_row K) := by
  have nd := sc_is_row.nd
  refine cal_of F T.g_is_row (fun _ _ _ _ _ _ us hl => match us, hl with | [_, _], _ => rfl) (FunD.ok F sc_is_row (fun vs H Q E h => ?_) (fun cdv A outer s H vs Q E hr h => ?_))
  · obtain ⟨_, ⟨a, ns, n, rfl, ha, hn, rfl⟩, q⟩ := h
    rfl
  obtain ⟨_, ⟨a, ns, n, rfl, ha, hn, rfl⟩, q⟩ := h
  have hu := hu_of hr
  refine ⟨_, PSs.nox (pss_cons (ps_if (PW.pt (pw_or (pt_not (pt_val (pe_bI T.f_isinstance call_isi (pa_cons (pv 0) (pa_cons (pe_ty T.f_tuple bt_tuple) pa_nil))))) (pw_or1 (pt_cmpR op_ne (pe_b_len T.f_len call_len_seq (pa_cons (pv 0) pa_nil)) (pv 1) (nomark _))))) (pss_one (ps_ret pe_bl)) pss_nil) (pss_cons (ps_for PassesOwn.never rfl (pi_tupK (K := K) rfl (pv 0)) (pg_name (i := 2) nd rfl (Or.inl rfl)) (pss_one (ps_if (pt_not (pt_val (pe_cal c_is_below_prices hr (pa_cons (pv 2) (pa_cons pe_int pa_nil))))) (pss_one (ps_ret pe_bl)) pss_nil))) (pss_one (ps_ret pe_bl)))), ?_⟩
  walk_at "st"
  refine isi_tt ha ?_
  walk_at "st"
  refine ⟨_, .inr (sq_t ha), rfl, ?_⟩
  rw [List.length_map, hn.1]
  walk_at "st"
  refine ⟨⟨_, sq_t ha⟩, ?_⟩
  refine for_s (G := fun H' => H' = H) (ws_tup (f := rI) (xs := ns) fun H' g => ⟨_, by rw [g]; exact sq_t ha, ints_al ns⟩) (fun i σ' H' => H' = H ∧ ∃ x, σ' = [some (.ref a), some (.int n), x]) ⟨rfl, _, rfl⟩ (fun _ _ _ _ h => h.1) ?_ ?_
  · rintro i x v σ' H1 hx ⟨rfl, y, rfl⟩ hv
    cases hv
    walk_at "st"
    have hb := hn.2 x (List.mem_of_getElem? hx)
    refine ⟨_, ⟨x, 2, rfl, rfl⟩, ?_⟩
    walk_at "st"
    rw [decide_eq_true (show 0 ≤ x ∧ x < 2 by omega)]
    walk_at "st"
  · rintro σ' H' ⟨rfl, y, rfl⟩
    walk_at "st"
    exact q
theorem ints_len {ns : List Int} : (ns.map V.int).length = ns.length := List.length_map ..
def sp_are_integers (K : PySem.W.Frag) : Sp := PSp fun vs H R => ∃ (a : Addr) (ns : List Int) (n : Nat), vs = [.ref a, .int n] ∧ (H a = some (.lst (ns.map V.int)) ∨ H a = some (.tup (ns.map V.int))) ∧ ns.length = n ∧ R = rB true
abbrev nN_are_integers : List Str := ["value", "count", "one"]
theorem sc_are_integers : FnScope nN_are_integers ["value", "count"] (defScope s_are_integers) := ⟨rfl, rfl, rfl, by decide +kernel, rfl, by decide +kernel, by decide +kernel⟩
theorem ok_are_integers {P : Program} {w : World} {K : PySem.W.Frag} {mg : Str → Option Value} {base : Heap} {fd : FuncData} (T : GG K w mg) (F : FunD K "are_integers" "are_integers" (defArgs s_are_integers) (defBody s_are_integers) (defScope s_are_integers) [] [] (He.fAd K ("are_integers", none)) fd) (c_is_integer : Cal P w K mg base "is_integer" 1 ["value"] (sp_is_integer K)) : Cal P w K mg base "are_integers" 2 ["value", "count"] (sp_are_integers K) := by
  have nd := sc_are_integers.nd
  refine cal_of F T.g_are_integers (fun _ _ _ _ _ _ us hl => match us, hl with | [_, _], _ => rfl) (FunD.ok F sc_are_integers (fun vs H Q E h => ?_) (fun cdv A outer s H vs Q E hr h => ?_))
  · obtain ⟨_, ⟨a, ns, n, rfl, ha, hn, rfl⟩, q⟩ := h
    rfl
  obtain ⟨_, ⟨a, ns, n, rfl, ha, hn, rfl⟩, q⟩ := h
  have hu := hu_of hr
  refine ⟨_, PSs.nox (pss_cons (ps_if (PW.pt (pw_or (pt_not (pt_val (pe_bI T.f_isinstance call_isiT (pa_cons (pv 0) (pa_cons (pe_tup (pa_cons (pe_ty T.f_list bt_list) (pa_cons (pe_ty T.f_tuple bt_tuple) pa_nil))) pa_nil))))) (pw_or1 (pt_cmpR op_ne (pe_b_len T.f_len call_len_seq (pa_cons (pv 0) pa_nil)) (pv 1) (nomark _))))) (pss_one (ps_ret pe_bl)) pss_nil) (pss_cons (ps_for PassesOwn.never rfl (pi_seq (pv 0)) (pg_name (i := 2) nd rfl (Or.inl rfl)) (pss_one (ps_if (pt_not (pt_val (pe_cal c_is_integer hr (pa_cons (pv 2) pa_nil)))) (pss_one (ps_ret pe_bl)) pss_nil))) (pss_one (ps_ret pe_bl)))), ?_⟩
  walk_at "st"
  refine ⟨by decide, fun p hp => ?_⟩
  have ha2 : (upd H p (.tup [.ty "list", .ty "tuple"])) a = some (.lst (ns.map V.int)) ∨ (upd H p (.tup [.ty "list", .ty "tuple"])) a = some (.tup (ns.map V.int)) := ha.imp (fun h => Ex.new hp _ _ h) (fun h => Ex.new hp _ _ h)
  refine isi_lt upd_same ha2 ?_
  walk_at "st"
  refine ⟨_, ha2.imp sq_l sq_t, rfl, ?_⟩
  rw [ints_len, hn]
  walk_at "st"
  refine for_seq (f := rI) (xs := ns) (G := fun H' => H' = upd H p (.tup [.ty "list", .ty "tuple"])) ?_ (fun i σ' H' => H' = upd H p (.tup [.ty "list", .ty "tuple"]) ∧ ∃ x, σ' = [some (.ref a), some (.int n), x]) ⟨rfl, _, rfl⟩ (fun _ _ _ _ h => h.1) ?_ ?_
  · exact ha2.imp (fun h H' g => ⟨_, by rw [g]; exact sq_l h, ints_al ns⟩) (fun h H' g => ⟨_, by rw [g]; exact sq_t h, ints_al ns⟩)
  · rintro i x v σ' H1 hx ⟨rfl, y, rfl⟩ hv
    cases hv
    walk_at "st"
    refine ⟨_, ⟨x, rfl, rfl⟩, ?_⟩
    walk_at "st"
  · rintro σ' H' ⟨rfl, y, rfl⟩
    walk_at "st"
    exact q _ _ (Ex.new hp) rfl
def sp_number_of (K : PySem.W.Frag) : Sp := VSp fun vs H v => ∃ (a : Addr) (ns : List Int), vs = [.ref a] ∧ (H a = some (.lst (ns.map V.int)) ∨ H a = some (.tup (ns.map V.int))) ∧ v = .int (num ns)
theorem num_take {ns : List Int} {i : Nat} {x : Int} (h : ns[i]? = some x) : num (ns.take (i + 1)) = 2 * num (ns.take i) + x := by
  rw [List.take_add_one, h]
  exact num_app _ _
abbrev nN_number_of : List Str := ["row", "number", "value"]
theorem sc_number_of : FnScope nN_number_of ["row"] (defScope s_number_of) := ⟨rfl, rfl, rfl, by decide +kernel, rfl, by decide +kernel, by decide +kernel⟩
theorem ok_number_of {P : Program} {w : World} {K : PySem.W.Frag} {mg : Str → Option Value} {base : Heap} {fd : FuncData} (T : GG K w mg) (F : FunD K "number_of" "number_of" (defArgs s_number_of) (defBody s_number_of) (defScope s_number_of) [] [] (He.fAd K ("number_of", none)) fd)  : Cal P w K mg base "number_of" 1 ["row"] (sp_number_of K) := by
  have nd := sc_number_of.nd
  refine cal_of F T.g_number_of (fun _ _ _ _ _ _ us hl => match us, hl with | [_], _ => rfl) (FunD.ok F sc_number_of (fun vs H Q E h => ?_) (fun cdv A outer s H vs Q E hr h => ?_))
  · obtain ⟨_, ⟨a, ns, rfl, ha, rfl⟩, q⟩ := h
    rfl
  obtain ⟨_, ⟨a, ns, rfl, ha, rfl⟩, q⟩ := h
  have hu := hu_of hr
  refine ⟨_, PSs.nox (pss_cons (ps_set (i := 1) nd rfl (Or.inl rfl) pe_int) (pss_cons (ps_for PassesOwn.never rfl (pi_seq (pv 0)) (pg_name (i := 2) nd rfl (Or.inl rfl)) (pss_one (ps_set (i := 1) nd rfl (Or.inl rfl) (pe_op op_add (pe_op op_mul pe_int (pv 1)) (pv 2))))) (pss_one (ps_ret (pv 1))))), ?_⟩
  walk_at "st"
  refine for_seq (f := rI) (xs := ns) (G := fun H' => H' = H) ?_ (fun i σ' H' => H' = H ∧ ∃ x, σ' = [some (.ref a), some (.int (num (ns.take i))), x]) ⟨rfl, _, rfl⟩ (fun _ _ _ _ h => h.1) ?_ ?_
  · exact ha.imp (fun h H' g => ⟨_, by rw [g]; exact sq_l h, ints_al ns⟩) (fun h H' g => ⟨_, by rw [g]; exact sq_t h, ints_al ns⟩)
  · rintro i x v σ' H1 hx ⟨rfl, y, rfl⟩ hv
    cases hv
    walk_at "st"
    rw [num_take hx]
    exact ⟨.inl (by decide), rfl⟩
  · rintro σ' H' ⟨rfl, y, rfl⟩
    rw [List.take_length]
    walk_at "st"
    exact q
/-! ### prices -/
/-- an instance of Price -/
def rPr (K : PySem.W.Frag) (p : PrD) : Rp := fun H v => ∃ a dx am, v = .ref a ∧ H a = some (.ins (He.ga K "Price") dx [("size", .int p.1), ("amounts", am)]) ∧ rIs p.2 H am
instance (K : PySem.W.Frag) (p : PrD) : Iz (rPr K p) := ⟨fun e ⟨a, dx, am, h1, h2, h3⟩ => ⟨a, dx, am, h1, e _ _ True.intro h2, Iz.upZ e h3⟩⟩
def sp_Price_init (K : PySem.W.Frag) : Sp := fun vs H Q _ => ∃ (x dx a : Addr) (p : PrD), vs = [.ref x, .int p.1, .ref a] ∧ H x = some (.ins (He.ga K "Price") dx []) ∧ (H a = some (.lst (p.2.map V.int)) ∨ H a = some (.tup (p.2.map V.int))) ∧ PrOk p ∧
  ∀ H' am, But x H H' → H' x = some (.ins (He.ga K "Price") dx [("size", .int p.1), ("amounts", am)]) → rIs p.2 H' am → Q .non H'
abbrev nN_Price_init : List Str := ["self", "size", "amounts"]
theorem sc_Price_init : FnScope nN_Price_init ["self", "size", "amounts"] (defScope s_Price_init) := ⟨rfl, rfl, rfl, by decide +kernel, rfl, by decide +kernel, by decide +kernel⟩
theorem ok_Price_init {P : Program} {w : World} {K : PySem.W.Frag} {mg : Str → Option Value} {base : Heap} {fd : FuncData} (T : GG K w mg) (F : FunD K "__init__" "Price.__init__" (defArgs s_Price_init) (defBody s_Price_init) (defScope s_Price_init) [] [] (He.fAd K ("Price", some "__init__")) fd) (c_are_integers : Cal P w K mg base "are_integers" 2 ["value", "count"] (sp_are_integers K)) (c_is_size : Cal P w K mg base "is_size" 2 ["value"] (sp_is_size K)) : CalC P w K mg base "Price" (He.ga K "Price") 3 ["self", "size", "amounts"] (sp_Price_init K) := by
  have nd := sc_Price_init.nd
  refine calC_of F T.g_Price T.m_Price (fun _ _ _ _ _ _ us hl => match us, hl with | [_, _, _], _ => rfl) (FunD.ok F sc_Price_init (fun vs H Q E h => ?_) (fun cdv A outer s H vs Q E hr h => ?_))
  · obtain ⟨x, dx, a, p, rfl, hx, ha, hp, q⟩ := h
    rfl
  obtain ⟨x, dx, a, p, rfl, hx, ha, hp, q⟩ := h
  have hu := hu_of hr
  refine ⟨_, PSs.nox (pss_cons (ps_if (PW.pt (pw_or (pt_not (pt_val (pe_cal c_is_size hr (pa_cons (pv 1) pa_nil)))) (pw_or1 (pt_not (pt_val (pe_cal c_are_integers hr (pa_cons (pv 2) (pa_cons (pe_op op_shl pe_int (pv 1)) pa_nil)))))))) (pss_one ps_never) pss_nil) (pss_cons (ps_fld (pv 0) (pv 1) rfl) (pss_one (ps_fld (pv 0) (pe_b_tuple T.f_tuple call_tuple_of (pa_cons (pv 2) pa_nil)) rfl)))), ?_⟩
  walk_at "st"
  have h1 := hp.1
  have h2 := hp.2.1
  refine ⟨_, ⟨p.1, rfl, rfl⟩, ?_⟩
  rw [decide_eq_true (show (1 : Int) ≤ (p.1 : Int) ∧ (p.1 : Int) ≤ 3 by omega)]
  walk_at "st"
  refine ⟨⟨by omega, by omega, by decide⟩, _, ⟨a, p.2, 2 ^ p.1, ?_, ha, hp.2.2, rfl⟩, fun v H1 e hv => ?_⟩
  · rw [Int.one_mul, Int.toNat_natCast, Int.natCast_pow] <;> rfl
  cases hv
  walk_at "st"
  refine ⟨_, _, _, e _ _ hx, T.c_Price, T.n_Price_size, by decide, ?_⟩
  have ne : a ≠ x := by
    rcases ha with h | h <;> exact ne_of h hx (by intro z; cases z)
  have fin : ∀ (H3 : Hp) (am : V) (fs : List (Str × V)), But x H H3 → rIs p.2 H3 am → H3 x = some (.ins (He.ga K "Price") dx fs) → Q V.non (upd H3 x (.ins (He.ga K "Price") dx (putF "amounts" am (putF "size" (.int p.1) [])))) := fun H3 am fs hb hr h3 =>
    q _ am (hb.tr But.mut) upd_same (Im.upT (Tx.mut h3 (fun _ z => nomatch z)) hr)
  have b1 : But x H (upd H1 x (.ins (He.ga K "Price") dx (putF "size" (.int p.1) []))) := e.but.tr But.mut
  rcases ha with h | h
  · refine ⟨_, .inl ⟨sq_l (by rw [upd_ne ne]; exact e _ _ h), fun l hl => ?_⟩⟩
    have nl : x ≠ l := fun z => by
      rw [← z, upd_same] at hl
      cases hl
    have hx2 := upd_same (H := H1) (a := x) (o := .ins (He.ga K "Price") dx (putF "size" (.int p.1) []))
    refine ⟨_, _, _, by rw [upd_ne nl]; exact hx2, T.c_Price, T.n_Price_amounts, by show 1 < 1000; decide, ?_⟩
    exact fin _ _ _ (b1.tr (Ex.new hl).but) (rIs.mk upd_same) (by rw [upd_ne nl]; exact hx2)
  · refine ⟨_, .inr ⟨sq_t (by rw [upd_ne ne]; exact e _ _ h), ?_⟩⟩
    refine ⟨_, _, _, upd_same, T.c_Price, T.n_Price_amounts, by show 1 < 1000; decide, ?_⟩
    exact fin _ _ _ b1 (rIs.mk (by rw [upd_ne ne]; exact e _ _ h)) upd_same
/-- C(..) by what its __init__ keeps -/
theorem mk_Price {K : PySem.W.Frag} {H : Hp} {Q : VK} {E : XK} {a : Addr} {p : PrD} (ha : H a = some (.lst (p.2.map V.int)) ∨ H a = some (.tup (p.2.map V.int))) (hp : PrOk p) (k : ∀ v H', Ex H H' → rPr K p H' v → Q v H') :
    ∀ x dx, H x = none → H dx = none → dx ≠ x → sp_Price_init K [.ref x, .int p.1, .ref a] (upd (upd H dx (.own x)) x (.ins (He.ga K "Price") dx [])) (fun v H2 => v = .non ∧ Q (.ref x) H2) E := fun x dx nx ndx ne => by
  have e0 : Ex H (upd (upd H dx (.own x)) x (.ins (He.ga K "Price") dx [])) := fun b o h => by
    rw [upd_ne (ne_of_none h nx), upd_ne (ne_of_none h ndx)]
    exact h
  exact ⟨x, dx, a, p, rfl, upd_same, ha.imp (fun h => e0 _ _ h) (fun h => e0 _ _ h), hp, fun H' am hb hx hr => ⟨rfl, k _ _ (hb.ex e0 nx) ⟨x, dx, am, rfl, hx, hr⟩⟩⟩
def sp_Price_cost (K : PySem.W.Frag) : Sp := VSp fun vs H v => ∃ (x : V) (a : Addr) (p : PrD) (r : List Int), vs = [x, .ref a] ∧ rPr K p H x ∧ PrOk p ∧ H a = some (.tup (r.map V.int)) ∧ Row r p.1 ∧ v = .int (cost p r)
theorem atI_at {α : Type} {xs : List α} {i : Int} {x : α} (h0 : 0 ≤ i) (h : xs[i.toNat]? = some x) : atI xs i = some x := by
  have hl := (List.getElem?_eq_some_iff.mp h).1
  unfold atI ixN
  rw [if_pos h0, if_pos (by omega)]
  exact h
theorem map_at {α β : Type} {f : α → β} {xs : List α} {i : Nat} {x : α} (h : xs[i]? = some x) : (xs.map f)[i]? = some (f x) := by rw [List.getElem?_map, h] <;> rfl
abbrev nN_Price_cost : List Str := ["self", "row"]
theorem sc_Price_cost : FnScope nN_Price_cost ["self", "row"] (defScope s_Price_cost) := ⟨rfl, rfl, rfl, by decide +kernel, rfl, by decide +kernel, by decide +kernel⟩
theorem ok_Price_cost {P : Program} {w : World} {K : PySem.W.Frag} {mg : Str → Option Value} {base : Heap} {fd : FuncData} (T : GG K w mg) (F : FunD K "cost" "Price.cost" (defArgs s_Price_cost) (defBody s_Price_cost) (defScope s_Price_cost) [] [] (He.fAd K ("Price", some "cost")) fd) (c_number_of : Cal P w K mg base "number_of" 1 ["row"] (sp_number_of K)) (c_is_row : Cal P w K mg base "is_row" 3 ["value", "size"] (sp_is_row K)) : CalM P w K mg base (He.ga K "Price") "cost" 4 ["self", "row"] (sp_Price_cost K) := by
  have nd := sc_Price_cost.nd
  refine calM_of F T.c_Price T.e_Price_cost (fun _ _ _ _ _ _ us hl => match us, hl with | [_, _], _ => rfl) (FunD.ok F sc_Price_cost (fun vs H Q E h => ?_) (fun cdv A outer s H vs Q E hr h => ?_))
  · obtain ⟨_, ⟨x, a, p, r, rfl, ⟨b, dx, am, rfl, hb, hm⟩, hp, ha, hr', rfl⟩, q⟩ := h
    rfl
  obtain ⟨_, ⟨x, a, p, r, rfl, ⟨b, dx, am, rfl, hb, hm⟩, hp, ha, hr', rfl⟩, q⟩ := h
  have hu := hu_of hr
  refine ⟨_, PSs.nox (pss_cons (ps_if (pt_not (pt_val (pe_cal c_is_row hr (pa_cons (pv 1) (pa_cons (pe_fldK (K := K) rfl (pv 0) rfl) pa_nil))))) (pss_one ps_never) pss_nil) (pss_one (ps_ret (pe_ix (ix_tupK (K := K) rfl) (pe_fldK (K := K) rfl (pv 0) rfl) (pe_cal c_number_of hr (pa_cons (pv 1) pa_nil)) (fun _ _ => rfl))))), ?_⟩
  obtain ⟨c, rfl, hc⟩ := hm.of
  walk_at "st"
  refine ⟨_, _, _, hb, T.c_Price, T.n_Price_size, _, rfl, ?_⟩
  refine ⟨_, ⟨a, r, p.1, rfl, ha, hr', rfl⟩, ?_⟩
  walk_at "st"
  refine ⟨_, _, _, hb, T.c_Price, T.n_Price_amounts, _, rfl, ?_⟩
  refine ⟨_, ⟨a, r, rfl, .inr ha, rfl⟩, ?_⟩
  walk_at "st"
  refine ⟨c, _, _, _, rfl, rfl, sq_t hc, atI_at (num_bound _ _ hr').1 (map_at (cost_get hp hr')), q⟩
/-! ### rows -/
theorem rcat {K : PySem.W.Frag} {H : Hp} {Q : VK} {a b : Addr} {xs ys : List V} (ha : H a = some (.tup xs)) (hb : H b = some (.tup ys)) (hl : xs.length + ys.length ≤ 100000) (k : ∀ p H', Ex H H' → H' p = some (.tup (xs ++ ys)) → Q (.ref p) H') : rCatA K (.ref a) (.ref b) H Q := by
  refine ⟨a, b, xs, ys, rfl, rfl, sq_t ha, sq_t hb, sz (by omega), fun e => ?_, fun _ e => ?_, fun _ _ p hp => ?_⟩
  · subst e
    exact k _ _ (Ex.rf _) hb
  · subst e
    rw [List.append_nil] at k
    exact k _ _ (Ex.rf _) ha
  · exact k _ _ (Ex.new hp) upd_same
theorem ints_app (ns ms : List Int) : (ns.map V.int) ++ (ms.map V.int) = (ns ++ ms).map V.int := List.map_append.symm
theorem rows_lenB {n : Nat} (h : n ≤ 8) : (rows n).length ≤ 256 := by
  rw [rows_len]
  exact Nat.pow_le_pow_right (by decide) h
def sp_rows_of (K : PySem.W.Frag) : Sp := fun vs H Q _ => ∃ n : Nat, vs = [.int n] ∧ n ≤ 8 ∧ ∀ p H', H p = none → Ex H H' → rLi rIs (rows n) H' (.ref p) → Q (.ref p) H'
abbrev nN_rows_of : List Str := ["size", "rows", "_", "row", "value"]
theorem sc_rows_of : FnScope nN_rows_of ["size"] (defScope s_rows_of) := ⟨rfl, rfl, rfl, by decide +kernel, rfl, by decide +kernel, by decide +kernel⟩
theorem ok_rows_of {P : Program} {w : World} {K : PySem.W.Frag} {mg : Str → Option Value} {base : Heap} {fd : FuncData} (T : GG K w mg) (F : FunD K "rows_of" "rows_of" (defArgs s_rows_of) (defBody s_rows_of) (defScope s_rows_of) [] [] (He.fAd K ("rows_of", none)) fd)  : Cal P w K mg base "rows_of" 1 ["size"] (sp_rows_of K) := by
  have nd := sc_rows_of.nd
  refine cal_of F T.g_rows_of (fun _ _ _ _ _ _ us hl => match us, hl with | [_], _ => rfl) (FunD.ok F sc_rows_of (fun vs H Q E h => ?_) (fun cdv A outer s H vs Q E hr h => ?_))
  · obtain ⟨n, rfl, hn, q⟩ := h
    rfl
  obtain ⟨n, rfl, hn, q⟩ := h
  have hu := hu_of hr
  refine ⟨_, PSs.nox (pss_cons (ps_set (i := 1) nd rfl (Or.inl rfl) (pe_lst (pa_cons (pe_tup pa_nil) pa_nil))) (pss_cons (ps_for PassesOwn.never rfl (pi_range1 rfl T.f_range (pa_cons (pv 0) pa_nil)) (pg_name (i := 2) nd rfl (Or.inl rfl)) (pss_one (ps_setLc2 (i := 1) (own := [("row", 3), ("value", 4)]) (vs1 := [4]) rfl nd rfl rfl (sw_true rfl rfl rfl (by decide +kernel)) (pi_listK (K := K) rfl (pv 1)) (blkOk_by (own := [("row", 3), ("value", 4)]) (N := nN_rows_of) (sc := defScope s_rows_of) (by decide +kernel)) (by decide) (fun _ _ _ _ _ => (pg_name (i := 3) nd rfl (Or.inl rfl))) (fun _ _ _ _ _ => pts_nil) (fun _ _ _ _ _ => (pi_tupK (K := K) rfl (pe_tup (pa_cons pe_int (pa_cons pe_int pa_nil))))) (fun _ _ _ _ _ => (pg_name (i := 4) nd rfl (Or.inl rfl))) (fun _ _ _ _ _ => pts_nil) (fun _ _ _ _ _ => (pe_op (op_catAK (K := K) rfl) (pv 3) (pe_tup (pa_cons (pv 4) pa_nil))))))) (pss_one (ps_ret (pv 1))))), ?_⟩
  walk_at "st"
  refine ⟨by decide, fun p hp => ⟨by decide, fun p1 hp1 => ⟨by omega, by omega, ?_⟩⟩⟩
  rw [Int.toNat_natCast]
  have e1 : Ex H (upd (upd H p (.tup [])) p1 (.lst [.ref p])) := (Ex.new hp).tr (Ex.new hp1)
  have np : p ≠ p1 := fun z => by
    rw [z, upd_same] at hp1
    cases hp1
  refine for_s (ws_rng0 (n := n) (G := fun _ => True)) (fun i σ' H' => ∃ a x2 x3 x4, σ' = [some (.int n), some (.ref a), x2, x3, x4] ∧ H a = none ∧ Ex H H' ∧ rLi rIs (rows i) H' (.ref a)) ?_ (fun _ _ _ _ _ => True.intro) ?_ ?_
  · exact ⟨p1, _, _, _, rfl, (Ex.new hp).back hp1, e1, rLi.mk upd_same (.cons (rIs.mk (ns := []) (by rw [upd_ne np]; exact upd_same)) .nil)⟩
  · rintro i x v σ' H1 hx ⟨a, x2, x3, x4, rfl, na, e, hr⟩ hv
    cases hv
    obtain ⟨_, vs, hz, ha, al⟩ := hr
    cases hz
    have hi : i < n := by
      have q := (List.getElem?_eq_some_iff.mp hx).1
      rw [List.length_range] at q
      exact q
    walk_at "st"
    refine ⟨⟨_, sq_l ha⟩, ?_⟩
    refine lc2_gen (f := rIs) (xs := rows i) (rb := rIs) (f1 := fun _ => rI) (ys := fun _ => [0, 1]) (F := fun r v => r ++ [v]) (wk_lst fun H' g => ⟨vs, sq_l (g _ _ ha), al.up g⟩) ?_ ?_ ?_ (fun _ _ _ _ _ h q => h _ _ q) (fun _ _ _ _ _ h q => h _ _ q)
    · have := rows_lenB (n := i + 1) (by omega)
      exact Nat.le_trans this (by decide)
    · intro j r v H2 Qi D acc hD hj e2 hr2 hq
      obtain ⟨b, rfl, hb⟩ := hr2.of
      have hrl : r.length ≤ 8 := by
        have := (rows_row i r (List.mem_of_getElem? hj)).1
        omega
      walk_at "st"
      refine ⟨by decide, fun t ht => ⟨⟨_, sq_t upd_same⟩, ?_⟩⟩
      refine hq _ _ _ (Ex.new ht) ⟨wk_tup fun H' g => ⟨_, sq_t (g.2 _ _ True.intro upd_same), ints_al [0, 1]⟩, ?_⟩
      intro k y u H5 K1 hk _ z5 hu hK
      cases hu
      walk_at "st"
      refine ⟨by decide, fun t2 ht2 => ?_⟩
      have hb5 : H5 b = some (.tup (r.map V.int)) := z5 _ _ True.intro (Ex.new ht _ _ hb)
      refine rcat (Ex.new ht2 _ _ hb5) upd_same (by rw [ints_len]; simp; omega) fun p H' e5 hp => hK _ _ ((Ex.new ht2).tr e5) ?_
      rw [show [V.int y] = [y].map V.int from rfl, ints_app] at hp
      exact rIs.mk hp
    · intro p H' hp e2 hr2
      exact ⟨p, rfl, e.back hp, e.tr e2, hr2⟩
  · rintro σ' H' ⟨a, x2, x3, x4, rfl, na, e, hr⟩
    rw [List.length_range] at hr
    walk_at "st"
    exact q _ _ na e hr
end Cut
end

section
set_option maxHeartbeats 4000000
namespace Cut
open PySem PySem.Spec L2
local macro_rules | `(tactic| walk_at "rd") => `(tactic| dsimp only [tFor_eq, tLc_eq, tLc2_eq, iTup, iList, iRng1, iRng2, iSeq, RZ.iZipA, iEnum, iZipX, iEnumT, iKeys, tTupZip, tLenSet, gFld_app, tLock, tLockE, tCallN, tTup0F, tAsg, tVar, tC, tCmp, tIsN, tNotN, tB, tAnd, tOr, tNot, tAndV, tOrV, tNotV, tIf, tNext, tSeq, tBreak, tCont, tDrop, tRet, tRetN, tIfS, gName_app, gTup_app, gCons_app, gNil_app, gSub_app, tAsg, tAug, tCall, tMeth, tMake, tCons, tNil, tTup, tLst, tCB, tOp, tUn, tTest, tChain, tFld, sFld, sFldAug, tBM, tBM0, tSl, tPart, tNoPart, tDGet, tDIn, tDNotIn, sDPut, sDAug, tDNewK, tDNewT, tDGet2, L2.rI, L2.rI0, L2.rU, rEq, rNe, t2I, ipI, cxOf, Cx.nox, Cx.wish])
local macro_rules | `(tactic| walk_at "ex") => `(tactic| simp only [L2.start, List.map_cons, List.map_nil, List.length_cons, List.length_nil, List.replicate_succ, List.replicate_zero, List.cons_append, List.nil_append, List.append_nil, List.getElem?_cons_zero, List.getElem?_cons_succ, List.set_cons_zero, List.set_cons_succ, L2.wipe, Option.some.injEq, V.int.injEq, V.bl.injEq, V.ref.injEq, V.str.injEq, V.ty.injEq, List.cons.injEq, exists_eq_left', exists_eq_left, exists_eq_right, and_true, true_and, and_self, exists_and_left, exists_and_right, exists_const, and_assoc, exists_eq, exists_eq', eq_self_iff_true, if_true, if_false, Bool.false_eq_true, decide_eq_true_eq, ne_eq, reduceCtorEq, not_false_eq_true, Nat.reduceAdd, Nat.reduceSub, Bool.not_true, Bool.not_false, Option.map_some, Option.map_none, Option.isSome_some, Option.isSome_none, Option.getD_some, Option.getD_none])
local macro_rules | `(tactic| walk_at "st") => `(tactic| ((try walk_at "rd"); (try walk_at "ex")))

/-- .. when the instance x, still bare, is filled -/
class Bw (r : Rp) : Prop where
  bw : ∀ {x : Addr} {H H' : Hp} {C dx : Addr} {v : V}, H x = some (.ins C dx []) → But x H H' → r H v → r H' v
instance (priority := 20) {r : Rp} [Im r] : Bw r := ⟨fun h b k => Im.upT (b.tx h (fun _ z => nomatch z)) k⟩
instance (K : PySem.W.Frag) (p : PrD) : Bw (rPr K p) := ⟨fun h b ⟨a, dx, am, h1, h2, h3⟩ => ⟨a, dx, am, h1, b _ _ (fun z => by rw [z, h] at h2; cases h2) h2, Bw.bw h b h3⟩⟩
theorem Al.bw {α : Type} {f : α → Rp} [∀ x, Bw (f x)] {x : Addr} {H H' : Hp} {C dx : Addr} (h : H x = some (.ins C dx [])) (b : But x H H') {vs : List V} {xs : List α} (k : Al (fun w x => f x H w) vs xs) : Al (fun w x => f x H' w) vs xs :=
  Al.mono (R := fun w x => f x H w) (S := fun w x => f x H' w) (fun _ y q => (inferInstance : Bw (f y)).bw h b q) k
instance {α : Type} (f : α → Rp) (xs : List α) [∀ x, Bw (f x)] : Bw (rTu f xs) := ⟨fun h b ⟨a, vs, h1, h2, h3⟩ => ⟨a, vs, h1, b _ _ (ne_of h2 h (fun z => nomatch z)) h2, h3.bw h b⟩⟩
instance {α : Type} (f : α → Rp) (xs : List α) [∀ x, Bw (f x)] : Bw (rLi f xs) := ⟨fun h b ⟨a, vs, h1, h2, h3⟩ => ⟨a, vs, h1, b _ _ (ne_of h2 h (fun z => nomatch z)) h2, h3.bw h b⟩⟩
/-! ### books -/
abbrev rPl (p : PrD) : Rp := r2 (rI (p.1 : Int)) (rIs p.2)
def rBk (K : PySem.W.Frag) (b : List PrD) : Rp := fun H v => ∃ a dx pr pl, v = .ref a ∧ H a = some (.ins (He.ga K "Book") dx [("prices", pr), ("plain", pl)]) ∧ rTu (rPr K) b H pr ∧ rTu rPl b H pl
instance (K : PySem.W.Frag) (b : List PrD) : Iz (rBk K b) := ⟨fun e ⟨a, dx, pr, pl, h1, h2, h3, h4⟩ => ⟨a, dx, pr, pl, h1, e _ _ True.intro h2, Iz.upZ e h3, Iz.upZ e h4⟩⟩
instance (K : PySem.W.Frag) (b : List PrD) : Bw (rBk K b) := ⟨fun h bb ⟨a, dx, pr, pl, h1, h2, h3, h4⟩ => ⟨a, dx, pr, pl, h1, bb _ _ (fun z => by rw [z, h] at h2; cases h2) h2, Bw.bw h bb h3, Bw.bw h bb h4⟩⟩
def sp_are_prices (K : PySem.W.Frag) : Sp := PSp fun vs H R => ∃ (v : V) (b : List PrD), vs = [v] ∧ rLi (rPr K) b H v ∧ 1 ≤ b.length ∧ b.length ≤ 6 ∧ R = rB true
abbrev nN_are_prices : List Str := ["prices", "price"]
theorem sc_are_prices : FnScope nN_are_prices ["prices"] (defScope s_are_prices) := ⟨rfl, rfl, rfl, by decide +kernel, rfl, by decide +kernel, by decide +kernel⟩
theorem ok_are_prices {P : Program} {w : World} {K : PySem.W.Frag} {mg : Str → Option Value} {base : Heap} {fd : FuncData} (T : GG K w mg) (F : FunD K "are_prices" "are_prices" (defArgs s_are_prices) (defBody s_are_prices) (defScope s_are_prices) [] [] (He.fAd K ("are_prices", none)) fd)  : Cal P w K mg base "are_prices" 1 ["prices"] (sp_are_prices K) := by
  have nd := sc_are_prices.nd
  refine cal_of F T.g_are_prices (fun _ _ _ _ _ _ us hl => match us, hl with | [_], _ => rfl) (FunD.ok F sc_are_prices (fun vs H Q E h => ?_) (fun cdv A outer s H vs Q E hr h => ?_))
  · obtain ⟨_, ⟨_, b, rfl, ⟨a, us, rfl, ha, al⟩, h1, h2, rfl⟩, q⟩ := h
    rfl
  obtain ⟨_, ⟨_, b, rfl, ⟨a, us, rfl, ha, al⟩, h1, h2, rfl⟩, q⟩ := h
  have hu := hu_of hr
  refine ⟨_, PSs.nox (pss_cons (ps_if (PW.pt (pw_or (pt_not (pt_val (pe_bI T.f_isinstance call_isiT (pa_cons (pv 0) (pa_cons (pe_tup (pa_cons (pe_ty T.f_list bt_list) (pa_cons (pe_ty T.f_tuple bt_tuple) pa_nil))) pa_nil))))) (pw_or1 (pt_not (pt_chain op_le op_le pe_int (pe_b_len T.f_len call_len_seq (pa_cons (pv 0) pa_nil)) (pe_gI T.i_MOST_PRICES)))))) (pss_one (ps_ret pe_bl)) pss_nil) (pss_cons (ps_for PassesOwn.never rfl (pi_listK (K := K) rfl (pv 0)) (pg_name (i := 1) nd rfl (Or.inl rfl)) (pss_one (ps_if (pt_not (pt_val (pe_bI T.f_isinstance call_isi (pa_cons (pv 1) (pa_cons (pe_gR T.g_Price) pa_nil))))) (pss_one (ps_ret pe_bl)) pss_nil))) (pss_one (ps_ret pe_bl)))), ?_⟩
  walk_at "st"
  refine ⟨by decide, fun p hp => ?_⟩
  have e0 := Ex.new (o := .tup [.ty "list", .ty "tuple"]) hp
  refine isi_lt upd_same (.inl (e0 _ _ ha)) ?_
  walk_at "st"
  refine ⟨_, .inl (sq_l (e0 _ _ ha)), ?_⟩
  have c1 : (1 : Int) ≤ (us.length : Int) := by rw [al.len]; omega
  have c2 : (us.length : Int) ≤ 6 := by rw [al.len]; omega
  walk_at "st"
  rw [if_pos c1, decide_eq_true c2]
  walk_at "st"
  refine ⟨⟨_, sq_l (e0 _ _ ha)⟩, ?_⟩
  refine for_s (G := fun H' => Ex H H') (ws_lst (f := rPr K) (xs := b) fun H' g => ⟨us, sq_l (g _ _ ha), al.up g⟩) (fun i σ' H' => H' = upd H p (.tup [.ty "list", .ty "tuple"]) ∧ ∃ x, σ' = [some (.ref a), x]) ⟨rfl, _, rfl⟩ (fun _ _ _ _ h => by rw [h.1]; exact e0) ?_ ?_
  · rintro i x v σ' H1 hx ⟨rfl, y, rfl⟩ ⟨c, dx, am, rfl, hc, _⟩
    walk_at "st"
    refine isi_own T.s_Price hc ?_
    walk_at "st"
  · rintro σ' H' ⟨rfl, y, rfl⟩
    walk_at "st"
    exact q _ _ e0 rfl
def sp_Book_init (K : PySem.W.Frag) : Sp := fun vs H Q _ => ∃ (x dx : Addr) (l : V) (b : List PrD), vs = [.ref x, l] ∧ H x = some (.ins (He.ga K "Book") dx []) ∧ rLi (rPr K) b H l ∧ 1 ≤ b.length ∧ b.length ≤ 6 ∧
  ∀ H' pr pl, But x H H' → H' x = some (.ins (He.ga K "Book") dx [("prices", pr), ("plain", pl)]) → rTu (rPr K) b H' pr → rTu rPl b H' pl → Q .non H'
abbrev nN_Book_init : List Str := ["self", "prices", "price"]
theorem sc_Book_init : FnScope nN_Book_init ["self", "prices"] (defScope s_Book_init) := ⟨rfl, rfl, rfl, by decide +kernel, rfl, by decide +kernel, by decide +kernel⟩
theorem ok_Book_init {P : Program} {w : World} {K : PySem.W.Frag} {mg : Str → Option Value} {base : Heap} {fd : FuncData} (T : GG K w mg) (F : FunD K "__init__" "Book.__init__" (defArgs s_Book_init) (defBody s_Book_init) (defScope s_Book_init) [] [] (He.fAd K ("Book", some "__init__")) fd) (c_are_prices : Cal P w K mg base "are_prices" 1 ["prices"] (sp_are_prices K)) : CalC P w K mg base "Book" (He.ga K "Book") 2 ["self", "prices"] (sp_Book_init K) := by
  have nd := sc_Book_init.nd
  refine calC_of F T.g_Book T.m_Book (fun _ _ _ _ _ _ us hl => match us, hl with | [_, _], _ => rfl) (FunD.ok F sc_Book_init (fun vs H Q E h => ?_) (fun cdv A outer s H vs Q E hr h => ?_))
  · obtain ⟨x, dx, _, b, rfl, hx, ⟨a, us, rfl, ha, al⟩, h1, h2, q⟩ := h
    rfl
  obtain ⟨x, dx, _, b, rfl, hx, ⟨a, us, rfl, ha, al⟩, h1, h2, q⟩ := h
  have hu := hu_of hr
  refine ⟨_, PSs.nox (pss_cons (ps_if (pt_not (pt_val (pe_cal c_are_prices hr (pa_cons (pv 1) pa_nil)))) (pss_one ps_never) pss_nil) (pss_cons (ps_fld (pv 0) (pe_b_tuple T.f_tuple call_tuple_of (pa_cons (pv 1) pa_nil)) rfl) (pss_one (ps_fld (pv 0) (pe_b_tuple T.f_tuple call_tuple_of (pa_cons (pe_lc (own := [("price", 2)]) rfl nd (pi_listK (K := K) rfl (pv 1)) (blkOk_by (own := [("price", 2)]) (N := nN_Book_init) (sc := defScope s_Book_init) (by decide +kernel)) (fun _ _ _ _ _ => (pg_name (i := 2) nd rfl (Or.inl rfl))) (fun _ _ _ _ _ => pts_nil) (fun _ _ _ _ _ => (pe_tup (pa_cons (pe_fldK (K := K) rfl (pv 2) rfl) (pa_cons (pe_fldK (K := K) rfl (pv 2) rfl) pa_nil))))) pa_nil)) rfl)))), ?_⟩
  walk_at "st"
  refine ⟨_, ⟨_, b, rfl, ⟨a, us, rfl, ha, al⟩, h1, h2, rfl⟩, fun v H1 e hv => ?_⟩
  cases hv
  walk_at "st"
  refine ⟨_, .inl ⟨sq_l (e _ _ ha), fun l hl => ?_⟩⟩
  have nl : x ≠ l := ne_of_none (e _ _ hx) hl
  have e1 : Ex H1 (upd H1 l (.tup us)) := Ex.new hl
  refine ⟨_, _, _, e1 _ _ (e _ _ hx), T.c_Book, T.n_Book_prices, by decide, ?_⟩
  have hx1 : (upd H1 l (.tup us)) x = some (.ins (He.ga K "Book") dx []) := e1 _ _ (e _ _ hx)
  have b1 : But x H (upd (upd H1 l (.tup us)) x (.ins (He.ga K "Book") dx (putF "prices" (.ref l) []))) := (e.tr e1).but.tr But.mut
  have na : a ≠ x := ne_of ha hx (fun z => nomatch z)
  have ha1 := b1 _ _ na ha
  have hx2 : (upd (upd H1 l (.tup us)) x (.ins (He.ga K "Book") dx (putF "prices" (.ref l) []))) x = some (.ins (He.ga K "Book") dx (putF "prices" (.ref l) [])) := upd_same
  have hl2 : (upd (upd H1 l (.tup us)) x (.ins (He.ga K "Book") dx (putF "prices" (.ref l) []))) l = some (.tup us) := by
    rw [upd_ne (Ne.symm nl)]
    exact upd_same
  have al1 := Al.bw hx b1 al
  refine ⟨⟨_, sq_l ha1⟩, ?_⟩
  refine lc_mapN (f := rPr K) (xs := b) (rb := rPl) (F := fun p => p) (wk_lst fun H' g => ⟨us, sq_l (g _ _ ha1), al1.up g⟩) (by omega) (fun _ => rfl) ?_ ?_
  · rintro i p v H' K1 hp e2 ⟨c, dx', am, rfl, hc, hm⟩ hK
    walk_at "st"
    refine ⟨_, _, _, hc, T.c_Price, T.n_Price_size, _, rfl, ?_⟩
    refine ⟨_, _, _, hc, T.c_Price, T.n_Price_amounts, _, rfl, ?_⟩
    walk_at "st"
    exact ⟨by decide, fun t ht => hK _ _ (Ex.new ht) ⟨_, _, _, rfl, upd_same, rfl, Mo.up (Ex.new ht) hm⟩⟩
  · intro p H' hp e2 hr2
    obtain ⟨_, vs, hz, hp2, al2⟩ := hr2
    cases hz
    rw [List.map_id'] at al2
    refine ⟨_, rfl, _, .inl ⟨sq_l hp2, fun t ht => ?_⟩⟩
    have nt : x ≠ t := ne_of_none (e2 _ _ hx2) ht
    have e3 := Ex.new (o := .tup vs) ht
    refine ⟨_, _, _, e3 _ _ (e2 _ _ hx2), T.c_Book, T.n_Book_plain, by show 1 < 1000; decide, ?_⟩
    have b3 : But x H (upd (upd H' t (.tup vs)) x (.ins (He.ga K "Book") dx (putF "plain" (.ref t) (putF "prices" (.ref l) [])))) := (b1.tr (e2.tr e3).but).tr But.mut
    have tz : Tx (upd H' t (.tup vs)) (upd (upd H' t (.tup vs)) x (.ins (He.ga K "Book") dx (putF "plain" (.ref t) (putF "prices" (.ref l) [])))) := Tx.mut (e3 _ _ (e2 _ _ hx2)) (fun _ z => nomatch z)
    refine q _ (.ref l) (.ref t) b3 upd_same ⟨l, us, rfl, tz _ _ (e3 _ _ (e2 _ _ hl2)), Al.bw hx b3 al⟩ ⟨t, vs, rfl, tz _ _ upd_same, ?_⟩
    exact (al2.up e3).upT tz
/-- Book(..) -/
theorem mk_Book {K : PySem.W.Frag} {H : Hp} {Q : VK} {E : XK} {l : V} {b : List PrD} (hl : rLi (rPr K) b H l) (h1 : 1 ≤ b.length) (h2 : b.length ≤ 6) (k : ∀ v H', Ex H H' → rBk K b H' v → Q v H') :
    ∀ x dx, H x = none → H dx = none → dx ≠ x → sp_Book_init K [.ref x, l] (upd (upd H dx (.own x)) x (.ins (He.ga K "Book") dx [])) (fun v H2 => v = .non ∧ Q (.ref x) H2) E := fun x dx nx ndx ne => by
  have e0 : Ex H (upd (upd H dx (.own x)) x (.ins (He.ga K "Book") dx [])) := fun b o h => by
    rw [upd_ne (ne_of_none h nx), upd_ne (ne_of_none h ndx)]
    exact h
  exact ⟨x, dx, l, b, rfl, upd_same, Mo.up e0 hl, h1, h2, fun H' pr pl hb hx h3 h4 => ⟨rfl, k _ _ (hb.ex e0 nx) ⟨x, dx, pr, pl, rfl, hx, h3, h4⟩⟩⟩
def sp_Book_len (K : PySem.W.Frag) : Sp := VSp fun vs H v => ∃ (x : V) (b : List PrD), vs = [x] ∧ rBk K b H x ∧ v = .int (b.length : Int)
abbrev nN_Book_len : List Str := ["self"]
theorem sc_Book_len : FnScope nN_Book_len ["self"] (defScope s_Book_len) := ⟨rfl, rfl, rfl, by decide +kernel, rfl, by decide +kernel, by decide +kernel⟩
theorem ok_Book_len {P : Program} {w : World} {K : PySem.W.Frag} {mg : Str → Option Value} {base : Heap} {fd : FuncData} (T : GG K w mg) (F : FunD K "__len__" "Book.__len__" (defArgs s_Book_len) (defBody s_Book_len) (defScope s_Book_len) [] [] (He.fAd K ("Book", some "__len__")) fd)  : CalM P w K mg base (He.ga K "Book") "__len__" 1 ["self"] (sp_Book_len K) := by
  have nd := sc_Book_len.nd
  refine calM_of F T.c_Book T.e_Book_len (fun _ _ _ _ _ _ us hl => match us, hl with | [_], _ => rfl) (FunD.ok F sc_Book_len (fun vs H Q E h => ?_) (fun cdv A outer s H vs Q E hr h => ?_))
  · obtain ⟨_, ⟨_, b, rfl, ⟨a, dx, pr, pl, rfl, ha, ⟨c, us, rfl, hc, al⟩, h4⟩, rfl⟩, q⟩ := h
    rfl
  obtain ⟨_, ⟨_, b, rfl, ⟨a, dx, pr, pl, rfl, ha, ⟨c, us, rfl, hc, al⟩, h4⟩, rfl⟩, q⟩ := h
  have hu := hu_of hr
  refine ⟨_, PSs.nox (pss_one (ps_ret (pe_b_len T.f_len call_len_seq (pa_cons (pe_fldK (K := K) rfl (pv 0) rfl) pa_nil)))), ?_⟩
  walk_at "st"
  refine ⟨_, _, _, ha, T.c_Book, T.n_Book_prices, _, rfl, ?_⟩
  walk_at "st"
  refine ⟨_, .inr (sq_t hc), ?_⟩
  rw [al.len]
  exact q
/-! ### rows, joined -/
def andR (r s : List Int) : List Int := (r.zip s).map fun p => if p.2 < p.1 then p.2 else p.1
def orR (r s : List Int) : List Int := (r.zip s).map fun p => if p.2 > p.1 then p.2 else p.1
def sp_and_of (K : PySem.W.Frag) : Sp := PSp fun vs H R => ∃ (v u : V) (r s : List Int), vs = [v, u] ∧ rIs r H v ∧ rIs s H u ∧ r.length ≤ 8 ∧ R = rIs (andR r s)
abbrev nN_and_of : List Str := ["one", "other", "first", "second"]
theorem sc_and_of : FnScope nN_and_of ["one", "other"] (defScope s_and_of) := ⟨rfl, rfl, rfl, by decide +kernel, rfl, by decide +kernel, by decide +kernel⟩
theorem ok_and_of {P : Program} {w : World} {K : PySem.W.Frag} {mg : Str → Option Value} {base : Heap} {fd : FuncData} (T : GG K w mg) (F : FunD K "and_of" "and_of" (defArgs s_and_of) (defBody s_and_of) (defScope s_and_of) [] [] (He.fAd K ("and_of", none)) fd)  : Cal P w K mg base "and_of" 1 ["one", "other"] (sp_and_of K) := by
  have nd := sc_and_of.nd
  refine cal_of F T.g_and_of (fun _ _ _ _ _ _ us hl => match us, hl with | [_, _], _ => rfl) (FunD.ok F sc_and_of (fun vs H Q E h => ?_) (fun cdv A outer s H vs Q E hr h => ?_))
  · obtain ⟨_, ⟨_, _, r, s, rfl, hv, hu1, hl, rfl⟩, q⟩ := h
    rfl
  obtain ⟨_, ⟨_, _, r, s, rfl, hv, hu1, hl, rfl⟩, q⟩ := h
  have hu := hu_of hr
  refine ⟨_, PSs.nox (pss_one (ps_ret (pe_b_tuple T.f_tuple call_tuple_of (pa_cons (pe_lc (own := [("first", 2), ("second", 3)]) rfl nd (pi_zipX (by rfl) T.f_zip (pa_cons (pv 0) (pa_cons (pv 1) pa_nil))) (blkOk_by (own := [("first", 2), ("second", 3)]) (N := nN_and_of) (sc := defScope s_and_of) (by decide +kernel)) (fun _ _ _ _ _ => (pg_tupK (n := 2) (K := K) rfl rfl (pgs_cons (pg_name (i := 2) nd rfl (Or.inl rfl)) (pgs_cons (pg_name (i := 3) nd rfl (Or.inl rfl)) pgs_nil)))) (fun _ _ _ _ _ => pts_nil) (fun _ _ _ _ _ => (pe_b_min T.f_min (call_min2 rfl) (pa_cons (pv 2) (pa_cons (pv 3) pa_nil))))) pa_nil)))), ?_⟩
  obtain ⟨a, rfl, ha⟩ := hv.of
  obtain ⟨b, rfl, hb⟩ := hu1.of
  walk_at "st"
  refine .inr (.inl ⟨⟨_, sq_t ha⟩, ⟨_, sq_t hb⟩, ?_⟩)
  refine lc_map (rb := rI) (F := fun p : Int × Int => if p.2 < p.1 then p.2 else p.1) (wk_zipT (f := rI) (g := rI) (xs := r) (ys := s) fun H' e => ⟨_, _, sq_t (e _ _ ha), sq_t (e _ _ hb), ints_al r, ints_al s⟩) (by rw [List.length_zip]; omega) ?_ ?_ gm_pair
  · rintro i p v H' K1 hp e2 ⟨T, x, y, rfl, hT, hx, hy⟩ hK
    cases hx
    cases hy
    walk_at "st"
    refine ⟨_, sq_t hT, rfl, ?_⟩
    walk_at "st"
    exact hK _ _ (Ex.rf _) rfl
  · intro p H' hp e2 hr2
    exact tup_done hr2 e2 q
def sp_or_of (K : PySem.W.Frag) : Sp := PSp fun vs H R => ∃ (v u : V) (r s : List Int), vs = [v, u] ∧ rIs r H v ∧ rIs s H u ∧ r.length ≤ 8 ∧ R = rIs (orR r s)
abbrev nN_or_of : List Str := ["one", "other", "first", "second"]
theorem sc_or_of : FnScope nN_or_of ["one", "other"] (defScope s_or_of) := ⟨rfl, rfl, rfl, by decide +kernel, rfl, by decide +kernel, by decide +kernel⟩
theorem ok_or_of {P : Program} {w : World} {K : PySem.W.Frag} {mg : Str → Option Value} {base : Heap} {fd : FuncData} (T : GG K w mg) (F : FunD K "or_of" "or_of" (defArgs s_or_of) (defBody s_or_of) (defScope s_or_of) [] [] (He.fAd K ("or_of", none)) fd)  : Cal P w K mg base "or_of" 1 ["one", "other"] (sp_or_of K) := by
  have nd := sc_or_of.nd
  refine cal_of F T.g_or_of (fun _ _ _ _ _ _ us hl => match us, hl with | [_, _], _ => rfl) (FunD.ok F sc_or_of (fun vs H Q E h => ?_) (fun cdv A outer s H vs Q E hr h => ?_))
  · obtain ⟨_, ⟨_, _, r, s, rfl, hv, hu1, hl, rfl⟩, q⟩ := h
    rfl
  obtain ⟨_, ⟨_, _, r, s, rfl, hv, hu1, hl, rfl⟩, q⟩ := h
  have hu := hu_of hr
  refine ⟨_, PSs.nox (pss_one (ps_ret (pe_b_tuple T.f_tuple call_tuple_of (pa_cons (pe_lc (own := [("first", 2), ("second", 3)]) rfl nd (pi_zipX (by rfl) T.f_zip (pa_cons (pv 0) (pa_cons (pv 1) pa_nil))) (blkOk_by (own := [("first", 2), ("second", 3)]) (N := nN_or_of) (sc := defScope s_or_of) (by decide +kernel)) (fun _ _ _ _ _ => (pg_tupK (n := 2) (K := K) rfl rfl (pgs_cons (pg_name (i := 2) nd rfl (Or.inl rfl)) (pgs_cons (pg_name (i := 3) nd rfl (Or.inl rfl)) pgs_nil)))) (fun _ _ _ _ _ => pts_nil) (fun _ _ _ _ _ => (pe_b_max T.f_max (call_max2 rfl) (pa_cons (pv 2) (pa_cons (pv 3) pa_nil))))) pa_nil)))), ?_⟩
  obtain ⟨a, rfl, ha⟩ := hv.of
  obtain ⟨b, rfl, hb⟩ := hu1.of
  walk_at "st"
  refine .inr (.inl ⟨⟨_, sq_t ha⟩, ⟨_, sq_t hb⟩, ?_⟩)
  refine lc_map (rb := rI) (F := fun p : Int × Int => if p.2 > p.1 then p.2 else p.1) (wk_zipT (f := rI) (g := rI) (xs := r) (ys := s) fun H' e => ⟨_, _, sq_t (e _ _ ha), sq_t (e _ _ hb), ints_al r, ints_al s⟩) (by rw [List.length_zip]; omega) ?_ ?_ gm_pair
  · rintro i p v H' K1 hp e2 ⟨T, x, y, rfl, hT, hx, hy⟩ hK
    cases hx
    cases hy
    walk_at "st"
    refine ⟨_, sq_t hT, rfl, ?_⟩
    walk_at "st"
    exact hK _ _ (Ex.rf _) rfl
  · intro p H' hp e2 hr2
    exact tup_done hr2 e2 q
def oneMore (r s : List Int) : Bool := decide (s.sum = r.sum + 1) && decide (andR r s = r)
def sp_has_one_more (K : PySem.W.Frag) : Sp := PSp fun vs H R => ∃ (v u : V) (r s : List Int), vs = [v, u] ∧ rIs r H v ∧ rIs s H u ∧ r.length ≤ 8 ∧ R = rB (oneMore r s)
abbrev nN_has_one_more : List Str := ["one", "other"]
theorem sc_has_one_more : FnScope nN_has_one_more ["one", "other"] (defScope s_has_one_more) := ⟨rfl, rfl, rfl, by decide +kernel, rfl, by decide +kernel, by decide +kernel⟩
theorem ok_has_one_more {P : Program} {w : World} {K : PySem.W.Frag} {mg : Str → Option Value} {base : Heap} {fd : FuncData} (T : GG K w mg) (F : FunD K "has_one_more" "has_one_more" (defArgs s_has_one_more) (defBody s_has_one_more) (defScope s_has_one_more) [] [] (He.fAd K ("has_one_more", none)) fd) (c_and_of : Cal P w K mg base "and_of" 1 ["one", "other"] (sp_and_of K)) : Cal P w K mg base "has_one_more" 2 ["one", "other"] (sp_has_one_more K) := by
  have nd := sc_has_one_more.nd
  refine cal_of F T.g_has_one_more (fun _ _ _ _ _ _ us hl => match us, hl with | [_, _], _ => rfl) (FunD.ok F sc_has_one_more (fun vs H Q E h => ?_) (fun cdv A outer s H vs Q E hr h => ?_))
  · obtain ⟨_, ⟨_, _, r, s, rfl, hv, hu1, hl, rfl⟩, q⟩ := h
    rfl
  obtain ⟨_, ⟨_, _, r, s, rfl, hv, hu1, hl, rfl⟩, q⟩ := h
  have hu := hu_of hr
  refine ⟨_, PSs.nox (pss_one (ps_ret (pe_and (pe_cmpR op_eq (pe_b_sum T.f_sum (cr_sumT rfl) (pa_cons (pv 1) pa_nil)) (pe_op op_add (pe_b_sum T.f_sum (cr_sumT rfl) (pa_cons (pv 0) pa_nil)) pe_int) (nomark _)) (pe_one (pe_cmpR (op_eqD hr.units) (pe_cal c_and_of hr (pa_cons (pv 0) (pa_cons (pv 1) pa_nil))) (pv 0) (nomark _)))))), ?_⟩
  obtain ⟨a, rfl, ha⟩ := hv.of
  obtain ⟨b, rfl, hb⟩ := hu1.of
  walk_at "st"
  refine ⟨b, s, rfl, sq_t hb, ?_⟩
  walk_at "st"
  refine ⟨a, r, rfl, sq_t ha, ?_⟩
  walk_at "st"
  refine ⟨rfl, ?_⟩
  by_cases h1 : s.sum = r.sum + 1
  · rw [if_pos h1]
    refine ⟨_, ⟨_, _, r, s, rfl, hv, hu1, hl, rfl⟩, fun v H' e hr2 => ?_⟩
    obtain ⟨c, rfl, hc⟩ := hr2.of
    refine eqD_ints (sq_t hc) (sq_t (e _ _ ha)) ?_
    refine q _ _ e ?_
    unfold oneMore
    rw [decide_eq_true h1, Bool.true_and] <;> rfl
  · rw [if_neg h1]
    refine q _ _ (Ex.rf _) ?_
    unfold oneMore
    rw [decide_eq_false h1] <;> rfl
/-! ### kinds -/
def sp_shows_row (K : PySem.W.Frag) : Sp := fun _ _ _ _ => False
abbrev nN_shows_row : List Str := ["price", "word", "row", "value"]
theorem sc_shows_row : FnScope nN_shows_row ["price", "word", "row"] (defScope s_shows_row) := ⟨rfl, rfl, rfl, by decide +kernel, rfl, by decide +kernel, by decide +kernel⟩
theorem ok_shows_row {P : Program} {w : World} {K : PySem.W.Frag} {mg : Str → Option Value} {base : Heap} {fd : FuncData} (T : GG K w mg) (F : FunD K "shows_row" "shows_row" (defArgs s_shows_row) (defBody s_shows_row) (defScope s_shows_row) [] [] (He.fAd K ("shows_row", none)) fd) : Cal P w K mg base "shows_row" 1 ["price", "word", "row"] (sp_shows_row K) := cal_of F T.g_shows_row (fun _ _ _ _ _ _ us hl => match us, hl with | [_, _, _], _ => rfl) (FunD.ok F sc_shows_row (fun _ _ _ _ h => False.elim h) (fun _ _ _ _ _ _ _ _ _ h => False.elim h))
def showsP (p : PrD) (w : Str) (r s : List Int) : Bool :=
  if w = "bent" then decide (cost p r + cost p s < cost p (andR r s) + cost p (orR r s))
  else if oneMore r s = false then false
  else if w = "rising" then decide (cost p s < cost p r) else decide (cost p s > cost p r)
theorem andR_row {r s : List Int} {n : Nat} (h : Row r n) (k : Row s n) : Row (andR r s) n := by
  refine ⟨by unfold andR; rw [List.length_map, List.length_zip, h.1, k.1, Nat.min_self], fun v hv => ?_⟩
  obtain ⟨p, hp, rfl⟩ := List.mem_map.mp hv
  have h1 := h.2 p.1 (List.of_mem_zip hp).1
  have h2 := k.2 p.2 (List.of_mem_zip hp).2
  by_cases c : p.2 < p.1 <;> simp only [c, if_true, if_false] <;> assumption
theorem orR_row {r s : List Int} {n : Nat} (h : Row r n) (k : Row s n) : Row (orR r s) n := by
  refine ⟨by unfold orR; rw [List.length_map, List.length_zip, h.1, k.1, Nat.min_self], fun v hv => ?_⟩
  obtain ⟨p, hp, rfl⟩ := List.mem_map.mp hv
  have h1 := h.2 p.1 (List.of_mem_zip hp).1
  have h2 := k.2 p.2 (List.of_mem_zip hp).2
  by_cases c : p.2 > p.1 <;> simp only [c, if_true, if_false] <;> assumption
def sp_shows_pair (K : PySem.W.Frag) : Sp := PSp fun vs H R => ∃ (x v u : V) (p : PrD) (w : Str) (r s : List Int), vs = [x, .str w, v, u] ∧ rPr K p H x ∧ PrOk p ∧ rIs r H v ∧ rIs s H u ∧ Row r p.1 ∧ Row s p.1 ∧ R = rB (showsP p w r s)
abbrev nN_shows_pair : List Str := ["price", "word", "one", "other", "together"]
theorem sc_shows_pair : FnScope nN_shows_pair ["price", "word", "one", "other"] (defScope s_shows_pair) := ⟨rfl, rfl, rfl, by decide +kernel, rfl, by decide +kernel, by decide +kernel⟩
theorem ok_shows_pair {P : Program} {w : World} {K : PySem.W.Frag} {mg : Str → Option Value} {base : Heap} {fd : FuncData} (T : GG K w mg) (F : FunD K "shows_pair" "shows_pair" (defArgs s_shows_pair) (defBody s_shows_pair) (defScope s_shows_pair) [] [] (He.fAd K ("shows_pair", none)) fd) (m_cost : CalM P w K mg base (He.ga K "Price") "cost" 4 ["self", "row"] (sp_Price_cost K)) (c_has_one_more : Cal P w K mg base "has_one_more" 2 ["one", "other"] (sp_has_one_more K)) (c_and_of : Cal P w K mg base "and_of" 1 ["one", "other"] (sp_and_of K)) (c_or_of : Cal P w K mg base "or_of" 1 ["one", "other"] (sp_or_of K)) : Cal P w K mg base "shows_pair" 5 ["price", "word", "one", "other"] (sp_shows_pair K) := by
  have nd := sc_shows_pair.nd
  refine cal_of F T.g_shows_pair (fun _ _ _ _ _ _ us hl => match us, hl with | [_, _, _, _], _ => rfl) (FunD.ok F sc_shows_pair (fun vs H Q E h => ?_) (fun cdv A outer s H vs Q E hr h => ?_))
  · obtain ⟨_, ⟨x, _, _, p, w, r, s, rfl, hx, hp, hv, hu1, hr1, hs1, rfl⟩, q⟩ := h
    rfl
  obtain ⟨_, ⟨x, _, _, p, w, r, s, rfl, hx, hp, hv, hu1, hr1, hs1, rfl⟩, q⟩ := h
  have hu := hu_of hr
  refine ⟨_, PSs.nox (pss_cons (ps_if (pt_cmpR op_eq (pv 1) pe_str (nomark _)) (pss_cons (ps_set (i := 4) nd rfl (Or.inl rfl) (pe_op op_add (pe_calM m_cost hr (pv 0) (pa_cons (pv 2) pa_nil)) (pe_calM m_cost hr (pv 0) (pa_cons (pv 3) pa_nil)))) (pss_one (ps_ret (pe_cmpR op_lt (pv 4) (pe_op op_add (pe_calM m_cost hr (pv 0) (pa_cons (pe_cal c_and_of hr (pa_cons (pv 2) (pa_cons (pv 3) pa_nil))) pa_nil)) (pe_calM m_cost hr (pv 0) (pa_cons (pe_cal c_or_of hr (pa_cons (pv 2) (pa_cons (pv 3) pa_nil))) pa_nil))) (nomark _))))) pss_nil) (pss_cons (ps_if (pt_not (pt_val (pe_cal c_has_one_more hr (pa_cons (pv 2) (pa_cons (pv 3) pa_nil))))) (pss_one (ps_ret pe_bl)) pss_nil) (pss_cons (ps_if (pt_cmpR op_eq (pv 1) pe_str (nomark _)) (pss_one (ps_ret (pe_cmpR op_lt (pe_calM m_cost hr (pv 0) (pa_cons (pv 3) pa_nil)) (pe_calM m_cost hr (pv 0) (pa_cons (pv 2) pa_nil)) (nomark _)))) pss_nil) (pss_one (ps_ret (pe_cmpR op_gt (pe_calM m_cost hr (pv 0) (pa_cons (pv 3) pa_nil)) (pe_calM m_cost hr (pv 0) (pa_cons (pv 2) pa_nil)) (nomark _))))))), ?_⟩
  obtain ⟨a, rfl, ha⟩ := hv.of
  obtain ⟨b, rfl, hb⟩ := hu1.of
  have hl : r.length ≤ 8 := by
    rw [hr1.1]
    have := hp.2.1
    omega
  walk_at "st"
  have andS : ∀ {H' : Hp} {Q' : VK}, Ex H H' → (∀ c H2, Ex H H2 → H2 c = some (.tup ((andR r s).map V.int)) → Q' (.ref c) H2) → sp_and_of K [V.ref a, V.ref b] H' Q' E0 := fun e k => ⟨_, ⟨_, _, r, s, rfl, Mo.up e hv, Mo.up e hu1, hl, rfl⟩, fun v H2 e2 hr2 => by
    obtain ⟨c, rfl, hc⟩ := hr2.of
    exact k _ _ (e.tr e2) hc⟩
  have orS : ∀ {H' : Hp} {Q' : VK}, Ex H H' → (∀ c H2, Ex H H2 → H2 c = some (.tup ((orR r s).map V.int)) → Q' (.ref c) H2) → sp_or_of K [V.ref a, V.ref b] H' Q' E0 := fun e k => ⟨_, ⟨_, _, r, s, rfl, Mo.up e hv, Mo.up e hu1, hl, rfl⟩, fun v H2 e2 hr2 => by
    obtain ⟨c, rfl, hc⟩ := hr2.of
    exact k _ _ (e.tr e2) hc⟩
  have hx' := hx
  obtain ⟨o, dx, am, rfl, ho, hm⟩ := hx
  have costS : ∀ {H' : Hp} {Q' : VK} {c : Addr} {t : List Int}, Ex H H' → H' c = some (.tup (t.map V.int)) → Row t p.1 → Q' (.int (cost p t)) H' → sp_Price_cost K [V.ref o, V.ref c] H' Q' E0 := fun e hc ht k => ⟨_, ⟨_, _, p, _, rfl, Mo.up e hx', hp, hc, ht, rfl⟩, k⟩
  walk_at "st"
  refine ⟨rfl, ?_⟩
  by_cases h1 : w = "bent"
  · rw [if_pos h1]
    refine ⟨_, _, ho, rfl, costS (Ex.rf _) ha hr1 ?_⟩
    walk_at "st"
    refine ⟨_, _, ho, rfl, costS (Ex.rf _) hb hs1 ?_⟩
    walk_at "st"
    refine ⟨_, _, ho, rfl, andS (Ex.rf _) fun c H2 e2 hc => costS e2 hc (andR_row hr1 hs1) ?_⟩
    walk_at "st"
    refine ⟨_, _, e2 _ _ ho, rfl, orS e2 fun d H3 e3 hd => costS e3 hd (orR_row hr1 hs1) ?_⟩
    walk_at "st"
    refine q _ _ e3 ?_
    unfold showsP
    rw [if_pos h1] <;> rfl
  rw [if_neg h1]
  refine ⟨_, ⟨_, _, r, s, rfl, hv, hu1, hl, rfl⟩, fun v H2 e2 hb2 => ?_⟩
  cases hb2
  walk_at "st"
  cases h2 : oneMore r s with
  | false =>
    walk_at "st"
    refine q _ _ e2 ?_
    unfold showsP
    rw [if_neg h1, if_pos h2] <;> rfl
  | true =>
    have h3 : ¬ oneMore r s = false := by rw [h2]; decide
    walk_at "st"
    refine ⟨rfl, ?_⟩
    by_cases h4 : w = "rising"
    · rw [if_pos h4]
      refine ⟨_, _, e2 _ _ ho, rfl, costS e2 (e2 _ _ hb) hs1 ?_⟩
      walk_at "st"
      refine ⟨_, _, e2 _ _ ho, rfl, costS e2 (e2 _ _ ha) hr1 ?_⟩
      walk_at "st"
      refine q _ _ e2 ?_
      unfold showsP
      rw [if_neg h1, if_neg h3, if_pos h4] <;> rfl
    · rw [if_neg h4]
      refine ⟨_, _, e2 _ _ ho, rfl, costS e2 (e2 _ _ hb) hs1 ?_⟩
      walk_at "st"
      refine ⟨_, _, e2 _ _ ho, rfl, costS e2 (e2 _ _ ha) hr1 ?_⟩
      walk_at "st"
      refine q _ _ e2 ?_
      unfold showsP
      rw [if_neg h1, if_neg h3, if_neg h4] <;> rfl
/-- all pairs (x, y), x before y -/
def pairs2 {α : Type} (xs : List α) : List (α × α) := (enu xs).flatMap fun p => (xs.drop (p.1 + 1)).map fun y => (p.2, y)
theorem pairs2_len {α : Type} (xs : List α) : (pairs2 xs).length ≤ xs.length * xs.length := by
  have h : ∀ l : List (Nat × α), (l.flatMap fun p => (xs.drop (p.1 + 1)).map fun y => (p.2, y)).length ≤ l.length * xs.length := fun l => by
    induction l with
    | nil => simp
    | cons p l ih =>
      rw [List.flatMap_cons, List.length_append, List.length_map, List.length_drop, List.length_cons, Nat.succ_mul]
      omega
  have := h (enu xs)
  rw [enu_len] at this
  exact this
theorem pairs2_mem {α : Type} {xs : List α} {q : α × α} (h : q ∈ pairs2 xs) : q.1 ∈ xs ∧ q.2 ∈ xs := by
  obtain ⟨e, he, hq⟩ := List.mem_flatMap.mp h
  obtain ⟨y, hy, rfl⟩ := List.mem_map.mp hq
  exact ⟨(List.of_mem_zip he).2, List.mem_of_mem_drop hy⟩
theorem ne_of_none' {H : Hp} {a b : Addr} {o : HO} (ha : H a = none) (hb : H b = some o) : a ≠ b := fun z => by
  rw [z, hb] at ha
  cases ha
theorem filterMap_ite {α : Type} (P : α → Bool) (xs : List α) : xs.filterMap (fun x => if P x then some x else none) = xs.filter P := by
  induction xs with
  | nil => rfl
  | cons x r ih =>
    rw [List.filterMap_cons, List.filter_cons]
    by_cases h : P x = true <;> simp [h, ih]
theorem cut_from (xs : List V) (i : Nat) : cutV xs (some ((i : Int) + 1)) none = xs.drop (i + 1) := by
  unfold cutV
  rw [show ((i : Int) + 1) = ((i + 1 : Nat) : Int) from rfl, HT.sIx_nat, HT.sIx_none, List.take_of_length_le (by rw [List.length_drop] <;> exact Nat.le_refl _)]
  by_cases h : i + 1 ≤ xs.length
  · rw [Nat.min_eq_left h]
  · rw [Nat.min_eq_right (by omega), List.drop_of_length_le (Nat.le_refl _), List.drop_of_length_le (by omega)]
abbrev rPq (q : List Int × List Int) : Rp := r2 (rIs q.1) (rIs q.2)
def shownL (p : PrD) (w : Str) : List (List Int × List Int) := (pairs2 (rows p.1)).filter fun q => showsP p w q.1 q.2
def rSh (l : List (List Int × List Int)) : Rp := match l with
  | [] => rTu rIs []
  | x :: _ => rTu rIs [x.1, x.2]
def sp_shown_by (K : PySem.W.Frag) : Sp := PSp fun vs H R => ∃ (x : V) (p : PrD) (w : Str), vs = [x, .str w] ∧ rPr K p H x ∧ PrOk p ∧ w ≠ "all no" ∧ w ≠ "all yes" ∧ R = rSh (shownL p w)
abbrev nN_shown_by : List Str := ["price", "word", "rows", "row", "found", "at", "one", "other", "pairs", "pair"]
theorem sc_shown_by : FnScope nN_shown_by ["price", "word"] (defScope s_shown_by) := ⟨rfl, rfl, rfl, by decide +kernel, rfl, by decide +kernel, by decide +kernel⟩
theorem ok_shown_by {P : Program} {w : World} {K : PySem.W.Frag} {mg : Str → Option Value} {base : Heap} {fd : FuncData} (T : GG K w mg) (F : FunD K "shown_by" "shown_by" (defArgs s_shown_by) (defBody s_shown_by) (defScope s_shown_by) [] [] (He.fAd K ("shown_by", none)) fd) (c_shows_row : Cal P w K mg base "shows_row" 1 ["price", "word", "row"] (sp_shows_row K)) (c_shows_pair : Cal P w K mg base "shows_pair" 5 ["price", "word", "one", "other"] (sp_shows_pair K)) (c_rows_of : Cal P w K mg base "rows_of" 1 ["size"] (sp_rows_of K)) : Cal P w K mg base "shown_by" 6 ["price", "word"] (sp_shown_by K) := by
  have nd := sc_shown_by.nd
  refine cal_of F T.g_shown_by (fun _ _ _ _ _ _ us hl => match us, hl with | [_, _], _ => rfl) (FunD.ok F sc_shown_by (fun vs H Q E h => ?_) (fun cdv A outer s H vs Q E hr h => ?_))
  · obtain ⟨_, ⟨x, p, w, rfl, hx, hp, hw1, hw2, rfl⟩, q⟩ := h
    rfl
  obtain ⟨_, ⟨x, p, w, rfl, hx, hp, hw1, hw2, rfl⟩, q⟩ := h
  have hu := hu_of hr
  refine ⟨_, PSs.nox (pss_cons (ps_set (i := 2) nd rfl (Or.inr rfl) (pe_cal c_rows_of hr (pa_cons (pe_fldK (K := K) rfl (pv 0) rfl) pa_nil))) (pss_cons (ps_if (PW.pt (pw_or (pt_cmpR op_eq (pv 1) pe_str (nomark _)) (pw_or1 (pt_cmpR op_eq (pv 1) pe_str (nomark _))))) (pss_one (ps_setLc (i := 4) (own := [("row", 3)]) rfl nd rfl rfl (sw_true rfl rfl rfl (by decide +kernel)) (pi_listK (K := K) rfl (pv 2)) (blkOk_by (own := [("row", 3)]) (N := nN_shown_by) (sc := defScope s_shown_by) (by decide +kernel)) (fun _ _ _ _ _ => (pg_name (i := 3) nd rfl (Or.inl rfl))) (fun _ _ _ _ _ => pts_one (pt_val (pe_cal c_shows_row hr (pa_cons (pv 0) (pa_cons (pv 1) (pa_cons (pv 3) pa_nil)))))) (fun _ _ _ _ _ => (pe_tup (pa_cons (pv 3) pa_nil))))) (pss_cons (ps_setLc2 (i := 8) (own := [("at", 5), ("one", 6), ("other", 7)]) (vs1 := [7]) rfl nd rfl rfl (sw_true rfl rfl rfl (by decide +kernel)) (pi_enum (by rfl) T.f_enumerate (pa_cons (pv 2) pa_nil)) (blkOk_by (own := [("at", 5), ("one", 6), ("other", 7)]) (N := nN_shown_by) (sc := defScope s_shown_by) (by decide +kernel)) (by decide) (fun _ _ _ _ _ => (pg_tupK (n := 2) (K := K) rfl rfl (pgs_cons (pg_name (i := 5) nd rfl (Or.inl rfl)) (pgs_cons (pg_name (i := 6) nd rfl (Or.inl rfl)) pgs_nil)))) (fun _ _ _ _ _ => pts_nil) (fun _ _ _ _ _ => (pi_listK (K := K) rfl (pe_slice (sl_listK (K := K) rfl) (pv 2) (po_some (pe_op op_add (pv 5) pe_int)) po_none))) (fun _ _ _ _ _ => (pg_name (i := 7) nd rfl (Or.inl rfl))) (fun _ _ _ _ _ => pts_nil) (fun _ _ _ _ _ => (pe_tup (pa_cons (pv 6) (pa_cons (pv 7) pa_nil))))) (pss_one (ps_setLc (i := 4) (own := [("pair", 9)]) rfl nd rfl rfl (sw_true rfl rfl rfl (by decide +kernel)) (pi_listK (K := K) rfl (pv 8)) (blkOk_by (own := [("pair", 9)]) (N := nN_shown_by) (sc := defScope s_shown_by) (by decide +kernel)) (fun _ _ _ _ _ => (pg_name (i := 9) nd rfl (Or.inl rfl))) (fun _ _ _ _ _ => pts_one (pt_val (pe_cal c_shows_pair hr (pa_cons (pv 0) (pa_cons (pv 1) (pa_cons (pe_ix (ix_tupK (K := K) rfl) (pv 9) pe_int (fun _ _ => rfl)) (pa_cons (pe_ix (ix_tupK (K := K) rfl) (pv 9) pe_int (fun _ _ => rfl)) pa_nil))))))) (fun _ _ _ _ _ => (pv 9)))))) (pss_one (ps_ret (pe_ifExp (pt_cmpR op_gt (pe_b_len T.f_len call_len_seq (pa_cons (pv 4) pa_nil)) pe_int (nomark _)) (pe_ix (ix_listK (K := K) rfl) (pv 4) pe_int (fun _ _ => rfl)) (pe_tup pa_nil)))))), ?_⟩
  have hx' := hx
  obtain ⟨o, dx, am, rfl, ho, hm⟩ := hx
  walk_at "st"
  refine ⟨_, _, _, ho, T.c_Price, T.n_Price_size, _, rfl, ?_⟩
  refine ⟨p.1, rfl, by have := hp.2.1; omega, fun l H1 hl e1 hrows => ?_⟩
  walk_at "st"
  refine ⟨rfl, ?_⟩
  rw [if_neg hw1]
  refine ⟨rfl, ?_⟩
  rw [if_neg hw2]
  obtain ⟨_, vs, hz, hl2, al⟩ := hrows
  cases hz
  have hrl : (rows p.1).length ≤ 8 := by
    rw [rows_len]
    exact Nat.pow_le_pow_right (n := 2) (by decide) hp.2.1
  have hpl : (pairs2 (rows p.1)).length ≤ 64 := Nat.le_trans (pairs2_len _) (Nat.mul_le_mul hrl hrl)
  refine ⟨⟨_, sq_l hl2⟩, ?_⟩
  refine lc2_gen (f := fun p : Nat × List Int => r2 (rI (p.1 : Int)) (rIs p.2)) (xs := enu (rows p.1)) (rb := rPq) (f1 := fun _ => rIs) (ys := fun e => (rows p.1).drop (e.1 + 1)) (F := fun e y => (e.2, y)) (wk_enuL fun H' g => ⟨vs, sq_l (g _ _ hl2), al.up g⟩) (Nat.le_trans hpl (by decide)) ?_ ?_ gm_pair (fun _ _ _ _ _ h q => h _ _ q)
  · rintro j e v H2 Qi D acc hD hj e2 ⟨t, y1, y2, rfl, ht, h1, h2⟩ hq
    cases h1
    walk_at "st"
    refine ⟨_, sq_t ht, rfl, ?_⟩
    walk_at "st"
    refine ⟨l, vs, rfl, sq_l (e2 _ _ hl2), fun t2 ht2 => ?_⟩
    walk_at "st"
    rw [cut_from]
    have e3 := Ex.new (o := .lst (vs.drop (e.1 + 1))) ht2
    have nD : t2 ≠ D := ne_of_none' ht2 hD
    refine ⟨⟨_, sq_l upd_same⟩, hq _ _ _ e3 ⟨wk_lst fun H' g => ⟨_, sq_l (g.1 _ _ nD upd_same), ((al.up (e2.tr e3)).drop _).upZ g.2⟩, ?_⟩⟩
    rintro k y u H5 K1 hk _ z5 hu hK
    walk_at "st"
    exact ⟨by decide, fun t3 ht3 => hK _ _ (Ex.new ht3) ⟨_, _, _, rfl, upd_same, Mo.up (Ex.new ht3) (Iz.upZ (e3.zx.tr z5) h2), Mo.up (Ex.new ht3) hu⟩⟩
  · rintro c H2 hc e2 hr2
    have hr2' : rLi rPq (pairs2 (rows p.1)) H2 (.ref c) := hr2
    obtain ⟨_, us, hz, hc2, al2⟩ := hr2'
    cases hz
    walk_at "st"
    refine ⟨⟨_, sq_l hc2⟩, ?_⟩
    refine lc_gen (f := rPq) (xs := pairs2 (rows p.1)) (rb := rPq) (F := fun x => if showsP p w x.1 x.2 then some x else none) (wk_lst fun H' g => ⟨us, sq_l (g _ _ hc2), al2.up g⟩) (Nat.le_trans hpl (by decide)) ?_ ?_
    · rintro i x v H3 K1 K2 hx e3 ⟨t, y1, y2, rfl, ht, h1, h2⟩ k1 k2
      have hxm : x ∈ pairs2 (rows p.1) := List.mem_of_getElem? hx
      obtain ⟨hm1, hm2⟩ := pairs2_mem hxm
      walk_at "st"
      refine ⟨t, _, _, _, rfl, rfl, sq_t ht, rfl, ?_⟩
      refine ⟨t, _, _, _, rfl, rfl, sq_t ht, rfl, ?_⟩
      refine ⟨_, ⟨_, _, _, p, w, x.1, x.2, rfl, Mo.up ((e1.tr e2).tr e3) hx', hp, h1, h2, rows_row _ _ hm1, rows_row _ _ hm2, rfl⟩, fun v H4 e4 hv => ?_⟩
      cases hv
      walk_at "st"
      by_cases hs : showsP p w x.1 x.2 = true
      · rw [if_pos hs]
        rw [if_pos hs] at k1
        exact k1 _ _ _ rfl e4 (Mo.up e4 ⟨_, _, _, rfl, ht, h1, h2⟩)
      · rw [if_neg hs]
        rw [if_neg hs] at k2
        exact k2 _ rfl e4
    · intro c2 H3 hc3 e3 hr3
      rw [filterMap_ite] at hr3
      have hr3' : rLi rPq (shownL p w) H3 (.ref c2) := hr3
      have e03 : Ex H H3 := (e1.tr e2).tr e3
      obtain ⟨_, ws, hz, hc4, al3⟩ := hr3'
      cases hz
      walk_at "st"
      refine ⟨_, .inl (sq_l hc4), ?_⟩
      cases hsl : shownL p w with
      | nil =>
        rw [hsl] at al3 q
        cases al3
        walk_at "st"
        rw [if_neg (by simp)]
        exact ⟨by decide, fun t ht => q _ _ (e03.tr (Ex.new ht)) ⟨t, [], rfl, upd_same, .nil⟩⟩
      | cons y ys =>
        rw [hsl] at al3 q
        cases al3 with
        | cons hy0 t0 =>
          obtain ⟨t, y1, y2, rfl, ht, h1, h2⟩ := hy0
          rw [if_pos (by simp)]
          refine ⟨_, _, 0, _, rfl, rfl, sq_l hc4, atI_at (by decide) rfl, q _ _ e03 ⟨t, _, rfl, ht, .cons h1 (.cons h2 .nil)⟩⟩
def kindB (b : List PrD) (w : Str) : Bool := b.all fun p => (shownL p w).isEmpty
def rFa (x : Bool) : Rp := fun _ v => if x = true then v = .non else ∃ a, v = .ref a
def BkOk (b : List PrD) : Prop := 1 ≤ b.length ∧ b.length ≤ 6 ∧ ∀ p ∈ b, PrOk p
def WOk (w : Str) : Prop := w = "rising" ∨ w = "falling" ∨ w = "bent"
def sp_fault_of (K : PySem.W.Frag) : Sp := PSp fun vs H R => ∃ (x : V) (b : List PrD) (w : Str), vs = [x, .str w] ∧ rBk K b H x ∧ BkOk b ∧ WOk w ∧ R = rFa (kindB b w)
abbrev nN_fault_of : List Str := ["book", "word", "number", "price", "rows"]
theorem sc_fault_of : FnScope nN_fault_of ["book", "word"] (defScope s_fault_of) := ⟨rfl, rfl, rfl, by decide +kernel, rfl, by decide +kernel, by decide +kernel⟩
theorem ok_fault_of {P : Program} {w : World} {K : PySem.W.Frag} {mg : Str → Option Value} {base : Heap} {fd : FuncData} (T : GG K w mg) (F : FunD K "fault_of" "fault_of" (defArgs s_fault_of) (defBody s_fault_of) (defScope s_fault_of) [] [] (He.fAd K ("fault_of", none)) fd) (c_shown_by : Cal P w K mg base "shown_by" 6 ["price", "word"] (sp_shown_by K)) : Cal P w K mg base "fault_of" 7 ["book", "word"] (sp_fault_of K) := by
  have nd := sc_fault_of.nd
  refine cal_of F T.g_fault_of (fun _ _ _ _ _ _ us hl => match us, hl with | [_, _], _ => rfl) (FunD.ok F sc_fault_of (fun vs H Q E h => ?_) (fun cdv A outer s H vs Q E hr h => ?_))
  · obtain ⟨_, ⟨x, b, w, rfl, hx, hb, hw, rfl⟩, q⟩ := h
    rfl
  obtain ⟨_, ⟨x, b, w, rfl, hx, hb, hw, rfl⟩, q⟩ := h
  have hu := hu_of hr
  refine ⟨_, PSs.nox (pss_cons (ps_if (pt_cmpR op_notIn_seq (pv 1) (pe_gR T.g_KINDS) (by rfl)) (pss_one ps_never) pss_nil) (pss_cons (ps_for PassesOwn.never rfl (pi_enumT (by rfl) T.f_enumerate (pa_cons (pe_fldK (K := K) rfl (pv 0) rfl) pa_nil)) (pg_tupK (n := 2) (K := K) rfl rfl (pgs_cons (pg_name (i := 2) nd rfl (Or.inl rfl)) (pgs_cons (pg_name (i := 3) nd rfl (Or.inl rfl)) pgs_nil))) (pss_cons (ps_set (i := 4) nd rfl (Or.inl rfl) (pe_cal c_shown_by hr (pa_cons (pv 3) (pa_cons (pv 1) pa_nil)))) (pss_one (ps_if (pt_cmpR op_gt (pe_b_len T.f_len call_len_seq (pa_cons (pv 4) pa_nil)) pe_int (nomark _)) (pss_one (ps_ret (pe_op (op_catAK (K := K) rfl) (pe_tup (pa_cons (pv 2) pa_nil)) (pv 4)))) pss_nil)))) (pss_one (ps_ret pe_non)))), ?_⟩
  have hx' := hx
  obtain ⟨o, dx, pr, pl, rfl, ho, ⟨c, us, rfl, hc, al⟩, h4⟩ := hx
  walk_at "st"
  refine ⟨_, _, rfl, .inr (T.t_KINDS H), rfl, rfl, ?_⟩
  have hin : inV (.str w) [.str "all no", .str "all yes", .str "bent", .str "rising", .str "falling"] = true := by
    rcases hw with e | e | e <;> subst e <;> decide +kernel
  rw [hin]
  walk_at "st"
  refine ⟨_, _, _, ho, T.c_Book, T.n_Book_prices, _, rfl, c, rfl, ⟨_, sq_t hc⟩, ?_⟩
  refine for_gen (G := fun H' => Ex H H') (wk_enuT (f := rPr K) (xs := b) fun H' g => ⟨us, sq_t (g _ _ hc), al.up g⟩) (fun i σ' H' => Ex H H' ∧ (∀ p ∈ b.take i, shownL p w = []) ∧ ∃ x2 x3 x4, σ' = [some (.ref o), some (.str w), x2, x3, x4]) ⟨Ex.rf _, fun p hp => by simp at hp, _, _, _, rfl⟩ (fun _ _ _ _ h => h.1) ?_ ?_
  · rintro i e v σ' H1 H2 hi ⟨e1, hn, x2, x3, x4, rfl⟩ e2 ⟨t, y1, y2, rfl, ht, h1, h2⟩
    cases h1
    have hi2 : e.2 ∈ b := List.mem_of_getElem? (enu_at hi).2
    walk_at "st"
    refine ⟨_, sq_t ht, rfl, ?_⟩
    walk_at "st"
    refine ⟨_, ⟨_, e.2, w, rfl, h2, hb.2.2 _ hi2, ?_, ?_, rfl⟩, fun v H3 e3 hv => ?_⟩
    · rcases hw with z | z | z <;> subst z <;> decide
    · rcases hw with z | z | z <;> subst z <;> decide
    walk_at "st"
    cases hsl : shownL e.2 w with
    | nil =>
      rw [hsl] at hv
      obtain ⟨a, ws, rfl, ha, al2⟩ := hv
      cases al2
      refine ⟨a, rfl, [], .inr (sq_t ha), ?_⟩
      rw [if_neg (by simp)]
      walk_at "st"
      refine ⟨(e1.tr e2).tr e3, fun p hp => ?_⟩
      rw [List.take_add_one, (enu_at hi).2] at hp
      rcases List.mem_append.mp hp with hp | hp
      · exact hn p hp
      · have : p = e.2 := by simpa using hp
        rw [this]
        exact hsl
    | cons y ys =>
      rw [hsl] at hv
      obtain ⟨a, ws, rfl, ha, al2⟩ := hv
      refine ⟨a, rfl, ws, .inr (sq_t ha), ?_⟩
      rw [al2.len, if_pos (by simp)]
      walk_at "st"
      refine ⟨by decide, fun t3 ht3 => ?_⟩
      refine rcat upd_same (Ex.new ht3 _ _ ha) (by rw [al2.len]; simp) fun p H' e5 hp => q _ _ (((e1.tr e2).tr e3).tr ((Ex.new ht3).tr e5)) ?_
      have hk : kindB b w = false := by
        unfold kindB
        rw [List.all_eq_false]
        exact ⟨e.2, hi2, by rw [hsl]; simp⟩
      rw [hk]
      exact ⟨p, rfl⟩
  · rintro σ' H' ⟨e1, hn, x2, x3, x4, rfl⟩
    walk_at "st"
    refine q _ _ e1 ?_
    have hk : kindB b w = true := by
      unfold kindB
      rw [List.all_eq_true]
      intro p hp
      rw [hn p (by rw [enu_len, List.take_length]; exact hp)] <;> rfl
    rw [hk]
    rfl
def sp_is_kind (K : PySem.W.Frag) : Sp := PSp fun vs H R => ∃ (x : V) (b : List PrD) (w : Str), vs = [x, .str w] ∧ rBk K b H x ∧ BkOk b ∧ WOk w ∧ R = rB (kindB b w)
abbrev nN_is_kind : List Str := ["book", "word"]
theorem sc_is_kind : FnScope nN_is_kind ["book", "word"] (defScope s_is_kind) := ⟨rfl, rfl, rfl, by decide +kernel, rfl, by decide +kernel, by decide +kernel⟩
theorem ok_is_kind {P : Program} {w : World} {K : PySem.W.Frag} {mg : Str → Option Value} {base : Heap} {fd : FuncData} (T : GG K w mg) (F : FunD K "is_kind" "is_kind" (defArgs s_is_kind) (defBody s_is_kind) (defScope s_is_kind) [] [] (He.fAd K ("is_kind", none)) fd) (c_fault_of : Cal P w K mg base "fault_of" 7 ["book", "word"] (sp_fault_of K)) : Cal P w K mg base "is_kind" 8 ["book", "word"] (sp_is_kind K) := by
  have nd := sc_is_kind.nd
  refine cal_of F T.g_is_kind (fun _ _ _ _ _ _ us hl => match us, hl with | [_, _], _ => rfl) (FunD.ok F sc_is_kind (fun vs H Q E h => ?_) (fun cdv A outer s H vs Q E hr h => ?_))
  · obtain ⟨_, ⟨x, b, w, rfl, hx, hb, hw, rfl⟩, q⟩ := h
    rfl
  obtain ⟨_, ⟨x, b, w, rfl, hx, hb, hw, rfl⟩, q⟩ := h
  have hu := hu_of hr
  refine ⟨_, PSs.nox (pss_one (ps_ret (pe_cmpR op_isN (pe_cal c_fault_of hr (pa_cons (pv 0) (pa_cons (pv 1) pa_nil))) pe_non (nomark _)))), ?_⟩
  walk_at "st"
  refine ⟨_, ⟨x, b, w, rfl, hx, hb, hw, rfl⟩, fun v H1 e hv => ?_⟩
  walk_at "st"
  refine q _ _ e ?_
  cases hk : kindB b w with
  | true =>
    rw [hk] at hv
    have : v = .non := hv
    rw [this] <;> rfl
  | false =>
    rw [hk] at hv
    obtain ⟨a, rfl⟩ := (show ∃ a, v = .ref a from hv)
    rfl
def sp_free_kinds (K : PySem.W.Frag) : Sp := fun _ _ _ _ => False
abbrev nN_free_kinds : List Str := ["book", "word"]
theorem sc_free_kinds : FnScope nN_free_kinds ["book"] (defScope s_free_kinds) := ⟨rfl, rfl, rfl, by decide +kernel, rfl, by decide +kernel, by decide +kernel⟩
theorem ok_free_kinds {P : Program} {w : World} {K : PySem.W.Frag} {mg : Str → Option Value} {base : Heap} {fd : FuncData} (T : GG K w mg) (F : FunD K "free_kinds" "free_kinds" (defArgs s_free_kinds) (defBody s_free_kinds) (defScope s_free_kinds) [] [] (He.fAd K ("free_kinds", none)) fd) : Cal P w K mg base "free_kinds" 1 ["book"] (sp_free_kinds K) := cal_of F T.g_free_kinds (fun _ _ _ _ _ _ us hl => match us, hl with | [_], _ => rfl) (FunD.ok F sc_free_kinds (fun _ _ _ _ h => False.elim h) (fun _ _ _ _ _ _ _ _ _ h => False.elim h))
def kindsL (b : List PrD) : List Str := (["rising", "falling", "bent"] : List Str).filter (kindB b)
def sp_fixed_kinds (K : PySem.W.Frag) : Sp := PSp fun vs H R => ∃ (x : V) (b : List PrD), vs = [x] ∧ rBk K b H x ∧ BkOk b ∧ R = rTu rS (kindsL b)
abbrev nN_fixed_kinds : List Str := ["book", "word"]
theorem sc_fixed_kinds : FnScope nN_fixed_kinds ["book"] (defScope s_fixed_kinds) := ⟨rfl, rfl, rfl, by decide +kernel, rfl, by decide +kernel, by decide +kernel⟩
theorem ok_fixed_kinds {P : Program} {w : World} {K : PySem.W.Frag} {mg : Str → Option Value} {base : Heap} {fd : FuncData} (T : GG K w mg) (F : FunD K "fixed_kinds" "fixed_kinds" (defArgs s_fixed_kinds) (defBody s_fixed_kinds) (defScope s_fixed_kinds) [] [] (He.fAd K ("fixed_kinds", none)) fd) (c_is_kind : Cal P w K mg base "is_kind" 8 ["book", "word"] (sp_is_kind K)) : Cal P w K mg base "fixed_kinds" 9 ["book"] (sp_fixed_kinds K) := by
  have nd := sc_fixed_kinds.nd
  refine cal_of F T.g_fixed_kinds (fun _ _ _ _ _ _ us hl => match us, hl with | [_], _ => rfl) (FunD.ok F sc_fixed_kinds (fun vs H Q E h => ?_) (fun cdv A outer s H vs Q E hr h => ?_))
  · obtain ⟨_, ⟨x, b, rfl, hx, hb, rfl⟩, q⟩ := h
    rfl
  obtain ⟨_, ⟨x, b, rfl, hx, hb, rfl⟩, q⟩ := h
  have hu := hu_of hr
  refine ⟨_, PSs.nox (pss_one (ps_ret (pe_b_tuple T.f_tuple call_tuple_of (pa_cons (pe_lc (own := [("word", 1)]) rfl nd (pi_tupK (K := K) rfl (pe_gR T.g_FIXED_KINDS)) (blkOk_by (own := [("word", 1)]) (N := nN_fixed_kinds) (sc := defScope s_fixed_kinds) (by decide +kernel)) (fun _ _ _ _ _ => (pg_name (i := 1) nd rfl (Or.inl rfl))) (fun _ _ _ _ _ => pts_one (pt_val (pe_cal c_is_kind hr (pa_cons (pv 0) (pa_cons (pv 1) pa_nil))))) (fun _ _ _ _ _ => (pv 1))) pa_nil)))), ?_⟩
  walk_at "st"
  refine ⟨⟨_, T.t_FIXED_KINDS H⟩, ?_⟩
  refine lc_gen (f := rS) (xs := ["rising", "falling", "bent"]) (rb := rS) (F := fun w => if kindB b w then some w else none) (wk_tup fun H' g => ⟨_, T.t_FIXED_KINDS H', .cons rfl (.cons rfl (.cons rfl .nil))⟩) (by decide) ?_ ?_
  · rintro i w v H1 K1 K2 hw e1 hv k1 k2
    cases hv
    walk_at "st"
    have hwk : WOk w := by
      have hm := List.mem_of_getElem? hw
      simpa [WOk] using hm
    refine ⟨_, ⟨x, b, w, rfl, Mo.up e1 hx, hb, hwk, rfl⟩, fun v H2 e2 hv => ?_⟩
    cases hv
    walk_at "st"
    by_cases hk : kindB b w = true
    · rw [if_pos hk]
      rw [if_pos hk] at k1
      exact k1 _ _ _ rfl e2 rfl
    · rw [if_neg hk]
      rw [if_neg hk] at k2
      exact k2 _ rfl e2
  · intro p H' hp e2 hr2
    rw [filterMap_ite] at hr2
    exact tup_done hr2 e2 q
/-- what side tells -/
def rSi (ws : List Str) : Rp := match ws with
  | [] => rTu rS ["all"]
  | w :: r => r2 (rS "cut") (rTu rS (w :: r))
def sp_side (K : PySem.W.Frag) : Sp := PSp fun vs H R => ∃ (x : V) (b : List PrD), vs = [x, .bl true] ∧ rBk K b H x ∧ BkOk b ∧ R = rSi (kindsL b)
abbrev nN_side : List Str := ["book", "fixed", "words"]
theorem sc_side : FnScope nN_side ["book", "fixed"] (defScope s_side) := ⟨rfl, rfl, rfl, by decide +kernel, rfl, by decide +kernel, by decide +kernel⟩
theorem ok_side {P : Program} {w : World} {K : PySem.W.Frag} {mg : Str → Option Value} {base : Heap} {fd : FuncData} (T : GG K w mg) (F : FunD K "side" "side" (defArgs s_side) (defBody s_side) (defScope s_side) [] [("fixed", .bl false)] (He.fAd K ("side", none)) fd) (c_fixed_kinds : Cal P w K mg base "fixed_kinds" 9 ["book"] (sp_fixed_kinds K)) (c_free_kinds : Cal P w K mg base "free_kinds" 1 ["book"] (sp_free_kinds K)) : CalK P w K mg base "side" 10 ["book", "fixed"] ["fixed"] (sp_side K) := by
  have nd := sc_side.nd
  refine calK_of F T.g_side (fun _ _ _ _ _ _ us ws h1 h2 => match us, ws, h1, h2 with | [_], [_], _, _ => rfl) (FunD.ok F sc_side (fun vs H Q E h => ?_) (fun cdv A outer s H vs Q E hr h => ?_))
  · obtain ⟨_, ⟨x, b, rfl, hx, hb, rfl⟩, q⟩ := h
    rfl
  obtain ⟨_, ⟨x, b, rfl, hx, hb, rfl⟩, q⟩ := h
  have hu := hu_of hr
  refine ⟨_, PSs.nox (pss_cons (ps_set (i := 2) nd rfl (Or.inl rfl) (pe_ifExp (pt_val (pv 1)) (pe_cal c_fixed_kinds hr (pa_cons (pv 0) pa_nil)) (pe_cal c_free_kinds hr (pa_cons (pv 0) pa_nil)))) (pss_one (ps_ret (pe_ifExp (pt_cmpR op_gt (pe_b_len T.f_len call_len_seq (pa_cons (pv 2) pa_nil)) pe_int (nomark _)) (pe_tup (pa_cons pe_str (pa_cons (pv 2) pa_nil))) (pe_tup (pa_cons pe_str pa_nil)))))), ?_⟩
  walk_at "st"
  refine ⟨_, ⟨x, b, rfl, hx, hb, rfl⟩, fun v H1 e hv => ?_⟩
  walk_at "st"
  obtain ⟨a, vs, rfl, ha, al⟩ := hv
  refine ⟨a, rfl, vs, .inr (sq_t ha), ?_⟩
  cases hk : kindsL b with
  | nil =>
    rw [hk] at al q
    cases al
    rw [if_neg (by simp)]
    walk_at "st"
    exact ⟨by decide, fun t ht => q _ _ (e.tr (Ex.new ht)) ⟨t, _, rfl, upd_same, .cons rfl .nil⟩⟩
  | cons w r =>
    rw [hk] at al q
    rw [al.len, if_pos (by simp)]
    walk_at "st"
    exact ⟨by decide, fun t ht => q _ _ (e.tr (Ex.new ht)) ⟨t, _, _, rfl, upd_same, rfl, a, vs, rfl, Ex.new ht _ _ ha, al⟩⟩
end Cut
end

section
set_option maxHeartbeats 4000000
namespace Cut
open PySem PySem.Spec L2
local macro_rules | `(tactic| walk_at "rd") => `(tactic| dsimp only [tFor_eq, tLc_eq, tLc2_eq, iTup, iList, iRng1, iRng2, iSeq, RZ.iZipA, iEnum, iZipX, iEnumT, iKeys, tTupZip, tLenSet, gFld_app, tLock, tLockE, tCallN, tTup0F, tAsg, tVar, tC, tCmp, tIsN, tNotN, tB, tAnd, tOr, tNot, tAndV, tOrV, tNotV, tIf, tNext, tSeq, tBreak, tCont, tDrop, tRet, tRetN, tIfS, gName_app, gTup_app, gCons_app, gNil_app, gSub_app, tAsg, tAug, tCall, tMeth, tMake, tCons, tNil, tTup, tLst, tCB, tOp, tUn, tTest, tChain, tFld, sFld, sFldAug, tBM, tBM0, tSl, tPart, tNoPart, tDGet, tDIn, tDNotIn, sDPut, sDAug, tDNewK, tDNewT, tDGet2, L2.rI, L2.rI0, L2.rU, rEq, rNe, t2I, ipI, cxOf, Cx.nox, Cx.wish])
local macro_rules | `(tactic| walk_at "ex") => `(tactic| simp only [L2.start, List.map_cons, List.map_nil, List.length_cons, List.length_nil, List.replicate_succ, List.replicate_zero, List.cons_append, List.nil_append, List.append_nil, List.getElem?_cons_zero, List.getElem?_cons_succ, List.set_cons_zero, List.set_cons_succ, L2.wipe, Option.some.injEq, V.int.injEq, V.bl.injEq, V.ref.injEq, V.str.injEq, V.ty.injEq, List.cons.injEq, exists_eq_left', exists_eq_left, exists_eq_right, and_true, true_and, and_self, exists_and_left, exists_and_right, exists_const, and_assoc, exists_eq, exists_eq', eq_self_iff_true, if_true, if_false, Bool.false_eq_true, decide_eq_true_eq, ne_eq, reduceCtorEq, not_false_eq_true, Nat.reduceAdd, Nat.reduceSub, Bool.not_true, Bool.not_false, Option.map_some, Option.map_none, Option.isSome_some, Option.isSome_none, Option.getD_some, Option.getD_none])
local macro_rules | `(tactic| walk_at "st") => `(tactic| ((try walk_at "rd"); (try walk_at "ex")))

theorem ixT {K : PySem.W.Frag} {H : Hp} {Q : VK} {a : Addr} {xs : List V} {i : Int} {v : V} (h : SqT K H a xs) (h0 : 0 ≤ i) (e : xs[i.toNat]? = some v) (q : Q v H) : rIxT K (.ref a) (.int i) H Q := ⟨a, xs, i, v, rfl, rfl, h, atI_at h0 e, q⟩
theorem ixL {K : PySem.W.Frag} {H : Hp} {Q : VK} {a : Addr} {xs : List V} {i : Int} {v : V} (h : SqL K H a xs) (h0 : 0 ≤ i) (e : xs[i.toNat]? = some v) (q : Q v H) : rIxL K (.ref a) (.int i) H Q := ⟨a, xs, i, v, rfl, rfl, h, atI_at h0 e, q⟩
theorem get_toNat {α : Type} {xs : List α} {i : Nat} {x : α} (h : xs[i]? = some x) : xs[(i : Int).toNat]? = some x := by rw [Int.toNat_natCast]; exact h
/-! ### puzzles -/
structure Pz where
  book : List PrD
  n : Nat
  ties : List (Nat × List Int × Int)
abbrev rTi (t : Nat × List Int × Int) : Rp := r3 (rI (t.1 : Int)) (rIs t.2.1) (rI t.2.2)
def TieOk (b : List PrD) (n : Nat) (t : Nat × List Int × Int) : Prop := ∃ p, b[t.1]? = some p ∧ t.2.1.length = p.1 ∧ (∀ c ∈ t.2.1, 0 ≤ c ∧ c < (n : Int)) ∧ 1 ≤ t.2.2 ∧ t.2.2 ≤ 1000
def PzOk (z : Pz) : Prop := BkOk z.book ∧ z.n ≤ 8 ∧ z.ties.length ≤ 60 ∧ ∀ t ∈ z.ties, TieOk z.book z.n t
def rPz (K : PySem.W.Frag) (z : Pz) : Rp := fun H v => ∃ a dx bk ti, v = .ref a ∧ H a = some (.ins (He.ga K "Puzzle") dx [("book", bk), ("cell_count", .int z.n), ("ties", ti)]) ∧ rBk K z.book H bk ∧ rTu rTi z.ties H ti
instance (K : PySem.W.Frag) (z : Pz) : Iz (rPz K z) := ⟨fun e ⟨a, dx, bk, ti, h1, h2, h3, h4⟩ => ⟨a, dx, bk, ti, h1, e _ _ True.intro h2, Iz.upZ e h3, Iz.upZ e h4⟩⟩
def sp_are_cells (K : PySem.W.Frag) : Sp := VSp fun vs H v => ∃ (a : Addr) (ns : List Int) (c n : Int), vs = [.ref a, .int c, .int n] ∧ H a = some (.tup (ns.map V.int)) ∧ (ns.length : Int) = c ∧ (∀ x ∈ ns, 0 ≤ x ∧ x < n) ∧ v = .bl true
abbrev nN_are_cells : List Str := ["value", "count", "cell_count", "cell"]
theorem sc_are_cells : FnScope nN_are_cells ["value", "count", "cell_count"] (defScope s_are_cells) := ⟨rfl, rfl, rfl, by decide +kernel, rfl, by decide +kernel, by decide +kernel⟩
theorem ok_are_cells {P : Program} {w : World} {K : PySem.W.Frag} {mg : Str → Option Value} {base : Heap} {fd : FuncData} (T : GG K w mg) (F : FunD K "are_cells" "are_cells" (defArgs s_are_cells) (defBody s_are_cells) (defScope s_are_cells) [] [] (He.fAd K ("are_cells", none)) fd) (c_is_below_prices : Cal P w K mg base "is_below_prices" 2 ["value", "limit"] (sp_is_below_prices K)) : Cal P w K mg base "are_cells" 3 ["value", "count", "cell_count"] (sp_are_cells K) := by
  have nd := sc_are_cells.nd
  refine cal_of F T.g_are_cells (fun _ _ _ _ _ _ us hl => match us, hl with | [_, _, _], _ => rfl) (FunD.ok F sc_are_cells (fun vs H Q E h => ?_) (fun cdv A outer s H vs Q E hr h => ?_))
  · obtain ⟨_, ⟨a, ns, c, n, rfl, ha, hc, hn, rfl⟩, q⟩ := h
    rfl
  obtain ⟨_, ⟨a, ns, c, n, rfl, ha, hc, hn, rfl⟩, q⟩ := h
  have hu := hu_of hr
  refine ⟨_, PSs.nox (pss_cons (ps_if (PW.pt (pw_or (pt_not (pt_val (pe_bI T.f_isinstance call_isi (pa_cons (pv 0) (pa_cons (pe_ty T.f_tuple bt_tuple) pa_nil))))) (pw_or1 (pt_cmpR op_ne (pe_b_len T.f_len call_len_seq (pa_cons (pv 0) pa_nil)) (pv 1) (nomark _))))) (pss_one (ps_ret pe_bl)) pss_nil) (pss_cons (ps_for PassesOwn.never rfl (pi_tupK (K := K) rfl (pv 0)) (pg_name (i := 3) nd rfl (Or.inl rfl)) (pss_one (ps_if (pt_not (pt_val (pe_cal c_is_below_prices hr (pa_cons (pv 3) (pa_cons (pv 2) pa_nil))))) (pss_one (ps_ret pe_bl)) pss_nil))) (pss_one (ps_ret pe_bl)))), ?_⟩
  walk_at "st"
  refine isi_tt ha ?_
  walk_at "st"
  refine ⟨_, .inr (sq_t ha), rfl, ?_⟩
  rw [ints_len, hc]
  walk_at "st"
  refine ⟨⟨_, sq_t ha⟩, ?_⟩
  refine for_s (G := fun H' => H' = H) (ws_tup (f := rI) (xs := ns) fun H' g => ⟨_, by rw [g]; exact sq_t ha, ints_al ns⟩) (fun i σ' H' => H' = H ∧ ∃ x, σ' = [some (.ref a), some (.int c), some (.int n), x]) ⟨rfl, _, rfl⟩ (fun _ _ _ _ h => h.1) ?_ ?_
  · rintro i x v σ' H1 hx ⟨rfl, y, rfl⟩ hv
    cases hv
    walk_at "st"
    have hb := hn x (List.mem_of_getElem? hx)
    refine ⟨_, ⟨x, n, rfl, rfl⟩, ?_⟩
    rw [decide_eq_true hb]
    walk_at "st"
  · rintro σ' H' ⟨rfl, y, rfl⟩
    walk_at "st"
    exact q
def sp_is_tie (K : PySem.W.Frag) : Sp := VSp fun vs H v => ∃ (bk x : V) (b : List PrD) (n : Nat) (t : Nat × List Int × Int), vs = [bk, .int n, x] ∧ rBk K b H bk ∧ BkOk b ∧ rTi t H x ∧ TieOk b n t ∧ v = .bl true
abbrev nN_is_tie : List Str := ["book", "cell_count", "value"]
theorem sc_is_tie : FnScope nN_is_tie ["book", "cell_count", "value"] (defScope s_is_tie) := ⟨rfl, rfl, rfl, by decide +kernel, rfl, by decide +kernel, by decide +kernel⟩
theorem ok_is_tie {P : Program} {w : World} {K : PySem.W.Frag} {mg : Str → Option Value} {base : Heap} {fd : FuncData} (T : GG K w mg) (F : FunD K "is_tie" "is_tie" (defArgs s_is_tie) (defBody s_is_tie) (defScope s_is_tie) [] [] (He.fAd K ("is_tie", none)) fd) (c_are_cells : Cal P w K mg base "are_cells" 3 ["value", "count", "cell_count"] (sp_are_cells K)) (c_is_integer : Cal P w K mg base "is_integer" 1 ["value"] (sp_is_integer K)) (c_is_below_prices : Cal P w K mg base "is_below_prices" 2 ["value", "limit"] (sp_is_below_prices K)) (m_len : CalM P w K mg base (He.ga K "Book") "__len__" 1 ["self"] (sp_Book_len K)) : Cal P w K mg base "is_tie" 4 ["book", "cell_count", "value"] (sp_is_tie K) := by
  have nd := sc_is_tie.nd
  refine cal_of F T.g_is_tie (fun _ _ _ _ _ _ us hl => match us, hl with | [_, _, _], _ => rfl) (FunD.ok F sc_is_tie (fun vs H Q E h => ?_) (fun cdv A outer s H vs Q E hr h => ?_))
  · obtain ⟨_, ⟨bk, _, b, n, t, rfl, hbk, hb, ⟨a, x, y, z, rfl, ha, hx, hy, hz⟩, ⟨p, hp, hl, hcs, hti, hti2⟩, rfl⟩, q⟩ := h
    rfl
  obtain ⟨_, ⟨bk, _, b, n, t, rfl, hbk, hb, ⟨a, x, y, z, rfl, ha, hx, hy, hz⟩, ⟨p, hp, hl, hcs, hti, hti2⟩, rfl⟩, q⟩ := h
  have hu := hu_of hr
  refine ⟨_, PSs.nox (pss_cons (ps_if (PW.pt (pw_or (pt_not (pt_val (pe_bI T.f_isinstance call_isi (pa_cons (pv 2) (pa_cons (pe_ty T.f_tuple bt_tuple) pa_nil))))) (pw_or (pt_cmpR op_ne (pe_b_len T.f_len call_len_seq (pa_cons (pv 2) pa_nil)) pe_int (nomark _)) (pw_or1 (pt_not (pt_val (pe_cal c_is_below_prices hr (pa_cons (pe_ix (ix_tupK (K := K) rfl) (pv 2) pe_int (fun _ _ => rfl)) (pa_cons (pe_b_len T.f_len (cr_lenO m_len hr) (pa_cons (pv 0) pa_nil)) pa_nil))))))))) (pss_one (ps_ret pe_bl)) pss_nil) (pss_cons (ps_if (PW.pt (pw_or (pt_not (pt_val (pe_cal c_is_integer hr (pa_cons (pe_ix (ix_tupK (K := K) rfl) (pv 2) pe_int (fun _ _ => rfl)) pa_nil)))) (pw_or1 (pt_cmpR op_lt (pe_ix (ix_tupK (K := K) rfl) (pv 2) pe_int (fun _ _ => rfl)) pe_int (nomark _))))) (pss_one (ps_ret pe_bl)) pss_nil) (pss_one (ps_ret (pe_cal c_are_cells hr (pa_cons (pe_ix (ix_tupK (K := K) rfl) (pv 2) pe_int (fun _ _ => rfl)) (pa_cons (pe_fldK (K := K) rfl (pe_ix (ix_tupK (K := K) rfl) (pe_fldK (K := K) rfl (pv 0) rfl) (pe_ix (ix_tupK (K := K) rfl) (pv 2) pe_int (fun _ _ => rfl)) (fun _ _ => rfl)) rfl) (pa_cons (pv 1) pa_nil)))))))), ?_⟩
  have hbk' := hbk
  obtain ⟨o, dx, pr, pl, rfl, ho, ⟨c, us, rfl, hc, al⟩, h4⟩ := hbk
  obtain ⟨d, rfl, hd⟩ := hy.of
  cases hx
  cases hz
  walk_at "st"
  refine isi_tt ha ?_
  walk_at "st"
  refine ⟨_, .inr (sq_t ha), rfl, ?_⟩
  walk_at "st"
  rw [if_neg (by simp)]
  refine ixT (sq_t ha) (by decide) rfl ?_
  have hl1 : t.1 < b.length := (List.getElem?_eq_some_iff.mp hp).1
  refine ⟨_, _, _, rfl, ho, _, ⟨_, _, rfl, hbk', rfl⟩, (b.length : Int), rfl, by omega, by have := hb.2.1; omega, ?_⟩
  refine ⟨_, ⟨_, _, rfl, rfl⟩, ?_⟩
  rw [decide_eq_true (show (0 : Int) ≤ (t.1 : Int) ∧ (t.1 : Int) < (b.length : Int) by omega)]
  walk_at "st"
  refine ixT (sq_t ha) (by decide) rfl ?_
  refine ⟨_, ⟨_, rfl, rfl⟩, ?_⟩
  walk_at "st"
  refine ixT (sq_t ha) (by decide) rfl ?_
  walk_at "st"
  rw [if_neg (by omega)]
  refine ixT (sq_t ha) (by decide) rfl ?_
  refine ⟨_, _, _, ho, T.c_Book, T.n_Book_prices, _, rfl, ?_⟩
  refine ixT (sq_t ha) (by decide) rfl ?_
  obtain ⟨v, hv, e, dx2, am, rfl, he, _⟩ := al.get hp
  refine ixT (sq_t hc) (by omega) (get_toNat hv) ?_
  walk_at "st"
  refine ⟨_, _, _, he, T.c_Price, T.n_Price_size, _, rfl, ?_⟩
  refine ⟨_, ⟨_, _, _, _, rfl, hd, by rw [hl], hcs, rfl⟩, ?_⟩
  exact q
def sp_Puzzle_init (K : PySem.W.Frag) : Sp := fun vs H Q _ => ∃ (x dx : Addr) (bk ti : V) (z : Pz), vs = [.ref x, bk, .int z.n, ti] ∧ H x = some (.ins (He.ga K "Puzzle") dx []) ∧ rBk K z.book H bk ∧ rTu rTi z.ties H ti ∧ PzOk z ∧
  ∀ H', But x H H' → H' x = some (.ins (He.ga K "Puzzle") dx [("book", bk), ("cell_count", .int z.n), ("ties", ti)]) → Q .non H'
abbrev nN_Puzzle_init : List Str := ["self", "book", "cell_count", "ties", "t", "tie"]
theorem sc_Puzzle_init : FnScope nN_Puzzle_init ["self", "book", "cell_count", "ties"] (defScope s_Puzzle_init) := ⟨rfl, rfl, rfl, by decide +kernel, rfl, by decide +kernel, by decide +kernel⟩
theorem ok_Puzzle_init {P : Program} {w : World} {K : PySem.W.Frag} {mg : Str → Option Value} {base : Heap} {fd : FuncData} (T : GG K w mg) (F : FunD K "__init__" "Puzzle.__init__" (defArgs s_Puzzle_init) (defBody s_Puzzle_init) (defScope s_Puzzle_init) [] [] (He.fAd K ("Puzzle", some "__init__")) fd) (c_is_tie : Cal P w K mg base "is_tie" 4 ["book", "cell_count", "value"] (sp_is_tie K)) (c_is_integer : Cal P w K mg base "is_integer" 1 ["value"] (sp_is_integer K)) : CalC P w K mg base "Puzzle" (He.ga K "Puzzle") 5 ["self", "book", "cell_count", "ties"] (sp_Puzzle_init K) := by
  have nd := sc_Puzzle_init.nd
  refine calC_of F T.g_Puzzle T.m_Puzzle (fun _ _ _ _ _ _ us hl => match us, hl with | [_, _, _, _], _ => rfl) (FunD.ok F sc_Puzzle_init (fun vs H Q E h => ?_) (fun cdv A outer s H vs Q E hr h => ?_))
  · obtain ⟨x, dx, bk, _, z, rfl, hx, hbk, ⟨a, us, rfl, ha, al⟩, hz, q⟩ := h
    rfl
  obtain ⟨x, dx, bk, _, z, rfl, hx, hbk, ⟨a, us, rfl, ha, al⟩, hz, q⟩ := h
  have hu := hu_of hr
  refine ⟨_, PSs.nox (pss_cons (ps_if (pt_not (pt_val (pe_bI T.f_isinstance call_isi (pa_cons (pv 1) (pa_cons (pe_gR T.g_Book) pa_nil))))) (pss_one ps_never) pss_nil) (pss_cons (ps_if (PW.pt (pw_or (pt_not (pt_val (pe_cal c_is_integer hr (pa_cons (pv 2) pa_nil)))) (pw_or1 (pt_cmpR op_lt (pv 2) pe_int (nomark _))))) (pss_one ps_never) pss_nil) (pss_cons (ps_if (pt_not (pt_val (pe_bI T.f_isinstance call_isiT (pa_cons (pv 3) (pa_cons (pe_tup (pa_cons (pe_ty T.f_list bt_list) (pa_cons (pe_ty T.f_tuple bt_tuple) pa_nil))) pa_nil))))) (pss_one ps_never) pss_nil) (pss_cons (ps_for PassesOwn.never rfl (pi_enumT (by rfl) T.f_enumerate (pa_cons (pv 3) pa_nil)) (pg_tupK (n := 2) (K := K) rfl rfl (pgs_cons (pg_name (i := 4) nd rfl (Or.inl rfl)) (pgs_cons (pg_name (i := 5) nd rfl (Or.inl rfl)) pgs_nil))) (pss_one (ps_if (pt_not (pt_val (pe_cal c_is_tie hr (pa_cons (pv 1) (pa_cons (pv 2) (pa_cons (pv 5) pa_nil)))))) (pss_one ps_never) pss_nil))) (pss_cons (ps_fld (pv 0) (pv 1) rfl) (pss_cons (ps_fld (pv 0) (pv 2) rfl) (pss_one (ps_fld (pv 0) (pe_b_tuple T.f_tuple call_tuple_of (pa_cons (pv 3) pa_nil)) rfl)))))))), ?_⟩
  have hbk' := hbk
  obtain ⟨o, dx2, pr, pl, rfl, ho, h3, h4⟩ := hbk
  walk_at "st"
  refine isi_own T.s_Book ho ?_
  walk_at "st"
  refine ⟨_, ⟨_, rfl, rfl⟩, ?_⟩
  walk_at "st"
  rw [if_neg (by omega)]
  refine ⟨by decide, fun p hp => ?_⟩
  have e0 := Ex.new (o := .tup [.ty "list", .ty "tuple"]) hp
  refine isi_lt upd_same (.inr (e0 _ _ ha)) ?_
  walk_at "st"
  refine ⟨⟨_, sq_t (e0 _ _ ha)⟩, ?_⟩
  refine for_gen (G := fun H' => Ex H H') (wk_enuT (f := rTi) (xs := z.ties) fun H' g => ⟨us, sq_t (g _ _ ha), al.up g⟩) (fun i σ' H' => Ex H H' ∧ ∃ x4 x5, σ' = [some (.ref x), some (.ref o), some (.int z.n), some (.ref a), x4, x5]) ⟨e0, _, _, rfl⟩ (fun _ _ _ _ h => h.1) ?_ ?_
  · rintro i e v σ' H1 H2 hi ⟨e1, x4, x5, rfl⟩ e2 ⟨t, y1, y2, rfl, ht, h1, h2⟩
    cases h1
    have hi2 : e.2 ∈ z.ties := List.mem_of_getElem? (enu_at hi).2
    walk_at "st"
    refine ⟨_, sq_t ht, rfl, ?_⟩
    walk_at "st"
    refine ⟨_, ⟨_, _, z.book, z.n, e.2, rfl, Mo.up (e1.tr e2) hbk', hz.1, h2, hz.2.2.2 _ hi2, rfl⟩, ?_⟩
    walk_at "st"
    exact e1.tr e2
  · rintro σ' H' ⟨e1, x4, x5, rfl⟩
    walk_at "st"
    have hx1 := e1 _ _ hx
    refine ⟨_, _, _, hx1, T.c_Puzzle, T.n_Puzzle_book, by decide, ?_⟩
    refine ⟨_, _, _, upd_same, T.c_Puzzle, T.n_Puzzle_cell_count, by show 1 < 1000; decide, ?_⟩
    have na : a ≠ x := ne_of ha hx (fun z => nomatch z)
    refine ⟨_, .inr ⟨sq_t (by rw [upd_ne na, upd_ne na]; exact e1 _ _ ha), ?_⟩⟩
    refine ⟨_, _, _, upd_same, T.c_Puzzle, T.n_Puzzle_ties, by show 2 < 1000; decide, ?_⟩
    exact q _ (((e1.but.tr But.mut).tr But.mut).tr But.mut) upd_same
/-- Puzzle(..) -/
theorem mk_Puzzle {K : PySem.W.Frag} {H : Hp} {Q : VK} {E : XK} {bk ti : V} {z : Pz} (h1 : rBk K z.book H bk) (h2 : rTu rTi z.ties H ti) (hz : PzOk z) (k : ∀ v H', Ex H H' → rPz K z H' v → Q v H') :
    ∀ x dx, H x = none → H dx = none → dx ≠ x → sp_Puzzle_init K [.ref x, bk, .int z.n, ti] (upd (upd H dx (.own x)) x (.ins (He.ga K "Puzzle") dx [])) (fun v H2 => v = .non ∧ Q (.ref x) H2) E := fun x dx nx ndx ne => by
  have e0 : Ex H (upd (upd H dx (.own x)) x (.ins (He.ga K "Puzzle") dx [])) := fun b o h => by
    rw [upd_ne (ne_of_none h nx), upd_ne (ne_of_none h ndx)]
    exact h
  exact ⟨x, dx, bk, ti, z, rfl, upd_same, Mo.up e0 h1, Mo.up e0 h2, hz, fun H' hb hx => ⟨rfl, k _ _ (hb.ex e0 nx) ⟨x, dx, bk, ti, rfl, hx, Mo.up (hb.ex e0 nx) h1, Mo.up (hb.ex e0 nx) h2⟩⟩⟩
def sp_is_filling (K : PySem.W.Frag) : Sp := VSp fun vs H v => ∃ (x : V) (a : Addr) (z : Pz) (f : List Int), vs = [x, .ref a] ∧ rPz K z H x ∧ H a = some (.tup (f.map V.int)) ∧ Row f z.n ∧ v = .bl true
abbrev nN_is_filling : List Str := ["puzzle", "value"]
theorem sc_is_filling : FnScope nN_is_filling ["puzzle", "value"] (defScope s_is_filling) := ⟨rfl, rfl, rfl, by decide +kernel, rfl, by decide +kernel, by decide +kernel⟩
theorem ok_is_filling {P : Program} {w : World} {K : PySem.W.Frag} {mg : Str → Option Value} {base : Heap} {fd : FuncData} (T : GG K w mg) (F : FunD K "is_filling" "is_filling" (defArgs s_is_filling) (defBody s_is_filling) (defScope s_is_filling) [] [] (He.fAd K ("is_filling", none)) fd) (c_is_row : Cal P w K mg base "is_row" 3 ["value", "size"] (sp_is_row K)) : Cal P w K mg base "is_filling" 4 ["puzzle", "value"] (sp_is_filling K) := by
  have nd := sc_is_filling.nd
  refine cal_of F T.g_is_filling (fun _ _ _ _ _ _ us hl => match us, hl with | [_, _], _ => rfl) (FunD.ok F sc_is_filling (fun vs H Q E h => ?_) (fun cdv A outer s H vs Q E hr h => ?_))
  · obtain ⟨_, ⟨_, a, z, f, rfl, ⟨o, dx, bk, ti, rfl, ho, h3, h4⟩, ha, hf, rfl⟩, q⟩ := h
    rfl
  obtain ⟨_, ⟨_, a, z, f, rfl, ⟨o, dx, bk, ti, rfl, ho, h3, h4⟩, ha, hf, rfl⟩, q⟩ := h
  have hu := hu_of hr
  refine ⟨_, PSs.nox (pss_one (ps_ret (pe_cal c_is_row hr (pa_cons (pv 1) (pa_cons (pe_fldK (K := K) rfl (pv 0) rfl) pa_nil))))), ?_⟩
  walk_at "st"
  refine ⟨_, _, _, ho, T.c_Puzzle, T.n_Puzzle_cell_count, _, rfl, ?_⟩
  exact ⟨_, ⟨_, _, _, rfl, ha, hf, rfl⟩, q⟩
/-! ### totals -/
def prAt (b : List PrD) (i : Nat) : PrD := b.getD i (0, [])
def tieVal (b : List PrD) (f : List Int) (t : Nat × List Int × Int) : Int := t.2.2 * cost (prAt b t.1) (sel f t.2.1)
def total (z : Pz) (f : List Int) : Int := (z.ties.map (tieVal z.book f)).sum
theorem sum_take {α : Type} (g : α → Int) {xs : List α} {i : Nat} {x : α} (h : xs[i]? = some x) : ((xs.take (i + 1)).map g).sum = ((xs.take i).map g).sum + g x := by
  rw [List.take_add_one, h, List.map_append, List.sum_append]
  show _ + (g x + 0) = _
  rw [Int.add_zero]
theorem prAt_of {b : List PrD} {i : Nat} {p : PrD} (h : b[i]? = some p) : prAt b i = p := by
  unfold prAt
  rw [List.getD_eq_getElem?_getD, h] <;> rfl
def sp_sum_of_ties (K : PySem.W.Frag) : Sp := PSp fun vs H R => ∃ (x : V) (a : Addr) (z : Pz) (f : List Int), vs = [x, .ref a] ∧ rPz K z H x ∧ PzOk z ∧ H a = some (.tup (f.map V.int)) ∧ Row f z.n ∧ R = rI (total z f)
abbrev nN_sum_of_ties : List Str := ["puzzle", "filling", "total", "price", "cells", "times", "amounts", "cell"]
theorem sc_sum_of_ties : FnScope nN_sum_of_ties ["puzzle", "filling"] (defScope s_sum_of_ties) := ⟨rfl, rfl, rfl, by decide +kernel, rfl, by decide +kernel, by decide +kernel⟩
theorem ok_sum_of_ties {P : Program} {w : World} {K : PySem.W.Frag} {mg : Str → Option Value} {base : Heap} {fd : FuncData} (T : GG K w mg) (F : FunD K "sum_of_ties" "sum_of_ties" (defArgs s_sum_of_ties) (defBody s_sum_of_ties) (defScope s_sum_of_ties) [] [] (He.fAd K ("sum_of_ties", none)) fd) (c_number_of : Cal P w K mg base "number_of" 1 ["row"] (sp_number_of K)) : Cal P w K mg base "sum_of_ties" 2 ["puzzle", "filling"] (sp_sum_of_ties K) := by
  have nd := sc_sum_of_ties.nd
  refine cal_of F T.g_sum_of_ties (fun _ _ _ _ _ _ us hl => match us, hl with | [_, _], _ => rfl) (FunD.ok F sc_sum_of_ties (fun vs H Q E h => ?_) (fun cdv A outer s H vs Q E hr h => ?_))
  · obtain ⟨_, ⟨_, a, z, f, rfl, ⟨o, dx, bk, ti, rfl, ho, hbk, ⟨c, us, rfl, hc, al⟩⟩, hz, ha, hf, rfl⟩, q⟩ := h
    rfl
  obtain ⟨_, ⟨_, a, z, f, rfl, ⟨o, dx, bk, ti, rfl, ho, hbk, ⟨c, us, rfl, hc, al⟩⟩, hz, ha, hf, rfl⟩, q⟩ := h
  have hu := hu_of hr
  refine ⟨_, PSs.nox (pss_cons (ps_set (i := 2) nd rfl (Or.inl rfl) pe_int) (pss_cons (ps_for PassesOwn.never rfl (pi_tupK (K := K) rfl (pe_fldK (K := K) rfl (pv 0) rfl)) (pg_tupK (n := 3) (K := K) rfl rfl (pgs_cons (pg_name (i := 3) nd rfl (Or.inl rfl)) (pgs_cons (pg_name (i := 4) nd rfl (Or.inl rfl)) (pgs_cons (pg_name (i := 5) nd rfl (Or.inl rfl)) pgs_nil)))) (pss_cons (ps_set (i := 6) nd rfl (Or.inl rfl) (pe_ix (ix_tupK (K := K) rfl) (pe_ix (ix_tupK (K := K) rfl) (pe_fldK (K := K) rfl (pe_fldK (K := K) rfl (pv 0) rfl) rfl) (pv 3) (fun _ _ => rfl)) pe_int (fun _ _ => rfl))) (pss_one (ps_aug (i := 2) nd rfl (Or.inl rfl) (pe_op op_mul (pv 5) (pe_ix (ix_tupK (K := K) rfl) (pv 6) (pe_cal c_number_of hr (pa_cons (pe_lc (own := [("cell", 7)]) rfl nd (pi_tupK (K := K) rfl (pv 4)) (blkOk_by (own := [("cell", 7)]) (N := nN_sum_of_ties) (sc := defScope s_sum_of_ties) (by decide +kernel)) (fun _ _ _ _ _ => (pg_name (i := 7) nd rfl (Or.inl rfl))) (fun _ _ _ _ _ => pts_nil) (fun _ _ _ _ _ => (pe_ix (ix_tupK (K := K) rfl) (pv 1) (pv 7) (fun _ _ => rfl)))) pa_nil)) (fun _ _ => rfl))) ip_add)))) (pss_one (ps_ret (pv 2))))), ?_⟩
  obtain ⟨ob, dxb, pr, pl, rfl, hob, hpr, ⟨d, ps, rfl, hd, alp⟩⟩ := hbk
  walk_at "st"
  refine ⟨_, _, _, ho, T.c_Puzzle, T.n_Puzzle_ties, _, rfl, c, rfl, ⟨_, sq_t hc⟩, ?_⟩
  refine for_gen (G := fun H' => Ex H H') (wk_tup (f := rTi) (xs := z.ties) fun H' g => ⟨us, sq_t (g _ _ hc), al.up g⟩) (fun i σ' H' => Ex H H' ∧ ∃ x3 x4 x5 x6 x7, σ' = [some (.ref o), some (.ref a), some (.int ((z.ties.take i).map (tieVal z.book f)).sum), x3, x4, x5, x6, x7]) ⟨Ex.rf _, _, _, _, _, _, rfl⟩ (fun _ _ _ _ h => h.1) ?_ ?_
  · rintro i t v σ' H1 H2 hi ⟨e1, x3, x4, x5, x6, x7, rfl⟩ e2 ⟨ta, y1, y2, y3, rfl, hta, h1, h2, h3⟩
    cases h1
    cases h3
    obtain ⟨cb, rfl, hcb⟩ := h2.of
    have e12 := e1.tr e2
    obtain ⟨p, hp, hl, hcs, hti, hti2⟩ := hz.2.2.2 t (List.mem_of_getElem? hi)
    walk_at "st"
    refine ⟨_, sq_t hta, rfl, ?_⟩
    walk_at "st"
    refine ⟨_, _, _, e12 _ _ ho, T.c_Puzzle, T.n_Puzzle_book, _, rfl, ob, rfl, ?_⟩
    refine ⟨_, _, _, e12 _ _ hob, T.c_Book, T.n_Book_plain, _, rfl, ?_⟩
    obtain ⟨pv, hpv, pa, py1, py2, rfl, hpa, hq1, hq2⟩ := alp.get hp
    obtain ⟨am, rfl, ham⟩ := hq2.of
    refine ixT (sq_t (e12 _ _ hd)) (by omega) (get_toNat hpv) ?_
    refine ixT (sq_t (e12 _ _ hpa)) (by decide) rfl ?_
    walk_at "st"
    refine ⟨⟨_, sq_t hcb⟩, ?_⟩
    refine lc_mapN (f := rI) (xs := t.2.1) (rb := rI) (F := fun c => f.getD c.toNat 0) (wk_tup fun H' g => ⟨_, sq_t (g _ _ hcb), ints_al _⟩) (by rw [hl]; have := hz.1.2.2 p (List.mem_of_getElem? hp); have := this.2.1; omega) (fun _ => rfl) ?_ ?_
    · rintro j y v H3 K1 hj e3 hv hK
      cases hv
      walk_at "st"
      obtain ⟨c0, c1⟩ := hcs y (List.mem_of_getElem? hj)
      have hyl : y.toNat < f.length := by rw [hf.1]; omega
      refine ixT (sq_t ((e12.tr e3) _ _ ha)) c0 (map_at (List.getElem?_eq_getElem hyl)) ?_
      refine hK _ _ (Ex.rf _) ?_
      rw [List.getD_eq_getElem?_getD, List.getElem?_eq_getElem hyl] <;> rfl
    · rintro l H3 hl3 e3 hr3
      obtain ⟨_, ws, hzz, hl4, al4⟩ := hr3
      cases hzz
      rw [al_ints al4] at hl4
      have hrow : Row (sel f t.2.1) p.1 := sel_row hf hcs hl
      refine ⟨_, ⟨l, sel f t.2.1, rfl, .inl hl4, rfl⟩, ?_⟩
      refine ixT (sq_t ((e12.tr e3) _ _ ham)) (num_bound _ _ hrow).1 (map_at (cost_get (hz.1.2.2 p (List.mem_of_getElem? hp)) hrow)) ?_
      walk_at "st"
      rw [sum_take _ hi]
      refine ⟨.inl ⟨by omega, by omega⟩, e12.tr e3, ?_⟩
      unfold tieVal
      rw [prAt_of hp]
  · rintro σ' H' ⟨e1, x3, x4, x5, x6, x7, rfl⟩
    rw [List.take_length]
    walk_at "st"
    exact q _ _ e1 rfl
def sp_total_of (K : PySem.W.Frag) : Sp := sp_sum_of_ties K
abbrev nN_total_of : List Str := ["puzzle", "filling"]
theorem sc_total_of : FnScope nN_total_of ["puzzle", "filling"] (defScope s_total_of) := ⟨rfl, rfl, rfl, by decide +kernel, rfl, by decide +kernel, by decide +kernel⟩
theorem ok_total_of {P : Program} {w : World} {K : PySem.W.Frag} {mg : Str → Option Value} {base : Heap} {fd : FuncData} (T : GG K w mg) (F : FunD K "total_of" "total_of" (defArgs s_total_of) (defBody s_total_of) (defScope s_total_of) [] [] (He.fAd K ("total_of", none)) fd) (c_sum_of_ties : Cal P w K mg base "sum_of_ties" 2 ["puzzle", "filling"] (sp_sum_of_ties K)) (c_is_filling : Cal P w K mg base "is_filling" 4 ["puzzle", "value"] (sp_is_filling K)) : Cal P w K mg base "total_of" 5 ["puzzle", "filling"] (sp_total_of K) := by
  have nd := sc_total_of.nd
  refine cal_of F T.g_total_of (fun _ _ _ _ _ _ us hl => match us, hl with | [_, _], _ => rfl) (FunD.ok F sc_total_of (fun vs H Q E h => ?_) (fun cdv A outer s H vs Q E hr h => ?_))
  · obtain ⟨_, ⟨x, a, z, f, rfl, hx, hz, ha, hf, rfl⟩, q⟩ := h
    rfl
  obtain ⟨_, ⟨x, a, z, f, rfl, hx, hz, ha, hf, rfl⟩, q⟩ := h
  have hu := hu_of hr
  refine ⟨_, PSs.nox (pss_cons (ps_if (pt_not (pt_val (pe_cal c_is_filling hr (pa_cons (pv 0) (pa_cons (pv 1) pa_nil))))) (pss_one ps_never) pss_nil) (pss_one (ps_ret (pe_cal c_sum_of_ties hr (pa_cons (pv 0) (pa_cons (pv 1) pa_nil)))))), ?_⟩
  walk_at "st"
  refine ⟨_, ⟨x, a, z, f, rfl, hx, ha, hf, rfl⟩, ?_⟩
  walk_at "st"
  exact ⟨_, ⟨x, a, z, f, rfl, hx, hz, ha, hf, rfl⟩, q⟩
/-! ### starts -/
abbrev rPp (p : Int × Int) : Rp := r2 (rI p.1) (rI p.2)
theorem isi_ft {K : PySem.W.Frag} {H : Hp} {Q : VK} {a : Addr} {o : Obj} {xs : List V} (h : H a = some (.frz o (.tup xs))) (q : Q (.bl true) H) : rIsi K [.ref a, .ty "tuple"] H Q := ty_i "tuple" "tuple" true (by decide +kernel) (.fTuple h) q
def sp_is_start (K : PySem.W.Frag) : Sp := VSp fun vs H v => ∃ (x y : V) (z : Pz) (st : List (Int × Int)), vs = [x, y] ∧ rPz K z H x ∧ rFr rPp st H y ∧ StOk z.n st ∧ v = .bl true
abbrev nN_is_start : List Str := ["puzzle", "value", "least", "pair"]
theorem sc_is_start : FnScope nN_is_start ["puzzle", "value"] (defScope s_is_start) := ⟨rfl, rfl, rfl, by decide +kernel, rfl, by decide +kernel, by decide +kernel⟩
theorem ok_is_start {P : Program} {w : World} {K : PySem.W.Frag} {mg : Str → Option Value} {base : Heap} {fd : FuncData} (T : GG K w mg) (F : FunD K "is_start" "is_start" (defArgs s_is_start) (defBody s_is_start) (defScope s_is_start) [] [] (He.fAd K ("is_start", none)) fd) (c_is_below_prices : Cal P w K mg base "is_below_prices" 2 ["value", "limit"] (sp_is_below_prices K)) : Cal P w K mg base "is_start" 3 ["puzzle", "value"] (sp_is_start K) := by
  have nd := sc_is_start.nd
  refine cal_of F T.g_is_start (fun _ _ _ _ _ _ us hl => match us, hl with | [_, _], _ => rfl) (FunD.ok F sc_is_start (fun vs H Q E h => ?_) (fun cdv A outer s H vs Q E hr h => ?_))
  · obtain ⟨_, ⟨_, _, z, st, rfl, ⟨o, dx, bk, ti, rfl, ho, h3, h4⟩, ⟨a, ob, us, rfl, ha, hd, al⟩, hst, rfl⟩, q⟩ := h
    rfl
  obtain ⟨_, ⟨_, _, z, st, rfl, ⟨o, dx, bk, ti, rfl, ho, h3, h4⟩, ⟨a, ob, us, rfl, ha, hd, al⟩, hst, rfl⟩, q⟩ := h
  have hu := hu_of hr
  refine ⟨_, PSs.nox (pss_cons (ps_if (pt_not (pt_val (pe_bI T.f_isinstance call_isi (pa_cons (pv 1) (pa_cons (pe_ty T.f_tuple bt_tuple) pa_nil))))) (pss_one (ps_ret pe_bl)) pss_nil) (pss_cons (ps_set (i := 2) nd rfl (Or.inl rfl) pe_int) (pss_cons (ps_for PassesOwn.never rfl (pi_tupK (K := K) rfl (pv 1)) (pg_name (i := 3) nd rfl (Or.inl rfl)) (pss_cons (ps_if (PW.pt (pw_or (pt_not (pt_val (pe_bI T.f_isinstance call_isi (pa_cons (pv 3) (pa_cons (pe_ty T.f_tuple bt_tuple) pa_nil))))) (pw_or (pt_cmpR op_ne (pe_b_len T.f_len call_len_seq (pa_cons (pv 3) pa_nil)) pe_int (nomark _)) (pw_or1 (pt_not (pt_val (pe_cal c_is_below_prices hr (pa_cons (pe_ix (ix_tupK (K := K) rfl) (pv 3) pe_int (fun _ _ => rfl)) (pa_cons (pe_fldK (K := K) rfl (pv 0) rfl) pa_nil))))))))) (pss_one (ps_ret pe_bl)) pss_nil) (pss_cons (ps_if (PW.pt (pw_or (pt_cmpR op_lt (pe_ix (ix_tupK (K := K) rfl) (pv 3) pe_int (fun _ _ => rfl)) (pv 2) (nomark _)) (pw_or1 (pt_not (pt_val (pe_cal c_is_below_prices hr (pa_cons (pe_ix (ix_tupK (K := K) rfl) (pv 3) pe_int (fun _ _ => rfl)) (pa_cons pe_int pa_nil)))))))) (pss_one (ps_ret pe_bl)) pss_nil) (pss_one (ps_set (i := 2) nd rfl (Or.inl rfl) (pe_op op_add (pe_ix (ix_tupK (K := K) rfl) (pv 3) pe_int (fun _ _ => rfl)) pe_int)))))) (pss_one (ps_ret pe_bl))))), ?_⟩
  walk_at "st"
  refine isi_ft ha ?_
  walk_at "st"
  refine ⟨⟨_, sq_f ha⟩, ?_⟩
  refine for_s (G := fun H' => H' = H) (ws_tup (f := rPp) (xs := st) fun H' g => ⟨us, by rw [g]; exact sq_f ha, by rw [g]; exact al⟩) (fun i σ' H' => H' = H ∧ ∃ (l : Int) (x : Option V), (∀ j p, i ≤ j → st[j]? = some p → l ≤ p.1) ∧ σ' = [some (.ref o), some (.ref a), some (.int l), x]) ⟨rfl, 0, _, fun j p _ hp => (hst.2 p (List.mem_of_getElem? hp)).1, rfl⟩ (fun _ _ _ _ h => h.1) ?_ ?_
  · rintro i p v σ' H1 hi ⟨rfl, l, x, hl, rfl⟩ ⟨t, y1, y2, rfl, ht, h1, h2⟩
    cases h1
    cases h2
    obtain ⟨p0, p1, p2⟩ := hst.2 p (List.mem_of_getElem? hi)
    walk_at "st"
    refine isi_tt ht ?_
    walk_at "st"
    refine ⟨_, .inr (sq_t ht), rfl, ?_⟩
    rw [show decide (((([V.int p.1, V.int p.2] : List V).length : Nat) : Int) = 2) = true from rfl]
    walk_at "st"
    refine ixT (sq_t ht) (by decide) rfl ?_
    refine ⟨_, _, _, ho, T.c_Puzzle, T.n_Puzzle_cell_count, _, rfl, ?_⟩
    refine ⟨_, ⟨_, _, rfl, rfl⟩, ?_⟩
    rw [decide_eq_true (⟨p0, p1⟩ : 0 ≤ p.1 ∧ p.1 < (z.n : Int))]
    walk_at "st"
    refine ixT (sq_t ht) (by decide) rfl ?_
    walk_at "st"
    rw [if_neg (by have := hl i p (Nat.le_refl _) hi; omega)]
    refine ixT (sq_t ht) (by decide) rfl ?_
    refine ⟨_, ⟨_, _, rfl, rfl⟩, ?_⟩
    rw [decide_eq_true (show 0 ≤ p.2 ∧ p.2 < 2 by omega)]
    walk_at "st"
    refine ixT (sq_t ht) (by decide) rfl ?_
    walk_at "st"
    refine ⟨_, fun j p' hj hp' => ?_, rfl⟩
    have := List.pairwise_iff_getElem.mp hst.1 i j (List.getElem?_eq_some_iff.mp hi).1 (List.getElem?_eq_some_iff.mp hp').1 (by omega)
    rw [(List.getElem?_eq_some_iff.mp hi).2, (List.getElem?_eq_some_iff.mp hp').2] at this
    omega
  · rintro σ' H' ⟨rfl, l, x, hl, rfl⟩
    walk_at "st"
    exact q
theorem two_pow8 {n : Nat} (h : n ≤ 8) : 2 ^ n ≤ 256 := Nat.pow_le_pow_right (n := 2) (by decide) h
/-- what a start leaves to a cell -/
def valsC (st : List (Int × Int)) (c : Int) : List Int := match gt st c with | some v => [v] | none => [0, 1]
def rowsW (st : List (Int × Int)) : Nat → List (List Int)
  | 0 => [[]]
  | i + 1 => (rowsW st i).flatMap fun r => (valsC st i).map fun v => r ++ [v]
theorem rowsW_len (st : List (Int × Int)) (n : Nat) : (rowsW st n).length ≤ 2 ^ n := by
  induction n with
  | zero => exact Nat.le_refl _
  | succ n ih =>
    have h : ∀ l : List (List Int), (l.flatMap fun r => (valsC st n).map fun v => r ++ [v]).length ≤ l.length * 2 := fun l => by
      induction l with
      | nil => exact Nat.zero_le _
      | cons x l ih =>
        rw [List.flatMap_cons, List.length_append, List.length_cons, Nat.succ_mul]
        have : ((valsC st n).map fun v => x ++ [v]).length ≤ 2 := by
          rw [List.length_map]
          unfold valsC
          cases gt st (n : Int) <;> simp
        omega
    rw [Nat.pow_succ]
    exact Nat.le_trans (h _) (Nat.mul_le_mul_right _ ih)
theorem st_nodup {n : Nat} {st : List (Int × Int)} (h : StOk n st) : (st.map (·.1)).Nodup := List.pairwise_map.mpr (h.1.imp fun h => Int.ne_of_lt h)
theorem paired_st {K : PySem.W.Frag} {H : Hp} : ∀ {us : List V} {st : List (Int × Int)}, Al (fun w x => rPp x H w) us st → ∃ ps : List Addr, us = ps.map V.ref ∧ Paired (fun p kv => SqT K H p [kV kv.1, kv.2]) ps (dk st)
  | _, _, .nil => ⟨[], rfl, .nil⟩
  | _, _, .cons ⟨t, x, y, e, ht, hx, hy⟩ r => by
    obtain ⟨ps, e1, p1⟩ := paired_st (K := K) r
    cases hx
    cases hy
    exact ⟨t :: ps, by rw [List.map_cons, ← e1, e], .cons (sq_t ht) p1⟩
theorem rowsW_row {n : Nat} {st : List (Int × Int)} (h : StOk n st) : ∀ i : Nat, i ≤ n → ∀ r ∈ rowsW st i, Row r i := by
  intro i
  induction i with
  | zero =>
    intro _ r hr
    have : r = [] := by simpa [rowsW] using hr
    subst this
    exact ⟨rfl, fun v hv => nomatch hv⟩
  | succ i ih =>
    intro hi r hr
    obtain ⟨q, hq, hr2⟩ := List.mem_flatMap.mp (show r ∈ (rowsW st i).flatMap fun r => (valsC st i).map fun v => r ++ [v] from hr)
    obtain ⟨v, hv, rfl⟩ := List.mem_map.mp hr2
    have hq2 := ih (by omega) q hq
    refine ⟨by rw [List.length_append, hq2.1] <;> rfl, fun u hu => ?_⟩
    rcases List.mem_append.mp hu with hu | hu
    · exact hq2.2 u hu
    · have e : u = v := by simpa using hu
      subst e
      unfold valsC at hv
      cases hg : gt st (i : Int) with
      | none =>
        rw [hg] at hv
        simpa using hv
      | some w =>
        rw [hg] at hv
        have e : u = w := by simpa using hv
        subst e
        exact (h.2 _ (gt_mem hg)).2.2
/-- dict(start) -/
theorem dict_st {K : PySem.W.Frag} {H : Hp} {Q : VK} {a : Addr} {o : Obj} {us : List V} {n : Nat} {st : List (Int × Int)} (ha : H a = some (.frz o (.tup us))) (hd : o.dict = none) (al : Al (fun w x => rPp x H w) us st) (hst : StOk n st)
    (q : ∀ p, H p = none → Q (.ref p) (upd H p (.dK (dk st)))) : ∃ (a' : Addr) (ps : List Addr) (kvs : List (Key × V)), ([V.ref a] : List V) = [.ref a'] ∧ (∃ o, H a' = some (.frz o (.tup (ps.map V.ref))) ∧ o.dict = none) ∧ Paired (fun p kv => SqT K H p [kV kv.1, kv.2]) ps kvs ∧ ∀ p, H p = none → Q (.ref p) (upd H p (.dK (mergeK [] kvs))) := by
  obtain ⟨ps, e1, p1⟩ := paired_st (K := K) al
  refine ⟨a, ps, dk st, rfl, ⟨o, by rw [← e1]; exact ha, hd⟩, p1, fun p hp => ?_⟩
  have e := mergeK_dk st [] (by simpa using st_nodup hst)
  rw [List.nil_append] at e
  have e' : mergeK [] (dk st) = dk st := e
  rw [e']
  exact q p hp
def sp_rows_with (K : PySem.W.Frag) : Sp := fun vs H Q _ => ∃ (x y : V) (z : Pz) (st : List (Int × Int)), vs = [x, y] ∧ rPz K z H x ∧ rFr rPp st H y ∧ StOk z.n st ∧ z.n ≤ 8 ∧ ∀ p H', H p = none → Ex H H' → rLi rIs (rowsW st z.n) H' (.ref p) → Q (.ref p) H'
abbrev nN_rows_with : List Str := ["puzzle", "start", "fixed", "rows", "cell", "values", "row", "value"]
theorem sc_rows_with : FnScope nN_rows_with ["puzzle", "start"] (defScope s_rows_with) := ⟨rfl, rfl, rfl, by decide +kernel, rfl, by decide +kernel, by decide +kernel⟩
theorem ok_rows_with {P : Program} {w : World} {K : PySem.W.Frag} {mg : Str → Option Value} {base : Heap} {fd : FuncData} (T : GG K w mg) (F : FunD K "rows_with" "rows_with" (defArgs s_rows_with) (defBody s_rows_with) (defScope s_rows_with) [] [] (He.fAd K ("rows_with", none)) fd)  : Cal P w K mg base "rows_with" 1 ["puzzle", "start"] (sp_rows_with K) := by
  have nd := sc_rows_with.nd
  refine cal_of F T.g_rows_with (fun _ _ _ _ _ _ us hl => match us, hl with | [_, _], _ => rfl) (FunD.ok F sc_rows_with (fun vs H Q E h => ?_) (fun cdv A outer s H vs Q E hr h => ?_))
  · obtain ⟨_, _, z, st, rfl, ⟨o, dx, bk, ti, rfl, ho, h3, h4⟩, ⟨a, ob, us, rfl, ha, hd, al⟩, hst, hn, q⟩ := h
    rfl
  obtain ⟨_, _, z, st, rfl, ⟨o, dx, bk, ti, rfl, ho, h3, h4⟩, ⟨a, ob, us, rfl, ha, hd, al⟩, hst, hn, q⟩ := h
  have hu := hu_of hr
  refine ⟨_, PSs.nox (pss_cons (ps_set (i := 2) nd rfl (Or.inl rfl) (pe_b_dict T.f_dict (call_dictT rfl) (pa_cons (pv 1) pa_nil))) (pss_cons (ps_set (i := 3) nd rfl (Or.inl rfl) (pe_lst (pa_cons (pe_tup pa_nil) pa_nil))) (pss_cons (ps_for PassesOwn.never rfl (pi_range1 rfl T.f_range (pa_cons (pe_fldK (K := K) rfl (pv 0) rfl) pa_nil)) (pg_name (i := 4) nd rfl (Or.inl rfl)) (pss_cons (ps_set (i := 5) nd rfl (Or.inr rfl) (pe_ifExp (pt_cmp (pc_din hu (pv 4) (pv 2)) rfl) (pe_tup (pa_cons (pe_dget hu (pv 2) (pv 4) (fun _ _ => rfl)) pa_nil)) (pe_tup (pa_cons pe_int (pa_cons pe_int pa_nil))))) (pss_one (ps_setLc2 (i := 3) (own := [("row", 6), ("value", 7)]) (vs1 := [7]) rfl nd rfl rfl (sw_true rfl rfl rfl (by decide +kernel)) (pi_listK (K := K) rfl (pv 3)) (blkOk_by (own := [("row", 6), ("value", 7)]) (N := nN_rows_with) (sc := defScope s_rows_with) (by decide +kernel)) (by decide) (fun _ _ _ _ _ => (pg_name (i := 6) nd rfl (Or.inl rfl))) (fun _ _ _ _ _ => pts_nil) (fun _ _ _ _ _ => (pi_tupK (K := K) rfl (pv 5))) (fun _ _ _ _ _ => (pg_name (i := 7) nd rfl (Or.inl rfl))) (fun _ _ _ _ _ => pts_nil) (fun _ _ _ _ _ => (pe_op (op_catAK (K := K) rfl) (pv 6) (pe_tup (pa_cons (pv 7) pa_nil)))))))) (pss_one (ps_ret (pv 3)))))), ?_⟩
  walk_at "st"
  obtain ⟨ps, e1, p1⟩ := paired_st (K := K) al
  refine ⟨ps, ⟨ob, by rw [← e1]; exact ha, hd⟩, dk st, p1, fun p hp => ?_⟩
  have em : mergeK [] (dk st) = dk st := mergeK_dk st [] (by simpa using st_nodup hst)
  rw [em]
  refine ⟨by decide, fun p1 hp1 => ⟨by decide, fun p2 hp2 => ?_⟩⟩
  have f1 : Ex H (upd H p (.dK (dk st))) := Ex.new hp
  have f2 := f1.tr (Ex.new (o := .tup []) hp1)
  have f3 := f2.tr (Ex.new (o := .lst [.ref p1]) hp2)
  have hfd : (upd (upd (upd H p (.dK (dk st))) p1 (.tup [])) p2 (.lst [.ref p1])) p = some (.dK (dk st)) := Ex.new hp2 _ _ (Ex.new hp1 _ _ upd_same)
  have hp1' : (upd (upd (upd H p (.dK (dk st))) p1 (.tup [])) p2 (.lst [.ref p1])) p1 = some (.tup []) := Ex.new hp2 _ _ upd_same
  refine ⟨_, _, _, f3 _ _ ho, T.c_Puzzle, T.n_Puzzle_cell_count, _, rfl, _, rfl, by omega, by omega, ?_⟩
  rw [Int.toNat_natCast]
  refine for_s (ws_rng0 (n := z.n) (G := fun _ => True)) (fun i σ' H' => ∃ b x4 x5 x6 x7, σ' = [some (.ref o), some (.ref a), some (.ref p), some (.ref b), x4, x5, x6, x7] ∧ H b = none ∧ Ex H H' ∧ H' p = some (.dK (dk st)) ∧ rLi rIs (rowsW st i) H' (.ref b)) ?_ (fun _ _ _ _ _ => True.intro) ?_ ?_
  · exact ⟨p2, _, _, _, _, rfl, f2.back hp2, f3, hfd, rLi.mk upd_same (.cons (rIs.mk (ns := []) hp1') .nil)⟩
  · rintro i x v σ' H1 hx ⟨b, x4, x5, x6, x7, rfl, nb, e, hf, hr⟩ hv
    cases hv
    obtain ⟨_, vs, hz, hb, al2⟩ := hr
    cases hz
    have hi : i < z.n := by
      have q := (List.getElem?_eq_some_iff.mp hx).1
      rw [List.length_range] at q
      exact q
    have hxi : x = i := by
      rw [List.getElem?_range hi] at hx
      exact (Option.some.inj hx).symm
    subst hxi
    walk_at "st"
    refine ⟨_, dget_k hf x, ?_⟩
    -- the comprehension, from any values
    have key : ∀ (vl : Addr) (us : List Int) (H2 : Hp), Ex H1 H2 → H2 vl = some (.tup (us.map V.int)) → valsC st x = us → (∃ xs, SqL K H2 b xs) ∧ Lc2L (Itl K b) (gName 6) tYes (iTup K (tVar 5)) (gName 7) tYes (tOp (rCatA K) (tVar 6) (tTup (tCons (tVar 7) tNil))) [6, 7] [7]
        [some (.ref o), some (.ref a), some (.ref p), some (.ref b), some (.int x), some (.ref vl), x6, x7] H2 fun y H3 => ∃ b', y = V.ref b' ∧ H b' = none ∧ Ex H H3 ∧ H3 p = some (.dK (dk st)) ∧ rLi rIs (rowsW st (x + 1)) H3 (.ref b') := by
      intro vl us H2 e2 hvl hus
      have hrl := rowsW_len st (x + 1)
      have hrl2 : (rowsW st (x + 1)).length ≤ 256 := Nat.le_trans hrl (two_pow8 (by omega))
      have hrx := rowsW_row hst x (by omega)
      refine ⟨⟨_, sq_l (e2 _ _ hb)⟩, ?_⟩
      refine lc2_gen (f := rIs) (xs := rowsW st x) (rb := rIs) (f1 := fun _ => rI) (ys := fun _ => valsC st x) (F := fun r v => r ++ [v]) (wk_lst fun H' g => ⟨vs, sq_l (g _ _ (e2 _ _ hb)), al2.up (e2.tr g)⟩) (Nat.le_trans hrl2 (by decide)) ?_ ?_ (fun _ _ _ _ _ h q => h _ _ q) (fun _ _ _ _ _ h q => h _ _ q)
      · intro j r v H3 Qi D acc hD hj e3 hr3 hq
        obtain ⟨c, rfl, hc⟩ := hr3.of
        have hrl8 : r.length ≤ 8 := by
          have := (hrx r (List.mem_of_getElem? hj)).1
          omega
        walk_at "st"
        refine ⟨⟨_, sq_t (e3 _ _ hvl)⟩, ?_⟩
        refine hq _ _ _ (Ex.rf _) ⟨wk_tup fun H' g => ⟨_, sq_t (g.2 _ _ True.intro (e3 _ _ hvl)), by rw [hus]; exact ints_al us⟩, ?_⟩
        intro k y u H5 K1 hk _ z5 hu hK
        cases hu
        walk_at "st"
        refine ⟨by decide, fun t2 ht2 => ?_⟩
        have hb5 : H5 c = some (.tup (r.map V.int)) := z5 _ _ True.intro hc
        refine rcat (Ex.new ht2 _ _ hb5) upd_same (by rw [ints_len]; simp; omega) fun p H' e5 hp => hK _ _ ((Ex.new ht2).tr e5) ?_
        rw [show [V.int y] = [y].map V.int from rfl, ints_app] at hp
        exact rIs.mk hp
      · intro p' H3 hp' e3 hr3
        exact ⟨p', rfl, (e.tr e2).back hp', (e.tr e2).tr e3, e3 _ _ (e2 _ _ hf), hr3⟩
    cases hg : gt st (x : Int) with
    | none =>
      walk_at "st"
      exact ⟨by decide, fun t ht => key t [0, 1] _ (Ex.new ht) upd_same (by unfold valsC; rw [hg])⟩
    | some v =>
      walk_at "st"
      have hd1 := dget_k hf x
      rw [hg] at hd1
      exact ⟨_, hd1, by decide, fun t ht => key t [v] _ (Ex.new ht) upd_same (by unfold valsC; rw [hg])⟩
  · rintro σ' H' ⟨b, x4, x5, x6, x7, rfl, nb, e, hf, hr⟩
    rw [List.length_range] at hr
    walk_at "st"
    exact q _ _ nb e hr
theorem zip_filter {α : Type} (g : α → Int) (m : Int) (xs : List α) : (xs.zip (xs.map g)).filterMap (fun p => if decide (p.2 = m) then some p.1 else none) = xs.filter fun x => decide (g x = m) := by
  induction xs with
  | nil => rfl
  | cons x r ih =>
    rw [List.map_cons, List.zip_cons_cons, List.filterMap_cons, List.filter_cons, ih]
    by_cases h : g x = m <;> simp [h]
theorem rowsW_pos (st : List (Int × Int)) (n : Nat) : 0 < (rowsW st n).length := by
  induction n with
  | zero => exact Nat.zero_lt_one
  | succ n ih =>
    show 0 < ((rowsW st n).flatMap fun r => (valsC st n).map fun v => r ++ [v]).length
    cases h : rowsW st n with
    | nil =>
      rw [h] at ih
      exact absurd ih (by decide)
    | cons x r =>
      rw [List.flatMap_cons, List.length_append, List.length_map]
      have : 0 < (valsC st n).length := by
        unfold valsC
        cases gt st (n : Int) <;> simp
      omega
/-- the rows that are least -/
def cheap (z : Pz) (st : List (Int × Int)) (m : Int) : List (List Int) := (rowsW st z.n).filter fun r => decide (total z r = m)
def rCh (z : Pz) (st : List (Int × Int)) : Rp := fun H v => ∃ m, m ∈ (rowsW st z.n).map (total z) ∧ (∀ y ∈ (rowsW st z.n).map (total z), m ≤ y) ∧ rTu rIs (cheap z st m) H v
def sp_all_cheapest (K : PySem.W.Frag) : Sp := PSp fun vs H R => ∃ (x y : V) (z : Pz) (st : List (Int × Int)), vs = [x, y] ∧ rPz K z H x ∧ PzOk z ∧ rFr rPp st H y ∧ StOk z.n st ∧ R = rCh z st
abbrev nN_all_cheapest : List Str := ["puzzle", "start", "rows", "row", "totals", "least", "total"]
theorem sc_all_cheapest : FnScope nN_all_cheapest ["puzzle", "start"] (defScope s_all_cheapest) := ⟨rfl, rfl, rfl, by decide +kernel, rfl, by decide +kernel, by decide +kernel⟩
theorem ok_all_cheapest {P : Program} {w : World} {K : PySem.W.Frag} {mg : Str → Option Value} {base : Heap} {fd : FuncData} {dv0 : Addr} (T : GG K w mg) (F : FunD K "all_cheapest" "all_cheapest" (defArgs s_all_cheapest) (defBody s_all_cheapest) (defScope s_all_cheapest) [.ref dv0] [] (He.fAd K ("all_cheapest", none)) fd) (c_sum_of_ties : Cal P w K mg base "sum_of_ties" 2 ["puzzle", "filling"] (sp_sum_of_ties K)) (c_rows_with : Cal P w K mg base "rows_with" 1 ["puzzle", "start"] (sp_rows_with K)) (c_is_start : Cal P w K mg base "is_start" 3 ["puzzle", "value"] (sp_is_start K)) : Cal P w K mg base "all_cheapest" 4 ["puzzle", "start"] (sp_all_cheapest K) := by
  have nd := sc_all_cheapest.nd
  refine cal_ofD F T.g_all_cheapest (fun _ _ _ _ _ _ _ us its hl hi => match us, hl, its, hi with | [_, _], _, [_], _ => ⟨_, rfl, rfl⟩) (FunD.ok F sc_all_cheapest (fun vs H Q E h => ?_) (fun cdv A outer s H vs Q E hr h => ?_))
  · obtain ⟨_, ⟨x, y, z, st, rfl, hx, hz, hy, hst, rfl⟩, q⟩ := h
    rfl
  obtain ⟨_, ⟨x, y, z, st, rfl, hx, hz, hy, hst, rfl⟩, q⟩ := h
  have hu := hu_of hr
  refine ⟨_, PSs.nox (pss_cons (ps_if (pt_not (pt_val (pe_cal c_is_start hr (pa_cons (pv 0) (pa_cons (pv 1) pa_nil))))) (pss_one ps_never) pss_nil) (pss_cons (ps_set (i := 2) nd rfl (Or.inl rfl) (pe_cal c_rows_with hr (pa_cons (pv 0) (pa_cons (pv 1) pa_nil)))) (pss_cons (ps_setLc (i := 4) (own := [("row", 3)]) rfl nd rfl rfl (sw_true rfl rfl rfl (by decide +kernel)) (pi_listK (K := K) rfl (pv 2)) (blkOk_by (own := [("row", 3)]) (N := nN_all_cheapest) (sc := defScope s_all_cheapest) (by decide +kernel)) (fun _ _ _ _ _ => (pg_name (i := 3) nd rfl (Or.inl rfl))) (fun _ _ _ _ _ => pts_nil) (fun _ _ _ _ _ => (pe_cal c_sum_of_ties hr (pa_cons (pv 0) (pa_cons (pv 3) pa_nil))))) (pss_cons (ps_set (i := 5) nd rfl (Or.inr rfl) (pe_b_min T.f_min (cr_min rfl) (pa_cons (pv 4) pa_nil))) (pss_one (ps_ret (pe_b_tuple T.f_tuple call_tuple_of (pa_cons (pe_lc (own := [("row", 3), ("total", 6)]) rfl nd (pi_zipX (by rfl) T.f_zip (pa_cons (pv 2) (pa_cons (pv 4) pa_nil))) (blkOk_by (own := [("row", 3), ("total", 6)]) (N := nN_all_cheapest) (sc := defScope s_all_cheapest) (by decide +kernel)) (fun _ _ _ _ _ => (pg_tupK (n := 2) (K := K) rfl rfl (pgs_cons (pg_name (i := 3) nd rfl (Or.inl rfl)) (pgs_cons (pg_name (i := 6) nd rfl (Or.inl rfl)) pgs_nil)))) (fun _ _ _ _ _ => pts_one (pt_cmpR op_eq (pv 6) (pv 5) (nomark _))) (fun _ _ _ _ _ => (pv 3))) pa_nil)))))))), ?_⟩
  walk_at "st"
  refine ⟨_, ⟨x, y, z, st, rfl, hx, hy, hst, rfl⟩, ?_⟩
  walk_at "st"
  refine ⟨x, y, z, st, rfl, hx, hy, hst, hz.2.1, fun p H1 hp e1 hr1 => ?_⟩
  obtain ⟨_, vs, hzz, hp1, al1⟩ := hr1
  cases hzz
  walk_at "st"
  have hrl : (rowsW st z.n).length ≤ 256 := Nat.le_trans (rowsW_len st z.n) (two_pow8 hz.2.1)
  refine ⟨⟨_, sq_l hp1⟩, ?_⟩
  refine lc_mapN (f := rIs) (xs := rowsW st z.n) (rb := rI) (F := total z) (wk_lst fun H' g => ⟨vs, sq_l (g _ _ hp1), al1.up g⟩) (by omega) (fun _ => rfl) ?_ ?_
  · rintro i r v H2 K1 hi e2 hv hK
    obtain ⟨b, rfl, hb⟩ := hv.of
    walk_at "st"
    exact ⟨_, ⟨x, b, z, r, rfl, Mo.up (e1.tr e2) hx, hz, hb, rowsW_row hst _ (Nat.le_refl _) r (List.mem_of_getElem? hi), rfl⟩, fun v H3 e3 hv => hK _ _ e3 hv⟩
  · intro c H2 hc e2 hr2
    obtain ⟨_, us, hzz, hc2, al2⟩ := hr2
    cases hzz
    rw [al_ints al2] at hc2
    walk_at "st"
    have hlen0 : 0 < ((rowsW st z.n).map (total z)).length := by
      rw [List.length_map]
      exact rowsW_pos st z.n
    refine ⟨c, _, rfl, sq_l hc2, hlen0, fun m hm1 hm2 => ?_⟩
    refine .inl ⟨⟨_, sq_l (e2 _ _ hp1)⟩, ⟨_, sq_l hc2⟩, ?_⟩
    refine lc_gen (f := fun p : List Int × Int => r2 (rIs p.1) (rI p.2)) (xs := (rowsW st z.n).zip ((rowsW st z.n).map (total z))) (rb := rIs) (F := fun p => if decide (p.2 = m) then some p.1 else none) (wk_zipL (f := rIs) (g := rI) fun H' g => ⟨vs, _, sq_l (g _ _ (e2 _ _ hp1)), sq_l (g _ _ hc2), al1.up (e2.tr g), ints_al _⟩) (by rw [List.length_zip]; omega) ?_ ?_
    · rintro i p v H3 K1 K2 hi e3 ⟨t, y1, y2, rfl, ht, h1, h2⟩ k1 k2
      cases h2
      walk_at "st"
      refine ⟨_, sq_t ht, rfl, ?_⟩
      walk_at "st"
      by_cases hpm : p.2 = m
      · rw [if_pos (by simpa using hpm)] at k1
        simp only [hpm, decide_true, if_true, scal]
        exact ⟨True.intro, k1 _ _ _ rfl (Ex.rf _) h1⟩
      · rw [if_neg (by simpa using hpm)] at k2
        simp only [hpm, decide_false, if_false, scal]
        exact ⟨True.intro, k2 _ rfl (Ex.rf _)⟩
    · intro p' H3 hp3 e3 hr3
      rw [zip_filter] at hr3
      exact tup_done hr3 ((e1.tr e2).tr e3) fun v H4 e4 h4 => q _ _ e4 ⟨m, hm1, hm2, h4⟩
def sp_kind_for (K : PySem.W.Frag) : Sp := PSp fun vs H R => ∃ (x y : V) (z : Pz) (st : List (Int × Int)), vs = [x, y] ∧ rPz K z H x ∧ PzOk z ∧ rFr rPp st H y ∧ 0 < st.length ∧ R = match kindsL z.book with | [] => rN | w :: _ => rS w
abbrev nN_kind_for : List Str := ["puzzle", "start", "found"]
theorem sc_kind_for : FnScope nN_kind_for ["puzzle", "start"] (defScope s_kind_for) := ⟨rfl, rfl, rfl, by decide +kernel, rfl, by decide +kernel, by decide +kernel⟩
theorem ok_kind_for {P : Program} {w : World} {K : PySem.W.Frag} {mg : Str → Option Value} {base : Heap} {fd : FuncData} (T : GG K w mg) (F : FunD K "kind_for" "kind_for" (defArgs s_kind_for) (defBody s_kind_for) (defScope s_kind_for) [] [] (He.fAd K ("kind_for", none)) fd) (c_side : CalK P w K mg base "side" 10 ["book", "fixed"] ["fixed"] (sp_side K)) : Cal P w K mg base "kind_for" 11 ["puzzle", "start"] (sp_kind_for K) := by
  have nd := sc_kind_for.nd
  refine cal_of F T.g_kind_for (fun _ _ _ _ _ _ us hl => match us, hl with | [_, _], _ => rfl) (FunD.ok F sc_kind_for (fun vs H Q E h => ?_) (fun cdv A outer s H vs Q E hr h => ?_))
  · obtain ⟨_, ⟨_, _, z, st, rfl, ⟨o, dx, bk, ti, rfl, ho, h3, h4⟩, hz, ⟨a, ob, us, rfl, ha, hd, al⟩, h0, rfl⟩, q⟩ := h
    rfl
  obtain ⟨_, ⟨_, _, z, st, rfl, ⟨o, dx, bk, ti, rfl, ho, h3, h4⟩, hz, ⟨a, ob, us, rfl, ha, hd, al⟩, h0, rfl⟩, q⟩ := h
  have hu := hu_of hr
  refine ⟨_, PSs.nox (pss_cons (ps_set (i := 2) nd rfl (Or.inl rfl) (pe_calK c_side hr (pa_cons (pe_fldK (K := K) rfl (pv 0) rfl) pa_nil) (pk_cons (pe_cmpR op_gt (pe_b_len T.f_len call_len_seq (pa_cons (pv 1) pa_nil)) pe_int (nomark _)) pk_nil))) (pss_one (ps_ret (pe_ifExp (pt_cmpR op_eq (pe_ix (ix_tupK (K := K) rfl) (pv 2) pe_int (fun _ _ => rfl)) pe_str (nomark _)) (pe_ix (ix_tupK (K := K) rfl) (pe_ix (ix_tupK (K := K) rfl) (pv 2) pe_int (fun _ _ => rfl)) pe_int (fun _ _ => rfl)) pe_non)))), ?_⟩
  walk_at "st"
  refine ⟨_, _, _, ho, T.c_Puzzle, T.n_Puzzle_book, _, rfl, _, .inr (sq_f ha), ?_⟩
  rw [al.len, decide_eq_true (show (0 : Int) < (st.length : Int) by omega)]
  refine ⟨_, ⟨_, z.book, rfl, h3, hz.1, rfl⟩, fun v H1 e hv => ?_⟩
  cases hk : kindsL z.book with
  | nil =>
    rw [hk] at hv q
    obtain ⟨t, ws, rfl, ht, alw⟩ := hv
    cases alw with
    | cons hw0 t0 =>
      cases t0
      cases hw0
      refine ixT (sq_t ht) (by decide) rfl ?_
      refine ⟨by decide, ?_⟩
      rw [if_neg (by decide)]
      exact q _ _ e rfl
  | cons w r =>
    rw [hk] at hv q
    obtain ⟨t, y1, y2, rfl, ht, hw0, ⟨t2, ws, rfl, ht2, alw⟩⟩ := hv
    cases hw0
    cases alw with
    | cons hw1 _ =>
      cases hw1
      refine ixT (sq_t ht) (by decide) rfl ?_
      refine ⟨by decide, ?_⟩
      rw [if_pos rfl]
      refine ixT (sq_t ht) (by decide) rfl ?_
      refine ixT (sq_t ht2) (by decide) rfl ?_
      exact q _ _ e rfl
end Cut
end

section
set_option maxHeartbeats 4000000
namespace Cut
open PySem PySem.Spec L2
local macro_rules | `(tactic| walk_at "rd") => `(tactic| dsimp only [tFor_eq, tLc_eq, tLc2_eq, iTup, iList, iRng1, iRng2, iSeq, RZ.iZipA, iEnum, iZipX, iEnumT, iKeys, tTupZip, tLenSet, gFld_app, tLock, tLockE, tCallN, tTup0F, tAsg, tVar, tC, tCmp, tIsN, tNotN, tB, tAnd, tOr, tNot, tAndV, tOrV, tNotV, tIf, tNext, tSeq, tBreak, tCont, tDrop, tRet, tRetN, tIfS, gName_app, gTup_app, gCons_app, gNil_app, gSub_app, tAsg, tAug, tCall, tMeth, tMake, tCons, tNil, tTup, tLst, tCB, tOp, tUn, tTest, tChain, tFld, sFld, sFldAug, tBM, tBM0, tSl, tPart, tNoPart, tDGet, tDIn, tDNotIn, sDPut, sDAug, tDNewK, tDNewT, tDGet2, L2.rI, L2.rI0, L2.rU, rEq, rNe, t2I, ipI, cxOf, Cx.nox, Cx.wish])
local macro_rules | `(tactic| walk_at "ex") => `(tactic| simp only [L2.start, List.map_cons, List.map_nil, List.length_cons, List.length_nil, List.replicate_succ, List.replicate_zero, List.cons_append, List.nil_append, List.append_nil, List.getElem?_cons_zero, List.getElem?_cons_succ, List.set_cons_zero, List.set_cons_succ, L2.wipe, Option.some.injEq, V.int.injEq, V.bl.injEq, V.ref.injEq, V.str.injEq, V.ty.injEq, List.cons.injEq, exists_eq_left', exists_eq_left, exists_eq_right, and_true, true_and, and_self, exists_and_left, exists_and_right, exists_const, and_assoc, exists_eq, exists_eq', eq_self_iff_true, if_true, if_false, Bool.false_eq_true, decide_eq_true_eq, ne_eq, reduceCtorEq, not_false_eq_true, Nat.reduceAdd, Nat.reduceSub, Bool.not_true, Bool.not_false, Option.map_some, Option.map_none, Option.isSome_some, Option.isSome_none, Option.getD_some, Option.getD_none])
local macro_rules | `(tactic| walk_at "st") => `(tactic| ((try walk_at "rd"); (try walk_at "ex")))

abbrev rTe (e : List Int × Int) : Rp := r2 (rIs e.1) (rI e.2)
abbrev scW : Scope := { kind := .function, names := [(Str.ofString ".0", .local), (Str.ofString "letters", .local), (Str.ofString "number", .local), (Str.ofString "all", .globalImplicit), (Str.ofString "row", .cell)], isGenerator := false, isCoroutine := false }
abbrev sc_in (_ : Stmt) : Scope := scW
theorem hu0 {A : Around} {k : Nat} (hr : Room k A) : A.units < cLine := Nat.lt_of_le_of_lt (Nat.le_add_right _ _) (hu_of hr)
/-! ### worth -/
def sp_worth_at (K : PySem.W.Frag) : Sp := PSp fun vs H R => ∃ (x : V) (a : Addr) (t : Told) (r : List Int), vs = [x, .ref a] ∧ rTu rTe t H x ∧ t.length ≤ 1000 ∧ H a = some (.tup (r.map V.int)) ∧ (∀ e ∈ t, e.1.length ≤ 1000 ∧ ∀ l ∈ e.1, 0 ≤ l ∧ l < (r.length : Int)) ∧ R = rI (WW t (on r))
theorem all_map_id {α : Type} (g : α → Bool) (xs : List α) : (xs.map g).all id = xs.all g := by
  rw [List.all_map] <;> rfl
theorem WW_filter (t : Told) (s : Int → Bool) : (t.filterMap fun e => if e.1.all s then some e.2 else none).sum = WW t s := by
  induction t with
  | nil => rfl
  | cons e t ih =>
    rw [WW_cons, List.filterMap_cons]
    unfold WT
    by_cases h : e.1.all s = true
    · simp only [h, if_true, List.sum_cons, ih]
    · rw [if_neg h, if_neg h, Int.zero_add]
      exact ih
abbrev nN_worth_at : List Str := ["told", "row", "letters", "number", "letter"]
theorem sc_worth_at : FnScope nN_worth_at ["told", "row"] (defScope s_worth_at) := ⟨rfl, rfl, rfl, by decide +kernel, rfl, by decide +kernel, by decide +kernel⟩
theorem ok_worth_at {P : Program} {w : World} {K : PySem.W.Frag} {mg : Str → Option Value} {base : Heap} {fd : FuncData} (T : GG K w mg) (F : FunD K "worth_at" "worth_at" (defArgs s_worth_at) (defBody s_worth_at) (defScope s_worth_at) [] [] (He.fAd K ("worth_at", none)) fd)  : Cal P w K mg base "worth_at" 1 ["told", "row"] (sp_worth_at K) := by
  have nd := sc_worth_at.nd
  refine cal_of F T.g_worth_at (fun _ _ _ _ _ _ us hl => match us, hl with | [_, _], _ => rfl) (FunD.ok F sc_worth_at (fun vs H Q E h => ?_) (fun cdv A outer s H vs Q E hr h => ?_))
  · obtain ⟨_, ⟨_, a, t, r, rfl, ⟨b, us, rfl, hb, al⟩, hl, ha, hr', rfl⟩, q⟩ := h
    rfl
  obtain ⟨_, ⟨_, a, t, r, rfl, ⟨b, us, rfl, hb, al⟩, hl, ha, hr', rfl⟩, q⟩ := h
  have hu := hu_of hr
  refine ⟨_, PSs.nox (pss_one (ps_ret (pe_b_sum T.f_sum (cr_sum rfl) (pa_cons (pe_lc (own := [("letters", 2), ("number", 3)]) rfl nd (pi_tupK (K := K) rfl (pv 0)) (blkOk_by (own := [("letters", 2), ("number", 3)]) (N := nN_worth_at) (sc := defScope s_worth_at) (by decide +kernel)) (fun _ _ _ _ _ => (pg_tupK (n := 2) (K := K) rfl rfl (pgs_cons (pg_name (i := 2) nd rfl (Or.inl rfl)) (pgs_cons (pg_name (i := 3) nd rfl (Or.inl rfl)) pgs_nil)))) (fun _ _ _ _ _ => pts_one (pt_val (pe_b_all T.f_all (cr_allK (K := K) rfl rfl) (pa_cons (pe_lc (own := [("letter", 4)]) rfl nd (pi_tupK (K := K) rfl (pv 2)) (blkOk_by (own := [("letter", 4)]) (N := nN_worth_at) (sc := sc_in s_worth_at) (by decide +kernel)) (fun _ _ _ _ _ => (pg_name (i := 4) nd rfl (Or.inl rfl))) (fun _ _ _ _ _ => pts_nil) (fun _ _ _ _ _ => (pe_cmpR op_eq (pe_ix (ix_tupK (K := K) rfl) (pv 1) (pv 4) (fun _ _ => rfl)) pe_int (nomark _)))) pa_nil)))) (fun _ _ _ _ _ => (pv 3))) pa_nil)))), ?_⟩
  walk_at "st"
  refine ⟨⟨_, sq_t hb⟩, ?_⟩
  refine lc_gen (f := rTe) (xs := t) (rb := rI) (F := fun e => if e.1.all (on r) then some e.2 else none) (wk_tup fun H' g => ⟨us, sq_t (g _ _ hb), al.up g⟩) (by omega) ?_ ?_
  · rintro i e v H1 K1 K2 hi e1 ⟨c, y1, y2, rfl, hc, h1, h2⟩ k1 k2
    obtain ⟨d, rfl, hd⟩ := h1.of
    cases h2
    have he := hr' e (List.mem_of_getElem? hi)
    walk_at "st"
    refine ⟨_, sq_t hc, rfl, ?_⟩
    walk_at "st"
    refine ⟨⟨_, sq_t hd⟩, ?_⟩
    refine lc_mapN (f := rI) (xs := e.1) (rb := rB) (F := on r) (wk_tup fun H' g => ⟨_, sq_t (g _ _ hd), ints_al _⟩) (by omega) (fun _ => rfl) ?_ ?_
    · rintro j l v H2 K3 hj e2 hv hK
      cases hv
      obtain ⟨l0, l1⟩ := he.2 l (List.mem_of_getElem? hj)
      have hll : l.toNat < r.length := by omega
      walk_at "st"
      refine ixT (sq_t ((e1.tr e2) _ _ ha)) l0 (map_at (List.getElem?_eq_getElem hll)) ?_
      walk_at "st"
      refine ⟨rfl, hK _ _ (Ex.rf _) ?_⟩
      unfold on
      rw [List.getD_eq_getElem?_getD, List.getElem?_eq_getElem hll] <;> rfl
    · rintro p H2 hp e2 hr2
      obtain ⟨_, ws, hz, hp2, al2⟩ := hr2
      cases hz
      rw [al_bools al2] at hp2
      walk_at "st"
      refine ⟨p, _, rfl, sq_l hp2, ?_⟩
      rw [all_map_id]
      walk_at "st"
      by_cases ho : e.1.all (on r) = true
      · rw [if_pos ho]
        rw [if_pos ho] at k1
        exact k1 _ _ _ rfl e2 rfl
      · rw [if_neg ho]
        rw [if_neg ho] at k2
        exact k2 _ rfl e2
  · rintro p H2 hp e2 hr2
    obtain ⟨_, ws, hz, hp2, al2⟩ := hr2
    cases hz
    rw [al_ints al2] at hp2
    walk_at "st"
    refine ⟨p, _, rfl, sq_l hp2, ?_⟩
    rw [WW_filter]
    exact q _ _ e2 rfl
def rTold (P : Told → Prop) : Rp := fun H v => ∃ t, P t ∧ rTu rTe t H v
instance (P : Told → Prop) : Im (rTold P) := ⟨fun e ⟨t, h, k⟩ => ⟨t, h, Im.upT e k⟩⟩
def sp_sum_told (K : PySem.W.Frag) : Sp := PSp fun vs H R => ∃ (a : Addr) (d : Told), vs = [.ref a] ∧ H a = some (.dT (dt d)) ∧ (d.map (·.1)).Nodup ∧ d.length ≤ 10000 ∧ R = rTold (ToldOf d)
abbrev nN_sum_told : List Str := ["numbers", "letters"]
theorem sc_sum_told : FnScope nN_sum_told ["numbers"] (defScope s_sum_told) := ⟨rfl, rfl, rfl, by decide +kernel, rfl, by decide +kernel, by decide +kernel⟩
theorem ok_sum_told {P : Program} {w : World} {K : PySem.W.Frag} {mg : Str → Option Value} {base : Heap} {fd : FuncData} (T : GG K w mg) (F : FunD K "sum_told" "sum_told" (defArgs s_sum_told) (defBody s_sum_told) (defScope s_sum_told) [] [] (He.fAd K ("sum_told", none)) fd)  : Cal P w K mg base "sum_told" 1 ["numbers"] (sp_sum_told K) := by
  have nd := sc_sum_told.nd
  refine cal_of F T.g_sum_told (fun _ _ _ _ _ _ us hl => match us, hl with | [_], _ => rfl) (FunD.ok F sc_sum_told (fun vs H Q E h => ?_) (fun cdv A outer s H vs Q E hr h => ?_))
  · obtain ⟨_, ⟨a, d, rfl, ha, nod, hl, rfl⟩, q⟩ := h
    rfl
  obtain ⟨_, ⟨a, d, rfl, ha, nod, hl, rfl⟩, q⟩ := h
  have hu := hu_of hr
  refine ⟨_, PSs.nox (pss_one (ps_ret (pe_b_tuple T.f_tuple call_tuple_of (pa_cons (pe_lc (own := [("letters", 1)]) rfl nd (pi_listK (K := K) rfl (pe_b_sorted T.f_sorted (cr_sortedKT rfl (h16 hr)) (pa_cons (pv 0) pa_nil))) (blkOk_by (own := [("letters", 1)]) (N := nN_sum_told) (sc := defScope s_sum_told) (by decide +kernel)) (fun _ _ _ _ _ => (pg_name (i := 1) nd rfl (Or.inl rfl))) (fun _ _ _ _ _ => pts_one (pt_cmpR op_ne (pe_dget hu (pv 0) (pv 1) (fun _ _ => rfl)) pe_int (nomark _))) (fun _ _ _ _ _ => (pe_tup (pa_cons (pv 1) (pa_cons (pe_dget hu (pv 0) (pv 1) (fun _ _ => rfl)) pa_nil))))) pa_nil)))), ?_⟩
  walk_at "st"
  refine ⟨a, dt d, d.map (·.1), rfl, ha, by unfold dt; rw [List.map_map, List.map_map] <;> rfl, fun bs p hp1 hp2 hbs hp => ?_⟩
  walk_at "st"
  have e0 := Ex.new (o := .lst (bs.map fun b => V.ref b.1)) hp
  have hbl : bs.length ≤ 10000 := by
    have := hp1.length_eq
    rw [List.length_map, List.length_map] at this
    omega
  have al0 : Al (fun w x => rIs x H w) (bs.map fun b => V.ref b.1) (bs.map (·.2)) := by
    clear hp1 hp2 e0 hbl
    induction bs with
    | nil => exact .nil
    | cons b r ih => exact .cons (rIs.mk (hbs b (.head _))) (ih fun c hc => hbs c (.tail _ hc))
  refine ⟨⟨_, sq_l upd_same⟩, ?_⟩
  refine lc_gen (f := rIs) (xs := bs.map (·.2)) (rb := rTe) (F := pick d) (wk_lst fun H' g => ⟨_, sq_l (g _ _ upd_same), al0.up (e0.tr g)⟩) (by rw [List.length_map]; omega) ?_ ?_
  · rintro i k v H1 K1 K2 hi e1 hv k1 k2
    obtain ⟨b, rfl, hb⟩ := hv.of
    have hk : k ∈ d.map (·.1) := hp1.mem_iff.mp (List.mem_of_getElem? hi)
    obtain ⟨n, hn⟩ := Option.isSome_iff_exists.mp ((key_mem d k).mp hk)
    have dg : DGet H1 a (.ref b) (some (.int n)) := by
      have := dget_t ((e0.tr e1) _ _ ha) hb
      rw [hn] at this
      exact this
    walk_at "st"
    refine ⟨_, dg, ?_⟩
    refine ⟨rfl, ?_⟩
    by_cases hn0 : n = 0
    · have hpk : pick d k = none := if_pos (by rw [hn]; exact hn0)
      rw [if_neg (by simp [hn0])]
      exact k2 _ hpk (Ex.rf _)
    · have hpk : pick d k = some (k, n) := by
        unfold pick
        rw [hn]
        exact if_neg hn0
      rw [if_pos (by simp [hn0])]
      refine ⟨_, dg, by decide, fun t ht => k1 _ _ _ hpk (Ex.new ht) ⟨_, _, _, rfl, upd_same, rIs.mk (Ex.new ht _ _ hb), rfl⟩⟩
  · rintro c H2 hc e2 hr2
    exact tup_done hr2 (e0.tr e2) fun v H3 e3 h3 => q _ _ e3 ⟨_, ⟨_, hp1, hp2, rfl⟩, h3⟩
def sp_sum_of_price (K : PySem.W.Frag) : Sp := PSp fun vs H R => ∃ (x : V) (p : PrD), vs = [x] ∧ rPr K p H x ∧ PrOk p ∧ R = rTold (PrTold p)
abbrev nN_sum_of_price : List Str := ["price", "numbers", "row", "place", "value", "places"]
theorem sc_sum_of_price : FnScope nN_sum_of_price ["price"] (defScope s_sum_of_price) := ⟨rfl, rfl, rfl, by decide +kernel, rfl, by decide +kernel, by decide +kernel⟩
theorem ok_sum_of_price {P : Program} {w : World} {K : PySem.W.Frag} {mg : Str → Option Value} {base : Heap} {fd : FuncData} (T : GG K w mg) (F : FunD K "sum_of_price" "sum_of_price" (defArgs s_sum_of_price) (defBody s_sum_of_price) (defScope s_sum_of_price) [] [] (He.fAd K ("sum_of_price", none)) fd) (c_sum_told : Cal P w K mg base "sum_told" 1 ["numbers"] (sp_sum_told K)) (c_rows_of : Cal P w K mg base "rows_of" 1 ["size"] (sp_rows_of K)) (m_cost : CalM P w K mg base (He.ga K "Price") "cost" 4 ["self", "row"] (sp_Price_cost K)) (c_worth_at : Cal P w K mg base "worth_at" 1 ["told", "row"] (sp_worth_at K)) : Cal P w K mg base "sum_of_price" 5 ["price"] (sp_sum_of_price K) := by
  have nd := sc_sum_of_price.nd
  refine cal_of F T.g_sum_of_price (fun _ _ _ _ _ _ us hl => match us, hl with | [_], _ => rfl) (FunD.ok F sc_sum_of_price (fun vs H Q E h => ?_) (fun cdv A outer s H vs Q E hr h => ?_))
  · obtain ⟨_, ⟨x, p, rfl, hx, hp, rfl⟩, q⟩ := h
    rfl
  obtain ⟨_, ⟨x, p, rfl, hx, hp, rfl⟩, q⟩ := h
  have hu := hu_of hr
  refine ⟨_, PSs.nox (pss_cons (ps_set (i := 1) nd rfl (Or.inl rfl) pe_dnewT) (pss_cons (ps_for PassesOwn.never rfl (pi_listK (K := K) rfl (pe_cal c_rows_of hr (pa_cons (pe_fldK (K := K) rfl (pv 0) rfl) pa_nil))) (pg_name (i := 2) nd rfl (Or.inl rfl)) (pss_cons (ps_set (i := 5) nd rfl (Or.inl rfl) (pe_b_tuple T.f_tuple call_tuple_of (pa_cons (pe_lc (own := [("place", 3), ("value", 4)]) rfl nd (pi_enumT (by rfl) T.f_enumerate (pa_cons (pv 2) pa_nil)) (blkOk_by (own := [("place", 3), ("value", 4)]) (N := nN_sum_of_price) (sc := defScope s_sum_of_price) (by decide +kernel)) (fun _ _ _ _ _ => (pg_tupK (n := 2) (K := K) rfl rfl (pgs_cons (pg_name (i := 3) nd rfl (Or.inl rfl)) (pgs_cons (pg_name (i := 4) nd rfl (Or.inl rfl)) pgs_nil)))) (fun _ _ _ _ _ => pts_one (pt_cmpR op_eq (pv 4) pe_int (nomark _))) (fun _ _ _ _ _ => (pv 3))) pa_nil))) (pss_one (ps_dput hu (pv 1) (pv 5) (pe_op op_sub (pe_calM m_cost hr (pv 0) (pa_cons (pv 2) pa_nil)) (pe_cal c_worth_at hr (pa_cons (pe_cal c_sum_told hr (pa_cons (pv 1) pa_nil)) (pa_cons (pv 2) pa_nil)))) rfl)))) (pss_one (ps_ret (pe_cal c_sum_told hr (pa_cons (pv 1) pa_nil)))))), ?_⟩
  have hx' := hx
  obtain ⟨o, dx, am, rfl, ho, hm⟩ := hx
  walk_at "st"
  intro D hD
  have e0 := Ex.new (o := .dT []) hD
  refine ⟨_, _, _, e0 _ _ ho, T.c_Price, T.n_Price_size, _, rfl, ?_⟩
  refine ⟨p.1, rfl, by have := hp.2.1; omega, fun l H1 hl e1 hrows => ?_⟩
  obtain ⟨_, vs, hz, hl1, al⟩ := hrows
  cases hz
  have hD1 : H1 D = some (.dT (dt [])) := e1 _ _ upd_same
  have nl : l ≠ D := ne_of hl1 hD1 (fun z => nomatch z)
  have hrl : (rows p.1).length ≤ 8 := by
    rw [rows_len]
    exact Nat.pow_le_pow_right (n := 2) (by decide) hp.2.1
  walk_at "st"
  refine ⟨⟨_, sq_l hl1⟩, ?_⟩
  have zx : ∀ {H'}, But D H1 H' → Zx H1 H' := fun b => b.zx hD1 (fun q => q)
  have ex0 : ∀ {H'}, But D H1 H' → Ex H H' := fun b => But.ex (e0.tr e1) b hD
  refine for_gen (G := fun H' => But D H1 H') (wk_lst (f := rIs) (xs := rows p.1) fun H' g => ⟨vs, sq_l (g _ _ nl hl1), al.upZ (zx g)⟩) (fun i σ' H' => But D H1 H' ∧ ∃ d x2 x3 x4 x5, σ' = [some (.ref o), some (.ref D), x2, x3, x4, x5] ∧ H' D = some (.dT (dt d)) ∧ SpInv p i d) ⟨But.rf _ _, [], _, _, _, _, rfl, hD1, rfl, fun j r hj _ => absurd hj (Nat.not_lt_zero _)⟩ (fun _ _ _ _ h => h.1) ?_ ?_
  · rintro i r v σ' H2 H3 hi ⟨b2, d, x2, x3, x4, x5, rfl, hd, inv⟩ e3 hv
    obtain ⟨c, rfl, hc⟩ := hv.of
    have hrow := rows_at hi
    have hr3 : r.length ≤ 3 := by rw [hrow.1]; exact hp.2.1
    walk_at "st"
    refine ⟨⟨_, sq_t hc⟩, ?_⟩
    refine lc_gen (f := fun p : Nat × Int => r2 (rI (p.1 : Int)) (rI p.2)) (xs := enu r) (rb := rI) (F := fun p => if decide (p.2 = 1) then some (p.1 : Int) else none) (wk_enuT (f := rI) fun H' g => ⟨_, sq_t (g _ _ hc), ints_al r⟩) (by rw [enu_len]; omega) ?_ ?_
    · rintro j e v H4 K1 K2 hj e4 ⟨t, y1, y2, rfl, ht, h1, h2⟩ k1 k2
      cases h1
      cases h2
      walk_at "st"
      refine ⟨_, sq_t ht, rfl, ?_⟩
      walk_at "st"
      refine ⟨rfl, ?_⟩
      by_cases c1 : e.2 = 1
      · rw [if_pos (by simpa using c1)] at k1
        rw [if_pos c1]
        exact k1 _ _ _ rfl (Ex.rf _) rfl
      · rw [if_neg (by simpa using c1)] at k2
        rw [if_neg c1]
        exact k2 _ rfl (Ex.rf _)
    · rintro c2 H4 hc4 e4 hr4
      have hr4' : rLi rI (supp r) H4 (.ref c2) := hr4
      obtain ⟨_, us, hzz, hc2, al4⟩ := hr4'
      cases hzz
      rw [al_ints al4] at hc2
      refine ⟨c2, rfl, _, .inl ⟨sq_l hc2, fun t ht0 => ?_⟩⟩
      have e5 : Ex H3 (upd H4 t (.tup ((supp r).map V.int))) := e4.tr (Ex.new ht0)
      have ht : (upd H4 t (.tup ((supp r).map V.int))) t = some (.tup ((supp r).map V.int)) := upd_same
      generalize upd H4 t (.tup ((supp r).map V.int)) = H5 at e5 ht ⊢
      have e35 : Ex H2 H5 := e3.tr e5
      have b5 : But D H1 H5 := b2.tr e35.but
      have hd5 := e35 _ _ hd
      refine ⟨_, _, (ex0 b5) _ _ ho, rfl, ?_⟩
      refine ⟨_, ⟨_, _, p, r, rfl, Mo.up (ex0 b5) hx', hp, e5 _ _ hc, hrow, rfl⟩, ?_⟩
      refine ⟨_, ⟨D, d, rfl, hd5, sp_nodup inv, by have := sp_len inv; rw [← rows_len] at this; omega, rfl⟩, fun v H6 e6 h6 => ?_⟩
      obtain ⟨tt, htt, h6⟩ := h6
      refine ⟨_, ⟨_, _, tt, r, rfl, h6, ?_, (e5.tr e6) _ _ hc, fun e he => ?_, rfl⟩, fun v H7 e7 h7 => ?_⟩
      · have h1 := told_len htt
        have h2 := sp_len inv
        rw [← rows_len] at h2
        omega
      · have := sp_mem inv (told_mem htt he).1
        refine ⟨by have := this.2.2; have := hp.2.1; omega, fun l hl => ?_⟩
        have := this.2.1 l hl
        rw [hrow.1]
        exact this
      · cases h7
        walk_at "st"
        have e67 := e6.tr e7
        have hd7 := e67 _ _ hd5
        have ht7 := e67 _ _ ht
        rw [told_WW (sp_nodup inv) htt]
        refine ⟨_, dput_t hd7 ht7 _ (by have := sp_len inv; rw [← rows_len] at this; omega), (b5.tr e67.but).tr But.mut, _, upd_same, ?_⟩
        exact sp_step inv hi
  · rintro σ' H' ⟨b2, d, x2, x3, x4, x5, rfl, hd, inv⟩
    walk_at "st"
    refine ⟨_, ⟨D, d, rfl, hd, sp_nodup inv, by have := sp_len inv; rw [← rows_len] at this; omega, rfl⟩, fun v H6 e6 h6 => ?_⟩
    obtain ⟨tt, htt, h6⟩ := h6
    exact q _ _ ((ex0 b2).tr e6) ⟨tt, sp_told inv htt, h6⟩
/-! ### letters -/
def dB (d : List (Int × Bool)) : List (Key × V) := d.map fun e => (Sum.inl e.1, V.bl e.2)
theorem valV_dB (d : List (Int × Bool)) (k : Int) : valV (dB d) (Sum.inl k) = (gt d k).map V.bl := valV_of (κ' := Key) Sum.inl inl_inj V.bl d k
theorem putK_dB (d : List (Int × Bool)) (k : Int) (v : Bool) : putK (dB d) (Sum.inl k) (.bl v) = dB (pt d k v) := putK_of (κ' := Key) Sum.inl inl_inj V.bl d k v
def rLe (st : List (Int × Int)) (cells places : List Int) : Rp := fun H v => if ∃ l ∈ places, gt st (cells.getD l.toNat 0) = some 0 then v = .non else ∃ ls, LetOf st cells places ls ∧ rIs ls H v
def sp_letters_read (K : PySem.W.Frag) : Sp := PSp fun vs H R => ∃ (a b f : Addr) (st : List (Int × Int)) (places cells : List Int), vs = [.ref a, .ref b, .ref f] ∧ H a = some (.tup (places.map V.int)) ∧ H b = some (.tup (cells.map V.int)) ∧ H f = some (.dK (dk st)) ∧ (∀ l ∈ places, 0 ≤ l ∧ l < (cells.length : Int)) ∧ places.length ≤ 10 ∧ R = rLe st cells places
abbrev nN_letters_read : List Str := ["places", "cells", "fixed", "found", "place", "cell"]
theorem sc_letters_read : FnScope nN_letters_read ["places", "cells", "fixed"] (defScope s_letters_read) := ⟨rfl, rfl, rfl, by decide +kernel, rfl, by decide +kernel, by decide +kernel⟩
theorem ok_letters_read {P : Program} {w : World} {K : PySem.W.Frag} {mg : Str → Option Value} {base : Heap} {fd : FuncData} (T : GG K w mg) (F : FunD K "letters_read" "letters_read" (defArgs s_letters_read) (defBody s_letters_read) (defScope s_letters_read) [] [] (He.fAd K ("letters_read", none)) fd)  : Cal P w K mg base "letters_read" 1 ["places", "cells", "fixed"] (sp_letters_read K) := by
  have nd := sc_letters_read.nd
  refine cal_of F T.g_letters_read (fun _ _ _ _ _ _ us hl => match us, hl with | [_, _, _], _ => rfl) (FunD.ok F sc_letters_read (fun vs H Q E h => ?_) (fun cdv A outer s H vs Q E hr h => ?_))
  · obtain ⟨_, ⟨a, b, f, st, places, cells, rfl, ha, hb, hf, hpl, hl, rfl⟩, q⟩ := h
    rfl
  obtain ⟨_, ⟨a, b, f, st, places, cells, rfl, ha, hb, hf, hpl, hl, rfl⟩, q⟩ := h
  have hu := hu_of hr
  refine ⟨_, PSs.nox (pss_cons (ps_set (i := 3) nd rfl (Or.inl rfl) pe_dnewK) (pss_cons (ps_for PassesOwn.never rfl (pi_tupK (K := K) rfl (pv 0)) (pg_name (i := 4) nd rfl (Or.inl rfl)) (pss_cons (ps_set (i := 5) nd rfl (Or.inl rfl) (pe_ix (ix_tupK (K := K) rfl) (pv 1) (pv 4) (fun _ _ => rfl))) (pss_cons (ps_if (pt_cmpR op_eq (pe_dget2 hu (pv 2) (pv 5) pe_int ⟨rfl, rfl, rfl, rfl⟩) pe_int (nomark _)) (pss_one (ps_ret pe_non)) pss_nil) (pss_one (ps_if (pt_cmp (pc_dnotin hu (pv 5) (pv 2)) rfl) (pss_one (ps_dput hu (pv 3) (pv 5) pe_bl rfl)) pss_nil))))) (pss_one (ps_ret (pe_b_tuple T.f_tuple call_tuple_of (pa_cons (pe_b_sorted T.f_sorted (call_sortedDI rfl) (pa_cons (pv 3) pa_nil)) pa_nil)))))), ?_⟩
  walk_at "st"
  intro D hD
  have e0 := Ex.new (o := .dK []) hD
  refine ⟨⟨_, sq_t (e0 _ _ ha)⟩, ?_⟩
  refine for_s (G := fun H' => Ex H H') (ws_tup (f := rI) (xs := places) fun H' g => ⟨_, sq_t (g _ _ ha), ints_al _⟩) (fun i σ' H' => Ex H H' ∧ ∃ d x4 x5, σ' = [some (.ref a), some (.ref b), some (.ref f), some (.ref D), x4, x5] ∧ H' D = some (.dK (dB d)) ∧ d.length ≤ i ∧ (d.map (·.1)).Nodup ∧ (∀ c, c ∈ d.map (·.1) ↔ gt st c = none ∧ ∃ l ∈ places.take i, cells.getD l.toNat 0 = c) ∧ ∀ l ∈ places.take i, gt st (cells.getD l.toNat 0) ≠ some 0) ⟨e0, [], _, _, rfl, upd_same, Nat.le_refl _, .nil, by simp, by simp⟩ (fun _ _ _ _ h => h.1) ?_ ?_
  · rintro i l v σ' H1 hi ⟨e1, d, x4, x5, rfl, hd, hdl, nod, hk, hz⟩ hv
    cases hv
    have hlm := List.mem_of_getElem? hi
    obtain ⟨l0, l1⟩ := hpl l hlm
    have hll : l.toNat < cells.length := by omega
    have hce : cells.getD l.toNat 0 = cells[l.toNat] := by
      rw [List.getD_eq_getElem?_getD, List.getElem?_eq_getElem hll] <;> rfl
    walk_at "st"
    refine ixT (sq_t (e1 _ _ hb)) l0 (map_at (List.getElem?_eq_getElem hll)) ?_
    walk_at "st"
    have hf1 := e1 _ _ hf
    rw [← hce]
    generalize hcc : cells.getD l.toNat 0 = c
    have htk : ∀ l', l' ∈ places.take (i + 1) ↔ l' ∈ places.take i ∨ l' = l := fun l' => by
      rw [List.take_add_one, hi, List.mem_append]
      simp
    refine ⟨.inl ⟨_, .inl hf1⟩, _, dget_k hf1 c, ?_⟩
    cases hg : gt st c with
    | some v =>
      refine ⟨rfl, ?_⟩
      show if (V.int v) = V.int 0 then _ else _
      by_cases hv0 : v = 0
      · subst hv0
        rw [if_pos rfl]
        refine q _ _ e1 ?_
        unfold rLe
        rw [if_pos ⟨l, hlm, by rw [hcc]; exact hg⟩]
      · rw [if_neg (fun z => hv0 (V.int.inj z))]
        refine ⟨_, dget_k hf1 c, ?_⟩
        rw [hg]
        rw [if_neg (by simp)]
        refine ⟨e1, d, hd, by omega, nod, fun c' => ?_, fun l' hl' => ?_⟩
        · rw [hk c']
          constructor
          · rintro ⟨h1, l', h2, h3⟩
            exact ⟨h1, l', (htk l').mpr (.inl h2), h3⟩
          · rintro ⟨h1, l', h2, h3⟩
            rcases (htk l').mp h2 with z | z
            · exact ⟨h1, l', z, h3⟩
            · rw [z, hcc] at h3
              rw [← h3, hg] at h1
              cases h1
        · rcases (htk l').mp hl' with z | z
          · exact hz l' z
          · rw [z, hcc, hg]
            exact fun z => hv0 (Option.some.inj z)
    | none =>
      refine ⟨rfl, ?_⟩
      show if (V.int 1) = V.int 0 then _ else _
      rw [if_neg (by decide)]
      refine ⟨_, dget_k hf1 c, ?_⟩
      rw [hg]
      rw [if_pos (by simp)]
      have hput := DPut.k (k := Sum.inl c) (v := .bl true) hd (by unfold dB; rw [List.length_map]; exact szl (by have := (List.getElem?_eq_some_iff.mp hi).1; omega))
      rw [putK_dB] at hput
      refine ⟨_, hput, e1.mut hD, pt d c true, upd_same, by have := pt_len d c true; omega, pt_nodup nod c true, fun c' => ?_, fun l' hl' => ?_⟩
      · rw [key_mem, gt_pt]
        constructor
        · intro h
          by_cases cc : c' = c
          · subst cc
            exact ⟨hg, l, (htk l).mpr (.inr rfl), hcc⟩
          · rw [if_neg cc, ← key_mem, hk] at h
            obtain ⟨h1, l', h2, h3⟩ := h
            exact ⟨h1, l', (htk l').mpr (.inl h2), h3⟩
        · rintro ⟨h1, l', h2, h3⟩
          by_cases cc : c' = c
          · rw [if_pos cc] <;> rfl
          · rw [if_neg cc, ← key_mem, hk]
            rcases (htk l').mp h2 with z | z
            · exact ⟨h1, l', z, h3⟩
            · rw [z, hcc] at h3
              exact absurd h3.symm cc
      · rcases (htk l').mp hl' with z | z
        · exact hz l' z
        · rw [z, hcc, hg]
          exact fun z => nomatch z
  · rintro σ' H' ⟨e1, d, x4, x5, rfl, hd, hdl, nod, hk, hz⟩
    rw [List.take_length] at hk hz
    walk_at "st"
    refine ⟨_, .inl hd, d.map (·.1), by unfold dB; rw [List.map_map, List.map_map] <;> rfl, by rw [List.length_map]; omega, fun ys p hp1 hp2 hp => ?_⟩
    refine ⟨_, .inl ⟨sq_l upd_same, fun t ht => ?_⟩⟩
    have e2 := e1.tr ((Ex.new (o := .lst (ys.map V.int)) hp).tr (Ex.new (o := .tup (ys.map V.int)) ht))
    refine q _ _ e2 ?_
    unfold rLe
    rw [if_neg (by rintro ⟨l, h1, h2⟩; exact hz l h1 h2)]
    have ndy : ys.Nodup := hp1.nodup_iff.mpr nod
    refine ⟨ys, ⟨(hp2.and ndy).imp fun h => by have := h.1; have := h.2; omega, fun c => ?_⟩, rIs.mk upd_same⟩
    rw [hp1.mem_iff]
    exact hk c
theorem slA {K : PySem.W.Frag} {H : Hp} {Q : VK} {a : Addr} {xs : List V} (i : Nat) (h : H a = some (.tup xs)) (k : ∀ p H', Ex H H' → H' p = some (.tup (xs.drop (i + 1))) → Q (.ref p) H') : rSlA K (.ref a) (some ((i : Int) + 1)) none H Q := by
  refine ⟨a, xs, rfl, sq_t h, fun hw => ?_, fun _ p hp => ?_⟩
  · refine k a H (Ex.rf _) ?_
    have h1 := hw.1
    rw [show ((i : Int) + 1) = ((i + 1 : Nat) : Int) from rfl, HT.sIx_nat] at h1
    have h2 : xs.length = 0 := by omega
    have h3 : xs = [] := List.eq_nil_of_length_eq_zero h2
    rw [h3] at h ⊢
    exact h
  · have := k p _ (Ex.new hp) (by rw [← cut_from]; exact upd_same)
    exact this
/-! ### pairs -/
abbrev rQq (q : Int × Int) : Rp := r2 (rI q.1) (rI q.2)
def sp_pairs_of (K : PySem.W.Frag) : Sp := PSp fun vs H R => ∃ (v : V) (ls : List Int), vs = [v] ∧ rIs ls H v ∧ ls.length ≤ 10 ∧ R = rLi rQq (pairs2 ls)
abbrev nN_pairs_of : List Str := ["letters", "at", "one", "other"]
theorem sc_pairs_of : FnScope nN_pairs_of ["letters"] (defScope s_pairs_of) := ⟨rfl, rfl, rfl, by decide +kernel, rfl, by decide +kernel, by decide +kernel⟩
theorem ok_pairs_of {P : Program} {w : World} {K : PySem.W.Frag} {mg : Str → Option Value} {base : Heap} {fd : FuncData} (T : GG K w mg) (F : FunD K "pairs_of" "pairs_of" (defArgs s_pairs_of) (defBody s_pairs_of) (defScope s_pairs_of) [] [] (He.fAd K ("pairs_of", none)) fd)  : Cal P w K mg base "pairs_of" 1 ["letters"] (sp_pairs_of K) := by
  have nd := sc_pairs_of.nd
  refine cal_of F T.g_pairs_of (fun _ _ _ _ _ _ us hl => match us, hl with | [_], _ => rfl) (FunD.ok F sc_pairs_of (fun vs H Q E h => ?_) (fun cdv A outer s H vs Q E hr h => ?_))
  · obtain ⟨_, ⟨_, ls, rfl, hv, hl, rfl⟩, q⟩ := h
    rfl
  obtain ⟨_, ⟨_, ls, rfl, hv, hl, rfl⟩, q⟩ := h
  have hu := hu_of hr
  refine ⟨_, PSs.nox (pss_one (ps_ret (pe_lc2 (own := [("at", 1), ("one", 2), ("other", 3)]) (vs1 := [3]) rfl nd (pi_enumT (by rfl) T.f_enumerate (pa_cons (pv 0) pa_nil)) (blkOk_by (own := [("at", 1), ("one", 2), ("other", 3)]) (N := nN_pairs_of) (sc := defScope s_pairs_of) (by decide +kernel)) (by decide) (fun _ _ _ _ _ => (pg_tupK (n := 2) (K := K) rfl rfl (pgs_cons (pg_name (i := 1) nd rfl (Or.inl rfl)) (pgs_cons (pg_name (i := 2) nd rfl (Or.inl rfl)) pgs_nil)))) (fun _ _ _ _ _ => pts_nil) (fun _ _ _ _ _ => (pi_tupK (K := K) rfl (pe_slice (sl_tupAK (K := K) rfl) (pv 0) (po_some (pe_op op_add (pv 1) pe_int)) po_none))) (fun _ _ _ _ _ => (pg_name (i := 3) nd rfl (Or.inl rfl))) (fun _ _ _ _ _ => pts_nil) (fun _ _ _ _ _ => (pe_tup (pa_cons (pv 2) (pa_cons (pv 3) pa_nil))))))), ?_⟩
  obtain ⟨a, rfl, ha⟩ := hv.of
  walk_at "st"
  refine ⟨⟨_, sq_t ha⟩, ?_⟩
  have hpl : (pairs2 ls).length ≤ 100 := Nat.le_trans (pairs2_len _) (Nat.mul_le_mul hl hl)
  refine lc2_gen (f := fun p : Nat × Int => r2 (rI (p.1 : Int)) (rI p.2)) (xs := enu ls) (rb := rQq) (f1 := fun _ => rI) (ys := fun e => ls.drop (e.1 + 1)) (F := fun e y => (e.2, y)) (wk_enuT (f := rI) fun H' g => ⟨_, sq_t (g _ _ ha), ints_al _⟩) (Nat.le_trans hpl (by decide)) ?_ ?_ gm_pair (fun _ _ _ _ _ h q => h _ _ q)
  · rintro j e v H2 Qi D acc hD hj e2 ⟨t, y1, y2, rfl, ht, h1, h2⟩ hq
    cases h1
    cases h2
    have ha2 := e2 _ _ ha
    walk_at "st"
    refine ⟨_, sq_t ht, rfl, ?_⟩
    walk_at "st"
    refine slA e.1 ha2 fun p H3 e3 hp3 => ?_
    walk_at "st"
    rw [← List.map_drop] at hp3
    refine ⟨⟨_, sq_t hp3⟩, hq _ _ _ e3 ⟨wk_tup fun H' g => ⟨_, sq_t (g.2 _ _ True.intro hp3), ints_al _⟩, ?_⟩⟩
    rintro k y u H5 K1 hk _ z5 hu2 hK
    cases hu2
    walk_at "st"
    exact ⟨by decide, fun t3 ht3 => hK _ _ (Ex.new ht3) ⟨_, _, _, rfl, upd_same, rfl, rfl⟩⟩
  · rintro p H2 hp e2 hr2
    exact q _ _ e2 hr2
/-! ### bent sums -/
def bentI (d : Told) (e : List Int × Int) : Told := if e.1.length = 2 ∨ 0 < e.2 then (pairs2 e.1).foldl (fun d q => pt d [q.1, q.2] ((gt d [q.1, q.2]).getD 0 + e.2)) d else d
def bentP (t : Told) : Told := t.foldl bentI []
def bentB (t : Told) : Bool := (bentP t).all fun e => decide (e.2 ≤ 0)
theorem bentI_len (d : Told) (e : List Int × Int) (h : e.1.length ≤ 10) : (bentI d e).length ≤ d.length + 100 := by
  unfold bentI
  split
  · have key : ∀ (l : List (Int × Int)) (d : Told), (l.foldl (fun d q => pt d [q.1, q.2] ((gt d [q.1, q.2]).getD 0 + e.2)) d).length ≤ d.length + l.length := by
      intro l
      induction l with
      | nil => intro d; exact Nat.le_refl _
      | cons q l ih =>
        intro d
        rw [List.foldl_cons, List.length_cons]
        have := ih (pt d [q.1, q.2] ((gt d [q.1, q.2]).getD 0 + e.2))
        have := pt_len d [q.1, q.2] ((gt d [q.1, q.2]).getD 0 + e.2)
        omega
    have h1 := key (pairs2 e.1) d
    have h2 := pairs2_len e.1
    have h3 := Nat.mul_le_mul h h
    exact Nat.le_trans h1 (Nat.add_le_add_left (Nat.le_trans h2 h3) _)
  · omega
theorem bentP_nodup (t : Told) : ((bentP t).map (·.1)).Nodup := by
  have h1 : ∀ (e : List Int × Int) (l : List (Int × Int)) (d : Told), (d.map (·.1)).Nodup → ((l.foldl (fun d q => pt d [q.1, q.2] ((gt d [q.1, q.2]).getD 0 + e.2)) d).map (·.1)).Nodup := by
    intro e l
    induction l with
    | nil => intro d h; exact h
    | cons q l ih => intro d h; exact ih _ (pt_nodup h _ _)
  have h2 : ∀ (l : Told) (d : Told), (d.map (·.1)).Nodup → ((l.foldl bentI d).map (·.1)).Nodup := by
    intro l
    induction l with
    | nil => intro d h; exact h
    | cons e l ih =>
      intro d h
      refine ih _ ?_
      unfold bentI
      split
      · exact h1 e _ d h
      · exact h
  exact h2 t [] .nil
theorem fold_take {α β : Type} (g : β → α → β) (b : β) {xs : List α} {i : Nat} {x : α} (h : xs[i]? = some x) : (xs.take (i + 1)).foldl g b = g ((xs.take i).foldl g b) x := by
  rw [List.take_add_one, h, List.foldl_append] <;> rfl
def sp_is_bent (K : PySem.W.Frag) : Sp := PSp fun vs H R => ∃ (v : V) (t : Told), vs = [v] ∧ rTu rTe t H v ∧ t.length ≤ 500 ∧ (∀ e ∈ t, e.1.length ≤ 10) ∧ R = rB (bentB t)
abbrev nN_is_bent : List Str := ["told", "numbers", "letters", "number", "pair"]
theorem sc_is_bent : FnScope nN_is_bent ["told"] (defScope s_is_bent) := ⟨rfl, rfl, rfl, by decide +kernel, rfl, by decide +kernel, by decide +kernel⟩
theorem ok_is_bent {P : Program} {w : World} {K : PySem.W.Frag} {mg : Str → Option Value} {base : Heap} {fd : FuncData} (T : GG K w mg) (F : FunD K "is_bent" "is_bent" (defArgs s_is_bent) (defBody s_is_bent) (defScope s_is_bent) [] [] (He.fAd K ("is_bent", none)) fd) (c_pairs_of : Cal P w K mg base "pairs_of" 1 ["letters"] (sp_pairs_of K)) : Cal P w K mg base "is_bent" 2 ["told"] (sp_is_bent K) := by
  have nd := sc_is_bent.nd
  refine cal_of F T.g_is_bent (fun _ _ _ _ _ _ us hl => match us, hl with | [_], _ => rfl) (FunD.ok F sc_is_bent (fun vs H Q E h => ?_) (fun cdv A outer s H vs Q E hr h => ?_))
  · obtain ⟨_, ⟨_, t, rfl, ⟨a, us, rfl, ha, al⟩, hl, hle, rfl⟩, q⟩ := h
    rfl
  obtain ⟨_, ⟨_, t, rfl, ⟨a, us, rfl, ha, al⟩, hl, hle, rfl⟩, q⟩ := h
  have hu := hu_of hr
  refine ⟨_, PSs.nox (pss_cons (ps_set (i := 1) nd rfl (Or.inr rfl) pe_dnewT) (pss_cons (ps_for PassesOwn.never rfl (pi_tupK (K := K) rfl (pv 0)) (pg_tupK (n := 2) (K := K) rfl rfl (pgs_cons (pg_name (i := 2) nd rfl (Or.inl rfl)) (pgs_cons (pg_name (i := 3) nd rfl (Or.inl rfl)) pgs_nil))) (pss_one (ps_if (PW.pt (pw_or (pt_cmpR op_eq (pe_b_len T.f_len call_len_seq (pa_cons (pv 2) pa_nil)) pe_int (nomark _)) (pw_or1 (pt_cmpR op_gt (pv 3) pe_int (nomark _))))) (pss_one (ps_for PassesOwn.never rfl (pi_listK (K := K) rfl (pe_cal c_pairs_of hr (pa_cons (pv 2) pa_nil))) (pg_name (i := 4) nd rfl (Or.inl rfl)) (pss_one (ps_dput hu (pv 1) (pv 4) (pe_op op_add (pe_dget2 hu (pv 1) (pv 4) pe_int ⟨rfl, rfl, rfl, rfl⟩) (pv 3)) rfl)))) pss_nil))) (pss_one (ps_ret (pe_b_all T.f_all (cr_allK (K := K) rfl rfl) (pa_cons (pe_lock (pe_lc (own := [("pair", 4)]) rfl nd (pi_keys (pv 1)) (blkOk_by (own := [("pair", 4)]) (N := nN_is_bent) (sc := defScope s_is_bent) (by decide +kernel)) (fun _ _ _ _ _ => (pg_name (i := 4) nd rfl (Or.inl rfl))) (fun _ _ _ _ _ => pts_nil) (fun _ _ _ _ _ => (pe_cmpR op_le (pe_dget hu (pv 1) (pv 4) (fun _ _ => rfl)) pe_int (nomark _))))) pa_nil)))))), ?_⟩
  walk_at "st"
  intro D hD
  have e0 := Ex.new (o := .dT []) hD
  refine ⟨⟨_, sq_t (e0 _ _ ha)⟩, ?_⟩
  refine for_gen (G := fun H' => Ex H H') (wk_tup (f := rTe) (xs := t) fun H' g => ⟨us, sq_t (g _ _ ha), al.up g⟩) (fun i σ' H' => Ex H H' ∧ ∃ x2 x3 x4, σ' = [some (.ref a), some (.ref D), x2, x3, x4] ∧ H' D = some (.dT (dt ((t.take i).foldl bentI []))) ∧ ((t.take i).foldl bentI []).length ≤ 100 * i) ⟨e0, _, _, _, rfl, upd_same, Nat.le_refl _⟩ (fun _ _ _ _ h => h.1) ?_ ?_
  · rintro i e v σ' H1 H2 hi ⟨e1, x2, x3, x4, rfl, hd, hdl⟩ e2 ⟨c, y1, y2, rfl, hc, h1, h2⟩
    cases h2
    have h1' := h1
    obtain ⟨b, rfl, hb⟩ := h1.of
    have hel := hle e (List.mem_of_getElem? hi)
    have hil := (List.getElem?_eq_some_iff.mp hi).1
    rw [fold_take bentI [] hi]
    have hbl := bentI_len ((t.take i).foldl bentI []) e hel
    have hd2 := e2 _ _ hd
    generalize (t.take i).foldl bentI [] = d at hd2 hdl hbl ⊢
    walk_at "st"
    refine ⟨_, sq_t hc, rfl, ?_⟩
    walk_at "st"
    refine ⟨_, .inr (sq_t hb), rfl, ?_⟩
    rw [ints_len]
    by_cases c2 : e.1.length = 2 ∨ 0 < e.2
    · have hbi : bentI d e = (pairs2 e.1).foldl (fun d q => pt d [q.1, q.2] ((gt d [q.1, q.2]).getD 0 + e.2)) d := if_pos c2
      rw [hbi] at hbl ⊢
      by_cases h2 : (e.1.length : Int) = 2
      rw [if_pos h2]
      rotate_left
      rw [if_neg h2, if_pos (by omega)]
      all_goals
        refine ⟨_, ⟨_, e.1, rfl, h1', hel, rfl⟩, fun v H3 e3 hv => ?_⟩
        obtain ⟨p, ps, rfl, hp, alp⟩ := hv
        have hd3 := e3 _ _ hd2
        have np : p ≠ D := ne_of hp hd3 (fun z => nomatch z)
        have zx : ∀ {H'}, But D H3 H' → Zx H3 H' := fun b => b.zx hd3 (fun q => q)
        walk_at "st"
        refine ⟨⟨_, sq_l hp⟩, ?_⟩
        have e03 : Ex H H3 := (e1.tr e2).tr e3
        have hlen0 : ∀ j, j ≤ (pairs2 e.1).length → (((pairs2 e.1).take j).foldl (fun d q => pt d [q.1, q.2] ((gt d [q.1, q.2]).getD 0 + e.2)) d).length ≤ d.length + j := fun j hj => by
          induction j with
          | zero => exact Nat.le_refl _
          | succ j ih =>
            rw [fold_take _ d (List.getElem?_eq_getElem (by omega : j < (pairs2 e.1).length))]
            have := pt_len (((pairs2 e.1).take j).foldl (fun d q => pt d [q.1, q.2] ((gt d [q.1, q.2]).getD 0 + e.2)) d) [(pairs2 e.1)[j].1, (pairs2 e.1)[j].2] ((gt (((pairs2 e.1).take j).foldl (fun d q => pt d [q.1, q.2] ((gt d [q.1, q.2]).getD 0 + e.2)) d) [(pairs2 e.1)[j].1, (pairs2 e.1)[j].2]).getD 0 + e.2)
            have := ih (by omega)
            omega
        have hpl : (pairs2 e.1).length ≤ 100 := Nat.le_trans (pairs2_len _) (Nat.mul_le_mul hel hel)
        refine for_gen (G := fun H' => But D H3 H') (wk_lst (f := rQq) (xs := pairs2 e.1) fun H' g => ⟨ps, sq_l (g _ _ np hp), alp.upZ (zx g)⟩) (fun j σ' H' => But D H3 H' ∧ ∃ x4, σ' = [some (.ref a), some (.ref D), some (.ref b), some (.int e.2), x4] ∧ H' D = some (.dT (dt (((pairs2 e.1).take j).foldl (fun d q => pt d [q.1, q.2] ((gt d [q.1, q.2]).getD 0 + e.2)) d)))) ⟨But.rf _ _, _, rfl, hd3⟩ (fun _ _ _ _ h => h.1) ?_ ?_
        · rintro j q v σ' H4 H5 hj ⟨b4, y4, rfl, hd4⟩ e5 ⟨t2, z1, z2, rfl, ht2, hz1, hz2⟩
          cases hz1
          cases hz2
          have hd5 := e5 _ _ hd4
          have hjl := (List.getElem?_eq_some_iff.mp hj).1
          have hl5 := hlen0 j (by omega)
          rw [fold_take _ d hj]
          generalize ((pairs2 e.1).take j).foldl (fun d q => pt d [q.1, q.2] ((gt d [q.1, q.2]).getD 0 + e.2)) d = dd at hd5 hl5 ⊢
          walk_at "st"
          refine ⟨.inr ⟨_, .inl hd5⟩, _, dget_t (k := [q.1, q.2]) hd5 ht2, ?_⟩
          have hget : ((gt dd [q.1, q.2]).map V.int).getD (.int 0) = .int ((gt dd [q.1, q.2]).getD 0) := by
            cases gt dd [q.1, q.2] <;> rfl
          rw [hget]
          walk_at "st"
          exact ⟨_, dput_t (k := [q.1, q.2]) hd5 ht2 _ (by omega), (b4.tr e5.but).tr But.mut, upd_same⟩
        · rintro σ' H' ⟨b4, y4, rfl, hd4⟩
          rw [List.take_length] at hd4
          walk_at "st"
          exact ⟨But.ex e03 b4 hD, hd4, by omega⟩
    · have hbi : bentI d e = d := if_neg c2
      rw [hbi]
      rw [if_neg (by omega), if_neg (by omega)]
      exact ⟨e1.tr e2, hd2, by omega⟩
  · rintro σ' H' ⟨e1, x2, x3, x4, rfl, hd, hdl⟩
    rw [List.take_length] at hd hdl
    walk_at "st"
    have nod : ((bentP t).map (·.1)).Nodup := bentP_nodup t
    have hdT : H' D = some (.dT (dt (bentP t))) := hd
    refine ⟨D, _, hdT, True.intro, fun od => ⟨od, .inr ⟨dt (bentP t), upd_same, ?_⟩⟩⟩
    have hlk : (upd H' D (.frz od (.dT (dt (bentP t))))) D = some (.frz od (.dT (dt (bentP t)))) := upd_same
    refine lc_mapN (xs := dt (bentP t)) (rb := rB) (F := fun p => match p.2 with | .int n => decide (n ≤ 0) | _ => false) (ws_keysT (G := fun G' => Ex (upd H' D (.frz od (.dT (dt (bentP t))))) G') fun G' g => g _ _ hlk).wk (by unfold dt; rw [List.length_map]; have : (bentP t).length ≤ 100 * t.length := hdl; omega) (fun _ => rfl) ?_ ?_
    · rintro i p v H3 K1 hi e3 ⟨b, rfl, hb⟩ hK
      have hpm := List.mem_of_getElem? hi
      obtain ⟨e, he, rfl⟩ := List.mem_map.mp (show p ∈ (bentP t).map fun e => (e.1.map Sum.inl, V.int e.2) from hpm)
      have hval : valV (dt (bentP t)) (e.1.map Sum.inl) = some (.int e.2) := by
        rw [valV_dt, gt_of_mem nod (show (e.1, e.2) ∈ bentP t from he)] <;> rfl
      walk_at "st"
      refine ⟨_, .inr ⟨_, _, b, .inr ⟨od, e3 _ _ hlk⟩, rfl, hb, hval.symm⟩, ?_⟩
      walk_at "st"
      exact hK _ _ (Ex.rf _) rfl
    · rintro p H3 hp e3 hr3
      refine ⟨e3 _ _ hlk, ?_⟩
      obtain ⟨_, ws, hz, hp3, al3⟩ := hr3
      cases hz
      rw [al_bools al3] at hp3
      have npD : p ≠ D := ne_of hp3 (e3 _ _ hlk) (fun z => nomatch z)
      refine ⟨p, _, rfl, sq_l (by rw [upd_ne npD]; exact hp3), ?_⟩
      have hall : ((dt (bentP t)).map fun p => match p.2 with | .int n => decide (n ≤ 0) | _ => false).all id = bentB t := by
        rw [all_map_id]
        unfold dt bentB
        rw [List.all_map] <;> rfl
      rw [hall]
      refine q _ _ ?_ rfl
      intro b o hb
      have hbD : b ≠ D := ne_of_none hb hD
      rw [upd_ne hbD]
      refine e3 _ _ ?_
      rw [upd_ne hbD]
      exact e1 _ _ hb
/-! ### sums are well told -/
/-- what is_sum asks -/
def SumOk (n : Nat) (t : Told) : Prop := (t.map (·.1)).Pairwise (fun x y => HT.lexLt x y = true) ∧ ∀ e ∈ t, e.2 ≠ 0 ∧ e.1.Pairwise (· < ·) ∧ (∀ l ∈ e.1, 0 ≤ l ∧ l < (n : Int)) ∧ e.1.length ≤ 3
theorem adj_all {α : Type} (g : α → α → Bool) {xs : List α} (h : xs.Pairwise fun x y => g x y = true) : ((xs.zip (xs.drop 1)).all fun p => g p.1 p.2) = true := by
  rw [List.all_eq_true]
  intro p hp
  obtain ⟨i, hi⟩ := List.mem_iff_getElem?.mp hp
  obtain ⟨h1, h2⟩ := zip_at hi
  rw [List.getElem?_drop] at h2
  obtain ⟨l1, e1⟩ := List.getElem?_eq_some_iff.mp h1
  obtain ⟨l2, e2⟩ := List.getElem?_eq_some_iff.mp h2
  have := List.pairwise_iff_getElem.mp h i (1 + i) l1 l2 (by omega)
  rw [e1, e2] at this
  exact this
def sp_is_rising (K : PySem.W.Frag) : Sp := fun vs H Q _ => (∃ (v : V) (ls : List Int), vs = [v] ∧ rIs ls H v ∧ ls.length ≤ 1000 ∧ ls.Pairwise (· < ·) ∧ ∀ H', Ex H H' → Q (.bl true) H') ∨
  (∃ (v : V) (ks : List (List Int)), vs = [v] ∧ rLi rIs ks H v ∧ ks.length ≤ 1000 ∧ ks.Pairwise (fun x y => HT.lexLt x y = true) ∧ ∀ H', Ex H H' → Q (.bl true) H')
abbrev nN_is_rising : List Str := ["letters", "one", "other"]
theorem sc_is_rising : FnScope nN_is_rising ["letters"] (defScope s_is_rising) := ⟨rfl, rfl, rfl, by decide +kernel, rfl, by decide +kernel, by decide +kernel⟩
theorem ok_is_rising {P : Program} {w : World} {K : PySem.W.Frag} {mg : Str → Option Value} {base : Heap} {fd : FuncData} (T : GG K w mg) (F : FunD K "is_rising" "is_rising" (defArgs s_is_rising) (defBody s_is_rising) (defScope s_is_rising) [] [] (He.fAd K ("is_rising", none)) fd)  : Cal P w K mg base "is_rising" 1 ["letters"] (sp_is_rising K) := by
  have nd := sc_is_rising.nd
  refine cal_of F T.g_is_rising (fun _ _ _ _ _ _ us hl => match us, hl with | [_], _ => rfl) (FunD.ok F sc_is_rising (fun vs H Q E h => ?_) (fun cdv A outer s H vs Q E hr h => ?_))
  · rcases h with ⟨_, ls, rfl, hv, hl, hp, q⟩ | ⟨_, ks, rfl, hv, hl, hp, q⟩ <;> rfl
  have hu := hu_of hr
  rcases h with ⟨_, ls, rfl, hv, hl, hp, q⟩ | ⟨_, ks, rfl, hv, hl, hp, q⟩
  · obtain ⟨a, rfl, ha⟩ := hv.of
    refine ⟨_, PSs.nox (pss_one (ps_ret (pe_b_all T.f_all (cr_allK (K := K) rfl rfl) (pa_cons (pe_lc (own := [("one", 1), ("other", 2)]) rfl nd (pi_zipX (by rfl) T.f_zip (pa_cons (pv 0) (pa_cons (pe_slice (sl_tupAK (K := K) rfl) (pv 0) (po_some pe_int) po_none) pa_nil))) (blkOk_by (own := [("one", 1), ("other", 2)]) (N := nN_is_rising) (sc := defScope s_is_rising) (by decide +kernel)) (fun _ _ _ _ _ => (pg_tupK (n := 2) (K := K) rfl rfl (pgs_cons (pg_name (i := 1) nd rfl (Or.inl rfl)) (pgs_cons (pg_name (i := 2) nd rfl (Or.inl rfl)) pgs_nil)))) (fun _ _ _ _ _ => pts_nil) (fun _ _ _ _ _ => (pe_cmpR op_lt (pv 1) (pv 2) (nomark _)))) pa_nil)))), ?_⟩
    walk_at "st"
    refine slA (i := 0) ha fun b H1 e1 hb => ?_
    rw [← List.map_drop] at hb
    have ha1 := e1 _ _ ha
    walk_at "st"
    refine .inr (.inl ⟨⟨_, sq_t ha1⟩, ⟨_, sq_t hb⟩, ?_⟩)
    refine lc_map (rb := rB) (F := fun p : Int × Int => decide (p.1 < p.2)) (wk_zipT (f := rI) (g := rI) (xs := ls) (ys := ls.drop 1) fun H' e => ⟨_, _, sq_t (e _ _ ha1), sq_t (e _ _ hb), ints_al _, ints_al _⟩) (by rw [List.length_zip]; omega) ?_ ?_ gm_pair
    · rintro i p v H' K1 hp e2 ⟨T, x, y, rfl, hT, hx, hy⟩ hK
      cases hx
      cases hy
      walk_at "st"
      refine ⟨_, sq_t hT, rfl, ?_⟩
      walk_at "st"
      exact hK _ _ (Ex.rf _) rfl
    · rintro c H2 hc e2 hr2
      obtain ⟨_, ws, hz, hp3, al3⟩ := hr2
      cases hz
      rw [al_bools al3] at hp3
      refine ⟨c, _, rfl, sq_l hp3, ?_⟩
      rw [all_map_id, adj_all (fun x y => decide (x < y)) (hp.imp fun h => decide_eq_true h)]
      exact q _ (e1.tr e2)
  · obtain ⟨a, us, rfl, ha, al⟩ := hv
    refine ⟨_, PSs.nox (pss_one (ps_ret (pe_b_all T.f_all (cr_allK (K := K) rfl rfl) (pa_cons (pe_lc (own := [("one", 1), ("other", 2)]) rfl nd (pi_zipX (by rfl) T.f_zip (pa_cons (pv 0) (pa_cons (pe_slice (sl_listK (K := K) rfl) (pv 0) (po_some pe_int) po_none) pa_nil))) (blkOk_by (own := [("one", 1), ("other", 2)]) (N := nN_is_rising) (sc := defScope s_is_rising) (by decide +kernel)) (fun _ _ _ _ _ => (pg_tupK (n := 2) (K := K) rfl rfl (pgs_cons (pg_name (i := 1) nd rfl (Or.inl rfl)) (pgs_cons (pg_name (i := 2) nd rfl (Or.inl rfl)) pgs_nil)))) (fun _ _ _ _ _ => pts_nil) (fun _ _ _ _ _ => (pe_cmpR (op_ltTK (K := K) rfl (hu0 hr)) (pv 1) (pv 2) (nomark _)))) pa_nil)))), ?_⟩
    walk_at "st"
    refine ⟨a, us, rfl, sq_l ha, fun b hb0 => ?_⟩
    rw [show cutV us (some 1) none = us.drop 1 from cut_from us 0]
    have e1 := Ex.new (o := .lst (us.drop 1)) hb0
    have ha1 := e1 _ _ ha
    walk_at "st"
    refine .inl ⟨⟨_, sq_l ha1⟩, ⟨_, sq_l upd_same⟩, ?_⟩
    refine lc_map (rb := rB) (F := fun p : List Int × List Int => HT.lexLt p.1 p.2) (wk_zipL (f := rIs) (g := rIs) (xs := ks) (ys := ks.drop 1) fun H' e => ⟨_, _, sq_l (e _ _ ha1), sq_l (e _ _ upd_same), al.up (e1.tr e), (al.up (e1.tr e)).drop 1⟩) (by rw [List.length_zip]; omega) ?_ ?_ gm_pair
    · rintro i p v H' K1 hp e2 ⟨T, x, y, rfl, hT, hx, hy⟩ hK
      obtain ⟨c, rfl, hc⟩ := hx.of
      obtain ⟨d, rfl, hd⟩ := hy.of
      walk_at "st"
      refine ⟨_, sq_t hT, rfl, ?_⟩
      walk_at "st"
      exact ⟨c, d, p.1, p.2, rfl, rfl, sq_t hc, sq_t hd, hK _ _ (Ex.rf _) rfl⟩
    · rintro c H2 hc e2 hr2
      obtain ⟨_, ws, hz, hp3, al3⟩ := hr2
      cases hz
      rw [al_bools al3] at hp3
      refine ⟨c, _, rfl, sq_l hp3, ?_⟩
      rw [all_map_id, adj_all (fun x y => HT.lexLt x y) hp]
      exact q _ (e1.tr e2)
def sp_is_member (K : PySem.W.Frag) : Sp := PSp fun vs H R => ∃ (v : V) (e : List Int × Int) (n : Nat), vs = [v, .int n] ∧ rTe e H v ∧ e.2 ≠ 0 ∧ e.1.Pairwise (· < ·) ∧ (∀ l ∈ e.1, 0 ≤ l ∧ l < (n : Int)) ∧ e.1.length ≤ 3 ∧ R = rB true
abbrev nN_is_member : List Str := ["value", "letter_count", "letters", "number", "letter"]
theorem sc_is_member : FnScope nN_is_member ["value", "letter_count"] (defScope s_is_member) := ⟨rfl, rfl, rfl, by decide +kernel, rfl, by decide +kernel, by decide +kernel⟩
theorem ok_is_member {P : Program} {w : World} {K : PySem.W.Frag} {mg : Str → Option Value} {base : Heap} {fd : FuncData} (T : GG K w mg) (F : FunD K "is_member" "is_member" (defArgs s_is_member) (defBody s_is_member) (defScope s_is_member) [] [] (He.fAd K ("is_member", none)) fd) (c_is_rising : Cal P w K mg base "is_rising" 1 ["letters"] (sp_is_rising K)) (c_is_below_sides : Cal P w K mg base "is_below_sides" 1 ["value", "many"] (sp_is_below_sides K)) : Cal P w K mg base "is_member" 2 ["value", "letter_count"] (sp_is_member K) := by
  have nd := sc_is_member.nd
  refine cal_of F T.g_is_member (fun _ _ _ _ _ _ us hl => match us, hl with | [_, _], _ => rfl) (FunD.ok F sc_is_member (fun vs H Q E h => ?_) (fun cdv A outer s H vs Q E hr h => ?_))
  · obtain ⟨_, ⟨_, e, n, rfl, ⟨a, y1, y2, rfl, ha, h1, h2⟩, hz, hp, hb, hl, rfl⟩, q⟩ := h
    rfl
  obtain ⟨_, ⟨_, e, n, rfl, ⟨a, y1, y2, rfl, ha, h1, h2⟩, hz, hp, hb, hl, rfl⟩, q⟩ := h
  have hu := hu_of hr
  refine ⟨_, PSs.nox (pss_cons (ps_if (PW.pt (pw_or (pt_not (pt_val (pe_bI T.f_isinstance call_isi (pa_cons (pv 0) (pa_cons (pe_ty T.f_tuple bt_tuple) pa_nil))))) (pw_or (pt_cmpR op_ne (pe_b_len T.f_len call_len_seq (pa_cons (pv 0) pa_nil)) pe_int (nomark _)) (pw_or1 (pt_not (pt_val (pe_bI T.f_isinstance call_isi (pa_cons (pe_ix (ix_tupK (K := K) rfl) (pv 0) pe_int (fun _ _ => rfl)) (pa_cons (pe_ty T.f_tuple bt_tuple) pa_nil))))))))) (pss_one (ps_ret pe_bl)) pss_nil) (pss_cons (ps_asg (pv 0) (pg_tupK (n := 2) (K := K) rfl rfl (pgs_cons (pg_name (i := 2) nd rfl (Or.inl rfl)) (pgs_cons (pg_name (i := 3) nd rfl (Or.inl rfl)) pgs_nil)))) (pss_cons (ps_if (PW.pt (pw_or (pt_cmpR op_gt (pe_b_len T.f_len call_len_seq (pa_cons (pv 2) pa_nil)) (pe_gI T.i_MOST_LETTERS) (nomark _)) (pw_or1 (pt_not (pt_val (pe_b_all T.f_all (cr_allK (K := K) rfl rfl) (pa_cons (pe_lc (own := [("letter", 4)]) rfl nd (pi_tupK (K := K) rfl (pv 2)) (blkOk_by (own := [("letter", 4)]) (N := nN_is_member) (sc := defScope s_is_member) (by decide +kernel)) (fun _ _ _ _ _ => (pg_name (i := 4) nd rfl (Or.inl rfl))) (fun _ _ _ _ _ => pts_nil) (fun _ _ _ _ _ => (pe_cal c_is_below_sides hr (pa_cons (pv 4) (pa_cons (pv 1) pa_nil))))) pa_nil))))))) (pss_one (ps_ret pe_bl)) pss_nil) (pss_one (ps_ret (pe_and (pe_cal c_is_rising hr (pa_cons (pv 2) pa_nil)) (pe_and (pe_bI T.f_isinstance call_isi (pa_cons (pv 3) (pa_cons (pe_ty T.f_int bt_int) pa_nil))) (pe_and (pe_not (pe_bI T.f_isinstance call_isi (pa_cons (pv 3) (pa_cons (pe_ty T.f_bool bt_bool) pa_nil)))) (pe_one (pe_cmpR op_ne (pv 3) pe_int (nomark _))))))))))), ?_⟩
  cases h2
  have h1' := h1
  obtain ⟨b, rfl, hb1⟩ := h1.of
  walk_at "st"
  refine isi_tt ha ?_
  walk_at "st"
  refine ⟨_, .inr (sq_t ha), rfl, ?_⟩
  walk_at "st"
  rw [if_neg (by simp)]
  refine ixT (sq_t ha) (by decide) rfl ?_
  refine isi_tt hb1 ?_
  walk_at "st"
  refine ⟨_, sq_t ha, rfl, ?_⟩
  walk_at "st"
  refine ⟨_, .inr (sq_t hb1), ?_⟩
  rw [ints_len]
  rw [if_neg (by omega)]
  refine ⟨⟨_, sq_t hb1⟩, ?_⟩
  refine lc_mapN (f := rI) (xs := e.1) (rb := rB) (F := fun l => decide (0 ≤ l ∧ l < (n : Int))) (wk_tup fun H' g => ⟨_, sq_t (g _ _ hb1), ints_al _⟩) (by omega) (fun _ => rfl) ?_ ?_
  · rintro i l v H1 K1 hi e1 hv hK
    cases hv
    walk_at "st"
    exact ⟨_, ⟨_, _, rfl, rfl⟩, hK _ _ (Ex.rf _) rfl⟩
  · rintro c H1 hc e1 hr1
    obtain ⟨_, ws, hzz, hp3, al3⟩ := hr1
    cases hzz
    rw [al_bools al3] at hp3
    walk_at "st"
    refine ⟨c, _, rfl, sq_l hp3, ?_⟩
    rw [all_map_id, List.all_eq_true.mpr fun l hl => decide_eq_true (hb l hl)]
    walk_at "st"
    refine .inl ⟨_, e.1, rfl, Mo.up e1 h1', by omega, hp, fun H2 e2 => ?_⟩
    walk_at "st"
    refine isi_ii ?_
    walk_at "st"
    refine isi_ib ?_
    walk_at "st"
    refine ⟨rfl, q _ _ (e1.tr e2) ?_⟩
    show _ = _
    simp [hz]
def sp_is_sum (K : PySem.W.Frag) : Sp := PSp fun vs H R => ∃ (v : V) (t : Told) (n : Nat), vs = [v, .int n] ∧ rTu rTe t H v ∧ t.length ≤ 1000 ∧ SumOk n t ∧ R = rB true
abbrev nN_is_sum : List Str := ["value", "letter_count", "one", "letters", "_"]
theorem sc_is_sum : FnScope nN_is_sum ["value", "letter_count"] (defScope s_is_sum) := ⟨rfl, rfl, rfl, by decide +kernel, rfl, by decide +kernel, by decide +kernel⟩
theorem ok_is_sum {P : Program} {w : World} {K : PySem.W.Frag} {mg : Str → Option Value} {base : Heap} {fd : FuncData} (T : GG K w mg) (F : FunD K "is_sum" "is_sum" (defArgs s_is_sum) (defBody s_is_sum) (defScope s_is_sum) [] [] (He.fAd K ("is_sum", none)) fd) (c_is_rising : Cal P w K mg base "is_rising" 1 ["letters"] (sp_is_rising K)) (c_is_member : Cal P w K mg base "is_member" 2 ["value", "letter_count"] (sp_is_member K)) : Cal P w K mg base "is_sum" 3 ["value", "letter_count"] (sp_is_sum K) := by
  have nd := sc_is_sum.nd
  refine cal_of F T.g_is_sum (fun _ _ _ _ _ _ us hl => match us, hl with | [_, _], _ => rfl) (FunD.ok F sc_is_sum (fun vs H Q E h => ?_) (fun cdv A outer s H vs Q E hr h => ?_))
  · obtain ⟨_, ⟨_, t, n, rfl, ⟨a, us, rfl, ha, al⟩, hl, ht, rfl⟩, q⟩ := h
    rfl
  obtain ⟨_, ⟨_, t, n, rfl, ⟨a, us, rfl, ha, al⟩, hl, ht, rfl⟩, q⟩ := h
  have hu := hu_of hr
  refine ⟨_, PSs.nox (pss_cons (ps_if (PW.pt (pw_or (pt_not (pt_val (pe_bI T.f_isinstance call_isi (pa_cons (pv 0) (pa_cons (pe_ty T.f_tuple bt_tuple) pa_nil))))) (pw_or1 (pt_not (pt_val (pe_b_all T.f_all (cr_allK (K := K) rfl rfl) (pa_cons (pe_lc (own := [("one", 2)]) rfl nd (pi_tupK (K := K) rfl (pv 0)) (blkOk_by (own := [("one", 2)]) (N := nN_is_sum) (sc := defScope s_is_sum) (by decide +kernel)) (fun _ _ _ _ _ => (pg_name (i := 2) nd rfl (Or.inl rfl))) (fun _ _ _ _ _ => pts_nil) (fun _ _ _ _ _ => (pe_cal c_is_member hr (pa_cons (pv 2) (pa_cons (pv 1) pa_nil))))) pa_nil))))))) (pss_one (ps_ret pe_bl)) pss_nil) (pss_one (ps_ret (pe_cal c_is_rising hr (pa_cons (pe_lc (own := [("letters", 3), ("_", 4)]) rfl nd (pi_tupK (K := K) rfl (pv 0)) (blkOk_by (own := [("letters", 3), ("_", 4)]) (N := nN_is_sum) (sc := defScope s_is_sum) (by decide +kernel)) (fun _ _ _ _ _ => (pg_tupK (n := 2) (K := K) rfl rfl (pgs_cons (pg_name (i := 3) nd rfl (Or.inl rfl)) (pgs_cons (pg_name (i := 4) nd rfl (Or.inl rfl)) pgs_nil)))) (fun _ _ _ _ _ => pts_nil) (fun _ _ _ _ _ => (pv 3))) pa_nil))))), ?_⟩
  walk_at "st"
  refine isi_tt ha ?_
  walk_at "st"
  refine ⟨⟨_, sq_t ha⟩, ?_⟩
  refine lc_mapN (f := rTe) (xs := t) (rb := rB) (F := fun _ => true) (wk_tup fun H' g => ⟨us, sq_t (g _ _ ha), al.up g⟩) (by omega) (fun _ => rfl) ?_ ?_
  · rintro i e v H1 K1 hi e1 hv hK
    walk_at "st"
    have he := ht.2 e (List.mem_of_getElem? hi)
    exact ⟨_, ⟨_, e, n, rfl, hv, he.1, he.2.1, he.2.2.1, he.2.2.2, rfl⟩, fun v H2 e2 h2 => hK _ _ e2 h2⟩
  · rintro c H1 hc e1 hr1
    obtain ⟨_, ws, hzz, hp3, al3⟩ := hr1
    cases hzz
    rw [al_bools al3] at hp3
    walk_at "st"
    refine ⟨c, _, rfl, sq_l hp3, ?_⟩
    rw [all_map_id, List.all_eq_true.mpr fun l hl => rfl]
    walk_at "st"
    refine ⟨⟨_, sq_t (e1 _ _ ha)⟩, ?_⟩
    refine lc_map (f := rTe) (xs := t) (rb := rIs) (F := fun e => e.1) (wk_tup fun H' g => ⟨us, sq_t (g _ _ (e1 _ _ ha)), al.up (e1.tr g)⟩) (by omega) ?_ ?_ gm_pair
    · rintro i e v H2 K1 hi e2 ⟨b, y1, y2, rfl, hb, h1, h2⟩ hK
      walk_at "st"
      refine ⟨_, sq_t hb, rfl, ?_⟩
      walk_at "st"
      exact hK _ _ (Ex.rf _) h1
    · rintro d H2 hd e2 hr2
      exact .inr ⟨_, _, rfl, hr2, by rw [List.length_map]; omega, ht.1, fun H3 e3 => q _ _ ((e1.tr e2).tr e3) rfl⟩
/-- the sum that a puzzle is under a start -/
def SumOf (z : Pz) (st : List (Int × Int)) (t : Told) : Prop := SumOk z.n t ∧ (∀ e ∈ t, ∀ l ∈ e.1, gt st l = none) ∧ (∀ s, Keeps st s → WW t s = total z (rowOf s z.n)) ∧ t.length ≤ 500
def sp_sum_of (K : PySem.W.Frag) : Sp := PSp fun vs H R => ∃ (x y : V) (z : Pz) (st : List (Int × Int)), vs = [x, y] ∧ rPz K z H x ∧ PzOk z ∧ rFr rPp st H y ∧ StOk z.n st ∧ R = rTold (SumOf z st)
abbrev nN_sum_of : List Str := ["puzzle", "start", "fixed", "price", "of_prices", "numbers", "cells", "times", "places", "number", "letters"]
theorem sc_sum_of : FnScope nN_sum_of ["puzzle", "start"] (defScope s_sum_of) := ⟨rfl, rfl, rfl, by decide +kernel, rfl, by decide +kernel, by decide +kernel⟩
theorem ok_sum_of {P : Program} {w : World} {K : PySem.W.Frag} {mg : Str → Option Value} {base : Heap} {fd : FuncData} {dv0 : Addr} (T : GG K w mg) (F : FunD K "sum_of" "sum_of" (defArgs s_sum_of) (defBody s_sum_of) (defScope s_sum_of) [.ref dv0] [] (He.fAd K ("sum_of", none)) fd) (c_sum_told : Cal P w K mg base "sum_told" 1 ["numbers"] (sp_sum_told K)) (c_letters_read : Cal P w K mg base "letters_read" 1 ["places", "cells", "fixed"] (sp_letters_read K)) (c_sum_of_price : Cal P w K mg base "sum_of_price" 5 ["price"] (sp_sum_of_price K)) (c_is_start : Cal P w K mg base "is_start" 3 ["puzzle", "value"] (sp_is_start K)) : Cal P w K mg base "sum_of" 6 ["puzzle", "start"] (sp_sum_of K) := by
  have nd := sc_sum_of.nd
  refine cal_ofD F T.g_sum_of (fun _ _ _ _ _ _ _ us its hl hi => match us, hl, its, hi with | [_, _], _, [_], _ => ⟨_, rfl, rfl⟩) (FunD.ok F sc_sum_of (fun vs H Q E h => ?_) (fun cdv A outer s H vs Q E hr h => ?_))
  · obtain ⟨_, ⟨x, y, z, st, rfl, hx, hz, hy, hst, rfl⟩, q⟩ := h
    rfl
  obtain ⟨_, ⟨x, y, z, st, rfl, hx, hz, hy, hst, rfl⟩, q⟩ := h
  have hu := hu_of hr
  refine ⟨_, PSs.nox (pss_cons (ps_if (pt_not (pt_val (pe_cal c_is_start hr (pa_cons (pv 0) (pa_cons (pv 1) pa_nil))))) (pss_one ps_never) pss_nil) (pss_cons (ps_set (i := 2) nd rfl (Or.inl rfl) (pe_b_dict T.f_dict (call_dictT rfl) (pa_cons (pv 1) pa_nil))) (pss_cons (ps_setLc (i := 4) (own := [("price", 3)]) rfl nd rfl rfl (sw_true rfl rfl rfl (by decide +kernel)) (pi_tupK (K := K) rfl (pe_fldK (K := K) rfl (pe_fldK (K := K) rfl (pv 0) rfl) rfl)) (blkOk_by (own := [("price", 3)]) (N := nN_sum_of) (sc := defScope s_sum_of) (by decide +kernel)) (fun _ _ _ _ _ => (pg_name (i := 3) nd rfl (Or.inl rfl))) (fun _ _ _ _ _ => pts_nil) (fun _ _ _ _ _ => (pe_cal c_sum_of_price hr (pa_cons (pv 3) pa_nil)))) (pss_cons (ps_set (i := 5) nd rfl (Or.inl rfl) pe_dnewT) (pss_cons (ps_for PassesOwn.never rfl (pi_tupK (K := K) rfl (pe_fldK (K := K) rfl (pv 0) rfl)) (pg_tupK (n := 3) (K := K) rfl rfl (pgs_cons (pg_name (i := 3) nd rfl (Or.inl rfl)) (pgs_cons (pg_name (i := 6) nd rfl (Or.inl rfl)) (pgs_cons (pg_name (i := 7) nd rfl (Or.inl rfl)) pgs_nil)))) (pss_one (ps_for PassesOwn.never rfl (pi_tupK (K := K) rfl (pe_ix (ix_listK (K := K) rfl) (pv 4) (pv 3) (fun _ _ => rfl))) (pg_tupK (n := 2) (K := K) rfl rfl (pgs_cons (pg_name (i := 8) nd rfl (Or.inl rfl)) (pgs_cons (pg_name (i := 9) nd rfl (Or.inl rfl)) pgs_nil))) (pss_cons (ps_set (i := 10) nd rfl (Or.inl rfl) (pe_cal c_letters_read hr (pa_cons (pv 8) (pa_cons (pv 6) (pa_cons (pv 2) pa_nil))))) (pss_one (ps_if (pt_cmpR op_notN (pv 10) pe_non (nomark _)) (pss_one (ps_dput hu (pv 5) (pv 10) (pe_op op_add (pe_dget2 hu (pv 5) (pv 10) pe_int ⟨rfl, rfl, rfl, rfl⟩) (pe_op op_mul (pv 9) (pv 7))) rfl)) pss_nil)))))) (pss_one (ps_ret (pe_cal c_sum_told hr (pa_cons (pv 5) pa_nil))))))))), ?_⟩
  have hx' := hx
  have hy' := hy
  obtain ⟨o, dx, bk, ti, rfl, ho, hbk, ⟨c, us, rfl, hc, al⟩⟩ := hx
  obtain ⟨a, ob, ss, rfl, ha, hd, als⟩ := hy
  obtain ⟨ob2, dxb, pr, pl, rfl, hob, ⟨d, ps, rfl, hd2, alp⟩, h4⟩ := hbk
  walk_at "st"
  refine ⟨_, ⟨_, _, z, st, rfl, hx', hy', hst, rfl⟩, ?_⟩
  walk_at "st"
  obtain ⟨qs, e1, p1⟩ := paired_st (K := K) als
  refine ⟨qs, ⟨ob, by rw [← e1]; exact ha, hd⟩, dk st, p1, fun F hF => ?_⟩
  have em : mergeK [] (dk st) = dk st := mergeK_dk st [] (by simpa using st_nodup hst)
  rw [em]
  have f1 := Ex.new (o := .dK (dk st)) hF
  refine ⟨_, _, _, f1 _ _ ho, T.c_Puzzle, T.n_Puzzle_book, _, rfl, _, rfl, ?_⟩
  refine ⟨_, _, _, f1 _ _ hob, T.c_Book, T.n_Book_prices, _, rfl, _, rfl, ⟨_, sq_t (f1 _ _ hd2)⟩, ?_⟩
  refine lc_mapN (f := rPr K) (xs := z.book) (rb := fun p => rTold (PrTold p)) (F := fun p => p) (wk_tup fun H' g => ⟨ps, sq_t (g _ _ (f1 _ _ hd2)), alp.up (f1.tr g)⟩) (by have := hz.1.2.1; omega) (fun _ => rfl) ?_ ?_
  · rintro i p v H1 K1 hi e2 hv hK
    walk_at "st"
    exact ⟨_, ⟨v, p, rfl, hv, hz.1.2.2 p (List.mem_of_getElem? hi), rfl⟩, fun v H2 e2 h2 => hK _ _ e2 h2⟩
  · rintro B H1 hB e2 hr1
    rw [List.map_id'] at hr1
    obtain ⟨_, bs, hzz, hB1, alb⟩ := hr1
    cases hzz
    walk_at "st"
    intro D hD
    have e3 := Ex.new (o := .dT []) hD
    have e03 : Ex H (upd H1 D (.dT [])) := (f1.tr e2).tr e3
    have hDn : H D = none := (f1.tr e2).back hD
    have hF3 : (upd H1 D (.dT [])) F = some (.dK (dk st)) := e3 _ _ (e2 _ _ upd_same)
    have hB3 : (upd H1 D (.dT [])) B = some (.lst bs) := e3 _ _ hB1
    have alb3 : Al (fun w x => rTold (PrTold x) (upd H1 D (.dT [])) w) bs z.book := alb.up e3
    have hD3 : (upd H1 D (.dT [])) D = some (.dT (dt [])) := upd_same
    generalize upd H1 D (.dT []) = H3 at e03 hF3 hB3 alb3 hD3 ⊢
    have nB : B ≠ D := ne_of hB3 hD3 (fun z => nomatch z)
    have nF : F ≠ D := ne_of hF3 hD3 (fun z => nomatch z)
    have zx : ∀ {H'}, But D H3 H' → Zx H3 H' := fun b => b.zx hD3 (fun q => q)
    have ex0 : ∀ {H'}, But D H3 H' → Ex H H' := fun b => But.ex e03 b hDn
    refine ⟨_, _, _, e03 _ _ ho, T.c_Puzzle, T.n_Puzzle_ties, _, rfl, _, rfl, ⟨_, sq_t (e03 _ _ hc)⟩, ?_⟩
    refine for_gen (G := fun H' => But D H3 H') (wk_tup (f := rTi) (xs := z.ties) fun H' g => ⟨us, sq_t (ex0 g _ _ hc), al.up (ex0 g)⟩) (fun i σ' H' => But D H3 H' ∧ ∃ dd x3 x6 x7 x8 x9 x10, σ' = [some (.ref o), some (.ref a), some (.ref F), x3, some (.ref B), some (.ref D), x6, x7, x8, x9, x10] ∧ H' D = some (.dT (dt dd)) ∧ SoInv z.n st dd ∧ dd.length ≤ 8 * i ∧ ∀ s, Keeps st s → WW dd s = ((z.ties.take i).map (tieVal z.book (rowOf s z.n))).sum) ⟨But.rf _ _, [], _, _, _, _, _, _, rfl, hD3, ⟨.nil, fun e he => nomatch he⟩, Nat.le_refl _, fun s _ => rfl⟩ (fun _ _ _ _ h => h.1) ?_ ?_
    · rintro i t v σ' H4 H5 hi ⟨b4, dd, x3, x6, x7, x8, x9, x10, rfl, hdd, inv, hdl, hw⟩ e5 ⟨ta, y1, y2, y3, rfl, hta, h1, h2, h3⟩
      cases h1
      cases h3
      obtain ⟨cb, rfl, hcb⟩ := h2.of
      have b5 : But D H3 H5 := b4.tr e5.but
      have hdd5 := e5 _ _ hdd
      obtain ⟨p, hp, hl, hcs, hti, hti2⟩ := hz.2.2.2 t (List.mem_of_getElem? hi)
      have hpk := hz.1.2.2 p (List.mem_of_getElem? hp)
      obtain ⟨tv, htv, ut, hut, htu⟩ := alb3.get hp
      have htu5 := Im.upT (zx b5).tx htu
      obtain ⟨ua, uvs, rfl, hua, alu⟩ := htu5
      walk_at "st"
      refine ⟨_, sq_t hta, rfl, ?_⟩
      walk_at "st"
      refine ixL (sq_l (b5 _ _ nB hB3)) (by omega) (get_toNat htv) ?_
      walk_at "st"
      refine ⟨⟨_, sq_t hua⟩, ?_⟩
      have hil := (List.getElem?_eq_some_iff.mp hi).1
      have hul : ut.length ≤ 8 := Nat.le_trans hut.2.2 (Nat.pow_le_pow_right (n := 2) (by decide) hpk.2.1)
      have zx5 : ∀ {H'}, But D H5 H' → Zx H5 H' := fun b => b.zx hdd5 (fun q => q)
      refine for_gen (G := fun H' => But D H5 H') (wk_tup (f := rTe) (xs := ut) fun H' g => ⟨uvs, sq_t ((zx5 g).tx _ _ hua), alu.upZ (zx5 g)⟩) (fun j σ' H' => But D H5 H' ∧ ∃ d2 x8 x9 x10, σ' = [some (.ref o), some (.ref a), some (.ref F), some (.int t.1), some (.ref B), some (.ref D), some (.ref cb), some (.int t.2.2), x8, x9, x10] ∧ H' D = some (.dT (dt d2)) ∧ SoInv z.n st d2 ∧ d2.length ≤ dd.length + j ∧ ∀ s, Keeps st s → WW d2 s = WW dd s + WW (ut.take j) (cs t.2.1 s) * t.2.2) ⟨But.rf _ _, dd, _, _, _, rfl, hdd5, inv, Nat.le_refl _, fun s _ => by rw [show ut.take 0 = [] from rfl, WW_nil, Int.zero_mul, Int.add_zero]⟩ (fun _ _ _ _ h => h.1) ?_ ?_
      · rintro j e v σ' H6 H7 hj ⟨b6, d2, x8, x9, x10, rfl, hd6, inv2, hdl2, hw2⟩ e7 ⟨te, z1, z2, rfl, hte, hz1, hz2⟩
        cases hz2
        obtain ⟨pb, rfl, hpb⟩ := hz1.of
        have hem := hut.2.1 e (List.mem_of_getElem? hj)
        have b7 : But D H5 H7 := b6.tr e7.but
        have b37 : But D H3 H7 := b5.tr b7
        have hjl := (List.getElem?_eq_some_iff.mp hj).1
        walk_at "st"
        refine ⟨_, sq_t hte, rfl, ?_⟩
        walk_at "st"
        refine ⟨_, ⟨pb, cb, F, st, e.1, t.2.1, rfl, hpb, (zx5 b7).tx _ _ hcb, b37 _ _ nF hF3, by rw [hl]; exact hem.2.2.1, by have := hem.2.2.2; have := hpk.2.1; omega, rfl⟩, fun v H8 e8 hv => ?_⟩
        have hd8 := e8 _ _ (e7 _ _ hd6)
        have wstep : ∀ s, WW (ut.take (j + 1)) (cs t.2.1 s) = WW (ut.take j) (cs t.2.1 s) + WT e (cs t.2.1 s) := fun s => by
          rw [List.take_add_one, hj, WW_app]
          show _ + WW [e] _ = _
          rw [WW_cons, WW_nil, Int.add_zero]
        unfold rLe at hv
        walk_at "st"
        by_cases hzero : ∃ l ∈ e.1, gt st (t.2.1.getD l.toNat 0) = some 0
        · rw [if_pos hzero] at hv
          subst hv
          rw [if_neg (by simp)]
          refine ⟨b7.tr e8.but, d2, hd8, inv2, by omega, fun s hs => ?_⟩
          rw [hw2 s hs, wstep s]
          have hz0 : WT e (cs t.2.1 s) = 0 := by
            unfold WT
            rw [let_zero hs hzero] <;> rfl
          rw [hz0, Int.add_zero]
        · rw [if_neg hzero] at hv
          obtain ⟨ls, hls, hv⟩ := hv
          obtain ⟨lb, rfl, hlb⟩ := hv.of
          rw [if_pos (by simp)]
          have hget : ((gt d2 ls).map V.int).getD (.int 0) = .int ((gt d2 ls).getD 0) := by
            cases gt d2 ls <;> rfl
          have hls2 : ∀ l ∈ ls, 0 ≤ l ∧ l < (z.n : Int) := fun c hc => by
            obtain ⟨_, l, hl', rfl⟩ := (hls.2 c).mp hc
            obtain ⟨l0, l1⟩ := hem.2.2.1 l hl'
            have hll : l.toNat < t.2.1.length := by omega
            rw [List.getD_eq_getElem?_getD, List.getElem?_eq_getElem hll]
            exact hcs _ (List.getElem_mem hll)
          refine ⟨.inr ⟨_, .inl hd8⟩, _, dget_t hd8 hlb, .inr ⟨by omega, by omega⟩, _, hget, _, dput_t hd8 hlb _ (by have := hz.2.2.1; omega), (b7.tr e8.but).tr But.mut, _, upd_same, so_pt inv2 hls.1 hls2 (by have := let_len hls; have := hem.2.2.2; have := hpk.2.1; omega) (fun l hl' => ((hls.2 l).mp hl').1) _, by have := pt_len d2 ls ((gt d2 ls).getD 0 + e.2 * t.2.2); omega, fun s hs => ?_⟩
          rw [so_step hst hs hzero hls inv2 e.2 t.2.2, hw2 s hs, wstep s, Int.add_mul]
          show _ + WT e (cs t.2.1 s) * t.2.2 = _
          omega
      · rintro σ' H' ⟨b6, d2, x8, x9, x10, rfl, hd6, inv2, hdl2, hw2⟩
        rw [List.take_length] at hw2
        walk_at "st"
        refine ⟨b5.tr b6, d2, hd6, inv2, by omega, fun s hs => ?_⟩
        rw [hw2 s hs, hw s hs, sum_take _ hi, told_row hut hl hcs]
        unfold tieVal
        rw [prAt_of hp, Int.mul_comm (cost p _)]
    · rintro σ' H' ⟨b4, dd, x3, x6, x7, x8, x9, x10, rfl, hdd, inv, hdl, hw⟩
      rw [List.take_length] at hw
      walk_at "st"
      have hdl2 : dd.length ≤ 480 := by have := hz.2.2.1; omega
      refine ⟨_, ⟨D, dd, rfl, hdd, inv.nod, by omega, rfl⟩, fun v H6 e6 h6 => ?_⟩
      obtain ⟨tt, htt, h6⟩ := h6
      refine q _ _ ((ex0 b4).tr e6) ⟨tt, ⟨⟨told_keys inv.nod htt, fun e he => ?_⟩, fun e he => (inv.mem e (told_mem htt he).1).2.2.2, fun s hs => ?_, by have := told_len htt; omega⟩, h6⟩
      · have := inv.mem e (told_mem htt he).1
        exact ⟨(told_mem htt he).2, this.1, this.2.1, this.2.2.1⟩
      · rw [told_WW inv.nod htt, hw s hs] <;> rfl
end Cut
end

section
set_option maxHeartbeats 4000000
namespace Cut
open PySem PySem.Spec L2
/-! ### tables that count -/
section
variable {κ : Type} [DecidableEq κ]
def gv (d : List (κ × Int)) (k : κ) : Int := (gt d k).getD 0
def SW (f : κ → Bool) (d : List (κ × Int)) : Int := (d.map fun e => if f e.1 = true then e.2 else 0).sum
theorem SW_nil (f : κ → Bool) : SW f [] = 0 := rfl
theorem SW_cons (f : κ → Bool) (e : κ × Int) (d : List (κ × Int)) : SW f (e :: d) = (if f e.1 = true then e.2 else 0) + SW f d := by
  unfold SW
  rw [List.map_cons, List.sum_cons]
theorem SW_app (f : κ → Bool) (d e : List (κ × Int)) : SW f (d ++ e) = SW f d + SW f e := by
  unfold SW
  rw [List.map_append, List.sum_append]
theorem SW_pt (f : κ → Bool) {d : List (κ × Int)} (nd : (d.map (·.1)).Nodup) (k : κ) (n : Int) : SW f (pt d k n) = SW f d + if f k = true then n - gv d k else 0 := by
  unfold pt gv
  rw [any_key]
  by_cases c : (gt d k).isSome = true
  · rw [if_pos c]
    obtain ⟨v, hv⟩ := Option.isSome_iff_exists.mp c
    rw [hv]
    show _ = _ + if f k = true then n - v else 0
    clear c
    induction d with
    | nil => cases hv
    | cons e d ih =>
      rw [List.map_cons, List.nodup_cons] at nd
      rw [List.map_cons, SW_cons, SW_cons]
      rw [gt_cons] at hv
      by_cases ce : e.1 = k
      · rw [if_pos ce] at hv
        cases hv
        have hno : d.map (fun e => if e.1 = k then (e.1, n) else e) = d := by
          have : ∀ f ∈ d, (if f.1 = k then (f.1, n) else f) = id f := fun f hf => by
            rw [if_neg (fun z => nd.1 (List.mem_map.mpr ⟨f, hf, z.trans ce.symm⟩))]
            rfl
          rw [List.map_congr_left this, List.map_id]
        rw [hno, if_pos ce]
        rw [ce]
        split <;> simp <;> omega
      · rw [if_neg ce] at hv
        rw [if_neg ce, ih nd.2 hv]
        omega
  · have hn : gt d k = none := by simpa using c
    rw [if_neg c, SW_app, hn]
    show _ = _ + if f k = true then n - 0 else 0
    rw [Int.sub_zero, SW_cons, SW_nil, Int.add_zero]
theorem gv_pt (d : List (κ × Int)) (k j : κ) (n : Int) : gv (pt d k n) j = if j = k then n else gv d j := by
  unfold gv
  rw [gt_pt]
  split <;> rfl
theorem gv_of_mem {d : List (κ × Int)} (nd : (d.map (·.1)).Nodup) {k : κ} {v : Int} (h : (k, v) ∈ d) : gv d k = v := by
  unfold gv
  rw [gt_of_mem nd h] <;> rfl
end
theorem WW_SW (t : Told) (s : Int → Bool) : WW t s = SW (fun k => k.all s) t := rfl
/-! ### a network that is being made -/
structure MkS where
  base : Int
  single : List (Int × Int)
  pairs : Told
  triples : Told
  arcs : List (Int × Int × Int)
def shf (ls : List Int) : List Int := ls.map fun l => 2 + l
def in0 (n : Nat) : MkS := ⟨0, (List.range n).map fun (i : Nat) => (2 + (i : Int), 0), [], [], []⟩
def inI (m : MkS) (e : List Int × Int) : MkS :=
  if e.1.length = 0 then { m with base := e.2 } else if e.1.length = 1 then { m with single := pt m.single ((shf e.1).getD 0 0) e.2 }
  else if e.1.length = 2 then { m with pairs := pt m.pairs (shf e.1) e.2 } else { m with triples := m.triples ++ [(shf e.1, e.2)] }
def inM (n : Nat) (t : Told) : MkS := t.foldl inI (in0 n)
def stepT (n h : Int) (m : MkS) (v : Int) : MkS := if n < 0 then { m with arcs := m.arcs ++ [(h, v, -n)] } else { m with arcs := m.arcs ++ [(v, h, n)], single := pt m.single v (gv m.single v - n) }
def stepP (n : Int) (m : MkS) (k : List Int) : MkS := { m with pairs := pt m.pairs k (gv m.pairs k + n) }
def prs (ns : List Int) : List (List Int) := (pairs2 ns).map fun q => [q.1, q.2]
def putT (m : MkS) (e : List Int × Int) (h : Int) : MkS :=
  let m1 := e.1.foldl (stepT e.2 h) { m with single := pt m.single h e.2 }
  if 0 < e.2 then (prs e.1).foldl (stepP e.2) m1 else m1
def putP1 (m : MkS) (e : List Int × Int) : MkS := if e.2 < 0 then { m with single := pt m.single (e.1.getD 0 0) (gv m.single (e.1.getD 0 0) + e.2), arcs := m.arcs ++ [(e.1.getD 0 0, e.1.getD 1 0, -e.2)] } else m
def putS1 (m : MkS) (e : Int × Int) : MkS := if 0 < e.2 then { m with arcs := m.arcs ++ [(e.1, 1, e.2)] } else if e.2 < 0 then { m with base := m.base + e.2, arcs := m.arcs ++ [(0, e.1, -e.2)] } else m
def putP (m : MkS) : MkS := m.pairs.foldl putP1 m
def putS (m : MkS) : MkS := m.single.foldl putS1 m
def putTs (h : Int) (m : MkS) : MkS := (enu m.triples).foldl (fun m' p => putT m' p.2 (h + p.1)) m
def netM (n : Nat) (t : Told) : MkS := putS (putP (putTs (2 + (n : Int)) (inM n t)))
/-! ### what it is worth -/
def b2 (b : Bool) : Int := if b = true then 1 else 0
def CW (A : List (Int × Int × Int)) (y : Int → Bool) : Int := (A.map fun a => if (y a.1 && !y a.2.1) = true then a.2.2 else 0).sum
theorem CW_nil (y : Int → Bool) : CW [] y = 0 := rfl
theorem CW_app (A B : List (Int × Int × Int)) (y : Int → Bool) : CW (A ++ B) y = CW A y + CW B y := by
  unfold CW
  rw [List.map_append, List.sum_append]
theorem CW_one (a : Int × Int × Int) (y : Int → Bool) : CW [a] y = if (y a.1 && !y a.2.1) = true then a.2.2 else 0 := by
  unfold CW
  simp
def En (m : MkS) (y : Int → Bool) : Int := m.base + SW y m.single + WW m.pairs y + CW m.arcs y
structure MkI (N : Int) (m : MkS) : Prop where
  ns : (m.single.map (·.1)).Nodup
  ks : ∀ k, k ∈ m.single.map (·.1) ↔ 2 ≤ k ∧ k < N
  np : (m.pairs.map (·.1)).Nodup
  kp : ∀ k ∈ m.pairs.map (·.1), ∃ a b, k = [a, b] ∧ 2 ≤ a ∧ a < N ∧ 2 ≤ b ∧ b < N
  ka : ∀ a ∈ m.arcs, 0 ≤ a.1 ∧ a.1 < N ∧ 0 ≤ a.2.1 ∧ a.2.1 < N ∧ 0 < a.2.2
theorem pt_ks {d : List (Int × Int)} {N : Int} (ks : ∀ k, k ∈ d.map (·.1) ↔ 2 ≤ k ∧ k < N) {k : Int} (h : 2 ≤ k ∧ k < N) (v : Int) : ∀ j, j ∈ (pt d k v).map (·.1) ↔ 2 ≤ j ∧ j < N := fun j => by
  rw [key_mem, gt_pt]
  by_cases c : j = k
  · rw [if_pos c, c]
    exact ⟨fun _ => h, fun _ => rfl⟩
  · rw [if_neg c, ← key_mem]
    exact ks j
theorem pt_kp {α : Type} {d : List (List Int × α)} {P : List Int → Prop} (ks : ∀ k ∈ d.map (·.1), P k) {k : List Int} (h : P k) (v : α) : ∀ j ∈ (pt d k v).map (·.1), P j := fun j hj => by
  rw [key_mem, gt_pt] at hj
  by_cases c : j = k
  · rw [c]
    exact h
  · rw [if_neg c, ← key_mem] at hj
    exact ks j hj
/-! one turn of the nodes -/
theorem stepT_I {N n h v : Int} {m : MkS} (I : MkI N m) (hn : n ≠ 0) (hh : 2 ≤ h ∧ h < N) (hv : 2 ≤ v ∧ v < N) : MkI N (stepT n h m v) := by
  unfold stepT
  split
  · refine ⟨I.ns, I.ks, I.np, I.kp, fun a ha => ?_⟩
    rcases List.mem_append.mp ha with z | z
    · exact I.ka a z
    · rw [List.mem_singleton] at z
      subst z
      exact ⟨by show 0 ≤ h; omega, hh.2, by show 0 ≤ v; omega, hv.2, by show 0 < -n; omega⟩
  · refine ⟨pt_nodup I.ns _ _, pt_ks I.ks hv _, I.np, I.kp, fun a ha => ?_⟩
    rcases List.mem_append.mp ha with z | z
    · exact I.ka a z
    · rw [List.mem_singleton] at z
      subst z
      exact ⟨by show 0 ≤ v; omega, hv.2, by show 0 ≤ h; omega, hh.2, by show 0 < n; omega⟩
theorem stepT_E {N n h v : Int} {m : MkS} (I : MkI N m) (y : Int → Bool) : En (stepT n h m v) y = En m y + if n < 0 then -n * (b2 (y h) * (1 - b2 (y v))) else n * (b2 (y v) * (1 - b2 (y h)) - b2 (y v)) := by
  unfold stepT
  split
  · unfold En
    show _ + _ + _ + CW (m.arcs ++ [(h, v, -n)]) y = _
    rw [CW_app, CW_one]
    show _ + _ + _ + (_ + if (y h && !y v) = true then -n else 0) = _
    unfold b2
    cases y h <;> cases y v <;> simp <;> omega
  · unfold En
    show _ + SW y (pt m.single v (gv m.single v - n)) + _ + CW (m.arcs ++ [(v, h, n)]) y = _
    rw [CW_app, CW_one, SW_pt y I.ns]
    show _ + (_ + if y v = true then _ else _) + _ + (_ + if (y v && !y h) = true then n else 0) = _
    unfold b2
    cases y h <;> cases y v <;> simp <;> omega
theorem stepP_I {N n : Int} {m : MkS} (I : MkI N m) {k : List Int} (hk : ∃ a b, k = [a, b] ∧ 2 ≤ a ∧ a < N ∧ 2 ≤ b ∧ b < N) : MkI N (stepP n m k) :=
  ⟨I.ns, I.ks, pt_nodup I.np _ _, pt_kp I.kp hk _, I.ka⟩
theorem stepP_E {N n : Int} {m : MkS} (I : MkI N m) (k : List Int) (y : Int → Bool) : En (stepP n m k) y = En m y + if k.all y = true then n else 0 := by
  unfold stepP En
  show _ + _ + WW (pt m.pairs k (gv m.pairs k + n)) y + _ = _
  rw [WW_SW, SW_pt _ I.np, ← WW_SW]
  dsimp only
  split <;> omega
theorem MkI.grow {N : Int} {m : MkS} (I : MkI N m) (hN : 2 ≤ N) (n : Int) : MkI (N + 1) { m with single := pt m.single N n } := by
  refine ⟨pt_nodup I.ns _ _, fun j => ?_, I.np, fun k hk => ?_, fun a ha => ?_⟩
  · show j ∈ (pt m.single N n).map (·.1) ↔ _
    rw [key_mem, gt_pt]
    by_cases c : j = N
    · rw [if_pos c, c]
      exact ⟨fun _ => by omega, fun _ => rfl⟩
    · rw [if_neg c, ← key_mem, I.ks]
      omega
  · obtain ⟨a, b, h⟩ := I.kp k hk
    exact ⟨a, b, h.1, h.2.1, by omega, h.2.2.2.1, by omega⟩
  · have := I.ka a ha
    exact ⟨this.1, by omega, this.2.2.1, by omega, this.2.2.2.2⟩
/-- the helper's best value -/
def hv (e : List Int × Int) (y : Int → Bool) : Bool := if e.2 < 0 then e.1.all y else decide (2 ≤ (e.1.map fun v => b2 (y v)).sum)
theorem putT_all {N : Int} {m : MkS} (I : MkI N m) (hN : 2 ≤ N) {e : List Int × Int} (hl : e.1.length = 3) (hn : e.2 ≠ 0) (hb : ∀ v ∈ e.1, 2 ≤ v ∧ v < N) :
    MkI (N + 1) (putT m e N) ∧ ∀ y, En m y + WT e y ≤ En (putT m e N) y ∧ (y N = hv e y → En (putT m e N) y = En m y + WT e y) := by
  obtain ⟨ns, n⟩ := e
  obtain ⟨a, b, c, rfl⟩ : ∃ a b c, ns = [a, b, c] := by
    match ns, hl with
    | [a, b, c], _ => exact ⟨a, b, c, rfl⟩
  have ha := hb a (by simp)
  have hb' := hb b (by simp)
  have hc := hb c (by simp)
  have hn' : n ≠ 0 := hn
  have g0 : gv m.single N = 0 := by
    unfold gv
    cases hg : gt m.single N with
    | none => rfl
    | some v =>
      have := (I.ks N).mp ((key_mem _ _).mpr (by rw [hg] <;> rfl))
      omega
  have I0 := I.grow hN n
  have E0 : ∀ y, En { m with single := pt m.single N n } y = En m y + n * b2 (y N) := fun y => by
    unfold En
    show _ + SW y (pt m.single N n) + _ + _ = _
    rw [SW_pt y I.ns, g0]
    unfold b2
    cases y N <;> simp <;> omega
  have q : ∀ {x}, 2 ≤ x ∧ x < N → 2 ≤ x ∧ x < N + 1 := fun h => by omega
  have hN1 : 2 ≤ N ∧ N < N + 1 := by omega
  have I1 := stepT_I (n := n) (h := N) I0 hn' hN1 (q ha)
  have I2 := stepT_I (n := n) (h := N) I1 hn' hN1 (q hb')
  have I3 := stepT_I (n := n) (h := N) I2 hn' hN1 (q hc)
  have E1 := fun y => stepT_E (n := n) (h := N) (v := a) I0 y
  have E2 := fun y => stepT_E (n := n) (h := N) (v := b) I1 y
  have E3 := fun y => stepT_E (n := n) (h := N) (v := c) I2 y
  have two : ∀ {x z}, 2 ≤ x ∧ x < N → 2 ≤ z ∧ z < N → ∃ a b, [x, z] = [a, b] ∧ 2 ≤ a ∧ a < N + 1 ∧ 2 ≤ b ∧ b < N + 1 := fun {x z} h k => ⟨x, z, rfl, h.1, by omega, k.1, by omega⟩
  have J1 := stepP_I (n := n) I3 (two ha hb')
  have J2 := stepP_I (n := n) J1 (two ha hc)
  have J3 := stepP_I (n := n) J2 (two hb' hc)
  have F1 := fun y => stepP_E (n := n) I3 [a, b] y
  have F2 := fun y => stepP_E (n := n) J1 [a, c] y
  have F3 := fun y => stepP_E (n := n) J2 [b, c] y
  have hput : putT m ([a, b, c], n) N = if 0 < n then stepP n (stepP n (stepP n (stepT n N (stepT n N (stepT n N { m with single := pt m.single N n } a) b) c) [a, b]) [a, c]) [b, c] else stepT n N (stepT n N (stepT n N { m with single := pt m.single N n } a) b) c := rfl
  rw [hput]
  by_cases hp : 0 < n
  · rw [if_pos hp]
    refine ⟨J3, fun y => ?_⟩
    have hvn : hv ([a, b, c], n) y = decide (2 ≤ b2 (y a) + (b2 (y b) + (b2 (y c) + 0))) := by
      unfold hv
      rw [if_neg (by show ¬ n < 0; omega)]
      rfl
    rw [hvn, F3, F2, F1, E3, E2, E1, E0, if_neg (by omega : ¬ n < 0)]
    have hw : WT ([a, b, c], n) y = if (y a && (y b && y c)) = true then n else 0 := by
      unfold WT
      simp
    rw [hw]
    simp only [List.all_cons, List.all_nil, Bool.and_true]
    unfold b2
    cases y a <;> cases y b <;> cases y c <;> cases y N <;> simp <;> omega
  · rw [if_neg hp]
    refine ⟨I3, fun y => ?_⟩
    have hvn : hv ([a, b, c], n) y = (y a && (y b && y c)) := by
      unfold hv
      rw [if_pos (by show n < 0; omega)]
      simp
    have hw : WT ([a, b, c], n) y = if (y a && (y b && y c)) = true then n else 0 := by
      unfold WT
      simp
    rw [hvn, hw, E3, E2, E1, E0, if_pos (by omega : n < 0)]
    unfold b2
    cases y a <;> cases y b <;> cases y c <;> cases y N <;> simp <;> omega
theorem foldl_ind {α β : Type} (P : Nat → β → Prop) (g : β → α → β) : ∀ (xs : List α) (i : Nat) (b : β), P i b → (∀ j x b, xs[j]? = some x → P (i + j) b → P (i + j + 1) (g b x)) → P (i + xs.length) (xs.foldl g b)
  | [], i, b, h, _ => h
  | x :: xs, i, b, h, s => by
    have h1 := s 0 x b rfl h
    have := foldl_ind P g xs (i + 1) (g b x) h1 fun j y b hj hb => by
      have := s (j + 1) y b (by simpa using hj) (by rw [show i + (j + 1) = i + 1 + j by omega]; exact hb)
      rw [show i + (j + 1) + 1 = i + 1 + j + 1 by omega] at this
      exact this
    rw [List.foldl_cons, List.length_cons, show i + (xs.length + 1) = i + 1 + xs.length by omega]
    exact this
theorem SW_take {κ : Type} (f : κ → Bool) {d : List (κ × Int)} {i : Nat} {e : κ × Int} (h : d[i]? = some e) : SW f (d.take (i + 1)) = SW f (d.take i) + if f e.1 = true then e.2 else 0 := by
  rw [List.take_add_one, h]
  show SW f (_ ++ [e]) = _
  unfold SW
  rw [List.map_append, List.sum_append]
  simp
/-! all triples -/
theorem putT_triples (m : MkS) (e : List Int × Int) (h : Int) : (putT m e h).triples = m.triples := by
  have h1 : ∀ (l : List Int) (m : MkS), (l.foldl (stepT e.2 h) m).triples = m.triples := by
    intro l
    induction l with
    | nil => intro m; rfl
    | cons v l ih =>
      intro m
      rw [List.foldl_cons, ih]
      unfold stepT
      split <;> rfl
  have h2 : ∀ (l : List (List Int)) (m : MkS), (l.foldl (stepP e.2) m).triples = m.triples := by
    intro l
    induction l with
    | nil => intro m; rfl
    | cons v l ih =>
      intro m
      rw [List.foldl_cons, ih] <;> rfl
  unfold putT
  dsimp only
  split
  · rw [h2, h1]
  · rw [h1]
theorem putTs_all {h : Nat} {m : MkS} (I : MkI (h : Int) m) (hN : 2 ≤ h) (ht : ∀ e ∈ m.triples, e.1.length = 3 ∧ e.2 ≠ 0 ∧ ∀ v ∈ e.1, 2 ≤ v ∧ v < (h : Int)) :
    MkI ((h + m.triples.length : Nat) : Int) (putTs (h : Int) m) ∧ ∀ y, En m y + WW m.triples y ≤ En (putTs (h : Int) m) y ∧ ((∀ p ∈ enu m.triples, y ((h : Int) + p.1) = hv p.2 y) → En (putTs (h : Int) m) y = En m y + WW m.triples y) := by
  have key := foldl_ind (fun i m' => MkI ((h + i : Nat) : Int) m' ∧ ∀ y, En m y + WW (m.triples.take i) y ≤ En m' y ∧ ((∀ p ∈ enu m.triples, y ((h : Int) + p.1) = hv p.2 y) → En m' y = En m y + WW (m.triples.take i) y))
    (fun m' (p : Nat × (List Int × Int)) => putT m' p.2 ((h : Int) + p.1)) (enu m.triples) 0 m ⟨I, fun y => ⟨by rw [show m.triples.take 0 = [] from rfl, WW_nil]; omega, fun _ => by rw [show m.triples.take 0 = [] from rfl, WW_nil]; omega⟩⟩ ?_
  · rw [enu_len, Nat.zero_add, List.take_length] at key
    exact key
  · rintro j p m' hj ⟨I', q⟩
    rw [Nat.zero_add] at I' q ⊢
    obtain ⟨h1, h2⟩ := enu_at hj
    obtain ⟨t1, t2, t3⟩ := ht _ (List.mem_of_getElem? h2)
    have e1 : ((h + j : Nat) : Int) = (h : Int) + (p.1 : Int) := by omega
    rw [e1] at I'
    obtain ⟨r1, r2⟩ := putT_all I' (by omega) t1 t2 fun v hv => by have := t3 v hv; omega
    have e2 : ((h + (j + 1) : Nat) : Int) = (h : Int) + (p.1 : Int) + 1 := by omega
    rw [e2]
    refine ⟨r1, fun y => ?_⟩
    obtain ⟨r3, r4⟩ := r2 y
    obtain ⟨q1, q2⟩ := q y
    have hw : WW (m.triples.take (j + 1)) y = WW (m.triples.take j) y + WT p.2 y := SW_take (fun k : List Int => k.all y) h2
    rw [hw]
    refine ⟨by omega, fun ha => ?_⟩
    have := r4 (ha p (List.mem_of_getElem? hj))
    have := q2 ha
    omega
/-! all pairs, all singles -/
def Fn (m : MkS) (y : Int → Bool) : Int := m.base + SW y m.single + CW m.arcs y
def Gn (m : MkS) (y : Int → Bool) : Int := m.base + CW m.arcs y
structure SgI (N : Int) (m : MkS) : Prop where
  ns : (m.single.map (·.1)).Nodup
  ks : ∀ k, k ∈ m.single.map (·.1) ↔ 2 ≤ k ∧ k < N
  ka : ∀ a ∈ m.arcs, 0 ≤ a.1 ∧ a.1 < N ∧ 0 ≤ a.2.1 ∧ a.2.1 < N ∧ 0 < a.2.2
theorem putP1_all {N : Int} {m : MkS} (I : SgI N m) {e : List Int × Int} (h0 : e.2 ≤ 0) (hk : ∃ a b, e.1 = [a, b] ∧ 2 ≤ a ∧ a < N ∧ 2 ≤ b ∧ b < N) : SgI N (putP1 m e) ∧ ∀ y, Fn (putP1 m e) y = Fn m y + WT e y := by
  obtain ⟨k, n⟩ := e
  obtain ⟨a, b, rfl, a2, aN, b2', bN⟩ := hk
  unfold putP1
  by_cases c : n < 0
  · rw [if_pos c]
    refine ⟨⟨pt_nodup I.ns _ _, pt_ks I.ks ⟨a2, aN⟩ _, fun z hz => ?_⟩, fun y => ?_⟩
    · rcases List.mem_append.mp hz with z1 | z1
      · exact I.ka z z1
      · rw [List.mem_singleton] at z1
        subst z1
        exact ⟨by show 0 ≤ a; omega, aN, by show 0 ≤ b; omega, bN, by show 0 < -n; omega⟩
    · unfold Fn WT
      show _ + SW y (pt m.single a (gv m.single a + n)) + CW (m.arcs ++ [(a, b, -n)]) y = _
      rw [CW_app, CW_one, SW_pt y I.ns]
      show _ + (_ + if y a = true then _ else _) + (_ + if (y a && !y b) = true then -n else 0) = _
      simp only [List.all_cons, List.all_nil, Bool.and_true]
      cases y a <;> cases y b <;> simp <;> omega
  · rw [if_neg c]
    refine ⟨I, fun y => ?_⟩
    have h0' : n ≤ 0 := h0
    have : n = 0 := by omega
    subst this
    unfold WT
    split <;> simp
theorem putS1_all {N : Int} {m : MkS} (hN : 2 ≤ N) (ka : ∀ a ∈ m.arcs, 0 ≤ a.1 ∧ a.1 < N ∧ 0 ≤ a.2.1 ∧ a.2.1 < N ∧ 0 < a.2.2) {e : Int × Int} (hk : 2 ≤ e.1 ∧ e.1 < N) : (∀ a ∈ (putS1 m e).arcs, 0 ≤ a.1 ∧ a.1 < N ∧ 0 ≤ a.2.1 ∧ a.2.1 < N ∧ 0 < a.2.2) ∧ ∀ y : Int → Bool, y 0 = true → y 1 = false → Gn (putS1 m e) y = Gn m y + if y e.1 = true then e.2 else 0 := by
  obtain ⟨k, n⟩ := e
  have hk' : 2 ≤ k ∧ k < N := hk
  unfold putS1
  by_cases c : 0 < n
  · rw [if_pos c]
    refine ⟨fun z hz => ?_, fun y h0 h1 => ?_⟩
    · rcases List.mem_append.mp hz with z1 | z1
      · exact ka z z1
      · rw [List.mem_singleton] at z1
        subst z1
        exact ⟨by show 0 ≤ k; omega, hk'.2, by show (0 : Int) ≤ 1; omega, by show 1 < N; omega, c⟩
    · unfold Gn
      show _ + CW (m.arcs ++ [(k, 1, n)]) y = _
      rw [CW_app, CW_one]
      show _ + (_ + if (y k && !y 1) = true then n else 0) = _ + if y k = true then n else 0
      rw [h1]
      cases y k <;> simp <;> omega
  · rw [if_neg c]
    by_cases c2 : n < 0
    · rw [if_pos c2]
      refine ⟨fun z hz => ?_, fun y h0 h1 => ?_⟩
      · rcases List.mem_append.mp hz with z1 | z1
        · exact ka z z1
        · rw [List.mem_singleton] at z1
          subst z1
          exact ⟨Int.le_refl _, by show 0 < N; omega, by show 0 ≤ k; omega, hk'.2, by show 0 < -n; omega⟩
      · unfold Gn
        show m.base + n + CW (m.arcs ++ [(0, k, -n)]) y = _
        rw [CW_app, CW_one]
        show m.base + n + (_ + if (y 0 && !y k) = true then -n else 0) = _ + if y k = true then n else 0
        rw [h0]
        cases y k <;> simp <;> omega
    · rw [if_neg c2]
      refine ⟨ka, fun y h0 h1 => ?_⟩
      have : n = 0 := by omega
      subst this
      split <;> simp
theorem putP_all {N : Int} {m : MkS} (I : MkI N m) (h0 : ∀ e ∈ m.pairs, e.2 ≤ 0) : SgI N (putP m) ∧ ∀ y, Fn (putP m) y = En m y := by
  have key := foldl_ind (fun i m' => SgI N m' ∧ ∀ y, Fn m' y = Fn m y + WW (m.pairs.take i) y) putP1 m.pairs 0 m ⟨⟨I.ns, I.ks, I.ka⟩, fun y => by rw [show m.pairs.take 0 = [] from rfl, WW_nil]; omega⟩ ?_
  · rw [Nat.zero_add, List.take_length] at key
    refine ⟨key.1, fun y => ?_⟩
    have := key.2 y
    show Fn (m.pairs.foldl putP1 m) y = _
    rw [this]
    unfold Fn En
    omega
  · rintro j e m' hj ⟨I', q⟩
    rw [Nat.zero_add] at q ⊢
    have he := List.mem_of_getElem? hj
    obtain ⟨r1, r2⟩ := putP1_all I' (h0 e he) (I.kp _ (List.mem_map.mpr ⟨e, he, rfl⟩))
    refine ⟨r1, fun y => ?_⟩
    have hw : WW (m.pairs.take (j + 1)) y = WW (m.pairs.take j) y + WT e y := SW_take (fun k : List Int => k.all y) hj
    rw [r2, q, hw]
    omega
theorem putS_all {N : Int} {m : MkS} (hN : 2 ≤ N) (I : SgI N m) : (∀ a ∈ (putS m).arcs, 0 ≤ a.1 ∧ a.1 < N ∧ 0 ≤ a.2.1 ∧ a.2.1 < N ∧ 0 < a.2.2) ∧ ∀ y : Int → Bool, y 0 = true → y 1 = false → Gn (putS m) y = Fn m y := by
  have key := foldl_ind (fun i m' => (∀ a ∈ m'.arcs, 0 ≤ a.1 ∧ a.1 < N ∧ 0 ≤ a.2.1 ∧ a.2.1 < N ∧ 0 < a.2.2) ∧ ∀ y : Int → Bool, y 0 = true → y 1 = false → Gn m' y = Gn m y + SW y (m.single.take i)) putS1 m.single 0 m ⟨I.ka, fun y _ _ => by rw [show m.single.take 0 = [] from rfl, SW_nil]; omega⟩ ?_
  · rw [Nat.zero_add, List.take_length] at key
    refine ⟨key.1, fun y h0 h1 => ?_⟩
    have := key.2 y h0 h1
    show Gn (m.single.foldl putS1 m) y = _
    rw [this]
    unfold Fn Gn
    omega
  · rintro j e m' hj ⟨I', q⟩
    rw [Nat.zero_add] at q ⊢
    have he := List.mem_of_getElem? hj
    obtain ⟨r1, r2⟩ := putS1_all hN I' ((I.ks e.1).mp (List.mem_map.mpr ⟨e, he, rfl⟩))
    refine ⟨r1, fun y h0 h1 => ?_⟩
    rw [r2 y h0 h1, q y h0 h1, SW_take y hj]
    omega
end Cut
end

section
set_option maxHeartbeats 4000000
namespace Cut
open PySem PySem.Spec L2
theorem shf_inj {a b : List Int} (h : shf a = shf b) : a = b := (List.map_inj_right (fun x y z => by omega)).mp h
theorem shf_all (ls : List Int) (y : Int → Bool) : (shf ls).all y = ls.all fun l => y (2 + l) := by
  unfold shf
  rw [List.all_map] <;> rfl
theorem shf_len (ls : List Int) : (shf ls).length = ls.length := by simp [shf]
/-! ### what the pairs come to -/
def cnt (qs : List (List Int)) (n : Int) (k : List Int) : Int := (qs.map fun q => if q = k then n else 0).sum
def PSm (t : Told) (k : List Int) : Int := (t.map fun e => if e.1.length = 2 ∨ 0 < e.2 then cnt (prs e.1) e.2 k else 0).sum
def PT (t : Told) (k : List Int) : Int := (t.map fun e => if 0 < e.2 then cnt (prs e.1) e.2 k else 0).sum
theorem sum_app {α : Type} (g : α → Int) (t u : List α) : ((t ++ u).map g).sum = (t.map g).sum + (u.map g).sum := by
  rw [List.map_append, List.sum_append]
theorem sum_tk {α : Type} (g : α → Int) {t : List α} {i : Nat} {e : α} (h : t[i]? = some e) : ((t.take (i + 1)).map g).sum = ((t.take i).map g).sum + g e := by
  rw [List.take_add_one, h]
  show ((t.take i ++ [e]).map g).sum = _
  rw [sum_app]
  simp
theorem gv_fold (n : Int) (k : List Int) : ∀ (qs : List (List Int)) (d : Told), gv (qs.foldl (fun d q => pt d q (gv d q + n)) d) k = gv d k + cnt qs n k
  | [], d => by simp [cnt]
  | q :: qs, d => by
    rw [List.foldl_cons, gv_fold n k qs, gv_pt]
    unfold cnt
    rw [List.map_cons, List.sum_cons]
    by_cases c : k = q
    · subst c
      rw [if_pos rfl, if_pos rfl]
      omega
    · rw [if_neg c, if_neg (Ne.symm c)]
      omega
theorem gv_bentI (d : Told) (e : List Int × Int) (k : List Int) : gv (bentI d e) k = gv d k + if e.1.length = 2 ∨ 0 < e.2 then cnt (prs e.1) e.2 k else 0 := by
  unfold bentI
  split
  · rw [← gv_fold e.2 k (prs e.1) d]
    unfold prs
    rw [List.foldl_map] <;> rfl
  · omega
theorem gv_bentP (t : Told) (k : List Int) : gv (bentP t) k = PSm t k := by
  have key := foldl_ind (fun i d => gv d k = PSm (t.take i) k) bentI t 0 [] rfl fun j e d hj hd => by
    rw [Nat.zero_add] at hd ⊢
    rw [gv_bentI, hd]
    exact (sum_tk _ hj).symm
  rw [Nat.zero_add, List.take_length] at key
  exact key
theorem bent_le {t : Told} (h : bentB t = true) (k : List Int) : PSm t k ≤ 0 := by
  rw [← gv_bentP]
  unfold gv
  cases hg : gt (bentP t) k with
  | none => exact Int.le_refl _
  | some v =>
    have := List.all_eq_true.mp h _ (gt_mem hg)
    exact of_decide_eq_true this
theorem le_bent {t : Told} (h : ∀ k, PSm t k ≤ 0) : bentB t = true := by
  unfold bentB
  rw [List.all_eq_true]
  intro e he
  have := h e.1
  rw [← gv_bentP, gv_of_mem (bentP_nodup t) (show (e.1, e.2) ∈ bentP t from he)] at this
  exact decide_eq_true this
theorem gv_putT (m : MkS) (e : List Int × Int) (h : Int) (k : List Int) : gv (putT m e h).pairs k = gv m.pairs k + if 0 < e.2 then cnt (prs e.1) e.2 k else 0 := by
  have h1 : ∀ (l : List Int) (m : MkS), (l.foldl (stepT e.2 h) m).pairs = m.pairs := by
    intro l
    induction l with
    | nil => intro m; rfl
    | cons v l ih =>
      intro m
      rw [List.foldl_cons, ih]
      unfold stepT
      split <;> rfl
  have h2 : ∀ (l : List (List Int)) (m : MkS), (l.foldl (stepP e.2) m).pairs = l.foldl (fun d q => pt d q (gv d q + e.2)) m.pairs := by
    intro l
    induction l with
    | nil => intro m; rfl
    | cons v l ih =>
      intro m
      rw [List.foldl_cons, ih] <;> rfl
  unfold putT
  dsimp only
  split
  · rw [h2, h1, gv_fold]
  · rw [h1]
    show gv m.pairs k = _
    omega
theorem gv_putTs (h : Int) (m : MkS) (k : List Int) : gv (putTs h m).pairs k = gv m.pairs k + PT m.triples k := by
  have key := foldl_ind (fun i m' => gv m'.pairs k = gv m.pairs k + PT (m.triples.take i) k) (fun m' (p : Nat × (List Int × Int)) => putT m' p.2 (h + p.1)) (enu m.triples) 0 m (by show _ = _ + 0; omega) fun j p m' hj hm => by
    rw [Nat.zero_add] at hm ⊢
    obtain ⟨h1, h2⟩ := enu_at hj
    rw [gv_putT, hm]
    have : PT (m.triples.take (j + 1)) k = PT (m.triples.take j) k + _ := sum_tk _ h2
    rw [this]
    omega
  rw [enu_len, Nat.zero_add, List.take_length] at key
  exact key
/-! ### what is put in first -/
structure InI (n : Nat) (t : Told) (i : Nat) (m : MkS) : Prop where
  I : MkI (2 + (n : Int)) m
  a0 : m.arcs = []
  tr : ∀ e ∈ m.triples, e.1.length = 3 ∧ e.2 ≠ 0 ∧ ∀ v ∈ e.1, 2 ≤ v ∧ v < 2 + (n : Int)
  en : ∀ y : Int → Bool, En m y + WW m.triples y = WW (t.take i) (fun l => y (2 + l))
  ub : m.base ≠ 0 → [] ∈ (t.take i).map (·.1)
  us : ∀ k, gv m.single (2 + k) ≠ 0 → [k] ∈ (t.take i).map (·.1)
  up : ∀ k, shf k ∈ m.pairs.map (·.1) → k ∈ (t.take i).map (·.1)
  ps : ∀ k, gv m.pairs (shf k) + PT m.triples (shf k) = PSm (t.take i) k
theorem in0_I (n : Nat) (t : Told) : InI n t 0 (in0 n) := by
  have hmap : (in0 n).single.map (·.1) = (List.range n).map fun (i : Nat) => 2 + (i : Int) := by
    unfold in0
    rw [List.map_map] <;> rfl
  have hz : ∀ k, gv (in0 n).single k = 0 := fun k => by
    unfold gv
    cases hg : gt (in0 n).single k with
    | none => rfl
    | some v =>
      obtain ⟨i, _, h⟩ := List.mem_map.mp (gt_mem hg)
      cases h
      rfl
  refine ⟨⟨?_, fun k => ?_, .nil, fun k hk => (nomatch hk), fun a ha => (nomatch ha)⟩, rfl, fun e he => (nomatch he), fun y => ?_, fun h => absurd rfl h, fun k h => absurd (hz _) h, fun k hk => (nomatch hk), fun k => rfl⟩
  · rw [hmap]
    exact List.nodup_range.map (f := fun (i : Nat) => 2 + (i : Int)) (fun a b h => by intro z; apply h; omega)
  · rw [hmap, List.mem_map]
    constructor
    · rintro ⟨i, hi, rfl⟩
      rw [List.mem_range] at hi
      omega
    · rintro ⟨h1, h2⟩
      exact ⟨(k - 2).toNat, List.mem_range.mpr (by omega), by omega⟩
  · show (0 : Int) + SW y (in0 n).single + 0 + 0 + 0 = 0
    have : SW y (in0 n).single = 0 := by
      unfold SW in0
      rw [List.map_map]
      have : ∀ l : List Nat, (l.map ((fun e : Int × Int => if y e.1 = true then e.2 else 0) ∘ fun (i : Nat) => (2 + (i : Int), 0))).sum = 0 := by
        intro l
        induction l with
        | nil => rfl
        | cons a l ih =>
          rw [List.map_cons, List.sum_cons, ih]
          simp
      exact this _
    omega
theorem not_seen {t : Told} (nd : (t.map (·.1)).Nodup) {i : Nat} {e : List Int × Int} (h : t[i]? = some e) : e.1 ∉ (t.take i).map (·.1) := by
  intro hm
  rw [List.map_take] at hm
  obtain ⟨j, hj⟩ := List.mem_iff_getElem?.mp hm
  have hi : (t.map (·.1))[i]? = some e.1 := by rw [List.getElem?_map, h] <;> rfl
  rw [List.getElem?_take] at hj
  split at hj
  · obtain ⟨l1, e1⟩ := List.getElem?_eq_some_iff.mp hi
    obtain ⟨l2, e2⟩ := List.getElem?_eq_some_iff.mp hj
    have := (List.nodup_iff_pairwise_ne.mp nd)
    rw [List.pairwise_iff_getElem] at this
    exact this j i l2 l1 (by omega) (by rw [e1, e2])
  · cases hj
theorem prs2 (a b : Int) : prs [a, b] = [[a, b]] := rfl
theorem prs3 (a b c : Int) : prs [a, b, c] = [[a, b], [a, c], [b, c]] := rfl
theorem in_step {n i : Nat} {t : Told} {m : MkS} {e : List Int × Int} (h : InI n t i m) (nd : (t.map (·.1)).Nodup) (hi : t[i]? = some e) (h0 : e.2 ≠ 0) (hb : ∀ l ∈ e.1, 0 ≤ l ∧ l < (n : Int)) (h3 : e.1.length ≤ 3) : InI n t (i + 1) (inI m e) := by
  have fresh := not_seen nd hi
  have hk : ∀ k, k ∈ (t.take (i + 1)).map (·.1) ↔ k ∈ (t.take i).map (·.1) ∨ k = e.1 := fun k => by
    rw [List.take_add_one, hi, List.map_append, List.mem_append]
    simp
  have hw : ∀ s, WW (t.take (i + 1)) s = WW (t.take i) s + WT e s := fun s => SW_take (fun k : List Int => k.all s) hi
  have hp : ∀ k, PSm (t.take (i + 1)) k = PSm (t.take i) k + if e.1.length = 2 ∨ 0 < e.2 then cnt (prs e.1) e.2 k else 0 := fun k => sum_tk _ hi
  obtain ⟨ls, v⟩ := e
  have h0' : v ≠ 0 := h0
  match ls, h3, hb, fresh, hk, hw, hp with
  | [], _, hb, fresh, hk, hw, hp =>
    have b0 : m.base = 0 := Classical.byContradiction fun z => fresh (h.ub z)
    refine ⟨⟨h.I.ns, h.I.ks, h.I.np, h.I.kp, h.I.ka⟩, h.a0, h.tr, fun y => ?_, fun _ => (hk _).mpr (.inr rfl), fun k hn => (hk _).mpr (.inl (h.us k hn)), fun k hn => (hk _).mpr (.inl (h.up k hn)), fun k => ?_⟩
    · rw [hw, ← h.en y]
      unfold En WT
      show v + SW y m.single + WW m.pairs y + CW m.arcs y + WW m.triples y = m.base + SW y m.single + WW m.pairs y + CW m.arcs y + WW m.triples y + v
      rw [b0]
      omega
    · rw [hp, ← h.ps k]
      show gv m.pairs (shf k) + PT m.triples (shf k) = gv m.pairs (shf k) + PT m.triples (shf k) + if (([] : List Int).length = 2 ∨ 0 < v) then 0 else 0
      rw [ite_self]
      exact (Int.add_zero _).symm
  | [a], _, hb, fresh, hk, hw, hp =>
    have ha := hb a (by simp)
    have g0 : gv m.single (2 + a) = 0 := Classical.byContradiction fun z => fresh (h.us a z)
    refine ⟨⟨pt_nodup h.I.ns _ _, pt_ks h.I.ks (by show 2 ≤ 2 + a ∧ 2 + a < _; omega) _, h.I.np, h.I.kp, h.I.ka⟩, h.a0, h.tr, fun y => ?_, fun z => (hk _).mpr (.inl (h.ub z)), fun k hn => (hk _).mpr ?_, fun k hn => (hk _).mpr (.inl (h.up k hn)), fun k => ?_⟩
    · rw [hw, ← h.en y]
      unfold En WT
      show m.base + SW y (pt m.single (2 + a) v) + _ + _ + _ = m.base + _ + _ + _ + _ + if ([a].all fun l => y (2 + l)) = true then v else 0
      rw [SW_pt y h.I.ns, g0]
      simp only [List.all_cons, List.all_nil, Bool.and_true]
      show m.base + (_ + _) + WW m.pairs y + CW m.arcs y + WW m.triples y = _
      split <;> omega
    · have hn' : gv (pt m.single (2 + a) v) (2 + k) ≠ 0 := hn
      rw [gv_pt] at hn'
      by_cases c : k = a
      · exact .inr (by rw [c])
      · rw [if_neg (by omega)] at hn'
        exact .inl (h.us k hn')
    · rw [hp, ← h.ps k]
      show gv m.pairs (shf k) + PT m.triples (shf k) = gv m.pairs (shf k) + PT m.triples (shf k) + if (([a] : List Int).length = 2 ∨ 0 < v) then 0 else 0
      rw [ite_self]
      exact (Int.add_zero _).symm
  | [a, b], _, hb, fresh, hk, hw, hp =>
    have ha := hb a (by simp)
    have hb' := hb b (by simp)
    have gn : gt m.pairs (shf [a, b]) = none := by
      cases hg : gt m.pairs (shf [a, b]) with
      | none => rfl
      | some v => exact absurd (h.up _ ((key_mem _ _).mpr (by rw [hg] <;> rfl))) fresh
    have g0 : gv m.pairs (shf [a, b]) = 0 := by
      unfold gv
      rw [gn] <;> rfl
    refine ⟨⟨h.I.ns, h.I.ks, pt_nodup h.I.np _ _, pt_kp h.I.kp ⟨2 + a, 2 + b, rfl, by omega, by omega, by omega, by omega⟩ _, h.I.ka⟩, h.a0, h.tr, fun y => ?_, fun z => (hk _).mpr (.inl (h.ub z)), fun k hn => (hk _).mpr (.inl (h.us k hn)), fun k hn => (hk _).mpr ?_, fun k => ?_⟩
    · rw [hw, ← h.en y]
      unfold En
      show m.base + _ + WW (pt m.pairs (shf [a, b]) v) y + _ + _ = _
      rw [WW_SW, SW_pt _ h.I.np, g0, ← WW_SW, shf_all]
      unfold WT
      show m.base + SW y m.single + (WW m.pairs y + _) + CW m.arcs y + WW m.triples y = _
      dsimp only
      split <;> omega
    · have hn' : shf k ∈ (pt m.pairs (shf [a, b]) v).map (·.1) := hn
      rw [key_mem, gt_pt] at hn'
      by_cases c : shf k = shf [a, b]
      · exact .inr (shf_inj c)
      · rw [if_neg c, ← key_mem] at hn'
        exact .inl (h.up k hn')
    · rw [hp, ← h.ps k, if_pos (.inl rfl)]
      show gv (pt m.pairs (shf [a, b]) v) (shf k) + PT m.triples (shf k) = _
      rw [gv_pt, prs2]
      unfold cnt
      show _ = _ + ((if [a, b] = k then v else 0) + 0)
      by_cases c : [a, b] = k
      · subst c
        rw [if_pos rfl, if_pos rfl, g0]
        omega
      · rw [if_neg c, if_neg fun z => c (shf_inj z).symm]
        omega
  | [a, b, c], _, hb, fresh, hk, hw, hp =>
    have ha := hb a (by simp)
    have hb' := hb b (by simp)
    have hc := hb c (by simp)
    refine ⟨⟨h.I.ns, h.I.ks, h.I.np, h.I.kp, h.I.ka⟩, h.a0, fun e he => ?_, fun y => ?_, fun z => (hk _).mpr (.inl (h.ub z)), fun k hn => (hk _).mpr (.inl (h.us k hn)), fun k hn => (hk _).mpr (.inl (h.up k hn)), fun k => ?_⟩
    · rcases List.mem_append.mp he with z | z
      · exact h.tr e z
      · rw [List.mem_singleton] at z
        subst z
        refine ⟨rfl, h0', fun u hu => ?_⟩
        have hu' : u ∈ [2 + a, 2 + b, 2 + c] := hu
        simp only [List.mem_cons, List.not_mem_nil, or_false] at hu'
        rcases hu' with rfl | rfl | rfl <;> omega
    · rw [hw, ← h.en y]
      show En m y + WW (m.triples ++ [(shf [a, b, c], v)]) y = _
      rw [WW_app, WW_cons, WW_nil]
      unfold WT
      dsimp only
      rw [shf_all]
      omega
    · rw [hp, ← h.ps k]
      show gv m.pairs (shf k) + PT (m.triples ++ [(shf [a, b, c], v)]) (shf k) = _
      have e1 : PT (m.triples ++ [(shf [a, b, c], v)]) (shf k) = PT m.triples (shf k) + (if 0 < v then cnt (prs (shf [a, b, c])) v (shf k) else 0) := by
        unfold PT
        rw [sum_app]
        show _ + ((if 0 < v then _ else 0) + 0) = _
        rw [Int.add_zero] <;> rfl
      rw [e1]
      have e2 : cnt (prs (shf [a, b, c])) v (shf k) = cnt (prs [a, b, c]) v k := by
        show cnt [shf [a, b], shf [a, c], shf [b, c]] v (shf k) = cnt [[a, b], [a, c], [b, c]] v k
        have f : ∀ x : List Int, (shf x = shf k) = (x = k) := fun x => propext ⟨shf_inj, fun z => by rw [z]⟩
        unfold cnt
        simp only [List.map_cons, List.map_nil, f]
      rw [e2]
      show _ = _ + if (([a, b, c] : List Int).length = 2 ∨ 0 < v) then cnt (prs [a, b, c]) v k else 0
      by_cases c0 : 0 < v
      · rw [if_pos c0, if_pos (.inr c0)]
        omega
      · rw [if_neg c0, if_neg fun z => z.elim (by simp) c0]
        omega
theorem inM_I {n : Nat} {t : Told} (h : SumOk n t) : InI n t t.length (inM n t) := by
  have nd : (t.map (·.1)).Nodup := List.nodup_iff_pairwise_ne.mpr (h.1.imp fun {x y} hl z => by
    subst z
    rw [lexLt_irrefl] at hl
    cases hl)
  have key := foldl_ind (fun i m => InI n t i m) inI t 0 (in0 n) (in0_I n t) fun j e m hj hm => by
    rw [Nat.zero_add] at hm ⊢
    have he := h.2 e (List.mem_of_getElem? hj)
    exact in_step hm nd hj he.1 he.2.2.1 he.2.2.2
  rw [Nat.zero_add] at key
  exact key
/-! ### the network -/
/-- what network_of answers: the cut over base -/
structure NetOk (n : Nat) (t : Told) (N : Nat) (b : Int) (A : List (Int × Int × Int)) : Prop where
  hN : n + 2 ≤ N
  ka : ∀ a ∈ A, 0 ≤ a.1 ∧ a.1 < (N : Int) ∧ 0 ≤ a.2.1 ∧ a.2.1 < (N : Int) ∧ 0 < a.2.2
  ge : ∀ y : Int → Bool, y 0 = true → y 1 = false → WW t (fun l => y (2 + l)) ≤ b + CW A y
  eq : ∀ s : Int → Bool, ∃ y : Int → Bool, y 0 = true ∧ y 1 = false ∧ (∀ l : Int, 0 ≤ l → l < (n : Int) → y (2 + l) = s l) ∧ b + CW A y = WW t s
theorem netM_ok {n : Nat} {t : Told} (h : SumOk n t) (hb : bentB t = true) : NetOk n t (2 + n + (inM n t).triples.length) (netM n t).base (netM n t).arcs := by
  have i0 := inM_I h
  have i1 := i0.I
  have e0 : (2 : Int) + (n : Int) = ((2 + n : Nat) : Int) := by omega
  rw [e0] at i1
  obtain ⟨i2, g2⟩ := putTs_all i1 (by omega) fun e he => by
    have := i0.tr e he
    rw [e0] at this
    exact this
  have hneg : ∀ e ∈ (putTs ((2 + n : Nat) : Int) (inM n t)).pairs, e.2 ≤ 0 := fun e he => by
    obtain ⟨a, b, hk, a2, _, b2', _⟩ := i2.kp e.1 (List.mem_map.mpr ⟨e, he, rfl⟩)
    have h1 := gv_of_mem i2.np (show (e.1, e.2) ∈ _ from he)
    have h2 : e.1 = shf [a - 2, b - 2] := by
      rw [hk]
      unfold shf
      simp only [List.map_cons, List.map_nil]
      rw [show 2 + (a - 2) = a by omega, show 2 + (b - 2) = b by omega]
    rw [gv_putTs, h2, i0.ps, List.take_length] at h1
    rw [← h1]
    exact bent_le hb _
  obtain ⟨i3, g3⟩ := putP_all i2 hneg
  obtain ⟨i4, g4⟩ := putS_all (by omega) i3
  have hnet : netM n t = putS (putP (putTs ((2 + n : Nat) : Int) (inM n t))) := by
    unfold netM
    rw [e0]
  rw [hnet]
  have hen : ∀ y, En (inM n t) y + WW (inM n t).triples y = WW t (fun l => y (2 + l)) := fun y => by
    have := i0.en y
    rw [List.take_length] at this
    exact this
  refine ⟨by omega, i4, fun y y0 y1 => ?_, fun s => ?_⟩
  · have h4 := g4 y y0 y1
    rw [g3] at h4
    have h2 := (g2 y).1
    rw [hen] at h2
    unfold Gn at h4
    omega
  · let y0 : Int → Bool := fun k => if k = 0 then true else if k = 1 then false else s (k - 2)
    let y : Int → Bool := fun k => if k < 2 + (n : Int) then y0 k else ((inM n t).triples[(k - (2 + (n : Int))).toNat]?.map fun e => hv e y0).getD false
    have hy0 : y 0 = true := by
      show (if (0 : Int) < 2 + (n : Int) then y0 0 else _) = true
      rw [if_pos (by omega)] <;> rfl
    have hy1 : y 1 = false := by
      show (if (1 : Int) < 2 + (n : Int) then y0 1 else _) = false
      rw [if_pos (by omega)] <;> rfl
    have hyl : ∀ l : Int, 0 ≤ l → l < (n : Int) → y (2 + l) = s l := fun l l0 l1 => by
      show (if 2 + l < 2 + (n : Int) then y0 (2 + l) else _) = s l
      rw [if_pos (by omega)]
      show (if 2 + l = 0 then true else if 2 + l = 1 then false else s (2 + l - 2)) = s l
      rw [if_neg (by omega), if_neg (by omega), show 2 + l - 2 = l by omega]
    have hh : ∀ p ∈ enu (inM n t).triples, y (((2 + n : Nat) : Int) + p.1) = hv p.2 y := fun p hp => by
      have hpt := enu_mem.mp hp
      obtain ⟨t1, t2, t3⟩ := i0.tr _ (List.mem_of_getElem? hpt)
      show (if ((2 + n : Nat) : Int) + p.1 < 2 + (n : Int) then _ else ((inM n t).triples[(((2 + n : Nat) : Int) + p.1 - (2 + (n : Int))).toNat]?.map fun e => hv e y0).getD false) = _
      rw [if_neg (by omega), show (((2 + n : Nat) : Int) + p.1 - (2 + (n : Int))).toNat = p.1 by omega, hpt]
      show hv p.2 y0 = hv p.2 y
      have hc : ∀ v ∈ p.2.1, y0 v = y v := fun v hvm => by
        show y0 v = if v < 2 + (n : Int) then y0 v else _
        rw [if_pos (t3 v hvm).2]
      unfold hv
      have c1 : p.2.1.all y0 = p.2.1.all y := by
        rw [Bool.eq_iff_iff, List.all_eq_true, List.all_eq_true]
        exact ⟨fun z v hvm => by rw [← hc v hvm]; exact z v hvm, fun z v hvm => by rw [hc v hvm]; exact z v hvm⟩
      have c2 : (p.2.1.map fun v => b2 (y0 v)) = p.2.1.map fun v => b2 (y v) := List.map_congr_left fun v hvm => by rw [hc v hvm]
      rw [c1, c2]
    refine ⟨y, hy0, hy1, hyl, ?_⟩
    have h4 := g4 y hy0 hy1
    rw [g3, (g2 y).2 hh, hen] at h4
    unfold Gn at h4
    rw [h4]
    exact WW_congr fun e he l hl => by
      have := (h.2 e he).2.2.1 l hl
      exact hyl l this.1 this.2
end Cut
end

section
set_option maxHeartbeats 4000000
namespace Cut
open PySem PySem.Spec L2
/-! ### a dict that is comprehended -/
def DcL (J : It) (g : TG) (tt : TT) (tk tv : TE) (vs : List Nat) (σ : L2.St) (H1 : Hp) (Q : VK) : Prop := ∀ D, H1 D = none → ∃ W : Nat → Nat → Hp → Prop, (∃ m, W 0 m (upd H1 D (.dK []))) ∧ ∀ i m H, W i m H →
  (J.stop i H ∧ Q (.ref D) H) ∨ (J.go i H ∧ ∃ Nx : Hp → Prop, (∀ H', Nx H' → ∃ m', m' < m ∧ W (i + 1) m' H') ∧ ∀ x H', J.yld i H x H' → g x (wipe σ vs) H' fun σ2 H2 => wipe σ2 vs = wipe σ vs ∧ tt σ2 H2 fun b H3 =>
    if b = true then tk σ2 H3 fun y H4 => tv σ2 H4 fun z H5 => ∃ kvs k, y = kV k ∧ H5 D = some (.dK kvs) ∧ kvs.length < sizeLine ∧ Nx (upd H5 D (.dK (putK kvs k z))) else Nx H3)
theorem tDc_eq (wi : TI) (g : TG) (tt : TT) (tk tv : TE) (vs : List Nat) : tDc wi g tt tk tv vs = fun σ H Q => wi σ H fun J H1 => DcL J g tt tk tv vs σ H1 Q := rfl
theorem dk_pt (d : List (Int × Int)) (k v : Int) (h : k ∉ d.map (·.1)) : putK (dk d) (Sum.inl k) (.int v) = dk (d ++ [(k, v)]) := by
  rw [putK_dk]
  rw [key_mem] at h
  rw [pt_new v (by simpa using h)]
theorem dc_ints {α : Type} {J : It} {f : α → Rp} {xs : List α} {H1 : Hp} {F : α → Int × Int} (wk : Wk J (fun H => Ex H1 H) f xs) (hz : xs.length ≤ 100000) (nod : ((xs.map F).map (·.1)).Nodup) {g : TG} {tt : TT} {tk tv : TE} {vs : List Nat} {σ : L2.St} {Q : VK}
    (turn : ∀ (i : Nat) (x : α) (v : V) (H' : Hp) (K1 : V → V → Hp → Prop) (K2 : Hp → Prop), xs[i]? = some x → Ex H1 H' → f x H' v → (∀ H4, Ex H' H4 → K1 (.int (F x).1) (.int (F x).2) H4) →
      g v (wipe σ vs) H' fun σ2 H2 => wipe σ2 vs = wipe σ vs ∧ tt σ2 H2 fun b H3 => if b = true then tk σ2 H3 fun y H4 => tv σ2 H4 fun z H5 => K1 y z H5 else K2 H3)
    (done : ∀ (p : Addr) (H' : Hp), H1 p = none → Ex H1 H' → H' p = some (.dK (dk (xs.map F))) → Q (.ref p) H') :
    DcL J g tt tk tv vs σ H1 Q := by
  intro D hD
  let Pv : Nat → Hp → Prop := fun i H => Ex H1 H ∧ H D = some (.dK (dk ((xs.take i).map F)))
  refine ⟨fun i m H => m = xs.length - i ∧ i ≤ xs.length ∧ Pv i H, ⟨xs.length, by simp, Nat.zero_le _, Ex.new hD, upd_same⟩, ?_⟩
  rintro i m H ⟨rfl, hi, e, hacc⟩
  by_cases hlt : i < xs.length
  · refine .inr ⟨wk.go i H hlt e, fun H' => Pv (i + 1) H', fun H' p' => ⟨xs.length - (i + 1), by omega, rfl, hlt, p'⟩, fun v H' y => ?_⟩
    have hx := List.getElem?_eq_getElem hlt
    obtain ⟨e1, r⟩ := wk.yld i _ H v H' hx e y
    refine turn i _ v H' _ _ hx (e.tr e1) r (fun H4 e4 => ?_)
    have h4 : H4 D = some (.dK (dk ((xs.take i).map F))) := e4 _ _ (e1 _ _ hacc)
    refine ⟨_, Sum.inl _, rfl, h4, szl (by unfold dk; rw [List.length_map, List.length_map, List.length_take]; omega), ((e.tr e1).tr e4).mut hD, ?_⟩
    have hnk : (F xs[i]).1 ∉ (((xs.take i).map F).map (·.1)) := by
      intro hm
      rw [List.map_map] at hm nod
      rw [List.map_take] at hm
      obtain ⟨j, hj⟩ := List.mem_iff_getElem?.mp hm
      rw [List.getElem?_take] at hj
      split at hj
      · obtain ⟨l2, e2⟩ := List.getElem?_eq_some_iff.mp hj
        have := List.nodup_iff_pairwise_ne.mp nod
        rw [List.pairwise_iff_getElem] at this
        refine this j i l2 (by rw [List.length_map]; exact hlt) (by omega) ?_
        rw [e2, List.getElem_map] <;> rfl
      · cases hj
    rw [show V.int (F xs[i]).2 = V.int (F xs[i]).2 from rfl, dk_pt _ _ _ hnk]
    rw [List.take_add_one, hx, List.map_append]
    exact upd_same
  · have ei : i = xs.length := by omega
    subst ei
    refine .inl ⟨wk.stop H e, done D H hD e ?_⟩
    rw [List.take_length] at hacc
    exact hacc
local macro_rules | `(tactic| walk_at "rd") => `(tactic| dsimp only [tFor_eq, tLc_eq, tLc2_eq, iTup, iList, iRng1, iRng2, iSeq, RZ.iZipA, iEnum, iZipX, iEnumT, iKeys, tTupZip, tLenSet, gFld_app, tLock, tLockE, tCallN, tTup0F, tAsg, tVar, tC, tCmp, tIsN, tNotN, tB, tAnd, tOr, tNot, tAndV, tOrV, tNotV, tIf, tNext, tSeq, tBreak, tCont, tDrop, tRet, tRetN, tIfS, gName_app, gTup_app, gCons_app, gNil_app, gSub_app, tAsg, tAug, tCall, tMeth, tMake, tCons, tNil, tTup, tLst, tCB, tOp, tUn, tTest, tChain, tFld, sFld, sFldAug, tBM, tBM0, tSl, tPart, tNoPart, tDGet, tDIn, tDNotIn, sDPut, sDAug, tDNewK, tDNewT, tDGet2, L2.rI, L2.rI0, L2.rU, rEq, rNe, t2I, ipI, rAdd, rSub, rAppend, tDc_eq, tAugS, cxOf, Cx.nox, Cx.wish])
local macro_rules | `(tactic| walk_at "ex") => `(tactic| simp only [L2.start, List.map_cons, List.map_nil, List.length_cons, List.length_nil, List.replicate_succ, List.replicate_zero, List.cons_append, List.nil_append, List.append_nil, List.getElem?_cons_zero, List.getElem?_cons_succ, List.set_cons_zero, List.set_cons_succ, L2.wipe, Option.some.injEq, V.int.injEq, V.bl.injEq, V.ref.injEq, V.str.injEq, V.ty.injEq, List.cons.injEq, exists_eq_left', exists_eq_left, exists_eq_right, and_true, true_and, and_self, exists_and_left, exists_and_right, exists_const, and_assoc, exists_eq, exists_eq', eq_self_iff_true, if_true, if_false, Bool.false_eq_true, decide_eq_true_eq, ne_eq, reduceCtorEq, not_false_eq_true, Nat.reduceAdd, Nat.reduceSub, Bool.not_true, Bool.not_false, Option.map_some, Option.map_none, Option.isSome_some, Option.isSome_none, Option.getD_some, Option.getD_none])
local macro_rules | `(tactic| walk_at "st") => `(tactic| ((try walk_at "rd"); (try walk_at "ex")))

/-! ### frames -/
def Kp (L : List Addr) (H H' : Hp) : Prop := ∀ a o, a ∉ L → H a = some o → H' a = some o
theorem Kp.rf (L : List Addr) (H : Hp) : Kp L H H := fun _ _ _ h => h
theorem Kp.tr {L : List Addr} {H H1 H2 : Hp} (a : Kp L H H1) (b : Kp L H1 H2) : Kp L H H2 := fun x o n h => b x o n (a x o n h)
theorem Ex.kp {L : List Addr} {H H' : Hp} (e : Ex H H') : Kp L H H' := fun a o _ h => e a o h
theorem Kp.mut {L : List Addr} {H : Hp} {a : Addr} {o : HO} (h : a ∈ L) : Kp L H (upd H a o) := fun b u n e => by
  rw [upd_ne (fun z => n (by rw [z]; exact h))]
  exact e
theorem Kp.ex {L : List Addr} {H0 H H' : Hp} (e : Ex H0 H) (k : Kp L H H') (h : ∀ a ∈ L, H0 a = none) : Ex H0 H' := fun b o hb => k b o (fun z => by rw [h b z] at hb; cases hb) (e b o hb)
def lk (l : Option Obj) (u : HO) : HO := match l with | none => u | some o => .frz o u
abbrev rAr (a : Int × Int × Int) : Rp := r3 (rI a.1) (rI a.2.1) (rI a.2.2)
structure MkR (K : PySem.W.Frag) (x dx S P T A : Addr) (lS lP : Option Obj) (m : MkS) (H : Hp) : Prop where
  hx : H x = some (.ins (He.ga K "Maker") dx [("base", .int m.base), ("single", .ref S), ("pairs", .ref P), ("triples", .ref T), ("arcs", .ref A)])
  hS : H S = some (lk lS (.dK (dk m.single)))
  hP : H P = some (lk lP (.dT (dt m.pairs)))
  hT : ∃ ts, H T = some (.lst ts) ∧ Al (fun w e => rTe e H w) ts m.triples
  hA : ∃ as, H A = some (.lst as) ∧ Al (fun w a => rAr a H w) as m.arcs
  ta : T ≠ A
section
variable {K : PySem.W.Frag} {x dx S P T A : Addr} {lS lP : Option Obj} {m : MkS} {H H' : Hp}
theorem MkR.ne (r : MkR K x dx S P T A lS lP m H) : x ≠ S ∧ x ≠ P ∧ x ≠ T ∧ x ≠ A ∧ S ≠ P ∧ S ≠ T ∧ S ≠ A ∧ P ≠ T ∧ P ≠ A := by
  obtain ⟨ts, hT, _⟩ := r.hT
  obtain ⟨as, hA, _⟩ := r.hA
  have hS := r.hS
  have hP := r.hP
  have hx := r.hx
  refine ⟨ne_of hx hS ?_, ne_of hx hP ?_, ne_of hx hT (fun z => nomatch z), ne_of hx hA (fun z => nomatch z), ne_of hS hP ?_, ne_of hS hT ?_, ne_of hS hA ?_, ne_of hP hT ?_, ne_of hP hA ?_⟩ <;> cases lS <;> cases lP <;> intro z <;> cases z
theorem MkR.ntup (r : MkR K x dx S P T A lS lP m H) {a : Addr} (h : a ∈ [x, S, P, T, A]) : ∃ u, H a = some u ∧ ∀ xs, u ≠ .tup xs := by
  obtain ⟨ts, hT, _⟩ := r.hT
  obtain ⟨as, hA, _⟩ := r.hA
  have hS := r.hS
  have hP := r.hP
  have hx := r.hx
  simp only [List.mem_cons, List.not_mem_nil, or_false] at h
  rcases h with rfl | rfl | rfl | rfl | rfl
  · exact ⟨_, hx, fun xs z => nomatch z⟩
  · exact ⟨_, hS, fun xs z => by cases lS <;> cases z⟩
  · exact ⟨_, hP, fun xs z => by cases lP <;> cases z⟩
  · exact ⟨_, hT, fun xs z => nomatch z⟩
  · exact ⟨_, hA, fun xs z => nomatch z⟩
theorem MkR.tx (r : MkR K x dx S P T A lS lP m H) (k : Kp [x, S, P, T, A] H H') : Tx H H' := fun a xs ha => k a _ (fun z => by
  obtain ⟨u, hu, hn⟩ := r.ntup z
  rw [hu] at ha
  exact hn xs (Option.some.inj ha)) ha
theorem MkR.ex (r : MkR K x dx S P T A lS lP m H) (e : Ex H H') : MkR K x dx S P T A lS lP m H' := by
  obtain ⟨ts, hT, alT⟩ := r.hT
  obtain ⟨as, hA, alA⟩ := r.hA
  exact ⟨e _ _ r.hx, e _ _ r.hS, e _ _ r.hP, ⟨ts, e _ _ hT, alT.up e⟩, ⟨as, e _ _ hA, alA.up e⟩, r.ta⟩
theorem MkR.utx (r : MkR K x dx S P T A lS lP m H) {a : Addr} (h : a ∈ [x, S, P, T, A]) (o : HO) : Tx H (upd H a o) := r.tx (Kp.mut h)
theorem MkR.setA (r : MkR K x dx S P T A lS lP m H) {as : List V} (ha : H A = some (.lst as)) {v : V} {c : Int × Int × Int} (hv : rAr c H v) : MkR K x dx S P T A lS lP { m with arcs := m.arcs ++ [c] } (upd H A (.lst (as ++ [v]))) := by
  obtain ⟨n1, n2, n3, n4, n5, n6, n7, n8, n9⟩ := r.ne
  have tx := r.utx (a := A) (by simp) (.lst (as ++ [v]))
  obtain ⟨ts, hT, alT⟩ := r.hT
  obtain ⟨as', hA, alA⟩ := r.hA
  rw [ha] at hA
  cases hA
  exact ⟨by rw [upd_ne n4]; exact r.hx, by rw [upd_ne n7]; exact r.hS, by rw [upd_ne n9]; exact r.hP, ⟨ts, by rw [upd_ne r.ta]; exact hT, alT.upT tx⟩, ⟨_, upd_same, (alA.snoc hv).upT tx⟩, r.ta⟩
theorem MkR.setT (r : MkR K x dx S P T A lS lP m H) {ts : List V} (ht : H T = some (.lst ts)) {v : V} {c : List Int × Int} (hv : rTe c H v) : MkR K x dx S P T A lS lP { m with triples := m.triples ++ [c] } (upd H T (.lst (ts ++ [v]))) := by
  obtain ⟨n1, n2, n3, n4, n5, n6, n7, n8, n9⟩ := r.ne
  have tx := r.utx (a := T) (by simp) (.lst (ts ++ [v]))
  obtain ⟨ts', hT, alT⟩ := r.hT
  obtain ⟨as, hA, alA⟩ := r.hA
  rw [ht] at hT
  cases hT
  exact ⟨by rw [upd_ne n3]; exact r.hx, by rw [upd_ne n6]; exact r.hS, by rw [upd_ne n8]; exact r.hP, ⟨_, upd_same, (alT.snoc hv).upT tx⟩, ⟨as, by rw [upd_ne r.ta.symm]; exact hA, alA.upT tx⟩, r.ta⟩
theorem MkR.setS (r : MkR K x dx S P T A lS lP m H) (l2 : Option Obj) (d : List (Int × Int)) : MkR K x dx S P T A l2 lP { m with single := d } (upd H S (lk l2 (.dK (dk d)))) := by
  obtain ⟨n1, n2, n3, n4, n5, n6, n7, n8, n9⟩ := r.ne
  have tx := r.utx (a := S) (by simp) (lk l2 (.dK (dk d)))
  obtain ⟨ts, hT, alT⟩ := r.hT
  obtain ⟨as, hA, alA⟩ := r.hA
  exact ⟨by rw [upd_ne n1]; exact r.hx, upd_same, by rw [upd_ne n5.symm]; exact r.hP, ⟨_, by rw [upd_ne n6.symm]; exact hT, alT.upT tx⟩, ⟨as, by rw [upd_ne n7.symm]; exact hA, alA.upT tx⟩, r.ta⟩
theorem MkR.setP (r : MkR K x dx S P T A lS lP m H) (l2 : Option Obj) (d : Told) : MkR K x dx S P T A lS l2 { m with pairs := d } (upd H P (lk l2 (.dT (dt d)))) := by
  obtain ⟨n1, n2, n3, n4, n5, n6, n7, n8, n9⟩ := r.ne
  have tx := r.utx (a := P) (by simp) (lk l2 (.dT (dt d)))
  obtain ⟨ts, hT, alT⟩ := r.hT
  obtain ⟨as, hA, alA⟩ := r.hA
  exact ⟨by rw [upd_ne n2]; exact r.hx, by rw [upd_ne n5]; exact r.hS, upd_same, ⟨_, by rw [upd_ne n8.symm]; exact hT, alT.upT tx⟩, ⟨as, by rw [upd_ne n9.symm]; exact hA, alA.upT tx⟩, r.ta⟩
theorem MkR.setB (r : MkR K x dx S P T A lS lP m H) (b : Int) : MkR K x dx S P T A lS lP { m with base := b } (upd H x (.ins (He.ga K "Maker") dx [("base", .int b), ("single", .ref S), ("pairs", .ref P), ("triples", .ref T), ("arcs", .ref A)])) := by
  obtain ⟨n1, n2, n3, n4, n5, n6, n7, n8, n9⟩ := r.ne
  have tx := r.utx (a := x) (by simp) (.ins (He.ga K "Maker") dx [("base", .int b), ("single", .ref S), ("pairs", .ref P), ("triples", .ref T), ("arcs", .ref A)])
  obtain ⟨ts, hT, alT⟩ := r.hT
  obtain ⟨as, hA, alA⟩ := r.hA
  exact ⟨upd_same, by rw [upd_ne n1.symm]; exact r.hS, by rw [upd_ne n2.symm]; exact r.hP, ⟨_, by rw [upd_ne n3.symm]; exact hT, alT.upT tx⟩, ⟨as, by rw [upd_ne n4.symm]; exact hA, alA.upT tx⟩, r.ta⟩
end
/-! ### sizes -/
def Sz (m : MkS) (k : Nat) : Prop := m.single.length ≤ k ∧ m.pairs.length ≤ k ∧ m.triples.length ≤ k ∧ m.arcs.length ≤ k
theorem Sz.mono {m : MkS} {j k : Nat} (h : Sz m j) (l : j ≤ k) : Sz m k := ⟨Nat.le_trans h.1 l, Nat.le_trans h.2.1 l, Nat.le_trans h.2.2.1 l, Nat.le_trans h.2.2.2 l⟩
theorem Sz.stepT {m : MkS} {k : Nat} (h : Sz m k) (n hh v : Int) : Sz (stepT n hh m v) (k + 1) := by
  obtain ⟨h1, h2, h3, h4⟩ := h
  unfold Cut.stepT
  split
  · refine ⟨by show m.single.length ≤ _; omega, by show m.pairs.length ≤ _; omega, by show m.triples.length ≤ _; omega, ?_⟩
    show List.length (_ ++ _) ≤ _
    rw [List.length_append, List.length_singleton]
    omega
  · refine ⟨?_, by show m.pairs.length ≤ _; omega, by show m.triples.length ≤ _; omega, ?_⟩
    · have := pt_len m.single v (gv m.single v - n)
      show (pt m.single v (gv m.single v - n)).length ≤ _
      omega
    show List.length (_ ++ _) ≤ _
    rw [List.length_append, List.length_singleton]
    omega
theorem Sz.stepP {m : MkS} {k : Nat} (h : Sz m k) (n : Int) (q : List Int) : Sz (stepP n m q) (k + 1) := by
  obtain ⟨h1, h2, h3, h4⟩ := h
  refine ⟨by show m.single.length ≤ _; omega, ?_, by show m.triples.length ≤ _; omega, by show m.arcs.length ≤ _; omega⟩
  have := pt_len m.pairs q (gv m.pairs q + n)
  show (pt m.pairs q (gv m.pairs q + n)).length ≤ _
  omega
theorem Sz.putP1 {m : MkS} {k : Nat} (h : Sz m k) (e : List Int × Int) : Sz (putP1 m e) (k + 1) := by
  obtain ⟨h1, h2, h3, h4⟩ := h
  unfold Cut.putP1
  split
  · refine ⟨?_, by show m.pairs.length ≤ _; omega, by show m.triples.length ≤ _; omega, ?_⟩
    · have := pt_len m.single (e.1.getD 0 0) (gv m.single (e.1.getD 0 0) + e.2)
      show (pt m.single (e.1.getD 0 0) (gv m.single (e.1.getD 0 0) + e.2)).length ≤ _
      omega
    show List.length (_ ++ _) ≤ _
    rw [List.length_append, List.length_singleton]
    omega
  · exact Sz.mono ⟨h1, h2, h3, h4⟩ (by omega)
theorem Sz.putS1 {m : MkS} {k : Nat} (h : Sz m k) (e : Int × Int) : Sz (putS1 m e) (k + 1) := by
  obtain ⟨h1, h2, h3, h4⟩ := h
  unfold Cut.putS1
  split
  · refine ⟨by show m.single.length ≤ _; omega, by show m.pairs.length ≤ _; omega, by show m.triples.length ≤ _; omega, ?_⟩
    show List.length (_ ++ _) ≤ _
    rw [List.length_append, List.length_singleton]
    omega
  · split
    · refine ⟨by show m.single.length ≤ _; omega, by show m.pairs.length ≤ _; omega, by show m.triples.length ≤ _; omega, ?_⟩
      show List.length (_ ++ _) ≤ _
      rw [List.length_append, List.length_singleton]
      omega
    · exact Sz.mono ⟨h1, h2, h3, h4⟩ (by omega)
theorem Sz.inI {m : MkS} {k : Nat} (h : Sz m k) (e : List Int × Int) : Sz (inI m e) (k + 1) := by
  obtain ⟨h1, h2, h3, h4⟩ := h
  unfold Cut.inI
  split
  · exact ⟨by show m.single.length ≤ _; omega, by show m.pairs.length ≤ _; omega, by show m.triples.length ≤ _; omega, by show m.arcs.length ≤ _; omega⟩
  · split
    · refine ⟨?_, by show m.pairs.length ≤ _; omega, by show m.triples.length ≤ _; omega, by show m.arcs.length ≤ _; omega⟩
      have := pt_len m.single ((shf e.1).getD 0 0) e.2
      show (pt m.single ((shf e.1).getD 0 0) e.2).length ≤ _
      omega
    · split
      · refine ⟨by show m.single.length ≤ _; omega, ?_, by show m.triples.length ≤ _; omega, by show m.arcs.length ≤ _; omega⟩
        have := pt_len m.pairs (shf e.1) e.2
        show (pt m.pairs (shf e.1) e.2).length ≤ _
        omega
      · refine ⟨by show m.single.length ≤ _; omega, by show m.pairs.length ≤ _; omega, ?_, by show m.arcs.length ≤ _; omega⟩
        show List.length (_ ++ _) ≤ _
        rw [List.length_append, List.length_singleton]
        omega
theorem Sz.fold {α : Type} {g : MkS → α → MkS} (s : ∀ m k a, Sz m k → Sz (g m a) (k + 1)) : ∀ (xs : List α) {m : MkS} {k : Nat}, Sz m k → Sz (xs.foldl g m) (k + xs.length)
  | [], m, k, h => h
  | a :: xs, m, k, h => by
    have := Sz.fold s xs (s m k a h)
    rw [List.length_cons, show k + (xs.length + 1) = k + 1 + xs.length by omega]
    exact this
theorem Sz.putT {m : MkS} {k : Nat} (h : Sz m k) (e : List Int × Int) (hl : e.1.length = 3) (hh : Int) : Sz (putT m e hh) (k + 10) := by
  obtain ⟨ns, n⟩ := e
  obtain ⟨a, b, c, rfl⟩ : ∃ a b c, ns = [a, b, c] := by
    match ns, hl with
    | [a, b, c], _ => exact ⟨a, b, c, rfl⟩
  have h0 : Sz { m with single := pt m.single hh n } (k + 1) := by
    obtain ⟨h1, h2, h3, h4⟩ := h
    refine ⟨?_, by show m.pairs.length ≤ _; omega, by show m.triples.length ≤ _; omega, by show m.arcs.length ≤ _; omega⟩
    have := pt_len m.single hh n
    show (pt m.single hh n).length ≤ _
    omega
  have h1 := (((h0.stepT n hh a).stepT n hh b).stepT n hh c)
  have h2 := (((h1.stepP n [a, b]).stepP n [a, c]).stepP n [b, c])
  unfold Cut.putT
  dsimp only
  split
  · exact Sz.mono h2 (by omega)
  · exact Sz.mono h1 (by omega)
/-! ### triples -/
def sp_Maker_put_triple (K : PySem.W.Frag) : Sp := fun vs H Q _ => ∃ (x dx S P T A a : Addr) (m : MkS) (e : List Int × Int) (h : Int), vs = [.ref x, .ref a, .int e.2, .int h] ∧ MkR K x dx S P T A none none m H ∧ H a = some (.tup (e.1.map V.int)) ∧ e.1.length = 3 ∧ Sz m 50000 ∧ (∀ v ∈ e.1, v ∈ m.single.map (·.1)) ∧
  ∀ H', Kp [x, S, P, T, A] H H' → MkR K x dx S P T A none none (putT m e h) H' → Q .non H'
theorem some_pt {d : List (Int × Int)} {v : Int} (h : v ∈ d.map (·.1)) (k n : Int) : v ∈ (pt d k n).map (·.1) := by
  rw [key_mem] at h ⊢
  rw [gt_pt]
  split
  · rfl
  · exact h
theorem gv_some {d : List (Int × Int)} {v : Int} (h : v ∈ d.map (·.1)) : gt d v = some (gv d v) := by
  rw [key_mem] at h
  unfold gv
  cases hg : gt d v with
  | none => rw [hg] at h; cases h
  | some n => rfl
theorem MkR.hS0 {K : PySem.W.Frag} {x dx S P T A : Addr} {lP : Option Obj} {m : MkS} {H : Hp} (r : MkR K x dx S P T A none lP m H) : H S = some (.dK (dk m.single)) := r.hS
theorem MkR.hP0 {K : PySem.W.Frag} {x dx S P T A : Addr} {lS : Option Obj} {m : MkS} {H : Hp} (r : MkR K x dx S P T A lS none m H) : H P = some (.dT (dt m.pairs)) := r.hP
abbrev nN_Maker_put_triple : List Str := ["self", "nodes", "number", "helper", "x", "y", "z", "node", "pair"]
theorem sc_Maker_put_triple : FnScope nN_Maker_put_triple ["self", "nodes", "number", "helper"] (defScope s_Maker_put_triple) := ⟨rfl, rfl, rfl, by decide +kernel, rfl, by decide +kernel, by decide +kernel⟩
theorem ok_Maker_put_triple {P : Program} {w : World} {K : PySem.W.Frag} {mg : Str → Option Value} {base : Heap} {fd : FuncData} (T : GG K w mg) (F : FunD K "put_triple" "Maker.put_triple" (defArgs s_Maker_put_triple) (defBody s_Maker_put_triple) (defScope s_Maker_put_triple) [] [] (He.fAd K ("Maker", some "put_triple")) fd)  : CalM P w K mg base (He.ga K "Maker") "put_triple" 1 ["self", "nodes", "number", "helper"] (sp_Maker_put_triple K) := by
  have nd := sc_Maker_put_triple.nd
  refine calM_of F T.c_Maker T.e_Maker_put_triple (fun _ _ _ _ _ _ us hl => match us, hl with | [_, _, _, _], _ => rfl) (FunD.ok F sc_Maker_put_triple (fun vs H Q E h => ?_) (fun cdv A outer s H vs Q E hr h => ?_))
  · obtain ⟨x, dx, S, P, L, A, a, m, e, hp, rfl, rr, ha, hl, hz, hk, q⟩ := h
    rfl
  obtain ⟨x, dx, S, P, L, A, a, m, e, hp, rfl, rr, ha, hl, hz, hk, q⟩ := h
  have hu := hu_of hr
  refine ⟨_, PSs.nox (pss_cons (ps_dput hu (pe_fldK (K := K) rfl (pv 0) rfl) (pv 3) (pv 2) rfl) (pss_cons (ps_asg (pv 1) (pg_tupK (n := 3) (K := K) rfl rfl (pgs_cons (pg_name (i := 4) nd rfl (Or.inl rfl)) (pgs_cons (pg_name (i := 5) nd rfl (Or.inl rfl)) (pgs_cons (pg_name (i := 6) nd rfl (Or.inl rfl)) pgs_nil))))) (pss_cons (ps_for PassesOwn.never rfl (pi_tupK (K := K) rfl (pv 1)) (pg_name (i := 7) nd rfl (Or.inl rfl)) (pss_one (ps_if (pt_cmpR op_lt (pv 2) pe_int (nomark _)) (pss_one (ps_expr (pe_bm PySem.F.plainAttrs_list PySem.F.slot_list_append PySem.F.type_list_append mt_append (pe_fldK (K := K) rfl (pv 0) rfl) (pa_cons (pe_tup (pa_cons (pv 3) (pa_cons (pv 7) (pa_cons (pe_un un_neg (pv 2)) pa_nil)))) pa_nil)))) (pss_cons (ps_expr (pe_bm PySem.F.plainAttrs_list PySem.F.slot_list_append PySem.F.type_list_append mt_append (pe_fldK (K := K) rfl (pv 0) rfl) (pa_cons (pe_tup (pa_cons (pv 7) (pa_cons (pv 3) (pa_cons (pv 2) pa_nil)))) pa_nil))) (pss_one (ps_daug hu (pe_fldK (K := K) rfl (pv 0) rfl) (pv 7) (pv 2) in_sub (fun _ _ _ => rfl))))))) (pss_one (ps_if (pt_cmpR op_gt (pv 2) pe_int (nomark _)) (pss_one (ps_for PassesOwn.never rfl (pi_tupK (K := K) rfl (pe_tup (pa_cons (pe_tup (pa_cons (pv 4) (pa_cons (pv 5) pa_nil))) (pa_cons (pe_tup (pa_cons (pv 4) (pa_cons (pv 6) pa_nil))) (pa_cons (pe_tup (pa_cons (pv 5) (pa_cons (pv 6) pa_nil))) pa_nil))))) (pg_name (i := 8) nd rfl (Or.inl rfl)) (pss_one (ps_dput hu (pe_fldK (K := K) rfl (pv 0) rfl) (pv 8) (pe_op op_add (pe_dget2 hu (pe_fldK (K := K) rfl (pv 0) rfl) (pv 8) pe_int ⟨rfl, rfl, rfl, rfl⟩) (pv 2)) rfl)))) pss_nil))))), ?_⟩
  walk_at "st"
  refine ⟨_, _, _, rr.hx, T.c_Maker, T.n_Maker_single, _, rfl, _, rfl, _, dput_k rr.hS0 hp e.2 (by have := hz.1; omega), ?_⟩
  have r1 := rr.setS none (pt m.single hp e.2)
  have k1 : Kp [x, S, P, L, A] H (upd H S (.dK (dk (pt m.single hp e.2)))) := Kp.mut (by simp)
  have ha1 := rr.tx k1 _ _ ha
  obtain ⟨ns, n⟩ := e
  obtain ⟨u, v, w, rfl⟩ : ∃ a b c, ns = [a, b, c] := by
    match ns, hl with
    | [a, b, c], _ => exact ⟨a, b, c, rfl⟩
  change MkR K x dx S P L A none none _ (upd H S (.dK (dk (pt m.single hp n)))) at r1
  generalize upd H S (.dK (dk (pt m.single hp n))) = H1 at r1 k1 ha1
  refine ⟨_, sq_t ha1, rfl, _, _, rfl, _, _, rfl, _, _, rfl, rfl, ⟨_, sq_t ha1⟩, ?_⟩
  have z1 : Sz { m with single := pt m.single hp n } 50001 := by
    have := pt_len m.single hp n
    have := hz.1
    have := hz.2.1
    have := hz.2.2.1
    have := hz.2.2.2
    exact ⟨by show (pt m.single hp n).length ≤ _; omega, by show m.pairs.length ≤ _; omega, by show m.triples.length ≤ _; omega, by show m.arcs.length ≤ _; omega⟩
  have hk1 : ∀ y ∈ [u, v, w], y ∈ ({ m with single := pt m.single hp n } : MkS).single.map (·.1) := fun y hy => some_pt (hk y hy) hp n
  have hset : putT m ([u, v, w], n) hp = if 0 < n then (prs [u, v, w]).foldl (stepP n) ([u, v, w].foldl (stepT n hp) { m with single := pt m.single hp n }) else [u, v, w].foldl (stepT n hp) { m with single := pt m.single hp n } := rfl
  rw [hset] at q
  generalize ({ m with single := pt m.single hp n } : MkS) = m1 at r1 z1 q hk1
  refine for_s (f := rI) (xs := [u, v, w]) (G := fun H' => Kp [x, S, P, L, A] H1 H') (ws_tup (f := rI) fun H' g => ⟨_, sq_t (r1.tx g _ _ ha1), ints_al _⟩) (fun i σ' H' => Kp [x, S, P, L, A] H1 H' ∧ ∃ m' x7, σ' = [some (.ref x), some (.ref a), some (.int n), some (.int hp), some (.int u), some (.int v), some (.int w), x7, none] ∧ m' = ([u, v, w].take i).foldl (stepT n hp) m1 ∧ MkR K x dx S P L A none none m' H' ∧ Sz m' (50001 + i) ∧ ∀ y ∈ [u, v, w], y ∈ m'.single.map (·.1)) ⟨Kp.rf _ _, m1, _, rfl, rfl, r1, z1, hk1⟩ (fun _ _ _ _ h => h.1) ?_ ?_
  · rintro i y vv σ' H2 hi ⟨k2, m', x7, rfl, em, r2, z2, hk2⟩ hv
    cases hv
    have hil := (List.getElem?_eq_some_iff.mp hi).1
    rw [List.length_cons, List.length_cons, List.length_singleton] at hil
    have em2 : stepT n hp m' y = ([u, v, w].take (i + 1)).foldl (stepT n hp) m1 := by rw [fold_take _ _ hi, em]
    have z3 := z2.stepT n hp y
    have hyk := hk2 y (List.mem_of_getElem? hi)
    have hk3 : ∀ t ∈ [u, v, w], t ∈ (stepT n hp m' y).single.map (·.1) := fun t ht => by
      unfold stepT
      split
      · exact hk2 t ht
      · exact some_pt (hk2 t ht) _ _
    obtain ⟨as, hA, alA⟩ := r2.hA
    have hal : as.length < 1000000 := by
      have := alA.len
      have := z2.2.2.2
      omega
    walk_at "st"
    by_cases hn : n < 0
    · rw [if_pos hn]
      refine ⟨_, _, _, r2.hx, T.c_Maker, T.n_Maker_arcs, _, rfl, (.inl ⟨rfl, as, sq_l hA⟩), by decide, fun p hpn => ?_⟩
      have e3 := Ex.new (o := .tup [V.int hp, V.int y, V.int (-n)]) hpn
      have r3' := r2.ex e3
      have hv3 : rAr (hp, y, -n) (upd H2 p (.tup [V.int hp, V.int y, V.int (-n)])) (.ref p) := ⟨p, _, _, _, rfl, upd_same, rfl, rfl, rfl⟩
      refine ⟨A, rfl, as, e3 _ _ hA, szl hal, ?_⟩
      rw [← em2]
      refine ⟨(k2.tr e3.kp).tr (Kp.mut (by simp)), ?_, z3, hk3⟩
      have := r3'.setA (e3 _ _ hA) hv3
      unfold stepT
      rw [if_pos hn]
      exact this
    · rw [if_neg hn]
      refine ⟨_, _, _, r2.hx, T.c_Maker, T.n_Maker_arcs, _, rfl, (.inl ⟨rfl, as, sq_l hA⟩), by decide, fun p hpn => ?_⟩
      have e3 := Ex.new (o := .tup [V.int y, V.int hp, V.int n]) hpn
      have r3' := r2.ex e3
      have hv3 : rAr (y, hp, n) (upd H2 p (.tup [V.int y, V.int hp, V.int n])) (.ref p) := ⟨p, _, _, _, rfl, upd_same, rfl, rfl, rfl⟩
      refine ⟨A, rfl, as, e3 _ _ hA, szl hal, ?_⟩
      have r4 := r3'.setA (e3 _ _ hA) hv3
      refine ⟨_, _, _, r4.hx, T.c_Maker, T.n_Maker_single, _, rfl, _, rfl, ?_⟩
      have dg := dget_k r4.hS0 y
      have gs : gt m'.single y = some (gv m'.single y) := gv_some hyk
      rw [show gt _ y = some (gv m'.single y) from gs] at dg
      refine ⟨_, dg, _, rfl, _, dput_k r4.hS0 y _ (by have := z2.1; show m'.single.length ≤ _; omega), ?_⟩
      rw [← em2]
      refine ⟨((k2.tr e3.kp).tr (Kp.mut (by simp))).tr (Kp.mut (by simp)), ?_, z3, hk3⟩
      have := r4.setS none (pt m'.single y (gv m'.single y - n))
      unfold stepT
      rw [if_neg hn]
      exact this
  · rintro σ' H2 ⟨k2, m', x7, rfl, em, r2, z2, hk2⟩
    rw [show [u, v, w].take [u, v, w].length = [u, v, w] from List.take_length] at em
    rw [← em] at q
    walk_at "st"
    by_cases hn : 0 < n
    · rw [if_pos hn] at q ⊢
      refine ⟨by decide, fun p1 f1 => ⟨by decide, fun p2 f2 => ⟨by decide, fun p3 f3 => ⟨by decide, fun p4 f4 => ?_⟩⟩⟩⟩
      have e1 := Ex.new (o := .tup [V.int u, V.int v]) f1
      have e2 := Ex.new (o := .tup [V.int u, V.int w]) f2
      have e3 := Ex.new (o := .tup [V.int v, V.int w]) f3
      have e4 := Ex.new (o := .tup [V.ref p1, V.ref p2, V.ref p3]) f4
      have h1 := (e2.tr (e3.tr e4)) _ _ (upd_same (H := H2) (a := p1) (o := .tup [V.int u, V.int v]))
      have h2 := (e3.tr e4) _ _ (upd_same (H := upd H2 p1 (.tup [V.int u, V.int v])) (a := p2) (o := .tup [V.int u, V.int w]))
      have h3 := e4 _ _ (upd_same (H := upd (upd H2 p1 (.tup [V.int u, V.int v])) p2 (.tup [V.int u, V.int w])) (a := p3) (o := .tup [V.int v, V.int w]))
      have h4 := upd_same (H := upd (upd (upd H2 p1 (.tup [V.int u, V.int v])) p2 (.tup [V.int u, V.int w])) p3 (.tup [V.int v, V.int w])) (a := p4) (o := .tup [V.ref p1, V.ref p2, V.ref p3])
      have e5 := e1.tr (e2.tr (e3.tr e4))
      generalize upd (upd (upd (upd H2 p1 (.tup [V.int u, V.int v])) p2 (.tup [V.int u, V.int w])) p3 (.tup [V.int v, V.int w])) p4 (.tup [V.ref p1, V.ref p2, V.ref p3]) = H3 at h1 h2 h3 h4 e5 ⊢
      have r3 := r2.ex e5
      have al : Al (fun t x => rIs x H3 t) [V.ref p1, V.ref p2, V.ref p3] (prs [u, v, w]) := .cons (rIs.mk (ns := [u, v]) h1) (.cons (rIs.mk (ns := [u, w]) h2) (.cons (rIs.mk (ns := [v, w]) h3) .nil))
      refine ⟨⟨_, sq_t h4⟩, ?_⟩
      refine for_s (f := rIs) (xs := prs [u, v, w]) (G := fun H' => Kp [x, S, P, L, A] H3 H') (ws_tup (f := rIs) fun H' g => ⟨_, sq_t (r3.tx g _ _ h4), al.upT (r3.tx g)⟩) (fun i σ' H' => Kp [x, S, P, L, A] H3 H' ∧ ∃ m2 x8, σ' = [some (.ref x), some (.ref a), some (.int n), some (.int hp), some (.int u), some (.int v), some (.int w), x7, x8] ∧ m2 = ((prs [u, v, w]).take i).foldl (stepP n) m' ∧ MkR K x dx S P L A none none m2 H' ∧ Sz m2 (50010 + i)) ⟨Kp.rf _ _, m', _, rfl, rfl, r3, Sz.mono z2 (by simp)⟩ (fun _ _ _ _ h => h.1) ?_ ?_
      · rintro i k vv σ' H4 hi ⟨k4, m2, x8, rfl, em4, r4, z4⟩ hv
        obtain ⟨b, rfl, hb⟩ := hv.of
        have em5 : stepP n m2 k = ((prs [u, v, w]).take (i + 1)).foldl (stepP n) m' := by rw [fold_take _ _ hi, em4]
        have hil : i < 3 := (List.getElem?_eq_some_iff.mp hi).1
        have z5 := z4.stepP n k
        walk_at "st"
        rw [← em5]
        refine ⟨_, _, _, r4.hx, T.c_Maker, T.n_Maker_pairs, _, rfl, _, rfl, .inr ⟨_, .inl r4.hP0⟩, _, dget_t r4.hP0 hb, ?_⟩
        have hget : ((gt m2.pairs k).map V.int).getD (.int 0) = .int (gv m2.pairs k) := by
          unfold gv
          cases gt m2.pairs k <;> rfl
        rw [hget]
        walk_at "st"
        refine ⟨_, _, _, r4.hx, T.c_Maker, T.n_Maker_pairs, _, rfl, _, rfl, _, dput_t r4.hP0 hb _ (by have := z4.2.1; omega), k4.tr (Kp.mut (by simp)), r4.setP none (pt m2.pairs k (gv m2.pairs k + n)), z5⟩
      · rintro σ' H4 ⟨k4, m2, x8, rfl, em4, r4, z4⟩
        rw [List.take_length] at em4
        rw [← em4] at q
        walk_at "st"
        exact q _ (((k1.tr k2).tr e5.kp).tr k4) r4
    · rw [if_neg hn] at q ⊢
      exact q _ (k1.tr k2) r2
/-! ### pairs -/
def sp_Maker_put_pairs (K : PySem.W.Frag) : Sp := fun vs H Q _ => ∃ (x dx S P L A : Addr) (m : MkS), vs = [.ref x] ∧ MkR K x dx S P L A none none m H ∧ m.pairs.length ≤ 20000 ∧ Sz m 20000 ∧ (m.pairs.map (·.1)).Nodup ∧ (∀ k ∈ m.pairs.map (·.1), ∃ a b, k = [a, b] ∧ a ∈ m.single.map (·.1)) ∧
  ∀ H', Kp [x, S, P, L, A] H H' → MkR K x dx S P L A none none (putP m) H' → Q .non H'
theorem putP1_pairs (m : MkS) (e : List Int × Int) : (putP1 m e).pairs = m.pairs := by
  unfold putP1
  split <;> rfl
theorem fold_pairs (m : MkS) (l : Told) : (l.foldl putP1 m).pairs = m.pairs := by
  induction l generalizing m with
  | nil => rfl
  | cons e l ih => rw [List.foldl_cons, ih, putP1_pairs]
abbrev nN_Maker_put_pairs : List Str := ["self", "x", "y", "number"]
theorem sc_Maker_put_pairs : FnScope nN_Maker_put_pairs ["self"] (defScope s_Maker_put_pairs) := ⟨rfl, rfl, rfl, by decide +kernel, rfl, by decide +kernel, by decide +kernel⟩
theorem ok_Maker_put_pairs {P : Program} {w : World} {K : PySem.W.Frag} {mg : Str → Option Value} {base : Heap} {fd : FuncData} (T : GG K w mg) (F : FunD K "put_pairs" "Maker.put_pairs" (defArgs s_Maker_put_pairs) (defBody s_Maker_put_pairs) (defScope s_Maker_put_pairs) [] [] (He.fAd K ("Maker", some "put_pairs")) fd)  : CalM P w K mg base (He.ga K "Maker") "put_pairs" 1 ["self"] (sp_Maker_put_pairs K) := by
  have nd := sc_Maker_put_pairs.nd
  refine calM_of F T.c_Maker T.e_Maker_put_pairs (fun _ _ _ _ _ _ us hl => match us, hl with | [_], _ => rfl) (FunD.ok F sc_Maker_put_pairs (fun vs H Q E h => ?_) (fun cdv A outer s H vs Q E hr h => ?_))
  · obtain ⟨x, dx, S, P, L, A, m, rfl, rr, hl, hz, nod, hk, q⟩ := h
    rfl
  obtain ⟨x, dx, S, P, L, A, m, rfl, rr, hl, hz, nod, hk, q⟩ := h
  have hu := hu_of hr
  refine ⟨_, PSs.nox (pss_one (ps_lock (ps_for PassesOwn.never rfl (pi_keys (pe_fldK (K := K) rfl (pv 0) rfl)) (pg_tupK (n := 2) (K := K) rfl rfl (pgs_cons (pg_name (i := 1) nd rfl (Or.inl rfl)) (pgs_cons (pg_name (i := 2) nd rfl (Or.inl rfl)) pgs_nil))) (pss_cons (ps_set (i := 3) nd rfl (Or.inl rfl) (pe_dget hu (pe_fldK (K := K) rfl (pv 0) rfl) (pe_tup (pa_cons (pv 1) (pa_cons (pv 2) pa_nil))) (fun _ _ => rfl))) (pss_one (ps_if (pt_cmpR op_lt (pv 3) pe_int (nomark _)) (pss_cons (ps_daug hu (pe_fldK (K := K) rfl (pv 0) rfl) (pv 1) (pv 3) in_add (fun _ _ _ => rfl)) (pss_one (ps_expr (pe_bm PySem.F.plainAttrs_list PySem.F.slot_list_append PySem.F.type_list_append mt_append (pe_fldK (K := K) rfl (pv 0) rfl) (pa_cons (pe_tup (pa_cons (pv 1) (pa_cons (pv 2) (pa_cons (pe_un un_neg (pv 3)) pa_nil)))) pa_nil))))) pss_nil)))))), ?_⟩
  walk_at "st"
  refine ⟨P, _, rr.hP0, True.intro, fun od => ?_⟩
  have r1 := rr.setP (some od) m.pairs
  have k1 : Kp [x, S, P, L, A] H (upd H P (.frz od (.dT (dt m.pairs)))) := Kp.mut (by simp)
  change MkR K x dx S P L A none (some od) m (upd H P (.frz od (.dT (dt m.pairs)))) at r1
  have hP1 : (upd H P (.frz od (.dT (dt m.pairs)))) P = some (.frz od (.dT (dt m.pairs))) := upd_same
  generalize upd H P (.frz od (.dT (dt m.pairs))) = H1 at r1 k1 hP1 ⊢
  refine ⟨_, _, _, r1.hx, T.c_Maker, T.n_Maker_pairs, _, rfl, P, rfl, od, .inr ⟨_, hP1, ?_⟩⟩
  refine for_s (xs := dt m.pairs) (G := fun H' => H' P = some (.frz od (.dT (dt m.pairs)))) (ws_keysT fun H' g => g) (fun i σ' H' => Kp [x, S, P, L, A] H1 H' ∧ ∃ m' x1 x2 x3, σ' = [some (.ref x), x1, x2, x3] ∧ m' = (m.pairs.take i).foldl putP1 m ∧ MkR K x dx S P L A none (some od) m' H' ∧ Sz m' (20000 + i) ∧ ∀ k ∈ m.single.map (·.1), k ∈ m'.single.map (·.1)) ⟨Kp.rf _ _, m, _, _, _, rfl, rfl, r1, hz, fun _ h => h⟩ ?_ ?_ ?_
  · rintro i σ' H' _ ⟨_, m', _, _, _, _, em, r', _, _⟩
    have := r'.hP
    rw [em, fold_pairs] at this
    exact this
  · rintro i p vv σ' H2 hi ⟨k2, m', x1, x2, x3, rfl, em, r2, z2, hs2⟩ ⟨b, rfl, hb⟩
    obtain ⟨e, he, rfl⟩ := List.mem_map.mp (show p ∈ (m.pairs.map fun e => (e.1.map Sum.inl, V.int e.2)) from List.mem_of_getElem? hi)
    have hi2 : m.pairs[i]? = some e := by
      have hil := (List.getElem?_eq_some_iff.mp hi).1
      unfold dt at hi hil
      rw [List.length_map] at hil
      rw [List.getElem?_map, List.getElem?_eq_getElem hil] at hi
      rw [List.getElem?_eq_getElem hil]
      have := Option.some.inj hi
      have h1 := inls_inj _ _ (Prod.mk.inj this).1
      have h2 := V.int.inj (Prod.mk.inj this).2
      exact congrArg some (Prod.ext h1 h2)
    have hil := (List.getElem?_eq_some_iff.mp hi2).1
    have em2 : putP1 m' e = (m.pairs.take (i + 1)).foldl putP1 m := by rw [fold_take _ _ hi2, em]
    have mp2 : m'.pairs = m.pairs := by rw [em, fold_pairs]
    have hP2 : H2 P = some (.frz od (.dT (dt m.pairs))) := by
      have := r2.hP
      rw [mp2] at this
      exact this
    have z3 := z2.putP1 e
    obtain ⟨k, n⟩ := e
    obtain ⟨u, v, rfl, hu1⟩ := hk _ (List.mem_map.mpr ⟨_, he, rfl⟩)
    have hu2 := hs2 u hu1
    have hs3 : ∀ t ∈ m.single.map (·.1), t ∈ (putP1 m' ([u, v], n)).single.map (·.1) := fun t ht => by
      unfold putP1
      split
      · exact some_pt (hs2 t ht) _ _
      · exact hs2 t ht
    have hb' : H2 b = some (.tup [V.int u, V.int v]) := hb
    walk_at "st"
    rw [← em2]
    refine ⟨_, sq_t hb', rfl, _, _, rfl, _, _, rfl, rfl, _, _, _, r2.hx, T.c_Maker, T.n_Maker_pairs, _, rfl, by decide, fun p hpn => ?_⟩
    have e3 := Ex.new (o := .tup [V.int u, V.int v]) hpn
    have r3 := r2.ex e3
    have hp3 : (upd H2 p (.tup [V.int u, V.int v])) p = some (.tup [V.int u, V.int v]) := upd_same
    have hP3 := e3 _ _ hP2
    have e3' : Kp [x, S, P, L, A] H2 (upd H2 p (.tup [V.int u, V.int v])) := e3.kp
    generalize upd H2 p (.tup [V.int u, V.int v]) = H3 at r3 hp3 hP3 e3' ⊢
    have hval : valV (dt m.pairs) ([u, v].map Sum.inl) = some (.int n) := by
      rw [valV_dt, gt_of_mem nod he] <;> rfl
    refine ⟨P, rfl, _, .inr ⟨_, [Sum.inl u, Sum.inl v], p, .inr ⟨od, hP3⟩, rfl, hp3, hval.symm⟩, ?_⟩
    walk_at "st"
    by_cases hn : n < 0
    · rw [if_pos hn]
      have dg := dget_k r3.hS0 u
      have gs : gt m'.single u = some (gv m'.single u) := gv_some hu2
      rw [gs] at dg
      refine ⟨_, _, _, r3.hx, T.c_Maker, T.n_Maker_single, _, rfl, _, rfl, _, dg, _, rfl, _, dput_k r3.hS0 u _ (by have := z2.1; omega), ?_⟩
      have r4 := r3.setS none (pt m'.single u (gv m'.single u + n))
      have k4 : Kp [x, S, P, L, A] H3 (upd H3 S (.dK (dk (pt m'.single u (gv m'.single u + n))))) := Kp.mut (by simp)
      change MkR K x dx S P L A none (some od) _ (upd H3 S (.dK (dk (pt m'.single u (gv m'.single u + n))))) at r4
      generalize upd H3 S (.dK (dk (pt m'.single u (gv m'.single u + n)))) = H4 at r4 k4 ⊢
      obtain ⟨as, hA, alA⟩ := r4.hA
      have hal : as.length < 1000000 := by
        have : as.length = m'.arcs.length := alA.len
        have : m'.arcs.length ≤ _ := z2.2.2.2
        omega
      refine ⟨_, _, _, r4.hx, T.c_Maker, T.n_Maker_arcs, _, rfl, (.inl ⟨rfl, as, sq_l hA⟩), by decide, fun p2 hp2 => ?_⟩
      have e5 := Ex.new (o := .tup [V.int u, V.int v, V.int (-n)]) hp2
      have r5 := r4.ex e5
      refine ⟨A, rfl, as, e5 _ _ hA, szl hal, ?_⟩
      have r6 := r5.setA (e5 _ _ hA) (c := (u, v, -n)) ⟨p2, _, _, _, rfl, upd_same, rfl, rfl, rfl⟩
      refine ⟨(((k2.tr e3').tr k4).tr e5.kp).tr (Kp.mut (by simp)), ?_, z3, hs3⟩
      unfold putP1
      rw [if_pos hn]
      exact r6
    · rw [if_neg hn]
      refine ⟨k2.tr e3', ?_, z3, hs3⟩
      unfold putP1
      rw [if_neg hn]
      exact r3
  · rintro σ' H2 ⟨k2, m', x1, x2, x3, rfl, em, r2, z2, hs2⟩
    rw [show (m.pairs.take (dt m.pairs).length) = m.pairs by unfold dt; rw [List.length_map, List.take_length]] at em
    have mp2 : m'.pairs = m.pairs := by rw [em]; exact fold_pairs m m.pairs
    have hP2 := r2.hP
    rw [mp2] at hP2
    refine ⟨hP2, ?_⟩
    have r3 := r2.setP none m.pairs
    have : ({ m' with pairs := m.pairs } : MkS) = putP m := by
      rw [← mp2]
      show m' = _
      rw [em] <;> rfl
    rw [this] at r3
    exact q _ ((k1.tr k2).tr (Kp.mut (by simp))) r3
/-! ### singles -/
def sp_Maker_put_singles (K : PySem.W.Frag) : Sp := fun vs H Q _ => ∃ (x dx S P L A : Addr) (m : MkS), vs = [.ref x] ∧ MkR K x dx S P L A none none m H ∧ Sz m 50000 ∧ (m.single.map (·.1)).Nodup ∧
  ∀ H', Kp [x, S, P, L, A] H H' → MkR K x dx S P L A none none (putS m) H' → Q .non H'
theorem putS1_single (m : MkS) (e : Int × Int) : (putS1 m e).single = m.single := by
  unfold putS1
  split
  · rfl
  · split <;> rfl
theorem fold_single (m : MkS) (l : List (Int × Int)) : (l.foldl putS1 m).single = m.single := by
  induction l generalizing m with
  | nil => rfl
  | cons e l ih => rw [List.foldl_cons, ih, putS1_single]
abbrev nN_Maker_put_singles : List Str := ["self", "node", "number"]
theorem sc_Maker_put_singles : FnScope nN_Maker_put_singles ["self"] (defScope s_Maker_put_singles) := ⟨rfl, rfl, rfl, by decide +kernel, rfl, by decide +kernel, by decide +kernel⟩
theorem ok_Maker_put_singles {P : Program} {w : World} {K : PySem.W.Frag} {mg : Str → Option Value} {base : Heap} {fd : FuncData} (T : GG K w mg) (F : FunD K "put_singles" "Maker.put_singles" (defArgs s_Maker_put_singles) (defBody s_Maker_put_singles) (defScope s_Maker_put_singles) [] [] (He.fAd K ("Maker", some "put_singles")) fd)  : CalM P w K mg base (He.ga K "Maker") "put_singles" 1 ["self"] (sp_Maker_put_singles K) := by
  have nd := sc_Maker_put_singles.nd
  refine calM_of F T.c_Maker T.e_Maker_put_singles (fun _ _ _ _ _ _ us hl => match us, hl with | [_], _ => rfl) (FunD.ok F sc_Maker_put_singles (fun vs H Q E h => ?_) (fun cdv A outer s H vs Q E hr h => ?_))
  · obtain ⟨x, dx, S, P, L, A, m, rfl, rr, hz, nod, q⟩ := h
    rfl
  obtain ⟨x, dx, S, P, L, A, m, rfl, rr, hz, nod, q⟩ := h
  have hu := hu_of hr
  refine ⟨_, PSs.nox (pss_one (ps_lock (ps_for PassesOwn.never rfl (pi_keys (pe_fldK (K := K) rfl (pv 0) rfl)) (pg_name (i := 1) nd rfl (Or.inl rfl)) (pss_cons (ps_set (i := 2) nd rfl (Or.inl rfl) (pe_dget hu (pe_fldK (K := K) rfl (pv 0) rfl) (pv 1) (fun _ _ => rfl))) (pss_one (ps_if (pt_cmpR op_gt (pv 2) pe_int (nomark _)) (pss_one (ps_expr (pe_bm PySem.F.plainAttrs_list PySem.F.slot_list_append PySem.F.type_list_append mt_append (pe_fldK (K := K) rfl (pv 0) rfl) (pa_cons (pe_tup (pa_cons (pv 1) (pa_cons (pe_gI T.i_NO_END) (pa_cons (pv 2) pa_nil)))) pa_nil)))) (pss_one (ps_if (pt_cmpR op_lt (pv 2) pe_int (nomark _)) (pss_cons (ps_fldaug (pv 0) (pv 2) in_add) (pss_one (ps_expr (pe_bm PySem.F.plainAttrs_list PySem.F.slot_list_append PySem.F.type_list_append mt_append (pe_fldK (K := K) rfl (pv 0) rfl) (pa_cons (pe_tup (pa_cons (pe_gI T.i_YES_END) (pa_cons (pv 1) (pa_cons (pe_un un_neg (pv 2)) pa_nil)))) pa_nil))))) pss_nil)))))))), ?_⟩
  walk_at "st"
  refine ⟨S, _, rr.hS0, True.intro, fun od => ?_⟩
  have r1 := rr.setS (some od) m.single
  have k1 : Kp [x, S, P, L, A] H (upd H S (.frz od (.dK (dk m.single)))) := Kp.mut (by simp)
  change MkR K x dx S P L A (some od) none m (upd H S (.frz od (.dK (dk m.single)))) at r1
  have hS1 : (upd H S (.frz od (.dK (dk m.single)))) S = some (.frz od (.dK (dk m.single))) := upd_same
  generalize upd H S (.frz od (.dK (dk m.single))) = H1 at r1 k1 hS1 ⊢
  refine ⟨_, _, _, r1.hx, T.c_Maker, T.n_Maker_single, _, rfl, S, rfl, od, .inl ⟨_, hS1, ?_⟩⟩
  refine for_s (xs := dk m.single) (G := fun H' => H' S = some (.frz od (.dK (dk m.single)))) (ws_keys fun H' g => g) (fun i σ' H' => Kp [x, S, P, L, A] H1 H' ∧ ∃ m' x1 x2, σ' = [some (.ref x), x1, x2] ∧ m' = (m.single.take i).foldl putS1 m ∧ MkR K x dx S P L A (some od) none m' H' ∧ Sz m' (50000 + i)) ⟨Kp.rf _ _, m, _, _, rfl, rfl, r1, hz⟩ ?_ ?_ ?_
  · rintro i σ' H' _ ⟨_, m', _, _, _, em, r', _⟩
    have := r'.hS
    rw [em, fold_single] at this
    exact this
  · rintro i p vv σ' H2 hi ⟨k2, m', x1, x2, rfl, em, r2, z2⟩ rfl
    obtain ⟨e, he, rfl⟩ := List.mem_map.mp (show p ∈ (m.single.map fun e => (Sum.inl e.1, V.int e.2)) from List.mem_of_getElem? hi)
    have hi2 : m.single[i]? = some e := by
      have hil := (List.getElem?_eq_some_iff.mp hi).1
      unfold dk at hi hil
      rw [List.length_map] at hil
      rw [List.getElem?_map, List.getElem?_eq_getElem hil] at hi
      rw [List.getElem?_eq_getElem hil]
      have := Option.some.inj hi
      have h1 := inl_inj _ _ (Prod.mk.inj this).1
      have h2 := V.int.inj (Prod.mk.inj this).2
      exact congrArg some (Prod.ext h1 h2)
    have hil := (List.getElem?_eq_some_iff.mp hi2).1
    have em2 : putS1 m' e = (m.single.take (i + 1)).foldl putS1 m := by rw [fold_take _ _ hi2, em]
    have mp2 : m'.single = m.single := by rw [em, fold_single]
    have hS2 : H2 S = some (.frz od (.dK (dk m.single))) := by
      have := r2.hS
      rw [mp2] at this
      exact this
    have z3 := z2.putS1 e
    have hzl := hz.1
    obtain ⟨u, n⟩ := e
    have hval : valV (dk m.single) (Sum.inl u) = some (.int n) := by
      rw [valV_dk, gt_of_mem nod he] <;> rfl
    walk_at "st"
    rw [← em2]
    refine ⟨_, _, _, r2.hx, T.c_Maker, T.n_Maker_single, _, rfl, S, rfl, _, .inl ⟨_, Sum.inl u, .inr ⟨od, hS2⟩, rfl, hval.symm⟩, ?_⟩
    walk_at "st"
    have app : ∀ (c : Int × Int × Int) (m3 : MkS) (H3 : Hp) (q : Addr), MkR K x dx S P L A (some od) none m3 H3 → H3 q = none → ∀ as, H3 A = some (.lst as) → MkR K x dx S P L A (some od) none { m3 with arcs := m3.arcs ++ [c] } (upd (upd H3 q (.tup [V.int c.1, V.int c.2.1, V.int c.2.2])) A (.lst (as ++ [V.ref q]))) := fun c m3 H3 q r3 hq as ha => by
      have e5 := Ex.new (o := .tup [V.int c.1, V.int c.2.1, V.int c.2.2]) hq
      exact (r3.ex e5).setA (e5 _ _ ha) ⟨q, _, _, _, rfl, upd_same, rfl, rfl, rfl⟩
    by_cases hn : 0 < n
    · rw [if_pos hn]
      obtain ⟨as, hA, alA⟩ := r2.hA
      have hal : as.length < 1000000 := by
        have : as.length = m'.arcs.length := alA.len
        have : m'.arcs.length ≤ _ := z2.2.2.2
        omega
      refine ⟨_, _, _, r2.hx, T.c_Maker, T.n_Maker_arcs, _, rfl, (.inl ⟨rfl, as, sq_l hA⟩), by decide, fun p2 hp2 => ?_⟩
      refine ⟨A, rfl, as, (Ex.new hp2) _ _ hA, szl hal, (k2.tr (Ex.new hp2).kp).tr (Kp.mut (by simp)), ?_, z3⟩
      unfold putS1
      rw [if_pos hn]
      exact app (u, 1, n) m' H2 p2 r2 hp2 as hA
    · rw [if_neg hn]
      by_cases hn2 : n < 0
      · rw [if_pos hn2]
        refine ⟨_, _, _, r2.hx, T.c_Maker, T.n_Maker_base, _, rfl, _, rfl, _, _, r2.hx, by show 5 < 1000; decide, ?_⟩
        have r3 := r2.setB (m'.base + n)
        have k3 : Kp [x, S, P, L, A] H2 (upd H2 x (.ins (He.ga K "Maker") dx [("base", .int (m'.base + n)), ("single", .ref S), ("pairs", .ref P), ("triples", .ref L), ("arcs", .ref A)])) := Kp.mut (by simp)
        change ∃ _, _
        obtain ⟨as, hA, alA⟩ := r3.hA
        have hal : as.length < 1000000 := by
          have : as.length = m'.arcs.length := alA.len
          have : m'.arcs.length ≤ _ := z2.2.2.2
          omega
        refine ⟨_, _, _, r3.hx, T.c_Maker, T.n_Maker_arcs, _, rfl, (.inl ⟨rfl, as, sq_l hA⟩), by decide, fun p2 hp2 => ?_⟩
        refine ⟨A, rfl, as, (Ex.new hp2) _ _ hA, szl hal, ((k2.tr k3).tr (Ex.new hp2).kp).tr (Kp.mut (by simp)), ?_, z3⟩
        unfold putS1
        rw [if_neg hn, if_pos hn2]
        exact app (0, u, -n) _ _ p2 r3 hp2 as hA
      · rw [if_neg hn2]
        refine ⟨k2, ?_, z3⟩
        unfold putS1
        rw [if_neg hn, if_neg hn2]
        exact r2
  · rintro σ' H2 ⟨k2, m', x1, x2, rfl, em, r2, z2⟩
    rw [show (m.single.take (dk m.single).length) = m.single by unfold dk; rw [List.length_map, List.take_length]] at em
    have mp2 : m'.single = m.single := by rw [em]; exact fold_single m m.single
    have hS2 := r2.hS
    rw [mp2] at hS2
    refine ⟨hS2, ?_⟩
    have r3 := r2.setS none m.single
    have : ({ m' with single := m.single } : MkS) = putS m := by
      rw [← mp2]
      show m' = _
      rw [em] <;> rfl
    rw [this] at r3
    exact q _ ((k1.tr k2).tr (Kp.mut (by simp))) r3
end Cut
end

section
set_option maxHeartbeats 4000000
namespace Cut
open PySem PySem.Spec L2
local macro_rules | `(tactic| walk_at "rd") => `(tactic| dsimp only [tFor_eq, tLc_eq, tLc2_eq, iTup, iList, iRng1, iRng2, iSeq, RZ.iZipA, iEnum, iZipX, iEnumT, iKeys, tTupZip, tLenSet, gFld_app, tLock, tLockE, tCallN, tTup0F, tAsg, tVar, tC, tCmp, tIsN, tNotN, tB, tAnd, tOr, tNot, tAndV, tOrV, tNotV, tIf, tNext, tSeq, tBreak, tCont, tDrop, tRet, tRetN, tIfS, gName_app, gTup_app, gCons_app, gNil_app, gSub_app, tAsg, tAug, tCall, tMeth, tMake, tCons, tNil, tTup, tLst, tCB, tOp, tUn, tTest, tChain, tFld, sFld, sFldAug, tBM, tBM0, tSl, tPart, tNoPart, tDGet, tDIn, tDNotIn, sDPut, sDAug, tDNewK, tDNewT, tDGet2, L2.rI, L2.rI0, L2.rU, rEq, rNe, t2I, ipI, rAdd, rSub, rAppend, tDc_eq, tAugS, cxOf, Cx.nox, Cx.wish])
local macro_rules | `(tactic| walk_at "ex") => `(tactic| simp only [L2.start, List.map_cons, List.map_nil, List.length_cons, List.length_nil, List.replicate_succ, List.replicate_zero, List.cons_append, List.nil_append, List.append_nil, List.getElem?_cons_zero, List.getElem?_cons_succ, List.set_cons_zero, List.set_cons_succ, L2.wipe, Option.some.injEq, V.int.injEq, V.bl.injEq, V.ref.injEq, V.str.injEq, V.ty.injEq, List.cons.injEq, exists_eq_left', exists_eq_left, exists_eq_right, and_true, true_and, and_self, exists_and_left, exists_and_right, exists_const, and_assoc, exists_eq, exists_eq', eq_self_iff_true, if_true, if_false, Bool.false_eq_true, decide_eq_true_eq, ne_eq, reduceCtorEq, not_false_eq_true, Nat.reduceAdd, Nat.reduceSub, Bool.not_true, Bool.not_false, Option.map_some, Option.map_none, Option.isSome_some, Option.isSome_none, Option.getD_some, Option.getD_none])
local macro_rules | `(tactic| walk_at "st") => `(tactic| ((try walk_at "rd"); (try walk_at "ex")))

theorem al_perm {α : Type} {R : V → α → Prop} {ys xs : List V} (h : ys.Perm xs) : ∀ {X : List α}, Al R xs X → ∃ Y : List α, Y.Perm X ∧ Al R ys Y := by
  induction h with
  | nil => intro X a; exact ⟨X, .refl _, a⟩
  | cons v h ih =>
    intro X a
    cases a with
    | cons r t =>
      obtain ⟨Y, p, al⟩ := ih t
      exact ⟨_ :: Y, p.cons _, .cons r al⟩
  | swap u v l =>
    intro X a
    cases a with
    | cons r t =>
      cases t with
      | cons r2 t => exact ⟨_, .swap _ _ _, .cons r2 (.cons r t)⟩
  | trans h1 h2 ih1 ih2 =>
    intro X a
    obtain ⟨Y, p, al⟩ := ih2 a
    obtain ⟨Z, p2, al2⟩ := ih1 al
    exact ⟨Z, p2.trans p, al2⟩
def iOf : V → Option Int | .int i => some i | _ => none
def kOf (H : Hp) : V → List Int
  | .ref t => match H t with
    | some (.tup xs) => xs.filterMap iOf
    | _ => []
  | _ => []
theorem iOf_ints (ns : List Int) : (ns.map V.int).filterMap iOf = ns := by
  induction ns with
  | nil => rfl
  | cons n ns ih => rw [List.map_cons, List.filterMap_cons]; show n :: _ = _; rw [ih]
theorem kOf_tup {H : Hp} {a : Addr} {ns : List Int} (h : H a = some (.tup (ns.map V.int))) : kOf H (.ref a) = ns := by
  show (match H a with | some (.tup xs) => xs.filterMap iOf | _ => []) = ns
  rw [h]
  exact iOf_ints ns
theorem al_mem {α : Type} {R : V → α → Prop} {xs : List V} {X : List α} (a : Al R xs X) {v : V} (h : v ∈ xs) : ∃ c ∈ X, R v c := by
  induction a with
  | nil => cases h
  | cons r t ih =>
    rcases List.mem_cons.mp h with rfl | h
    · exact ⟨_, .head _, r⟩
    · obtain ⟨c, h1, h2⟩ := ih h
      exact ⟨c, .tail _ h1, h2⟩
/-! ### a Maker is made -/
def sp_Maker_init (K : PySem.W.Frag) : Sp := fun vs H Q _ => ∃ (x dx : Addr) (v : V) (n : Nat) (t : Told), vs = [.ref x, v, .int n] ∧ H x = some (.ins (He.ga K "Maker") dx []) ∧ rTu rTe t H v ∧ SumOk n t ∧ t.length ≤ 500 ∧ n ≤ 8 ∧
  ∀ H' S P L A, But x H H' → H S = none → H P = none → H L = none → H A = none → MkR K x dx S P L A none none (inM n t) H' → Q .non H'
theorem But.back {x p : Addr} {H H' : Hp} {u : HO} (b : But x H H') (hx : H' x = some u) (h : H' p = none) : p ≠ x ∧ H p = none := by
  have n : p ≠ x := fun z => by
    rw [z, hx] at h
    cases h
  refine ⟨n, ?_⟩
  cases hp : H p with
  | none => rfl
  | some o =>
    rw [b p o n hp] at h
    cases h
abbrev nN_Maker_init : List Str := ["self", "told", "letter_count", "letter", "letters", "number", "nodes"]
theorem sc_Maker_init : FnScope nN_Maker_init ["self", "told", "letter_count"] (defScope s_Maker_init) := ⟨rfl, rfl, rfl, by decide +kernel, rfl, by decide +kernel, by decide +kernel⟩
theorem ok_Maker_init {P : Program} {w : World} {K : PySem.W.Frag} {mg : Str → Option Value} {base : Heap} {fd : FuncData} (T : GG K w mg) (F : FunD K "__init__" "Maker.__init__" (defArgs s_Maker_init) (defBody s_Maker_init) (defScope s_Maker_init) [] [] (He.fAd K ("Maker", some "__init__")) fd)  : CalC P w K mg base "Maker" (He.ga K "Maker") 1 ["self", "told", "letter_count"] (sp_Maker_init K) := by
  have nd := sc_Maker_init.nd
  refine calC_of F T.g_Maker T.m_Maker (fun _ _ _ _ _ _ us hl => match us, hl with | [_, _, _], _ => rfl) (FunD.ok F sc_Maker_init (fun vs H Q E h => ?_) (fun cdv A outer s H vs Q E hr h => ?_))
  · obtain ⟨x, dx, v, n, t, rfl, hx, ⟨a, us, rfl, ha, al⟩, ht, hl, hn8, q⟩ := h
    rfl
  obtain ⟨x, dx, v, n, t, rfl, hx, ⟨a, us, rfl, ha, al⟩, ht, hl, hn8, q⟩ := h
  have hu := hu_of hr
  refine ⟨_, PSs.nox (pss_cons (ps_fld (pv 0) pe_int rfl) (pss_cons (ps_fld (pv 0) (pe_dc (own := [("letter", 3)]) rfl nd (pi_range1 rfl T.f_range (pa_cons (pv 2) pa_nil)) (blkOk_by (own := [("letter", 3)]) (N := nN_Maker_init) (sc := defScope s_Maker_init) (by decide +kernel)) (fun _ _ _ _ _ => (pg_name (i := 3) nd rfl (Or.inl rfl))) (fun _ _ _ _ _ => pts_nil) (fun _ _ _ _ _ => (pe_op op_add (pe_gI T.i_FIRST_LETTER) (pv 3))) (fun _ _ _ _ _ => pe_int)) rfl) (pss_cons (ps_fld (pv 0) pe_dnewT rfl) (pss_cons (ps_fld (pv 0) (pe_lst pa_nil) rfl) (pss_cons (ps_fld (pv 0) (pe_lst pa_nil) rfl) (pss_one (ps_for PassesOwn.never rfl (pi_tupK (K := K) rfl (pv 1)) (pg_tupK (n := 2) (K := K) rfl rfl (pgs_cons (pg_name (i := 4) nd rfl (Or.inl rfl)) (pgs_cons (pg_name (i := 5) nd rfl (Or.inl rfl)) pgs_nil))) (pss_cons (ps_set (i := 6) nd rfl (Or.inl rfl) (pe_b_tuple T.f_tuple call_tuple_of (pa_cons (pe_lc (own := [("letter", 3)]) rfl nd (pi_tupK (K := K) rfl (pv 4)) (blkOk_by (own := [("letter", 3)]) (N := nN_Maker_init) (sc := defScope s_Maker_init) (by decide +kernel)) (fun _ _ _ _ _ => (pg_name (i := 3) nd rfl (Or.inl rfl))) (fun _ _ _ _ _ => pts_nil) (fun _ _ _ _ _ => (pe_op op_add (pe_gI T.i_FIRST_LETTER) (pv 3)))) pa_nil))) (pss_one (ps_if (pt_cmpR op_eq (pe_b_len T.f_len call_len_seq (pa_cons (pv 6) pa_nil)) pe_int (nomark _)) (pss_one (ps_fld (pv 0) (pv 5) rfl)) (pss_one (ps_if (pt_cmpR op_eq (pe_b_len T.f_len call_len_seq (pa_cons (pv 6) pa_nil)) pe_int (nomark _)) (pss_one (ps_dput hu (pe_fldK (K := K) rfl (pv 0) rfl) (pe_ix (ix_tupK (K := K) rfl) (pv 6) pe_int (fun _ _ => rfl)) (pv 5) rfl)) (pss_one (ps_if (pt_cmpR op_eq (pe_b_len T.f_len call_len_seq (pa_cons (pv 6) pa_nil)) pe_int (nomark _)) (pss_one (ps_dput hu (pe_fldK (K := K) rfl (pv 0) rfl) (pv 6) (pv 5) rfl)) (pss_one (ps_expr (pe_bm PySem.F.plainAttrs_list PySem.F.slot_list_append PySem.F.type_list_append mt_append (pe_fldK (K := K) rfl (pv 0) rfl) (pa_cons (pe_tup (pa_cons (pv 6) (pa_cons (pv 5) pa_nil))) pa_nil)))))))))))))))))), ?_⟩
  walk_at "st"
  refine ⟨_, _, _, hx, T.c_Maker, T.n_Maker_base, by decide, by omega, by omega, ?_⟩
  simp only [show putF ("base" : Str) (V.int 0) [] = [(("base" : Str), V.int 0)] from rfl]
  have b0 : But x H (upd H x (.ins (He.ga K "Maker") dx [("base", .int 0)])) := But.mut
  have hx0 : (upd H x (.ins (He.ga K "Maker") dx [("base", .int 0)])) x = some (.ins (He.ga K "Maker") dx [("base", .int 0)]) := upd_same
  generalize upd H x (.ins (He.ga K "Maker") dx [("base", .int 0)]) = X0 at b0 hx0 ⊢
  rw [Int.toNat_natCast]
  refine dc_ints (F := fun (i : Nat) => (2 + (i : Int), 0)) wk_rng0 (by rw [List.length_range]; omega) (by have := (in0_I n t).I.ns; exact this) ?_ ?_
  · rintro i k v H1 K1 K2 hi e1 hv hK
    cases hv
    walk_at "st"
    exact hK _ (Ex.rf _)
  · intro S H1 hS e1 hS1
    obtain ⟨nS, fS⟩ := b0.back hx0 hS
    have hx1 := e1 _ _ hx0
    have b1 := b0.tr e1.but
    refine ⟨_, _, _, hx1, T.c_Maker, T.n_Maker_single, by show 1 < 1000; decide, ?_⟩
    simp only [show putF ("single" : Str) (V.ref S) [(("base" : Str), V.int 0)] = [(("base" : Str), V.int 0), (("single" : Str), V.ref S)] from rfl]
    have b2 : But x H (upd H1 x (.ins (He.ga K "Maker") dx [("base", .int 0), ("single", .ref S)])) := b1.tr But.mut
    have hx2 : (upd H1 x (.ins (He.ga K "Maker") dx [("base", .int 0), ("single", .ref S)])) x = some (.ins (He.ga K "Maker") dx [("base", .int 0), ("single", .ref S)]) := upd_same
    have hS2 : (upd H1 x (.ins (He.ga K "Maker") dx [("base", .int 0), ("single", .ref S)])) S = some (.dK (dk (in0 n).single)) := by
      rw [upd_ne nS]
      exact hS1
    intro P hP
    generalize upd H1 x (.ins (He.ga K "Maker") dx [("base", .int 0), ("single", .ref S)]) = X2 at b2 hx2 hS2 hP ⊢
    obtain ⟨nP, fP⟩ := b2.back hx2 hP
    have e3 := Ex.new (o := .dT []) hP
    have hx3 := e3 _ _ hx2
    have hS3 := e3 _ _ hS2
    have b3 := b2.tr e3.but
    have hP3 : (upd X2 P (.dT [])) P = some (.dT (dt (in0 n).pairs)) := upd_same
    generalize upd X2 P (.dT []) = X3 at e3 hx3 hS3 b3 hP3 ⊢
    refine ⟨_, _, _, hx3, T.c_Maker, T.n_Maker_pairs, by show 2 < 1000; decide, by decide, ?_⟩
    simp only [show putF ("pairs" : Str) (V.ref P) [(("base" : Str), V.int 0), (("single" : Str), V.ref S)] = [(("base" : Str), V.int 0), (("single" : Str), V.ref S), (("pairs" : Str), V.ref P)] from rfl]
    have b4 : But x H (upd X3 x (.ins (He.ga K "Maker") dx [("base", .int 0), ("single", .ref S), ("pairs", .ref P)])) := b3.tr But.mut
    have hx4 : (upd X3 x (.ins (He.ga K "Maker") dx [("base", .int 0), ("single", .ref S), ("pairs", .ref P)])) x = some (.ins (He.ga K "Maker") dx [("base", .int 0), ("single", .ref S), ("pairs", .ref P)]) := upd_same
    have hS4 : (upd X3 x (.ins (He.ga K "Maker") dx [("base", .int 0), ("single", .ref S), ("pairs", .ref P)])) S = some (.dK (dk (in0 n).single)) := by
      rw [upd_ne nS]
      exact hS3
    have hP4 : (upd X3 x (.ins (He.ga K "Maker") dx [("base", .int 0), ("single", .ref S), ("pairs", .ref P)])) P = some (.dT (dt (in0 n).pairs)) := by
      rw [upd_ne nP]
      exact hP3
    intro L hL
    generalize upd X3 x (.ins (He.ga K "Maker") dx [("base", .int 0), ("single", .ref S), ("pairs", .ref P)]) = X4 at b4 hx4 hS4 hP4 hL ⊢
    obtain ⟨nL, fL⟩ := b4.back hx4 hL
    have e5 := Ex.new (o := .lst []) hL
    have hx5 := e5 _ _ hx4
    have hS5 := e5 _ _ hS4
    have hP5 := e5 _ _ hP4
    have b5 := b4.tr e5.but
    have hL5 : (upd X4 L (.lst [])) L = some (.lst []) := upd_same
    generalize upd X4 L (.lst []) = X5 at e5 hx5 hS5 b5 hP5 hL5 ⊢
    refine ⟨_, _, _, hx5, T.c_Maker, T.n_Maker_triples, by show 3 < 1000; decide, by decide, ?_⟩
    simp only [show putF ("triples" : Str) (V.ref L) [(("base" : Str), V.int 0), (("single" : Str), V.ref S), (("pairs" : Str), V.ref P)] = [(("base" : Str), V.int 0), (("single" : Str), V.ref S), (("pairs" : Str), V.ref P), (("triples" : Str), V.ref L)] from rfl]
    have b6 : But x H (upd X5 x (.ins (He.ga K "Maker") dx [("base", .int 0), ("single", .ref S), ("pairs", .ref P), ("triples", .ref L)])) := b5.tr But.mut
    have hx6 : (upd X5 x (.ins (He.ga K "Maker") dx [("base", .int 0), ("single", .ref S), ("pairs", .ref P), ("triples", .ref L)])) x = some (.ins (He.ga K "Maker") dx [("base", .int 0), ("single", .ref S), ("pairs", .ref P), ("triples", .ref L)]) := upd_same
    have k6 : ∀ b o, b ≠ x → X5 b = some o → (upd X5 x (.ins (He.ga K "Maker") dx [("base", .int 0), ("single", .ref S), ("pairs", .ref P), ("triples", .ref L)])) b = some o := fun b o n h => by
      rw [upd_ne n]
      exact h
    have hS6 := k6 _ _ nS hS5
    have hP6 := k6 _ _ nP hP5
    have hL6 := k6 _ _ nL hL5
    intro A hA
    generalize upd X5 x (.ins (He.ga K "Maker") dx [("base", .int 0), ("single", .ref S), ("pairs", .ref P), ("triples", .ref L)]) = X6 at b6 hx6 hS6 hP6 hL6 hA k6 ⊢
    obtain ⟨nA, fA⟩ := b6.back hx6 hA
    have e7 := Ex.new (o := .lst []) hA
    have hx7 := e7 _ _ hx6
    have hS7 := e7 _ _ hS6
    have hP7 := e7 _ _ hP6
    have hL7 := e7 _ _ hL6
    have b7 := b6.tr e7.but
    have hA7 : (upd X6 A (.lst [])) A = some (.lst []) := upd_same
    have nLA : L ≠ A := ne_of_none hL6 hA
    generalize upd X6 A (.lst []) = X7 at e7 hx7 hS7 b7 hP7 hL7 hA7 ⊢
    refine ⟨_, _, _, hx7, T.c_Maker, T.n_Maker_arcs, by show 4 < 1000; decide, ?_⟩
    simp only [show putF ("arcs" : Str) (V.ref A) [(("base" : Str), V.int 0), (("single" : Str), V.ref S), (("pairs" : Str), V.ref P), (("triples" : Str), V.ref L)] = [(("base" : Str), V.int 0), (("single" : Str), V.ref S), (("pairs" : Str), V.ref P), (("triples" : Str), V.ref L), (("arcs" : Str), V.ref A)] from rfl]
    have rr : MkR K x dx S P L A none none (in0 n) (upd X7 x (.ins (He.ga K "Maker") dx [("base", .int 0), ("single", .ref S), ("pairs", .ref P), ("triples", .ref L), ("arcs", .ref A)])) :=
      ⟨upd_same, by rw [upd_ne nS]; exact hS7, by rw [upd_ne nP]; exact hP7, ⟨[], by rw [upd_ne nL]; exact hL7, .nil⟩, ⟨[], by rw [upd_ne nA]; exact hA7, .nil⟩, nLA⟩
    have b8 : But x H (upd X7 x (.ins (He.ga K "Maker") dx [("base", .int 0), ("single", .ref S), ("pairs", .ref P), ("triples", .ref L), ("arcs", .ref A)])) := b7.tr But.mut
    generalize upd X7 x (.ins (He.ga K "Maker") dx [("base", .int 0), ("single", .ref S), ("pairs", .ref P), ("triples", .ref L), ("arcs", .ref A)]) = X8 at rr b8 ⊢
    have nax : a ≠ x := ne_of ha hx (fun z => nomatch z)
    have tx0 : Tx H X8 := b8.tx hx (fun xs z => nomatch z)
    have hz0 : Sz (in0 n) 508 := by
      refine ⟨?_, Nat.zero_le _, Nat.zero_le _, Nat.zero_le _⟩
      show (List.map _ _).length ≤ _
      rw [List.length_map, List.length_range]
      omega
    refine ⟨⟨_, sq_t (tx0 _ _ ha)⟩, ?_⟩
    have ne := rr.ne
    refine for_gen (f := rTe) (xs := t) (G := fun H' => Kp [x, S, P, L, A] X8 H') (wk_tup fun H' g => ⟨us, sq_t (rr.tx g _ _ (tx0 _ _ ha)), (al.upT tx0).upT (rr.tx g)⟩) (fun i σ' H' => Kp [x, S, P, L, A] X8 H' ∧ ∃ m x3 x4 x5 x6, σ' = [some (.ref x), some (.ref a), some (.int n), x3, x4, x5, x6] ∧ m = (t.take i).foldl inI (in0 n) ∧ MkR K x dx S P L A none none m H' ∧ Sz m (508 + i)) ⟨Kp.rf _ _, in0 n, _, _, _, _, rfl, rfl, rr, hz0⟩ (fun _ _ _ _ h => h.1) ?_ ?_
    · rintro i e vv σ' H2 H3 hi ⟨k2, m, x3, x4, x5, x6, rfl, em, r2, z2⟩ e3 ⟨b, y1, y2, rfl, hb, h1, h2⟩
      cases h2
      obtain ⟨c, rfl, hc⟩ := h1.of
      have em2 : inI m e = (t.take (i + 1)).foldl inI (in0 n) := by rw [fold_take _ _ hi, em]
      have z3 := z2.inI e
      have hil := (List.getElem?_eq_some_iff.mp hi).1
      have he := ht.2 e (List.mem_of_getElem? hi)
      walk_at "st"
      rw [← em2]
      refine ⟨_, sq_t hb, rfl, ?_⟩
      walk_at "st"
      refine ⟨⟨_, sq_t hc⟩, ?_⟩
      refine lc_mapN (f := rI) (xs := e.1) (rb := rI) (F := fun l => 2 + l) (wk_tup fun H' g => ⟨_, sq_t (g _ _ hc), ints_al _⟩) (by have := he.2.2.2; omega) (fun _ => rfl) ?_ ?_
      · rintro j l v H4 K3 hj e4 hv hK
        cases hv
        walk_at "st"
        exact hK _ _ (Ex.rf _) rfl
      · rintro p H4 hp e4 hr4
        obtain ⟨_, ws, hzz, hp4, al4⟩ := hr4
        cases hzz
        rw [al_ints al4] at hp4
        change H4 p = some (.lst ((shf e.1).map V.int)) at hp4
        refine ⟨p, rfl, _, .inl ⟨sq_l hp4, fun d hd => ?_⟩⟩
        have e5 : Ex H2 (upd H4 d (.tup ((shf e.1).map V.int))) := (e3.tr e4).tr (Ex.new hd)
        have hd5 : (upd H4 d (.tup ((shf e.1).map V.int))) d = some (.tup ((shf e.1).map V.int)) := upd_same
        generalize upd H4 d (.tup ((shf e.1).map V.int)) = H5 at e5 hd5 ⊢
        have r5 := r2.ex e5
        have k5 := k2.tr e5.kp
        have hlen : ((shf e.1).map V.int).length = e.1.length := by rw [List.length_map, shf_len]
        refine ⟨_, .inr (sq_t hd5), rfl, ?_⟩
        rw [hlen]
        by_cases c0 : e.1.length = 0
        · rw [if_pos (by omega)]
          refine ⟨_, _, _, r5.hx, T.c_Maker, T.n_Maker_base, by show 5 < 1000; decide, k5.tr (Kp.mut (by simp)), ?_, z3⟩
          have := r5.setB e.2
          unfold inI
          rw [if_pos c0]
          exact this
        · rw [if_neg (by omega)]
          refine ⟨_, .inr (sq_t hd5), rfl, ?_⟩
          rw [hlen]
          by_cases c1 : e.1.length = 1
          · rw [if_pos (by omega)]
            refine ⟨_, _, _, r5.hx, T.c_Maker, T.n_Maker_single, _, rfl, ?_⟩
            have h0 : (shf e.1)[0]? = some ((shf e.1).getD 0 0) := by
              have : 0 < (shf e.1).length := by rw [shf_len]; omega
              rw [List.getD_eq_getElem?_getD, List.getElem?_eq_getElem this] <;> rfl
            refine ixT (sq_t hd5) (by decide) (map_at h0) ?_
            refine ⟨S, rfl, _, dput_k r5.hS0 _ _ (by have := z2.1; omega), k5.tr (Kp.mut (by simp)), ?_, z3⟩
            have := r5.setS none (pt m.single ((shf e.1).getD 0 0) e.2)
            unfold inI
            rw [if_neg c0, if_pos c1]
            exact this
          · rw [if_neg (by omega)]
            refine ⟨_, .inr (sq_t hd5), rfl, ?_⟩
            rw [hlen]
            by_cases c2 : e.1.length = 2
            · rw [if_pos (by omega)]
              refine ⟨_, _, _, r5.hx, T.c_Maker, T.n_Maker_pairs, _, rfl, P, rfl, _, dput_t r5.hP0 hd5 _ (by have := z2.2.1; omega), k5.tr (Kp.mut (by simp)), ?_, z3⟩
              have := r5.setP none (pt m.pairs (shf e.1) e.2)
              unfold inI
              rw [if_neg c0, if_neg c1, if_pos c2]
              exact this
            · rw [if_neg (by omega)]
              obtain ⟨ts, hT5, alT⟩ := r5.hT
              have htl : ts.length < 1000000 := by
                have : ts.length = m.triples.length := alT.len
                have := z2.2.2.1
                omega
              refine ⟨_, _, _, r5.hx, T.c_Maker, T.n_Maker_triples, _, rfl, (.inl ⟨rfl, ts, sq_l hT5⟩), by decide, fun p2 hp2 => ?_⟩
              have e6 := Ex.new (o := .tup [V.ref d, V.int e.2]) hp2
              have r6 := r5.ex e6
              refine ⟨L, rfl, ts, e6 _ _ hT5, szl htl, (k5.tr e6.kp).tr (Kp.mut (by simp)), ?_, z3⟩
              have := r6.setT (e6 _ _ hT5) (c := (shf e.1, e.2)) ⟨p2, _, _, rfl, upd_same, rIs.mk (e6 _ _ hd5), rfl⟩
              unfold inI
              rw [if_neg c0, if_neg c1, if_neg c2]
              exact this
    · rintro σ' H2 ⟨k2, m, x3, x4, x5, x6, rfl, em, r2, z2⟩
      rw [List.take_length] at em
      have em' : m = inM n t := em
      subst em'
      walk_at "st"
      refine q _ S P L A (fun b o hb hbo => ?_) fS fP fL fA r2
      refine k2 b o ?_ (b8 b o hb hbo)
      simp only [List.mem_cons, List.not_mem_nil, or_false, not_or]
      exact ⟨hb, ne_of_none hbo fS, ne_of_none hbo fP, ne_of_none hbo fL, ne_of_none hbo fA⟩
/-! ### the network -/
def rNw (n : Nat) (t : Told) : Rp := fun H v => ∃ (N : Nat) (b : Int) (A : List (Int × Int × Int)), NetOk n t N b A ∧ N ≤ 1000 ∧ A.length ≤ 60000 ∧ r3 (rI (N : Int)) (rI b) (rTu rAr A) H v
instance (n : Nat) (t : Told) : Im (rNw n t) := ⟨fun e ⟨N, b, A, h1, h2, h3, h4⟩ => ⟨N, b, A, h1, h2, h3, Im.upT e h4⟩⟩
theorem NetOk.perm {n : Nat} {t : Told} {N : Nat} {b : Int} {A B : List (Int × Int × Int)} (h : NetOk n t N b A) (p : B.Perm A) : NetOk n t N b B := by
  have e : ∀ y, CW B y = CW A y := fun y => sum_perm (p.map _)
  refine ⟨h.hN, fun a ha => h.ka a (p.mem_iff.mp ha), fun y h0 h1 => by rw [e]; exact h.ge y h0 h1, fun s => ?_⟩
  obtain ⟨y, h0, h1, h2, h3⟩ := h.eq s
  exact ⟨y, h0, h1, h2, by rw [e]; exact h3⟩
theorem in_single_len {n : Nat} {t : Told} {i : Nat} {m : MkS} (h : InI n t i m) : m.single.length = n := by
  have p : (m.single.map (·.1)).Perm ((in0 n).single.map (·.1)) := (List.perm_ext_iff_of_nodup h.I.ns (in0_I n t).I.ns).mpr fun k => by rw [h.I.ks, (in0_I n t).I.ks]
  have := p.length_eq
  rw [List.length_map, List.length_map] at this
  rw [this]
  show (List.map _ _).length = n
  rw [List.length_map, List.length_range]
theorem inM_triples_len (n : Nat) (t : Told) : (inM n t).triples.length ≤ t.length := by
  have key := foldl_ind (fun i m => m.triples.length ≤ i) inI t 0 (in0 n) (Nat.le_refl _) fun j e m hj hm => by
    rw [Nat.zero_add] at hm ⊢
    unfold inI
    split
    · exact Nat.le_succ_of_le hm
    · split
      · exact Nat.le_succ_of_le hm
      · split
        · exact Nat.le_succ_of_le hm
        · show List.length (_ ++ _) ≤ _
          rw [List.length_append, List.length_singleton]
          omega
  rw [Nat.zero_add] at key
  exact key
theorem Sz.inM {n : Nat} {t : Told} (hn : n ≤ 8) (ht : t.length ≤ 500) : Sz (inM n t) 1008 := by
  have h0 : Sz (in0 n) 508 := by
    refine ⟨?_, Nat.zero_le _, Nat.zero_le _, Nat.zero_le _⟩
    show (List.map _ _).length ≤ _
    rw [List.length_map, List.length_range]
    omega
  exact Sz.mono (Sz.fold (fun m k a h => h.inI a) t h0) (by omega)
def putI (h : Int) (m : MkS) (i : Nat) : MkS := ((enu m.triples).take i).foldl (fun m' p => putT m' p.2 (h + p.1)) m
theorem putI_all {h : Nat} {m : MkS} (I : MkI (h : Int) m) (hN : 2 ≤ h) (ht : ∀ e ∈ m.triples, e.1.length = 3 ∧ e.2 ≠ 0 ∧ ∀ v ∈ e.1, 2 ≤ v ∧ v < (h : Int)) {i : Nat} (hi : i ≤ m.triples.length) : MkI ((h + i : Nat) : Int) (putI (h : Int) m i) := by
  induction i with
  | zero => exact I
  | succ i ih =>
    have I' := ih (by omega)
    obtain ⟨p, hx⟩ : ∃ p, (enu m.triples)[i]? = some p := ⟨_, List.getElem?_eq_getElem (show i < (enu m.triples).length by rw [enu_len]; omega)⟩
    unfold putI
    rw [fold_take _ _ hx]
    change MkI _ (putT (putI (h : Int) m i) p.2 ((h : Int) + p.1))
    obtain ⟨h1, h2⟩ := enu_at hx
    obtain ⟨t1, t2, t3⟩ := ht _ (List.mem_of_getElem? h2)
    have e1 : ((h + i : Nat) : Int) = (h : Int) + (p.1 : Int) := by rw [h1]; omega
    rw [e1] at I'
    have := (putT_all I' (by omega) t1 t2 fun v hv => by have := t3 v hv; omega).1
    have e2 : ((h + (i + 1) : Nat) : Int) = (h : Int) + (p.1 : Int) + 1 := by rw [h1]; omega
    rw [e2]
    exact this
theorem putI_triples (h : Int) (m : MkS) (i : Nat) : (putI h m i).triples = m.triples := by
  unfold putI
  generalize (enu m.triples).take i = l
  have : ∀ (l : List (Nat × (List Int × Int))) (m' : MkS), (l.foldl (fun m' p => putT m' p.2 (h + p.1)) m').triples = m'.triples := by
    intro l
    induction l with
    | nil => intro m'; rfl
    | cons p l ih =>
      intro m'
      rw [List.foldl_cons, ih, putT_triples]
  exact this l m
theorem pairs_neg {n : Nat} {t : Told} (h : SumOk n t) (hb : bentB t = true) {m : MkS} (hm : m = putTs ((2 + n : Nat) : Int) (inM n t)) (I : (m.pairs.map (·.1)).Nodup) (kp : ∀ k ∈ m.pairs.map (·.1), ∃ a b, k = [a, b] ∧ 2 ≤ a ∧ 2 ≤ b) : ∀ e ∈ m.pairs, e.2 ≤ 0 := fun e he => by
  have i0 := inM_I h
  obtain ⟨a, b, hk, a2, b2'⟩ := kp e.1 (List.mem_map.mpr ⟨e, he, rfl⟩)
  have h1 := gv_of_mem I (show (e.1, e.2) ∈ _ from he)
  have h2 : e.1 = shf [a - 2, b - 2] := by
    rw [hk]
    unfold shf
    simp only [List.map_cons, List.map_nil]
    rw [show 2 + (a - 2) = a by omega, show 2 + (b - 2) = b by omega]
  rw [hm, gv_putTs, h2, i0.ps, List.take_length] at h1
  rw [← h1]
  exact bent_le hb _
theorem putP_triples (m : MkS) : (putP m).triples = m.triples := by
  have : ∀ (l : Told) (m : MkS), (l.foldl putP1 m).triples = m.triples := by
    intro l
    induction l with
    | nil => intro m; rfl
    | cons e l ih =>
      intro m
      rw [List.foldl_cons, ih]
      unfold putP1
      split <;> rfl
  exact this _ m
theorem putS_triples (m : MkS) : (putS m).triples = m.triples := by
  have : ∀ (l : List (Int × Int)) (m : MkS), (l.foldl putS1 m).triples = m.triples := by
    intro l
    induction l with
    | nil => intro m; rfl
    | cons e l ih =>
      intro m
      rw [List.foldl_cons, ih]
      unfold putS1
      split
      · rfl
      · split <;> rfl
  exact this _ m
def sp_Maker_network (K : PySem.W.Frag) : Sp := fun vs H Q _ => ∃ (x dx S P L A : Addr) (n : Nat) (t : Told), vs = [.ref x] ∧ MkR K x dx S P L A none none (inM n t) H ∧ SumOk n t ∧ bentB t = true ∧ t.length ≤ 500 ∧ n ≤ 8 ∧
  ∀ v H', Kp [x, S, P, L, A] H H' → rNw n t H' v → Q v H'
abbrev nN_Maker_network : List Str := ["self", "first_helper", "at", "nodes", "number"]
theorem sc_Maker_network : FnScope nN_Maker_network ["self"] (defScope s_Maker_network) := ⟨rfl, rfl, rfl, by decide +kernel, rfl, by decide +kernel, by decide +kernel⟩
theorem ok_Maker_network {P : Program} {w : World} {K : PySem.W.Frag} {mg : Str → Option Value} {base : Heap} {fd : FuncData} (T : GG K w mg) (F : FunD K "network" "Maker.network" (defArgs s_Maker_network) (defBody s_Maker_network) (defScope s_Maker_network) [] [] (He.fAd K ("Maker", some "network")) fd) (m_put_singles : CalM P w K mg base (He.ga K "Maker") "put_singles" 1 ["self"] (sp_Maker_put_singles K)) (m_put_pairs : CalM P w K mg base (He.ga K "Maker") "put_pairs" 1 ["self"] (sp_Maker_put_pairs K)) (m_put_triple : CalM P w K mg base (He.ga K "Maker") "put_triple" 1 ["self", "nodes", "number", "helper"] (sp_Maker_put_triple K)) : CalM P w K mg base (He.ga K "Maker") "network" 2 ["self"] (sp_Maker_network K) := by
  have nd := sc_Maker_network.nd
  refine calM_of F T.c_Maker T.e_Maker_network (fun _ _ _ _ _ _ us hl => match us, hl with | [_], _ => rfl) (FunD.ok F sc_Maker_network (fun vs H Q E h => ?_) (fun cdv A outer s H vs Q E hr h => ?_))
  · obtain ⟨x, dx, S, P, L, A, n, t, rfl, rr, ht, hbt, hl, hn8, q⟩ := h
    rfl
  obtain ⟨x, dx, S, P, L, A, n, t, rfl, rr, ht, hbt, hl, hn8, q⟩ := h
  have hu := hu_of hr
  refine ⟨_, PSs.nox (pss_cons (ps_set (i := 1) nd rfl (Or.inl rfl) (pe_op op_add (pe_gI T.i_FIRST_LETTER) (pe_b_len T.f_len call_lenD (pa_cons (pe_fldK (K := K) rfl (pv 0) rfl) pa_nil)))) (pss_cons (ps_for PassesOwn.never rfl (pi_enum (by rfl) T.f_enumerate (pa_cons (pe_fldK (K := K) rfl (pv 0) rfl) pa_nil)) (pg_tupK (n := 2) (K := K) rfl rfl (pgs_cons (pg_name (i := 2) nd rfl (Or.inl rfl)) (pgs_cons (pg_tupK (n := 2) (K := K) rfl rfl (pgs_cons (pg_name (i := 3) nd rfl (Or.inl rfl)) (pgs_cons (pg_name (i := 4) nd rfl (Or.inl rfl)) pgs_nil))) pgs_nil))) (pss_one (ps_expr (pe_calM m_put_triple hr (pv 0) (pa_cons (pv 3) (pa_cons (pv 4) (pa_cons (pe_op op_add (pv 1) (pv 2)) pa_nil))))))) (pss_cons (ps_expr (pe_calM0 m_put_pairs hr (pv 0))) (pss_cons (ps_expr (pe_calM0 m_put_singles hr (pv 0))) (pss_one (ps_ret (pe_tup (pa_cons (pe_op op_add (pv 1) (pe_b_len T.f_len call_len_seq (pa_cons (pe_fldK (K := K) rfl (pv 0) rfl) pa_nil))) (pa_cons (pe_fldK (K := K) rfl (pv 0) rfl) (pa_cons (pe_b_tuple T.f_tuple call_tuple_of (pa_cons (pe_b_sorted T.f_sorted (cr_sorted3 (h16 hr)) (pa_cons (pe_fldK (K := K) rfl (pv 0) rfl) pa_nil)) pa_nil)) pa_nil)))))))))), ?_⟩
  have i0 := inM_I ht
  have hsl := in_single_len i0
  have htl := inM_triples_len n t
  have hz := Sz.inM (n := n) (t := t) hn8 hl
  have iM := i0.I
  have e0 : (2 : Int) + (n : Int) = ((2 + n : Nat) : Int) := by omega
  rw [e0] at iM
  have htr : ∀ e ∈ (inM n t).triples, e.1.length = 3 ∧ e.2 ≠ 0 ∧ ∀ v ∈ e.1, 2 ≤ v ∧ v < ((2 + n : Nat) : Int) := fun e he => by
    have := i0.tr e he
    rw [e0] at this
    exact this
  have hnet := netM_ok ht hbt
  have hnm : netM n t = putS (putP (putI (2 + (n : Int)) (inM n t) (inM n t).triples.length)) := by
    unfold netM putTs putI
    rw [show (inM n t).triples.length = (enu (inM n t).triples).length from (enu_len _).symm, List.take_length]
  walk_at "st"
  refine ⟨_, _, _, rr.hx, T.c_Maker, T.n_Maker_single, _, rfl, S, rfl, _, rr.hS0, ?_⟩
  have hdl : (dk (inM n t).single).length = n := by
    unfold dk
    rw [List.length_map, hsl]
  rw [hdl]
  obtain ⟨ts, hT, alT⟩ := rr.hT
  refine ⟨_, _, _, rr.hx, T.c_Maker, T.n_Maker_triples, _, rfl, L, rfl, ⟨_, sq_l hT⟩, ?_⟩
  refine for_gen (f := fun p : Nat × (List Int × Int) => r2 (rI (p.1 : Int)) (rTe p.2)) (xs := enu (inM n t).triples) (G := fun H' => ∃ vs, H' L = some (.lst vs) ∧ Al (fun w e => rTe e H' w) vs (inM n t).triples) (wk_enuL (f := rTe) fun H' g => by obtain ⟨vs, h1, h2⟩ := g; exact ⟨vs, sq_l h1, h2⟩) (fun i σ' H' => Kp [x, S, P, L, A] H H' ∧ ∃ m' x2 x3 x4, σ' = [some (.ref x), some (.int (2 + (n : Int))), x2, x3, x4] ∧ m' = putI (2 + (n : Int)) (inM n t) i ∧ MkR K x dx S P L A none none m' H' ∧ Sz m' (1008 + 10 * i)) ⟨Kp.rf _ _, _, _, _, _, rfl, rfl, rr, hz⟩ ?_ ?_ ?_
  · rintro i σ' H' _ ⟨_, m', _, _, _, _, em, r', _⟩
    obtain ⟨vs, h1, h2⟩ := r'.hT
    rw [em, putI_triples] at h2
    exact ⟨vs, h1, h2⟩
  · rintro i p vv σ' H1 H2 hi ⟨k1, m', x2, x3, x4, rfl, em, r1, z1⟩ e2 ⟨b, y1, y2, rfl, hb, h1, ⟨c, w1, w2, rfl, hc, g1, g2⟩⟩
    cases h1
    cases g2
    have g1' := g1
    obtain ⟨d, rfl, hd⟩ := g1.of
    obtain ⟨p1, p2⟩ := enu_at hi
    have hil := (List.getElem?_eq_some_iff.mp p2).1
    have em2 : putT m' p.2 (2 + (n : Int) + p.1) = putI (2 + (n : Int)) (inM n t) (i + 1) := by
      unfold putI
      rw [fold_take _ _ hi, em] <;> rfl
    have iI := putI_all iM (by omega) htr (i := i) (by omega)
    rw [← e0, ← em] at iI
    have ht3 := htr _ (List.mem_of_getElem? p2)
    have r2 := r1.ex e2
    walk_at "st"
    rw [← em2]
    refine ⟨_, sq_t hb, rfl, _, _, rfl, _, _, rfl, c, rfl, _, sq_t hc, rfl, _, _, rfl, _, _, rfl, rfl, rfl, dx, _, r2.hx, rfl, _, rfl, ?_⟩
    refine ⟨x, dx, S, P, L, A, d, m', p.2, 2 + (n : Int) + p.1, rfl, r2, hd, ht3.1, Sz.mono z1 (by omega), fun v hv => (iI.ks v).mpr ?_, fun H3 k3 r3 => ⟨(k1.tr e2.kp).tr k3, r3, ?_⟩⟩
    · have := ht3.2.2 v hv
      omega
    · exact Sz.mono (z1.putT p.2 ht3.1 _) (by omega)
  · rintro σ' H1 ⟨k1, m', x2, x3, x4, rfl, em, r1, z1⟩
    rw [enu_len] at em z1
    have iI := putI_all iM (by omega) htr (i := (inM n t).triples.length) (Nat.le_refl _)
    rw [← e0, ← em] at iI
    have ets : m' = putTs ((2 + n : Nat) : Int) (inM n t) := by
      rw [em, e0]
      unfold putTs putI
      rw [show (inM n t).triples.length = (enu (inM n t).triples).length from (enu_len _).symm, List.take_length]
    have hneg := pairs_neg ht hbt ets iI.np fun k hk => by
      obtain ⟨a, b, h1, h2, _, h3, _⟩ := iI.kp k hk
      exact ⟨a, b, h1, h2, h3⟩
    obtain ⟨sg, _⟩ := putP_all iI hneg
    walk_at "st"
    refine ⟨dx, _, r1.hx, rfl, ?_⟩
    have zp := z1.2.1
    refine ⟨x, dx, S, P, L, A, m', rfl, r1, by omega, Sz.mono z1 (by omega), iI.np, fun k hk => ?_, fun H2 k2 r2 => ?_⟩
    · obtain ⟨a, b, h1, h2, h3, _⟩ := iI.kp k hk
      exact ⟨a, b, h1, (iI.ks a).mpr ⟨h2, h3⟩⟩
    have z2 : Sz (putP m') (1008 + 10 * (inM n t).triples.length + m'.pairs.length) := Sz.fold (fun m k a h => h.putP1 a) m'.pairs z1
    refine ⟨dx, _, r2.hx, rfl, ?_⟩
    refine ⟨x, dx, S, P, L, A, putP m', rfl, r2, Sz.mono z2 (by omega), sg.ns, fun H3 k3 r3 => ?_⟩
    have zs := z2.1
    have z3 : Sz (putS (putP m')) (1008 + 10 * (inM n t).triples.length + m'.pairs.length + (putP m').single.length) := Sz.fold (fun m k a h => h.putS1 a) (putP m').single z2
    obtain ⟨tv, hT3, alT3⟩ := r3.hT
    obtain ⟨av, hA3, alA3⟩ := r3.hA
    have htv : tv.length = (inM n t).triples.length := by
      rw [alT3.len, putS_triples, putP_triples, em, putI_triples]
    rw [← em] at hnm
    rw [hnm] at hnet
    refine ⟨_, _, _, r3.hx, T.c_Maker, T.n_Maker_triples, _, rfl, L, rfl, _, .inl (sq_l hT3), ?_⟩
    refine ⟨_, _, _, r3.hx, T.c_Maker, T.n_Maker_base, _, rfl, ?_⟩
    refine ⟨_, _, _, r3.hx, T.c_Maker, T.n_Maker_arcs, _, rfl, ?_⟩
    refine ⟨A, av, kOf H3, rfl, .inl (sq_l hA3), fun y hy => ?_, fun ys p hys hp => ?_⟩
    · obtain ⟨c, _, a3, y1, y2, y3, rfl, ha3, h1, h2, h3⟩ := al_mem alA3 hy
      cases h1
      cases h2
      cases h3
      refine ⟨a3, rfl, ?_⟩
      rw [kOf_tup (ns := [c.1, c.2.1, c.2.2]) ha3]
      exact sq_t ha3
    · obtain ⟨B, pB, alB⟩ := al_perm hys.1 alA3
      have hBl : B.length ≤ 60000 := by
        rw [pB.length_eq]
        have := z3.2.2.2
        omega
      have e4 := Ex.new (o := .lst ys) hp
      refine ⟨p, rfl, _, .inl ⟨sq_l upd_same, fun l hl => ?_⟩⟩
      have e5 := e4.tr (Ex.new (o := .tup ys) hl)
      have hl5 : (upd (upd H3 p (.lst ys)) l (.tup ys)) l = some (.tup ys) := upd_same
      have al5 := alB.up e5
      generalize upd (upd H3 p (.lst ys)) l (.tup ys) = H5 at e5 hl5 al5 ⊢
      refine ⟨by decide, fun r hr => ?_⟩
      have e6 := Ex.new (o := .tup [.int (2 + (n : Int) + tv.length), .int (putS (putP m')).base, .ref l]) hr
      refine q _ _ ((((k1.tr k2).tr k3).tr e5.kp).tr e6.kp) ⟨2 + n + (inM n t).triples.length, (putS (putP m')).base, B, hnet.perm pB, by omega, hBl, r, _, _, _, rfl, upd_same, ?_, rfl, rTu.mk (e6 _ _ hl5) (al5.up e6)⟩
      show V.int _ = V.int _
      rw [htv]
      congr 1
def sp_network_of (K : PySem.W.Frag) : Sp := PSp fun vs H R => ∃ (v : V) (n : Nat) (t : Told), vs = [v, .int n] ∧ rTu rTe t H v ∧ SumOk n t ∧ bentB t = true ∧ t.length ≤ 500 ∧ n ≤ 8 ∧ R = rNw n t
abbrev nN_network_of : List Str := ["told", "letter_count"]
theorem sc_network_of : FnScope nN_network_of ["told", "letter_count"] (defScope s_network_of) := ⟨rfl, rfl, rfl, by decide +kernel, rfl, by decide +kernel, by decide +kernel⟩
theorem ok_network_of {P : Program} {w : World} {K : PySem.W.Frag} {mg : Str → Option Value} {base : Heap} {fd : FuncData} (T : GG K w mg) (F : FunD K "network_of" "network_of" (defArgs s_network_of) (defBody s_network_of) (defScope s_network_of) [] [] (He.fAd K ("network_of", none)) fd) (m_network : CalM P w K mg base (He.ga K "Maker") "network" 2 ["self"] (sp_Maker_network K)) (c_Maker : CalC P w K mg base "Maker" (He.ga K "Maker") 1 ["self", "told", "letter_count"] (sp_Maker_init K)) (c_is_bent : Cal P w K mg base "is_bent" 2 ["told"] (sp_is_bent K)) (c_is_sum : Cal P w K mg base "is_sum" 3 ["value", "letter_count"] (sp_is_sum K)) : Cal P w K mg base "network_of" 4 ["told", "letter_count"] (sp_network_of K) := by
  have nd := sc_network_of.nd
  refine cal_of F T.g_network_of (fun _ _ _ _ _ _ us hl => match us, hl with | [_, _], _ => rfl) (FunD.ok F sc_network_of (fun vs H Q E h => ?_) (fun cdv A outer s H vs Q E hr h => ?_))
  · obtain ⟨_, ⟨v, n, t, rfl, hv, ht, hbt, hl, hn8, rfl⟩, q⟩ := h
    rfl
  obtain ⟨_, ⟨v, n, t, rfl, hv, ht, hbt, hl, hn8, rfl⟩, q⟩ := h
  have hu := hu_of hr
  refine ⟨_, PSs.nox (pss_cons (ps_if (pt_not (pt_val (pe_cal c_is_sum hr (pa_cons (pv 0) (pa_cons (pv 1) pa_nil))))) (pss_one ps_never) pss_nil) (pss_cons (ps_if (pt_not (pt_val (pe_cal c_is_bent hr (pa_cons (pv 0) pa_nil)))) (pss_one ps_never) pss_nil) (pss_one (ps_ret (pe_calM0 m_network hr (pe_calC c_Maker hr (pa_cons (pv 0) (pa_cons (pv 1) pa_nil)))))))), ?_⟩
  walk_at "st"
  refine ⟨_, ⟨v, t, n, rfl, hv, by omega, ht, rfl⟩, fun v1 H1 e1 h1 => ?_⟩
  cases h1
  walk_at "st"
  refine ⟨_, ⟨v, t, rfl, Mo.up e1 hv, hl, fun e he => by have := (ht.2 e he).2.2.2; omega, rfl⟩, fun v2 H2 e2 h2 => ?_⟩
  rw [hbt] at h2
  cases h2
  walk_at "st"
  intro x dx nx ndx ne
  have e0 : Ex H2 (upd (upd H2 dx (.own x)) x (.ins (He.ga K "Maker") dx [])) := fun b o h => by
    rw [upd_ne (ne_of_none h nx), upd_ne (ne_of_none h ndx)]
    exact h
  have hx : (upd (upd H2 dx (.own x)) x (.ins (He.ga K "Maker") dx [])) x = some (.ins (He.ga K "Maker") dx []) := upd_same
  generalize upd (upd H2 dx (.own x)) x (.ins (He.ga K "Maker") dx []) = H3 at e0 hx ⊢
  refine ⟨x, dx, v, n, t, rfl, hx, Mo.up ((e1.tr e2).tr e0) hv, ht, hl, hn8, fun H4 S P L A b4 fS fP fL fA r4 => ⟨rfl, dx, _, r4.hx, rfl, ?_⟩⟩
  refine ⟨x, dx, S, P, L, A, n, t, rfl, r4, ht, hbt, hl, hn8, fun w H5 k5 h5 => q _ _ ?_ h5⟩
  have e4 : Ex H2 H4 := b4.ex e0 nx
  refine (e1.tr e2).tr (Kp.ex e4 k5 ?_)
  intro a ha
  simp only [List.mem_cons, List.not_mem_nil, or_false] at ha
  rcases ha with rfl | rfl | rfl | rfl | rfl
  · exact nx
  all_goals exact e0.back (by assumption)
end Cut
end

section
set_option maxHeartbeats 4000000
namespace Cut
open PySem PySem.Spec L2
/-! ### flows, plain -/
abbrev Arc := Int × Int × Int
def arc (A : List Arc) (i : Int) : Arc := A.getD i.toNat (0, 0, 0)
def tgt (A : List Arc) (w : Int × Int) : Int := if 0 < w.2 then (arc A w.1).2.1 else (arc A w.1).1
def srcN (A : List Arc) (w : Int × Int) : Int := if 0 < w.2 then (arc A w.1).1 else (arc A w.1).2.1
def rm (A : List Arc) (s : List Int) (w : Int × Int) : Int := if 0 < w.2 then (arc A w.1).2.2 - s.getD w.1.toNat 0 else s.getD w.1.toNat 0
def WayOk (A : List Arc) (k : Int) (w : Int × Int) : Prop := 0 ≤ w.1 ∧ w.1 < (A.length : Int) ∧ (w.2 = 1 ∨ w.2 = -1) ∧ srcN A w = k
def waysIn (A : List Arc) (k : Int) (i : Nat) : List (Int × Int) := ((enu A).take i).flatMap fun p => (if p.2.1 = k then [((p.1 : Int), (1 : Int))] else []) ++ (if p.2.2.1 = k then [((p.1 : Int), (-1 : Int))] else [])
def waysOf (A : List Arc) (k : Int) : List (Int × Int) := waysIn A k A.length
theorem arc_at {A : List Arc} {i : Nat} {a : Arc} (h : A[i]? = some a) : arc A (i : Int) = a := by
  unfold arc
  rw [Int.toNat_natCast, List.getD_eq_getElem?_getD, h] <;> rfl
theorem mem_ways {A : List Arc} {k : Int} {w : Int × Int} : w ∈ waysOf A k ↔ WayOk A k w := by
  unfold waysOf waysIn
  rw [← enu_len A, List.take_length, List.mem_flatMap]
  constructor
  · rintro ⟨p, hp, hw⟩
    have hpt := enu_mem.mp hp
    have hl := (List.getElem?_eq_some_iff.mp hpt).1
    have ha := arc_at hpt
    rcases List.mem_append.mp hw with z | z
    · split at z
      · rename_i h1
        rw [List.mem_singleton] at z
        subst z
        refine ⟨by show (0 : Int) ≤ (p.1 : Int); omega, by show (p.1 : Int) < _; omega, .inl rfl, ?_⟩
        unfold srcN
        rw [if_pos (by decide : (0 : Int) < 1)]
        show (arc A (p.1 : Int)).1 = k
        rw [ha]
        exact h1
      · cases z
    · split at z
      · rename_i h1
        rw [List.mem_singleton] at z
        subst z
        refine ⟨by show (0 : Int) ≤ (p.1 : Int); omega, by show (p.1 : Int) < _; omega, .inr rfl, ?_⟩
        unfold srcN
        rw [if_neg (by decide : ¬ (0 : Int) < -1)]
        show (arc A (p.1 : Int)).2.1 = k
        rw [ha]
        exact h1
      · cases z
  · rintro ⟨h0, h1, h2, h3⟩
    obtain ⟨i, g⟩ := w
    have h0' : 0 ≤ i := h0
    have h1' : i < (A.length : Int) := h1
    have hl : i.toNat < A.length := by omega
    have hpt := List.getElem?_eq_getElem hl
    have ha := arc_at hpt
    have hi : ((i.toNat : Nat) : Int) = i := by omega
    rw [hi] at ha
    refine ⟨(i.toNat, A[i.toNat]), enu_mem.mpr hpt, List.mem_append.mpr ?_⟩
    rcases h2 with h2 | h2
    · have h2' : g = 1 := h2
      subst h2'
      left
      unfold srcN at h3
      rw [if_pos (by decide : (0 : Int) < 1)] at h3
      have h3' : (arc A i).1 = k := h3
      rw [ha] at h3'
      rw [if_pos h3', hi]
      simp
    · have h2' : g = -1 := h2
      subst h2'
      right
      unfold srcN at h3
      rw [if_neg (by decide : ¬ (0 : Int) < -1)] at h3
      have h3' : (arc A i).2.1 = k := h3
      rw [ha] at h3'
      rw [if_pos h3', hi]
      simp
/-! what flows over a cut -/
def NET (A : List Arc) (s : List Int) (y : Int → Bool) : Int := ((A.zip s).map fun p => p.2 * (b2 (y p.1.1) - b2 (y p.1.2.1))).sum
structure Fl (A : List Arc) (s : List Int) (F : Int) : Prop where
  len : s.length = A.length
  bd : ∀ (i : Nat) (a : Arc) (c : Int), A[i]? = some a → s[i]? = some c → 0 ≤ c ∧ c ≤ a.2.2
  net : ∀ y : Int → Bool, y 0 = true → y 1 = false → NET A s y = F
theorem NET_cons (a : Arc) (A : List Arc) (c : Int) (s : List Int) (y : Int → Bool) : NET (a :: A) (c :: s) y = c * (b2 (y a.1) - b2 (y a.2.1)) + NET A s y := by
  unfold NET
  rw [List.zip_cons_cons, List.map_cons, List.sum_cons]
theorem CW_cons (a : Arc) (A : List Arc) (y : Int → Bool) : CW (a :: A) y = (if (y a.1 && !y a.2.1) = true then a.2.2 else 0) + CW A y := by
  unfold CW
  rw [List.map_cons, List.sum_cons]
theorem net_le : ∀ {A : List Arc} {s : List Int} (hl : s.length = A.length) (bd : ∀ (i : Nat) (a : Arc) (c : Int), A[i]? = some a → s[i]? = some c → 0 ≤ c ∧ c ≤ a.2.2) (y : Int → Bool), NET A s y ≤ CW A y
  | [], [], _, _, _ => Int.le_refl _
  | a :: A, c :: s, hl, bd, y => by
    have := net_le (A := A) (s := s) (by simpa using hl) (fun i a c h1 h2 => bd (i + 1) a c (by simpa using h1) (by simpa using h2)) y
    have h0 := bd 0 a c rfl rfl
    rw [NET_cons, CW_cons]
    unfold b2
    cases y a.1 <;> cases y a.2.1 <;> simp <;> omega
theorem net_eq : ∀ {A : List Arc} {s : List Int} (hl : s.length = A.length) (y : Int → Bool) (bd : ∀ (i : Nat) (a : Arc) (c : Int), A[i]? = some a → s[i]? = some c → (y a.1 = true → y a.2.1 = false → c = a.2.2) ∧ (y a.1 = false → y a.2.1 = true → c = 0)), NET A s y = CW A y
  | [], [], _, _, _ => rfl
  | a :: A, c :: s, hl, y, bd => by
    have := net_eq (A := A) (s := s) (by simpa using hl) y (fun i a c h1 h2 => bd (i + 1) a c (by simpa using h1) (by simpa using h2))
    have h0 := bd 0 a c rfl rfl
    rw [NET_cons, CW_cons, this]
    unfold b2
    obtain ⟨h1, h2⟩ := h0
    cases e1 : y a.1 <;> cases e2 : y a.2.1 <;> simp
    · have := h2 e1 e2
      omega
    · exact h1 e1 e2
theorem net_set : ∀ {A : List Arc} {s : List Int} {i : Nat} {a : Arc} {c : Int} (d : Int) (y : Int → Bool), A[i]? = some a → s[i]? = some c → NET A (s.set i (c + d)) y = NET A s y + d * (b2 (y a.1) - b2 (y a.2.1))
  | [], _, _, _, _, _, _, h, _ => by simp at h
  | _ :: _, [], _, _, _, _, _, _, h => by simp at h
  | a :: A, c :: s, 0, a', c', d, y, h1, h2 => by
    simp at h1 h2
    subst h1
    subst h2
    rw [List.set_cons_zero, NET_cons, NET_cons, Int.add_mul]
    omega
  | a :: A, c :: s, i + 1, a', c', d, y, h1, h2 => by
    rw [List.set_cons_succ, NET_cons, NET_cons, net_set d y (by simpa using h1) (by simpa using h2)]
    omega
theorem zero_fl (A : List Arc) (hA : ∀ a ∈ A, 0 < a.2.2) : Fl A (List.replicate A.length 0) 0 := by
  refine ⟨List.length_replicate, fun i a c h1 h2 => ?_, fun y _ _ => ?_⟩
  · rw [List.getElem?_replicate] at h2
    split at h2
    · cases h2
      have := hA a (List.mem_of_getElem? h1)
      omega
    · cases h2
  · clear hA
    induction A with
    | nil => rfl
    | cons a A ih =>
      rw [List.length_cons, List.replicate_succ, NET_cons, ih]
      simp
/-! what is reached -/
structure Rc (N : Nat) (A : List Arc) (s : List Int) (row : List Int) (pr : List (Option (Int × Int × Int))) : Prop where
  r0 : row[0]? = some 0
  p0 : pr[0]? = some none
  len : pr.length = row.length
  nd : row.Nodup
  bd : ∀ k ∈ row, 0 ≤ k ∧ k < (N : Int)
  par : ∀ (i : Nat) (k : Int) (p : Option (Int × Int × Int)), row[i]? = some k → pr[i]? = some p → 0 < i → ∃ (n : Int) (w : Int × Int) (j : Nat), p = some (n, w.1, w.2) ∧ row[j]? = some n ∧ j < i ∧ w ∈ waysOf A n ∧ tgt A w = k ∧ 0 < rm A s w
theorem Rc.start {N : Nat} (A : List Arc) (s : List Int) (hN : 0 < N) : Rc N A s [0] [none] := by
  refine ⟨rfl, rfl, rfl, by simp, fun k hk => ?_, fun i k p h1 _ h3 => ?_⟩
  · rw [List.mem_singleton] at hk
    omega
  · match i, h3 with
    | i + 1, _ => simp at h1
theorem Rc.snoc {N : Nat} {A : List Arc} {s : List Int} {row : List Int} {pr : List (Option (Int × Int × Int))} (h : Rc N A s row pr) {n : Int} {w : Int × Int} (hn : n ∈ row) (hw : w ∈ waysOf A n) (hr : 0 < rm A s w) (hb : 0 ≤ tgt A w ∧ tgt A w < (N : Int)) (hf : tgt A w ∉ row) :
    Rc N A s (row ++ [tgt A w]) (pr ++ [some (n, w.1, w.2)]) := by
  have h0 : 0 < row.length := (List.getElem?_eq_some_iff.mp h.r0).1
  refine ⟨by rw [List.getElem?_append_left h0]; exact h.r0, by rw [List.getElem?_append_left (by rw [h.len]; exact h0)]; exact h.p0, by rw [List.length_append, List.length_append, h.len] <;> rfl, ?_, fun k hk => ?_, fun i k p h1 h2 h3 => ?_⟩
  · rw [List.nodup_append]
    refine ⟨h.nd, by simp, fun a ha b hb' => ?_⟩
    rw [List.mem_singleton] at hb'
    intro z
    rw [z, hb'] at ha
    exact hf ha
  · rcases List.mem_append.mp hk with z | z
    · exact h.bd k z
    · rw [List.mem_singleton] at z
      rw [z]
      exact hb
  · by_cases hl : i < row.length
    · rw [List.getElem?_append_left hl] at h1
      rw [List.getElem?_append_left (by rw [h.len]; exact hl)] at h2
      obtain ⟨m, w', j, q1, q2, q3, q4⟩ := h.par i k p h1 h2 h3
      exact ⟨m, w', j, q1, by rw [List.getElem?_append_left (by omega)]; exact q2, q3, q4⟩
    · have hi := (List.getElem?_eq_some_iff.mp h1).1
      rw [List.length_append, List.length_singleton] at hi
      have ei : i = row.length := by omega
      subst ei
      rw [List.getElem?_concat_length] at h1
      rw [← h.len, List.getElem?_concat_length] at h2
      cases h1
      cases h2
      obtain ⟨j, hj⟩ := List.mem_iff_getElem?.mp hn
      have hjl := (List.getElem?_eq_some_iff.mp hj).1
      exact ⟨n, w, j, rfl, by rw [List.getElem?_append_left hjl]; exact hj, hjl, hw, rfl, hr⟩
theorem row_len {N : Nat} {row : List Int} (nd : row.Nodup) (bd : ∀ k ∈ row, 0 ≤ k ∧ k < (N : Int)) : row.length ≤ N := by
  have := nodup_sub_len (m := (List.range N).map fun (i : Nat) => (i : Int)) nd fun x hx => by
    have := bd x hx
    exact List.mem_map.mpr ⟨x.toNat, List.mem_range.mpr (by omega), by omega⟩
  rw [List.length_map, List.length_range] at this
  exact this
def Closed (A : List Arc) (s : List Int) (row : List Int) (n : Int) : Prop := ∀ w ∈ waysOf A n, 0 < rm A s w → tgt A w ∈ row
/-- no way more: the cut is filled -/
theorem cut_full {A : List Arc} {s : List Int} {F : Int} {row : List Int} (f : Fl A s F) (h0 : (0 : Int) ∈ row) (h1 : (1 : Int) ∉ row) (hc : ∀ n ∈ row, Closed A s row n) :
    CW A (fun k => decide (k ∈ row)) = F ∧ ∀ y : Int → Bool, y 0 = true → y 1 = false → F ≤ CW A y := by
  refine ⟨?_, fun y y0 y1 => by rw [← f.net y y0 y1]; exact net_le f.len f.bd y⟩
  rw [← f.net (fun k => decide (k ∈ row)) (decide_eq_true h0) (decide_eq_false h1)]
  refine (net_eq f.len _ fun i a c ha hs => ?_).symm
  have hl := (List.getElem?_eq_some_iff.mp ha).1
  have hb := f.bd i a c ha hs
  have hsd : s.getD i 0 = c := by rw [List.getD_eq_getElem?_getD, hs] <;> rfl
  constructor
  · intro e1 e2
    have m1 : a.1 ∈ row := of_decide_eq_true e1
    have m2 : a.2.1 ∉ row := of_decide_eq_false e2
    have hw : ((i : Int), (1 : Int)) ∈ waysOf A a.1 := mem_ways.mpr ⟨by show (0 : Int) ≤ i; omega, by show (i : Int) < _; omega, .inl rfl, by unfold srcN; rw [if_pos (by decide : (0 : Int) < 1)]; show (arc A (i : Int)).1 = _; rw [arc_at ha]⟩
    have ht : tgt A ((i : Int), (1 : Int)) = a.2.1 := by
      unfold tgt
      rw [if_pos (by decide : (0 : Int) < 1)]
      show (arc A (i : Int)).2.1 = _
      rw [arc_at ha]
    have hr : rm A s ((i : Int), (1 : Int)) = a.2.2 - c := by
      unfold rm
      rw [if_pos (by decide : (0 : Int) < 1)]
      show (arc A (i : Int)).2.2 - s.getD (i : Int).toNat 0 = _
      rw [arc_at ha, Int.toNat_natCast, hsd]
    have := hc _ m1 _ hw
    rw [ht, hr] at this
    have : ¬ 0 < a.2.2 - c := fun z => m2 (this z)
    omega
  · intro e1 e2
    have m1 : a.1 ∉ row := of_decide_eq_false e1
    have m2 : a.2.1 ∈ row := of_decide_eq_true e2
    have hw : ((i : Int), (-1 : Int)) ∈ waysOf A a.2.1 := mem_ways.mpr ⟨by show (0 : Int) ≤ i; omega, by show (i : Int) < _; omega, .inr rfl, by unfold srcN; rw [if_neg (by decide : ¬ (0 : Int) < -1)]; show (arc A (i : Int)).2.1 = _; rw [arc_at ha]⟩
    have ht : tgt A ((i : Int), (-1 : Int)) = a.1 := by
      unfold tgt
      rw [if_neg (by decide : ¬ (0 : Int) < -1)]
      show (arc A (i : Int)).1 = _
      rw [arc_at ha]
    have hr : rm A s ((i : Int), (-1 : Int)) = c := by
      unfold rm
      rw [if_neg (by decide : ¬ (0 : Int) < -1)]
      show s.getD (i : Int).toNat 0 = _
      rw [Int.toNat_natCast, hsd]
    have := hc _ m2 _ hw
    rw [ht, hr] at this
    have : ¬ 0 < c := fun z => m1 (this z)
    omega
/-! a way back -/
structure Back (A : List Arc) (s : List Int) (row : List Int) (way : List (Int × Int)) (j : Nat) (node : Int) : Prop where
  at_ : row[j]? = some node
  ok : ∀ w ∈ way, (0 ≤ w.1 ∧ w.1 < (A.length : Int)) ∧ (w.2 = 1 ∨ w.2 = -1) ∧ 0 < rm A s w
  rank : ∀ w ∈ way, ∃ i, row[i]? = some (tgt A w) ∧ j < i
  dist : (way.map (·.1)).Nodup
  tele : ∀ y : Int → Bool, (way.map fun w => b2 (y (srcN A w)) - b2 (y (tgt A w))).sum = b2 (y node) - b2 (y 1)
theorem Back.start {A : List Arc} {s : List Int} {row : List Int} {j : Nat} (h : row[j]? = some 1) : Back A s row [] j 1 :=
  ⟨h, fun w hw => (nomatch hw), fun w hw => (nomatch hw), .nil, fun y => by show (0 : Int) = _; omega⟩
theorem tgt_other {A : List Arc} {w w' : Int × Int} (h : w'.1 = w.1) (h1 : w.2 = 1 ∨ w.2 = -1) (h2 : w'.2 = 1 ∨ w'.2 = -1) : tgt A w' = tgt A w ∨ tgt A w' = srcN A w := by
  unfold tgt srcN
  rw [h]
  rcases h1 with e1 | e1 <;> rcases h2 with e2 | e2 <;> rw [e1, e2] <;> simp
theorem Back.step {A : List Arc} {s : List Int} {row : List Int} {way : List (Int × Int)} {j j' : Nat} {node n : Int} {w : Int × Int} (b : Back A s row way j node) (nd : row.Nodup) (hn : row[j']? = some n) (hlt : j' < j) (hw : w ∈ waysOf A n) (ht : tgt A w = node) (hr : 0 < rm A s w) :
    Back A s row (way ++ [w]) j' n := by
  obtain ⟨w0, w1, w2, w3⟩ := mem_ways.mp hw
  have uniq : ∀ {i i' : Nat} {k : Int}, row[i]? = some k → row[i']? = some k → i = i' := fun {i i' k} h1 h2 => by
    obtain ⟨l1, e1⟩ := List.getElem?_eq_some_iff.mp h1
    obtain ⟨l2, e2⟩ := List.getElem?_eq_some_iff.mp h2
    have pw := List.nodup_iff_pairwise_ne.mp nd
    rw [List.pairwise_iff_getElem] at pw
    rcases Nat.lt_trichotomy i i' with c | c | c
    · exact absurd (e1.trans e2.symm) (pw i i' l1 l2 c)
    · exact c
    · exact absurd (e2.trans e1.symm) (pw i' i l2 l1 c)
  refine ⟨hn, fun w' hw' => ?_, fun w' hw' => ?_, ?_, fun y => ?_⟩
  · rcases List.mem_append.mp hw' with z | z
    · exact b.ok w' z
    · rw [List.mem_singleton] at z
      subst z
      exact ⟨⟨w0, w1⟩, w2, hr⟩
  · rcases List.mem_append.mp hw' with z | z
    · obtain ⟨i, h1, h2⟩ := b.rank w' z
      exact ⟨i, h1, by omega⟩
    · rw [List.mem_singleton] at z
      subst z
      exact ⟨j, by rw [ht]; exact b.at_, hlt⟩
  · rw [List.map_append, List.nodup_append]
    refine ⟨b.dist, by simp, fun x hx z hz => ?_⟩
    obtain ⟨w', hw', rfl⟩ := List.mem_map.mp hx
    have hz' : z = w.1 := by simpa using hz
    intro e
    obtain ⟨_, q2, _⟩ := b.ok w' hw'
    obtain ⟨i, q4, q5⟩ := b.rank w' hw'
    rcases tgt_other (A := A) (e.trans hz') w2 q2 with c | c
    · rw [c, ht] at q4
      have := uniq q4 b.at_
      omega
    · rw [c, w3] at q4
      have := uniq q4 hn
      omega
  · rw [List.map_append, List.sum_append, b.tele y]
    simp only [List.map_cons, List.map_nil, List.sum_cons, List.sum_nil]
    rw [w3, ht]
    omega
/-! sending -/
def sendS (more : Int) (s : List Int) (w : Int × Int) : List Int := s.set w.1.toNat (s.getD w.1.toNat 0 + w.2 * more)
theorem send_fl {A : List Arc} {s : List Int} {F more : Int} {way : List (Int × Int)} (f : Fl A s F) (ok : ∀ w ∈ way, (0 ≤ w.1 ∧ w.1 < (A.length : Int)) ∧ (w.2 = 1 ∨ w.2 = -1) ∧ more ≤ rm A s w) (dist : (way.map (·.1)).Nodup) (h0 : 0 ≤ more)
    (tele : ∀ y : Int → Bool, y 0 = true → y 1 = false → (way.map fun w => b2 (y (srcN A w)) - b2 (y (tgt A w))).sum = 1) : Fl A (way.foldl (sendS more) s) (F + more) := by
  have key : ∀ (way : List (Int × Int)) (s : List Int), s.length = A.length → (∀ (i : Nat) (a : Arc) (c : Int), A[i]? = some a → s[i]? = some c → 0 ≤ c ∧ c ≤ a.2.2) → (∀ w ∈ way, (0 ≤ w.1 ∧ w.1 < (A.length : Int)) ∧ (w.2 = 1 ∨ w.2 = -1) ∧ more ≤ rm A s w) → (way.map (·.1)).Nodup →
      (way.foldl (sendS more) s).length = A.length ∧ (∀ (i : Nat) (a : Arc) (c : Int), A[i]? = some a → (way.foldl (sendS more) s)[i]? = some c → 0 ≤ c ∧ c ≤ a.2.2) ∧ ∀ y : Int → Bool, NET A (way.foldl (sendS more) s) y = NET A s y + more * (way.map fun w => b2 (y (srcN A w)) - b2 (y (tgt A w))).sum := by
    intro way
    induction way with
    | nil =>
      intro s hl bd _ _
      exact ⟨hl, bd, fun y => by simp⟩
    | cons w way ih =>
      intro s hl bd ok dist
      rw [List.map_cons, List.nodup_cons] at dist
      obtain ⟨⟨w0, w1⟩, w2, w3⟩ := ok w (.head _)
      have hlt : w.1.toNat < A.length := by omega
      have ha := List.getElem?_eq_getElem hlt
      have hs := List.getElem?_eq_getElem (show w.1.toNat < s.length by omega)
      have hnat : ((w.1.toNat : Nat) : Int) = w.1 := by omega
      have harc : arc A w.1 = A[w.1.toNat] := by
        have := arc_at ha
        rw [hnat] at this
        exact this
      have hsd : s.getD w.1.toNat 0 = s[w.1.toNat] := by rw [List.getD_eq_getElem?_getD, hs] <;> rfl
      have hb := bd _ _ _ ha hs
      have hl2 : (sendS more s w).length = A.length := by
        unfold sendS
        rw [List.length_set, hl]
      have bd2 : ∀ (i : Nat) (a : Arc) (c : Int), A[i]? = some a → (sendS more s w)[i]? = some c → 0 ≤ c ∧ c ≤ a.2.2 := fun i a c h1 h2 => by
        unfold sendS at h2
        rw [List.getElem?_set] at h2
        split at h2
        · rename_i e
          rw [← e, ha] at h1
          cases h1
          rw [if_pos (by omega)] at h2
          cases h2
          rw [hsd]
          unfold rm at w3
          rw [hsd, harc] at w3
          rcases w2 with e2 | e2
          · rw [e2] at w3 ⊢
            rw [if_pos (by decide)] at w3
            omega
          · rw [e2] at w3 ⊢
            rw [if_neg (by decide)] at w3
            omega
        · exact bd i a c h1 h2
      have ok2 : ∀ w' ∈ way, (0 ≤ w'.1 ∧ w'.1 < (A.length : Int)) ∧ (w'.2 = 1 ∨ w'.2 = -1) ∧ more ≤ rm A (sendS more s w) w' := fun w' hw' => by
        obtain ⟨q1, q2, q3⟩ := ok w' (.tail _ hw')
        refine ⟨q1, q2, ?_⟩
        have hne : w.1.toNat ≠ w'.1.toNat := fun z => dist.1 (List.mem_map.mpr ⟨w', hw', by omega⟩)
        have hg : (sendS more s w).getD w'.1.toNat 0 = s.getD w'.1.toNat 0 := by
          unfold sendS
          rw [List.getD_eq_getElem?_getD, List.getElem?_set, if_neg hne, ← List.getD_eq_getElem?_getD]
        unfold rm at q3 ⊢
        rw [hg]
        exact q3
      obtain ⟨r1, r2, r3⟩ := ih (sendS more s w) hl2 bd2 ok2 dist.2
      refine ⟨r1, r2, fun y => ?_⟩
      rw [List.foldl_cons, r3, List.map_cons, List.sum_cons, Int.mul_add]
      have hset : NET A (sendS more s w) y = NET A s y + w.2 * more * (b2 (y (A[w.1.toNat]).1) - b2 (y (A[w.1.toNat]).2.1)) := by
        unfold sendS
        rw [hsd]
        exact net_set _ y ha hs
      rw [hset]
      unfold srcN tgt
      rw [harc]
      rcases w2 with e2 | e2
      · rw [e2, if_pos (by decide), if_pos (by decide), Int.one_mul]
        omega
      · rw [e2, if_neg (by decide), if_neg (by decide)]
        have : -1 * more * (b2 (y (A[w.1.toNat]).1) - b2 (y (A[w.1.toNat]).2.1)) = more * (b2 (y (A[w.1.toNat]).2.1) - b2 (y (A[w.1.toNat]).1)) := by
          rw [Int.neg_one_mul, Int.neg_mul, ← Int.mul_neg]
          congr 1
          omega
        rw [this]
        omega
  obtain ⟨r1, r2, r3⟩ := key way s f.len f.bd ok dist
  exact ⟨r1, r2, fun y y0 y1 => by rw [r3, f.net y y0 y1, tele y y0 y1, Int.mul_one]⟩
end Cut
end

section
set_option maxHeartbeats 4000000
namespace Cut
open PySem PySem.Spec L2
local macro_rules | `(tactic| walk_at "rd") => `(tactic| dsimp only [tFor_eq, tLc_eq, tLc2_eq, iTup, iList, iRng1, iRng2, iSeq, RZ.iZipA, iEnum, iZipX, iEnumT, iKeys, tTupZip, tLenSet, gFld_app, tLock, tLockE, tCallN, tTup0F, tAsg, tVar, tC, tCmp, tIsN, tNotN, tB, tAnd, tOr, tNot, tAndV, tOrV, tNotV, tIf, tNext, tSeq, tBreak, tCont, tDrop, tRet, tRetN, tIfS, gName_app, gTup_app, gCons_app, gNil_app, gSub_app, tAsg, tAug, tCall, tMeth, tMake, tCons, tNil, tTup, tLst, tCB, tOp, tUn, tTest, tChain, tFld, sFld, sFldAug, tBM, tBM0, tSl, tPart, tNoPart, tDGet, tDIn, tDNotIn, sDPut, sDAug, tDNewK, tDNewT, tDGet2, L2.rI, L2.rI0, L2.rU, rEq, rNe, t2I, ipI, rAdd, rSub, rAppend, tDc_eq, tAugS, cxOf, Cx.nox, Cx.wish])
local macro_rules | `(tactic| walk_at "ex") => `(tactic| simp only [L2.start, List.map_cons, List.map_nil, List.length_cons, List.length_nil, List.replicate_succ, List.replicate_zero, List.cons_append, List.nil_append, List.append_nil, List.getElem?_cons_zero, List.getElem?_cons_succ, List.set_cons_zero, List.set_cons_succ, L2.wipe, Option.some.injEq, V.int.injEq, V.bl.injEq, V.ref.injEq, V.str.injEq, V.ty.injEq, List.cons.injEq, exists_eq_left', exists_eq_left, exists_eq_right, and_true, true_and, and_self, exists_and_left, exists_and_right, exists_const, and_assoc, exists_eq, exists_eq', eq_self_iff_true, if_true, if_false, Bool.false_eq_true, decide_eq_true_eq, ne_eq, reduceCtorEq, not_false_eq_true, Nat.reduceAdd, Nat.reduceSub, Bool.not_true, Bool.not_false, Option.map_some, Option.map_none, Option.isSome_some, Option.isSome_none, Option.getD_some, Option.getD_none])
local macro_rules | `(tactic| walk_at "st") => `(tactic| ((try walk_at "rd"); (try walk_at "ex")))

/-! ### a list of new lists -/
theorem lc_lists {α : Type} {J : It} {f : α → Rp} {xs : List α} {H1 : Hp} (wk : Wk J (fun H => Ex H1 H) f xs) (hz : xs.length ≤ 100000) {g : TG} {tt : TT} {te : TE} {vs : List Nat} {σ : L2.St} {Q : VK}
    (turn : ∀ (i : Nat) (x : α) (v : V) (H' : Hp) (K1 : VK) (K2 : Hp → Prop), xs[i]? = some x → Ex H1 H' → f x H' v → (∀ p, H' p = none → K1 (.ref p) (upd H' p (.lst []))) →
      g v (wipe σ vs) H' fun σ2 H2 => wipe σ2 vs = wipe σ vs ∧ tt σ2 H2 fun b H3 => if b = true then te σ2 H3 K1 else K2 H3)
    (done : ∀ (D : Addr) (H' : Hp) (ws : List Addr), H1 D = none → Ex H1 H' → H' D = some (.lst (ws.map V.ref)) → ws.length = xs.length → ws.Nodup → (∀ w ∈ ws, w ≠ D ∧ H1 w = none ∧ H' w = some (.lst [])) → Q (.ref D) H') :
    LcL J g tt te vs σ H1 Q := by
  intro D hD
  let Pv : Nat → Hp → Prop := fun i H => Ex H1 H ∧ ∃ ws : List Addr, H D = some (.lst (ws.map V.ref)) ∧ ws.length = i ∧ ws.Nodup ∧ ∀ w ∈ ws, w ≠ D ∧ H1 w = none ∧ H w = some (.lst [])
  refine ⟨fun i m H => m = xs.length - i ∧ i ≤ xs.length ∧ Pv i H, ⟨xs.length, by simp, Nat.zero_le _, Ex.new hD, [], upd_same, rfl, .nil, fun w hw => nomatch hw⟩, ?_⟩
  rintro i m H ⟨rfl, hi, e, ws, hws, hwl, hnd, hall⟩
  by_cases hlt : i < xs.length
  · refine .inr ⟨wk.go i H hlt e, fun H' => Pv (i + 1) H', fun H' p' => ⟨xs.length - (i + 1), by omega, rfl, hlt, p'⟩, fun v H' y => ?_⟩
    have hx := List.getElem?_eq_getElem hlt
    obtain ⟨e1, r⟩ := wk.yld i _ H v H' hx e y
    refine turn i _ v H' _ _ hx (e.tr e1) r (fun p hp => ?_)
    have hD1 := e1 _ _ hws
    have npD : p ≠ D := fun z => by
      rw [z, hD1] at hp
      cases hp
    have hpw : p ∉ ws := fun z => by
      have := e1 _ _ (hall p z).2.2
      rw [this] at hp
      cases hp
    have h4 : (upd H' p (.lst [])) D = some (.lst (ws.map V.ref)) := by
      rw [upd_ne npD.symm]
      exact hD1
    refine ⟨_, h4, szl (by rw [List.length_map]; omega), ((e.tr e1).tr (Ex.new hp)).mut hD, ws ++ [p], ?_, by rw [List.length_append, hwl] <;> rfl, ?_, fun w hw => ?_⟩
    · rw [List.map_append]
      exact upd_same
    · rw [List.nodup_append]
      refine ⟨hnd, by simp, fun a ha b hb z => ?_⟩
      rw [List.mem_singleton] at hb
      rw [z, hb] at ha
      exact hpw ha
    · rcases List.mem_append.mp hw with z | z
      · obtain ⟨q1, q2, q3⟩ := hall w z
        refine ⟨q1, q2, ?_⟩
        rw [upd_ne q1, upd_ne (fun c => hpw (by rw [← c]; exact z))]
        exact e1 _ _ q3
      · rw [List.mem_singleton] at z
        subst z
        refine ⟨npD, (e.tr e1).back hp, ?_⟩
        rw [upd_ne npD]
        exact upd_same
  · have ei : i = xs.length := by omega
    subst ei
    exact .inl ⟨wk.stop H e, done D H ws hD e hws hwl hnd hall⟩
/-! ### a flow that grows -/
abbrev rWy (p : Int × Int) : Rp := r2 (rI p.1) (rI p.2)
structure FlR (K : PySem.W.Frag) (x dx a SL WL : Addr) (A : List Arc) (N : Nat) (s : List Int) (H : Hp) : Prop where
  hx : H x = some (.ins (He.ga K "Flowing") dx [("arcs", .ref a), ("sent", .ref SL), ("ways", .ref WL)])
  ha : ∃ as, H a = some (.tup as) ∧ Al (fun v c => rAr c H v) as A
  hs : H SL = some (.lst (s.map V.int))
  hw : ∃ ws : List Addr, H WL = some (.lst (ws.map V.ref)) ∧ WL ≠ SL ∧ ws.length = N ∧ ∀ (k : Nat) (w : Addr), ws[k]? = some w → w ≠ SL ∧ ∃ us, H w = some (.lst us) ∧ Al (fun u p => rWy p H u) us (waysOf A (k : Int))
theorem FlR.ex {K : PySem.W.Frag} {x dx a SL WL : Addr} {A : List Arc} {N : Nat} {s : List Int} {H H' : Hp} (r : FlR K x dx a SL WL A N s H) (e : Ex H H') : FlR K x dx a SL WL A N s H' := by
  obtain ⟨as, h1, h2⟩ := r.ha
  obtain ⟨ws, h3, h4, h5, h6⟩ := r.hw
  refine ⟨e _ _ r.hx, ⟨as, e _ _ h1, h2.up e⟩, e _ _ r.hs, ws, e _ _ h3, h4, h5, fun k w hk => ?_⟩
  obtain ⟨q1, us, q2, q3⟩ := h6 k w hk
  exact ⟨q1, us, e _ _ q2, q3.up e⟩
theorem FlR.but {K : PySem.W.Frag} {x dx a SL WL : Addr} {A : List Arc} {N : Nat} {s s' : List Int} {H H' : Hp} (r : FlR K x dx a SL WL A N s H) (e : But SL H H') (hs : H' SL = some (.lst (s'.map V.int))) : FlR K x dx a SL WL A N s' H' := by
  obtain ⟨as, h1, h2⟩ := r.ha
  obtain ⟨ws, h3, h4, h5, h6⟩ := r.hw
  have tx := e.tx r.hs (fun xs z => nomatch z)
  refine ⟨e _ _ (ne_of r.hx r.hs (fun z => nomatch z)) r.hx, ⟨as, tx _ _ h1, h2.upT tx⟩, hs, ws, e _ _ h4 h3, h4, h5, fun k w hk => ?_⟩
  obtain ⟨q1, us, q2, q3⟩ := h6 k w hk
  exact ⟨q1, us, e _ _ q1 q2, q3.upT tx⟩
def sp_Flowing_room (K : PySem.W.Frag) : Sp := VSp fun vs H v => ∃ (x dx a SL WL : Addr) (A : List Arc) (N : Nat) (s : List Int) (w : Int × Int), vs = [.ref x, .int w.1, .int w.2] ∧ FlR K x dx a SL WL A N s H ∧ s.length = A.length ∧ 0 ≤ w.1 ∧ w.1 < (A.length : Int) ∧ v = .int (rm A s w)
abbrev nN_Flowing_room : List Str := ["self", "at", "sign"]
theorem sc_Flowing_room : FnScope nN_Flowing_room ["self", "at", "sign"] (defScope s_Flowing_room) := ⟨rfl, rfl, rfl, by decide +kernel, rfl, by decide +kernel, by decide +kernel⟩
theorem ok_Flowing_room {P : Program} {w : World} {K : PySem.W.Frag} {mg : Str → Option Value} {base : Heap} {fd : FuncData} (T : GG K w mg) (F : FunD K "room" "Flowing.room" (defArgs s_Flowing_room) (defBody s_Flowing_room) (defScope s_Flowing_room) [] [] (He.fAd K ("Flowing", some "room")) fd)  : CalM P w K mg base (He.ga K "Flowing") "room" 1 ["self", "at", "sign"] (sp_Flowing_room K) := by
  have nd := sc_Flowing_room.nd
  refine calM_of F T.c_Flowing T.e_Flowing_room (fun _ _ _ _ _ _ us hl => match us, hl with | [_, _, _], _ => rfl) (FunD.ok F sc_Flowing_room (fun vs H Q E h => ?_) (fun cdv A outer s H vs Q E hr h => ?_))
  · obtain ⟨_, ⟨x, dx, a, SL, WL, A, N, s, w, rfl, rr, hl, h0, h1, rfl⟩, q⟩ := h
    rfl
  obtain ⟨_, ⟨x, dx, a, SL, WL, A, N, s, w, rfl, rr, hl, h0, h1, rfl⟩, q⟩ := h
  have hu := hu_of hr
  refine ⟨_, PSs.nox (pss_one (ps_ret (pe_ifExp (pt_cmpR op_gt (pv 2) pe_int (nomark _)) (pe_op op_sub (pe_ix (ix_tupK (K := K) rfl) (pe_ix (ix_tupK (K := K) rfl) (pe_fldK (K := K) rfl (pv 0) rfl) (pv 1) (fun _ _ => rfl)) pe_int (fun _ _ => rfl)) (pe_ix (ix_listK (K := K) rfl) (pe_fldK (K := K) rfl (pv 0) rfl) (pv 1) (fun _ _ => rfl))) (pe_ix (ix_listK (K := K) rfl) (pe_fldK (K := K) rfl (pv 0) rfl) (pv 1) (fun _ _ => rfl))))), ?_⟩
  walk_at "st"
  obtain ⟨as, ha, al⟩ := rr.ha
  have hlt : w.1.toNat < A.length := by omega
  obtain ⟨v, hv, b, y1, y2, y3, rfl, hb, r1, r2, r3⟩ := al.get (List.getElem?_eq_getElem hlt)
  cases r1
  cases r2
  cases r3
  have harc : arc A w.1 = A[w.1.toNat] := by
    have := arc_at (List.getElem?_eq_getElem hlt)
    rw [show ((w.1.toNat : Nat) : Int) = w.1 by omega] at this
    exact this
  have hs : s[w.1.toNat]? = some (s.getD w.1.toNat 0) := by
    rw [List.getD_eq_getElem?_getD, List.getElem?_eq_getElem (show w.1.toNat < s.length by omega)] <;> rfl
  by_cases c : 0 < w.2
  · rw [if_pos c]
    refine ⟨_, _, _, rr.hx, T.c_Flowing, T.n_Flowing_arcs, _, rfl, ?_⟩
    refine ixT (sq_t ha) h0 hv ?_
    refine ixT (sq_t hb) (by decide) rfl ?_
    refine ⟨_, _, _, rr.hx, T.c_Flowing, T.n_Flowing_sent, _, rfl, ?_⟩
    refine ixL (sq_l rr.hs) h0 (map_at hs) ?_
    refine ⟨_, rfl, _, rfl, ?_⟩
    unfold rm at q
    rw [if_pos c, harc] at q
    exact q
  · rw [if_neg c]
    refine ⟨_, _, _, rr.hx, T.c_Flowing, T.n_Flowing_sent, _, rfl, ?_⟩
    refine ixL (sq_l rr.hs) h0 (map_at hs) ?_
    unfold rm at q
    rw [if_neg c] at q
    exact q
/-! ### a flow is begun -/
def sp_Flowing_init (K : PySem.W.Frag) : Sp := fun vs H Q _ => ∃ (x dx : Addr) (v : V) (N : Nat) (b : Int) (A : List Arc), vs = [.ref x, v] ∧ H x = some (.ins (He.ga K "Flowing") dx []) ∧ r3 (rI (N : Int)) (rI b) (rTu rAr A) H v ∧ A.length ≤ 60000 ∧ N ≤ 1000 ∧ (∀ c ∈ A, 0 ≤ c.1 ∧ c.1 < (N : Int) ∧ 0 ≤ c.2.1 ∧ c.2.1 < (N : Int)) ∧
  ∀ H' a SL WL, But x H H' → H SL = none → FlR K x dx a SL WL A N (List.replicate A.length 0) H' → Q .non H'
theorem ways_step {A : List Arc} {i : Nat} {c : Arc} (h : A[i]? = some c) (k : Int) : waysIn A k (i + 1) = waysIn A k i ++ ((if c.1 = k then [((i : Int), (1 : Int))] else []) ++ (if c.2.1 = k then [((i : Int), (-1 : Int))] else [])) := by
  have hl := (List.getElem?_eq_some_iff.mp h).1
  obtain ⟨p, hp⟩ : ∃ p, (enu A)[i]? = some p := ⟨_, List.getElem?_eq_getElem (show i < (enu A).length by rw [enu_len]; exact hl)⟩
  obtain ⟨h1, h2⟩ := enu_at hp
  rw [h] at h2
  cases h2
  unfold waysIn
  rw [List.take_add_one, hp, List.flatMap_append]
  simp [h1]
def WIn (ws : List Addr) (f : Nat → List (Int × Int)) (H : Hp) : Prop := ∀ (k : Nat) (w : Addr), ws[k]? = some w → ∃ us, H w = some (.lst us) ∧ Al (fun u p => rWy p H u) us (f k)
theorem WIn.ex {ws : List Addr} {f : Nat → List (Int × Int)} {H H' : Hp} (h : WIn ws f H) (e : Ex H H') : WIn ws f H' := fun k w hk => by
  obtain ⟨us, h1, h2⟩ := h k w hk
  exact ⟨us, e _ _ h1, h2.up e⟩
theorem WIn.app {ws : List Addr} {f : Nat → List (Int × Int)} {H : Hp} (h : WIn ws f H) (nd : ws.Nodup) {k : Nat} {w : Addr} (hk : ws[k]? = some w) {us : List V} (hw : H w = some (.lst us)) {v : V} {p : Int × Int} (hv : rWy p H v) : WIn ws (fun j => if j = k then f j ++ [p] else f j) (upd H w (.lst (us ++ [v]))) := fun j u hj => by
  have tx : Tx H (upd H w (.lst (us ++ [v]))) := Tx.mut hw (fun xs z => nomatch z)
  by_cases c : j = k
  · subst c
    rw [hk] at hj
    cases hj
    obtain ⟨us', h1, h2⟩ := h j w hk
    rw [hw] at h1
    cases h1
    dsimp only
    rw [if_pos rfl]
    exact ⟨_, upd_same, (h2.snoc hv).upT tx⟩
  · have n : u ≠ w := fun z => by
      obtain ⟨l1, e1⟩ := List.getElem?_eq_some_iff.mp hj
      obtain ⟨l2, e2⟩ := List.getElem?_eq_some_iff.mp hk
      have pw := List.nodup_iff_pairwise_ne.mp nd
      rw [List.pairwise_iff_getElem] at pw
      rcases Nat.lt_trichotomy j k with d | d | d
      · exact pw j k l1 l2 d (by rw [e1, e2, z])
      · exact c d
      · exact pw k j l2 l1 d (by rw [e1, e2, z])
    obtain ⟨us', h1, h2⟩ := h j u hj
    dsimp only
    rw [if_neg c]
    exact ⟨us', by rw [upd_ne n]; exact h1, h2.upT tx⟩
abbrev nN_Flowing_init : List Str := ["self", "network", "node_count", "_", "at", "source", "target"]
theorem sc_Flowing_init : FnScope nN_Flowing_init ["self", "network"] (defScope s_Flowing_init) := ⟨rfl, rfl, rfl, by decide +kernel, rfl, by decide +kernel, by decide +kernel⟩
theorem ok_Flowing_init {P : Program} {w : World} {K : PySem.W.Frag} {mg : Str → Option Value} {base : Heap} {fd : FuncData} (T : GG K w mg) (F : FunD K "__init__" "Flowing.__init__" (defArgs s_Flowing_init) (defBody s_Flowing_init) (defScope s_Flowing_init) [] [] (He.fAd K ("Flowing", some "__init__")) fd)  : CalC P w K mg base "Flowing" (He.ga K "Flowing") 1 ["self", "network"] (sp_Flowing_init K) := by
  have nd := sc_Flowing_init.nd
  refine calC_of F T.g_Flowing T.m_Flowing (fun _ _ _ _ _ _ us hl => match us, hl with | [_, _], _ => rfl) (FunD.ok F sc_Flowing_init (fun vs H Q E h => ?_) (fun cdv A outer s H vs Q E hr h => ?_))
  · obtain ⟨x, dx, v, N, b0, A, rfl, hx, ⟨v0, y1, y2, y3, rfl, hv0, h1, h2, h3⟩, hAl, hN, hAr, q⟩ := h
    rfl
  obtain ⟨x, dx, v, N, b0, A, rfl, hx, ⟨v0, y1, y2, y3, rfl, hv0, h1, h2, h3⟩, hAl, hN, hAr, q⟩ := h
  have hu := hu_of hr
  refine ⟨_, PSs.nox (pss_cons (ps_asg (pv 1) (pg_tupK (n := 3) (K := K) rfl rfl (pgs_cons (pg_name (i := 2) nd rfl (Or.inl rfl)) (pgs_cons (pg_name (i := 3) nd rfl (Or.inl rfl)) (pgs_cons (pg_fld (pv 0)) pgs_nil))))) (pss_cons (ps_fld (pv 0) (pe_lc (own := [("_", 3)]) rfl nd (pi_tupK (K := K) rfl (pe_fldK (K := K) rfl (pv 0) rfl)) (blkOk_by (own := [("_", 3)]) (N := nN_Flowing_init) (sc := defScope s_Flowing_init) (by decide +kernel)) (fun _ _ _ _ _ => (pg_name (i := 3) nd rfl (Or.inl rfl))) (fun _ _ _ _ _ => pts_nil) (fun _ _ _ _ _ => pe_int)) rfl) (pss_cons (ps_fld (pv 0) (pe_lc (own := [("_", 3)]) rfl nd (pi_range1 rfl T.f_range (pa_cons (pv 2) pa_nil)) (blkOk_by (own := [("_", 3)]) (N := nN_Flowing_init) (sc := defScope s_Flowing_init) (by decide +kernel)) (fun _ _ _ _ _ => (pg_name (i := 3) nd rfl (Or.inl rfl))) (fun _ _ _ _ _ => pts_nil) (fun _ _ _ _ _ => (pe_lst pa_nil))) rfl) (pss_one (ps_for PassesOwn.never rfl (pi_enumT (by rfl) T.f_enumerate (pa_cons (pe_fldK (K := K) rfl (pv 0) rfl) pa_nil)) (pg_tupK (n := 2) (K := K) rfl rfl (pgs_cons (pg_name (i := 4) nd rfl (Or.inl rfl)) (pgs_cons (pg_tupK (n := 3) (K := K) rfl rfl (pgs_cons (pg_name (i := 5) nd rfl (Or.inl rfl)) (pgs_cons (pg_name (i := 6) nd rfl (Or.inl rfl)) (pgs_cons (pg_name (i := 3) nd rfl (Or.inl rfl)) pgs_nil)))) pgs_nil))) (pss_cons (ps_expr (pe_bm PySem.F.plainAttrs_list PySem.F.slot_list_append PySem.F.type_list_append mt_append (pe_ix (ix_listK (K := K) rfl) (pe_fldK (K := K) rfl (pv 0) rfl) (pv 5) (fun _ _ => rfl)) (pa_cons (pe_tup (pa_cons (pv 4) (pa_cons pe_int pa_nil))) pa_nil))) (pss_one (ps_expr (pe_bm PySem.F.plainAttrs_list PySem.F.slot_list_append PySem.F.type_list_append mt_append (pe_ix (ix_listK (K := K) rfl) (pe_fldK (K := K) rfl (pv 0) rfl) (pv 6) (fun _ _ => rfl)) (pa_cons (pe_tup (pa_cons (pv 4) (pa_cons (pe_un un_neg pe_int) pa_nil))) pa_nil)))))))))), ?_⟩
  cases h1
  cases h2
  obtain ⟨a, as, rfl, ha, al⟩ := h3
  walk_at "st"
  refine ⟨_, sq_t hv0, rfl, _, _, rfl, _, _, rfl, _, _, rfl, _, _, _, hx, T.c_Flowing, T.n_Flowing_arcs, by decide, rfl, ?_⟩
  have nax : a ≠ x := ne_of ha hx (fun z => nomatch z)
  simp only [show putF ("arcs" : Str) (V.ref a) [] = [(("arcs" : Str), V.ref a)] from rfl]
  have b1 : But x H (upd H x (.ins (He.ga K "Flowing") dx [("arcs", .ref a)])) := But.mut
  have hx1 : (upd H x (.ins (He.ga K "Flowing") dx [("arcs", .ref a)])) x = some (.ins (He.ga K "Flowing") dx [("arcs", .ref a)]) := upd_same
  generalize upd H x (.ins (He.ga K "Flowing") dx [("arcs", .ref a)]) = X1 at b1 hx1 ⊢
  have ha1 := b1 _ _ nax ha
  have al1 := al.upT (b1.tx hx (fun xs z => nomatch z))
  refine ⟨_, _, _, hx1, T.c_Flowing, T.n_Flowing_arcs, _, rfl, a, rfl, ⟨_, sq_t ha1⟩, ?_⟩
  refine lc_mapN (f := rAr) (xs := A) (rb := rI) (F := fun _ => 0) (wk_tup fun H' g => ⟨as, sq_t (g _ _ ha1), al1.up g⟩) (by omega) (fun _ => rfl) ?_ ?_
  · rintro i c v H' K1 hi e2 hv hK
    walk_at "st"
    exact hK _ _ (Ex.rf _) rfl
  rintro SL X2 hSL e2 hr2
  obtain ⟨_, ss, hzz, hs2, als⟩ := hr2
  cases hzz
  rw [al_ints als, List.map_const'] at hs2
  obtain ⟨nSL, fSL⟩ := b1.back hx1 hSL
  have hx2 := e2 _ _ hx1
  have b2' := b1.tr e2.but
  have ha2 := e2 _ _ ha1
  have al2 := al1.up e2
  refine ⟨_, _, _, hx2, T.c_Flowing, T.n_Flowing_sent, by show 1 < 1000; decide, ?_⟩
  simp only [show putF ("sent" : Str) (V.ref SL) [(("arcs" : Str), V.ref a)] = [(("arcs" : Str), V.ref a), (("sent" : Str), V.ref SL)] from rfl]
  have b3 : But x H (upd X2 x (.ins (He.ga K "Flowing") dx [("arcs", .ref a), ("sent", .ref SL)])) := b2'.tr But.mut
  have hx3 : (upd X2 x (.ins (He.ga K "Flowing") dx [("arcs", .ref a), ("sent", .ref SL)])) x = some (.ins (He.ga K "Flowing") dx [("arcs", .ref a), ("sent", .ref SL)]) := upd_same
  have k3 : ∀ b o, b ≠ x → X2 b = some o → (upd X2 x (.ins (He.ga K "Flowing") dx [("arcs", .ref a), ("sent", .ref SL)])) b = some o := fun b o n h => by
    rw [upd_ne n]
    exact h
  have hs3 := k3 _ _ nSL hs2
  have ha3 := k3 _ _ nax ha2
  have al3 := al2.upT (Tx.mut (o := .ins (He.ga K "Flowing") dx [("arcs", .ref a), ("sent", .ref SL)]) hx2 (fun xs z => nomatch z))
  generalize upd X2 x (.ins (He.ga K "Flowing") dx [("arcs", .ref a), ("sent", .ref SL)]) = X3 at b3 k3 hx3 hs3 ha3 al3 ⊢
  refine ⟨_, rfl, by omega, by omega, ?_⟩
  rw [Int.toNat_natCast]
  refine lc_lists wk_rng0 (by rw [List.length_range]; omega) ?_ ?_
  · rintro i k v H' K1 K2 hi e4 hv hK
    walk_at "st"
    exact ⟨by decide, fun p hp => hK p hp⟩
  rintro WL X4 ws hWL e4 hW4 hwl hwn hwa
  rw [List.length_range] at hwl
  obtain ⟨nWL, fWL⟩ := b3.back hx3 hWL
  have hx4 := e4 _ _ hx3
  have hs4 := e4 _ _ hs3
  have ha4 := e4 _ _ ha3
  have al4 := al3.up e4
  have b4 := b3.tr e4.but
  have nWS : WL ≠ SL := (ne_of_none hs3 hWL).symm
  refine ⟨_, _, _, hx4, T.c_Flowing, T.n_Flowing_ways, by show 2 < 1000; decide, ?_⟩
  simp only [show putF ("ways" : Str) (V.ref WL) [(("arcs" : Str), V.ref a), (("sent" : Str), V.ref SL)] = [(("arcs" : Str), V.ref a), (("sent" : Str), V.ref SL), (("ways" : Str), V.ref WL)] from rfl]
  have hxw : ∀ w ∈ ws, w ≠ x ∧ w ≠ SL ∧ w ≠ WL := fun w hw => by
    obtain ⟨q1, q2, q3⟩ := hwa w hw
    exact ⟨ne_of q3 hx4 (fun z => nomatch z), (ne_of_none hs3 q2).symm, q1⟩
  have b5 : But x H (upd X4 x (.ins (He.ga K "Flowing") dx [("arcs", .ref a), ("sent", .ref SL), ("ways", .ref WL)])) := b4.tr But.mut
  have k5 : ∀ b o, b ≠ x → X4 b = some o → (upd X4 x (.ins (He.ga K "Flowing") dx [("arcs", .ref a), ("sent", .ref SL), ("ways", .ref WL)])) b = some o := fun b o n h => by
    rw [upd_ne n]
    exact h
  have hx5 : (upd X4 x (.ins (He.ga K "Flowing") dx [("arcs", .ref a), ("sent", .ref SL), ("ways", .ref WL)])) x = some (.ins (He.ga K "Flowing") dx [("arcs", .ref a), ("sent", .ref SL), ("ways", .ref WL)]) := upd_same
  have al5 := al4.upT (Tx.mut (o := .ins (He.ga K "Flowing") dx [("arcs", .ref a), ("sent", .ref SL), ("ways", .ref WL)]) hx4 (fun xs z => nomatch z))
  generalize upd X4 x (.ins (He.ga K "Flowing") dx [("arcs", .ref a), ("sent", .ref SL), ("ways", .ref WL)]) = X5 at b5 k5 hx5 al5 ⊢
  have hs5 := k5 _ _ nSL hs4
  have ha5 := k5 _ _ nax ha4
  have hW5 := k5 _ _ nWL hW4
  have hw5 : ∀ w ∈ ws, X5 w = some (.lst []) := fun w hw => k5 _ _ (hxw w hw).1 (hwa w hw).2.2
  refine ⟨_, _, _, hx5, T.c_Flowing, T.n_Flowing_arcs, _, rfl, a, rfl, ⟨_, sq_t ha5⟩, ?_⟩
  have tx5 : ∀ {H'}, Kp ws X5 H' → Tx X5 H' := fun k b xs hb => k b _ (fun z => by
    rw [hw5 b z] at hb
    cases hb) hb
  have nW : WL ∉ ws := fun z => (hxw WL z).2.2 rfl
  have nS : SL ∉ ws := fun z => (hxw SL z).2.1 rfl
  have nX : x ∉ ws := fun z => (hxw x z).1 rfl
  refine for_gen (f := fun p : Nat × Arc => r2 (rI (p.1 : Int)) (rAr p.2)) (xs := enu A) (G := fun H' => Kp ws X5 H') (wk_enuT (f := rAr) fun H' g => ⟨as, sq_t (tx5 g _ _ ha5), al5.upT (tx5 g)⟩) (fun i σ' H' => Kp ws X5 H' ∧ ∃ x3 x4 x5 x6, σ' = [some (.ref x), some (.ref v0), some (.int N), x3, x4, x5, x6] ∧ WIn ws (fun k => waysIn A (k : Int) i) H') ⟨Kp.rf _ _, _, _, _, _, rfl, fun k w hk => ⟨[], hw5 w (List.mem_of_getElem? hk), .nil⟩⟩ (fun _ _ _ _ h => h.1) ?_ ?_
  · rintro i p vv σ' H1 H2 hi ⟨k1, x3, x4, x5, x6, rfl, win⟩ e2 ⟨b, y1, y2, rfl, hb, h1, ⟨c, z1, z2, z3, rfl, hc, g1, g2, g3⟩⟩
    cases h1
    cases g1
    cases g2
    cases g3
    obtain ⟨p1, p2⟩ := enu_at hi
    have hcap := hAr p.2 (List.mem_of_getElem? p2)
    have hstep := fun k => ways_step p2 k
    have k2 := k1.tr e2.kp
    have win2 := win.ex e2
    have lsz : ∀ (k : Int) (j : Nat), j ≤ A.length → (waysIn A k j).length ≤ 2 * j := fun k j hj => by
      induction j with
      | zero => exact Nat.le_refl _
      | succ j ih =>
        have hx := List.getElem?_eq_getElem (show j < A.length by omega)
        rw [ways_step hx k, List.length_append, List.length_append]
        have := ih (by omega)
        split <;> split <;> simp <;> omega
    have hil := (List.getElem?_eq_some_iff.mp p2).1
    obtain ⟨wa, hwa1⟩ : ∃ w, ws[p.2.1.toNat]? = some w := ⟨_, List.getElem?_eq_getElem (show p.2.1.toNat < ws.length by omega)⟩
    obtain ⟨wb, hwb1⟩ : ∃ w, ws[p.2.2.1.toNat]? = some w := ⟨_, List.getElem?_eq_getElem (show p.2.2.1.toNat < ws.length by omega)⟩
    walk_at "st"
    refine ⟨_, sq_t hb, rfl, _, _, rfl, _, _, rfl, c, rfl, _, sq_t hc, rfl, _, _, rfl, _, _, rfl, _, _, rfl, rfl, rfl, ?_⟩
    refine ⟨_, _, _, k2 _ _ nX hx5, T.c_Flowing, T.n_Flowing_ways, _, rfl, ?_⟩
    refine ixL (sq_l (k2 _ _ nW hW5)) hcap.1 (map_at hwa1) ?_
    obtain ⟨us, hus, alus⟩ := win2 _ _ hwa1
    have husl : us.length ≤ 120000 := by
      have h1 : us.length = (waysIn A ((p.2.1.toNat : Nat) : Int) i).length := alus.len
      have := lsz ((p.2.1.toNat : Nat) : Int) i (by omega)
      omega
    refine ⟨.inl ⟨rfl, us, sq_l hus⟩, by decide, fun t1 ht1 => ?_⟩
    have e3 := Ex.new (o := .tup [V.int (p.1 : Int), V.int 1]) ht1
    refine ⟨wa, rfl, us, e3 _ _ hus, szl (by omega), ?_⟩
    have win3 := (win2.ex e3).app hwn hwa1 (e3 _ _ hus) (v := .ref t1) (p := ((p.1 : Int), 1)) ⟨t1, _, _, rfl, upd_same, rfl, rfl⟩
    have k3' : Kp ws X5 (upd (upd H2 t1 (.tup [V.int (p.1 : Int), V.int 1])) wa (.lst (us ++ [V.ref t1]))) := (k2.tr e3.kp).tr (Kp.mut (List.mem_of_getElem? hwa1))
    generalize upd (upd H2 t1 (.tup [V.int (p.1 : Int), V.int 1])) wa (.lst (us ++ [V.ref t1])) = H3 at win3 k3' ⊢
    refine ⟨_, _, _, k3' _ _ nX hx5, T.c_Flowing, T.n_Flowing_ways, _, rfl, ?_⟩
    refine ixL (sq_l (k3' _ _ nW hW5)) hcap.2.2.1 (map_at hwb1) ?_
    obtain ⟨us2, hus2, alus2⟩ := win3 _ _ hwb1
    have husl2 : us2.length ≤ 130000 := by
      have h1 := alus2.len
      have h2 := lsz ((p.2.2.1.toNat : Nat) : Int) i (by omega)
      rw [h1]
      dsimp only
      split
      · rw [List.length_append, List.length_singleton]
        omega
      · omega
    refine ⟨.inl ⟨rfl, us2, sq_l hus2⟩, by decide, fun t2 ht2 => ?_⟩
    have e4 := Ex.new (o := .tup [V.int (p.1 : Int), V.int (-1)]) ht2
    refine ⟨wb, rfl, us2, e4 _ _ hus2, szl (by omega), ?_⟩
    have win4 := (win3.ex e4).app hwn hwb1 (e4 _ _ hus2) (v := .ref t2) (p := ((p.1 : Int), -1)) ⟨t2, _, _, rfl, upd_same, rfl, rfl⟩
    refine ⟨(k3'.tr e4.kp).tr (Kp.mut (List.mem_of_getElem? hwb1)), ?_⟩
    have ef : (fun k : Nat => waysIn A (k : Int) (i + 1)) = (fun j : Nat => if j = p.2.2.1.toNat then (if j = p.2.1.toNat then waysIn A (j : Int) i ++ [((p.1 : Int), (1 : Int))] else waysIn A (j : Int) i) ++ [((p.1 : Int), (-1 : Int))] else (if j = p.2.1.toNat then waysIn A (j : Int) i ++ [((p.1 : Int), (1 : Int))] else waysIn A (j : Int) i)) := by
      funext j
      rw [hstep, p1]
      have c1 : (p.2.1 = (j : Int)) = (j = p.2.1.toNat) := propext (by omega)
      have c2 : (p.2.2.1 = (j : Int)) = (j = p.2.2.1.toNat) := propext (by omega)
      simp only [c1, c2]
      split <;> split <;> simp
    rw [ef]
    exact win4
  · rintro σ' H1 ⟨k1, x3, x4, x5, x6, rfl, win⟩
    rw [enu_len] at win
    walk_at "st"
    refine q _ a SL WL ?_ fSL ⟨k1 _ _ nX hx5, ⟨as, tx5 k1 _ _ ha5, al5.upT (tx5 k1)⟩, ?_, ws, k1 _ _ nW hW5, nWS, hwl, fun k w hk => ⟨(hxw w (List.mem_of_getElem? hk)).2.1, win k w hk⟩⟩
    · intro b o hbx hbo
      have h5 := b5 b o hbx hbo
      refine k1 b o (fun z => ?_) h5
      have hb3 := b3 b o hbx hbo
      have := (hwa b z).2.1
      rw [hb3] at this
      cases this
    · exact k1 _ _ nS hs5
/-! ### what can be reached -/
def rPa : Option (Int × Int × Int) → Rp
  | none => rN
  | some p => r3 (rI p.1) (rI p.2.1) (rI p.2.2)
instance (p : Option (Int × Int × Int)) : Im (rPa p) := ⟨fun {H H' v} e h => by
  cases p with
  | none => exact h
  | some p => exact Im.upT (r := r3 (rI p.1) (rI p.2.1) (rI p.2.2)) e h⟩
abbrev Par := Option (Int × Int × Int)
def dR (row : List Int) (vs : List V) : List (Key × V) := (row.zip vs).map fun e => (Sum.inl e.1, e.2)
def ReD (D : Addr) (row : List Int) (pr : List Par) (H : Hp) : Prop := ∃ vs, H D = some (.dK (dR row vs)) ∧ Al (fun v p => rPa p H v) vs pr
theorem gt_zip : ∀ {row : List Int} {vs : List V} {i : Nat} {k : Int} {v : V}, row.Nodup → row[i]? = some k → vs[i]? = some v → gt (row.zip vs) k = some v
  | [], _, _, _, _, _, h, _ => by simp at h
  | _ :: _, [], _, _, _, _, _, h => by simp at h
  | r :: row, u :: vs, 0, k, v, nd, h1, h2 => by
    simp at h1 h2
    subst h1
    subst h2
    rw [List.zip_cons_cons, gt_cons, if_pos rfl]
  | r :: row, u :: vs, i + 1, k, v, nd, h1, h2 => by
    rw [List.nodup_cons] at nd
    have h1' : row[i]? = some k := by simpa using h1
    rw [List.zip_cons_cons, gt_cons, if_neg (fun z => nd.1 (by rw [show r = k from z]; exact List.mem_of_getElem? h1'))]
    exact gt_zip nd.2 h1' (by simpa using h2)
theorem zip_keys {row : List Int} {vs : List V} (h : vs.length = row.length) : (row.zip vs).map (·.1) = row := List.map_fst_zip (by omega)
theorem valV_dR (row : List Int) (vs : List V) (k : Int) : valV (dR row vs) (Sum.inl k) = gt (row.zip vs) k := by
  have := valV_of (κ' := Key) Sum.inl inl_inj (fun v : V => v) (row.zip vs) k
  rw [show (gt (row.zip vs) k).map (fun v : V => v) = gt (row.zip vs) k by cases gt (row.zip vs) k <;> rfl] at this
  exact this
theorem putK_dR {row : List Int} {vs : List V} (h : vs.length = row.length) {k : Int} (hk : k ∉ row) (v : V) : putK (dR row vs) (Sum.inl k) v = dR (row ++ [k]) (vs ++ [v]) := by
  have := putK_of (κ' := Key) Sum.inl inl_inj (fun v : V => v) (row.zip vs) k v
  have hn : gt (row.zip vs) k = none := by
    cases hg : gt (row.zip vs) k with
    | none => rfl
    | some u => exact absurd ((key_mem _ _).mpr (by rw [hg] <;> rfl)) (by rw [zip_keys h]; exact hk)
  rw [pt_new v hn] at this
  unfold dR
  rw [List.zip_append h.symm]
  exact this
theorem ReD.get {D : Addr} {row : List Int} {pr : List Par} {H : Hp} (r : ReD D row pr H) (hl : pr.length = row.length) (k : Int) : ∃ o, DGet H D (.int k) o ∧ (o.isSome = true ↔ k ∈ row) := by
  obtain ⟨vs, h1, h2⟩ := r
  refine ⟨gt (row.zip vs) k, ?_, ?_⟩
  · rw [← valV_dR]
    exact DGet.k (k := Sum.inl k) h1
  · rw [← key_mem, zip_keys (by rw [h2.len, hl])]
theorem ReD.at_ {D : Addr} {row : List Int} {pr : List Par} {H : Hp} (r : ReD D row pr H) (hn : row.Nodup) {i : Nat} {k : Int} {p : Par} (h1 : row[i]? = some k) (h2 : pr[i]? = some p) : ∃ v, DGet H D (.int k) (some v) ∧ rPa p H v := by
  obtain ⟨vs, h3, h4⟩ := r
  obtain ⟨v, hv, hp⟩ := h4.get h2
  refine ⟨v, ?_, hp⟩
  rw [← gt_zip hn h1 hv, ← valV_dR]
  exact DGet.k (k := Sum.inl k) h3
theorem ReD.ex {D : Addr} {row : List Int} {pr : List Par} {H H' : Hp} (r : ReD D row pr H) (e : Ex H H') : ReD D row pr H' := by
  obtain ⟨vs, h1, h2⟩ := r
  exact ⟨vs, e _ _ h1, h2.up e⟩
def ClosedAll (A : List Arc) (s : List Int) (row : List Int) : Prop := ∀ n ∈ row, Closed A s row n
def sp_Flowing_walk (K : PySem.W.Frag) : Sp := fun vs H Q _ => ∃ (x dx a SL WL : Addr) (A : List Arc) (N : Nat) (s : List Int), vs = [.ref x] ∧ FlR K x dx a SL WL A N s H ∧ s.length = A.length ∧ A.length ≤ 60000 ∧ 0 < N ∧ N ≤ 1000 ∧ (∀ c ∈ A, 0 ≤ c.1 ∧ c.1 < (N : Int) ∧ 0 ≤ c.2.1 ∧ c.2.1 < (N : Int)) ∧
  ∀ H' D row pr, Ex H H' → H D = none → ReD D row pr H' → Rc N A s row pr → ClosedAll A s row → Q (.ref D) H'
def WalkW (H : Hp) (x D R : Addr) (N : Nat) (A : List Arc) (s : List Int) (m : Nat) (σ' : L2.St) (H' : Hp) : Prop := ∃ (next : Nat) (row : List Int) (pr : List Par) (x4 x5 x6 x7 : Option V), m = N - next ∧ σ' = [some (.ref x), some (.ref D), some (.ref R), some (.int next), x4, x5, x6, x7] ∧ Ex H H' ∧ ReD D row pr H' ∧ H' R = some (.lst (row.map V.int)) ∧ Rc N A s row pr ∧ next ≤ row.length ∧ ∀ n ∈ row.take next, Closed A s row n
abbrev nN_Flowing_walk : List Str := ["self", "reached", "row", "next_at", "node", "at", "sign", "target"]
theorem sc_Flowing_walk : FnScope nN_Flowing_walk ["self"] (defScope s_Flowing_walk) := ⟨rfl, rfl, rfl, by decide +kernel, rfl, by decide +kernel, by decide +kernel⟩
theorem ok_Flowing_walk {P : Program} {w : World} {K : PySem.W.Frag} {mg : Str → Option Value} {base : Heap} {fd : FuncData} (T : GG K w mg) (F : FunD K "walk" "Flowing.walk" (defArgs s_Flowing_walk) (defBody s_Flowing_walk) (defScope s_Flowing_walk) [] [] (He.fAd K ("Flowing", some "walk")) fd) (m_room : CalM P w K mg base (He.ga K "Flowing") "room" 1 ["self", "at", "sign"] (sp_Flowing_room K)) : CalM P w K mg base (He.ga K "Flowing") "walk" 2 ["self"] (sp_Flowing_walk K) := by
  have nd := sc_Flowing_walk.nd
  refine calM_of F T.c_Flowing T.e_Flowing_walk (fun _ _ _ _ _ _ us hl => match us, hl with | [_], _ => rfl) (FunD.ok F sc_Flowing_walk (fun vs H Q E h => ?_) (fun cdv A outer s H vs Q E hr h => ?_))
  · obtain ⟨x, dx, a, SL, WL, A, N, s, rfl, rr, hsl, hAl, hN0, hN, hAr, q⟩ := h
    rfl
  obtain ⟨x, dx, a, SL, WL, A, N, s, rfl, rr, hsl, hAl, hN0, hN, hAr, q⟩ := h
  have hu := hu_of hr
  refine ⟨_, PSs.nox (pss_cons (ps_set (i := 1) nd rfl (Or.inl rfl) (pe_disp (pps_cons (pe_gI T.i_YES_END) pe_non pps_nil) (by rfl) (by rfl) (fun z => by cases z) (by decide))) (pss_cons (ps_set (i := 2) nd rfl (Or.inl rfl) (pe_lst (pa_cons (pe_gI T.i_YES_END) pa_nil))) (pss_cons (ps_set (i := 3) nd rfl (Or.inl rfl) pe_int) (pss_cons (ps_while PassesOwn.never (pt_cmpR op_lt (pv 3) (pe_b_len T.f_len call_len_seq (pa_cons (pv 2) pa_nil)) (nomark _)) (pss_cons (ps_set (i := 4) nd rfl (Or.inl rfl) (pe_ix (ix_listK (K := K) rfl) (pv 2) (pv 3) (fun _ _ => rfl))) (pss_cons (ps_aug (i := 3) nd rfl (Or.inl rfl) pe_int ip_add) (pss_one (ps_for PassesOwn.never rfl (pi_listK (K := K) rfl (pe_ix (ix_listK (K := K) rfl) (pe_fldK (K := K) rfl (pv 0) rfl) (pv 4) (fun _ _ => rfl))) (pg_tupK (n := 2) (K := K) rfl rfl (pgs_cons (pg_name (i := 5) nd rfl (Or.inl rfl)) (pgs_cons (pg_name (i := 6) nd rfl (Or.inl rfl)) pgs_nil))) (pss_cons (ps_set (i := 7) nd rfl (Or.inl rfl) (pe_ifExp (pt_cmpR op_gt (pv 6) pe_int (nomark _)) (pe_ix (ix_tupK (K := K) rfl) (pe_ix (ix_tupK (K := K) rfl) (pe_fldK (K := K) rfl (pv 0) rfl) (pv 5) (fun _ _ => rfl)) pe_int (fun _ _ => rfl)) (pe_ix (ix_tupK (K := K) rfl) (pe_ix (ix_tupK (K := K) rfl) (pe_fldK (K := K) rfl (pv 0) rfl) (pv 5) (fun _ _ => rfl)) pe_int (fun _ _ => rfl)))) (pss_one (ps_if (PW.pt (pw_and (pt_cmp (pc_dnotin hu (pv 7) (pv 1)) rfl) (pw_and1 (pt_cmpR op_gt (pe_calM m_room hr (pv 0) (pa_cons (pv 5) (pa_cons (pv 6) pa_nil))) pe_int (nomark _))))) (pss_cons (ps_dput hu (pv 1) (pv 7) (pe_tup (pa_cons (pv 4) (pa_cons (pv 5) (pa_cons (pv 6) pa_nil)))) rfl) (pss_one (ps_expr (pe_bm PySem.F.plainAttrs_list PySem.F.slot_list_append PySem.F.type_list_append mt_append (pv 2) (pa_cons (pv 7) pa_nil))))) pss_nil)))))))) (pss_one (ps_ret (pv 1))))))), ?_⟩
  walk_at "st"
  dsimp only [tDisp, tPairs]
  walk_at "st"
  intro D hD
  walk_at "st"
  refine ⟨upd_same, [(Sum.inl 0, .non)], rfl, by decide, by decide, fun R hR => ?_⟩
  have e1 : Ex H (upd (upd H D (.dK [])) D (.dK (mergeK [] [(Sum.inl 0, .non)]))) := ((Ex.rf H).mut hD).mut hD
  have hD1 : (upd (upd H D (.dK [])) D (.dK (mergeK [] [(Sum.inl 0, .non)]))) D = some (.dK (dR [0] [.non])) := upd_same
  generalize upd (upd H D (.dK [])) D (.dK (mergeK [] [(Sum.inl 0, .non)])) = H1 at e1 hD1 hR ⊢
  have hRf : H R = none := e1.back hR
  have nRD : R ≠ D := (ne_of_none hD1 hR).symm
  have e2 : Ex H1 (upd H1 R (.lst [V.int 0])) := Ex.new hR
  have hR2 : (upd H1 R (.lst [V.int 0])) R = some (.lst (([0] : List Int).map V.int)) := upd_same
  have hD2 := e2 _ _ hD1
  have e02 := e1.tr e2
  generalize upd H1 R (.lst [V.int 0]) = H2 at e02 hR2 hD2 ⊢
  have rD2 : ReD D [0] [none] H2 := ⟨[.non], hD2, .cons rfl .nil⟩
  have Rc2 := Rc.start (N := N) A s hN0
  refine ⟨WalkW H x D R N A s, ⟨N, 0, [0], [none], _, _, _, _, rfl, rfl, e02, rD2, hR2, Rc2, Nat.zero_le _, fun n hn => nomatch hn⟩, ?_⟩
  rintro m σ' H3 ⟨next, row, pr, x4, x5, x6, x7, rfl, rfl, e3, rD3, hR3, Rc3, hnx, hcl⟩
  have hrl := row_len Rc3.nd Rc3.bd
  walk_at "st"
  refine ⟨_, .inl (sq_l hR3), ?_⟩
  rw [ints_len]
  by_cases c : (next : Int) < (row.length : Int)
  · rw [if_pos (by simpa using c)]
    have hlt : next < row.length := by omega
    obtain ⟨node, hnode⟩ : ∃ n, row[next]? = some n := ⟨_, List.getElem?_eq_getElem hlt⟩
    have hnm := List.mem_of_getElem? hnode
    obtain ⟨nd0, nd1⟩ := Rc3.bd node hnm
    refine ⟨fun σ' H' => ∃ m' < N - next, WalkW H x D R N A s m' σ' H', fun _ _ h => h, ?_⟩
    walk_at "st"
    refine ixL (sq_l hR3) (by omega) (by rw [Int.toNat_natCast]; exact map_at hnode) ?_
    walk_at "st"
    have rr3 := rr.ex e3
    obtain ⟨ws, hW, hWS, hwl, hww⟩ := rr.hw
    obtain ⟨w, hw⟩ : ∃ w, ws[node.toNat]? = some w := ⟨_, List.getElem?_eq_getElem (by omega)⟩
    obtain ⟨hwS, us, hus, alus⟩ := hww _ _ hw
    have hni : ((node.toNat : Nat) : Int) = node := by omega
    rw [hni] at alus
    refine ⟨_, _, _, rr3.hx, T.c_Flowing, T.n_Flowing_ways, _, rfl, ?_⟩
    refine ixL (sq_l (e3 _ _ hW)) nd0 (map_at hw) ?_
    refine ⟨w, rfl, ⟨_, sq_l (e3 _ _ hus)⟩, ?_⟩
    have hw0 : ∀ {H'}, Ex H H' → ∃ us, SqL K H' w us ∧ Al (fun u p => rWy p H' u) us (waysOf A node) := fun {H'} e => ⟨us, sq_l (e _ _ hus), alus.up e⟩
    refine for_s (f := rWy) (xs := waysOf A node) (G := fun H' => Ex H H') (ws_lst fun H' g => hw0 g) (fun i σ' H' => Ex H H' ∧ ∃ (row' : List Int) (pr' : List Par) (x5 x6 x7 : Option V), σ' = [some (.ref x), some (.ref D), some (.ref R), some (.int ((next : Int) + 1)), some (.int node), x5, x6, x7] ∧ ReD D row' pr' H' ∧ H' R = some (.lst (row'.map V.int)) ∧ Rc N A s row' pr' ∧ row'.take row.length = row ∧ ∀ w ∈ (waysOf A node).take i, 0 < rm A s w → tgt A w ∈ row') ⟨e3, row, pr, _, _, _, rfl, rD3, hR3, Rc3, List.take_length, fun w hw => nomatch hw⟩ (fun _ _ _ _ h => h.1) ?_ ?_
    · rintro i wy vv σ' H4 hi ⟨e4, row', pr', y5, y6, y7, rfl, rD4, hR4, Rc4, hpre, hcw⟩ ⟨b, z1, z2, rfl, hb, h1, h2⟩
      cases h1
      cases h2
      have hwm := List.mem_of_getElem? hi
      obtain ⟨w0, w1, w2, w3⟩ := mem_ways.mp hwm
      have rr4 := rr.ex e4
      obtain ⟨as, has, als⟩ := rr4.ha
      have hlA : wy.1.toNat < A.length := by omega
      obtain ⟨v, hv1, b2, q1, q2, q3, rfl, hvb, r1, r2, r3⟩ := als.get (List.getElem?_eq_getElem hlA)
      cases r1
      cases r2
      cases r3
      have harc : arc A wy.1 = A[wy.1.toNat] := by
        have := arc_at (List.getElem?_eq_getElem hlA)
        rw [show ((wy.1.toNat : Nat) : Int) = wy.1 by omega] at this
        exact this
      have hcap := hAr _ (List.getElem_mem hlA)
      have hnode' : node ∈ row' := List.mem_of_mem_take (by rw [hpre]; exact hnm)
      have hrl' := row_len Rc4.nd Rc4.bd
      have htb : 0 ≤ tgt A wy ∧ tgt A wy < (N : Int) := by
        unfold tgt
        rw [harc]
        split <;> omega
      have hcw2 : ∀ (row2 : List Int), (∀ k ∈ row', k ∈ row2) → (0 < rm A s wy → tgt A wy ∈ row2) → ∀ w ∈ (waysOf A node).take (i + 1), 0 < rm A s w → tgt A w ∈ row2 := fun row2 hsub hlast w' hw' hr' => by
        rw [List.take_add_one, hi] at hw'
        rcases List.mem_append.mp hw' with z | z
        · exact hsub _ (hcw w' z hr')
        · have : w' = wy := by simpa using z
          subst this
          exact hlast hr'
      walk_at "st"
      refine ⟨_, sq_t hb, rfl, _, _, rfl, _, _, rfl, rfl, _, rfl, ?_⟩
      by_cases hsg : 0 < wy.2
      have hq : (A[wy.1.toNat]).2.1 = tgt A wy := by
        unfold tgt
        rw [if_pos hsg, harc]
      rw [if_pos hsg]
      rotate_left
      have hq : (A[wy.1.toNat]).1 = tgt A wy := by
        unfold tgt
        rw [if_neg hsg, harc]
      rw [if_neg hsg]
      all_goals
        refine ⟨_, _, _, rr4.hx, T.c_Flowing, T.n_Flowing_arcs, _, rfl, ?_⟩
        refine ixT (sq_t has) w0 hv1 ?_
        refine ixT (sq_t hvb) (by decide) rfl ?_
        rw [hq]
        obtain ⟨o, hg, hiff⟩ := rD4.get Rc4.len (tgt A wy)
        refine ⟨o, hg, ?_⟩
        by_cases hm : tgt A wy ∈ row'
        · rw [if_neg (by rw [hiff.mpr hm]; decide)]
          exact ⟨e4, row', pr', rD4, hR4, Rc4, hpre, hcw2 row' (fun _ h => h) fun _ => hm⟩
        · have ho : o.isSome = false := by
            cases ho : o.isSome with
            | false => rfl
            | true => exact absurd (hiff.mp ho) hm
          rw [if_pos (by rw [ho]; rfl)]
          refine ⟨dx, _, rr4.hx, rfl, ?_⟩
          refine ⟨_, ⟨x, dx, a, SL, WL, A, N, s, wy, rfl, rr4, hsl, w0, w1, rfl⟩, ?_⟩
          refine ⟨_, rfl, ?_⟩
          by_cases hr : 0 < rm A s wy
          · rw [if_pos hr]
            obtain ⟨vs, hvs, alv⟩ := rD4
            refine ⟨by decide, fun p hp => ?_⟩
            have e5 := Ex.new (o := .tup [V.int node, V.int wy.1, V.int wy.2]) hp
            have hvl : vs.length = row'.length := by rw [alv.len, Rc4.len]
            have hD5 := e5 _ _ hvs
            have hR5 := e5 _ _ hR4
            have alv5 := (alv.up e5).snoc (v := .ref p) (x := some (node, wy.1, wy.2)) ⟨p, _, _, _, rfl, upd_same, rfl, rfl, rfl⟩
            have e45 := e4.tr e5
            generalize upd H4 p (.tup [V.int node, V.int wy.1, V.int wy.2]) = H5 at e5 hD5 hR5 alv5 e45 ⊢
            have hput := DPut.k (k := Sum.inl (tgt A wy)) (v := .ref p) hD5 (szl (by unfold dR; rw [List.length_map, List.length_zip]; omega))
            rw [putK_dR hvl hm] at hput
            have hR6 : (upd H5 D (.dK (dR (row' ++ [tgt A wy]) (vs ++ [.ref p])))) R = some (.lst (row'.map V.int)) := by
              rw [upd_ne nRD]
              exact hR5
            have hD6 : (upd H5 D (.dK (dR (row' ++ [tgt A wy]) (vs ++ [.ref p])))) D = some (.dK (dR (row' ++ [tgt A wy]) (vs ++ [.ref p]))) := upd_same
            have al6 := alv5.upT (Tx.mut (o := .dK (dR (row' ++ [tgt A wy]) (vs ++ [.ref p]))) hD5 (fun xs z => nomatch z))
            have e6 : Ex H (upd H5 D (.dK (dR (row' ++ [tgt A wy]) (vs ++ [.ref p])))) := e45.mut hD
            refine ⟨_, hput, .inl ⟨rfl, _, sq_l hR6⟩, _, hR6, szl (by rw [List.length_map]; omega), e6.mut hRf, row' ++ [tgt A wy], pr' ++ [some (node, wy.1, wy.2)], ⟨vs ++ [.ref p], by rw [upd_ne nRD.symm]; exact hD6, al6.upT (Tx.mut hR6 (fun xs z => nomatch z))⟩, by rw [List.map_append]; exact upd_same, Rc4.snoc hnode' hwm hr htb hm, ?_, hcw2 _ (fun k hk => List.mem_append.mpr (.inl hk)) fun _ => List.mem_append.mpr (.inr (by simp))⟩
            rw [List.take_append_of_le_length, hpre]
            have := congrArg List.length hpre
            rw [List.length_take] at this
            omega
          · rw [if_neg hr]
            exact ⟨e4, row', pr', rD4, hR4, Rc4, hpre, hcw2 row' (fun _ h => h) fun z => absurd z hr⟩
    · rintro σ' H4 ⟨e4, row', pr', y5, y6, y7, rfl, rD4, hR4, Rc4, hpre, hcw⟩
      rw [List.take_length] at hcw
      walk_at "st"
      have hpl : row.length ≤ row'.length := by
        have := congrArg List.length hpre
        rw [List.length_take] at this
        omega
      refine ⟨N - (next + 1), by omega, next + 1, row', pr', some (.int node), y5, y6, y7, rfl, by rw [Int.natCast_add] <;> rfl, e4, rD4, hR4, Rc4, by omega, fun n hn => ?_⟩
      have hsub : ∀ k ∈ row, k ∈ row' := fun k hk => List.mem_of_mem_take (by rw [hpre]; exact hk)
      have ht : row'.take (next + 1) = row.take next ++ [node] := by
        rw [← hpre, List.take_take, Nat.min_eq_left (by omega)]
        have h2 : row'[next]? = some node := by
          rw [← hpre, List.getElem?_take, if_pos hlt] at hnode
          exact hnode
        rw [List.take_add_one, h2] <;> rfl
      rw [ht] at hn
      rcases List.mem_append.mp hn with z | z
      · intro w' hw' hr'
        exact hsub _ (hcl n z w' hw' hr')
      · have : n = node := by simpa using z
        subst this
        exact hcw
  · rw [if_neg (by simpa using c)]
    have : next = row.length := by omega
    subst this
    rw [List.take_length] at hcl
    walk_at "st"
    exact q _ D row pr e3 hD rD3 Rc3 hcl
end Cut
end

section
set_option maxHeartbeats 4000000
namespace Cut
open PySem PySem.Spec L2
local macro_rules | `(tactic| walk_at "rd") => `(tactic| dsimp only [tFor_eq, tLc_eq, tLc2_eq, iTup, iList, iRng1, iRng2, iSeq, RZ.iZipA, iEnum, iZipX, iEnumT, iKeys, tTupZip, tLenSet, gFld_app, tLock, tLockE, tCallN, tTup0F, tAsg, tVar, tC, tCmp, tIsN, tNotN, tB, tAnd, tOr, tNot, tAndV, tOrV, tNotV, tIf, tNext, tSeq, tBreak, tCont, tDrop, tRet, tRetN, tIfS, gName_app, gTup_app, gCons_app, gNil_app, gSub_app, tAsg, tAug, tCall, tMeth, tMake, tCons, tNil, tTup, tLst, tCB, tOp, tUn, tTest, tChain, tFld, sFld, sFldAug, tBM, tBM0, tSl, tPart, tNoPart, tDGet, tDIn, tDNotIn, sDPut, sDAug, tDNewK, tDNewT, tDGet2, L2.rI, L2.rI0, L2.rU, rEq, rNe, t2I, ipI, rAdd, rSub, rAppend, tDc_eq, tAugS, cxOf, Cx.nox, Cx.wish])
local macro_rules | `(tactic| walk_at "ex") => `(tactic| simp only [L2.start, List.map_cons, List.map_nil, List.length_cons, List.length_nil, List.replicate_succ, List.replicate_zero, List.cons_append, List.nil_append, List.append_nil, List.getElem?_cons_zero, List.getElem?_cons_succ, List.set_cons_zero, List.set_cons_succ, L2.wipe, Option.some.injEq, V.int.injEq, V.bl.injEq, V.ref.injEq, V.str.injEq, V.ty.injEq, List.cons.injEq, exists_eq_left', exists_eq_left, exists_eq_right, and_true, true_and, and_self, exists_and_left, exists_and_right, exists_const, and_assoc, exists_eq, exists_eq', eq_self_iff_true, if_true, if_false, Bool.false_eq_true, decide_eq_true_eq, ne_eq, reduceCtorEq, not_false_eq_true, Nat.reduceAdd, Nat.reduceSub, Bool.not_true, Bool.not_false, Option.map_some, Option.map_none, Option.isSome_some, Option.isSome_none, Option.getD_some, Option.getD_none])
local macro_rules | `(tactic| walk_at "st") => `(tactic| ((try walk_at "rd"); (try walk_at "ex")))

/-! ### more is sent -/
def sp_Flowing_send (K : PySem.W.Frag) : Sp := fun vs H Q _ => ∃ (x dx a SL WL D : Addr) (A : List Arc) (N : Nat) (s : List Int) (row : List Int) (pr : List Par) (F : Int), vs = [.ref x, .ref D] ∧ FlR K x dx a SL WL A N s H ∧ A.length ≤ 60000 ∧ N ≤ 1000 ∧ ReD D row pr H ∧ Rc N A s row pr ∧ Fl A s F ∧ (1 : Int) ∈ row ∧
  ∀ H' s' F', But SL H H' → FlR K x dx a SL WL A N s' H' → Fl A s' F' → F < F' → Q .non H'
def SendW (H : Hp) (x D Wa : Addr) (A : List Arc) (s row : List Int) (m : Nat) (σ' : L2.St) (H' : Hp) : Prop := ∃ (way : List (Int × Int)) (node : Int) (x4 x5 x6 : Option V), σ' = [some (.ref x), some (.ref D), some (.ref Wa), some (.int node), x4, x5, x6] ∧ Ex H H' ∧ (∃ us, H' Wa = some (.lst us) ∧ Al (fun u p => rWy p H' u) us way) ∧ Back A s row way m node ∧ (way = [] → node = 1) ∧ way.length + m ≤ row.length
abbrev nN_Flowing_send : List Str := ["self", "reached", "way", "node", "at", "sign", "more"]
theorem sc_Flowing_send : FnScope nN_Flowing_send ["self", "reached"] (defScope s_Flowing_send) := ⟨rfl, rfl, rfl, by decide +kernel, rfl, by decide +kernel, by decide +kernel⟩
theorem ok_Flowing_send {P : Program} {w : World} {K : PySem.W.Frag} {mg : Str → Option Value} {base : Heap} {fd : FuncData} (T : GG K w mg) (F : FunD K "send" "Flowing.send" (defArgs s_Flowing_send) (defBody s_Flowing_send) (defScope s_Flowing_send) [] [] (He.fAd K ("Flowing", some "send")) fd) (m_room : CalM P w K mg base (He.ga K "Flowing") "room" 1 ["self", "at", "sign"] (sp_Flowing_room K)) : CalM P w K mg base (He.ga K "Flowing") "send" 2 ["self", "reached"] (sp_Flowing_send K) := by
  have nd := sc_Flowing_send.nd
  refine calM_of F T.c_Flowing T.e_Flowing_send (fun _ _ _ _ _ _ us hl => match us, hl with | [_, _], _ => rfl) (FunD.ok F sc_Flowing_send (fun vs H Q E h => ?_) (fun cdv A outer s H vs Q E hr h => ?_))
  · obtain ⟨x, dx, a, SL, WL, D, A, N, s, row, pr, F0, rfl, rr, hAl, hN, rD, rc, fl, h1r, q⟩ := h
    rfl
  obtain ⟨x, dx, a, SL, WL, D, A, N, s, row, pr, F0, rfl, rr, hAl, hN, rD, rc, fl, h1r, q⟩ := h
  have hu := hu_of hr
  refine ⟨_, PSs.nox (pss_cons (ps_set (i := 2) nd rfl (Or.inl rfl) (pe_lst pa_nil)) (pss_cons (ps_set (i := 3) nd rfl (Or.inl rfl) (pe_gI T.i_NO_END)) (pss_cons (ps_while PassesOwn.never (pt_cmpR op_notN (pe_dget hu (pv 1) (pv 3) (fun _ _ => rfl)) pe_non (nomark _)) (pss_cons (ps_asg (pe_dget hu (pv 1) (pv 3) (fun _ _ => rfl)) (pg_tupK (n := 3) (K := K) rfl rfl (pgs_cons (pg_name (i := 3) nd rfl (Or.inl rfl)) (pgs_cons (pg_name (i := 4) nd rfl (Or.inl rfl)) (pgs_cons (pg_name (i := 5) nd rfl (Or.inl rfl)) pgs_nil))))) (pss_one (ps_expr (pe_bm PySem.F.plainAttrs_list PySem.F.slot_list_append PySem.F.type_list_append mt_append (pv 2) (pa_cons (pe_tup (pa_cons (pv 4) (pa_cons (pv 5) pa_nil))) pa_nil)))))) (pss_cons (ps_set (i := 6) nd rfl (Or.inl rfl) (pe_b_min T.f_min (cr_min rfl) (pa_cons (pe_lc (own := [("at", 4), ("sign", 5)]) rfl nd (pi_listK (K := K) rfl (pv 2)) (blkOk_by (own := [("at", 4), ("sign", 5)]) (N := nN_Flowing_send) (sc := defScope s_Flowing_send) (by decide +kernel)) (fun _ _ _ _ _ => (pg_tupK (n := 2) (K := K) rfl rfl (pgs_cons (pg_name (i := 4) nd rfl (Or.inl rfl)) (pgs_cons (pg_name (i := 5) nd rfl (Or.inl rfl)) pgs_nil)))) (fun _ _ _ _ _ => pts_nil) (fun _ _ _ _ _ => (pe_calM m_room hr (pv 0) (pa_cons (pv 4) (pa_cons (pv 5) pa_nil))))) pa_nil))) (pss_one (ps_for PassesOwn.never rfl (pi_listK (K := K) rfl (pv 2)) (pg_tupK (n := 2) (K := K) rfl rfl (pgs_cons (pg_name (i := 4) nd rfl (Or.inl rfl)) (pgs_cons (pg_name (i := 5) nd rfl (Or.inl rfl)) pgs_nil))) (pss_one (ps_augS (pe_fldK (K := K) rfl (pv 0) rfl) (pv 4) get_list (pe_op op_mul (pv 5) (pv 6)) ip_add set_list)))))))), ?_⟩
  walk_at "st"
  refine ⟨by decide, fun Wa hWa => ?_⟩
  have e1 := Ex.new (o := .lst []) hWa
  have hWa1 : (upd H Wa (.lst [])) Wa = some (.lst []) := upd_same
  generalize upd H Wa (.lst []) = H1 at e1 hWa1 ⊢
  obtain ⟨j0, hj0⟩ := List.mem_iff_getElem?.mp h1r
  have hj0l := (List.getElem?_eq_some_iff.mp hj0).1
  refine ⟨SendW H x D Wa A s row, ⟨j0, [], 1, _, _, _, rfl, e1, ⟨[], hWa1, .nil⟩, .start hj0, fun _ => rfl, by simpa using Nat.le_of_lt hj0l⟩, ?_⟩
  rintro m σ' H2 ⟨way, node, x4, x5, x6, rfl, e2, ⟨us, hus, alus⟩, bk, hw1, hwl⟩
  have rD2 := rD.ex e2
  have hml := (List.getElem?_eq_some_iff.mp bk.at_).1
  obtain ⟨p, hp⟩ : ∃ p, pr[m]? = some p := ⟨_, List.getElem?_eq_getElem (by rw [rc.len]; exact hml)⟩
  obtain ⟨v, hdg, hrp⟩ := rD2.at_ rc.nd bk.at_ hp
  walk_at "st"
  refine ⟨_, hdg, ?_⟩
  by_cases hm0 : 0 < m
  · obtain ⟨n, w, j, rfl, hj, hjm, hww, htw, hrw⟩ := rc.par m node p bk.at_ hp hm0
    obtain ⟨b, y1, y2, y3, rfl, hb, h1, h2, h3⟩ := hrp
    cases h1
    cases h2
    cases h3
    rw [if_pos (by simp)]
    refine ⟨fun σ' H' => ∃ m' < m, SendW H x D Wa A s row m' σ' H', fun _ _ h => h, ?_⟩
    refine ⟨_, hdg, b, rfl, _, sq_t hb, rfl, _, _, rfl, _, _, rfl, _, _, rfl, rfl, .inl ⟨rfl, us, sq_l hus⟩, by decide, fun t ht => ?_⟩
    have e3 := Ex.new (o := .tup [V.int w.1, V.int w.2]) ht
    have hrl := row_len rc.nd rc.bd
    refine ⟨us, e3 _ _ hus, szl (by have := alus.len; omega), j, hjm, way ++ [w], n, _, _, _, rfl, (e2.tr e3).mut hWa, ⟨us ++ [.ref t], upd_same, ?_⟩, bk.step rc.nd hj hjm hww htw hrw, fun z => by simp at z, by rw [List.length_append, List.length_singleton]; omega⟩
    exact ((alus.up e3).snoc (v := .ref t) (x := w) ⟨t, _, _, rfl, upd_same, rfl, rfl⟩).upT (Tx.mut (e3 _ _ hus) (fun xs z => nomatch z))
  · have hm : m = 0 := by omega
    subst hm
    have hpn := rc.p0
    rw [hp] at hpn
    cases hpn
    cases hrp
    have hr0 := rc.r0
    rw [bk.at_] at hr0
    cases hr0
    have hwne : way ≠ [] := fun z => by have := hw1 z; omega
    rw [if_neg (by simp)]
    have rr2 := rr.ex e2
    refine ⟨⟨_, sq_l hus⟩, ?_⟩
    have hwz : way.length ≤ 1000 := by
      have := row_len rc.nd rc.bd
      omega
    refine lc_map (f := rWy) (xs := way) (rb := rI) (F := rm A s) (wk_lst fun H' g => ⟨us, sq_l (g _ _ hus), alus.up g⟩) (by omega) ?_ ?_ gm_pair
    · rintro i w v H' K1 hi e3 ⟨b, y1, y2, rfl, hb, h1, h2⟩ hK
      cases h1
      cases h2
      obtain ⟨⟨w0, w1⟩, w2, w3⟩ := bk.ok w (List.mem_of_getElem? hi)
      walk_at "st"
      refine ⟨_, sq_t hb, rfl, ?_⟩
      walk_at "st"
      have r3 := rr2.ex e3
      refine ⟨dx, _, r3.hx, rfl, ?_⟩
      exact ⟨_, ⟨x, dx, a, SL, WL, A, N, s, w, rfl, r3, fl.len, w0, w1, rfl⟩, hK _ _ (Ex.rf _) rfl⟩
    · rintro c H3 hc e3 hr3
      obtain ⟨_, ms, hzz, hc3, alm⟩ := hr3
      cases hzz
      rw [al_ints alm] at hc3
      walk_at "st"
      refine ⟨c, way.map (rm A s), rfl, sq_l hc3, by rw [List.length_map]; exact List.length_pos_iff.mpr hwne, fun more hmem hmin => ?_⟩
      have r3 := rr2.ex e3
      have hus3 := e3 _ _ hus
      have alus3 := alus.up e3
      walk_at "st"
      have e03 := e2.tr e3
      have nWS : Wa ≠ SL := (ne_of_none rr.hs hWa).symm
      have zx : ∀ {H'}, But SL H3 H' → Tx H3 H' := fun b => b.tx r3.hs (fun xs z => nomatch z)
      have hsend : ∀ (l : List (Int × Int)) (s : List Int), (l.foldl (sendS more) s).length = s.length := by
        intro l
        induction l with
        | nil => intro s; rfl
        | cons w l ih =>
          intro s
          rw [List.foldl_cons, ih]
          unfold sendS
          rw [List.length_set]
      refine ⟨⟨_, sq_l hus3⟩, ?_⟩
      refine for_s (f := rWy) (xs := way) (G := fun H' => But SL H3 H') (ws_lst fun H' g => ⟨us, sq_l (g _ _ nWS hus3), alus3.upT (zx g)⟩) (fun i σ' H' => But SL H3 H' ∧ ∃ y4 y5, σ' = [some (.ref x), some (.ref D), some (.ref Wa), some (.int 0), y4, y5, some (.int more)] ∧ H' SL = some (.lst (((way.take i).foldl (sendS more) s).map V.int))) ⟨But.rf _ _, _, _, rfl, r3.hs⟩ (fun _ _ _ _ h => h.1) ?_ ?_
      · rintro i w v σ' H4 hi ⟨b4, y4, y5, rfl, hs4⟩ ⟨b, z1, z2, rfl, hb, h1, h2⟩
        cases h1
        cases h2
        obtain ⟨⟨w0, w1⟩, w2, w3⟩ := bk.ok w (List.mem_of_getElem? hi)
        rw [fold_take _ _ hi]
        have hsl := hsend (way.take i) s
        rw [fl.len] at hsl
        generalize (way.take i).foldl (sendS more) s = si at hs4 hsl ⊢
        have hlt : w.1.toNat < si.length := by omega
        have hg : si[w.1.toNat]? = some (si.getD w.1.toNat 0) := by
          rw [List.getD_eq_getElem?_getD, List.getElem?_eq_getElem hlt] <;> rfl
        have r4 := r3.but b4 hs4
        walk_at "st"
        refine ⟨_, sq_t hb, rfl, _, _, rfl, _, _, rfl, rfl, ?_⟩
        refine ⟨_, _, _, r4.hx, T.c_Flowing, T.n_Flowing_sent, _, rfl, ?_⟩
        refine ⟨SL, _, w.1, _, rfl, rfl, sq_l hs4, atI_at w0 (map_at hg), w.2, rfl, .inl (by rcases w2 with z | z <;> rw [z] <;> decide), _, rfl, ?_⟩
        refine ⟨SL, _, w.1, w.1.toNat, rfl, rfl, hs4, ?_, b4.tr But.mut, ?_⟩
        · unfold ixN
          rw [if_pos w0, if_pos (by rw [List.length_map]; omega)]
        · rw [upd_same]
          unfold sendS
          rw [List.map_set]
      · rintro σ' H4 ⟨b4, y4, y5, rfl, hs4⟩
        rw [List.take_length] at hs4
        walk_at "st"
        obtain ⟨w0, hw0, rfl⟩ := List.mem_map.mp hmem
        have hpos := (bk.ok w0 hw0).2.2
        refine q _ _ (F0 + rm A s w0) (e03.but.tr b4) (r3.but b4 hs4) (send_fl fl (fun w hw => ⟨(bk.ok w hw).1, (bk.ok w hw).2.1, hmin _ (List.mem_map.mpr ⟨w, hw, rfl⟩)⟩) bk.dist (by omega) fun y y0 y1 => ?_) (by omega)
        rw [bk.tele y, y0, y1] <;> rfl
/-! ### until no way is left -/
def sp_Flowing_fill (K : PySem.W.Frag) : Sp := fun vs H Q _ => ∃ (x dx a SL WL : Addr) (A : List Arc) (N : Nat) (s : List Int) (F : Int), vs = [.ref x] ∧ FlR K x dx a SL WL A N s H ∧ A.length ≤ 60000 ∧ 2 ≤ N ∧ N ≤ 1000 ∧ (∀ c ∈ A, 0 ≤ c.1 ∧ c.1 < (N : Int) ∧ 0 ≤ c.2.1 ∧ c.2.1 < (N : Int)) ∧ Fl A s F ∧
  ∀ H' D row pr s' F', But SL H H' → ReD D row pr H' → Rc N A s' row pr → Fl A s' F' → (1 : Int) ∉ row → ClosedAll A s' row → Q (.ref D) H'
def FillW (K : PySem.W.Frag) (H : Hp) (x dx a SL WL : Addr) (A : List Arc) (N : Nat) (B : Int) (m : Nat) (σ' : L2.St) (H' : Hp) : Prop := ∃ (D : Addr) (row : List Int) (pr : List Par) (s' : List Int) (F' : Int), σ' = [some (.ref x), some (.ref D)] ∧ (m : Int) = B - F' ∧ But SL H H' ∧ FlR K x dx a SL WL A N s' H' ∧ ReD D row pr H' ∧ Rc N A s' row pr ∧ Fl A s' F' ∧ ClosedAll A s' row
abbrev nN_Flowing_fill : List Str := ["self", "reached"]
theorem sc_Flowing_fill : FnScope nN_Flowing_fill ["self"] (defScope s_Flowing_fill) := ⟨rfl, rfl, rfl, by decide +kernel, rfl, by decide +kernel, by decide +kernel⟩
theorem ok_Flowing_fill {P : Program} {w : World} {K : PySem.W.Frag} {mg : Str → Option Value} {base : Heap} {fd : FuncData} (T : GG K w mg) (F : FunD K "fill" "Flowing.fill" (defArgs s_Flowing_fill) (defBody s_Flowing_fill) (defScope s_Flowing_fill) [] [] (He.fAd K ("Flowing", some "fill")) fd) (m_walk : CalM P w K mg base (He.ga K "Flowing") "walk" 2 ["self"] (sp_Flowing_walk K)) (m_send : CalM P w K mg base (He.ga K "Flowing") "send" 2 ["self", "reached"] (sp_Flowing_send K)) : CalM P w K mg base (He.ga K "Flowing") "fill" 3 ["self"] (sp_Flowing_fill K) := by
  have nd := sc_Flowing_fill.nd
  refine calM_of F T.c_Flowing T.e_Flowing_fill (fun _ _ _ _ _ _ us hl => match us, hl with | [_], _ => rfl) (FunD.ok F sc_Flowing_fill (fun vs H Q E h => ?_) (fun cdv A outer s H vs Q E hr h => ?_))
  · obtain ⟨x, dx, a, SL, WL, A, N, s, F0, rfl, rr, hAl, hN2, hN, hAr, fl, q⟩ := h
    rfl
  obtain ⟨x, dx, a, SL, WL, A, N, s, F0, rfl, rr, hAl, hN2, hN, hAr, fl, q⟩ := h
  have hu := hu_of hr
  refine ⟨_, PSs.nox (pss_cons (ps_set (i := 1) nd rfl (Or.inl rfl) (pe_calM0 m_walk hr (pv 0))) (pss_cons (ps_while PassesOwn.never (pt_cmp (pc_din hu (pe_gI T.i_NO_END) (pv 1)) rfl) (pss_cons (ps_expr (pe_calM m_send hr (pv 0) (pa_cons (pv 1) pa_nil))) (pss_one (ps_set (i := 1) nd rfl (Or.inl rfl) (pe_calM0 m_walk hr (pv 0)))))) (pss_one (ps_ret (pv 1))))), ?_⟩
  walk_at "st"
  refine ⟨dx, _, rr.hx, rfl, ?_⟩
  have cutb : ∀ {s' : List Int} {F' : Int}, Fl A s' F' → F' ≤ CW A (fun k => decide (k = 0)) := fun f => by
    rw [← f.net (fun k => decide (k = 0)) rfl rfl]
    exact net_le f.len f.bd _
  refine ⟨x, dx, a, SL, WL, A, N, s, rfl, rr, fl.len, hAl, by omega, hN, hAr, fun H1 D row pr e1 fD rD rc cl => ?_⟩
  have hb := cutb fl
  refine ⟨FillW K H x dx a SL WL A N (CW A (fun k => decide (k = 0))), ⟨(CW A (fun k => decide (k = 0)) - F0).toNat, D, row, pr, s, F0, rfl, by omega, e1.but, rr.ex e1, rD, rc, fl, cl⟩, ?_⟩
  rintro m σ' H2 ⟨D2, row2, pr2, s2, F2, rfl, hm, b2', r2, rD2, rc2, fl2, cl2⟩
  walk_at "st"
  obtain ⟨o, hg, hiff⟩ := rD2.get rc2.len 1
  refine ⟨o, hg, ?_⟩
  by_cases h1 : (1 : Int) ∈ row2
  · rw [if_pos (hiff.mpr h1)]
    refine ⟨fun σ' H' => ∃ m' < m, FillW K H x dx a SL WL A N (CW A (fun k => decide (k = 0))) m' σ' H', fun _ _ h => h, ?_⟩
    walk_at "st"
    refine ⟨dx, _, r2.hx, rfl, ?_⟩
    refine ⟨x, dx, a, SL, WL, D2, A, N, s2, row2, pr2, F2, rfl, r2, hAl, hN, rD2, rc2, fl2, h1, fun H3 s3 F3 b3 r3 fl3 hF => ?_⟩
    have hb3 := cutb fl3
    refine ⟨dx, _, r3.hx, rfl, ?_⟩
    refine ⟨x, dx, a, SL, WL, A, N, s3, rfl, r3, fl3.len, hAl, by omega, hN, hAr, fun H4 D4 row4 pr4 e4 fD4 rD4 rc4 cl4 => ?_⟩
    exact ⟨(CW A (fun k => decide (k = 0)) - F3).toNat, by omega, D4, row4, pr4, s3, F3, rfl, by omega, (b2'.tr b3).tr e4.but, r3.ex e4, rD4, rc4, fl3, cl4⟩
  · rw [if_neg (fun z => h1 (hiff.mp z))]
    walk_at "st"
    exact q _ D2 row2 pr2 s2 F2 b2' rD2 rc2 fl2 h1 cl2
/-! ### the least side -/
def SideOk (A : List Arc) (N : Nat) (y : Int → Bool) : Prop := y 0 = true ∧ y 1 = false ∧ ∀ z : Int → Bool, z 0 = true → z 1 = false → CW A y ≤ CW A z
def rSd (A : List Arc) (N : Nat) : Rp := fun H v => ∃ y : Int → Bool, SideOk A N y ∧ rIs ((List.range N).map fun (k : Nat) => if y (k : Int) = true then 1 else 0) H v
instance (A : List Arc) (N : Nat) : Im (rSd A N) := ⟨fun e ⟨y, h1, h2⟩ => ⟨y, h1, Im.upT e h2⟩⟩
def sp_least_side (K : PySem.W.Frag) : Sp := PSp fun vs H R => ∃ (v : V) (N : Nat) (b : Int) (A : List Arc), vs = [v] ∧ r3 (rI (N : Int)) (rI b) (rTu rAr A) H v ∧ A.length ≤ 60000 ∧ 2 ≤ N ∧ N ≤ 1000 ∧ (∀ c ∈ A, 0 ≤ c.1 ∧ c.1 < (N : Int) ∧ 0 ≤ c.2.1 ∧ c.2.1 < (N : Int) ∧ 0 < c.2.2) ∧ R = rSd A N
abbrev nN_least_side : List Str := ["network", "reached", "node"]
theorem sc_least_side : FnScope nN_least_side ["network"] (defScope s_least_side) := ⟨rfl, rfl, rfl, by decide +kernel, rfl, by decide +kernel, by decide +kernel⟩
theorem ok_least_side {P : Program} {w : World} {K : PySem.W.Frag} {mg : Str → Option Value} {base : Heap} {fd : FuncData} (T : GG K w mg) (F : FunD K "least_side" "least_side" (defArgs s_least_side) (defBody s_least_side) (defScope s_least_side) [] [] (He.fAd K ("least_side", none)) fd) (m_fill : CalM P w K mg base (He.ga K "Flowing") "fill" 3 ["self"] (sp_Flowing_fill K)) (c_Flowing : CalC P w K mg base "Flowing" (He.ga K "Flowing") 1 ["self", "network"] (sp_Flowing_init K)) : Cal P w K mg base "least_side" 4 ["network"] (sp_least_side K) := by
  have nd := sc_least_side.nd
  refine cal_of F T.g_least_side (fun _ _ _ _ _ _ us hl => match us, hl with | [_], _ => rfl) (FunD.ok F sc_least_side (fun vs H Q E h => ?_) (fun cdv A outer s H vs Q E hr h => ?_))
  · obtain ⟨_, ⟨v, N, b, A, rfl, hv, hAl, hN2, hN, hAr, rfl⟩, q⟩ := h
    rfl
  obtain ⟨_, ⟨v, N, b, A, rfl, hv, hAl, hN2, hN, hAr, rfl⟩, q⟩ := h
  have hu := hu_of hr
  refine ⟨_, PSs.nox (pss_cons (ps_set (i := 1) nd rfl (Or.inr rfl) (pe_calM0 m_fill hr (pe_calC c_Flowing hr (pa_cons (pv 0) pa_nil)))) (pss_one (ps_ret (pe_b_tuple T.f_tuple call_tuple_of (pa_cons (pe_lc (own := [("node", 2)]) rfl nd (pi_range1 rfl T.f_range (pa_cons (pe_ix (ix_tupK (K := K) rfl) (pv 0) pe_int (fun _ _ => rfl)) pa_nil)) (blkOk_by (own := [("node", 2)]) (N := nN_least_side) (sc := defScope s_least_side) (by decide +kernel)) (fun _ _ _ _ _ => (pg_name (i := 2) nd rfl (Or.inl rfl))) (fun _ _ _ _ _ => pts_nil) (fun _ _ _ _ _ => (pe_b_int T.f_int call_int1 (pa_cons (pe_cmp (pc_din hu (pv 2) (pv 1)) rfl) pa_nil)))) pa_nil))))), ?_⟩
  walk_at "st"
  intro x dx nx ndx ne
  have e0 : Ex H (upd (upd H dx (.own x)) x (.ins (He.ga K "Flowing") dx [])) := fun b o h => by
    rw [upd_ne (ne_of_none h nx), upd_ne (ne_of_none h ndx)]
    exact h
  have hx : (upd (upd H dx (.own x)) x (.ins (He.ga K "Flowing") dx [])) x = some (.ins (He.ga K "Flowing") dx []) := upd_same
  generalize upd (upd H dx (.own x)) x (.ins (He.ga K "Flowing") dx []) = H1 at e0 hx ⊢
  have hv1 := Mo.up e0 hv
  refine ⟨x, dx, v, N, b, A, rfl, hx, hv1, hAl, hN, fun c hc => by have := hAr c hc; omega, fun H2 a SL WL b2' fSL r2 => ⟨rfl, dx, _, r2.hx, rfl, ?_⟩⟩
  refine ⟨x, dx, a, SL, WL, A, N, _, 0, rfl, r2, hAl, hN2, hN, fun c hc => by have := hAr c hc; omega, zero_fl A (fun c hc => (hAr c hc).2.2.2.2), fun H3 D row pr s' F' b3 rD rc fl h1 cl => ?_⟩
  have e2 : Ex H H2 := b2'.ex e0 nx
  have e3 : Ex H H3 := But.ex e2 b3 (e0.back fSL)
  have hv3 := Mo.up e3 hv
  obtain ⟨v0, y1, y2, y3, rfl, hv0, g1, g2, g3⟩ := hv3
  cases g1
  cases g2
  obtain ⟨f1, f2⟩ := cut_full fl (List.mem_of_getElem? rc.r0) h1 cl
  walk_at "st"
  refine ixT (sq_t hv0) (by decide) rfl ?_
  refine ⟨_, rfl, by omega, by omega, ?_⟩
  rw [Int.toNat_natCast]
  refine lc_mapN (f := fun (k : Nat) => rI (k : Int)) (xs := List.range N) (rb := rI) (F := fun (k : Nat) => if decide ((k : Int) ∈ row) = true then 1 else 0) wk_rng0 (by rw [List.length_range]; omega) (fun _ => rfl) ?_ ?_
  · rintro i k v H' K1 hi e4 hv hK
    cases hv
    walk_at "st"
    obtain ⟨o, hg, hiff⟩ := (rD.ex e4).get rc.len (k : Int)
    refine ⟨o, hg, ?_⟩
    refine .inr (hK _ _ (Ex.rf _) ?_)
    have : o.isSome = decide ((k : Int) ∈ row) := by
      rw [Bool.eq_iff_iff, decide_eq_true_eq]
      exact hiff
    show V.int _ = V.int _
    rw [this]
  · rintro p H4 hp e4 hr4
    refine tup_done hr4 (Ex.rf _) fun v H5 e5 h5 => q _ _ ((e3.tr e4).tr e5) ⟨fun k => decide (k ∈ row), ⟨decide_eq_true (List.mem_of_getElem? rc.r0), decide_eq_false h1, fun z z0 z1 => ?_⟩, h5⟩
    rw [f1]
    exact f2 z z0 z1
end Cut
end

section
set_option maxHeartbeats 4000000
namespace Cut
open PySem PySem.Spec L2
local macro_rules | `(tactic| walk_at "rd") => `(tactic| dsimp only [tFor_eq, tLc_eq, tLc2_eq, iTup, iList, iRng1, iRng2, iSeq, RZ.iZipA, iEnum, iZipX, iEnumT, iKeys, tTupZip, tLenSet, gFld_app, tLock, tLockE, tCallN, tTup0F, tAsg, tVar, tC, tCmp, tIsN, tNotN, tB, tAnd, tOr, tNot, tAndV, tOrV, tNotV, tIf, tNext, tSeq, tBreak, tCont, tDrop, tRet, tRetN, tIfS, gName_app, gTup_app, gCons_app, gNil_app, gSub_app, tAsg, tAug, tCall, tMeth, tMake, tCons, tNil, tTup, tLst, tCB, tOp, tUn, tTest, tChain, tFld, sFld, sFldAug, tBM, tBM0, tSl, tPart, tNoPart, tDGet, tDIn, tDNotIn, sDPut, sDAug, tDNewK, tDNewT, tDGet2, L2.rI, L2.rI0, L2.rU, rEq, rNe, t2I, ipI, rAdd, rSub, rAppend, tDc_eq, tAugS, cxOf, Cx.nox, Cx.wish])
local macro_rules | `(tactic| walk_at "ex") => `(tactic| simp only [L2.start, List.map_cons, List.map_nil, List.length_cons, List.length_nil, List.replicate_succ, List.replicate_zero, List.cons_append, List.nil_append, List.append_nil, List.getElem?_cons_zero, List.getElem?_cons_succ, List.set_cons_zero, List.set_cons_succ, L2.wipe, Option.some.injEq, V.int.injEq, V.bl.injEq, V.ref.injEq, V.str.injEq, V.ty.injEq, List.cons.injEq, exists_eq_left', exists_eq_left, exists_eq_right, and_true, true_and, and_self, exists_and_left, exists_and_right, exists_const, and_assoc, exists_eq, exists_eq', eq_self_iff_true, if_true, if_false, Bool.false_eq_true, decide_eq_true_eq, ne_eq, reduceCtorEq, not_false_eq_true, Nat.reduceAdd, Nat.reduceSub, Bool.not_true, Bool.not_false, Option.map_some, Option.map_none, Option.isSome_some, Option.isSome_none, Option.getD_some, Option.getD_none])
local macro_rules | `(tactic| walk_at "st") => `(tactic| ((try walk_at "rd"); (try walk_at "ex")))

/-! ### fillings of a start -/
def fillR (st : List (Int × Int)) (n : Nat) (g : Int → Int) : List Int := (List.range n).map fun (k : Nat) => (gt st (k : Int)).getD (g (k : Int))
def IsMin (z : Pz) (st : List (Int × Int)) (m : Int) : Prop := (∃ r, Row r z.n ∧ Keeps st (on r) ∧ total z r = m) ∧ ∀ r, Row r z.n → Keeps st (on r) → m ≤ total z r
theorem fillR_at {st : List (Int × Int)} {n : Nat} {g : Int → Int} {l : Int} (h0 : 0 ≤ l) (h1 : l < (n : Int)) : (fillR st n g).getD l.toNat 0 = (gt st l).getD (g l) := by
  unfold fillR
  rw [List.getD_eq_getElem?_getD, List.getElem?_map, List.getElem?_range (by omega)]
  show (gt st ((l.toNat : Nat) : Int)).getD _ = _
  rw [show ((l.toNat : Nat) : Int) = l by omega]
theorem st_gt {n : Nat} {st : List (Int × Int)} (h : StOk n st) {p : Int × Int} (hp : p ∈ st) : gt st p.1 = some p.2 := gt_of_mem (st_nodup h) (show (p.1, p.2) ∈ st from hp)
theorem fillR_row {n : Nat} {st : List (Int × Int)} (h : StOk n st) {g : Int → Int} (hg : ∀ k, g k = 0 ∨ g k = 1) : Row (fillR st n g) n := by
  refine ⟨by unfold fillR; rw [List.length_map, List.length_range], fun v hv => ?_⟩
  obtain ⟨k, hk, rfl⟩ := List.mem_map.mp hv
  cases hgt : gt st (k : Int) with
  | none => exact hg _
  | some u => exact (h.2 _ (gt_mem hgt)).2.2
theorem fillR_keeps {n : Nat} {st : List (Int × Int)} (h : StOk n st) (g : Int → Int) : Keeps st (on (fillR st n g)) := fun p hp => by
  obtain ⟨h0, h1, h2⟩ := h.2 p hp
  unfold on
  rw [fillR_at h0 h1, st_gt h hp] <;> rfl
def sp_filled_with (K : PySem.W.Frag) : Sp := PSp fun vs H R => ∃ (x y : V) (z : Pz) (st : List (Int × Int)) (v : Int), vs = [x, y, .int v] ∧ rPz K z H x ∧ z.n ≤ 8 ∧ rFr rPp st H y ∧ StOk z.n st ∧ R = rIs (fillR st z.n fun _ => v)
theorem getD_dk (st : List (Int × Int)) (k v : Int) : ((gt st k).map V.int).getD (.int v) = .int ((gt st k).getD v) := by
  cases gt st k <;> rfl
abbrev nN_filled_with : List Str := ["puzzle", "start", "value", "fixed", "cell"]
theorem sc_filled_with : FnScope nN_filled_with ["puzzle", "start", "value"] (defScope s_filled_with) := ⟨rfl, rfl, rfl, by decide +kernel, rfl, by decide +kernel, by decide +kernel⟩
theorem ok_filled_with {P : Program} {w : World} {K : PySem.W.Frag} {mg : Str → Option Value} {base : Heap} {fd : FuncData} (T : GG K w mg) (F : FunD K "filled_with" "filled_with" (defArgs s_filled_with) (defBody s_filled_with) (defScope s_filled_with) [] [] (He.fAd K ("filled_with", none)) fd)  : Cal P w K mg base "filled_with" 1 ["puzzle", "start", "value"] (sp_filled_with K) := by
  have nd := sc_filled_with.nd
  refine cal_of F T.g_filled_with (fun _ _ _ _ _ _ us hl => match us, hl with | [_, _, _], _ => rfl) (FunD.ok F sc_filled_with (fun vs H Q E h => ?_) (fun cdv A outer s H vs Q E hr h => ?_))
  · obtain ⟨_, ⟨x, y, z, st, v, rfl, hx, hn, hy, hst, rfl⟩, q⟩ := h
    rfl
  obtain ⟨_, ⟨x, y, z, st, v, rfl, hx, hn, hy, hst, rfl⟩, q⟩ := h
  have hu := hu_of hr
  refine ⟨_, PSs.nox (pss_cons (ps_set (i := 3) nd rfl (Or.inr rfl) (pe_b_dict T.f_dict (call_dictT rfl) (pa_cons (pv 1) pa_nil))) (pss_one (ps_ret (pe_b_tuple T.f_tuple call_tuple_of (pa_cons (pe_lc (own := [("cell", 4)]) rfl nd (pi_range1 rfl T.f_range (pa_cons (pe_fldK (K := K) rfl (pv 0) rfl) pa_nil)) (blkOk_by (own := [("cell", 4)]) (N := nN_filled_with) (sc := defScope s_filled_with) (by decide +kernel)) (fun _ _ _ _ _ => (pg_name (i := 4) nd rfl (Or.inl rfl))) (fun _ _ _ _ _ => pts_nil) (fun _ _ _ _ _ => (pe_dget2 hu (pv 3) (pv 4) (pv 2) ⟨rfl, rfl, rfl, rfl⟩))) pa_nil))))), ?_⟩
  obtain ⟨o, dx, bk, ti, rfl, ho, hbk, hti⟩ := hx
  obtain ⟨a, ob, ss, rfl, ha, hd, als⟩ := hy
  walk_at "st"
  obtain ⟨qs, e1, p1⟩ := paired_st (K := K) als
  refine ⟨qs, ⟨ob, by rw [← e1]; exact ha, hd⟩, dk st, p1, fun F hF => ?_⟩
  have em : mergeK [] (dk st) = dk st := mergeK_dk st [] (by simpa using st_nodup hst)
  rw [em]
  have f1 := Ex.new (o := .dK (dk st)) hF
  have hF1 : (upd H F (.dK (dk st))) F = some (.dK (dk st)) := upd_same
  generalize upd H F (.dK (dk st)) = H1 at f1 hF1 ⊢
  refine ⟨_, _, _, f1 _ _ ho, T.c_Puzzle, T.n_Puzzle_cell_count, _, rfl, _, rfl, by omega, by omega, ?_⟩
  rw [Int.toNat_natCast]
  refine lc_mapN (f := fun (k : Nat) => rI (k : Int)) (xs := List.range z.n) (rb := rI) (F := fun (k : Nat) => (gt st (k : Int)).getD v) wk_rng0 (by rw [List.length_range]; omega) (fun _ => rfl) ?_ ?_
  · rintro i k w H' K1 hi e4 hv hK
    cases hv
    walk_at "st"
    refine ⟨.inl ⟨_, .inl (e4 _ _ hF1)⟩, _, dget_k (e4 _ _ hF1) _, ?_⟩
    rw [getD_dk]
    exact hK _ _ (Ex.rf _) rfl
  · rintro p H4 hp e4 hr4
    exact tup_done hr4 (Ex.rf _) fun v H5 e5 h5 => q _ _ ((f1.tr e4).tr e5) h5
/-! ### the bent network -/
def rBn (z : Pz) (st : List (Int × Int)) : Rp := fun H v => ∃ t, SumOf z st t ∧ if bentB t = true then rNw z.n t H v else v = .non
def sp_bent_network (K : PySem.W.Frag) : Sp := PSp fun vs H R => ∃ (x y : V) (z : Pz) (st : List (Int × Int)), vs = [x, y] ∧ rPz K z H x ∧ PzOk z ∧ rFr rPp st H y ∧ StOk z.n st ∧ R = rBn z st
abbrev nN_bent_network : List Str := ["puzzle", "start", "told"]
theorem sc_bent_network : FnScope nN_bent_network ["puzzle", "start"] (defScope s_bent_network) := ⟨rfl, rfl, rfl, by decide +kernel, rfl, by decide +kernel, by decide +kernel⟩
theorem ok_bent_network {P : Program} {w : World} {K : PySem.W.Frag} {mg : Str → Option Value} {base : Heap} {fd : FuncData} (T : GG K w mg) (F : FunD K "bent_network" "bent_network" (defArgs s_bent_network) (defBody s_bent_network) (defScope s_bent_network) [] [] (He.fAd K ("bent_network", none)) fd) (c_is_bent : Cal P w K mg base "is_bent" 2 ["told"] (sp_is_bent K)) (c_network_of : Cal P w K mg base "network_of" 4 ["told", "letter_count"] (sp_network_of K)) (c_sum_of : Cal P w K mg base "sum_of" 6 ["puzzle", "start"] (sp_sum_of K)) : Cal P w K mg base "bent_network" 7 ["puzzle", "start"] (sp_bent_network K) := by
  have nd := sc_bent_network.nd
  refine cal_of F T.g_bent_network (fun _ _ _ _ _ _ us hl => match us, hl with | [_, _], _ => rfl) (FunD.ok F sc_bent_network (fun vs H Q E h => ?_) (fun cdv A outer s H vs Q E hr h => ?_))
  · obtain ⟨_, ⟨x, y, z, st, rfl, hx, hz, hy, hst, rfl⟩, q⟩ := h
    rfl
  obtain ⟨_, ⟨x, y, z, st, rfl, hx, hz, hy, hst, rfl⟩, q⟩ := h
  have hu := hu_of hr
  refine ⟨_, PSs.nox (pss_cons (ps_set (i := 2) nd rfl (Or.inl rfl) (pe_cal c_sum_of hr (pa_cons (pv 0) (pa_cons (pv 1) pa_nil)))) (pss_one (ps_ret (pe_ifExp (pt_val (pe_cal c_is_bent hr (pa_cons (pv 2) pa_nil))) (pe_cal c_network_of hr (pa_cons (pv 2) (pa_cons (pe_fldK (K := K) rfl (pv 0) rfl) pa_nil))) pe_non)))), ?_⟩
  obtain ⟨o, dx, bk, ti, rfl, ho, hbk, hti⟩ := id hx
  walk_at "st"
  refine ⟨_, ⟨_, y, z, st, rfl, hx, hz, hy, hst, rfl⟩, fun v H1 e1 hv => ?_⟩
  obtain ⟨t, ht, hv⟩ := hv
  walk_at "st"
  refine ⟨_, ⟨v, t, rfl, hv, ht.2.2.2, fun e he => by have := (ht.1.2 e he).2.2.2; omega, rfl⟩, fun w H2 e2 hw => ?_⟩
  cases hw
  walk_at "st"
  by_cases hb : bentB t = true
  · rw [if_pos hb]
    have e12 := e1.tr e2
    refine ⟨_, _, _, e12 _ _ ho, T.c_Puzzle, T.n_Puzzle_cell_count, _, rfl, ?_⟩
    refine ⟨_, ⟨v, z.n, t, rfl, Mo.up e2 hv, ht.1, hb, ht.2.2.2, hz.2.1, rfl⟩, fun w H3 e3 hw => q _ _ (e12.tr e3) ⟨t, ht, ?_⟩⟩
    rw [if_pos hb]
    exact hw
  · rw [if_neg hb]
    refine q _ _ (e1.tr e2) ⟨t, ht, ?_⟩
    rw [if_neg hb]
/-! ### the least side's filling -/
def rFb (z : Pz) (st : List (Int × Int)) : Rp := fun H v => ∃ f, Row f z.n ∧ IsMin z st (total z f) ∧ rIs f H v
theorem side_min {z : Pz} {st : List (Int × Int)} {t : Told} {N : Nat} {b : Int} {A : List Arc} {y : Int → Bool} (hst : StOk z.n st) (ht : SumOf z st t) (hn : NetOk z.n t N b A) (hs : SideOk A N y) :
    Row (fillR st z.n fun k => if y (2 + k) = true then 1 else 0) z.n ∧ IsMin z st (total z (fillR st z.n fun k => if y (2 + k) = true then 1 else 0)) := by
  have hr := fillR_row (n := z.n) hst (g := fun k => if y (2 + k) = true then 1 else 0) fun k => by by_cases h : y (2 + k) = true <;> simp [h]
  have hk := fillR_keeps (n := z.n) hst fun k => if y (2 + k) = true then 1 else 0
  have tot : ∀ r, Row r z.n → Keeps st (on r) → total z r = WW t (on r) := fun r hr hk => by
    rw [ht.2.2.1 (on r) hk, on_rowOf hr]
  refine ⟨hr, ⟨_, hr, hk, rfl⟩, fun r hr' hk' => ?_⟩
  rw [tot _ hr hk, tot r hr' hk']
  have h1 : WW t (on (fillR st z.n fun k => if y (2 + k) = true then 1 else 0)) = WW t fun l => y (2 + l) := WW_congr fun e he l hl => by
    have := (ht.1.2 e he).2.2.1 l hl
    unfold on
    rw [fillR_at this.1 this.2, ht.2.1 e he l hl]
    show decide ((if y (2 + l) = true then (1 : Int) else 0) = 1) = y (2 + l)
    cases y (2 + l) <;> rfl
  rw [h1]
  obtain ⟨y2, q0, q1, _, q3⟩ := hn.eq (on r)
  have := hn.ge y hs.1 hs.2.1
  have := hs.2.2 y2 q0 q1
  omega
def sp_filling_by_side (K : PySem.W.Frag) : Sp := PSp fun vs H R => ∃ (x y v : V) (z : Pz) (st : List (Int × Int)) (t : Told), vs = [x, y, v] ∧ rPz K z H x ∧ PzOk z ∧ rFr rPp st H y ∧ StOk z.n st ∧ SumOf z st t ∧ rNw z.n t H v ∧ R = rFb z st
abbrev nN_filling_by_side : List Str := ["puzzle", "start", "network", "values", "fixed", "cell"]
theorem sc_filling_by_side : FnScope nN_filling_by_side ["puzzle", "start", "network"] (defScope s_filling_by_side) := ⟨rfl, rfl, rfl, by decide +kernel, rfl, by decide +kernel, by decide +kernel⟩
theorem ok_filling_by_side {P : Program} {w : World} {K : PySem.W.Frag} {mg : Str → Option Value} {base : Heap} {fd : FuncData} (T : GG K w mg) (F : FunD K "filling_by_side" "filling_by_side" (defArgs s_filling_by_side) (defBody s_filling_by_side) (defScope s_filling_by_side) [] [] (He.fAd K ("filling_by_side", none)) fd) (c_least_side : Cal P w K mg base "least_side" 4 ["network"] (sp_least_side K)) : Cal P w K mg base "filling_by_side" 5 ["puzzle", "start", "network"] (sp_filling_by_side K) := by
  have nd := sc_filling_by_side.nd
  refine cal_of F T.g_filling_by_side (fun _ _ _ _ _ _ us hl => match us, hl with | [_, _, _], _ => rfl) (FunD.ok F sc_filling_by_side (fun vs H Q E h => ?_) (fun cdv A outer s H vs Q E hr h => ?_))
  · obtain ⟨_, ⟨x, y, v, z, st, t, rfl, hx, hz, hy, hst, ht, ⟨N, b, A, hn, hN, hA, hv⟩, rfl⟩, q⟩ := h
    rfl
  obtain ⟨_, ⟨x, y, v, z, st, t, rfl, hx, hz, hy, hst, ht, ⟨N, b, A, hn, hN, hA, hv⟩, rfl⟩, q⟩ := h
  have hu := hu_of hr
  refine ⟨_, PSs.nox (pss_cons (ps_set (i := 3) nd rfl (Or.inr rfl) (pe_cal c_least_side hr (pa_cons (pv 2) pa_nil))) (pss_cons (ps_set (i := 4) nd rfl (Or.inr rfl) (pe_b_dict T.f_dict (call_dictT rfl) (pa_cons (pv 1) pa_nil))) (pss_one (ps_ret (pe_b_tuple T.f_tuple call_tuple_of (pa_cons (pe_lc (own := [("cell", 5)]) rfl nd (pi_range1 rfl T.f_range (pa_cons (pe_fldK (K := K) rfl (pv 0) rfl) pa_nil)) (blkOk_by (own := [("cell", 5)]) (N := nN_filling_by_side) (sc := defScope s_filling_by_side) (by decide +kernel)) (fun _ _ _ _ _ => (pg_name (i := 5) nd rfl (Or.inl rfl))) (fun _ _ _ _ _ => pts_nil) (fun _ _ _ _ _ => (pe_dget2 hu (pv 4) (pv 5) (pe_ix (ix_tupK (K := K) rfl) (pv 3) (pe_op op_add pe_int (pv 5)) (fun _ _ => rfl)) ⟨rfl, rfl, rfl, rfl⟩))) pa_nil)))))), ?_⟩
  walk_at "st"
  have hnn := hn.hN
  refine ⟨_, ⟨v, N, b, A, rfl, hv, hA, by omega, hN, hn.ka, rfl⟩, fun w H1 e1 hw => ?_⟩
  obtain ⟨yy, hs, hw⟩ := hw
  obtain ⟨c, rfl, hc⟩ := hw.of
  have hx1 := Mo.up e1 hx
  have hy1 := Mo.up e1 hy
  obtain ⟨o, dx, bk, ti, rfl, ho, hbk, hti⟩ := hx1
  obtain ⟨a, ob, ss, rfl, ha, hd, als⟩ := hy1
  walk_at "st"
  obtain ⟨qs, e1', p1⟩ := paired_st (K := K) als
  refine ⟨qs, ⟨ob, by rw [← e1']; exact ha, hd⟩, dk st, p1, fun F hF => ?_⟩
  have em : mergeK [] (dk st) = dk st := mergeK_dk st [] (by simpa using st_nodup hst)
  rw [em]
  have f1 := Ex.new (o := .dK (dk st)) hF
  have hF1 : (upd H1 F (.dK (dk st))) F = some (.dK (dk st)) := upd_same
  generalize upd H1 F (.dK (dk st)) = H2 at f1 hF1 ⊢
  refine ⟨_, _, _, f1 _ _ ho, T.c_Puzzle, T.n_Puzzle_cell_count, _, rfl, _, rfl, by have := hz.2.1; omega, by have := hz.2.1; omega, ?_⟩
  rw [Int.toNat_natCast]
  refine lc_mapN (f := fun (k : Nat) => rI (k : Int)) (xs := List.range z.n) (rb := rI) (F := fun (k : Nat) => (gt st (k : Int)).getD (if yy (2 + (k : Int)) = true then 1 else 0)) wk_rng0 (by rw [List.length_range]; have := hz.2.1; omega) (fun _ => rfl) ?_ ?_
  · rintro i k w H' K1 hi e4 hv hK
    cases hv
    have hkl := List.mem_range.mp (List.mem_of_getElem? hi)
    walk_at "st"
    refine ⟨.inl ⟨_, .inl (e4 _ _ hF1)⟩, ?_⟩
    have hat : ((List.range N).map fun (k : Nat) => if yy (k : Int) = true then (1 : Int) else 0)[(2 + (k : Int)).toNat]? = some (if yy (2 + (k : Int)) = true then 1 else 0) := by
      rw [List.getElem?_map, List.getElem?_range (by omega)]
      show some (if yy (((2 + (k : Int)).toNat : Nat) : Int) = true then (1 : Int) else 0) = _
      rw [show (((2 + (k : Int)).toNat : Nat) : Int) = 2 + (k : Int) by omega]
    refine ixT (sq_t (e4 _ _ (f1 _ _ hc))) (by omega) (map_at hat) ?_
    refine ⟨_, dget_k (e4 _ _ hF1) _, ?_⟩
    rw [getD_dk]
    exact hK _ _ (Ex.rf _) rfl
  · rintro p H4 hp e4 hr4
    obtain ⟨m1, m2⟩ := side_min hst ht hn hs
    exact tup_done hr4 (Ex.rf _) fun v H5 e5 h5 => q _ _ (((e1.tr f1).tr e4).tr e5) ⟨_, m1, m2, h5⟩
end Cut
end

section
set_option maxHeartbeats 4000000
namespace Cut
open PySem PySem.Spec L2
/-! ### what the kinds say of a price -/
def LeR (r s : List Int) : Prop := ∀ i : Nat, r.getD i 0 ≤ s.getD i 0
def Rising (p : PrD) : Prop := ∀ r s, Row r p.1 → Row s p.1 → LeR r s → cost p r ≤ cost p s
def Falling (p : PrD) : Prop := ∀ r s, Row r p.1 → Row s p.1 → LeR r s → cost p s ≤ cost p r
def Bent (p : PrD) : Prop := ∀ r s, Row r p.1 → Row s p.1 → cost p (andR r s) + cost p (orR r s) ≤ cost p r + cost p s
def AllNo (p : PrD) : Prop := ∀ r, Row r p.1 → cost p (List.replicate p.1 0) ≤ cost p r
def AllYes (p : PrD) : Prop := ∀ r, Row r p.1 → cost p (List.replicate p.1 1) ≤ cost p r
theorem no_shown {p : PrD} {w : Str} (h : (shownL p w).isEmpty = true) : ∀ q ∈ pairs2 (rows p.1), showsP p w q.1 q.2 = false := fun q hq => by
  rw [List.isEmpty_iff, shownL, List.filter_eq_nil_iff] at h
  simpa using h q hq
def leB (r s : List Int) : Bool := (r.zip s).all fun p => decide (p.1 ≤ p.2)
theorem le_leB : ∀ {r s : List Int}, LeR r s → leB r s = true
  | [], _, _ => rfl
  | _ :: _, [], _ => rfl
  | a :: r, b :: s, h => by
    unfold leB
    rw [List.zip_cons_cons, List.all_cons, Bool.and_eq_true]
    exact ⟨decide_eq_true (h 0), le_leB fun i => h (i + 1)⟩
def stepB (n : Nat) (r t : List Int) : Bool := (pairs2 (rows n)).contains (r, t) && oneMore r t
def chainB (n : Nat) : Nat → List Int → List Int → Bool
  | 0, r, s => r == s
  | k + 1, r, s => r == s || (rows n).any fun t => stepB n r t && chainB n k t s
theorem chain_all {n : Nat} (h1 : 1 ≤ n) (h3 : n ≤ 3) : ((rows n).all fun r => (rows n).all fun s => !leB r s || chainB n 3 r s) = true := by
  match n, h1, h3 with
  | 1, _, _ => decide +kernel
  | 2, _, _ => decide +kernel
  | 3, _, _ => decide +kernel
theorem chain_le {n : Nat} {c : List Int → Int} (h : ∀ r t, stepB n r t = true → c r ≤ c t) : ∀ (k : Nat) (r s : List Int), chainB n k r s = true → c r ≤ c s
  | 0, r, s, e => by
    have : r = s := by simpa [chainB] using e
    rw [this]
    exact Int.le_refl _
  | k + 1, r, s, e => by
    unfold chainB at e
    rcases Bool.or_eq_true _ _ |>.mp e with e | e
    · have : r = s := by simpa using e
      rw [this]
      exact Int.le_refl _
    · obtain ⟨t, _, ht⟩ := List.any_eq_true.mp e
      obtain ⟨h1, h2⟩ := Bool.and_eq_true _ _ |>.mp ht
      exact Int.le_trans (h r t h1) (chain_le h k t s h2)
theorem mono_of {n : Nat} (h1 : 1 ≤ n) (h3 : n ≤ 3) {c : List Int → Int} (h : ∀ q ∈ pairs2 (rows n), oneMore q.1 q.2 = true → c q.1 ≤ c q.2) {r s : List Int} (hr : Row r n) (hs : Row s n) (hl : LeR r s) : c r ≤ c s := by
  have h4 := List.all_eq_true.mp (List.all_eq_true.mp (chain_all h1 h3) r (mem_rows n r hr)) s (mem_rows n s hs)
  rw [le_leB hl] at h4
  refine chain_le (n := n) (fun r t e => ?_) 3 r s (by simpa using h4)
  obtain ⟨e1, e2⟩ := Bool.and_eq_true _ _ |>.mp e
  exact h (r, t) (by simpa using e1) e2
theorem rising_of {p : PrD} (hp : PrOk p) (h : (shownL p "rising").isEmpty = true) : Rising p := fun r s hr hs hl =>
  mono_of hp.1 hp.2.1 (c := cost p) (fun q hq h1 => by
    have := no_shown h q hq
    unfold showsP at this
    rw [if_neg (by decide), h1, if_neg (by decide), if_pos rfl] at this
    have := of_decide_eq_false this
    omega) hr hs hl
theorem falling_of {p : PrD} (hp : PrOk p) (h : (shownL p "falling").isEmpty = true) : Falling p := fun r s hr hs hl => by
  have := mono_of hp.1 hp.2.1 (c := fun r => - cost p r) (fun q hq h1 => by
    have := no_shown h q hq
    unfold showsP at this
    rw [if_neg (by decide), h1, if_neg (by decide), if_neg (by decide)] at this
    have := of_decide_eq_false this
    show - cost p q.1 ≤ - cost p q.2
    omega) hr hs hl
  have : - cost p r ≤ - cost p s := this
  omega
theorem pairs_all {n : Nat} (h1 : 1 ≤ n) (h3 : n ≤ 3) : ((rows n).all fun r => (rows n).all fun s => (r == s && (andR r s == r && orR r s == r)) || ((pairs2 (rows n)).contains (r, s) || ((pairs2 (rows n)).contains (s, r) && (andR r s == andR s r && orR r s == orR s r)))) = true := by
  match n, h1, h3 with
  | 1, _, _ => decide +kernel
  | 2, _, _ => decide +kernel
  | 3, _, _ => decide +kernel
theorem bent_pairs {n : Nat} (h1 : 1 ≤ n) (h3 : n ≤ 3) {c : List Int → Int} (h : ∀ q ∈ pairs2 (rows n), c (andR q.1 q.2) + c (orR q.1 q.2) ≤ c q.1 + c q.2) {r s : List Int} (hr : Row r n) (hs : Row s n) : c (andR r s) + c (orR r s) ≤ c r + c s := by
  have h4 := List.all_eq_true.mp (List.all_eq_true.mp (pairs_all h1 h3) r (mem_rows n r hr)) s (mem_rows n s hs)
  simp only [Bool.or_eq_true, Bool.and_eq_true, beq_iff_eq, List.contains_iff_mem] at h4
  rcases h4 with ⟨e1, e2, e3⟩ | e | ⟨e1, e2, e3⟩
  · rw [e2, e3, e1]
    omega
  · exact h (r, s) e
  · have := h (s, r) e1
    rw [e2, e3]
    dsimp only at this
    omega
theorem bent_of {p : PrD} (hp : PrOk p) (h : (shownL p "bent").isEmpty = true) : Bent p := fun r s hr hs =>
  bent_pairs hp.1 hp.2.1 (c := cost p) (fun q hq => by
    have := no_shown h q hq
    unfold showsP at this
    rw [if_pos rfl] at this
    have := of_decide_eq_false this
    omega) hr hs
/-! ### sums of kinds -/
theorem sum_le {α : Type} {f g : α → Int} : ∀ {xs : List α}, (∀ x ∈ xs, f x ≤ g x) → (xs.map f).sum ≤ (xs.map g).sum
  | [], _ => Int.le_refl _
  | x :: xs, h => by
    rw [List.map_cons, List.map_cons, List.sum_cons, List.sum_cons]
    have := h x (.head _)
    have := sum_le (xs := xs) fun y hy => h y (.tail _ hy)
    omega
theorem sel_le {f g cells : List Int} (h : LeR f g) : LeR (sel f cells) (sel g cells) := fun i => by
  unfold sel
  rw [List.getD_eq_getElem?_getD, List.getD_eq_getElem?_getD, List.getElem?_map, List.getElem?_map]
  cases cells[i]? with
  | none => exact Int.le_refl _
  | some c => exact h c.toNat
theorem tie_of {z : Pz} (hz : PzOk z) {t : Nat × List Int × Int} (ht : t ∈ z.ties) : ∃ p ∈ z.book, prAt z.book t.1 = p ∧ PrOk p ∧ t.2.1.length = p.1 ∧ (∀ c ∈ t.2.1, 0 ≤ c ∧ c < (z.n : Int)) ∧ 1 ≤ t.2.2 ∧ t.2.2 ≤ 1000 := by
  obtain ⟨p, h1, h2, h3, h4, h5⟩ := hz.2.2.2 t ht
  exact ⟨p, List.mem_of_getElem? h1, prAt_of h1, hz.1.2.2 p (List.mem_of_getElem? h1), h2, h3, h4, h5⟩
theorem total_rising {z : Pz} (hz : PzOk z) (hk : ∀ p ∈ z.book, Rising p) {f g : List Int} (hf : Row f z.n) (hg : Row g z.n) (h : LeR f g) : total z f ≤ total z g := by
  refine sum_le fun t ht => ?_
  obtain ⟨p, hp, e, _, hl, hc, h1, _⟩ := tie_of hz ht
  unfold tieVal
  rw [e]
  exact Int.mul_le_mul_of_nonneg_left (hk p hp _ _ (sel_row hf hc hl) (sel_row hg hc hl) (sel_le h)) (by omega)
theorem total_falling {z : Pz} (hz : PzOk z) (hk : ∀ p ∈ z.book, Falling p) {f g : List Int} (hf : Row f z.n) (hg : Row g z.n) (h : LeR f g) : total z g ≤ total z f := by
  refine sum_le fun t ht => ?_
  obtain ⟨p, hp, e, _, hl, hc, h1, _⟩ := tie_of hz ht
  unfold tieVal
  rw [e]
  exact Int.mul_le_mul_of_nonneg_left (hk p hp _ _ (sel_row hf hc hl) (sel_row hg hc hl) (sel_le h)) (by omega)
theorem row_getD {r : List Int} {n : Nat} (h : Row r n) (i : Nat) : r.getD i 0 = 0 ∨ r.getD i 0 = 1 := by
  rw [List.getD_eq_getElem?_getD]
  cases hi : r[i]? with
  | none => exact .inl rfl
  | some v => exact h.2 v (List.mem_of_getElem? hi)
theorem keeps_getD {st : List (Int × Int)} {r : List Int} {n : Nat} (hr : Row r n) (h : Keeps st (on r)) {p : Int × Int} (hp : p ∈ st) (h2 : p.2 = 0 ∨ p.2 = 1) : r.getD p.1.toNat 0 = p.2 := by
  have := h p hp
  unfold on at this
  have h3 := row_getD hr p.1.toNat
  rw [Bool.eq_iff_iff, decide_eq_true_eq, decide_eq_true_eq] at this
  omega
theorem fillR_out {st : List (Int × Int)} {n : Nat} {g : Int → Int} {i : Nat} (h : n ≤ i) : (fillR st n g).getD i 0 = 0 := by
  unfold fillR
  rw [List.getD_eq_getElem?_getD, List.getElem?_eq_none (by rw [List.length_map, List.length_range]; exact h)] <;> rfl
theorem fill0_le {n : Nat} {st : List (Int × Int)} (hst : StOk n st) {r : List Int} (hr : Row r n) (hk : Keeps st (on r)) : LeR (fillR st n fun _ => 0) r := fun i => by
  by_cases hi : i < n
  · have := fillR_at (st := st) (n := n) (g := fun _ => 0) (l := (i : Int)) (by omega) (by omega)
    rw [Int.toNat_natCast] at this
    rw [this]
    cases hg : gt st (i : Int) with
    | none => have := row_getD hr i; show (0 : Int) ≤ _; omega
    | some v =>
      have hm := gt_mem hg
      have := keeps_getD hr hk hm (hst.2 _ hm).2.2
      rw [Int.toNat_natCast] at this
      show v ≤ _
      rw [this]
      exact Int.le_refl _
  · rw [fillR_out (by omega)]
    have := row_getD hr i
    omega
theorem le_fill1 {n : Nat} {st : List (Int × Int)} (hst : StOk n st) {r : List Int} (hr : Row r n) (hk : Keeps st (on r)) : LeR r (fillR st n fun _ => 1) := fun i => by
  by_cases hi : i < n
  · have := fillR_at (st := st) (n := n) (g := fun _ => 1) (l := (i : Int)) (by omega) (by omega)
    rw [Int.toNat_natCast] at this
    rw [this]
    cases hg : gt st (i : Int) with
    | none => have := row_getD hr i; show _ ≤ (1 : Int); omega
    | some v =>
      have hm := gt_mem hg
      have := keeps_getD hr hk hm (hst.2 _ hm).2.2
      rw [Int.toNat_natCast] at this
      show _ ≤ v
      rw [this]
      exact Int.le_refl _
  · rw [fillR_out (by omega)]
    have : r.getD i 0 = 0 := by
      rw [List.getD_eq_getElem?_getD, List.getElem?_eq_none (by rw [hr.1]; omega)] <;> rfl
    omega
theorem min_rising {z : Pz} (hz : PzOk z) {st : List (Int × Int)} (hst : StOk z.n st) (hk : kindB z.book "rising" = true) : Row (fillR st z.n fun _ => 0) z.n ∧ IsMin z st (total z (fillR st z.n fun _ => 0)) := by
  have hr := fillR_row (n := z.n) hst (g := fun _ => 0) fun _ => .inl rfl
  refine ⟨hr, ⟨_, hr, fillR_keeps hst _, rfl⟩, fun r h1 h2 => ?_⟩
  exact total_rising hz (fun p hp => rising_of (hz.1.2.2 p hp) (List.all_eq_true.mp hk p hp)) hr h1 (fill0_le hst h1 h2)
theorem min_falling {z : Pz} (hz : PzOk z) {st : List (Int × Int)} (hst : StOk z.n st) (hk : kindB z.book "falling" = true) : Row (fillR st z.n fun _ => 1) z.n ∧ IsMin z st (total z (fillR st z.n fun _ => 1)) := by
  have hr := fillR_row (n := z.n) hst (g := fun _ => 1) fun _ => .inr rfl
  refine ⟨hr, ⟨_, hr, fillR_keeps hst _, rfl⟩, fun r h1 h2 => ?_⟩
  exact total_falling hz (fun p hp => falling_of (hz.1.2.2 p hp) (List.all_eq_true.mp hk p hp)) h1 hr (le_fill1 hst h1 h2)
end Cut
end

section
set_option maxHeartbeats 4000000
namespace Cut
open PySem PySem.Spec L2
/-! ### bent books -/
theorem mn_comm (x y : Int) : (if y < x then y else x) = min x y := by
  rw [Int.min_def]
  split <;> split <;> omega
theorem mx_comm (x y : Int) : (if y > x then y else x) = max x y := by
  rw [Int.max_def]
  split <;> split <;> omega
theorem andR_getD {r s : List Int} {n : Nat} (hr : r.length = n) (hs : s.length = n) (i : Nat) : (andR r s).getD i 0 = min (r.getD i 0) (s.getD i 0) := by
  unfold andR
  rw [List.getD_eq_getElem?_getD, List.getD_eq_getElem?_getD, List.getD_eq_getElem?_getD, List.getElem?_map]
  by_cases h : i < n
  · rw [List.getElem?_eq_getElem (show i < r.length by omega), List.getElem?_eq_getElem (show i < s.length by omega), List.getElem?_eq_getElem (show i < (r.zip s).length by rw [List.length_zip]; omega), List.getElem_zip]
    exact mn_comm _ _
  · rw [List.getElem?_eq_none (show r.length ≤ i by omega), List.getElem?_eq_none (show s.length ≤ i by omega), List.getElem?_eq_none (show (r.zip s).length ≤ i by rw [List.length_zip]; omega)]
    rfl
theorem orR_getD {r s : List Int} {n : Nat} (hr : r.length = n) (hs : s.length = n) (i : Nat) : (orR r s).getD i 0 = max (r.getD i 0) (s.getD i 0) := by
  unfold orR
  rw [List.getD_eq_getElem?_getD, List.getD_eq_getElem?_getD, List.getD_eq_getElem?_getD, List.getElem?_map]
  by_cases h : i < n
  · rw [List.getElem?_eq_getElem (show i < r.length by omega), List.getElem?_eq_getElem (show i < s.length by omega), List.getElem?_eq_getElem (show i < (r.zip s).length by rw [List.length_zip]; omega), List.getElem_zip]
    exact mx_comm _ _
  · rw [List.getElem?_eq_none (show r.length ≤ i by omega), List.getElem?_eq_none (show s.length ≤ i by omega), List.getElem?_eq_none (show (r.zip s).length ≤ i by rw [List.length_zip]; omega)]
    rfl
theorem zip_map2 {α β γ : Type} (f : α → β) (g : α → γ) (xs : List α) : (xs.map f).zip (xs.map g) = xs.map fun x => (f x, g x) := by
  induction xs with
  | nil => rfl
  | cons x xs ih => rw [List.map_cons, List.map_cons, List.map_cons, List.zip_cons_cons, ih]
theorem sel_and {r s cells : List Int} {n : Nat} (hr : r.length = n) (hs : s.length = n) : sel (andR r s) cells = andR (sel r cells) (sel s cells) := by
  unfold sel
  conv => rhs; unfold andR
  rw [zip_map2, List.map_map]
  apply List.map_congr_left
  intro c _
  rw [andR_getD hr hs]
  exact (mn_comm _ _).symm
theorem sel_or {r s cells : List Int} {n : Nat} (hr : r.length = n) (hs : s.length = n) : sel (orR r s) cells = orR (sel r cells) (sel s cells) := by
  unfold sel
  conv => rhs; unfold orR
  rw [zip_map2, List.map_map]
  apply List.map_congr_left
  intro c _
  rw [orR_getD hr hs]
  exact (mx_comm _ _).symm
theorem sum_le2 {α : Type} {a b c d : α → Int} : ∀ {xs : List α}, (∀ x ∈ xs, a x + b x ≤ c x + d x) → (xs.map a).sum + (xs.map b).sum ≤ (xs.map c).sum + (xs.map d).sum
  | [], _ => Int.le_refl _
  | x :: xs, h => by
    simp only [List.map_cons, List.sum_cons]
    have := h x (.head _)
    have := sum_le2 (xs := xs) fun y hy => h y (.tail _ hy)
    omega
theorem total_bent {z : Pz} (hz : PzOk z) (hk : ∀ p ∈ z.book, Bent p) {f g : List Int} (hf : Row f z.n) (hg : Row g z.n) : total z (andR f g) + total z (orR f g) ≤ total z f + total z g := by
  refine sum_le2 fun t ht => ?_
  obtain ⟨p, hp, e, _, hl, hc, h1, _⟩ := tie_of hz ht
  unfold tieVal
  rw [e, sel_and hf.1 hg.1, sel_or hf.1 hg.1, ← Int.mul_add, ← Int.mul_add]
  exact Int.mul_le_mul_of_nonneg_left (hk p hp _ _ (sel_row hf hc hl) (sel_row hg hc hl)) (by omega)
theorem rowOf_and (u v : Int → Bool) (n : Nat) : andR (rowOf u n) (rowOf v n) = rowOf (fun c => u c && v c) n := by
  unfold andR rowOf
  rw [zip_map2, List.map_map]
  apply List.map_congr_left
  intro c _
  dsimp only [Function.comp]
  by_cases h1 : u (c : Int) = true <;> by_cases h2 : v (c : Int) = true <;> simp [h1, h2]
theorem rowOf_or (u v : Int → Bool) (n : Nat) : orR (rowOf u n) (rowOf v n) = rowOf (fun c => u c || v c) n := by
  unfold orR rowOf
  rw [zip_map2, List.map_map]
  apply List.map_congr_left
  intro c _
  dsimp only [Function.comp]
  by_cases h1 : u (c : Int) = true <;> by_cases h2 : v (c : Int) = true <;> simp [h1, h2]
/-! ### the sum of a bent book is bent -/
def s2 (t : Told) (st : List (Int × Int)) (a b : Int) (x y : Bool) : Int → Bool := fun c => if c = a then x else if c = b then y else match gt st c with
  | some v => decide (v = 1)
  | none => t.any fun e => decide (e.1.length = 3 ∧ a ∈ e.1 ∧ b ∈ e.1 ∧ c ∈ e.1 ∧ 0 < e.2)
theorem cnt_none {qs : List (List Int)} {n : Int} {k : List Int} (h : k ∉ qs) : cnt qs n k = 0 := by
  induction qs with
  | nil => rfl
  | cons q qs ih =>
    rw [List.mem_cons, not_or] at h
    unfold cnt
    rw [List.map_cons, List.sum_cons, if_neg (Ne.symm h.1)]
    have := ih h.2
    unfold cnt at this
    omega
theorem s2_third {t : Told} {st : List (Int × Int)} (nd : (t.map (·.1)).Nodup) (hs : ∀ e ∈ t, e.1.Pairwise (· < ·)) {p q r v a b c : Int} (he : ([p, q, r], v) ∈ t) (hg : gt st c = none) (hca : c ≠ a) (hcb : c ≠ b) (hab : a ≠ b) (ha : a ∈ [p, q, r]) (hb : b ∈ [p, q, r]) (hc : c ∈ [p, q, r]) (x y : Bool) : s2 t st a b x y c = decide (0 < v) := by
  unfold s2
  rw [if_neg hca, if_neg hcb, hg]
  show t.any _ = _
  rw [Bool.eq_iff_iff, List.any_eq_true, decide_eq_true_eq]
  constructor
  · rintro ⟨e, hm, hd⟩
    obtain ⟨d1, d2, d3, d4, d5⟩ := of_decide_eq_true hd
    have hse := hs e hm
    have hs0 := hs _ he
    obtain ⟨ls, u⟩ := e
    match ls, d1 with
    | [p', q', r'], _ =>
      have e1 : [p', q', r'] = [p, q, r] := by
        simp only [List.pairwise_cons, List.mem_cons, List.not_mem_nil, or_false, forall_eq_or_imp, forall_eq, false_imp_iff, implies_true, and_true] at hse hs0
        simp only [List.mem_cons, List.not_mem_nil, or_false] at ha hb hc d2 d3 d4
        have : p' = p ∧ q' = q ∧ r' = r := by omega
        rw [this.1, this.2.1, this.2.2]
      have e2 := gt_of_mem nd (show ([p', q', r'], u) ∈ t from hm)
      rw [e1, gt_of_mem nd he] at e2
      have : v = u := Option.some.inj e2
      rw [this]
      exact d5
  · intro h
    exact ⟨_, he, decide_eq_true ⟨rfl, ha, hb, hc, h⟩⟩
theorem WT_free {e : List Int × Int} {s u : Int → Bool} (h : ∀ l ∈ e.1, s l = u l) : WT e s = WT e u := by
  have := WW_congr (t := [e]) (s := s) (u := u) fun e' he => by
    rw [List.mem_singleton] at he
    rw [he]
    exact h
  rw [WW_cons, WW_cons, WW_nil, WW_nil] at this
  omega
theorem s2_diff {n : Nat} {t : Told} {st : List (Int × Int)} {a b : Int} (ht : SumOk n t) (hf : ∀ e ∈ t, ∀ l ∈ e.1, gt st l = none) (hab : a < b) {e : List Int × Int} (he : e ∈ t) :
    WT e (s2 t st a b true true) + WT e (s2 t st a b false false) - WT e (s2 t st a b true false) - WT e (s2 t st a b false true) = if e.1.length = 2 ∨ 0 < e.2 then cnt (prs e.1) e.2 [a, b] else 0 := by
  have nd : (t.map (·.1)).Nodup := List.nodup_iff_pairwise_ne.mpr (ht.1.imp fun {x y} hl z => by
    subst z
    rw [lexLt_irrefl] at hl
    cases hl)
  obtain ⟨h0, hs, hb, hl⟩ := ht.2 e he
  have hfe := hf e he
  obtain ⟨ls, v⟩ := e
  have hba : ¬ b = a := by omega
  match ls, hs, hb, hl, he, hfe with
  | [], _, _, _, _, _ => simp [WT, prs, pairs2, enu, cnt]
  | [p], _, _, _, _, _ =>
    simp only [WT, prs, pairs2, enu, cnt, s2, List.all_cons, List.all_nil, Bool.and_true]
    by_cases h1 : p = a
    · simp [h1]
    · by_cases h2 : p = b
      · simp [h2, hba]
      · simp [h1, h2]
  | [p, q], hs, _, _, _, _ =>
    have hpq : p < q := by simpa using hs
    rw [if_pos (.inl rfl), prs2]
    simp only [WT, cnt, s2, List.all_cons, List.all_nil, Bool.and_true, List.map_cons, List.map_nil, List.sum_cons, List.sum_nil, List.cons.injEq, and_true]
    by_cases h1 : p = a
    · subst h1
      by_cases h2 : q = b
      · subst h2
        simp [hba]
      · have : ¬ q = p := by omega
        simp [h2, this]
    · by_cases h2 : q = b
      · subst h2
        simp [h1, hba]
      · by_cases h3 : p = b
        · subst h3
          have : ¬ q = a := by omega
          simp [hba, h2, this]
        · by_cases h4 : q = a
          · subst h4
            simp [h1, h3]
          · simp [h1, h2, h3, h4]
  | [p, q, r], hs, _, _, he, hfe =>
    have hs' : p < q ∧ p < r ∧ q < r := by
      simp only [List.pairwise_cons, List.mem_cons, List.not_mem_nil, or_false, forall_eq_or_imp, forall_eq, false_imp_iff, implies_true, and_true] at hs
      omega
    have hpw : ∀ e ∈ t, e.1.Pairwise (· < ·) := fun e he => (ht.2 e he).2.1
    have hv : v ≠ 0 := h0
    by_cases ha : a ∈ [p, q, r]
    · by_cases hb : b ∈ [p, q, r]
      · have third : ∀ c, c ∈ [p, q, r] → c ≠ a → c ≠ b → ∀ x y, s2 t st a b x y c = decide (0 < v) := fun c hc h1 h2 x y => s2_third nd hpw he (hfe c hc) h1 h2 (by omega) ha hb hc x y
        have sa : ∀ x y, s2 t st a b x y a = x := fun x y => if_pos rfl
        have sb : ∀ x y, s2 t st a b x y b = y := fun x y => by
          unfold s2
          rw [if_neg hba, if_pos rfl]
        rw [prs3]
        have e0 : (([p, q, r] : List Int).length = 2 ∨ 0 < v) = (0 < v) := propext ⟨fun z => z.resolve_left (by simp), .inr⟩
        simp only [List.mem_cons, List.not_mem_nil, or_false] at ha hb
        have hw : ∀ x y, WT ([p, q, r], v) (s2 t st a b x y) = if (x && y && decide (0 < v)) = true then v else 0 := fun x y => by
          unfold WT
          simp only [List.all_cons, List.all_nil, Bool.and_true]
          rcases ha with rfl | rfl | rfl
          · rcases hb with rfl | rfl | rfl
            · omega
            · rw [sa, sb, third r (by simp) (by omega) (by omega)]
              cases x <;> cases y <;> rfl
            · rw [sa, sb, third q (by simp) (by omega) (by omega)]
              cases x <;> cases y <;> simp
          · rcases hb with rfl | rfl | rfl
            · omega
            · omega
            · rw [sa, sb, third p (by simp) (by omega) (by omega)]
              cases x <;> cases y <;> simp
          · omega
        have hc1 : cnt [[p, q], [p, r], [q, r]] v [a, b] = v := by
          unfold cnt
          simp only [List.map_cons, List.map_nil, List.sum_cons, List.sum_nil, List.cons.injEq, and_true]
          rcases ha with rfl | rfl | rfl
          · rcases hb with rfl | rfl | rfl
            · omega
            · rw [if_pos ⟨rfl, rfl⟩, if_neg (by omega), if_neg (by omega)]
              omega
            · rw [if_neg (by omega), if_pos ⟨rfl, rfl⟩, if_neg (by omega)]
              omega
          · rcases hb with rfl | rfl | rfl
            · omega
            · omega
            · rw [if_neg (by omega), if_neg (by omega), if_pos ⟨rfl, rfl⟩]
              omega
          · omega
        rw [hw, hw, hw, hw, hc1]
        show _ = if (([p, q, r] : List Int).length = 2 ∨ 0 < v) then v else 0
        by_cases hp : 0 < v
        · rw [show (if (([p, q, r] : List Int).length = 2 ∨ 0 < v) then v else 0) = v from if_pos (.inr hp)]
          simp [hp]
        · rw [show (if (([p, q, r] : List Int).length = 2 ∨ 0 < v) then v else 0) = 0 from if_neg (fun z => z.elim (by simp) hp)]
          simp [hp]
      · have h1 : ∀ x, WT ([p, q, r], v) (s2 t st a b x true) = WT ([p, q, r], v) (s2 t st a b x false) := fun x => WT_free fun l hl => by
          unfold s2
          have : l ≠ b := fun z => hb (z ▸ hl)
          rw [if_neg this, if_neg this]
        rw [h1, h1, cnt_none (by rw [prs3]; simp only [List.mem_cons, List.not_mem_nil, or_false, List.cons.injEq, and_true] at hb ⊢; omega)]
        split <;> omega
    · have h1 : ∀ y, WT ([p, q, r], v) (s2 t st a b true y) = WT ([p, q, r], v) (s2 t st a b false y) := fun y => WT_free fun l hl => by
        unfold s2
        have : l ≠ a := fun z => ha (z ▸ hl)
        rw [if_neg this, if_neg this]
      rw [h1, h1, cnt_none (by rw [prs3]; simp only [List.mem_cons, List.not_mem_nil, or_false, List.cons.injEq, and_true] at ha ⊢; omega)]
      split <;> omega
theorem sum4 {α : Type} {a b c d r : α → Int} : ∀ {xs : List α}, (∀ x ∈ xs, a x + b x - c x - d x = r x) → (xs.map r).sum = (xs.map a).sum + (xs.map b).sum - (xs.map c).sum - (xs.map d).sum
  | [], _ => rfl
  | x :: xs, h => by
    simp only [List.map_cons, List.sum_cons]
    have := h x (.head _)
    have := sum4 (xs := xs) fun y hy => h y (.tail _ hy)
    omega
theorem prs_mem {ls k : List Int} (hs : ls.Pairwise (· < ·)) (hl : ls.length ≤ 3) (h : k ∈ prs ls) : ∃ a b, k = [a, b] ∧ a < b ∧ a ∈ ls ∧ b ∈ ls := by
  match ls, hl with
  | [], _ => simp [prs, pairs2, enu] at h
  | [p], _ => simp [prs, pairs2, enu] at h
  | [p, q], _ =>
    rw [prs2, List.mem_singleton] at h
    exact ⟨p, q, h, by simpa using hs, by simp, by simp⟩
  | [p, q, r], _ =>
    simp only [List.pairwise_cons, List.mem_cons, List.not_mem_nil, or_false, forall_eq_or_imp, forall_eq, false_imp_iff, implies_true, and_true] at hs
    rw [prs3] at h
    simp only [List.mem_cons, List.not_mem_nil, or_false] at h
    rcases h with h | h | h
    · exact ⟨p, q, h, by omega, by simp, by simp⟩
    · exact ⟨p, r, h, by omega, by simp, by simp⟩
    · exact ⟨q, r, h, by omega, by simp, by simp⟩
theorem sum_bent {z : Pz} {st : List (Int × Int)} {t : Told} (hz : PzOk z) (hst : StOk z.n st) (ht : SumOf z st t) (hk : ∀ p ∈ z.book, Bent p) : bentB t = true := by
  refine le_bent fun k => ?_
  by_cases hex : ∃ e ∈ t, k ∈ prs e.1
  · obtain ⟨e, he, hke⟩ := hex
    have hee := ht.1.2 e he
    obtain ⟨a, b, rfl, hab, ha, hb⟩ := prs_mem hee.2.1 hee.2.2.2 hke
    have ga := ht.2.1 e he a ha
    have gb := ht.2.1 e he b hb
    have h4 : PSm t [a, b] = WW t (s2 t st a b true true) + WW t (s2 t st a b false false) - WW t (s2 t st a b true false) - WW t (s2 t st a b false true) := sum4 fun e he => s2_diff ht.1 ht.2.1 hab he
    have kp : ∀ x y, Keeps st (s2 t st a b x y) := fun x y p hp => by
      have hg := st_gt hst hp
      unfold s2
      rw [if_neg (fun c => by rw [c, ga] at hg; cases hg), if_neg (fun c => by rw [c, gb] at hg; cases hg), hg]
    have hT := fun x y => ht.2.2.1 _ (kp x y)
    have hB := total_bent hz hk (rowOf_row (s2 t st a b true false) z.n) (rowOf_row (s2 t st a b false true) z.n)
    rw [rowOf_and, rowOf_or] at hB
    have e1 : (fun c => s2 t st a b true false c && s2 t st a b false true c) = s2 t st a b false false := by
      funext c
      unfold s2
      by_cases h1 : c = a
      · rw [if_pos h1, if_pos h1, if_pos h1] <;> rfl
      · rw [if_neg h1, if_neg h1, if_neg h1]
        by_cases h2 : c = b
        · rw [if_pos h2, if_pos h2] <;> rfl
        · rw [if_neg h2, if_neg h2, Bool.and_self]
    have e2 : (fun c => s2 t st a b true false c || s2 t st a b false true c) = s2 t st a b true true := by
      funext c
      unfold s2
      by_cases h1 : c = a
      · rw [if_pos h1, if_pos h1, if_pos h1] <;> rfl
      · rw [if_neg h1, if_neg h1, if_neg h1]
        by_cases h2 : c = b
        · rw [if_pos h2, if_pos h2] <;> rfl
        · rw [if_neg h2, if_neg h2, Bool.or_self]
    rw [e1, e2] at hB
    rw [h4, hT, hT, hT, hT]
    omega
  · have h0 : ∀ e ∈ t, (if e.1.length = 2 ∨ 0 < e.2 then cnt (prs e.1) e.2 k else 0) = 0 := fun e he => by
      rw [cnt_none fun z => hex ⟨e, he, z⟩, ite_self]
    have : PSm t k = 0 := by
      unfold PSm
      rw [List.map_congr_left h0]
      clear h0 hex ht
      induction t with
      | nil => rfl
      | cons e t ih => rw [List.map_cons, List.sum_cons, ih] <;> rfl
    omega
end Cut
end

section
set_option maxHeartbeats 4000000
namespace Cut
open PySem PySem.Spec L2
local macro_rules | `(tactic| walk_at "rd") => `(tactic| dsimp only [tFor_eq, tLc_eq, tLc2_eq, iTup, iList, iRng1, iRng2, iSeq, RZ.iZipA, iEnum, iZipX, iEnumT, iKeys, tTupZip, tLenSet, gFld_app, tLock, tLockE, tCallN, tTup0F, tAsg, tVar, tC, tCmp, tIsN, tNotN, tB, tAnd, tOr, tNot, tAndV, tOrV, tNotV, tIf, tNext, tSeq, tBreak, tCont, tDrop, tRet, tRetN, tIfS, gName_app, gTup_app, gCons_app, gNil_app, gSub_app, tAsg, tAug, tCall, tMeth, tMake, tCons, tNil, tTup, tLst, tCB, tOp, tUn, tTest, tChain, tFld, sFld, sFldAug, tBM, tBM0, tSl, tPart, tNoPart, tDGet, tDIn, tDNotIn, sDPut, sDAug, tDNewK, tDNewT, tDGet2, L2.rI, L2.rI0, L2.rU, rEq, rNe, t2I, ipI, rAdd, rSub, rAppend, tDc_eq, tAugS, cxOf, Cx.nox, Cx.wish])
local macro_rules | `(tactic| walk_at "ex") => `(tactic| simp only [L2.start, List.map_cons, List.map_nil, List.length_cons, List.length_nil, List.replicate_succ, List.replicate_zero, List.cons_append, List.nil_append, List.append_nil, List.getElem?_cons_zero, List.getElem?_cons_succ, List.set_cons_zero, List.set_cons_succ, L2.wipe, Option.some.injEq, V.int.injEq, V.bl.injEq, V.ref.injEq, V.str.injEq, V.ty.injEq, List.cons.injEq, exists_eq_left', exists_eq_left, exists_eq_right, and_true, true_and, and_self, exists_and_left, exists_and_right, exists_const, and_assoc, exists_eq, exists_eq', eq_self_iff_true, if_true, if_false, Bool.false_eq_true, decide_eq_true_eq, ne_eq, reduceCtorEq, not_false_eq_true, Nat.reduceAdd, Nat.reduceSub, Bool.not_true, Bool.not_false, Option.map_some, Option.map_none, Option.isSome_some, Option.isSome_none, Option.getD_some, Option.getD_none])
local macro_rules | `(tactic| walk_at "st") => `(tactic| ((try walk_at "rd"); (try walk_at "ex")))

/-! ### a least filling -/
theorem kinds_head {b : List PrD} {w : Str} {r : List Str} (h : kindsL b = w :: r) : kindB b w = true ∧ (w = "rising" ∨ w = "falling" ∨ w = "bent") := by
  have hm : w ∈ kindsL b := by rw [h]; exact .head _
  unfold kindsL at hm
  rw [List.mem_filter] at hm
  exact ⟨hm.2, by simpa using hm.1⟩
theorem rowsW_keeps {st : List (Int × Int)} : ∀ (i : Nat) (r : List Int), r ∈ rowsW st i → r.length = i ∧ ∀ k : Nat, k < i → ∀ v, gt st (k : Int) = some v → r.getD k 0 = v
  | 0, r, hr => by
    have : r = [] := by simpa [rowsW] using hr
    subst this
    exact ⟨rfl, fun k hk => absurd hk (Nat.not_lt_zero k)⟩
  | i + 1, r, hr => by
    obtain ⟨q, hq, hr2⟩ := List.mem_flatMap.mp (show r ∈ (rowsW st i).flatMap fun r => (valsC st i).map fun v => r ++ [v] from hr)
    obtain ⟨v, hv, rfl⟩ := List.mem_map.mp hr2
    obtain ⟨l1, h2⟩ := rowsW_keeps i q hq
    refine ⟨by rw [List.length_append, l1] <;> rfl, fun k hk w hg => ?_⟩
    rw [List.getD_eq_getElem?_getD]
    by_cases c : k < i
    · rw [List.getElem?_append_left (by omega), ← List.getD_eq_getElem?_getD]
      exact h2 k c w hg
    · have : k = i := by omega
      subst this
      rw [← l1, List.getElem?_concat_length]
      unfold valsC at hv
      rw [hg] at hv
      simpa using hv
theorem mem_rowsW {st : List (Int × Int)} : ∀ (i : Nat) (r : List Int), Row r i → (∀ k : Nat, k < i → ∀ v, gt st (k : Int) = some v → r.getD k 0 = v) → r ∈ rowsW st i
  | 0, r, hr, _ => by
    have : r = [] := List.eq_nil_of_length_eq_zero hr.1
    subst this
    simp [rowsW]
  | i + 1, r, hr, h => by
    have hne : r ≠ [] := fun z => by
      have := hr.1
      rw [z] at this
      cases this
    obtain ⟨q, v, rfl⟩ : ∃ q v, r = q ++ [v] := ⟨_, _, (List.dropLast_concat_getLast hne).symm⟩
    have hql : q.length = i := by
      have := hr.1
      rw [List.length_append, List.length_singleton] at this
      omega
    refine List.mem_flatMap.mpr ⟨q, mem_rowsW i q ⟨hql, fun u hu => hr.2 u (List.mem_append.mpr (.inl hu))⟩ fun k hk w hg => ?_, List.mem_map.mpr ⟨v, ?_, rfl⟩⟩
    · have := h k (by omega) w hg
      rw [List.getD_eq_getElem?_getD, List.getElem?_append_left (by omega), ← List.getD_eq_getElem?_getD] at this
      exact this
    · unfold valsC
      cases hg : gt st (i : Int) with
      | none =>
        have := hr.2 v (List.mem_append.mpr (.inr (by simp)))
        simpa using this
      | some w =>
        have := h i (by omega) w hg
        rw [List.getD_eq_getElem?_getD, ← hql, List.getElem?_concat_length] at this
        have : v = w := this
        simpa using this
theorem rowsW_iff {z : Pz} {st : List (Int × Int)} (hst : StOk z.n st) (r : List Int) : r ∈ rowsW st z.n ↔ Row r z.n ∧ Keeps st (on r) := by
  constructor
  · intro h
    refine ⟨rowsW_row hst z.n (Nat.le_refl _) r h, fun p hp => ?_⟩
    obtain ⟨h0, h1, h2⟩ := hst.2 p hp
    have := (rowsW_keeps z.n r h).2 p.1.toNat (by omega) p.2 (by rw [show ((p.1.toNat : Nat) : Int) = p.1 by omega]; exact st_gt hst hp)
    unfold on
    rw [this]
  · rintro ⟨hr, hk⟩
    refine mem_rowsW z.n r hr fun k hk' v hg => ?_
    have hm := gt_mem hg
    have := keeps_getD hr hk hm (hst.2 _ hm).2.2
    rw [Int.toNat_natCast] at this
    exact this
def sp_some_cheapest (K : PySem.W.Frag) : Sp := PSp fun vs H R => ∃ (x y : V) (z : Pz) (st : List (Int × Int)), vs = [x, y] ∧ rPz K z H x ∧ PzOk z ∧ rFr rPp st H y ∧ StOk z.n st ∧ 0 < st.length ∧ R = rFb z st
abbrev nN_some_cheapest : List Str := ["puzzle", "start", "network", "word"]
theorem sc_some_cheapest : FnScope nN_some_cheapest ["puzzle", "start"] (defScope s_some_cheapest) := ⟨rfl, rfl, rfl, by decide +kernel, rfl, by decide +kernel, by decide +kernel⟩
theorem ok_some_cheapest {P : Program} {w : World} {K : PySem.W.Frag} {mg : Str → Option Value} {base : Heap} {fd : FuncData} {dv0 : Addr} (T : GG K w mg) (F : FunD K "some_cheapest" "some_cheapest" (defArgs s_some_cheapest) (defBody s_some_cheapest) (defScope s_some_cheapest) [.ref dv0] [] (He.fAd K ("some_cheapest", none)) fd) (c_all_cheapest : Cal P w K mg base "all_cheapest" 4 ["puzzle", "start"] (sp_all_cheapest K)) (c_filled_with : Cal P w K mg base "filled_with" 1 ["puzzle", "start", "value"] (sp_filled_with K)) (c_kind_for : Cal P w K mg base "kind_for" 11 ["puzzle", "start"] (sp_kind_for K)) (c_filling_by_side : Cal P w K mg base "filling_by_side" 5 ["puzzle", "start", "network"] (sp_filling_by_side K)) (c_bent_network : Cal P w K mg base "bent_network" 7 ["puzzle", "start"] (sp_bent_network K)) (c_is_start : Cal P w K mg base "is_start" 3 ["puzzle", "value"] (sp_is_start K)) : Cal P w K mg base "some_cheapest" 12 ["puzzle", "start"] (sp_some_cheapest K) := by
  have nd := sc_some_cheapest.nd
  refine cal_ofD F T.g_some_cheapest (fun _ _ _ _ _ _ _ us its hl hi => match us, hl, its, hi with | [_, _], _, [_], _ => ⟨_, rfl, rfl⟩) (FunD.ok F sc_some_cheapest (fun vs H Q E h => ?_) (fun cdv A outer s H vs Q E hr h => ?_))
  · obtain ⟨_, ⟨x, y, z, st, rfl, hx, hz, hy, hst, h0, rfl⟩, q⟩ := h
    rfl
  obtain ⟨_, ⟨x, y, z, st, rfl, hx, hz, hy, hst, h0, rfl⟩, q⟩ := h
  have hu := hu_of hr
  refine ⟨_, PSs.nox (pss_cons (ps_if (pt_not (pt_val (pe_cal c_is_start hr (pa_cons (pv 0) (pa_cons (pv 1) pa_nil))))) (pss_one ps_never) pss_nil) (pss_cons (ps_set (i := 2) nd rfl (Or.inl rfl) (pe_cal c_bent_network hr (pa_cons (pv 0) (pa_cons (pv 1) pa_nil)))) (pss_cons (ps_if (pt_cmpR op_notN (pv 2) pe_non (nomark _)) (pss_one (ps_ret (pe_cal c_filling_by_side hr (pa_cons (pv 0) (pa_cons (pv 1) (pa_cons (pv 2) pa_nil)))))) pss_nil) (pss_cons (ps_set (i := 3) nd rfl (Or.inl rfl) (pe_cal c_kind_for hr (pa_cons (pv 0) (pa_cons (pv 1) pa_nil)))) (pss_cons (ps_if (pt_cmpR op_notN (pv 3) pe_non (nomark _)) (pss_one (ps_ret (pe_cal c_filled_with hr (pa_cons (pv 0) (pa_cons (pv 1) (pa_cons (pe_ix ix_kdict (pe_gR T.g_KIND_VALUES) (pv 3) (fun _ _ => rfl)) pa_nil)))))) pss_nil) (pss_one (ps_ret (pe_ix (ix_tupK (K := K) rfl) (pe_cal c_all_cheapest hr (pa_cons (pv 0) (pa_cons (pv 1) pa_nil))) pe_int (fun _ _ => rfl))))))))), ?_⟩
  walk_at "st"
  refine ⟨_, ⟨x, y, z, st, rfl, hx, hy, hst, rfl⟩, ?_⟩
  walk_at "st"
  refine ⟨_, ⟨x, y, z, st, rfl, hx, hz, hy, hst, rfl⟩, fun v H1 e1 hv => ?_⟩
  obtain ⟨t, ht, hv⟩ := hv
  walk_at "st"
  have hx1 := Mo.up e1 hx
  have hy1 := Mo.up e1 hy
  by_cases hb : bentB t = true
  · rw [if_pos hb] at hv
    have hvn : v ≠ .non := by
      obtain ⟨_, _, _, _, _, _, _, _, _, _, rfl, _⟩ := hv
      exact fun z => nomatch z
    rw [if_pos (by simp [hvn])]
    exact ⟨_, ⟨x, y, v, z, st, t, rfl, hx1, hz, hy1, hst, ht, hv, rfl⟩, fun w H2 e2 hw => q _ _ (e1.tr e2) hw⟩
  · rw [if_neg hb] at hv
    subst hv
    rw [if_neg (by simp)]
    refine ⟨_, ⟨x, y, z, st, rfl, hx1, hz, hy1, h0, rfl⟩, fun v H2 e2 hv => ?_⟩
    have e12 := e1.tr e2
    have hx2 := Mo.up e12 hx
    have hy2 := Mo.up e12 hy
    cases hk : kindsL z.book with
    | nil =>
      rw [hk] at hv
      cases hv
      dsimp only
      rw [if_neg (by simp)]
      refine ⟨_, ⟨x, y, z, st, rfl, hx2, hz, hy2, hst, rfl⟩, fun v H3 e3 hv => ?_⟩
      obtain ⟨m, hm, hmin, ⟨c, us, rfl, hc, alc⟩⟩ := hv
      obtain ⟨r0, hr0, hr0m⟩ := List.mem_map.mp hm
      have hne : r0 ∈ cheap z st m := List.mem_filter.mpr ⟨hr0, decide_eq_true hr0m⟩
      obtain ⟨f, hf⟩ : ∃ f, (cheap z st m)[0]? = some f := by
        cases hcc : cheap z st m with
        | nil => rw [hcc] at hne; cases hne
        | cons f l => exact ⟨f, rfl⟩
      obtain ⟨u, hu0, hfu⟩ := alc.get hf
      have hfm := List.mem_filter.mp (List.mem_of_getElem? hf)
      obtain ⟨f1, f2⟩ := (rowsW_iff hst f).mp hfm.1
      have f3 : total z f = m := of_decide_eq_true hfm.2
      refine ixT (sq_t hc) (by decide) hu0 (q _ _ (e12.tr e3) ⟨f, f1, ⟨⟨f, f1, f2, rfl⟩, fun r h1 h2 => ?_⟩, hfu⟩)
      rw [f3]
      exact hmin _ (List.mem_map.mpr ⟨r, (rowsW_iff hst r).mpr ⟨h1, h2⟩, rfl⟩)
    | cons wd r =>
      rw [hk] at hv
      cases hv
      dsimp only
      rw [if_pos (by simp)]
      obtain ⟨k1, k2⟩ := kinds_head hk
      obtain ⟨es, en, hes1, hes2⟩ := T.d_KIND_VALUES
      rcases k2 with rfl | rfl | rfl
      · obtain ⟨u, hu'⟩ := T.k_ri
        obtain ⟨m1, m2⟩ := min_rising hz hst k1
        refine ⟨_, "rising", .int 0, rfl, rfl, ⟨es, en, _, hes1, hes2, hu', ⟨_, rfl⟩⟩, _, ⟨x, y, z, st, 0, rfl, hx2, hz.2.1, hy2, hst, rfl⟩, fun w H3 e3 hw => q _ _ (e12.tr e3) ⟨_, m1, m2, hw⟩⟩
      · obtain ⟨u, hu'⟩ := T.k_fa
        obtain ⟨m1, m2⟩ := min_falling hz hst k1
        refine ⟨_, "falling", .int 1, rfl, rfl, ⟨es, en, _, hes1, hes2, hu', ⟨_, rfl⟩⟩, _, ⟨x, y, z, st, 1, rfl, hx2, hz.2.1, hy2, hst, rfl⟩, fun w H3 e3 hw => q _ _ (e12.tr e3) ⟨_, m1, m2, hw⟩⟩
      · exact absurd (sum_bent hz hst ht fun p hp => bent_of (hz.1.2.2 p hp) (List.all_eq_true.mp k1 p hp)) hb
/-! ### the least total -/
def rMn (z : Pz) (st : List (Int × Int)) : Rp := fun _ v => ∃ m, IsMin z st m ∧ v = .int m
instance (z : Pz) (st : List (Int × Int)) : Im (rMn z st) := ⟨fun _ h => h⟩
def sp_least_total (K : PySem.W.Frag) : Sp := PSp fun vs H R => ∃ (x y : V) (z : Pz) (st : List (Int × Int)), vs = [x, y] ∧ rPz K z H x ∧ PzOk z ∧ rFr rPp st H y ∧ StOk z.n st ∧ 0 < st.length ∧ R = rMn z st
abbrev nN_least_total : List Str := ["puzzle", "start"]
theorem sc_least_total : FnScope nN_least_total ["puzzle", "start"] (defScope s_least_total) := ⟨rfl, rfl, rfl, by decide +kernel, rfl, by decide +kernel, by decide +kernel⟩
theorem ok_least_total {P : Program} {w : World} {K : PySem.W.Frag} {mg : Str → Option Value} {base : Heap} {fd : FuncData} {dv0 : Addr} (T : GG K w mg) (F : FunD K "least_total" "least_total" (defArgs s_least_total) (defBody s_least_total) (defScope s_least_total) [.ref dv0] [] (He.fAd K ("least_total", none)) fd) (c_total_of : Cal P w K mg base "total_of" 5 ["puzzle", "filling"] (sp_total_of K)) (c_some_cheapest : Cal P w K mg base "some_cheapest" 12 ["puzzle", "start"] (sp_some_cheapest K)) : Cal P w K mg base "least_total" 13 ["puzzle", "start"] (sp_least_total K) := by
  have nd := sc_least_total.nd
  refine cal_ofD F T.g_least_total (fun _ _ _ _ _ _ _ us its hl hi => match us, hl, its, hi with | [_, _], _, [_], _ => ⟨_, rfl, rfl⟩) (FunD.ok F sc_least_total (fun vs H Q E h => ?_) (fun cdv A outer s H vs Q E hr h => ?_))
  · obtain ⟨_, ⟨x, y, z, st, rfl, hx, hz, hy, hst, h0, rfl⟩, q⟩ := h
    rfl
  obtain ⟨_, ⟨x, y, z, st, rfl, hx, hz, hy, hst, h0, rfl⟩, q⟩ := h
  have hu := hu_of hr
  refine ⟨_, PSs.nox (pss_one (ps_ret (pe_cal c_total_of hr (pa_cons (pv 0) (pa_cons (pe_cal c_some_cheapest hr (pa_cons (pv 0) (pa_cons (pv 1) pa_nil))) pa_nil))))), ?_⟩
  walk_at "st"
  refine ⟨_, ⟨x, y, z, st, rfl, hx, hz, hy, hst, h0, rfl⟩, fun v H1 e1 hv => ?_⟩
  obtain ⟨f, hf, hm, hv⟩ := hv
  obtain ⟨c, rfl, hc⟩ := hv.of
  refine ⟨_, ⟨x, c, z, f, rfl, Mo.up e1 hx, hz, hc, hf, rfl⟩, fun w H2 e2 hw => q _ _ (e1.tr e2) ⟨_, hm, hw⟩⟩
/-! ### free cells -/
def FreeOk (n : Nat) (st : List (Int × Int)) (cs : List Int) : Prop := 1 ≤ cs.length ∧ cs.length ≤ 3 ∧ cs.Nodup ∧ ∀ c ∈ cs, 0 ≤ c ∧ c < (n : Int) ∧ gt st c = none
def sp_are_free_cells (K : PySem.W.Frag) : Sp := PSp fun vs H R => ∃ (x y v : V) (z : Pz) (st : List (Int × Int)) (cs : List Int), vs = [x, y, v] ∧ rPz K z H x ∧ rFr rPp st H y ∧ StOk z.n st ∧ rIs cs H v ∧ FreeOk z.n st cs ∧ R = rB true
abbrev nN_are_free_cells : List Str := ["puzzle", "start", "value", "cell", "fixed"]
theorem sc_are_free_cells : FnScope nN_are_free_cells ["puzzle", "start", "value"] (defScope s_are_free_cells) := ⟨rfl, rfl, rfl, by decide +kernel, rfl, by decide +kernel, by decide +kernel⟩
theorem ok_are_free_cells {P : Program} {w : World} {K : PySem.W.Frag} {mg : Str → Option Value} {base : Heap} {fd : FuncData} (T : GG K w mg) (F : FunD K "are_free_cells" "are_free_cells" (defArgs s_are_free_cells) (defBody s_are_free_cells) (defScope s_are_free_cells) [] [] (He.fAd K ("are_free_cells", none)) fd) (c_is_below_sides : Cal P w K mg base "is_below_sides" 1 ["value", "many"] (sp_is_below_sides K)) : Cal P w K mg base "are_free_cells" 2 ["puzzle", "start", "value"] (sp_are_free_cells K) := by
  have nd := sc_are_free_cells.nd
  refine cal_of F T.g_are_free_cells (fun _ _ _ _ _ _ us hl => match us, hl with | [_, _, _], _ => rfl) (FunD.ok F sc_are_free_cells (fun vs H Q E h => ?_) (fun cdv A outer s H vs Q E hr h => ?_))
  · obtain ⟨_, ⟨x, y, v, z, st, cs, rfl, hx, hy, hst, hv, hf, rfl⟩, q⟩ := h
    rfl
  obtain ⟨_, ⟨x, y, v, z, st, cs, rfl, hx, hy, hst, hv, hf, rfl⟩, q⟩ := h
  have hu := hu_of hr
  refine ⟨_, PSs.nox (pss_cons (ps_if (PW.pt (pw_or (pt_not (pt_val (pe_bI T.f_isinstance call_isi (pa_cons (pv 2) (pa_cons (pe_ty T.f_tuple bt_tuple) pa_nil))))) (pw_or1 (pt_not (pt_chain op_le op_le pe_int (pe_b_len T.f_len call_len_seq (pa_cons (pv 2) pa_nil)) (pe_gI T.i_MOST_CELLS)))))) (pss_one (ps_ret pe_bl)) pss_nil) (pss_cons (ps_if (pt_not (pt_val (pe_b_all T.f_all (cr_allK (K := K) rfl rfl) (pa_cons (pe_lc (own := [("cell", 3)]) rfl nd (pi_tupK (K := K) rfl (pv 2)) (blkOk_by (own := [("cell", 3)]) (N := nN_are_free_cells) (sc := defScope s_are_free_cells) (by decide +kernel)) (fun _ _ _ _ _ => (pg_name (i := 3) nd rfl (Or.inl rfl))) (fun _ _ _ _ _ => pts_nil) (fun _ _ _ _ _ => (pe_cal c_is_below_sides hr (pa_cons (pv 3) (pa_cons (pe_fldK (K := K) rfl (pv 0) rfl) pa_nil))))) pa_nil)))) (pss_one (ps_ret pe_bl)) pss_nil) (pss_cons (ps_set (i := 4) nd rfl (Or.inr rfl) (pe_b_dict T.f_dict (call_dictT rfl) (pa_cons (pv 1) pa_nil))) (pss_one (ps_ret (pe_and (pe_cmpR op_eq (pe_lenSet T.f_len T.f_set (pv 2)) (pe_b_len T.f_len call_len_seq (pa_cons (pv 2) pa_nil)) (nomark _)) (pe_one (pe_not (pe_b_any T.f_any (cr_any rfl) (pa_cons (pe_lc (own := [("cell", 3)]) rfl nd (pi_tupK (K := K) rfl (pv 2)) (blkOk_by (own := [("cell", 3)]) (N := nN_are_free_cells) (sc := defScope s_are_free_cells) (by decide +kernel)) (fun _ _ _ _ _ => (pg_name (i := 3) nd rfl (Or.inl rfl))) (fun _ _ _ _ _ => pts_nil) (fun _ _ _ _ _ => (pe_cmp (pc_din hu (pv 3) (pv 4)) rfl))) pa_nil)))))))))), ?_⟩
  obtain ⟨o, dx, bk, ti, rfl, ho, hbk, hti⟩ := hx
  obtain ⟨a, ob, ss, rfl, ha, hd, als⟩ := hy
  obtain ⟨c, rfl, hc⟩ := hv.of
  obtain ⟨h1, h3, hnd, hcs⟩ := hf
  walk_at "st"
  refine isi_tt hc ?_
  walk_at "st"
  refine ⟨_, .inr (sq_t hc), ?_⟩
  rw [ints_len]
  rw [if_pos (by omega), if_neg (by simp; omega)]
  refine ⟨⟨_, sq_t hc⟩, ?_⟩
  refine lc_mapN (f := rI) (xs := cs) (rb := rB) (F := fun _ => true) (wk_tup fun H' g => ⟨_, sq_t (g _ _ hc), ints_al _⟩) (by omega) (fun _ => rfl) ?_ ?_
  · rintro i l w H1 K1 hi e1 hv hK
    cases hv
    have hl := hcs l (List.mem_of_getElem? hi)
    walk_at "st"
    refine ⟨_, _, _, e1 _ _ ho, T.c_Puzzle, T.n_Puzzle_cell_count, _, rfl, ?_⟩
    refine ⟨_, ⟨l, (z.n : Int), rfl, rfl⟩, hK _ _ (Ex.rf _) ?_⟩
    show V.bl _ = V.bl true
    rw [decide_eq_true ⟨hl.1, hl.2.1⟩]
  · rintro p H1 hp e1 hr1
    obtain ⟨_, ws, hz1, hp3, al3⟩ := hr1
    cases hz1
    rw [al_bools al3] at hp3
    refine ⟨p, _, rfl, sq_l hp3, ?_⟩
    rw [all_map_id, List.all_eq_true.mpr fun l hl => rfl]
    refine ⟨_, rfl, ?_⟩
    rw [if_neg (by simp)]
    obtain ⟨qs, e1', p1⟩ := paired_st (K := K) (als.up e1)
    refine ⟨qs, ⟨ob, by rw [← e1']; exact e1 _ _ ha, hd⟩, dk st, p1, fun F hF => ?_⟩
    have em : mergeK [] (dk st) = dk st := mergeK_dk st [] (by simpa using st_nodup hst)
    rw [em]
    have f1 := Ex.new (o := .dK (dk st)) hF
    have hF1 : (upd H1 F (.dK (dk st))) F = some (.dK (dk st)) := upd_same
    generalize upd H1 F (.dK (dk st)) = H2 at f1 hF1 ⊢
    have hc2 := (e1.tr f1) _ _ hc
    refine ⟨cs, sq_t hc2, hnd, by omega, _, .inr (sq_t hc2), ?_, ?_⟩
    · rfl
    rw [ints_len, if_pos rfl]
    refine ⟨⟨_, sq_t hc2⟩, ?_⟩
    refine lc_mapN (f := rI) (xs := cs) (rb := rB) (F := fun _ => false) (wk_tup fun H' g => ⟨_, sq_t (g _ _ hc2), ints_al _⟩) (by omega) (fun _ => rfl) ?_ ?_
    · rintro i l w H3 K1 hi e3 hv hK
      cases hv
      have hl := hcs l (List.mem_of_getElem? hi)
      walk_at "st"
      refine ⟨_, dget_k (e3 _ _ hF1) l, hK _ _ (Ex.rf _) ?_⟩
      rw [hl.2.2] <;> rfl
    · rintro p2 H3 hp2 e3 hr3
      obtain ⟨_, ws2, hz2, hp4, al4⟩ := hr3
      cases hz2
      rw [al_bools al4] at hp4
      refine ⟨p2, _, rfl, sq_l hp4, _, rfl, q _ _ ((e1.tr f1).tr e3) ?_⟩
      show V.bl _ = V.bl true
      rw [List.any_map]
      congr 1
      rw [show cs.any (id ∘ fun _ => false) = false from List.any_eq_false.mpr fun _ _ => by simp] <;> rfl
end Cut
end

section
set_option maxHeartbeats 4000000
namespace Cut
open PySem PySem.Spec L2
local macro_rules | `(tactic| walk_at "rd") => `(tactic| dsimp only [tFor_eq, tLc_eq, tLc2_eq, iTup, iList, iRng1, iRng2, iSeq, RZ.iZipA, iEnum, iZipX, iEnumT, iKeys, tTupZip, tLenSet, gFld_app, tLock, tLockE, tCallN, tTup0F, tAsg, tVar, tC, tCmp, tIsN, tNotN, tB, tAnd, tOr, tNot, tAndV, tOrV, tNotV, tIf, tNext, tSeq, tBreak, tCont, tDrop, tRet, tRetN, tIfS, gName_app, gTup_app, gCons_app, gNil_app, gSub_app, tAsg, tAug, tCall, tMeth, tMake, tCons, tNil, tTup, tLst, tCB, tOp, tUn, tTest, tChain, tFld, sFld, sFldAug, tBM, tBM0, tSl, tPart, tNoPart, tDGet, tDIn, tDNotIn, sDPut, sDAug, tDNewK, tDNewT, tDGet2, L2.rI, L2.rI0, L2.rU, rEq, rNe, t2I, ipI, rAdd, rSub, rAppend, tDc_eq, tAugS, cxOf, Cx.nox, Cx.wish])
local macro_rules | `(tactic| walk_at "ex") => `(tactic| simp only [L2.start, List.map_cons, List.map_nil, List.length_cons, List.length_nil, List.replicate_succ, List.replicate_zero, List.cons_append, List.nil_append, List.append_nil, List.getElem?_cons_zero, List.getElem?_cons_succ, List.set_cons_zero, List.set_cons_succ, L2.wipe, Option.some.injEq, V.int.injEq, V.bl.injEq, V.ref.injEq, V.str.injEq, V.ty.injEq, List.cons.injEq, exists_eq_left', exists_eq_left, exists_eq_right, and_true, true_and, and_self, exists_and_left, exists_and_right, exists_const, and_assoc, exists_eq, exists_eq', eq_self_iff_true, if_true, if_false, Bool.false_eq_true, decide_eq_true_eq, ne_eq, reduceCtorEq, not_false_eq_true, Nat.reduceAdd, Nat.reduceSub, Bool.not_true, Bool.not_false, Option.map_some, Option.map_none, Option.isSome_some, Option.isSome_none, Option.getD_some, Option.getD_none])
local macro_rules | `(tactic| walk_at "st") => `(tactic| ((try walk_at "rd"); (try walk_at "ex")))

/-! ### a price is written -/
theorem rcatS {K : PySem.W.Frag} {H : Hp} {Q : VK} {a b : Addr} {xs ys : List V} (ha : SqT K H a xs) (hb : SqT K H b ys) (hl : xs.length + ys.length ≤ 100000) (k : ∀ p H', Ex H H' → SqT K H' p (xs ++ ys) → Q (.ref p) H') : rCatA K (.ref a) (.ref b) H Q := by
  refine ⟨a, b, xs, ys, rfl, rfl, ha, hb, sz (by omega), fun e => ?_, fun _ e => ?_, fun _ _ p hp => ?_⟩
  · subst e
    exact k _ _ (Ex.rf _) hb
  · subst e
    rw [List.append_nil] at k
    exact k _ _ (Ex.rf _) ha
  · exact k _ _ (Ex.new hp) (sq_t upd_same)
theorem al_pairs {H : Hp} : ∀ {ps : List Addr} {cs rs : List Int}, PairsAt H ps (cs.map V.int) (rs.map V.int) → Al (fun w x => rPp x H w) (ps.map V.ref) (cs.zip rs)
  | [], [], [], _ => .nil
  | [], [], _ :: _, h => h.elim
  | [], _ :: _, _, h => h.elim
  | _ :: _, [], _, h => h.elim
  | _ :: _, _ :: _, [], h => h.elim
  | p :: ps, c :: cs, r :: rs, h => .cons ⟨p, _, _, rfl, h.1, rfl, rfl⟩ (al_pairs h.2)
theorem rPp_det {H : Hp} {v : V} {p q : Int × Int} (h : rPp p H v) (k : rPp q H v) : p = q := by
  obtain ⟨a, x, y, rfl, ha, h1, h2⟩ := h
  obtain ⟨b, x', y', e, hb, h3, h4⟩ := k
  cases e
  rw [ha] at hb
  cases hb
  have e1 : V.int p.1 = V.int q.1 := h1.symm.trans h3
  have e2 : V.int p.2 = V.int q.2 := h2.symm.trans h4
  cases p
  cases q
  cases e1
  cases e2
  rfl
noncomputable def kP (H : Hp) (v : V) : List Int := by
  classical
  exact if h : ∃ p : Int × Int, rPp p H v then [h.choose.1, h.choose.2] else []
theorem kP_of {H : Hp} {v : V} {p : Int × Int} (h : rPp p H v) : kP H v = [p.1, p.2] := by
  classical
  have hx : ∃ p : Int × Int, rPp p H v := ⟨p, h⟩
  unfold kP
  rw [dif_pos hx]
  rw [rPp_det hx.choose_spec h]
/-- in the order of the keys -/
theorem sorted_pw {H : Hp} : ∀ {us : List V} {xs : List (Int × Int)}, Al (fun w x => rPp x H w) us xs → us.Pairwise (fun x y => HT.lexLt (kP H y) (kP H x) = false) → (xs.map (·.1)).Nodup → xs.Pairwise (fun p q => p.1 < q.1)
  | _, _, .nil, _, _ => .nil
  | v :: vs, x :: xs, .cons h t, pw, nd => by
    rw [List.pairwise_cons] at pw
    rw [List.map_cons, List.nodup_cons] at nd
    refine .cons (fun y hy => ?_) (sorted_pw t pw.2 nd.2)
    obtain ⟨i, hi⟩ := List.mem_iff_getElem?.mp hy
    obtain ⟨u, hu, hr⟩ := t.get hi
    have h1 := pw.1 u (List.mem_of_getElem? hu)
    rw [kP_of hr, kP_of h, HT.lexLt_cons] at h1
    have hne : y.1 ≠ x.1 := fun z => nd.1 (z ▸ List.mem_map.mpr ⟨y, hy, rfl⟩)
    rw [if_neg hne] at h1
    have := of_decide_eq_false h1
    omega
theorem st_len {n : Nat} {st : List (Int × Int)} (h : StOk n st) : st.length ≤ n := by
  have := nodup_sub_len (m := (List.range n).map fun (k : Nat) => (k : Int)) (st_nodup h) fun c hc => by
    obtain ⟨p, hp, rfl⟩ := List.mem_map.mp hc
    obtain ⟨h0, h1, _⟩ := h.2 p hp
    exact List.mem_map.mpr ⟨p.1.toNat, List.mem_range.mpr (by omega), by omega⟩
  rw [List.length_map, List.length_map, List.length_range] at this
  exact this
def FreeOk' (n : Nat) (st : List (Int × Int)) (cs : List Int) : Prop := FreeOk n st cs
theorem zip_fst {cs row : List Int} (h : cs.length = row.length) : (cs.zip row).map (·.1) = cs := by
  rw [show (fun p : Int × Int => p.1) = Prod.fst from rfl, List.map_fst_zip (by omega)]
theorem st_with {n : Nat} {st st' : List (Int × Int)} {cs row : List Int} (hst : StOk n st) (hf : FreeOk n st cs) (hr : Row row cs.length) (hp : st'.Perm (st ++ cs.zip row)) : (st'.map (·.1)).Nodup ∧ (st'.Pairwise (fun p q => p.1 < q.1) → StOk n st') := by
  constructor
  · rw [(hp.map _).nodup_iff, List.map_append, zip_fst hr.1.symm, List.nodup_append]
    refine ⟨st_nodup hst, hf.2.2.1, fun a ha b hb z => ?_⟩
    subst z
    obtain ⟨p, hp, rfl⟩ := List.mem_map.mp ha
    have := st_gt hst hp
    rw [(hf.2.2.2 _ hb).2.2] at this
    cases this
  · refine fun pw => ⟨pw, fun p hp' => ?_⟩
    rcases List.mem_append.mp (hp.mem_iff.mp hp') with h | h
    · exact hst.2 p h
    · have h1 := hf.2.2.2 p.1 (List.of_mem_zip h).1
      exact ⟨h1.1, h1.2.1, hr.2 p.2 (List.of_mem_zip h).2⟩
theorem keeps_perm {st st' : List (Int × Int)} (h : st'.Perm st) {s : Int → Bool} : Keeps st' s ↔ Keeps st s := ⟨fun k p hp => k p (h.mem_iff.mpr hp), fun k p hp => k p (h.mem_iff.mp hp)⟩
theorem min_perm {z : Pz} {st st' : List (Int × Int)} (h : st'.Perm st) {m : Int} (k : IsMin z st' m) : IsMin z st m := by
  obtain ⟨⟨r, h1, h2, h3⟩, h4⟩ := k
  exact ⟨⟨r, h1, (keeps_perm h).mp h2, h3⟩, fun r h5 h6 => h4 r h5 ((keeps_perm h).mpr h6)⟩
def WrOk (z : Pz) (st : List (Int × Int)) (cs : List Int) (p : PrD) : Prop := p.1 = cs.length ∧ PrOk p ∧ ∀ row, Row row cs.length → IsMin z (st ++ cs.zip row) (cost p row)
def rWr (K : PySem.W.Frag) (z : Pz) (st : List (Int × Int)) (cs : List Int) : Rp := fun H v => ∃ p, WrOk z st cs p ∧ rPr K p H v
def sp_written_price (K : PySem.W.Frag) : Sp := PSp fun vs H R => ∃ (x y v : V) (z : Pz) (st : List (Int × Int)) (cs : List Int), vs = [x, v, y] ∧ rPz K z H x ∧ PzOk z ∧ rFr rPp st H y ∧ StOk z.n st ∧ rIs cs H v ∧ FreeOk z.n st cs ∧ R = rWr K z st cs
abbrev nN_written_price : List Str := ["puzzle", "cells", "start", "amounts", "row"]
theorem sc_written_price : FnScope nN_written_price ["puzzle", "cells", "start"] (defScope s_written_price) := ⟨rfl, rfl, rfl, by decide +kernel, rfl, by decide +kernel, by decide +kernel⟩
theorem ok_written_price {P : Program} {w : World} {K : PySem.W.Frag} {mg : Str → Option Value} {base : Heap} {fd : FuncData} {dv0 : Addr} (T : GG K w mg) (F : FunD K "written_price" "written_price" (defArgs s_written_price) (defBody s_written_price) (defScope s_written_price) [.ref dv0] [] (He.fAd K ("written_price", none)) fd) (c_Price : CalC P w K mg base "Price" (He.ga K "Price") 3 ["self", "size", "amounts"] (sp_Price_init K)) (c_rows_of : Cal P w K mg base "rows_of" 1 ["size"] (sp_rows_of K)) (c_least_total : Cal P w K mg base "least_total" 13 ["puzzle", "start"] (sp_least_total K)) (c_are_free_cells : Cal P w K mg base "are_free_cells" 2 ["puzzle", "start", "value"] (sp_are_free_cells K)) (c_is_start : Cal P w K mg base "is_start" 3 ["puzzle", "value"] (sp_is_start K)) : Cal P w K mg base "written_price" 14 ["puzzle", "cells", "start"] (sp_written_price K) := by
  have nd := sc_written_price.nd
  refine cal_ofD F T.g_written_price (fun _ _ _ _ _ _ _ us its hl hi => match us, hl, its, hi with | [_, _, _], _, [_], _ => ⟨_, rfl, rfl⟩) (FunD.ok F sc_written_price (fun vs H Q E h => ?_) (fun cdv A outer s H vs Q E hr h => ?_))
  · obtain ⟨_, ⟨x, y, v, z, st, cs, rfl, hx, hz, hy, hst, hv, hf, rfl⟩, q⟩ := h
    rfl
  obtain ⟨_, ⟨x, y, v, z, st, cs, rfl, hx, hz, hy, hst, hv, hf, rfl⟩, q⟩ := h
  have hu := hu_of hr
  refine ⟨_, PSs.nox (pss_cons (ps_if (pt_not (pt_val (pe_cal c_is_start hr (pa_cons (pv 0) (pa_cons (pv 2) pa_nil))))) (pss_one ps_never) pss_nil) (pss_cons (ps_if (pt_not (pt_val (pe_cal c_are_free_cells hr (pa_cons (pv 0) (pa_cons (pv 2) (pa_cons (pv 1) pa_nil)))))) (pss_one ps_never) pss_nil) (pss_cons (ps_set (i := 3) nd rfl (Or.inl rfl) (pe_lst pa_nil)) (pss_cons (ps_for PassesOwn.never rfl (pi_listK (K := K) rfl (pe_cal c_rows_of hr (pa_cons (pe_b_len T.f_len call_len_seq (pa_cons (pv 1) pa_nil)) pa_nil))) (pg_name (i := 4) nd rfl (Or.inl rfl)) (pss_one (ps_expr (pe_bm PySem.F.plainAttrs_list PySem.F.slot_list_append PySem.F.type_list_append mt_append (pv 3) (pa_cons (pe_cal c_least_total hr (pa_cons (pv 0) (pa_cons (pe_b_tuple T.f_tuple call_tuple_ofF (pa_cons (pe_b_sorted T.f_sorted (cr_sorted3 (h16 hr)) (pa_cons (pe_op (op_catAK (K := K) rfl) (pv 2) (pe_tupZip T.f_tuple T.f_zip (pa_cons (pv 1) (pa_cons (pv 4) pa_nil)))) pa_nil)) pa_nil)) pa_nil))) pa_nil))))) (pss_one (ps_ret (pe_calC c_Price hr (pa_cons (pe_b_len T.f_len call_len_seq (pa_cons (pv 1) pa_nil)) (pa_cons (pv 3) pa_nil))))))))), ?_⟩
  obtain ⟨c, rfl, hc⟩ := hv.of
  walk_at "st"
  refine ⟨_, ⟨x, y, z, st, rfl, hx, hy, hst, rfl⟩, ?_⟩
  walk_at "st"
  refine ⟨_, ⟨x, y, _, z, st, cs, rfl, hx, hy, hst, hv, hf, rfl⟩, fun w H1 e1 hw => ?_⟩
  cases hw
  walk_at "st"
  refine ⟨by decide, fun B hB => ?_⟩
  have e2 := Ex.new (o := .lst []) hB
  have hB2 : (upd H1 B (.lst [])) B = some (.lst (([] : List Int).map V.int)) := upd_same
  have hBH : H B = none := e1.back hB
  have e02 := e1.tr e2
  generalize upd H1 B (.lst []) = H2 at e2 hB2 e02 ⊢
  refine ⟨_, .inr (sq_t (e02 _ _ hc)), ?_⟩
  rw [ints_len]
  refine ⟨cs.length, rfl, by have := hf.2.1; omega, fun a H3 ha e3 hrows => ?_⟩
  obtain ⟨_, us, hzz, ha3, alr⟩ := hrows
  cases hzz
  have hB3 := e3 _ _ hB2
  have e03 := e02.tr e3
  have nab : a ≠ B := (ne_of_none hB2 ha).symm
  have zx : ∀ {H'}, But B H3 H' → Zx H3 H' := fun b => b.zx hB3 (fun q => q)
  have ex0 : ∀ {H'}, But B H3 H' → Ex H H' := fun b => But.ex e03 b hBH
  have hrl : (rows cs.length).length ≤ 8 := by
    rw [rows_len]
    exact Nat.pow_le_pow_right (n := 2) (by decide) hf.2.1
  walk_at "st"
  refine ⟨⟨_, sq_l ha3⟩, ?_⟩
  refine for_gen (f := rIs) (xs := rows cs.length) (G := fun H' => But B H3 H') (wk_lst fun H' g => ⟨us, sq_l (g _ _ nab ha3), alr.upZ (zx g)⟩) (fun i σ' H' => But B H3 H' ∧ ∃ (am : List Int) (y4 : Option V), σ' = [some x, some (.ref c), some y, some (.ref B), y4] ∧ H' B = some (.lst (am.map V.int)) ∧ am.length = i ∧ ∀ (j : Nat) (row : List Int), j < i → (rows cs.length)[j]? = some row → IsMin z (st ++ cs.zip row) (am.getD j 0)) ⟨But.rf _ _, [], _, rfl, hB3, rfl, fun j _ hj => absurd hj (Nat.not_lt_zero j)⟩ (fun _ _ _ _ h => h.1) ?_ ?_
  · rintro i row vv σ' H4 H5 hi ⟨b4, am, y4, rfl, hB4, hal, hmin⟩ e5 hv5
    obtain ⟨d, rfl, hd⟩ := hv5.of
    have hrow := rows_at hi
    have e05 : Ex H H5 := (ex0 b4).tr e5
    have hy5 := Mo.up e05 hy
    obtain ⟨ya, ob, ss, rfl, hya, hyd, als⟩ := hy5
    walk_at "st"
    refine ⟨.inl ⟨rfl, _, sq_l (e5 _ _ hB4)⟩, ?_⟩
    refine ⟨_, sq_t (e05 _ _ hc), _, sq_t hd, by rw [ints_len, ints_len, hrow.1], fun t ps H6 e6 ht hps => ?_⟩
    have alz := al_pairs hps
    refine rcatS (sq_f (e6 _ _ hya)) (sq_t ht) ?_ fun p H7 e7 hp => ?_
    · have h1 := als.len
      have h2 := alz.len
      have h3 := st_len hst
      have h4 := hz.2.1
      have h5 := hf.2.1
      rw [List.length_zip] at h2
      omega
    have al7 : Al (fun w x => rPp x H7 w) (ss ++ ps.map V.ref) (st ++ cs.zip row) := (als.up (e6.tr e7)).app (alz.up e7)
    refine ⟨p, _, kP H7, rfl, .inr hp, fun w hw => ?_, fun ys p2 hs hp2 => ?_⟩
    · obtain ⟨pp, _, hr⟩ := al_mem al7 hw
      rw [kP_of hr]
      obtain ⟨tt, _, _, rfl, htt, h1, h2⟩ := hr
      cases h1
      cases h2
      exact ⟨tt, rfl, sq_t htt⟩
    obtain ⟨st', hperm, al'⟩ := al_perm hs.1 al7
    obtain ⟨nd', mk'⟩ := st_with hst hf hrow hperm
    have hst' := mk' (sorted_pw al' hs.2 nd')
    have e8 := Ex.new (o := .lst ys) hp2
    refine ⟨p2, rfl, ys, sq_l upd_same, fun l o ho hl => ?_⟩
    have e9 := Ex.new (o := .frz o (.tup ys)) hl
    have e59 := ((e6.tr e7).tr e8).tr e9
    refine ⟨_, ⟨x, .ref l, z, st', rfl, Mo.up (e05.tr e59) hx, hz, ⟨l, o, ys, rfl, upd_same, ho, al'.up (e8.tr e9)⟩, hst', ?_, rfl⟩, fun w HA eA hw => ?_⟩
    · have h1 := hperm.length_eq
      rw [List.length_append, List.length_zip, hrow.1] at h1
      have := hf.1
      omega
    obtain ⟨m, hm, rfl⟩ := hw
    have hBA : HA B = some (.lst (am.map V.int)) := eA _ _ (e59 _ _ (e5 _ _ hB4))
    refine ⟨_, hBA, ?_, ?_⟩
    · rw [ints_len, hal]
      have := (List.getElem?_eq_some_iff.mp hi).1
      exact szl (by omega)
    refine ⟨((b4.tr (e5.tr (e59.tr eA)).but).tr But.mut), am ++ [m], ?_, ?_, ?_⟩
    · rw [List.map_append] <;> exact upd_same
    · rw [List.length_append, hal] <;> rfl
    · intro j r hj hr
      by_cases c : j < i
      · have := hmin j r c hr
        rw [List.getD_eq_getElem?_getD, List.getElem?_append_left (by omega), ← List.getD_eq_getElem?_getD]
        exact this
      · have : j = i := by omega
        subst this
        rw [hi] at hr
        cases hr
        rw [List.getD_eq_getElem?_getD, ← hal, List.getElem?_concat_length]
        exact min_perm hperm hm
  · rintro σ' H4 ⟨b4, am, y4, rfl, hB4, hal, hmin⟩
    have hp : PrOk (cs.length, am) := ⟨hf.1, hf.2.1, by rw [← rows_len]; exact hal⟩
    walk_at "st"
    refine ⟨_, .inr (sq_t (ex0 b4 _ _ hc)), ?_⟩
    rw [ints_len]
    refine mk_Price (p := (cs.length, am)) (.inl hB4) hp fun v H5 e5 hv => q _ _ ((ex0 b4).tr e5) ⟨_, ⟨rfl, hp, fun row hr => ?_⟩, hv⟩
    obtain ⟨j, hj⟩ := List.mem_iff_getElem?.mp (mem_rows _ _ hr)
    have h1 := hmin j row (List.getElem?_eq_some_iff.mp hj).1 hj
    have h2 := rows_num _ j row hj
    unfold cost
    rw [h2, Int.toNat_natCast]
    exact h1
end Cut
end

section
set_option maxHeartbeats 4000000
namespace Cut
open PySem PySem.Spec L2
local macro_rules | `(tactic| walk_at "rd") => `(tactic| dsimp only [tFor_eq, tLc_eq, tLc2_eq, iTup, iList, iRng1, iRng2, iSeq, RZ.iZipA, iEnum, iZipX, iEnumT, iKeys, tTupZip, tLenSet, gFld_app, tLock, tLockE, tCallN, tTup0F, tAsg, tVar, tC, tCmp, tIsN, tNotN, tB, tAnd, tOr, tNot, tAndV, tOrV, tNotV, tIf, tNext, tSeq, tBreak, tCont, tDrop, tRet, tRetN, tIfS, gName_app, gTup_app, gCons_app, gNil_app, gSub_app, tAsg, tAug, tCall, tMeth, tMake, tCons, tNil, tTup, tLst, tCB, tOp, tUn, tTest, tChain, tFld, sFld, sFldAug, tBM, tBM0, tSl, tPart, tNoPart, tDGet, tDIn, tDNotIn, sDPut, sDAug, tDNewK, tDNewT, tDGet2, L2.rI, L2.rI0, L2.rU, rEq, rNe, t2I, ipI, rAdd, rSub, rAppend, tAugS, cxOf, Cx.nox, Cx.wish])
local macro_rules | `(tactic| walk_at "ex") => `(tactic| simp only [L2.start, List.map_cons, List.map_nil, List.length_cons, List.length_nil, List.replicate_succ, List.replicate_zero, List.cons_append, List.nil_append, List.append_nil, List.getElem?_cons_zero, List.getElem?_cons_succ, List.set_cons_zero, List.set_cons_succ, L2.wipe, Option.some.injEq, V.int.injEq, V.bl.injEq, V.ref.injEq, V.str.injEq, V.ty.injEq, List.cons.injEq, exists_eq_left', exists_eq_left, exists_eq_right, and_true, true_and, and_self, exists_and_left, exists_and_right, exists_const, and_assoc, exists_eq, exists_eq', eq_self_iff_true, if_true, if_false, Bool.false_eq_true, decide_eq_true_eq, ne_eq, reduceCtorEq, not_false_eq_true, Nat.reduceAdd, Nat.reduceSub, Bool.not_true, Bool.not_false, Option.map_some, Option.map_none, Option.isSome_some, Option.isSome_none, Option.getD_some, Option.getD_none])
local macro_rules | `(tactic| walk_at "st") => `(tactic| ((try walk_at "rd"); (try walk_at "ex")))

/-! ### the hand: a list of the draws and a place -/
def Hd (a d : Addr) (xs : List Int) (H : Hp) : Prop := (∃ i : Int, 0 ≤ i ∧ H a = some (.lst [.ref d, .int i])) ∧ H d = some (.lst (xs.map V.int))
def Hx (a d : Addr) (H H' : Hp) : Prop := But a H H' ∧ ∃ i : Int, 0 ≤ i ∧ H' a = some (.lst [.ref d, .int i])
theorem Hd.ne {a d : Addr} {xs : List Int} {H : Hp} (h : Hd a d xs H) : d ≠ a := fun e => by
  obtain ⟨⟨i, _, h1⟩, h2⟩ := h
  rw [e, h1] at h2
  match xs, h2 with
  | [], h2 => cases h2
  | x :: _, h2 => cases h2
theorem Hd.x {a d : Addr} {xs : List Int} {H H' : Hp} (h : Hd a d xs H) (k : Hx a d H H') : Hd a d xs H' := ⟨k.2, k.1 _ _ h.ne h.2⟩
theorem Hd.rf {a d : Addr} {xs : List Int} {H : Hp} (h : Hd a d xs H) : Hx a d H H := ⟨But.rf _ _, h.1⟩
theorem Hx.tr {a d : Addr} {H H1 H2 : Hp} (h : Hx a d H H1) (k : Hx a d H1 H2) : Hx a d H H2 := ⟨h.1.tr k.1, k.2⟩
theorem Hd.ex {a d : Addr} {xs : List Int} {H H' : Hp} (h : Hd a d xs H) (e : Ex H H') : Hx a d H H' := by
  obtain ⟨⟨i, h1, h2⟩, _⟩ := h
  exact ⟨e.but, i, h1, e _ _ h2⟩
theorem Hd.up {a d : Addr} {xs : List Int} {H H' : Hp} (h : Hd a d xs H) (e : Ex H H') : Hd a d xs H' := h.x (h.ex e)
theorem Hd.zx {a d : Addr} {xs : List Int} {H H' : Hp} (h : Hd a d xs H) (k : Hx a d H H') : Zx H H' := by
  obtain ⟨⟨i, h1, h2⟩, _⟩ := h
  exact k.1.zx h2 (fun q => q)
theorem Hx.mut {a d p : Addr} {H H' : Hp} {o : HO} (k : Hx a d H H') (h : H p = none) (hp : p ≠ a) : Hx a d H (upd H' p o) := by
  obtain ⟨b, i, h1, h2⟩ := k
  refine ⟨fun x u n hx => ?_, i, h1, ?_⟩
  · rw [upd_ne (ne_of_none hx h)]
    exact b x u n hx
  · rw [upd_ne hp.symm]
    exact h2
def sp_law_take (K : PySem.W.Frag) : Sp := fun vs H Q _ => ∃ (a d : Addr) (xs : List Int) (m : Int), vs = [.ref a, .int m] ∧ 0 < m ∧ Hd a d xs H ∧ ∀ k H', 0 ≤ k → k < m → Hx a d H H' → Q (.int k) H'
abbrev nN_law_take : List Str := ["_law_hand", "_law_many", "_law_at_here", "_law_draws_here"]
theorem sc_law_take : FnScope nN_law_take ["_law_hand", "_law_many"] (defScope s_law_take) := ⟨rfl, rfl, rfl, by decide +kernel, rfl, by decide +kernel, by decide +kernel⟩
theorem ok_law_take {P : Program} {w : World} {K : PySem.W.Frag} {mg : Str → Option Value} {base : Heap} {fd : FuncData} (T : GG K w mg) (F : FunD K "_law_take" "_law_take" (defArgs s_law_take) (defBody s_law_take) (defScope s_law_take) [] [] (He.fAd K ("_law_take", none)) fd)  : Cal P w K mg base "_law_take" 1 ["_law_hand", "_law_many"] (sp_law_take K) := by
  have nd := sc_law_take.nd
  refine cal_of F T.g_law_take (fun _ _ _ _ _ _ us hl => match us, hl with | [_, _], _ => rfl) (FunD.ok F sc_law_take (fun vs H Q E h => ?_) (fun cdv A outer s H vs Q E hr h => ?_))
  · obtain ⟨a, d, xs, m, rfl, hm, hh, q⟩ := h
    rfl
  obtain ⟨a, d, xs, m, rfl, hm, hh, q⟩ := h
  have hu := hu_of hr
  refine ⟨_, PSs.nox (pss_cons (ps_set (i := 2) nd rfl (Or.inl rfl) (pe_ix (ix_listK (K := K) rfl) (pv 0) pe_int (fun _ _ => rfl))) (pss_cons (ps_asg (pe_op op_add (pv 2) pe_int) (pg_sub (pv 0) pe_int set_list)) (pss_cons (ps_set (i := 3) nd rfl (Or.inl rfl) (pe_ix (ix_listK (K := K) rfl) (pv 0) pe_int (fun _ _ => rfl))) (pss_cons (ps_if (pt_cmpR op_ge (pv 2) (pe_b_len T.f_len call_len_seq (pa_cons (pv 3) pa_nil)) (nomark _)) (pss_one (ps_ret pe_int)) pss_nil) (pss_one (ps_ret (pe_op op_mod (pe_op op_fdiv (pe_b_int T.f_int call_int1 (pa_cons (pe_ix (ix_listK (K := K) rfl) (pv 3) (pv 2) (fun _ _ => rfl)) pa_nil)) pe_int) (pv 1)))))))), ?_⟩
  obtain ⟨⟨i, hi, ha⟩, hd⟩ := id hh
  walk_at "st"
  refine ixL (sq_l ha) (by decide) rfl ?_
  walk_at "st"
  refine ⟨a, _, 1, 1, rfl, rfl, ha, rfl, ?_⟩
  have hx : Hx a d H (upd H a (.lst (([V.ref d, V.int i] : List V).set 1 (V.int (i + 1))))) := ⟨But.mut, i + 1, by omega, upd_same⟩
  have hh1 := hh.x hx
  generalize upd H a (.lst (([V.ref d, V.int i] : List V).set 1 (V.int (i + 1)))) = H1 at hx hh1 ⊢
  obtain ⟨⟨j, hj, ha1⟩, hd1⟩ := hh1
  refine ixL (sq_l ha1) (by decide) rfl ?_
  refine ⟨d, rfl, _, .inl (sq_l hd1), ?_⟩
  rw [ints_len]
  by_cases hl : (xs.length : Int) ≤ i
  · rw [if_pos hl]
    exact q 0 _ (Int.le_refl _) hm hx
  · rw [if_neg hl]
    obtain ⟨v, hv⟩ : ∃ v, xs[i.toNat]? = some v := ⟨_, List.getElem?_eq_getElem (by omega)⟩
    refine ixL (sq_l hd1) hi (map_at hv) ?_
    exact .inl ⟨v, rfl, ⟨by decide, by decide⟩, hm, q _ _ (Int.emod_nonneg _ (by omega)) (Int.emod_lt_of_pos _ hm) hx⟩
theorem take_of {K : PySem.W.Frag} {a d : Addr} {xs : List Int} {m : Int} {H : Hp} {Q : VK} {E : XK} (hm : 0 < m) (h : Hd a d xs H) (q : ∀ k H', 0 ≤ k → k < m → Hx a d H H' → Q (.int k) H') : sp_law_take K [.ref a, .int m] H Q E := ⟨a, d, xs, m, rfl, hm, h, q⟩
def sp_law_amount (K : PySem.W.Frag) : Sp := fun vs H Q _ => ∃ (a d : Addr) (xs : List Int), vs = [.ref a] ∧ Hd a d xs H ∧ ∀ k H', -99 ≤ k → k ≤ 99 → Hx a d H H' → Q (.int k) H'
abbrev nN_law_amount : List Str := ["_law_hand"]
theorem sc_law_amount : FnScope nN_law_amount ["_law_hand"] (defScope s_law_amount) := ⟨rfl, rfl, rfl, by decide +kernel, rfl, by decide +kernel, by decide +kernel⟩
theorem ok_law_amount {P : Program} {w : World} {K : PySem.W.Frag} {mg : Str → Option Value} {base : Heap} {fd : FuncData} (T : GG K w mg) (F : FunD K "_law_amount" "_law_amount" (defArgs s_law_amount) (defBody s_law_amount) (defScope s_law_amount) [] [] (He.fAd K ("_law_amount", none)) fd) (c_law_take : Cal P w K mg base "_law_take" 1 ["_law_hand", "_law_many"] (sp_law_take K)) : Cal P w K mg base "_law_amount" 2 ["_law_hand"] (sp_law_amount K) := by
  have nd := sc_law_amount.nd
  refine cal_of F T.g_law_amount (fun _ _ _ _ _ _ us hl => match us, hl with | [_], _ => rfl) (FunD.ok F sc_law_amount (fun vs H Q E h => ?_) (fun cdv A outer s H vs Q E hr h => ?_))
  · obtain ⟨a, d, xs, rfl, hh, q⟩ := h
    rfl
  obtain ⟨a, d, xs, rfl, hh, q⟩ := h
  have hu := hu_of hr
  refine ⟨_, PSs.nox (pss_one (ps_ret (pe_ix (ix_listK (K := K) rfl) (pe_lst (pa_cons (pe_op op_sub (pe_cal c_law_take hr (pa_cons (pv 0) (pa_cons pe_int pa_nil))) pe_int) (pa_cons (pe_op op_sub (pe_cal c_law_take hr (pa_cons (pv 0) (pa_cons pe_int pa_nil))) pe_int) (pa_cons (pe_op op_sub (pe_cal c_law_take hr (pa_cons (pv 0) (pa_cons pe_int pa_nil))) pe_int) pa_nil)))) (pe_cal c_law_take hr (pa_cons (pv 0) (pa_cons pe_int pa_nil))) (fun _ _ => rfl)))), ?_⟩
  walk_at "st"
  refine take_of (by decide) hh fun i H1 i0 i1 h1 => ⟨i, rfl, take_of (by decide) (hh.x h1) fun j H2 j0 j1 h2 => ⟨j, rfl, take_of (by decide) ((hh.x h1).x h2) fun k H3 k0 k1 h3 => ⟨k, rfl, by decide, fun p hp => ?_⟩⟩⟩
  have h03 := (h1.tr h2).tr h3
  have hh4 := (hh.x h03).up (Ex.new (o := .lst [V.int (i - 2), V.int (j - 2), V.int (k - 99)]) hp)
  have npa : p ≠ a := by
    obtain ⟨⟨_, _, h⟩, _⟩ := hh.x h03
    exact ne_of_none' hp h
  refine take_of (by decide) hh4 fun l H4 l0 l1 h4 => ?_
  have hx4 := (h03.tr ((hh.x h03).ex (Ex.new hp))).tr h4
  have hp4 := h4.1 _ _ npa upd_same
  have hl : l = 0 ∨ l = 1 ∨ l = 2 := by omega
  rcases hl with rfl | rfl | rfl
  · exact ixL (sq_l hp4) (by decide) rfl (q _ _ (by omega) (by omega) hx4)
  · exact ixL (sq_l hp4) (by decide) rfl (q _ _ (by omega) (by omega) hx4)
  · exact ixL (sq_l hp4) (by decide) rfl (q _ _ (by omega) (by omega) hx4)
theorem amount_of {K : PySem.W.Frag} {a d : Addr} {xs : List Int} {H : Hp} {Q : VK} {E : XK} (h : Hd a d xs H) (q : ∀ k H', -99 ≤ k → k ≤ 99 → Hx a d H H' → Q (.int k) H') : sp_law_amount K [.ref a] H Q E := ⟨a, d, xs, rfl, h, q⟩
def sp_law_at (K : PySem.W.Frag) : Sp := sp_number_of K
abbrev nN_law_at : List Str := ["_law_row", "_law_at_here", "_law_value"]
theorem sc_law_at : FnScope nN_law_at ["_law_row"] (defScope s_law_at) := ⟨rfl, rfl, rfl, by decide +kernel, rfl, by decide +kernel, by decide +kernel⟩
theorem ok_law_at {P : Program} {w : World} {K : PySem.W.Frag} {mg : Str → Option Value} {base : Heap} {fd : FuncData} (T : GG K w mg) (F : FunD K "_law_at" "_law_at" (defArgs s_law_at) (defBody s_law_at) (defScope s_law_at) [] [] (He.fAd K ("_law_at", none)) fd)  : Cal P w K mg base "_law_at" 1 ["_law_row"] (sp_law_at K) := by
  have nd := sc_law_at.nd
  refine cal_of F T.g_law_at (fun _ _ _ _ _ _ us hl => match us, hl with | [_], _ => rfl) (FunD.ok F sc_law_at (fun vs H Q E h => ?_) (fun cdv A outer s H vs Q E hr h => ?_))
  · obtain ⟨_, ⟨a, ns, rfl, ha, rfl⟩, q⟩ := h
    rfl
  obtain ⟨_, ⟨a, ns, rfl, ha, rfl⟩, q⟩ := h
  have hu := hu_of hr
  refine ⟨_, PSs.nox (pss_cons (ps_set (i := 1) nd rfl (Or.inl rfl) pe_int) (pss_cons (ps_for PassesOwn.never rfl (pi_seq (pv 0)) (pg_name (i := 2) nd rfl (Or.inl rfl)) (pss_one (ps_set (i := 1) nd rfl (Or.inl rfl) (pe_op op_add (pe_op op_mul pe_int (pv 1)) (pv 2))))) (pss_one (ps_ret (pv 1))))), ?_⟩
  walk_at "st"
  refine for_seq (f := rI) (xs := ns) (G := fun H' => H' = H) ?_ (fun i σ' H' => H' = H ∧ ∃ x, σ' = [some (.ref a), some (.int (num (ns.take i))), x]) ⟨rfl, _, rfl⟩ (fun _ _ _ _ h => h.1) ?_ ?_
  · exact ha.imp (fun h H' g => ⟨_, by rw [g]; exact sq_l h, ints_al ns⟩) (fun h H' g => ⟨_, by rw [g]; exact sq_t h, ints_al ns⟩)
  · rintro i x v σ' H1 hx ⟨rfl, y, rfl⟩ hv
    cases hv
    walk_at "st"
    rw [num_take hx]
    exact ⟨.inl (by decide), rfl⟩
  · rintro σ' H' ⟨rfl, y, rfl⟩
    rw [List.take_length]
    walk_at "st"
    exact q
def sp_law_rows (K : PySem.W.Frag) : Sp := sp_rows_of K
abbrev nN_law_rows : List Str := ["_law_many", "_law_rows_here", "_law_k", "_law_longer", "_law_row"]
theorem sc_law_rows : FnScope nN_law_rows ["_law_many"] (defScope s_law_rows) := ⟨rfl, rfl, rfl, by decide +kernel, rfl, by decide +kernel, by decide +kernel⟩
theorem ok_law_rows {P : Program} {w : World} {K : PySem.W.Frag} {mg : Str → Option Value} {base : Heap} {fd : FuncData} (T : GG K w mg) (F : FunD K "_law_rows" "_law_rows" (defArgs s_law_rows) (defBody s_law_rows) (defScope s_law_rows) [] [] (He.fAd K ("_law_rows", none)) fd)  : Cal P w K mg base "_law_rows" 1 ["_law_many"] (sp_law_rows K) := by
  have nd := sc_law_rows.nd
  refine cal_of F T.g_law_rows (fun _ _ _ _ _ _ us hl => match us, hl with | [_], _ => rfl) (FunD.ok F sc_law_rows (fun vs H Q E h => ?_) (fun cdv A outer s H vs Q E hr h => ?_))
  · obtain ⟨n, rfl, hn, q⟩ := h
    rfl
  obtain ⟨n, rfl, hn, q⟩ := h
  have hu := hu_of hr
  refine ⟨_, PSs.nox (pss_cons (ps_set (i := 1) nd rfl (Or.inl rfl) (pe_lst (pa_cons (pe_tup pa_nil) pa_nil))) (pss_cons (ps_for PassesOwn.never rfl (pi_range1 rfl T.f_range (pa_cons (pv 0) pa_nil)) (pg_name (i := 2) nd rfl (Or.inl rfl)) (pss_cons (ps_set (i := 3) nd rfl (Or.inl rfl) (pe_lst pa_nil)) (pss_cons (ps_for PassesOwn.never rfl (pi_listK (K := K) rfl (pv 1)) (pg_name (i := 4) nd rfl (Or.inl rfl)) (pss_one (ps_set (i := 3) nd rfl (Or.inl rfl) (pe_op op_cat (pv 3) (pe_lst (pa_cons (pe_op (op_catAK (K := K) rfl) (pv 4) (pe_tup (pa_cons pe_int pa_nil))) (pa_cons (pe_op (op_catAK (K := K) rfl) (pv 4) (pe_tup (pa_cons pe_int pa_nil))) pa_nil))))))) (pss_one (ps_set (i := 1) nd rfl (Or.inl rfl) (pv 3)))))) (pss_one (ps_ret (pv 1))))), ?_⟩
  walk_at "st"
  refine ⟨by decide, fun p hp => ⟨by decide, fun p1 hp1 => ⟨by omega, by omega, ?_⟩⟩⟩
  rw [Int.toNat_natCast]
  have e1 : Ex H (upd (upd H p (.tup [])) p1 (.lst [.ref p])) := (Ex.new hp).tr (Ex.new hp1)
  have np : p ≠ p1 := fun z => by
    rw [z, upd_same] at hp1
    cases hp1
  refine for_s (ws_rng0 (n := n) (G := fun _ => True)) (fun i σ' H' => ∃ a x2 x3 x4, σ' = [some (.int n), some (.ref a), x2, x3, x4] ∧ H a = none ∧ Ex H H' ∧ rLi rIs (rows i) H' (.ref a)) ?_ (fun _ _ _ _ _ => True.intro) ?_ ?_
  · exact ⟨p1, _, _, _, rfl, (Ex.new hp).back hp1, e1, rLi.mk upd_same (.cons (rIs.mk (ns := []) (by rw [upd_ne np]; exact upd_same)) .nil)⟩
  · rintro i x v σ' H1 hx ⟨a, x2, x3, x4, rfl, na, e, hr⟩ hv
    cases hv
    obtain ⟨_, vs, hz, ha, al⟩ := hr
    cases hz
    have hi : i < n := by
      have q := (List.getElem?_eq_some_iff.mp hx).1
      rw [List.length_range] at q
      exact q
    walk_at "st"
    refine ⟨by decide, fun c hc => ⟨⟨_, sq_l (Ex.new hc _ _ ha)⟩, ?_⟩⟩
    have e2 := Ex.new (o := .lst []) hc
    refine for_gen (f := rIs) (xs := rows i) (G := fun H' => Ex H1 H') (wk_lst fun H' g => ⟨vs, sq_l (g _ _ ha), al.up g⟩) (fun j σ' H' => Ex H1 H' ∧ ∃ c x4, σ' = [some (.int n), some (.ref a), some (.int x), some (.ref c), x4] ∧ H1 c = none ∧ rLi rIs (((rows i).take j).flatMap fun r => [r ++ [0], r ++ [1]]) H' (.ref c)) ⟨e2, c, _, rfl, hc, rLi.mk upd_same .nil⟩ (fun _ _ _ _ h => h.1) ?_ ?_
    · rintro j r v σ' H2 H3 hj ⟨e3, c, y4, rfl, hc, hr2⟩ e4 hv
      obtain ⟨b, rfl, hb⟩ := hv.of
      obtain ⟨_, us, hz, hc2, al2⟩ := Mo.up e4 hr2
      cases hz
      have hrl : r.length ≤ 8 := by
        have := (rows_row i r (List.mem_of_getElem? hj)).1
        omega
      walk_at "st"
      refine ⟨by decide, fun t0 ht0 => ?_⟩
      refine rcat (Ex.new ht0 _ _ hb) upd_same (by rw [ints_len]; simp; omega) fun p H4 e5 hp4 => ?_
      refine ⟨by decide, fun t1 ht1 => ?_⟩
      refine rcat (Ex.new ht1 _ _ (e5 _ _ (Ex.new ht0 _ _ hb))) upd_same (by rw [ints_len]; simp; omega) fun p' H5 e6 hp5 => ?_
      refine ⟨by decide, fun l hl => ?_⟩
      have e7 := ((Ex.new ht0).tr e5).tr ((Ex.new ht1).tr e6)
      have e8 := Ex.new (o := .lst [V.ref p, V.ref p']) hl
      refine ⟨c, l, us, [V.ref p, V.ref p'], rfl, rfl, (e7.tr e8) _ _ hc2, upd_same, ?_, fun l2 hl2 => ?_⟩
      · have h1 := al2.len
        have h2 := rows_lenB (n := i + 1) (by omega)
        have h3 : ((rows i).take j).length ≤ 256 := Nat.le_trans (List.length_take_le _ _) (by
          have h4 := rows_len i
          have : 2 ^ i ≤ 2 ^ 8 := Nat.pow_le_pow_right (n := 2) (by decide) (by omega)
          have h5 : (rows i).length ≤ 256 := by omega
          have h6 := List.length_take_le j (rows i)
          have h7 := (List.getElem?_eq_some_iff.mp hj).1
          omega)
        have h4 : (((rows i).take j).flatMap fun r => [r ++ [0], r ++ [1]]).length = ((rows i).take j).length * 2 := by
          generalize (rows i).take j = l
          induction l with
          | nil => rfl
          | cons x l ih => rw [List.flatMap_cons, List.length_append, ih, List.length_cons]; simp only [List.length_cons, List.length_nil]; omega
        refine sz ?_
        simp only [List.length_cons, List.length_nil]
        omega
      · have e9 := Ex.new (o := .lst (us ++ [V.ref p, V.ref p'])) hl2
        have e10 := (e7.tr e8).tr e9
        refine ⟨e3.tr (e4.tr e10), ?_⟩
        refine ⟨l2, rfl, (e3.tr (e4.tr (e7.tr e8))).back hl2, ?_⟩
        rw [flat_take _ hj]
        refine rLi.mk upd_same ((al2.up e10).app (.cons (rIs.mk ?_) (.cons (rIs.mk ?_) .nil)))
        · have := ((Ex.new ht1).tr e6 |>.tr e8 |>.tr e9) _ _ hp4
          rw [show [V.int 0] = [(0 : Int)].map V.int from rfl, ints_app] at this
          exact this
        · have := (e8.tr e9) _ _ hp5
          rw [show [V.int 1] = [(1 : Int)].map V.int from rfl, ints_app] at this
          exact this
    · rintro σ' H2 ⟨e3, c, y4, rfl, hc, hr2⟩
      rw [List.take_length] at hr2
      walk_at "st"
      exact ⟨e.back hc, e.tr e3, hr2⟩
  · rintro σ' H' ⟨a, x2, x3, x4, rfl, na, e, hr⟩
    rw [List.length_range] at hr
    walk_at "st"
    exact q _ _ na e hr
end Cut
end

section
set_option maxHeartbeats 4000000
namespace Cut
open PySem PySem.Spec L2
local macro_rules | `(tactic| walk_at "rd") => `(tactic| dsimp only [tFor_eq, tLc_eq, tLc2_eq, iTup, iList, iRng1, iRng2, iSeq, RZ.iZipA, iEnum, iZipX, iEnumT, iKeys, tTupZip, tLenSet, gFld_app, tLock, tLockE, tCallN, tTup0F, tAsg, tVar, tC, tCmp, tIsN, tNotN, tB, tAnd, tOr, tNot, tAndV, tOrV, tNotV, tIf, tNext, tSeq, tBreak, tCont, tDrop, tRet, tRetN, tIfS, gName_app, gTup_app, gCons_app, gNil_app, gSub_app, tAsg, tAug, tCall, tMeth, tMake, tCons, tNil, tTup, tLst, tCB, tOp, tUn, tTest, tChain, tFld, sFld, sFldAug, tBM, tBM0, tSl, tPart, tNoPart, tDGet, tDIn, tDNotIn, sDPut, sDAug, tDNewK, tDNewT, tDGet2, L2.rI, L2.rI0, L2.rU, rEq, rNe, t2I, ipI, rAdd, rSub, rAppend, tAugS, cxOf, Cx.nox, Cx.wish])
local macro_rules | `(tactic| walk_at "ex") => `(tactic| simp only [L2.start, List.map_cons, List.map_nil, List.length_cons, List.length_nil, List.replicate_succ, List.replicate_zero, List.cons_append, List.nil_append, List.append_nil, List.getElem?_cons_zero, List.getElem?_cons_succ, List.set_cons_zero, List.set_cons_succ, L2.wipe, Option.some.injEq, V.int.injEq, V.bl.injEq, V.ref.injEq, V.str.injEq, V.ty.injEq, List.cons.injEq, exists_eq_left', exists_eq_left, exists_eq_right, and_true, true_and, and_self, exists_and_left, exists_and_right, exists_const, and_assoc, exists_eq, exists_eq', eq_self_iff_true, if_true, if_false, Bool.false_eq_true, decide_eq_true_eq, ne_eq, reduceCtorEq, not_false_eq_true, Nat.reduceAdd, Nat.reduceSub, Bool.not_true, Bool.not_false, Option.map_some, Option.map_none, Option.isSome_some, Option.isSome_none, Option.getD_some, Option.getD_none])
local macro_rules | `(tactic| walk_at "st") => `(tactic| ((try walk_at "rd"); (try walk_at "ex")))

/-- the rest of a body, not looked at yet -/
theorem seq_gen {A B : TS} {D : Ends} {σ : L2.St} {H : Hp} (h : ∀ P : L2.St → Hp → Prop, (∀ σ H, B D σ H → P σ H) → A { D with nx := P } σ H) : tSeq A B D σ H := h _ (fun _ _ h => h)
/-! ### the draws -/
theorem sqL_ex {K : PySem.W.Frag} {H H' : Hp} (e : Ex H H') {a : Addr} {xs : List V} (h : SqL K H a xs) : SqL K H' a xs := by
  rcases h with (h | ⟨o, h⟩) | h
  · exact .inl (.inl (e _ _ h))
  · exact .inl (.inr ⟨o, e _ _ h⟩)
  · exact .inr h
def DrW (H : Hp) (a R D : Addr) (m : Int) (n : Nat) (i : Nat) (σ' : L2.St) (H' : Hp) : Prop := Ex H H' ∧ ∃ (rs ds : List Int) (x2 x5 x6 x7 : Option V), σ' = [some (.ref a), some (.int m), x2, some (.ref R), some (.ref D), x5, x6, x7] ∧ H' R = some (.lst (rs.map V.int)) ∧ rs.length = n ∧ H' D = some (.lst (ds.map V.int)) ∧ ds.length = i
def sp_law_draws (K : PySem.W.Frag) : Sp := fun vs H Q _ => ∃ (a : Addr) (ns : List Int) (m : Nat), vs = [.ref a, .int m] ∧ SqL K H a (ns.map V.int) ∧ ns.length ≤ 100 ∧ m ≤ 1000 ∧ ∀ (d : Addr) (xs : List Int) (H' : Hp), Ex H H' → H' d = some (.lst (xs.map V.int)) → Q (.ref d) H'
abbrev nN_law_draws : List Str := ["_law_script", "_law_many", "_law_cell", "_law_rests", "_law_draws_here", "_law_k", "_law_at_here", "_law_mixed"]
theorem sc_law_draws : FnScope nN_law_draws ["_law_script", "_law_many"] (defScope s_law_draws) := ⟨rfl, rfl, rfl, by decide +kernel, rfl, by decide +kernel, by decide +kernel⟩
theorem ok_law_draws {P : Program} {w : World} {K : PySem.W.Frag} {mg : Str → Option Value} {base : Heap} {fd : FuncData} (T : GG K w mg) (F : FunD K "_law_draws" "_law_draws" (defArgs s_law_draws) (defBody s_law_draws) (defScope s_law_draws) [] [] (He.fAd K ("_law_draws", none)) fd)  : Cal P w K mg base "_law_draws" 1 ["_law_script", "_law_many"] (sp_law_draws K) := by
  have nd := sc_law_draws.nd
  refine cal_of F T.g_law_draws (fun _ _ _ _ _ _ us hl => match us, hl with | [_, _], _ => rfl) (FunD.ok F sc_law_draws (fun vs H Q E h => ?_) (fun cdv A outer s H vs Q E hr h => ?_))
  · obtain ⟨a, ns, m, rfl, ha, hn, hm, q⟩ := h
    rfl
  obtain ⟨a, ns, m, rfl, ha, hn, hm, q⟩ := h
  have hu := hu_of hr
  refine ⟨_, PSs.nox (pss_cons (ps_setLc (i := 3) (own := [("_law_cell", 2)]) rfl nd rfl rfl (sw_true rfl rfl rfl (by decide +kernel)) (pi_listK (K := K) rfl (pv 0)) (blkOk_by (own := [("_law_cell", 2)]) (N := nN_law_draws) (sc := defScope s_law_draws) (by decide +kernel)) (fun _ _ _ _ _ => (pg_name (i := 2) nd rfl (Or.inl rfl))) (fun _ _ _ _ _ => pts_nil) (fun _ _ _ _ _ => (pe_b_abs T.f_abs call_abs (pa_cons (pe_b_int T.f_int call_int1 (pa_cons (pv 2) pa_nil)) pa_nil)))) (pss_cons (ps_set (i := 4) nd rfl (Or.inl rfl) (pe_lst pa_nil)) (pss_cons (ps_for PassesOwn.never rfl (pi_range1 rfl T.f_range (pa_cons (pv 1) pa_nil)) (pg_name (i := 5) nd rfl (Or.inl rfl)) (pss_cons (ps_set (i := 2) nd rfl (Or.inl rfl) (pv 5)) (pss_cons (ps_if (pt_cmpR op_gt (pe_b_len T.f_len call_len_seq (pa_cons (pv 0) pa_nil)) pe_int (nomark _)) (pss_cons (ps_set (i := 6) nd rfl (Or.inl rfl) (pe_op op_mod (pv 5) (pe_b_len T.f_len call_len_seq (pa_cons (pv 0) pa_nil)))) (pss_cons (ps_set (i := 2) nd rfl (Or.inl rfl) (pe_b_int T.f_int call_int1 (pa_cons (pe_ix (ix_listK (K := K) rfl) (pv 0) (pv 6) (fun _ _ => rfl)) pa_nil))) (pss_one (ps_if (PW.pt (pw_and (pt_cmpR op_ge (pv 2) (pe_op op_pow pe_int pe_int) (nomark _)) (pw_and1 (pt_cmpR op_gt (pe_ix (ix_listK (K := K) rfl) (pv 3) (pv 6) (fun _ _ => rfl)) pe_int (nomark _))))) (pss_cons (ps_expr (pe_bm PySem.F.plainAttrs_list PySem.F.slot_list_append PySem.F.type_list_append mt_append (pv 4) (pa_cons (pe_op op_mod (pe_b_int T.f_int call_int1 (pa_cons (pe_ix (ix_listK (K := K) rfl) (pv 3) (pv 6) (fun _ _ => rfl)) pa_nil)) pe_int) pa_nil))) (pss_cons (ps_asg (pe_op op_fdiv (pe_b_int T.f_int call_int1 (pa_cons (pe_ix (ix_listK (K := K) rfl) (pv 3) (pv 6) (fun _ _ => rfl)) pa_nil)) pe_int) (pg_sub (pv 3) (pv 6) set_list)) (pss_one ps_continue))) pss_nil)))) pss_nil) (pss_cons (ps_set (i := 7) nd rfl (Or.inl rfl) (pe_op op_mod (pe_b_int T.f_int call_int1 (pa_cons (pe_op op_add (pe_op op_add (pe_op op_mul (pv 2) pe_int) (pe_op op_mul (pv 5) pe_int)) pe_int) pa_nil)) pe_int)) (pss_cons (ps_set (i := 7) nd rfl (Or.inl rfl) (pe_op op_mod (pe_b_int T.f_int call_int1 (pa_cons (pe_op op_add (pe_op op_fdiv (pe_op op_mul (pv 7) (pv 7)) pe_int) (pv 7)) pa_nil)) pe_int)) (pss_one (ps_expr (pe_bm PySem.F.plainAttrs_list PySem.F.slot_list_append PySem.F.type_list_append mt_append (pv 4) (pa_cons (pe_op op_mod (pe_b_int T.f_int call_int1 (pa_cons (pe_op op_add (pe_op op_fdiv (pe_op op_mul (pv 7) (pv 7)) pe_int) (pe_op op_mul (pv 5) pe_int)) pa_nil)) pe_int) pa_nil))))))))) (pss_one (ps_ret (pv 4)))))), ?_⟩
  walk_at "st"
  refine ⟨⟨_, ha⟩, ?_⟩
  refine lc_mapN (f := rI) (xs := ns) (rb := rI) (F := fun c => if c < 0 then -c else c) (wk_lst fun H' g => ⟨_, sqL_ex g ha, ints_al ns⟩) (by omega) (fun _ => rfl) ?_ ?_
  · rintro i c v H1 K1 hi e1 hv hK
    cases hv
    walk_at "st"
    exact .inl (hK _ _ (Ex.rf _) rfl)
  rintro R H1 hR e1 hr1
  obtain ⟨_, vs, hz, hR1, al⟩ := hr1
  cases hz
  rw [al_ints al] at hR1
  have hRl : (ns.map fun c => if c < 0 then -c else c).length = ns.length := List.length_map ..
  generalize (ns.map fun c => if c < 0 then -c else c) = rs0 at hR1 hRl
  walk_at "st"
  refine ⟨by decide, fun D hD => ?_⟩
  have nDR : R ≠ D := ne_of_none hR1 hD
  have e2 := Ex.new (o := .lst []) hD
  have hRn : H R = none := hR
  have hDn : H D = none := e1.back hD
  refine ⟨by omega, by omega, ?_⟩
  rw [Int.toNat_natCast]
  refine for_s (ws_rng0 (n := m) (G := fun _ => True)) (DrW H a R D m ns.length) ⟨e1.tr e2, rs0, [], _, _, _, _, rfl, e2 _ _ hR1, hRl, upd_same, rfl⟩ (fun _ _ _ _ _ => True.intro) ?_ ?_
  · rintro i x v σ' H2 hx ⟨e3, rs, ds, x2, x5, x6, x7, rfl, hR2, hrl, hD2, hdl⟩ hv
    cases hv
    have hi : i < m := by
      have q := (List.getElem?_eq_some_iff.mp hx).1
      rw [List.length_range] at q
      exact q
    have hxi : x = i := by
      rw [List.getElem?_range hi] at hx
      exact (Option.some.inj hx).symm
    subst hxi
    have fin : ∀ (v x2 x5 x6 x7), DrW H a R D m ns.length (x + 1) [some (.ref a), some (.int m), x2, some (.ref R), some (.ref D), x5, x6, x7] (upd H2 D (.lst (ds.map V.int ++ [V.int v]))) := fun v x2 x5 x6 x7 => by
      refine ⟨e3.mut hDn, rs, ds ++ [v], _, _, _, _, rfl, ?_, hrl, ?_, ?_⟩
      · rw [upd_ne nDR]
        exact hR2
      · rw [List.map_append] <;> exact upd_same
      · rw [List.length_append, hdl] <;> rfl
    have ha2 : SqL K H2 a (ns.map V.int) := sqL_ex e3 ha
    rw [gName_app]
    refine seq_gen fun P hP => ?_
    walk_at "st"
    refine hP _ _ ?_
    clear hP P
    refine seq_gen fun P hP => ?_
    have rest : ∀ (c : Int) (x6 x7 : Option V), P [some (.ref a), some (.int m), some (.int c), some (.ref R), some (.ref D), some (.int x), x6, x7] H2 := fun c x6 x7 => by
      refine hP _ _ ?_
      clear hP P
      refine seq_gen fun P hP => ?_
      walk_at "st"
      refine ⟨.inr ⟨by decide, by decide⟩, .inr ⟨by decide, by decide⟩, .inl ⟨by decide, hP _ _ ?_⟩⟩
      clear hP P
      generalize hc : (c * 48271 + (x : Int) * 69621 + 11) % 2147483647 = c1
      have h1 : 0 ≤ c1 ∧ c1 < 2147483647 := by omega
      refine seq_gen fun P hP => ?_
      walk_at "st"
      refine ⟨.inl ⟨by omega, by omega⟩, ⟨by decide, by decide⟩, .inl ⟨by decide, hP _ _ ?_⟩⟩
      clear hP P
      generalize hc2 : (c1 * c1 / 4096 + c1) % 2147483629 = c2
      have h2 : 0 ≤ c2 ∧ c2 < 2147483629 := by omega
      walk_at "st"
      exact ⟨.inl ⟨rfl, _, sq_l hD2⟩, .inl ⟨by omega, by omega⟩, ⟨by decide, by decide⟩, .inr ⟨by decide, by decide⟩, .inl ⟨by decide, _, hD2, by rw [ints_len]; exact szl (by omega), fin _ _ _ _ _⟩⟩
    walk_at "st"
    refine ⟨_, .inl ha2, ?_⟩
    rw [ints_len]
    by_cases hn0 : (0 : Int) < (ns.length : Int)
    · rw [if_pos hn0]
      refine ⟨_, .inl ha2, ?_⟩
      rw [ints_len]
      refine ⟨hn0, ?_⟩
      have hr0 : (0 : Int) ≤ (x : Int) % (ns.length : Int) := Int.emod_nonneg _ (by omega)
      have hr1 : (x : Int) % (ns.length : Int) < (ns.length : Int) := Int.emod_lt_of_pos _ hn0
      generalize (x : Int) % (ns.length : Int) = k at hr0 hr1
      obtain ⟨c, hc⟩ : ∃ c, ns[k.toNat]? = some c := ⟨_, List.getElem?_eq_getElem (by omega)⟩
      obtain ⟨r, hr⟩ : ∃ r, rs[k.toNat]? = some r := ⟨_, List.getElem?_eq_getElem (by omega)⟩
      refine ixL ha2 hr0 (map_at hc) (.inl ⟨c, rfl, ⟨by decide, by decide, by decide⟩, ?_⟩)
      split
      · refine ixL (sq_l hR2) hr0 (map_at hr) ⟨r, rfl, ?_⟩
        split
        · refine ⟨.inl ⟨rfl, _, sq_l hD2⟩, ixL (sq_l hR2) hr0 (map_at hr) (.inl ⟨r, rfl, by decide, _, hD2, ?_, ?_⟩)⟩
          · rw [ints_len]
            exact szl (by omega)
          have hR3 : (upd H2 D (.lst (ds.map V.int ++ [V.int (r % 1000003)]))) R = some (.lst (rs.map V.int)) := by
            rw [upd_ne nDR]
            exact hR2
          refine ixL (sq_l hR3) hr0 (map_at hr) (.inl ⟨r, rfl, ⟨by decide, by decide⟩, ?_⟩)
          refine ⟨R, _, k, k.toNat, rfl, rfl, hR3, ?_, ?_⟩
          · unfold ixN
            rw [if_pos hr0, if_pos (by rw [ints_len]; omega)]
          · refine ⟨(e3.mut hDn).mut hRn, rs.set k.toNat (r / 1000003), ds ++ [r % 1000003], _, _, _, _, rfl, ?_, ?_, ?_, ?_⟩
            · rw [List.map_set]
              exact upd_same
            · rw [List.length_set]
              exact hrl
            · rw [upd_ne nDR.symm, List.map_append]
              exact upd_same
            · rw [List.length_append, hdl] <;> rfl
        · exact rest _ _ _
      · exact rest _ _ _
    · rw [if_neg hn0]
      exact rest _ _ _
  · rintro σ' H2 ⟨e3, rs, ds, x2, x5, x6, x7, rfl, hR2, hrl, hD2, hdl⟩
    walk_at "st"
    exact q _ _ _ e3 hD2
end Cut
end

section
set_option maxHeartbeats 4000000
namespace Cut
open PySem PySem.Spec L2
local macro_rules | `(tactic| walk_at "rd") => `(tactic| dsimp only [tFor_eq, tLc_eq, tLc2_eq, iTup, iList, iRng1, iRng2, iSeq, RZ.iZipA, iEnum, iZipX, iEnumT, iKeys, tTupZip, tLenSet, gFld_app, tLock, tLockE, tCallN, tTup0F, tAsg, tVar, tC, tCmp, tIsN, tNotN, tB, tAnd, tOr, tNot, tAndV, tOrV, tNotV, tIf, tNext, tSeq, tBreak, tCont, tDrop, tRet, tRetN, tIfS, gName_app, gTup_app, gCons_app, gNil_app, gSub_app, tAsg, tAug, tCall, tMeth, tMake, tCons, tNil, tTup, tLst, tCB, tOp, tUn, tTest, tChain, tFld, sFld, sFldAug, tBM, tBM0, tSl, tPart, tNoPart, tDGet, tDIn, tDNotIn, sDPut, sDAug, tDNewK, tDNewT, tDGet2, L2.rI, L2.rI0, L2.rU, rEq, rNe, t2I, ipI, rAdd, rSub, rAppend, tAugS, cxOf, Cx.nox, Cx.wish])
local macro_rules | `(tactic| walk_at "ex") => `(tactic| simp only [L2.start, List.map_cons, List.map_nil, List.length_cons, List.length_nil, List.replicate_succ, List.replicate_zero, List.cons_append, List.nil_append, List.append_nil, List.getElem?_cons_zero, List.getElem?_cons_succ, List.set_cons_zero, List.set_cons_succ, L2.wipe, Option.some.injEq, V.int.injEq, V.bl.injEq, V.ref.injEq, V.str.injEq, V.ty.injEq, List.cons.injEq, exists_eq_left', exists_eq_left, exists_eq_right, and_true, true_and, and_self, exists_and_left, exists_and_right, exists_const, and_assoc, exists_eq, exists_eq', eq_self_iff_true, if_true, if_false, Bool.false_eq_true, decide_eq_true_eq, ne_eq, reduceCtorEq, not_false_eq_true, Nat.reduceAdd, Nat.reduceSub, Bool.not_true, Bool.not_false, Option.map_some, Option.map_none, Option.isSome_some, Option.isSome_none, Option.getD_some, Option.getD_none])
local macro_rules | `(tactic| walk_at "st") => `(tactic| ((try walk_at "rd"); (try walk_at "ex")))

/-! ### the law's own book, totals -/
def sp_law_made_book (K : PySem.W.Frag) : Sp := PSp fun vs H R => ∃ (v : V) (b : List PrD), vs = [v] ∧ rLi rPl b H v ∧ BkOk b ∧ R = rBk K b
abbrev nN_law_made_book : List Str := ["_law_book", "_law_size", "_law_amounts"]
theorem sc_law_made_book : FnScope nN_law_made_book ["_law_book"] (defScope s_law_made_book) := ⟨rfl, rfl, rfl, by decide +kernel, rfl, by decide +kernel, by decide +kernel⟩
theorem ok_law_made_book {P : Program} {w : World} {K : PySem.W.Frag} {mg : Str → Option Value} {base : Heap} {fd : FuncData} (T : GG K w mg) (F : FunD K "_law_made_book" "_law_made_book" (defArgs s_law_made_book) (defBody s_law_made_book) (defScope s_law_made_book) [] [] (He.fAd K ("_law_made_book", none)) fd) (c_Book : CalC P w K mg base "Book" (He.ga K "Book") 2 ["self", "prices"] (sp_Book_init K)) (c_Price : CalC P w K mg base "Price" (He.ga K "Price") 3 ["self", "size", "amounts"] (sp_Price_init K)) : Cal P w K mg base "_law_made_book" 5 ["_law_book"] (sp_law_made_book K) := by
  have nd := sc_law_made_book.nd
  refine cal_of F T.g_law_made_book (fun _ _ _ _ _ _ us hl => match us, hl with | [_], _ => rfl) (FunD.ok F sc_law_made_book (fun vs H Q E h => ?_) (fun cdv A outer s H vs Q E hr h => ?_))
  · obtain ⟨_, ⟨_, b, rfl, ⟨a, us, rfl, ha, al⟩, hb, rfl⟩, q⟩ := h
    rfl
  obtain ⟨_, ⟨_, b, rfl, ⟨a, us, rfl, ha, al⟩, hb, rfl⟩, q⟩ := h
  have hu := hu_of hr
  refine ⟨_, PSs.nox (pss_one (ps_ret (pe_calC c_Book hr (pa_cons (pe_lc (own := [("_law_size", 1), ("_law_amounts", 2)]) rfl nd (pi_listK (K := K) rfl (pv 0)) (blkOk_by (own := [("_law_size", 1), ("_law_amounts", 2)]) (N := nN_law_made_book) (sc := defScope s_law_made_book) (by decide +kernel)) (fun _ _ _ _ _ => (pg_tupK (n := 2) (K := K) rfl rfl (pgs_cons (pg_name (i := 1) nd rfl (Or.inl rfl)) (pgs_cons (pg_name (i := 2) nd rfl (Or.inl rfl)) pgs_nil)))) (fun _ _ _ _ _ => pts_nil) (fun _ _ _ _ _ => (pe_calC c_Price hr (pa_cons (pv 1) (pa_cons (pv 2) pa_nil))))) pa_nil)))), ?_⟩
  walk_at "st"
  refine ⟨⟨_, sq_l ha⟩, ?_⟩
  refine lc_map (f := rPl) (xs := b) (rb := rPr K) (F := fun p => p) (wk_lst fun H' g => ⟨us, sq_l (g _ _ ha), al.up g⟩) (by have := hb.2.1; omega) ?_ ?_ gm_pair
  · rintro i p v H' K1 hp e2 ⟨t, y1, y2, rfl, ht, h1, h2⟩ hK
    cases h1
    obtain ⟨am, rfl, ham⟩ := h2.of
    walk_at "st"
    refine ⟨_, sq_t ht, rfl, ?_⟩
    walk_at "st"
    exact mk_Price (.inr ham) (hb.2.2 p (List.mem_of_getElem? hp)) fun v H3 e3 hv => hK _ _ e3 hv
  · rintro p H' hp e2 hr2
    rw [List.map_id'] at hr2
    exact mk_Book hr2 hb.1 hb.2.1 fun v H3 e3 hv => q _ _ (e2.tr e3) hv
def sp_law_total (K : PySem.W.Frag) : Sp := PSp fun vs H R => ∃ (x y : V) (a : Addr) (z : Pz) (f : List Int), vs = [x, y, .ref a] ∧ rLi rPl z.book H x ∧ rTu rTi z.ties H y ∧ PzOk z ∧ H a = some (.tup (f.map V.int)) ∧ Row f z.n ∧ R = rI (total z f)
abbrev nN_law_total : List Str := ["_law_book", "_law_ties_here", "_law_filling", "_law_total_here", "_law_number", "_law_cells", "_law_times", "_law_cell"]
theorem sc_law_total : FnScope nN_law_total ["_law_book", "_law_ties_here", "_law_filling"] (defScope s_law_total) := ⟨rfl, rfl, rfl, by decide +kernel, rfl, by decide +kernel, by decide +kernel⟩
theorem ok_law_total {P : Program} {w : World} {K : PySem.W.Frag} {mg : Str → Option Value} {base : Heap} {fd : FuncData} (T : GG K w mg) (F : FunD K "_law_total" "_law_total" (defArgs s_law_total) (defBody s_law_total) (defScope s_law_total) [] [] (He.fAd K ("_law_total", none)) fd) (c_law_at : Cal P w K mg base "_law_at" 1 ["_law_row"] (sp_law_at K)) : Cal P w K mg base "_law_total" 2 ["_law_book", "_law_ties_here", "_law_filling"] (sp_law_total K) := by
  have nd := sc_law_total.nd
  refine cal_of F T.g_law_total (fun _ _ _ _ _ _ us hl => match us, hl with | [_, _, _], _ => rfl) (FunD.ok F sc_law_total (fun vs H Q E h => ?_) (fun cdv A outer s H vs Q E hr h => ?_))
  · obtain ⟨_, ⟨_, _, a, z, f, rfl, ⟨d, ps, rfl, hd, alp⟩, ⟨c, us, rfl, hc, al⟩, hz, ha, hf, rfl⟩, q⟩ := h
    rfl
  obtain ⟨_, ⟨_, _, a, z, f, rfl, ⟨d, ps, rfl, hd, alp⟩, ⟨c, us, rfl, hc, al⟩, hz, ha, hf, rfl⟩, q⟩ := h
  have hu := hu_of hr
  refine ⟨_, PSs.nox (pss_cons (ps_set (i := 3) nd rfl (Or.inl rfl) pe_int) (pss_cons (ps_for PassesOwn.never rfl (pi_tupK (K := K) rfl (pv 1)) (pg_tupK (n := 3) (K := K) rfl rfl (pgs_cons (pg_name (i := 4) nd rfl (Or.inl rfl)) (pgs_cons (pg_name (i := 5) nd rfl (Or.inl rfl)) (pgs_cons (pg_name (i := 6) nd rfl (Or.inl rfl)) pgs_nil)))) (pss_one (ps_set (i := 3) nd rfl (Or.inl rfl) (pe_op op_add (pv 3) (pe_op op_mul (pv 6) (pe_ix (ix_tupK (K := K) rfl) (pe_ix (ix_tupK (K := K) rfl) (pe_ix (ix_listK (K := K) rfl) (pv 0) (pv 4) (fun _ _ => rfl)) pe_int (fun _ _ => rfl)) (pe_cal c_law_at hr (pa_cons (pe_lc (own := [("_law_cell", 7)]) rfl nd (pi_tupK (K := K) rfl (pv 5)) (blkOk_by (own := [("_law_cell", 7)]) (N := nN_law_total) (sc := defScope s_law_total) (by decide +kernel)) (fun _ _ _ _ _ => (pg_name (i := 7) nd rfl (Or.inl rfl))) (fun _ _ _ _ _ => pts_nil) (fun _ _ _ _ _ => (pe_ix (ix_tupK (K := K) rfl) (pv 2) (pv 7) (fun _ _ => rfl)))) pa_nil)) (fun _ _ => rfl))))))) (pss_one (ps_ret (pv 3))))), ?_⟩
  walk_at "st"
  refine ⟨⟨_, sq_t hc⟩, ?_⟩
  refine for_gen (G := fun H' => Ex H H') (wk_tup (f := rTi) (xs := z.ties) fun H' g => ⟨us, sq_t (g _ _ hc), al.up g⟩) (fun i σ' H' => Ex H H' ∧ ∃ x4 x5 x6 x7, σ' = [some (.ref d), some (.ref c), some (.ref a), some (.int ((z.ties.take i).map (tieVal z.book f)).sum), x4, x5, x6, x7]) ⟨Ex.rf _, _, _, _, _, rfl⟩ (fun _ _ _ _ h => h.1) ?_ ?_
  · rintro i t v σ' H1 H2 hi ⟨e1, x4, x5, x6, x7, rfl⟩ e2 ⟨ta, y1, y2, y3, rfl, hta, h1, h2, h3⟩
    cases h1
    cases h3
    obtain ⟨cb, rfl, hcb⟩ := h2.of
    have e12 := e1.tr e2
    obtain ⟨p, hp, hl, hcs, hti, hti2⟩ := hz.2.2.2 t (List.mem_of_getElem? hi)
    walk_at "st"
    refine ⟨_, sq_t hta, rfl, ?_⟩
    walk_at "st"
    obtain ⟨pv, hpv, pa, py1, py2, rfl, hpa, hq1, hq2⟩ := alp.get hp
    obtain ⟨am, rfl, ham⟩ := hq2.of
    refine ixL (sq_l (e12 _ _ hd)) (by omega) (get_toNat hpv) ?_
    refine ixT (sq_t (e12 _ _ hpa)) (by decide) rfl ?_
    walk_at "st"
    refine ⟨⟨_, sq_t hcb⟩, ?_⟩
    refine lc_mapN (f := rI) (xs := t.2.1) (rb := rI) (F := fun c => f.getD c.toNat 0) (wk_tup fun H' g => ⟨_, sq_t (g _ _ hcb), ints_al _⟩) (by rw [hl]; have := hz.1.2.2 p (List.mem_of_getElem? hp); have := this.2.1; omega) (fun _ => rfl) ?_ ?_
    · rintro j y v H3 K1 hj e3 hv hK
      cases hv
      walk_at "st"
      obtain ⟨c0, c1⟩ := hcs y (List.mem_of_getElem? hj)
      have hyl : y.toNat < f.length := by rw [hf.1]; omega
      refine ixT (sq_t ((e12.tr e3) _ _ ha)) c0 (map_at (List.getElem?_eq_getElem hyl)) ?_
      refine hK _ _ (Ex.rf _) ?_
      rw [List.getD_eq_getElem?_getD, List.getElem?_eq_getElem hyl] <;> rfl
    · rintro l H3 hl3 e3 hr3
      obtain ⟨_, ws, hzz, hl4, al4⟩ := hr3
      cases hzz
      rw [al_ints al4] at hl4
      have hrow : Row (sel f t.2.1) p.1 := sel_row hf hcs hl
      refine ⟨_, ⟨l, sel f t.2.1, rfl, .inl hl4, rfl⟩, ?_⟩
      refine ixT (sq_t ((e12.tr e3) _ _ ham)) (num_bound _ _ hrow).1 (map_at (cost_get (hz.1.2.2 p (List.mem_of_getElem? hp)) hrow)) ?_
      walk_at "st"
      rw [sum_take _ hi]
      refine ⟨.inl ⟨by omega, by omega⟩, e12.tr e3, ?_⟩
      unfold tieVal
      rw [prAt_of hp]
  · rintro σ' H' ⟨e1, x4, x5, x6, x7, rfl⟩
    rw [List.take_length]
    walk_at "st"
    exact q _ _ e1 rfl
def keepsB (st : List (Int × Int)) (f : List Int) : Bool := st.all fun p => decide (f.getD p.1.toNat 0 = p.2)
def sp_law_keeps (K : PySem.W.Frag) : Sp := PSp fun vs H R => ∃ (y : V) (a : Addr) (n : Nat) (st : List (Int × Int)) (f : List Int), vs = [.ref a, y] ∧ rTu rPp st H y ∧ (∀ p ∈ st, 0 ≤ p.1 ∧ p.1 < (n : Int)) ∧ st.length ≤ 100 ∧ H a = some (.tup (f.map V.int)) ∧ Row f n ∧ R = rB (keepsB st f)
abbrev nN_law_keeps : List Str := ["_law_filling", "_law_start_here", "_law_cell", "_law_value"]
theorem sc_law_keeps : FnScope nN_law_keeps ["_law_filling", "_law_start_here"] (defScope s_law_keeps) := ⟨rfl, rfl, rfl, by decide +kernel, rfl, by decide +kernel, by decide +kernel⟩
theorem ok_law_keeps {P : Program} {w : World} {K : PySem.W.Frag} {mg : Str → Option Value} {base : Heap} {fd : FuncData} (T : GG K w mg) (F : FunD K "_law_keeps" "_law_keeps" (defArgs s_law_keeps) (defBody s_law_keeps) (defScope s_law_keeps) [] [] (He.fAd K ("_law_keeps", none)) fd)  : Cal P w K mg base "_law_keeps" 1 ["_law_filling", "_law_start_here"] (sp_law_keeps K) := by
  have nd := sc_law_keeps.nd
  refine cal_of F T.g_law_keeps (fun _ _ _ _ _ _ us hl => match us, hl with | [_, _], _ => rfl) (FunD.ok F sc_law_keeps (fun vs H Q E h => ?_) (fun cdv A outer s H vs Q E hr h => ?_))
  · obtain ⟨_, ⟨_, a, n, st, f, rfl, ⟨c, us, rfl, hc, al⟩, hst, hsl, ha, hf, rfl⟩, q⟩ := h
    rfl
  obtain ⟨_, ⟨_, a, n, st, f, rfl, ⟨c, us, rfl, hc, al⟩, hst, hsl, ha, hf, rfl⟩, q⟩ := h
  have hu := hu_of hr
  refine ⟨_, PSs.nox (pss_one (ps_ret (pe_cmpR op_eq (pe_b_len T.f_len call_len_seq (pa_cons (pe_lc (own := [("_law_cell", 2), ("_law_value", 3)]) rfl nd (pi_tupK (K := K) rfl (pv 1)) (blkOk_by (own := [("_law_cell", 2), ("_law_value", 3)]) (N := nN_law_keeps) (sc := defScope s_law_keeps) (by decide +kernel)) (fun _ _ _ _ _ => (pg_tupK (n := 2) (K := K) rfl rfl (pgs_cons (pg_name (i := 2) nd rfl (Or.inl rfl)) (pgs_cons (pg_name (i := 3) nd rfl (Or.inl rfl)) pgs_nil)))) (fun _ _ _ _ _ => pts_one (pt_cmpR op_ne (pe_ix (ix_tupK (K := K) rfl) (pv 0) (pv 2) (fun _ _ => rfl)) (pv 3) (nomark _))) (fun _ _ _ _ _ => (pv 2))) pa_nil)) pe_int (nomark _)))), ?_⟩
  walk_at "st"
  refine ⟨⟨_, sq_t hc⟩, ?_⟩
  refine lc_gen (f := rPp) (xs := st) (rb := rI) (F := fun p => if f.getD p.1.toNat 0 = p.2 then none else some p.1) (wk_tup fun H' g => ⟨us, sq_t (g _ _ hc), al.up g⟩) (by omega) ?_ ?_
  · rintro i p v H1 K1 K2 hp e1 ⟨t, y1, y2, rfl, ht, h1, h2⟩ k1 k2
    cases h1
    cases h2
    obtain ⟨c0, c1⟩ := hst p (List.mem_of_getElem? hp)
    have hyl : p.1.toNat < f.length := by rw [hf.1]; omega
    walk_at "st"
    refine ⟨_, sq_t ht, rfl, ?_⟩
    walk_at "st"
    refine ixT (sq_t (e1 _ _ ha)) c0 (map_at (List.getElem?_eq_getElem hyl)) ?_
    have e : f.getD p.1.toNat 0 = f[p.1.toNat] := by rw [List.getD_eq_getElem?_getD, List.getElem?_eq_getElem hyl] <;> rfl
    refine ⟨rfl, ?_⟩
    rw [e] at k1 k2
    by_cases hc : f[p.1.toNat] = p.2
    · rw [if_pos hc] at k2
      rw [if_neg (by simp [hc])]
      exact k2 _ rfl (Ex.rf _)
    · rw [if_neg hc] at k1
      rw [if_pos (by simp [hc])]
      exact k1 _ _ _ rfl (Ex.rf _) rfl
  · rintro p H1 hp e1 hr1
    obtain ⟨_, vs, hz, hp1, al1⟩ := hr1
    cases hz
    walk_at "st"
    refine ⟨vs, .inl (sq_l hp1), rfl, q _ _ e1 ?_⟩
    have hl := al1.len
    have key : decide (((st.filterMap fun p => if f.getD p.1.toNat 0 = p.2 then none else some p.1).length : Int) = 0) = keepsB st f := by
      unfold keepsB
      clear hl al1 hp1 al hc hst hsl q
      induction st with
      | nil => rfl
      | cons p st ih =>
        rw [List.filterMap_cons, List.all_cons]
        by_cases h : f.getD p.1.toNat 0 = p.2
        · simp only [h, if_true, decide_true, Bool.true_and]
          exact ih
        · simp only [h, if_false, decide_false, Bool.false_and, List.length_cons]
          rw [decide_eq_false]
          omega
    rw [hl, key]
    rfl
/-- all fillings that keep a start, with their totals -/
def totL (z : Pz) (st : List (Int × Int)) : List (List Int × Int) := ((rows z.n).filter (keepsB st)).map fun r => (r, total z r)
abbrev rRt (p : List Int × Int) : Rp := r2 (rIs p.1) (rI p.2)
def sp_law_totals (K : PySem.W.Frag) : Sp := fun vs H Q _ => ∃ (x t y : V) (z : Pz) (st : List (Int × Int)), vs = [x, .int z.n, t, y] ∧ rLi rPl z.book H x ∧ rTu rTi z.ties H t ∧ PzOk z ∧ rTu rPp st H y ∧ (∀ p ∈ st, 0 ≤ p.1 ∧ p.1 < (z.n : Int)) ∧ st.length ≤ 100 ∧ ∀ v H', Ex H H' → rLi rRt (totL z st) H' v → Q v H'
abbrev nN_law_totals : List Str := ["_law_book", "_law_cells", "_law_ties_here", "_law_start_here", "_law_found", "_law_row"]
theorem sc_law_totals : FnScope nN_law_totals ["_law_book", "_law_cells", "_law_ties_here", "_law_start_here"] (defScope s_law_totals) := ⟨rfl, rfl, rfl, by decide +kernel, rfl, by decide +kernel, by decide +kernel⟩
theorem ok_law_totals {P : Program} {w : World} {K : PySem.W.Frag} {mg : Str → Option Value} {base : Heap} {fd : FuncData} (T : GG K w mg) (F : FunD K "_law_totals" "_law_totals" (defArgs s_law_totals) (defBody s_law_totals) (defScope s_law_totals) [] [] (He.fAd K ("_law_totals", none)) fd) (c_law_rows : Cal P w K mg base "_law_rows" 1 ["_law_many"] (sp_law_rows K)) (c_law_keeps : Cal P w K mg base "_law_keeps" 1 ["_law_filling", "_law_start_here"] (sp_law_keeps K)) (c_law_total : Cal P w K mg base "_law_total" 2 ["_law_book", "_law_ties_here", "_law_filling"] (sp_law_total K)) : Cal P w K mg base "_law_totals" 3 ["_law_book", "_law_cells", "_law_ties_here", "_law_start_here"] (sp_law_totals K) := by
  have nd := sc_law_totals.nd
  refine cal_of F T.g_law_totals (fun _ _ _ _ _ _ us hl => match us, hl with | [_, _, _, _], _ => rfl) (FunD.ok F sc_law_totals (fun vs H Q E h => ?_) (fun cdv A outer s H vs Q E hr h => ?_))
  · obtain ⟨x, t, y, z, st, rfl, hx, ht, hz, hy, hst, hsl, q⟩ := h
    rfl
  obtain ⟨x, t, y, z, st, rfl, hx, ht, hz, hy, hst, hsl, q⟩ := h
  have hu := hu_of hr
  refine ⟨_, PSs.nox (pss_cons (ps_set (i := 4) nd rfl (Or.inl rfl) (pe_lst pa_nil)) (pss_cons (ps_for PassesOwn.never rfl (pi_listK (K := K) rfl (pe_cal c_law_rows hr (pa_cons (pv 1) pa_nil))) (pg_name (i := 5) nd rfl (Or.inl rfl)) (pss_one (ps_if (pt_val (pe_cal c_law_keeps hr (pa_cons (pv 5) (pa_cons (pv 3) pa_nil)))) (pss_one (ps_expr (pe_bm PySem.F.plainAttrs_list PySem.F.slot_list_append PySem.F.type_list_append mt_append (pv 4) (pa_cons (pe_tup (pa_cons (pv 5) (pa_cons (pe_cal c_law_total hr (pa_cons (pv 0) (pa_cons (pv 2) (pa_cons (pv 5) pa_nil)))) pa_nil))) pa_nil)))) pss_nil))) (pss_one (ps_ret (pv 4))))), ?_⟩
  walk_at "st"
  refine ⟨by decide, fun D hD => ?_⟩
  have e1 := Ex.new (o := .lst []) hD
  have hDn : H D = none := hD
  refine ⟨z.n, rfl, hz.2.1, fun p H2 hp e2 hr2 => ?_⟩
  obtain ⟨_, us, hzz, hp2, al⟩ := hr2
  cases hzz
  have hD2 := e2 _ _ (upd_same (H := H) (a := D) (o := .lst []))
  have npD : p ≠ D := ne_of_none' hp (upd_same (H := H) (a := D) (o := .lst []))
  have e02 := e1.tr e2
  have zx : ∀ {H'}, But D H2 H' → Zx H2 H' := fun b => b.zx hD2 (fun q => q)
  have ex0 : ∀ {H'}, But D H2 H' → Ex H H' := fun b => But.ex e02 b hDn
  walk_at "st"
  refine ⟨⟨_, sq_l hp2⟩, ?_⟩
  refine for_gen (f := rIs) (xs := rows z.n) (G := fun H' => But D H2 H') (wk_lst fun H' g => ⟨us, sq_l (g _ _ npD hp2), al.upZ (zx g)⟩) (fun i σ' H' => But D H2 H' ∧ ∃ (y5 : Option V) (vs : List V), σ' = [some x, some (.int z.n), some t, some y, some (.ref D), y5] ∧ H' D = some (.lst vs) ∧ Al (fun w p => rRt p H' w) vs ((((rows z.n).take i).filter (keepsB st)).map fun r => (r, total z r))) ⟨But.rf _ _, _, [], rfl, hD2, .nil⟩ (fun _ _ _ _ h => h.1) ?_ ?_
  · rintro i r v σ' H3 H4 hi ⟨b3, y5, vs, rfl, hD3, alv⟩ e4 hv
    obtain ⟨c, rfl, hc⟩ := hv.of
    have hrow := rows_at hi
    have e04 := (ex0 b3).tr e4
    walk_at "st"
    refine ⟨_, ⟨y, c, z.n, st, r, rfl, Mo.up e04 hy, hst, hsl, hc, hrow, rfl⟩, fun w H5 e5 hw => ?_⟩
    cases hw
    walk_at "st"
    have e35 := e4.tr e5
    have hft : (((rows z.n).take (i + 1)).filter (keepsB st)).map (fun r => (r, total z r)) = (((rows z.n).take i).filter (keepsB st)).map (fun r => (r, total z r)) ++ if keepsB st r = true then [(r, total z r)] else [] := by
      rw [List.take_add_one, hi, List.filter_append, List.map_append]
      congr 1
      show List.map _ (List.filter (keepsB st) [r]) = _
      by_cases h : keepsB st r = true
      · rw [List.filter_cons_of_pos h, if_pos h] <;> rfl
      · rw [List.filter_cons_of_neg h, if_neg h] <;> rfl
    rw [hft]
    by_cases hk : keepsB st r = true
    · rw [if_pos hk, if_pos hk]
      refine ⟨.inl ⟨rfl, _, sq_l (e35 _ _ hD3)⟩, ⟨_, ⟨x, t, c, z, r, rfl, Mo.up ((ex0 b3).tr e35) hx, Mo.up ((ex0 b3).tr e35) ht, hz, e5 _ _ hc, hrow, rfl⟩, fun w H6 e6 hw => ?_⟩⟩
      cases hw
      refine ⟨by decide, fun l hl => ?_⟩
      have e7 := Ex.new (o := .tup [V.ref c, V.int (total z r)]) hl
      have e37 := (e35.tr e6).tr e7
      have hD7 := e37 _ _ hD3
      refine ⟨vs, hD7, ?_, (b3.tr e37.but).tr But.mut, _, upd_same, ?_⟩
      · have h1 := alv.len
        rw [List.length_map] at h1
        have h2 := List.length_filter_le (keepsB st) ((rows z.n).take i)
        have h3 := List.length_take_le i (rows z.n)
        have h4 := rows_lenB hz.2.1
        have h5 := (List.getElem?_eq_some_iff.mp hi).1
        exact szl (by omega)
      · have a7 : Al (fun w p => rRt p (upd H6 l (.tup [V.ref c, V.int (total z r)])) w) (vs ++ [.ref l]) ((((rows z.n).take i).filter (keepsB st)).map (fun r => (r, total z r)) ++ [(r, total z r)]) := (alv.up e37).snoc ⟨l, _, _, rfl, upd_same, rIs.mk ((e5.tr (e6.tr e7)) _ _ hc), rfl⟩
        exact a7.upT (Tx.mut hD7 (fun xs z => nomatch z))
    · rw [if_neg hk, if_neg hk, List.append_nil]
      exact ⟨b3.tr e35.but, vs, e35 _ _ hD3, alv.up e35⟩
  · rintro σ' H3 ⟨b3, y5, vs, rfl, hD3, alv⟩
    rw [List.take_length] at alv
    walk_at "st"
    exact q _ _ (ex0 b3) ⟨D, vs, rfl, hD3, alv⟩
end Cut
end

section
set_option maxHeartbeats 4000000
namespace Cut
open PySem PySem.Spec L2
/-! ### a partial minimum is of the book's kind -/
def KindP (p : PrD) (w : Str) : Prop := (w = "all no" ∧ AllNo p) ∨ (w = "all yes" ∧ AllYes p) ∨ (w = "bent" ∧ Bent p) ∨ (w = "rising" ∧ Rising p) ∨ (w = "falling" ∧ Falling p)
def KZ (st : List (Int × Int)) (cs r f : List Int) : Prop := (∀ p ∈ st, f.getD p.1.toNat 0 = p.2) ∧ ∀ i : Nat, i < cs.length → f.getD (cs.getD i 0).toNat 0 = r.getD i 0
theorem keeps_iff {t : List (Int × Int)} {r : List Int} {n : Nat} (hr : Row r n) (h2 : ∀ p ∈ t, p.2 = 0 ∨ p.2 = 1) : Keeps t (on r) ↔ ∀ p ∈ t, r.getD p.1.toNat 0 = p.2 :=
  ⟨fun h p hp => keeps_getD hr h hp (h2 p hp), fun h p hp => by unfold on; rw [h p hp]⟩
theorem zip_mem {cs r : List Int} {p : Int × Int} : p ∈ cs.zip r ↔ ∃ i : Nat, cs[i]? = some p.1 ∧ r[i]? = some p.2 := by
  constructor
  · intro h
    obtain ⟨i, hi⟩ := List.mem_iff_getElem?.mp h
    exact ⟨i, zip_at hi⟩
  · rintro ⟨i, h1, h2⟩
    exact List.mem_of_getElem? (List.getElem?_zip_eq_some.mpr ⟨h1, h2⟩)
theorem getD_of {α : Type} {xs : List α} {i : Nat} {x d : α} (h : xs[i]? = some x) : xs.getD i d = x := by
  rw [List.getD_eq_getElem?_getD, h] <;> rfl
theorem kz_iff {n : Nat} {st : List (Int × Int)} {cs r f : List Int} (hst : StOk n st) (hr : Row r cs.length) (hf : Row f n) : Keeps (st ++ cs.zip r) (on f) ↔ KZ st cs r f := by
  rw [keeps_iff hf fun p hp => by
    rcases List.mem_append.mp hp with h | h
    · exact (hst.2 p h).2.2
    · exact hr.2 p.2 (List.of_mem_zip h).2]
  constructor
  · refine fun h => ⟨fun p hp => h p (List.mem_append.mpr (.inl hp)), fun i hi => ?_⟩
    have h1 := List.getElem?_eq_getElem hi
    have hir : i < r.length := by rw [hr.1]; exact hi
    have h2 := List.getElem?_eq_getElem hir
    have := h (cs[i], r[i]) (List.mem_append.mpr (.inr (zip_mem.mpr ⟨i, h1, h2⟩)))
    rw [getD_of h1, getD_of h2]
    exact this
  · rintro ⟨h1, h2⟩ p hp
    rcases List.mem_append.mp hp with h | h
    · exact h1 p h
    · obtain ⟨i, h3, h4⟩ := zip_mem.mp h
      have := h2 i (List.getElem?_eq_some_iff.mp h3).1
      rw [getD_of h3, getD_of h4] at this
      exact this
theorem wr_least {z : Pz} {st : List (Int × Int)} {cs : List Int} {p : PrD} (hst : StOk z.n st) (hw : WrOk z st cs p) {r : List Int} (hr : Row r cs.length) :
    (∃ f, Row f z.n ∧ KZ st cs r f ∧ total z f = cost p r) ∧ ∀ f, Row f z.n → KZ st cs r f → cost p r ≤ total z f := by
  obtain ⟨⟨f, h1, h2, h3⟩, h4⟩ := hw.2.2 r hr
  exact ⟨⟨f, h1, (kz_iff hst hr h1).mp h2, h3⟩, fun g h5 h6 => h4 g h5 ((kz_iff hst hr h5).mpr h6)⟩
theorem getD_out {r : List Int} {n i : Nat} (hr : r.length = n) (h : n ≤ i) : r.getD i 0 = 0 := by
  rw [List.getD_eq_getElem?_getD, List.getElem?_eq_none (by omega)] <;> rfl
/-- the cells told anew -/
theorem kz_put {n : Nat} {st : List (Int × Int)} {cs q u h : List Int} (hst : StOk n st) (hf : FreeOk n st cs) (hu : Row u cs.length) (hh : Row h n) (k : KZ st cs q h) :
    ∃ f, Row f n ∧ KZ st cs u f ∧ (LeR u q → LeR f h) ∧ (LeR q u → LeR h f) := by
  have nd : ((cs.zip u).map (·.1)).Nodup := by
    rw [zip_fst hu.1.symm]
    exact hf.2.2.1
  have at_ : ∀ l : Int, 0 ≤ l → l < (n : Int) → (fillR (cs.zip u) n fun k => h.getD k.toNat 0).getD l.toNat 0 = (gt (cs.zip u) l).getD (h.getD l.toNat 0) := fun l h0 h1 => fillR_at h0 h1
  have hrow : Row (fillR (cs.zip u) n fun k => h.getD k.toNat 0) n := by
    refine ⟨by unfold fillR; rw [List.length_map, List.length_range], fun v hv => ?_⟩
    obtain ⟨k, hk, rfl⟩ := List.mem_map.mp hv
    cases hgt : gt (cs.zip u) (k : Int) with
    | none => exact row_getD hh _
    | some w => exact hu.2 w (List.of_mem_zip (gt_mem hgt)).2
  have inZ : ∀ (i : Nat), i < cs.length → gt (cs.zip u) (cs.getD i 0) = some (u.getD i 0) := fun i hi => by
    have h1 := List.getElem?_eq_getElem hi
    have h2 := List.getElem?_eq_getElem (show i < u.length by rw [hu.1]; exact hi)
    rw [getD_of h1, getD_of h2]
    exact gt_of_mem nd (zip_mem.mpr ⟨i, h1, h2⟩)
  have cmp : ∀ (P : Int → Int → Prop), (∀ x, P x x) → (∀ i : Nat, P (u.getD i 0) (q.getD i 0)) → ∀ i : Nat, P ((fillR (cs.zip u) n fun k => h.getD k.toNat 0).getD i 0) (h.getD i 0) := fun P hP hle i => by
    by_cases hi : i < n
    · have e := at_ (i : Int) (by omega) (by omega)
      rw [Int.toNat_natCast] at e
      rw [e]
      cases hgt : gt (cs.zip u) (i : Int) with
      | none => exact hP _
      | some w =>
        obtain ⟨j, h3, h4⟩ := zip_mem.mp (gt_mem hgt)
        have h5 := k.2 j (List.getElem?_eq_some_iff.mp h3).1
        rw [getD_of h3] at h5
        have h6 := hle j
        rw [getD_of h4, ← h5, Int.toNat_natCast] at h6
        exact h6
    · rw [getD_out hrow.1 (by omega), getD_out hh.1 (by omega)]
      exact hP _
  refine ⟨_, hrow, ⟨fun p hp => ?_, fun i hi => ?_⟩, fun hle => cmp (· ≤ ·) (fun x => Int.le_refl x) hle, fun hle i => cmp (fun x y => y ≤ x) (fun x => Int.le_refl x) hle i⟩
  · obtain ⟨h0, h1, _⟩ := hst.2 p hp
    rw [at_ p.1 h0 h1]
    have hn : gt (cs.zip u) p.1 = none := by
      cases hgt : gt (cs.zip u) p.1 with
      | none => rfl
      | some w =>
        have h3 := (hf.2.2.2 _ (List.of_mem_zip (gt_mem hgt)).1).2.2
        rw [st_gt hst hp] at h3
        cases h3
    rw [hn]
    exact k.1 p hp
  · have hc := hf.2.2.2 _ (show cs.getD i 0 ∈ cs by rw [getD_of (List.getElem?_eq_getElem hi)]; exact List.getElem_mem hi)
    rw [at_ _ hc.1 hc.2.1, inZ i hi] <;> rfl
theorem total_allno {z : Pz} (hz : PzOk z) (hk : ∀ p ∈ z.book, AllNo p) {f : List Int} (hf : Row f z.n) : total z (List.replicate z.n 0) ≤ total z f := by
  refine sum_le fun t ht => ?_
  obtain ⟨p, hp, e, _, hl, hc, h1, _⟩ := tie_of hz ht
  unfold tieVal
  rw [e]
  have e2 : sel (List.replicate z.n 0) t.2.1 = List.replicate p.1 0 := by
    rw [← hl]
    unfold sel
    apply List.ext_getElem?
    intro i
    rw [List.getElem?_map, List.getElem?_replicate]
    by_cases hi : i < t.2.1.length
    · rw [List.getElem?_eq_getElem hi, if_pos hi]
      show some ((List.replicate z.n (0 : Int)).getD (t.2.1[i]).toNat 0) = _
      rw [List.getD_eq_getElem?_getD, List.getElem?_replicate]
      split <;> rfl
    · rw [List.getElem?_eq_none (by omega), if_neg hi] <;> rfl
  rw [e2]
  exact Int.mul_le_mul_of_nonneg_left (hk p hp _ (sel_row hf hc hl)) (by omega)
theorem total_allyes {z : Pz} (hz : PzOk z) (hk : ∀ p ∈ z.book, AllYes p) {f : List Int} (hf : Row f z.n) : total z (List.replicate z.n 1) ≤ total z f := by
  refine sum_le fun t ht => ?_
  obtain ⟨p, hp, e, _, hl, hc, h1, _⟩ := tie_of hz ht
  unfold tieVal
  rw [e]
  have e2 : sel (List.replicate z.n 1) t.2.1 = List.replicate p.1 1 := by
    rw [← hl]
    unfold sel
    apply List.ext_getElem?
    intro i
    rw [List.getElem?_map, List.getElem?_replicate]
    by_cases hi : i < t.2.1.length
    · rw [List.getElem?_eq_getElem hi, if_pos hi]
      show some ((List.replicate z.n (1 : Int)).getD (t.2.1[i]).toNat 0) = _
      have := hc _ (List.getElem_mem hi)
      rw [List.getD_eq_getElem?_getD, List.getElem?_replicate, if_pos (by omega)] <;> rfl
    · rw [List.getElem?_eq_none (by omega), if_neg hi] <;> rfl
  rw [e2]
  exact Int.mul_le_mul_of_nonneg_left (hk p hp _ (sel_row hf hc hl)) (by omega)
theorem rep_row (n : Nat) {v : Int} (h : v = 0 ∨ v = 1) : Row (List.replicate n v) n := ⟨List.length_replicate, fun u hu => by rw [(List.mem_replicate.mp hu).2]; exact h⟩
theorem rep_getD {n i : Nat} {v : Int} (h : i < n) : (List.replicate n v).getD i 0 = v := by
  rw [List.getD_eq_getElem?_getD, List.getElem?_replicate, if_pos h] <;> rfl
theorem kz_rep {n : Nat} {cs : List Int} (hf : FreeOk n [] cs) (v : Int) : KZ [] cs (List.replicate cs.length v) (List.replicate n v) := by
  refine ⟨(fun _ h => nomatch h), fun i hi => ?_⟩
  have hc := hf.2.2.2 _ (show cs.getD i 0 ∈ cs by rw [getD_of (List.getElem?_eq_getElem hi)]; exact List.getElem_mem hi)
  rw [rep_getD hi, rep_getD (by omega)]
theorem row_of {n m : Nat} {r : List Int} (e : m = n) (h : Row r m) : Row r n := e ▸ h
theorem written_kind {z : Pz} {st : List (Int × Int)} {cs : List Int} {p : PrD} {w : Str} (hz : PzOk z) (hst : StOk z.n st) (hf : FreeOk z.n st cs) (hw : WrOk z st cs p) (hk : ∀ q ∈ z.book, KindP q w) (h0 : w = "all no" ∨ w = "all yes" → st = []) : KindP p w := by
  have hp1 := hw.1
  obtain ⟨b0, hb0⟩ : ∃ b, b ∈ z.book := by
    have := hz.1.1
    cases hb : z.book with
    | nil => rw [hb] at this; cases this
    | cons b _ => exact ⟨b, .head _⟩
  rcases hk b0 hb0 with ⟨rfl, _⟩ | ⟨rfl, _⟩ | ⟨rfl, _⟩ | ⟨rfl, _⟩ | ⟨rfl, _⟩
  · have hs := h0 (.inl rfl)
    subst hs
    refine .inl ⟨rfl, fun r hr => ?_⟩
    have hk' : ∀ q ∈ z.book, AllNo q := fun q hq => by
      rcases hk q hq with ⟨_, h⟩ | ⟨e, _⟩ | ⟨e, _⟩ | ⟨e, _⟩ | ⟨e, _⟩
      · exact h
      all_goals exact absurd e (by decide)
    obtain ⟨⟨f, h1, h2, h3⟩, _⟩ := wr_least hst hw (row_of hp1 hr)
    have h4 := (wr_least hst hw (r := List.replicate cs.length 0) (rep_row _ (.inl rfl))).2 _ (rep_row _ (.inl rfl)) (kz_rep hf 0)
    have h5 := total_allno hz hk' h1
    rw [hp1]
    omega
  · have hs := h0 (.inr rfl)
    subst hs
    refine .inr (.inl ⟨rfl, fun r hr => ?_⟩)
    have hk' : ∀ q ∈ z.book, AllYes q := fun q hq => by
      rcases hk q hq with ⟨e, _⟩ | ⟨_, h⟩ | ⟨e, _⟩ | ⟨e, _⟩ | ⟨e, _⟩
      · exact absurd e (by decide)
      · exact h
      all_goals exact absurd e (by decide)
    obtain ⟨⟨f, h1, h2, h3⟩, _⟩ := wr_least hst hw (row_of hp1 hr)
    have h4 := (wr_least hst hw (r := List.replicate cs.length 1) (rep_row _ (.inr rfl))).2 _ (rep_row _ (.inr rfl)) (kz_rep hf 1)
    have h5 := total_allyes hz hk' h1
    rw [hp1]
    omega
  · refine .inr (.inr (.inl ⟨rfl, fun r s hr hs => ?_⟩))
    have hk' : ∀ q ∈ z.book, Bent q := fun q hq => by
      rcases hk q hq with ⟨e, _⟩ | ⟨e, _⟩ | ⟨_, h⟩ | ⟨e, _⟩ | ⟨e, _⟩
      · exact absurd e (by decide)
      · exact absurd e (by decide)
      · exact h
      all_goals exact absurd e (by decide)
    have hr' := row_of hp1 hr
    have hs' := row_of hp1 hs
    obtain ⟨⟨f, f1, f2, f3⟩, _⟩ := wr_least hst hw hr'
    obtain ⟨⟨g, g1, g2, g3⟩, _⟩ := wr_least hst hw hs'
    have ha := (wr_least hst hw (andR_row hr' hs')).2 _ (andR_row f1 g1) ⟨fun q hq => by rw [andR_getD f1.1 g1.1, f2.1 q hq, g2.1 q hq]; exact Int.min_self _, fun i hi => by rw [andR_getD f1.1 g1.1, f2.2 i hi, g2.2 i hi, andR_getD hr'.1 hs'.1]⟩
    have ho := (wr_least hst hw (orR_row hr' hs')).2 _ (orR_row f1 g1) ⟨fun q hq => by rw [orR_getD f1.1 g1.1, f2.1 q hq, g2.1 q hq]; exact Int.max_self _, fun i hi => by rw [orR_getD f1.1 g1.1, f2.2 i hi, g2.2 i hi, orR_getD hr'.1 hs'.1]⟩
    have := total_bent hz hk' f1 g1
    omega
  · refine .inr (.inr (.inr (.inl ⟨rfl, fun r s hr hs hl => ?_⟩)))
    have hk' : ∀ q ∈ z.book, Rising q := fun q hq => by
      rcases hk q hq with ⟨e, _⟩ | ⟨e, _⟩ | ⟨e, _⟩ | ⟨_, h⟩ | ⟨e, _⟩
      · exact absurd e (by decide)
      · exact absurd e (by decide)
      · exact absurd e (by decide)
      · exact h
      · exact absurd e (by decide)
    obtain ⟨⟨g, g1, g2, g3⟩, _⟩ := wr_least hst hw (row_of hp1 hs)
    obtain ⟨f, f1, f2, f3, _⟩ := kz_put hst hf (row_of hp1 hr) g1 g2
    have h1 := (wr_least hst hw (row_of hp1 hr)).2 f f1 f2
    have h2 := total_rising hz hk' f1 g1 (f3 hl)
    omega
  · refine .inr (.inr (.inr (.inr ⟨rfl, fun r s hr hs hl => ?_⟩)))
    have hk' : ∀ q ∈ z.book, Falling q := fun q hq => by
      rcases hk q hq with ⟨e, _⟩ | ⟨e, _⟩ | ⟨e, _⟩ | ⟨e, _⟩ | ⟨_, h⟩
      · exact absurd e (by decide)
      · exact absurd e (by decide)
      · exact absurd e (by decide)
      · exact absurd e (by decide)
      · exact h
    obtain ⟨⟨f, f1, f2, f3⟩, _⟩ := wr_least hst hw (row_of hp1 hr)
    obtain ⟨g, g1, g2, _, g3⟩ := kz_put hst hf (row_of hp1 hs) f1 f2
    have h1 := (wr_least hst hw (row_of hp1 hs)).2 g g1 g2
    have h2 := total_falling hz hk' f1 g1 (g3 hl)
    omega
/-! ### bounds -/
def BdP (p : PrD) : Prop := ∀ v ∈ p.2, -2000 ≤ v ∧ v ≤ 2000
theorem cost_bd {p : PrD} (h : BdP p) (r : List Int) : -2000 ≤ cost p r ∧ cost p r ≤ 2000 := by
  unfold cost
  rw [List.getD_eq_getElem?_getD]
  cases hi : p.2[(num r).toNat]? with
  | none => exact ⟨by decide, by decide⟩
  | some v => exact h v (List.mem_of_getElem? hi)
theorem sum_bd {α : Type} {g : α → Int} {M : Int} (hM : 0 ≤ M) : ∀ {xs : List α}, (∀ x ∈ xs, -M ≤ g x ∧ g x ≤ M) → -(M * xs.length) ≤ (xs.map g).sum ∧ (xs.map g).sum ≤ M * xs.length
  | [], _ => by simp
  | x :: xs, h => by
    rw [List.map_cons, List.sum_cons]
    have h1 := h x (.head _)
    have h2 := sum_bd hM (xs := xs) fun y hy => h y (.tail _ hy)
    rw [List.length_cons, show ((xs.length + 1 : Nat) : Int) = (xs.length : Int) + 1 from rfl, Int.mul_add, Int.mul_one]
    omega
theorem total_bd {z : Pz} (hz : PzOk z) (hb : ∀ p ∈ z.book, BdP p) (f : List Int) : -120000000 ≤ total z f ∧ total z f ≤ 120000000 := by
  have h := sum_bd (g := tieVal z.book f) (M := 2000000) (by decide) (xs := z.ties) fun t ht => by
    obtain ⟨p, hp, e, _, hl, hc, h1, h2⟩ := tie_of hz ht
    unfold tieVal
    rw [e]
    have hc := cost_bd (hb p hp) (sel f t.2.1)
    have a1 : t.2.2 * cost p (sel f t.2.1) ≤ t.2.2 * 2000 := Int.mul_le_mul_of_nonneg_left hc.2 (by omega)
    have a2 : t.2.2 * (-2000) ≤ t.2.2 * cost p (sel f t.2.1) := Int.mul_le_mul_of_nonneg_left hc.1 (by omega)
    omega
  have := hz.2.2.1
  unfold total
  omega
end Cut
end

section
set_option maxHeartbeats 4000000
namespace Cut
open PySem PySem.Spec L2
local macro_rules | `(tactic| walk_at "rd") => `(tactic| dsimp only [tFor_eq, tLc_eq, tLc2_eq, iTup, iList, iRng1, iRng2, iSeq, RZ.iZipA, iEnum, iZipX, iEnumT, iKeys, tTupZip, tLenSet, gFld_app, tLock, tLockE, tCallN, tTup0F, tAsg, tVar, tC, tCmp, tIsN, tNotN, tB, tAnd, tOr, tNot, tAndV, tOrV, tNotV, tIf, tNext, tSeq, tBreak, tCont, tDrop, tRet, tRetN, tIfS, gName_app, gTup_app, gCons_app, gNil_app, gSub_app, tAsg, tAug, tCall, tMeth, tMake, tCons, tNil, tTup, tLst, tCB, tOp, tUn, tTest, tChain, tFld, sFld, sFldAug, tBM, tBM0, tSl, tPart, tNoPart, tDGet, tDIn, tDNotIn, sDPut, sDAug, tDNewK, tDNewT, tDGet2, L2.rI, L2.rI0, L2.rU, rEq, rNe, t2I, ipI, rAdd, rSub, rAppend, tAugS, cxOf, Cx.nox, Cx.wish])
local macro_rules | `(tactic| walk_at "ex") => `(tactic| simp only [L2.start, List.map_cons, List.map_nil, List.length_cons, List.length_nil, List.replicate_succ, List.replicate_zero, List.cons_append, List.nil_append, List.append_nil, List.getElem?_cons_zero, List.getElem?_cons_succ, List.set_cons_zero, List.set_cons_succ, L2.wipe, Option.some.injEq, V.int.injEq, V.bl.injEq, V.ref.injEq, V.str.injEq, V.ty.injEq, List.cons.injEq, exists_eq_left', exists_eq_left, exists_eq_right, and_true, true_and, and_self, exists_and_left, exists_and_right, exists_const, and_assoc, exists_eq, exists_eq', eq_self_iff_true, if_true, if_false, Bool.false_eq_true, decide_eq_true_eq, ne_eq, reduceCtorEq, not_false_eq_true, Nat.reduceAdd, Nat.reduceSub, Bool.not_true, Bool.not_false, Option.map_some, Option.map_none, Option.isSome_some, Option.isSome_none, Option.getD_some, Option.getD_none])
local macro_rules | `(tactic| walk_at "st") => `(tactic| ((try walk_at "rd"); (try walk_at "ex")))

/-! ### a price is looked at -/
def mulR (r s : List Int) : List Int := (r.zip s).map fun p => p.1 * p.2
theorem mul_and {r s : List Int} {n : Nat} (hr : Row r n) (hs : Row s n) : mulR r s = andR r s := by
  unfold mulR andR
  apply List.map_congr_left
  intro p hp
  have h1 := hr.2 p.1 (List.of_mem_zip hp).1
  have h2 := hs.2 p.2 (List.of_mem_zip hp).2
  rcases h1 with h1 | h1 <;> rcases h2 with h2 | h2 <;> rw [h1, h2] <;> decide
theorem kind_no {p : PrD} (h : KindP p "all no") : AllNo p := by
  rcases h with ⟨_, h⟩ | ⟨e, _⟩ | ⟨e, _⟩ | ⟨e, _⟩ | ⟨e, _⟩
  · exact h
  all_goals exact absurd e (by decide)
theorem kind_yes {p : PrD} (h : KindP p "all yes") : AllYes p := by
  rcases h with ⟨e, _⟩ | ⟨_, h⟩ | ⟨e, _⟩ | ⟨e, _⟩ | ⟨e, _⟩
  · exact absurd e (by decide)
  · exact h
  all_goals exact absurd e (by decide)
theorem kind_bent {p : PrD} (h : KindP p "bent") : Bent p := by
  rcases h with ⟨e, _⟩ | ⟨e, _⟩ | ⟨_, h⟩ | ⟨e, _⟩ | ⟨e, _⟩
  · exact absurd e (by decide)
  · exact absurd e (by decide)
  · exact h
  all_goals exact absurd e (by decide)
theorem kind_rising {p : PrD} (h : KindP p "rising") : Rising p := by
  rcases h with ⟨e, _⟩ | ⟨e, _⟩ | ⟨e, _⟩ | ⟨_, h⟩ | ⟨e, _⟩
  · exact absurd e (by decide)
  · exact absurd e (by decide)
  · exact absurd e (by decide)
  · exact h
  · exact absurd e (by decide)
theorem kind_falling {p : PrD} (h : KindP p "falling") : Falling p := by
  rcases h with ⟨e, _⟩ | ⟨e, _⟩ | ⟨e, _⟩ | ⟨e, _⟩ | ⟨_, h⟩
  · exact absurd e (by decide)
  · exact absurd e (by decide)
  · exact absurd e (by decide)
  · exact absurd e (by decide)
  · exact h
theorem row_num {n : Nat} {r : List Int} (hr : Row r n) : (rows n)[(num r).toNat]? = some r := by
  obtain ⟨j, hj⟩ := List.mem_iff_getElem?.mp (mem_rows n r hr)
  rw [rows_num n j r hj, Int.toNat_natCast]
  exact hj
theorem num_inj {n : Nat} {r s : List Int} (hr : Row r n) (hs : Row s n) (h : num r = num s) : r = s := by
  have h1 := row_num hr
  rw [h, row_num hs] at h1
  exact (Option.some.inj h1).symm
/-- every amount is a row's -/
theorem amount_row {p : PrD} (hp : PrOk p) {v : Int} (hv : v ∈ p.2) : ∃ r, Row r p.1 ∧ cost p r = v := by
  obtain ⟨i, hi⟩ := List.mem_iff_getElem?.mp hv
  have hl := (List.getElem?_eq_some_iff.mp hi).1
  rw [hp.2.2, ← rows_len] at hl
  have hr := List.getElem?_eq_getElem hl
  refine ⟨_, rows_at hr, ?_⟩
  unfold cost
  rw [rows_num _ _ _ hr, Int.toNat_natCast]
  exact getD_of hi
theorem num_rep0 {n : Nat} (h1 : 1 ≤ n) (h3 : n ≤ 3) : num (List.replicate n 0) = 0 := by
  match n, h1, h3 with
  | 1, _, _ => decide
  | 2, _, _ => decide
  | 3, _, _ => decide
theorem num_rep1 {n : Nat} (h1 : 1 ≤ n) (h3 : n ≤ 3) : num (List.replicate n 1) = (2 ^ n : Nat) - 1 := by
  match n, h1, h3 with
  | 1, _, _ => decide
  | 2, _, _ => decide
  | 3, _, _ => decide
theorem pow8 {n : Nat} (h3 : n ≤ 3) : 1 ≤ 2 ^ n ∧ 2 ^ n ≤ 8 := ⟨Nat.one_le_two_pow, Nat.pow_le_pow_right (n := 2) (by decide) h3⟩
theorem le_of_or {r s : List Int} {n : Nat} (hr : r.length = n) (hs : s.length = n) (h : orR r s = s) : LeR r s := fun i => by
  have := orR_getD hr hs i
  rw [h] at this
  omega
def IsW (H1 : Hp) (t am l : Addr) (w : Str) (n : Nat) (σ' : L2.St) (H' : Hp) : Prop := Ex H1 H' ∧ ∃ x5 x6 x7 x8 x9 x10 x11 : Option V, σ' = [some (.ref t), some (.str w), some (.int (n : Int)), some (.ref am), some (.ref l), x5, x6, x7, x8, x9, x10, x11]
def IsI (H1 : Hp) (t am l : Addr) (w : Str) (n : Nat) (i : Int) (σ' : L2.St) (H' : Hp) : Prop := Ex H1 H' ∧ ∃ x5 x7 x8 x9 x10 x11 : Option V, σ' = [some (.ref t), some (.str w), some (.int (n : Int)), some (.ref am), some (.ref l), x5, some (.int i), x7, x8, x9, x10, x11]
def sp_law_is (K : PySem.W.Frag) : Sp := PSp fun vs H R => ∃ (x : V) (p : PrD) (w : Str), vs = [x, .str w] ∧ rPl p H x ∧ PrOk p ∧ KindP p w ∧ R = rB true
abbrev nN_law_is : List Str := ["_law_price", "_law_word", "_law_size", "_law_amounts", "_law_rows_here", "_law_one", "_law_i", "_law_j", "_law_x", "_law_y", "_law_both", "_law_some"]
theorem sc_law_is : FnScope nN_law_is ["_law_price", "_law_word"] (defScope s_law_is) := ⟨rfl, rfl, rfl, by decide +kernel, rfl, by decide +kernel, by decide +kernel⟩
theorem ok_law_is {P : Program} {w : World} {K : PySem.W.Frag} {mg : Str → Option Value} {base : Heap} {fd : FuncData} (T : GG K w mg) (F : FunD K "_law_is" "_law_is" (defArgs s_law_is) (defBody s_law_is) (defScope s_law_is) [] [] (He.fAd K ("_law_is", none)) fd) (c_law_at : Cal P w K mg base "_law_at" 1 ["_law_row"] (sp_law_at K)) (c_law_rows : Cal P w K mg base "_law_rows" 1 ["_law_many"] (sp_law_rows K)) : Cal P w K mg base "_law_is" 2 ["_law_price", "_law_word"] (sp_law_is K) := by
  have nd := sc_law_is.nd
  refine cal_of F T.g_law_is (fun _ _ _ _ _ _ us hl => match us, hl with | [_, _], _ => rfl) (FunD.ok F sc_law_is (fun vs H Q E h => ?_) (fun cdv A outer s H vs Q E hr h => ?_))
  · obtain ⟨_, ⟨_, p, w, rfl, ⟨t, y1, y2, rfl, ht, h1, h2⟩, hp, hk, rfl⟩, q⟩ := h
    rfl
  obtain ⟨_, ⟨_, p, w, rfl, ⟨t, y1, y2, rfl, ht, h1, h2⟩, hp, hk, rfl⟩, q⟩ := h
  have hu := hu_of hr
  refine ⟨_, PSs.nox (pss_cons (ps_asg (pv 0) (pg_tupK (n := 2) (K := K) rfl rfl (pgs_cons (pg_name (i := 2) nd rfl (Or.inl rfl)) (pgs_cons (pg_name (i := 3) nd rfl (Or.inl rfl)) pgs_nil)))) (pss_cons (ps_set (i := 4) nd rfl (Or.inl rfl) (pe_cal c_law_rows hr (pa_cons (pv 2) pa_nil))) (pss_cons (ps_if (pt_cmpR op_eq (pv 1) pe_str (nomark _)) (pss_one (ps_ret (pe_cmpR op_eq (pe_b_min T.f_min (cr_min rfl) (pa_cons (pe_lc (own := [("_law_one", 5)]) rfl nd (pi_tupK (K := K) rfl (pv 3)) (blkOk_by (own := [("_law_one", 5)]) (N := nN_law_is) (sc := defScope s_law_is) (by decide +kernel)) (fun _ _ _ _ _ => (pg_name (i := 5) nd rfl (Or.inl rfl))) (fun _ _ _ _ _ => pts_nil) (fun _ _ _ _ _ => (pe_b_int T.f_int call_int1 (pa_cons (pv 5) pa_nil)))) pa_nil)) (pe_ix (ix_tupK (K := K) rfl) (pv 3) pe_int (fun _ _ => rfl)) (nomark _)))) pss_nil) (pss_cons (ps_if (pt_cmpR op_eq (pv 1) pe_str (nomark _)) (pss_one (ps_ret (pe_cmpR op_eq (pe_b_min T.f_min (cr_min rfl) (pa_cons (pe_lc (own := [("_law_one", 5)]) rfl nd (pi_tupK (K := K) rfl (pv 3)) (blkOk_by (own := [("_law_one", 5)]) (N := nN_law_is) (sc := defScope s_law_is) (by decide +kernel)) (fun _ _ _ _ _ => (pg_name (i := 5) nd rfl (Or.inl rfl))) (fun _ _ _ _ _ => pts_nil) (fun _ _ _ _ _ => (pe_b_int T.f_int call_int1 (pa_cons (pv 5) pa_nil)))) pa_nil)) (pe_ix (ix_tupK (K := K) rfl) (pv 3) (pe_un un_neg pe_int) (fun _ _ => rfl)) (nomark _)))) pss_nil) (pss_cons (ps_for PassesOwn.never rfl (pi_range1 rfl T.f_range (pa_cons (pe_b_len T.f_len call_len_seq (pa_cons (pv 4) pa_nil)) pa_nil)) (pg_name (i := 6) nd rfl (Or.inl rfl)) (pss_one (ps_for PassesOwn.never rfl (pi_range2 rfl T.f_range (pa_cons (pe_op op_add (pv 6) pe_int) (pa_cons (pe_b_len T.f_len call_len_seq (pa_cons (pv 4) pa_nil)) pa_nil))) (pg_name (i := 7) nd rfl (Or.inl rfl)) (pss_cons (ps_set (i := 10) nd rfl (Or.inl rfl) (pe_cal c_law_at hr (pa_cons (pe_lc (own := [("_law_x", 8), ("_law_y", 9)]) rfl nd (pi_zipX (by rfl) T.f_zip (pa_cons (pe_ix (ix_listK (K := K) rfl) (pv 4) (pv 6) (fun _ _ => rfl)) (pa_cons (pe_ix (ix_listK (K := K) rfl) (pv 4) (pv 7) (fun _ _ => rfl)) pa_nil))) (blkOk_by (own := [("_law_x", 8), ("_law_y", 9)]) (N := nN_law_is) (sc := defScope s_law_is) (by decide +kernel)) (fun _ _ _ _ _ => (pg_tupK (n := 2) (K := K) rfl rfl (pgs_cons (pg_name (i := 8) nd rfl (Or.inl rfl)) (pgs_cons (pg_name (i := 9) nd rfl (Or.inl rfl)) pgs_nil)))) (fun _ _ _ _ _ => pts_nil) (fun _ _ _ _ _ => (pe_op op_mul (pv 8) (pv 9)))) pa_nil))) (pss_cons (ps_set (i := 11) nd rfl (Or.inl rfl) (pe_cal c_law_at hr (pa_cons (pe_lc (own := [("_law_x", 8), ("_law_y", 9)]) rfl nd (pi_zipX (by rfl) T.f_zip (pa_cons (pe_ix (ix_listK (K := K) rfl) (pv 4) (pv 6) (fun _ _ => rfl)) (pa_cons (pe_ix (ix_listK (K := K) rfl) (pv 4) (pv 7) (fun _ _ => rfl)) pa_nil))) (blkOk_by (own := [("_law_x", 8), ("_law_y", 9)]) (N := nN_law_is) (sc := defScope s_law_is) (by decide +kernel)) (fun _ _ _ _ _ => (pg_tupK (n := 2) (K := K) rfl rfl (pgs_cons (pg_name (i := 8) nd rfl (Or.inl rfl)) (pgs_cons (pg_name (i := 9) nd rfl (Or.inl rfl)) pgs_nil)))) (fun _ _ _ _ _ => pts_nil) (fun _ _ _ _ _ => (pe_b_max T.f_max (call_max2 rfl) (pa_cons (pe_b_int T.f_int call_int1 (pa_cons (pv 8) pa_nil)) (pa_cons (pe_b_int T.f_int call_int1 (pa_cons (pv 9) pa_nil)) pa_nil))))) pa_nil))) (pss_cons (ps_if (PW.pt (pw_and (pt_cmpR op_eq (pv 1) pe_str (nomark _)) (pw_and1 (pt_cmpR op_gt (pe_op op_add (pe_ix (ix_tupK (K := K) rfl) (pv 3) (pv 10) (fun _ _ => rfl)) (pe_ix (ix_tupK (K := K) rfl) (pv 3) (pv 11) (fun _ _ => rfl))) (pe_op op_add (pe_ix (ix_tupK (K := K) rfl) (pv 3) (pv 6) (fun _ _ => rfl)) (pe_ix (ix_tupK (K := K) rfl) (pv 3) (pv 7) (fun _ _ => rfl))) (nomark _))))) (pss_one (ps_ret pe_bl)) pss_nil) (pss_cons (ps_if (PW.pt (pw_and (pt_cmpR op_eq (pv 1) pe_str (nomark _)) (pw_and (pt_cmpR op_eq (pv 11) (pv 7) (nomark _)) (pw_and1 (pt_cmpR op_lt (pe_ix (ix_tupK (K := K) rfl) (pv 3) (pv 7) (fun _ _ => rfl)) (pe_ix (ix_tupK (K := K) rfl) (pv 3) (pv 6) (fun _ _ => rfl)) (nomark _)))))) (pss_one (ps_ret pe_bl)) pss_nil) (pss_one (ps_if (PW.pt (pw_and (pt_cmpR op_eq (pv 1) pe_str (nomark _)) (pw_and (pt_cmpR op_eq (pv 11) (pv 7) (nomark _)) (pw_and1 (pt_cmpR op_gt (pe_ix (ix_tupK (K := K) rfl) (pv 3) (pv 7) (fun _ _ => rfl)) (pe_ix (ix_tupK (K := K) rfl) (pv 3) (pv 6) (fun _ _ => rfl)) (nomark _)))))) (pss_one (ps_ret pe_bl)) pss_nil))))))))) (pss_one (ps_ret pe_bl))))))), ?_⟩
  cases h1
  obtain ⟨am, rfl, ham⟩ := h2.of
  refine seq_gen fun P hP => ?_
  walk_at "st"
  refine ⟨_, sq_t ht, rfl, ?_⟩
  walk_at "st"
  refine hP _ _ ?_
  clear hP P
  refine seq_gen fun P hP => ?_
  walk_at "st"
  refine ⟨p.1, rfl, by have := hp.2.1; omega, fun l H1 hl e1 hr1 => ?_⟩
  obtain ⟨_, vs, hz, hl1, al⟩ := hr1
  cases hz
  refine hP _ _ ?_
  clear hP P
  have ham1 := e1 _ _ ham
  have hlen := hp.2.2
  have h8 := pow8 hp.2.1
  have hrl := rows_len p.1
  refine seq_gen fun P hP => ?_
  walk_at "st"
  refine ⟨rfl, ?_⟩
  by_cases hw1 : w = "all no"
  · rw [if_pos hw1]
    subst hw1
    refine ⟨⟨_, sq_t ham1⟩, ?_⟩
    refine lc_mapN (f := rI) (xs := p.2) (rb := rI) (F := fun v => v) (wk_tup fun H' g => ⟨_, sq_t (g _ _ ham1), ints_al _⟩) (by omega) (fun _ => rfl) ?_ ?_
    · rintro i c v H2 K1 hi e2 hv hK
      cases hv
      walk_at "st"
      exact .inl (hK _ _ (Ex.rf _) rfl)
    · rintro c H2 hc e2 hr2
      rw [List.map_id'] at hr2
      obtain ⟨_, us, hz, hc2, al2⟩ := hr2
      cases hz
      rw [al_ints al2] at hc2
      walk_at "st"
      refine ⟨c, p.2, rfl, sq_l hc2, by omega, fun m hm hmin => ?_⟩
      have h0 := cost_get hp (rep_row p.1 (.inl rfl))
      rw [num_rep0 hp.1 hp.2.1] at h0
      refine ixT (sq_t (e2 _ _ ham1)) (by decide) (map_at h0) ⟨rfl, q _ _ (e1.tr e2) ?_⟩
      obtain ⟨r, hr, he⟩ := amount_row hp hm
      have h2 := kind_no hk r hr
      have h3 := hmin _ (List.mem_of_getElem? h0)
      have : m = cost p (List.replicate p.1 0) := by omega
      rw [this, decide_eq_true rfl] <;> rfl
  rw [if_neg hw1]
  refine hP _ _ ?_
  clear hP P
  refine seq_gen fun P hP => ?_
  walk_at "st"
  refine ⟨rfl, ?_⟩
  by_cases hw2 : w = "all yes"
  · rw [if_pos hw2]
    subst hw2
    refine ⟨⟨_, sq_t ham1⟩, ?_⟩
    refine lc_mapN (f := rI) (xs := p.2) (rb := rI) (F := fun v => v) (wk_tup fun H' g => ⟨_, sq_t (g _ _ ham1), ints_al _⟩) (by omega) (fun _ => rfl) ?_ ?_
    · rintro i c v H2 K1 hi e2 hv hK
      cases hv
      walk_at "st"
      exact .inl (hK _ _ (Ex.rf _) rfl)
    · rintro c H2 hc e2 hr2
      rw [List.map_id'] at hr2
      obtain ⟨_, us, hz, hc2, al2⟩ := hr2
      cases hz
      rw [al_ints al2] at hc2
      walk_at "st"
      refine ⟨c, p.2, rfl, sq_l hc2, by omega, fun m hm hmin => ?_⟩
      have h0 := cost_get hp (rep_row p.1 (.inr rfl))
      rw [num_rep1 hp.1 hp.2.1] at h0
      have hat : atI (p.2.map V.int) (-1) = some (.int (cost p (List.replicate p.1 1))) := by
        unfold atI ixN
        rw [ints_len, if_neg (by decide), if_pos (by omega)]
        show (p.2.map V.int)[_]? = _
        rw [show ((-1 : Int) + (p.2.length : Int)).toNat = (((2 ^ p.1 : Nat) : Int) - 1).toNat by omega]
        exact map_at h0
      refine ⟨am, _, -1, _, rfl, rfl, sq_t (e2 _ _ ham1), hat, ⟨rfl, q _ _ (e1.tr e2) ?_⟩⟩
      obtain ⟨r, hr, he⟩ := amount_row hp hm
      have h2 := kind_yes hk r hr
      have h3 := hmin _ (List.mem_of_getElem? h0)
      have : m = cost p (List.replicate p.1 1) := by omega
      rw [this, decide_eq_true rfl] <;> rfl
  rw [if_neg hw2]
  refine hP _ _ ?_
  clear hP P
  have vlen := al.len
  refine seq_gen fun P hP => ?_
  walk_at "st"
  refine ⟨_, .inl (sq_l hl1), by omega, by omega, ?_⟩
  rw [Int.toNat_natCast]
  refine for_s (ws_rng0 (n := vs.length) (G := fun _ => True)) (fun _ => IsW H1 t am l w p.1) ⟨Ex.rf _, _, _, _, _, _, _, _, rfl⟩ (fun _ _ _ _ _ => True.intro) ?_ ?_
  · rintro i x v σ' H2 hx ⟨e2, x5, x6, x7, x8, x9, x10, x11, rfl⟩ hv
    cases hv
    have hi : i < vs.length := by
      have q := (List.getElem?_eq_some_iff.mp hx).1
      rw [List.length_range] at q
      exact q
    have hxi : x = i := by
      rw [List.getElem?_range hi] at hx
      exact (Option.some.inj hx).symm
    subst hxi
    walk_at "st"
    refine ⟨_, .inl (sq_l (e2 _ _ hl1)), by omega, by omega, by omega, by omega, ?_⟩
    refine for_s (ws_rng (lo := (x : Int) + 1) (n := ((vs.length : Int) - ((x : Int) + 1)).toNat) (G := fun _ => True)) (fun _ => IsI H1 t am l w p.1 x) ⟨e2, _, _, _, _, _, _, rfl⟩ (fun _ _ _ _ _ => True.intro) ?_ ?_
    · rintro i2 y v σ' H3 hx2 ⟨e3, x5, x7, x8, x9, x10, x11, rfl⟩ hv
      cases hv
      have hi2 : i2 < ((vs.length : Int) - ((x : Int) + 1)).toNat := by
        have q := (List.getElem?_eq_some_iff.mp hx2).1
        rw [List.length_range] at q
        exact q
      have hxi : y = i2 := by
        rw [List.getElem?_range hi2] at hx2
        exact (Option.some.inj hx2).symm
      subst hxi
      obtain ⟨j, hj⟩ : ∃ j : Nat, (x : Int) + 1 + (y : Int) = (j : Int) := ⟨x + 1 + y, by omega⟩
      rw [hj]
      have hjl : j < vs.length := by omega
      have hri := List.getElem?_eq_getElem (show x < (rows p.1).length by omega)
      have hrj := List.getElem?_eq_getElem (show j < (rows p.1).length by omega)
      generalize (rows p.1)[x]'(by omega) = ri at hri
      generalize (rows p.1)[j]'(by omega) = rj at hrj
      have hrowi := rows_at hri
      have hrowj := rows_at hrj
      have ali := al.up e3
      obtain ⟨ui, hui, hai⟩ := ali.get hri
      obtain ⟨uj, huj, haj⟩ := ali.get hrj
      obtain ⟨ci, rfl, hci⟩ := hai.of
      obtain ⟨cj, rfl, hcj⟩ := haj.of
      have hl3 := e3 _ _ hl1
      rw [gName_app]
      refine seq_gen fun P hP => ?_
      walk_at "st"
      refine ixL (sq_l hl3) (by omega) (get_toNat hui) ?_
      refine ixL (sq_l hl3) (by omega) (get_toNat huj) ?_
      refine ⟨ci, rfl, cj, rfl, .inr (.inl ⟨⟨_, sq_t hci⟩, ⟨_, sq_t hcj⟩, ?_⟩)⟩
      have hp3 := hp.2.1
      have hzl : (ri.zip rj).length ≤ 100000 := by
        rw [List.length_zip, hrowi.1, hrowj.1]
        omega
      refine lc_map (rb := rI) (F := fun p : Int × Int => p.1 * p.2) (wk_zipT (f := rI) (g := rI) (xs := ri) (ys := rj) fun H' e => ⟨_, _, sq_t (e _ _ hci), sq_t (e _ _ hcj), ints_al ri, ints_al rj⟩) hzl ?_ ?_ gm_pair
      · rintro k q v H' K1 hq e4 ⟨T, y1, y2, rfl, hT, hy1, hy2⟩ hK
        cases hy1
        cases hy2
        have hq1 := hrowi.2 q.1 (List.of_mem_zip (List.mem_of_getElem? hq)).1
        walk_at "st"
        refine ⟨_, sq_t hT, rfl, ?_⟩
        walk_at "st"
        exact ⟨.inl ⟨by omega, by omega⟩, hK _ _ (Ex.rf _) rfl⟩
      rintro c4 H4 hc4 e4 hr4
      obtain ⟨_, ws, hz4, hc4, al4⟩ := hr4
      cases hz4
      rw [al_ints al4] at hc4
      refine ⟨_, ⟨c4, mulR ri rj, rfl, .inl hc4, rfl⟩, ?_⟩
      rw [mul_and hrowi hrowj]
      refine hP _ _ ?_
      clear hP P
      refine seq_gen fun P hP => ?_
      walk_at "st"
      refine ixL (sq_l (e4 _ _ hl3)) (by omega) (get_toNat hui) ?_
      refine ixL (sq_l (e4 _ _ hl3)) (by omega) (get_toNat huj) ?_
      refine ⟨ci, rfl, cj, rfl, .inr (.inl ⟨⟨_, sq_t (e4 _ _ hci)⟩, ⟨_, sq_t (e4 _ _ hcj)⟩, ?_⟩)⟩
      refine lc_map (rb := rI) (F := fun p : Int × Int => if p.2 > p.1 then p.2 else p.1) (wk_zipT (f := rI) (g := rI) (xs := ri) (ys := rj) fun H' e => ⟨_, _, sq_t (e _ _ (e4 _ _ hci)), sq_t (e _ _ (e4 _ _ hcj)), ints_al ri, ints_al rj⟩) hzl ?_ ?_ gm_pair
      · rintro k q v H' K1 hq e4 ⟨T, y1, y2, rfl, hT, hy1, hy2⟩ hK
        cases hy1
        cases hy2
        walk_at "st"
        refine ⟨_, sq_t hT, rfl, ?_⟩
        walk_at "st"
        exact .inl (.inl (hK _ _ (Ex.rf _) rfl))
      rintro c5 H5 hc5 e5 hr5
      obtain ⟨_, ws5, hz5, hc5, al5⟩ := hr5
      cases hz5
      rw [al_ints al5] at hc5
      have e35 := e4.tr e5
      refine ⟨_, ⟨c5, orR ri rj, rfl, .inl hc5, rfl⟩, ?_⟩
      refine hP _ _ ?_
      clear hP P
      have ham5 := (e3.tr e35) _ _ ham1
      have hand := andR_row hrowi hrowj
      have hor := orR_row hrowi hrowj
      have gi := cost_get hp hrowi
      have gj := cost_get hp hrowj
      have ni := rows_num _ _ _ hri
      have nj := rows_num _ _ _ hrj
      rw [ni] at gi
      rw [nj] at gj
      have ga := cost_get hp hand
      have go := cost_get hp hor
      have na := (num_bound _ _ hand).1
      have no := (num_bound _ _ hor).1
      have at_ : ∀ {k : Int} {v : Int} {R : V → Hp → Prop}, 0 ≤ k → p.2[k.toNat]? = some v → R (.int v) H5 → rIxT K (.ref am) (.int k) H5 R := fun h0 h1 h2 => ixT (sq_t ham5) h0 (map_at h1) h2
      have fin : IsI H1 t am l w p.1 (x : Int) [some (V.ref t), some (V.str w), some (V.int ((p.1 : Nat) : Int)), some (V.ref am), some (V.ref l), x5, some (V.int (x : Int)), some (V.int (j : Int)), x8, x9, some (V.int (num (andR ri rj))), some (V.int (num (orR ri rj)))] H5 := ⟨e3.tr e35, _, _, _, _, _, _, rfl⟩
      refine seq_gen fun P hP => ?_
      have rest : P [some (V.ref t), some (V.str w), some (V.int ((p.1 : Nat) : Int)), some (V.ref am), some (V.ref l), x5, some (V.int (x : Int)), some (V.int (j : Int)), x8, x9, some (V.int (num (andR ri rj))), some (V.int (num (orR ri rj)))] H5 := by
        refine hP _ _ ?_
        clear hP P
        refine seq_gen fun P hP => ?_
        have rest : P [some (V.ref t), some (V.str w), some (V.int ((p.1 : Nat) : Int)), some (V.ref am), some (V.ref l), x5, some (V.int (x : Int)), some (V.int (j : Int)), x8, x9, some (V.int (num (andR ri rj))), some (V.int (num (orR ri rj)))] H5 := by
          refine hP _ _ ?_
          clear hP P
          walk_at "st"
          refine ⟨rfl, ?_⟩
          split
          · rename_i hw
            subst hw
            refine ⟨rfl, ?_⟩
            split
            · rename_i hn
              have hle := le_of_or hrowi.1 hrowj.1 (num_inj hor hrowj (by rw [hn, nj]))
              have := kind_falling hk ri rj hrowi hrowj hle
              refine at_ (by omega) gj (at_ (by omega) gi ⟨_, rfl, _, rfl, ?_⟩)
              rw [if_neg (by omega)]
              exact fin
            · exact fin
          · exact fin
        walk_at "st"
        refine ⟨rfl, ?_⟩
        split
        · rename_i hw
          subst hw
          refine ⟨rfl, ?_⟩
          split
          · rename_i hn
            have hle := le_of_or hrowi.1 hrowj.1 (num_inj hor hrowj (by rw [hn, nj]))
            have := kind_rising hk ri rj hrowi hrowj hle
            refine at_ (by omega) gj (at_ (by omega) gi ⟨_, rfl, _, rfl, ?_⟩)
            rw [if_neg (by omega)]
            exact rest
          · exact rest
        · exact rest
      walk_at "st"
      refine ⟨rfl, ?_⟩
      split
      · rename_i hw
        subst hw
        have := kind_bent hk ri rj hrowi hrowj
        refine at_ na ga (at_ no go ⟨_, rfl, _, rfl, at_ (by omega) gi (at_ (by omega) gj ⟨_, rfl, _, rfl, ?_⟩)⟩)
        rw [if_neg (by omega)]
        exact rest
      · exact rest
    · rintro σ' H3 ⟨e3, x5, x7, x8, x9, x10, x11, rfl⟩
      exact ⟨e3, _, _, _, _, _, _, _, rfl⟩
  · rintro σ' H2 ⟨e2, x5, x6, x7, x8, x9, x10, x11, rfl⟩
    refine hP _ _ ?_
    walk_at "st"
    exact q _ _ (e1.tr e2) rfl
end Cut
end

section
set_option maxHeartbeats 4000000
namespace Cut
open PySem PySem.Spec L2
local macro_rules | `(tactic| walk_at "rd") => `(tactic| dsimp only [tFor_eq, tLc_eq, tLc2_eq, iTup, iList, iRng1, iRng2, iSeq, RZ.iZipA, iEnum, iZipX, iEnumT, iKeys, tTupZip, tLenSet, gFld_app, tLock, tLockE, tCallN, tTup0F, tAsg, tVar, tC, tCmp, tIsN, tNotN, tB, tAnd, tOr, tNot, tAndV, tOrV, tNotV, tIf, tNext, tSeq, tBreak, tCont, tDrop, tRet, tRetN, tIfS, gName_app, gTup_app, gCons_app, gNil_app, gSub_app, tAsg, tAug, tCall, tMeth, tMake, tCons, tNil, tTup, tLst, tCB, tOp, tUn, tTest, tChain, tFld, sFld, sFldAug, tBM, tBM0, tSl, tPart, tNoPart, tDGet, tDIn, tDNotIn, sDPut, sDAug, tDNewK, tDNewT, tDGet2, L2.rI, L2.rI0, L2.rU, rEq, rNe, t2I, ipI, rAdd, rSub, rAppend, tAugS, cxOf, Cx.nox, Cx.wish])
local macro_rules | `(tactic| walk_at "ex") => `(tactic| simp only [L2.start, List.map_cons, List.map_nil, List.length_cons, List.length_nil, List.replicate_succ, List.replicate_zero, List.cons_append, List.nil_append, List.append_nil, List.getElem?_cons_zero, List.getElem?_cons_succ, List.set_cons_zero, List.set_cons_succ, L2.wipe, Option.some.injEq, V.int.injEq, V.bl.injEq, V.ref.injEq, V.str.injEq, V.ty.injEq, List.cons.injEq, exists_eq_left', exists_eq_left, exists_eq_right, and_true, true_and, and_self, exists_and_left, exists_and_right, exists_const, and_assoc, exists_eq, exists_eq', eq_self_iff_true, if_true, if_false, Bool.false_eq_true, decide_eq_true_eq, ne_eq, reduceCtorEq, not_false_eq_true, Nat.reduceAdd, Nat.reduceSub, Bool.not_true, Bool.not_false, Option.map_some, Option.map_none, Option.isSome_some, Option.isSome_none, Option.getD_some, Option.getD_none])
local macro_rules | `(tactic| walk_at "st") => `(tactic| ((try walk_at "rd"); (try walk_at "ex")))

theorem Hd.at_ {a d : Addr} {xs : List Int} {H : Hp} (h : Hd a d xs H) {p : Addr} (hp : H p = none) : p ≠ a := by
  obtain ⟨⟨_, _, h⟩, _⟩ := h
  exact ne_of_none' hp h
/-- a comprehension that draws -/
theorem lc_take {α β : Type} {J : It} {f : α → Rp} {xs : List α} {rb : β → Rp} [∀ y, Iz (rb y)] {H1 : Hp} {a d : Addr} {ds : List Int} (hh : Hd a d ds H1) (Pr : β → Prop) (wk : Wk J (fun H => Hx a d H1 H) f xs) (hz : xs.length ≤ 100000) {j : Nat} {te : TE} {vs : List Nat} {σ : L2.St} {Q : VK}
    (hw : ∀ x : V, wipe ((wipe σ vs).set j (some x)) vs = wipe σ vs)
    (turn : ∀ (v : V) (H' : Hp) (K1 : VK), Hx a d H1 H' → (∀ y u H4, Pr y → Hx a d H' H4 → rb y H4 u → K1 u H4) → te ((wipe σ vs).set j (some v)) H' K1)
    (done : ∀ (p : Addr) (H' : Hp) (ys : List β), p ≠ a → H1 p = none → Hx a d H1 H' → ys.length = xs.length → (∀ y ∈ ys, Pr y) → rLi rb ys H' (.ref p) → Q (.ref p) H') :
    LcL J (gName j) tYes te vs σ H1 Q := by
  intro D hD
  have nDa := hh.at_ hD
  let Pv : Nat → Hp → Prop := fun i H => Hx a d H1 H ∧ ∃ acc ys, H D = some (.lst acc) ∧ Al (fun w x => rb x H w) acc ys ∧ ys.length = i ∧ ∀ y ∈ ys, Pr y
  refine ⟨fun i m H => m = xs.length - i ∧ i ≤ xs.length ∧ Pv i H, ⟨xs.length, by simp, Nat.zero_le _, hh.ex (Ex.new hD), [], [], upd_same, .nil, rfl, fun _ h => nomatch h⟩, ?_⟩
  rintro i m H ⟨rfl, hi, e, acc, ys, hacc, al, hl, hp⟩
  by_cases hlt : i < xs.length
  · refine .inr ⟨wk.go i H hlt e, fun H' => Pv (i + 1) H', fun H' p' => ⟨xs.length - (i + 1), by omega, rfl, hlt, p'⟩, fun v H' y => ?_⟩
    obtain ⟨e1, r⟩ := wk.yld i _ H v H' (List.getElem?_eq_getElem hlt) e y
    have hhH := hh.x e
    have ex1 := hhH.ex e1
    refine ⟨hw v, yes_run (turn v H' _ (e.tr ex1) fun y u H4 hy e4 hu => ?_)⟩
    have h4 : H4 D = some (.lst acc) := e4.1 _ _ nDa (e1 _ _ hacc)
    refine ⟨acc, h4, szl (by have := al.len; omega), ((e.tr ex1).tr e4).mut hD nDa, acc ++ [u], ys ++ [y], upd_same, ?_, by rw [List.length_append, hl] <;> rfl, fun z hz => ?_⟩
    · have tx : Zx H4 (upd H4 D (.lst (acc ++ [u]))) := Zx.mut h4 (fun q => q)
      have z4 := ((hhH.x ex1).zx e4)
      exact ((al.upZ (e1.zx.tr z4)).snoc hu).upZ tx
    · rcases List.mem_append.mp hz with hz | hz
      · exact hp z hz
      · have : z = y := by simpa using hz
        rw [this]
        exact hy
  · have ei : i = xs.length := by omega
    subst ei
    exact .inl ⟨wk.stop H e, done D H ys nDa hD e hl hp (rLi.mk hacc al)⟩
/-! ### ties are drawn -/
def TiW (H : Hp) (a b d D : Addr) (n m : Int) (book : List PrD) (nn : Nat) (i : Nat) (σ' : L2.St) (H' : Hp) : Prop := Hx a d H H' ∧ ∃ (x5 x6 x7 x8 : Option V) (acc : List V) (ts : List (Nat × List Int × Int)), σ' = [some (.ref a), some (.ref b), some (.int n), some (.int m), some (.ref D), x5, x6, x7, x8] ∧ H' D = some (.lst acc) ∧ Al (fun w t => rTi t H' w) acc ts ∧ ts.length = i ∧ ∀ t ∈ ts, TieOk book nn t
def sp_law_ties (K : PySem.W.Frag) : Sp := fun vs H Q _ => ∃ (a b d : Addr) (ds : List Int) (us : List V) (book : List PrD) (n m : Nat), vs = [.ref a, .ref b, .int n, .int m] ∧ Hd a d ds H ∧ b ≠ a ∧ H b = some (.lst us) ∧ Al (fun w x => rPl x H w) us book ∧ BkOk book ∧ 1 ≤ n ∧ m ≤ 60 ∧
  ∀ ts v H', ts.length = m → (∀ t ∈ ts, TieOk book n t) → Hx a d H H' → rTu rTi ts H' v → Q v H'
abbrev nN_law_ties : List Str := ["_law_hand", "_law_book", "_law_cells", "_law_many", "_law_ties_here", "_law_k", "_law_number", "_law_place", "_law_places"]
theorem sc_law_ties : FnScope nN_law_ties ["_law_hand", "_law_book", "_law_cells", "_law_many"] (defScope s_law_ties) := ⟨rfl, rfl, rfl, by decide +kernel, rfl, by decide +kernel, by decide +kernel⟩
theorem ok_law_ties {P : Program} {w : World} {K : PySem.W.Frag} {mg : Str → Option Value} {base : Heap} {fd : FuncData} (T : GG K w mg) (F : FunD K "_law_ties" "_law_ties" (defArgs s_law_ties) (defBody s_law_ties) (defScope s_law_ties) [] [] (He.fAd K ("_law_ties", none)) fd) (c_law_take : Cal P w K mg base "_law_take" 1 ["_law_hand", "_law_many"] (sp_law_take K)) : Cal P w K mg base "_law_ties" 2 ["_law_hand", "_law_book", "_law_cells", "_law_many"] (sp_law_ties K) := by
  have nd := sc_law_ties.nd
  refine cal_of F T.g_law_ties (fun _ _ _ _ _ _ us hl => match us, hl with | [_, _, _, _], _ => rfl) (FunD.ok F sc_law_ties (fun vs H Q E h => ?_) (fun cdv A outer s H vs Q E hr h => ?_))
  · obtain ⟨a, b, d, ds, us, book, n, m, rfl, hh, nba, hb, al, hbk, hn, hm, q⟩ := h
    rfl
  obtain ⟨a, b, d, ds, us, book, n, m, rfl, hh, nba, hb, al, hbk, hn, hm, q⟩ := h
  have hu := hu_of hr
  refine ⟨_, PSs.nox (pss_cons (ps_set (i := 4) nd rfl (Or.inl rfl) (pe_lst pa_nil)) (pss_cons (ps_for PassesOwn.never rfl (pi_range1 rfl T.f_range (pa_cons (pv 3) pa_nil)) (pg_name (i := 5) nd rfl (Or.inl rfl)) (pss_cons (ps_set (i := 6) nd rfl (Or.inl rfl) (pe_cal c_law_take hr (pa_cons (pv 0) (pa_cons (pe_b_len T.f_len call_len_seq (pa_cons (pv 1) pa_nil)) pa_nil)))) (pss_cons (ps_set (i := 8) nd rfl (Or.inl rfl) (pe_b_tuple T.f_tuple call_tuple_of (pa_cons (pe_lc (own := [("_law_place", 7)]) rfl nd (pi_range1 rfl T.f_range (pa_cons (pe_ix (ix_tupK (K := K) rfl) (pe_ix (ix_listK (K := K) rfl) (pv 1) (pv 6) (fun _ _ => rfl)) pe_int (fun _ _ => rfl)) pa_nil)) (blkOk_by (own := [("_law_place", 7)]) (N := nN_law_ties) (sc := defScope s_law_ties) (by decide +kernel)) (fun _ _ _ _ _ => (pg_name (i := 7) nd rfl (Or.inl rfl))) (fun _ _ _ _ _ => pts_nil) (fun _ _ _ _ _ => (pe_cal c_law_take hr (pa_cons (pv 0) (pa_cons (pv 2) pa_nil))))) pa_nil))) (pss_one (ps_expr (pe_bm PySem.F.plainAttrs_list PySem.F.slot_list_append PySem.F.type_list_append mt_append (pv 4) (pa_cons (pe_tup (pa_cons (pv 6) (pa_cons (pv 8) (pa_cons (pe_ix (ix_listK (K := K) rfl) (pe_lst (pa_cons pe_int (pa_cons pe_int (pa_cons pe_int (pa_cons (pe_op op_add pe_int (pe_cal c_law_take hr (pa_cons (pv 0) (pa_cons pe_int pa_nil)))) pa_nil))))) (pe_cal c_law_take hr (pa_cons (pv 0) (pa_cons pe_int pa_nil))) (fun _ _ => rfl)) pa_nil)))) pa_nil))))))) (pss_one (ps_ret (pe_b_tuple T.f_tuple call_tuple_of (pa_cons (pv 4) pa_nil)))))), ?_⟩
  walk_at "st"
  refine ⟨by decide, fun D hD => ⟨by omega, by omega, ?_⟩⟩
  rw [Int.toNat_natCast]
  have nDa := hh.at_ hD
  refine for_s (ws_rng0 (n := m) (G := fun _ => True)) (TiW H a b d D n m book n) ⟨hh.ex (Ex.new hD), _, _, _, _, [], [], rfl, upd_same, .nil, rfl, fun _ h => nomatch h⟩ (fun _ _ _ _ _ => True.intro) ?_ ?_
  · rintro i x v σ' H2 hx ⟨e2, x5, x6, x7, x8, acc, ts, rfl, hD2, alt, hl, ht⟩ hv
    cases hv
    have hi : i < m := by
      have q := (List.getElem?_eq_some_iff.mp hx).1
      rw [List.length_range] at q
      exact q
    have hh2 := hh.x e2
    have hb2 := e2.1 _ _ nba hb
    walk_at "st"
    have hbl := al.len
    have hb1 := hbk.1
    refine ⟨us, .inl (sq_l hb2), take_of (by omega) hh2 fun k H3 k0 k1 h3 => ?_⟩
    have hh3 := hh2.x h3
    obtain ⟨p, hp⟩ : ∃ p, book[k.toNat]? = some p := ⟨_, List.getElem?_eq_getElem (by omega)⟩
    obtain ⟨u, hu, tq, y1, y2, rfl, htq, hy1, hy2⟩ := (al.upZ (hh.zx (e2.tr h3))).get hp
    cases hy1
    refine ixL (sq_l (h3.1 _ _ nba hb2)) k0 hu ?_
    refine ixT (sq_t htq) (by decide) rfl ?_
    have hpok := hbk.2.2 p (List.mem_of_getElem? hp)
    have hp3 := hpok.2.1
    refine ⟨_, rfl, by omega, by omega, ?_⟩
    rw [Int.toNat_natCast]
    refine lc_take (f := fun (k : Nat) => rI (k : Int)) (xs := List.range p.1) (rb := rI) hh3 (fun c => 0 ≤ c ∧ c < (n : Int)) wk_rng0 (by rw [List.length_range]; omega) (fun _ => rfl) ?_ ?_
    · rintro v H4 K1 h4 hK
      walk_at "st"
      exact take_of (by omega) (hh3.x h4) fun c H5 c0 c1 h5 => hK c _ _ ⟨c0, c1⟩ h5 rfl
    · rintro l H4 cs nla hlN h4 hcl hcs hrl
      rw [List.length_range] at hcl
      obtain ⟨_, ws, hz, hl4, al4⟩ := hrl
      cases hz
      rw [al_ints al4] at hl4
      refine ⟨l, rfl, _, .inl ⟨sq_l hl4, fun t0 ht0 => ?_⟩⟩
      have hh4 := hh3.x h4
      have e5 := Ex.new (o := .tup (cs.map V.int)) ht0
      have ht05 := upd_same (H := H4) (a := t0) (o := .tup (cs.map V.int))
      generalize upd H4 t0 (.tup (cs.map V.int)) = H5 at e5 ht05 ⊢
      have hh5 := hh4.up e5
      have z25 := (h3.tr h4).tr (hh4.ex e5)
      refine ⟨.inl ⟨rfl, _, sq_l (z25.1 _ _ nDa hD2)⟩, take_of (by decide) hh5 fun e H6 e0 e1 h6 => ⟨e, rfl, by decide, fun q2 hq2 => ?_⟩⟩
      have hh6 := hh5.x h6
      have e7 := Ex.new (o := .lst [V.int 1, V.int 1, V.int 2, V.int (1 + e)]) hq2
      have nq := hh6.at_ hq2
      refine take_of (by decide) (hh6.up e7) fun g H8 g0 g1 h8 => ?_
      have hq8 := h8.1 _ _ nq upd_same
      obtain ⟨w, hw, w0, w1⟩ : ∃ w, ([V.int 1, V.int 1, V.int 2, V.int (1 + e)] : List V)[g.toNat]? = some (.int w) ∧ 1 ≤ w ∧ w ≤ 1000 := by
        have hg : g = 0 ∨ g = 1 ∨ g = 2 ∨ g = 3 := by omega
        rcases hg with rfl | rfl | rfl | rfl
        · exact ⟨_, rfl, by omega, by omega⟩
        · exact ⟨_, rfl, by omega, by omega⟩
        · exact ⟨_, rfl, by omega, by omega⟩
        · exact ⟨_, rfl, by omega, by omega⟩
      refine ixL (sq_l hq8) g0 hw ⟨by decide, fun t9 ht9 => ?_⟩
      have z58 := (h6.tr (hh6.ex e7)).tr h8
      have hh8 := hh5.x z58
      have e9 := Ex.new (o := .tup [V.int k, V.ref t0, V.int w]) ht9
      have z59 := z58.tr (hh8.ex e9)
      have z29 := z25.tr z59
      have hD9 := z29.1 _ _ nDa hD2
      refine ⟨acc, hD9, szl (by have := alt.len; omega), (e2.tr z29).mut hD nDa, _, _, _, _, acc ++ [.ref t9], ts ++ [(k.toNat, cs, w)], rfl, upd_same, ?_, by rw [List.length_append, hl] <;> rfl, fun t ht' => ?_⟩
      · have a9 := (alt.upZ (hh2.zx z29)).snoc (v := .ref t9) (x := (k.toNat, cs, w)) ⟨t9, _, _, _, rfl, upd_same, by show V.int k = V.int _; rw [Int.toNat_of_nonneg k0], rIs.mk (z59.1 _ _ (hh4.at_ ht0) ht05), rfl⟩
        exact a9.upT (Tx.mut hD9 (fun xs z => nomatch z))
      · rcases List.mem_append.mp ht' with h | h
        · exact ht t h
        · have : t = (k.toNat, cs, w) := by simpa using h
          subst this
          exact ⟨p, hp, hcl, hcs, w0, w1⟩
  · rintro σ' H2 ⟨e2, x5, x6, x7, x8, acc, ts, rfl, hD2, alt, hl, ht⟩
    rw [List.length_range] at hl
    walk_at "st"
    refine ⟨acc, .inl ⟨sq_l hD2, fun l hl3 => ?_⟩⟩
    have e3 := Ex.new (o := .tup acc) hl3
    exact q ts _ _ hl ht (e2.tr (hh.x e2 |>.ex e3)) ⟨l, acc, rfl, upd_same, alt.up e3⟩
/-! ### a start is drawn -/
def StW (H : Hp) (a d D : Addr) (n m : Int) (nn : Nat) (i : Nat) (σ' : L2.St) (H' : Hp) : Prop := Hx a d H H' ∧ ∃ (x4 : Option V) (acc : List V) (st : List (Int × Int)), σ' = [some (.ref a), some (.int n), some (.int m), some (.ref D), x4] ∧ H' D = some (.lst acc) ∧ Al (fun w t => rPp t H' w) acc st ∧ StOk i st
def sp_law_start (K : PySem.W.Frag) : Sp := fun vs H Q _ => ∃ (a d : Addr) (ds : List Int) (n m : Nat), vs = [.ref a, .int n, .int m] ∧ Hd a d ds H ∧ n ≤ 8 ∧ 1 ≤ m ∧ ∀ st v H', StOk n st → Hx a d H H' → rFr rPp st H' v → Q v H'
abbrev nN_law_start : List Str := ["_law_hand", "_law_cells", "_law_share", "_law_start_here", "_law_cell"]
theorem sc_law_start : FnScope nN_law_start ["_law_hand", "_law_cells", "_law_share"] (defScope s_law_start) := ⟨rfl, rfl, rfl, by decide +kernel, rfl, by decide +kernel, by decide +kernel⟩
theorem ok_law_start {P : Program} {w : World} {K : PySem.W.Frag} {mg : Str → Option Value} {base : Heap} {fd : FuncData} (T : GG K w mg) (F : FunD K "_law_start" "_law_start" (defArgs s_law_start) (defBody s_law_start) (defScope s_law_start) [] [] (He.fAd K ("_law_start", none)) fd) (c_law_take : Cal P w K mg base "_law_take" 1 ["_law_hand", "_law_many"] (sp_law_take K)) : Cal P w K mg base "_law_start" 2 ["_law_hand", "_law_cells", "_law_share"] (sp_law_start K) := by
  have nd := sc_law_start.nd
  refine cal_of F T.g_law_start (fun _ _ _ _ _ _ us hl => match us, hl with | [_, _, _], _ => rfl) (FunD.ok F sc_law_start (fun vs H Q E h => ?_) (fun cdv A outer s H vs Q E hr h => ?_))
  · obtain ⟨a, d, ds, n, m, rfl, hh, hn, hm, q⟩ := h
    rfl
  obtain ⟨a, d, ds, n, m, rfl, hh, hn, hm, q⟩ := h
  have hu := hu_of hr
  refine ⟨_, PSs.nox (pss_cons (ps_set (i := 3) nd rfl (Or.inl rfl) (pe_lst pa_nil)) (pss_cons (ps_for PassesOwn.never rfl (pi_range1 rfl T.f_range (pa_cons (pv 1) pa_nil)) (pg_name (i := 4) nd rfl (Or.inl rfl)) (pss_one (ps_if (pt_cmpR op_eq (pe_cal c_law_take hr (pa_cons (pv 0) (pa_cons (pv 2) pa_nil))) pe_int (nomark _)) (pss_one (ps_expr (pe_bm PySem.F.plainAttrs_list PySem.F.slot_list_append PySem.F.type_list_append mt_append (pv 3) (pa_cons (pe_tup (pa_cons (pv 4) (pa_cons (pe_cal c_law_take hr (pa_cons (pv 0) (pa_cons pe_int pa_nil))) pa_nil))) pa_nil)))) pss_nil))) (pss_one (ps_ret (pe_b_tuple T.f_tuple call_tuple_ofF (pa_cons (pv 3) pa_nil)))))), ?_⟩
  walk_at "st"
  refine ⟨by decide, fun D hD => ⟨by omega, by omega, ?_⟩⟩
  rw [Int.toNat_natCast]
  have nDa := hh.at_ hD
  refine for_s (ws_rng0 (n := n) (G := fun _ => True)) (StW H a d D n m n) ⟨hh.ex (Ex.new hD), _, [], [], rfl, upd_same, .nil, .nil, fun _ h => nomatch h⟩ (fun _ _ _ _ _ => True.intro) ?_ ?_
  · rintro i x v σ' H2 hx ⟨e2, x4, acc, st, rfl, hD2, als, hst⟩ hv
    cases hv
    have hi : i < n := by
      have q := (List.getElem?_eq_some_iff.mp hx).1
      rw [List.length_range] at q
      exact q
    have hxi : x = i := by
      rw [List.getElem?_range hi] at hx
      exact (Option.some.inj hx).symm
    subst hxi
    have hh2 := hh.x e2
    walk_at "st"
    refine take_of (by omega) hh2 fun k H3 k0 k1 h3 => ⟨rfl, ?_⟩
    have hh3 := hh2.x h3
    have hD3 := h3.1 _ _ nDa hD2
    have st1 : StOk (x + 1) st := ⟨hst.1, fun p hp => by have := hst.2 p hp; omega⟩
    split
    · refine ⟨.inl ⟨rfl, _, sq_l hD3⟩, take_of (by decide) hh3 fun u H4 u0 u1 h4 => ⟨by decide, fun t ht => ?_⟩⟩
      have e5 := Ex.new (o := .tup [V.int (x : Int), V.int u]) ht
      have z25 := (h3.tr h4).tr ((hh3.x h4).ex e5)
      have hD5 := z25.1 _ _ nDa hD2
      refine ⟨acc, hD5, szl (by have := als.len; have := st_len hst; omega), (e2.tr z25).mut hD nDa, _, acc ++ [.ref t], st ++ [((x : Int), u)], rfl, upd_same, ?_, ?_⟩
      · have a5 := (als.upZ (hh2.zx z25)).snoc (v := .ref t) (x := ((x : Int), u)) ⟨t, _, _, rfl, upd_same, rfl, rfl⟩
        exact a5.upT (Tx.mut hD5 (fun xs z => nomatch z))
      · refine ⟨List.pairwise_append.mpr ⟨hst.1, by simp, fun p hp p' hp' => ?_⟩, fun p hp => ?_⟩
        · have : p' = ((x : Int), u) := by simpa using hp'
          subst this
          exact (hst.2 p hp).2.1
        · rcases List.mem_append.mp hp with h | h
          · exact st1.2 p h
          · have : p = ((x : Int), u) := by simpa using h
            subst this
            exact ⟨by show (0 : Int) ≤ (x : Int); omega, by show (x : Int) < _; omega, by show u = 0 ∨ u = 1; omega⟩
    · exact ⟨e2.tr h3, _, acc, st, rfl, hD3, als.upZ (hh2.zx h3), st1⟩
  · rintro σ' H2 ⟨e2, x4, acc, st, rfl, hD2, als, hst⟩
    rw [List.length_range] at hst
    walk_at "st"
    refine ⟨acc, sq_l hD2, fun l o ho hl3 => ?_⟩
    have e3 := Ex.new (o := .frz o (.tup acc)) hl3
    exact q st _ _ hst (e2.tr (hh.x e2 |>.ex e3)) ⟨l, o, acc, rfl, upd_same, ho, als.up e3⟩
end Cut
end

section
set_option maxHeartbeats 4000000
namespace Cut
open PySem PySem.Spec L2
local macro_rules | `(tactic| walk_at "rd") => `(tactic| dsimp only [tFor_eq, tLc_eq, tLc2_eq, iTup, iList, iRng1, iRng2, iSeq, RZ.iZipA, iEnum, iZipX, iEnumT, iKeys, tTupZip, tLenSet, gFld_app, tLock, tLockE, tCallN, tTup0F, tAsg, tVar, tC, tCmp, tIsN, tNotN, tB, tAnd, tOr, tNot, tAndV, tOrV, tNotV, tIf, tNext, tSeq, tBreak, tCont, tDrop, tRet, tRetN, tIfS, gName_app, gTup_app, gCons_app, gNil_app, gSub_app, tAsg, tAug, tCall, tMeth, tMake, tCons, tNil, tTup, tLst, tCB, tOp, tUn, tTest, tChain, tFld, sFld, sFldAug, tBM, tBM0, tSl, tPart, tNoPart, tDGet, tDIn, tDNotIn, sDPut, sDAug, tDNewK, tDNewT, tDGet2, L2.rI, L2.rI0, L2.rU, rEq, rNe, t2I, ipI, rAdd, rSub, rAppend, tAugS, cxOf, Cx.nox, Cx.wish])
local macro_rules | `(tactic| walk_at "ex") => `(tactic| simp only [L2.start, List.map_cons, List.map_nil, List.length_cons, List.length_nil, List.replicate_succ, List.replicate_zero, List.cons_append, List.nil_append, List.append_nil, List.getElem?_cons_zero, List.getElem?_cons_succ, List.set_cons_zero, List.set_cons_succ, L2.wipe, Option.some.injEq, V.int.injEq, V.bl.injEq, V.ref.injEq, V.str.injEq, V.ty.injEq, List.cons.injEq, exists_eq_left', exists_eq_left, exists_eq_right, and_true, true_and, and_self, exists_and_left, exists_and_right, exists_const, and_assoc, exists_eq, exists_eq', eq_self_iff_true, if_true, if_false, Bool.false_eq_true, decide_eq_true_eq, ne_eq, reduceCtorEq, not_false_eq_true, Nat.reduceAdd, Nat.reduceSub, Bool.not_true, Bool.not_false, Option.map_some, Option.map_none, Option.isSome_some, Option.isSome_none, Option.getD_some, Option.getD_none])
local macro_rules | `(tactic| walk_at "st") => `(tactic| ((try walk_at "rd"); (try walk_at "ex")))

/-! ### free cells are drawn -/
theorem call_dictTK {X : Cx} {K : PySem.W.Frag} (h : X.K = K) (hc : X.calm = true) : CallR X (.type "dict") (fun xs H Q => ∃ (a : Addr) (ps : List Addr) (kvs : List (Key × V)), xs = [.ref a] ∧ (∃ o, H a = some (.frz o (.tup (ps.map V.ref))) ∧ o.dict = none) ∧ Paired (fun p kv => SqT K H p [kV kv.1, kv.2]) ps kvs ∧
    ∀ p, H p = none → Q (.ref p) (upd H p (.dK (mergeK [] kvs)))) := by
  subst h
  exact call_dictT hc
def fr0 (st : List (Int × Int)) (n : Nat) : List Int := (List.range n).filterMap fun (k : Nat) => if gt st (k : Int) = none then some (k : Int) else none
theorem fr0_nodup (st : List (Int × Int)) (n : Nat) : (fr0 st n).Nodup := by
  unfold fr0
  refine List.nodup_iff_pairwise_ne.mpr (List.pairwise_filterMap.mpr (List.pairwise_lt_range.imp fun {x y} h b hb c hc => ?_))
  by_cases h1 : gt st (x : Int) = none
  · by_cases h2 : gt st (y : Int) = none
    · simp only [h1, if_true, Option.some.injEq] at hb
      simp only [h2, if_true, Option.some.injEq] at hc
      omega
    · simp [h2] at hc
  · simp [h1] at hb
theorem mem_fr0 {st : List (Int × Int)} {n : Nat} {c : Int} : c ∈ fr0 st n ↔ 0 ≤ c ∧ c < (n : Int) ∧ gt st c = none := by
  unfold fr0
  rw [List.mem_filterMap]
  constructor
  · rintro ⟨k, hk, h⟩
    by_cases h1 : gt st (k : Int) = none
    · simp only [h1, if_true, Option.some.injEq] at h
      subst h
      exact ⟨by omega, by have := List.mem_range.mp hk; omega, h1⟩
    · simp [h1] at h
  · rintro ⟨h0, h1, h2⟩
    refine ⟨c.toNat, List.mem_range.mpr (by omega), ?_⟩
    rw [Int.toNat_of_nonneg h0, if_pos h2]
theorem erase_perm {xs : List Int} {k : Nat} {y : Int} (h : xs[k]? = some y) (fo : List Int) : (xs.eraseIdx k ++ (fo ++ [y])).Perm (xs ++ fo) := by
  have h1 : xs.Perm (y :: xs.eraseIdx k) := by
    induction xs generalizing k with
    | nil => cases h
    | cons x xs ih =>
      cases k with
      | zero =>
        have : x = y := by simpa using h
        rw [this]
        exact .refl _
      | succ k => exact ((ih (k := k) (by simpa using h)).cons x).trans (.swap ..)
  have h2 : (xs ++ fo).Perm (y :: (xs.eraseIdx k ++ fo)) := h1.append_right fo
  rw [← List.append_assoc]
  exact (List.perm_append_singleton y _).trans h2.symm
theorem map_erase (xs : List Int) (k : Nat) : (xs.map V.int).eraseIdx k = (xs.eraseIdx k).map V.int := by
  induction xs generalizing k with
  | nil => rfl
  | cons x xs ih =>
    cases k with
    | zero => rfl
    | succ k => rw [List.map_cons, List.eraseIdx_cons_succ, List.eraseIdx_cons_succ, List.map_cons, ih]
def FrW (H : Hp) (a d Fr Fo : Addr) (y : V) (n m : Int) (L0 : List Int) (i : Nat) (σ' : L2.St) (H' : Hp) : Prop := Hx a d H H' ∧ ∃ (x4 x7 : Option V) (fr fo : List Int), σ' = [some (.ref a), some (.int n), some y, some (.int m), x4, some (.ref Fr), some (.ref Fo), x7] ∧ H' Fr = some (.lst (fr.map V.int)) ∧ H' Fo = some (.lst (fo.map V.int)) ∧ (fr ++ fo).Perm L0 ∧ fo.length ≤ i ∧ (fo = [] → i = 0 ∨ fr = [])
def sp_law_free (K : PySem.W.Frag) : Sp := fun vs H Q _ => ∃ (a d : Addr) (ds : List Int) (y : V) (n m : Nat) (st : List (Int × Int)), vs = [.ref a, .int n, y, .int m] ∧ Hd a d ds H ∧ rFr rPp st H y ∧ StOk n st ∧ n ≤ 8 ∧ 1 ≤ m ∧ m ≤ 3 ∧
  ∀ cs v H', cs.Nodup → (∀ c ∈ cs, 0 ≤ c ∧ c < (n : Int) ∧ gt st c = none) → cs.length ≤ m → (cs = [] → ∀ c : Int, 0 ≤ c → c < (n : Int) → gt st c ≠ none) → Hx a d H H' → rIs cs H' v → Q v H'
abbrev nN_law_free : List Str := ["_law_hand", "_law_cells", "_law_start_here", "_law_many", "_law_cell", "_law_free_here", "_law_found", "_law_k"]
theorem sc_law_free : FnScope nN_law_free ["_law_hand", "_law_cells", "_law_start_here", "_law_many"] (defScope s_law_free) := ⟨rfl, rfl, rfl, by decide +kernel, rfl, by decide +kernel, by decide +kernel⟩
theorem ok_law_free {P : Program} {w : World} {K : PySem.W.Frag} {mg : Str → Option Value} {base : Heap} {fd : FuncData} (T : GG K w mg) (F : FunD K "_law_free" "_law_free" (defArgs s_law_free) (defBody s_law_free) (defScope s_law_free) [] [] (He.fAd K ("_law_free", none)) fd) (c_law_take : Cal P w K mg base "_law_take" 1 ["_law_hand", "_law_many"] (sp_law_take K)) : Cal P w K mg base "_law_free" 2 ["_law_hand", "_law_cells", "_law_start_here", "_law_many"] (sp_law_free K) := by
  have nd := sc_law_free.nd
  refine cal_of F T.g_law_free (fun _ _ _ _ _ _ us hl => match us, hl with | [_, _, _, _], _ => rfl) (FunD.ok F sc_law_free (fun vs H Q E h => ?_) (fun cdv A outer s H vs Q E hr h => ?_))
  · obtain ⟨a, d, ds, y, n, m, st, rfl, hh, hy, hst, hn, hm, hm3, q⟩ := h
    rfl
  obtain ⟨a, d, ds, y, n, m, st, rfl, hh, hy, hst, hn, hm, hm3, q⟩ := h
  have hu := hu_of hr
  refine ⟨_, PSs.nox (pss_cons (ps_setLc (i := 5) (own := [("_law_cell", 4)]) rfl nd rfl rfl (sw_true rfl rfl rfl (by decide +kernel)) (pi_range1 rfl T.f_range (pa_cons (pv 1) pa_nil)) (blkOk_by (own := [("_law_cell", 4)]) (N := nN_law_free) (sc := defScope s_law_free) (by decide +kernel)) (fun _ _ _ _ _ => (pg_name (i := 4) nd rfl (Or.inl rfl))) (fun _ _ _ _ _ => pts_one (pt_cmp (pc_dnotin hu (pv 4) (pe_b_dict T.f_dict (call_dictTK (K := K) rfl rfl) (pa_cons (pv 2) pa_nil))) rfl)) (fun _ _ _ _ _ => (pv 4))) (pss_cons (ps_set (i := 6) nd rfl (Or.inl rfl) (pe_lst pa_nil)) (pss_cons (ps_for PassesOwn.never rfl (pi_range1 rfl T.f_range (pa_cons (pv 3) pa_nil)) (pg_name (i := 7) nd rfl (Or.inl rfl)) (pss_one (ps_if (pt_cmpR op_gt (pe_b_len T.f_len call_len_seq (pa_cons (pv 5) pa_nil)) pe_int (nomark _)) (pss_one (ps_expr (pe_bm PySem.F.plainAttrs_list PySem.F.slot_list_append PySem.F.type_list_append mt_append (pv 6) (pa_cons (pe_bm PySem.F.plainAttrs_list PySem.F.slot_list_pop PySem.F.type_list_pop mt_popAt (pv 5) (pa_cons (pe_cal c_law_take hr (pa_cons (pv 0) (pa_cons (pe_b_len T.f_len call_len_seq (pa_cons (pv 5) pa_nil)) pa_nil))) pa_nil)) pa_nil)))) pss_nil))) (pss_one (ps_ret (pe_b_tuple T.f_tuple call_tuple_of (pa_cons (pv 6) pa_nil))))))), ?_⟩
  walk_at "st"
  refine ⟨by omega, by omega, ?_⟩
  rw [Int.toNat_natCast]
  refine lc_gen (f := fun (k : Nat) => rI (k : Int)) (xs := List.range n) (rb := rI) (F := fun (k : Nat) => if gt st (k : Int) = none then some (k : Int) else none) wk_rng0 (by rw [List.length_range]; omega) ?_ ?_
  · rintro i k w H' K1 K2 hi e1 hv k1 k2
    cases hv
    obtain ⟨ya, ob, ss, rfl, hya, hyd, als⟩ := Mo.up e1 hy
    walk_at "st"
    obtain ⟨qs, e1', p1⟩ := paired_st (K := K) als
    refine ⟨qs, ⟨ob, by rw [← e1']; exact hya, hyd⟩, dk st, p1, fun F hF => ?_⟩
    have em : mergeK [] (dk st) = dk st := mergeK_dk st [] (by simpa using st_nodup hst)
    rw [em]
    refine ⟨_, dget_k upd_same (k : Int), ?_⟩
    cases hg : gt st (k : Int) with
    | none => exact k1 _ _ _ (by rw [if_pos hg]) (Ex.new hF) rfl
    | some v => exact k2 _ (by rw [if_neg (by rw [hg]; exact fun z => nomatch z)]) (Ex.new hF)
  · rintro Fr H1 hFr e1 hr1
    obtain ⟨_, ws, hz, hFr1, al1⟩ := hr1
    cases hz
    rw [al_ints al1] at hFr1
    walk_at "st"
    refine ⟨by decide, fun Fo hFo => ⟨by omega, by omega, ?_⟩⟩
    rw [Int.toNat_natCast]
    have nFr := hh.at_ hFr
    have e2 := Ex.new (o := .lst []) hFo
    have hFoH : H Fo = none := e1.back hFo
    have nFo := hh.at_ hFoH
    have nFF : Fr ≠ Fo := ne_of_none hFr1 hFo
    refine for_s (ws_rng0 (n := m) (G := fun _ => True)) (FrW H a d Fr Fo y n m (fr0 st n)) ⟨hh.ex (e1.tr e2), _, _, fr0 st n, [], rfl, e2 _ _ hFr1, upd_same, by rw [List.append_nil] <;> exact .refl _, Nat.le_refl _, fun _ => .inl rfl⟩ (fun _ _ _ _ _ => True.intro) ?_ ?_
    · rintro i x v σ' H2 hx ⟨e3, x4, x7, fr, fo, rfl, hFr2, hFo2, hpm, hfl, hfe⟩ hv
      cases hv
      have hh2 := hh.x e3
      walk_at "st"
      refine ⟨_, .inl (sq_l hFr2), ?_⟩
      rw [ints_len]
      split
      · rename_i hpos
        refine ⟨.inl ⟨rfl, _, sq_l hFo2⟩, .inl ⟨rfl, _, sq_l hFr2⟩, _, .inl (sq_l hFr2), ?_⟩
        rw [ints_len]
        refine take_of hpos hh2 fun k H3 k0 k1 h3 => ?_
        have hFr3 := h3.1 _ _ nFr hFr2
        have hFo3 := h3.1 _ _ nFo hFo2
        obtain ⟨c, hc⟩ : ∃ c, fr[k.toNat]? = some c := ⟨_, List.getElem?_eq_getElem (by omega)⟩
        have hix : ixN (fr.map V.int).length k = some k.toNat := by
          unfold ixN
          rw [ints_len, if_pos k0, if_pos k1]
        have hL : (fr ++ fo).length ≤ n := by
          rw [hpm.length_eq]
          unfold fr0
          exact Nat.le_trans (List.length_filterMap_le _ _) (by rw [List.length_range]; exact Nat.le_refl _)
        rw [List.length_append] at hL
        refine ⟨Fr, _, k, k.toNat, .int c, rfl, rfl, hFr3, by omega, by omega, (ixN_seq hix).1, map_at hc, ?_⟩
        have hFo4 : (upd H3 Fr (.lst ((fr.map V.int).eraseIdx k.toNat))) Fo = some (.lst (fo.map V.int)) := by
          rw [upd_ne nFF.symm]
          exact hFo3
        refine ⟨_, hFo4, szl (by rw [ints_len]; omega), ((e3.tr h3).mut hFr nFr).mut hFoH nFo, _, _, fr.eraseIdx k.toNat, fo ++ [c], rfl, ?_, ?_, (erase_perm hc fo).trans hpm, ?_, fun z => by simp at z⟩
        · rw [upd_ne nFF, upd_same, map_erase]
        · rw [List.map_append] <;> exact upd_same
        · rw [List.length_append, List.length_singleton]
          omega
      · rename_i hpos
        have hfr : fr = [] := List.eq_nil_of_length_eq_zero (by omega)
        exact ⟨e3, _, _, fr, fo, rfl, hFr2, hFo2, hpm, by omega, fun _ => .inr hfr⟩
    · rintro σ' H2 ⟨e3, x4, x7, fr, fo, rfl, hFr2, hFo2, hpm, hfl, hfe⟩
      rw [List.length_range] at hfl hfe
      walk_at "st"
      refine ⟨_, .inl ⟨sq_l hFo2, fun l hl => ?_⟩⟩
      have e4 := Ex.new (o := .tup (fo.map V.int)) hl
      have hnd := hpm.nodup_iff.mpr (fr0_nodup st n)
      refine q fo _ _ (List.nodup_append.mp hnd).2.1 (fun c hc => mem_fr0.mp (hpm.mem_iff.mp (List.mem_append.mpr (.inr hc)))) hfl (fun hz c c0 c1 hg => ?_) (e3.tr ((hh.x e3).ex e4)) (rIs.mk upd_same)
      have hfr : fr = [] := by
        rcases hfe hz with h | h
        · omega
        · exact h
      have := hpm.mem_iff.mpr (mem_fr0.mpr ⟨c0, c1, hg⟩)
      rw [hz, hfr] at this
      cases this
end Cut
end

section
set_option maxHeartbeats 4000000
namespace Cut
open PySem PySem.Spec L2
/-! ### drawn prices are of their kind: bent -/
def bentV (n : Nat) (b : Int) (ss ps : List Int) (t : Int) (r : List Int) : Int :=
  (if 2 < n then (if 1 < n then b + ((ss.zip r).map fun p => p.1 * p.2).sum + ps.getD 0 0 * r.getD 0 0 * r.getD 1 0 else b + ((ss.zip r).map fun p => p.1 * p.2).sum) + ps.getD 1 0 * r.getD 0 0 * r.getD 2 0 + ps.getD 2 0 * r.getD 1 0 * r.getD 2 0 + t * r.getD 0 0 * r.getD 1 0 * r.getD 2 0
  else (if 1 < n then b + ((ss.zip r).map fun p => p.1 * p.2).sum + ps.getD 0 0 * r.getD 0 0 * r.getD 1 0 else b + ((ss.zip r).map fun p => p.1 * p.2).sum))
def BentC (n : Nat) (b : Int) (ss ps : List Int) (t : Int) : Prop := ss.length = n ∧ ps.length = 3 ∧ (-99 ≤ b ∧ b ≤ 99) ∧ (-99 ≤ t ∧ t ≤ 99) ∧ (∀ s ∈ ss, -99 ≤ s ∧ s ≤ 99) ∧ ∀ p ∈ ps, -102 ≤ p ∧ p ≤ 0 ∧ p + t ≤ 0
theorem cost_map {n : Nat} {c : List Int → Int} {r : List Int} (hr : Row r n) : cost (n, (rows n).map c) r = c r := by
  unfold cost
  exact getD_of (map_at (row_num hr))
theorem bent_drawn {n : Nat} {b : Int} {ss ps : List Int} {t : Int} (h1 : 1 ≤ n) (h3 : n ≤ 3) (h : BentC n b ss ps t) : Bent (n, (rows n).map (bentV n b ss ps t)) := fun r s hr hs => by
  rw [cost_map (andR_row hr hs), cost_map (orR_row hr hs), cost_map hr, cost_map hs]
  obtain ⟨hl, hpl, _, _, _, hp⟩ := h
  match ps, hpl with
  | [p0, p1, p2], _ =>
    have q0 := hp p0 (by simp)
    have q1 := hp p1 (by simp)
    have q2 := hp p2 (by simp)
    refine bent_pairs h1 h3 (c := bentV n b ss [p0, p1, p2] t) ?_ hr hs
    match n, h1, h3, ss, hl with
    | 1, _, _, [s0], _ =>
      have e : pairs2 (rows 1) = [([0], [1])] := by decide +kernel
      rw [e]
      simp only [List.mem_cons, List.not_mem_nil, or_false, forall_eq]
      simp [bentV, andR, orR]
    | 2, _, _, [s0, s1], _ =>
      have e : pairs2 (rows 2) = [([0, 0], [0, 1]), ([0, 0], [1, 0]), ([0, 0], [1, 1]), ([0, 1], [1, 0]), ([0, 1], [1, 1]), ([1, 0], [1, 1])] := by decide +kernel
      rw [e]
      simp only [List.mem_cons, List.not_mem_nil, or_false, forall_eq_or_imp, forall_eq]
      simp [bentV, andR, orR]
      omega
    | 3, _, _, [s0, s1, s2], _ =>
      have e : pairs2 (rows 3) = [([0,0,0],[0,0,1]),([0,0,0],[0,1,0]),([0,0,0],[0,1,1]),([0,0,0],[1,0,0]),([0,0,0],[1,0,1]),([0,0,0],[1,1,0]),([0,0,0],[1,1,1]),
        ([0,0,1],[0,1,0]),([0,0,1],[0,1,1]),([0,0,1],[1,0,0]),([0,0,1],[1,0,1]),([0,0,1],[1,1,0]),([0,0,1],[1,1,1]),
        ([0,1,0],[0,1,1]),([0,1,0],[1,0,0]),([0,1,0],[1,0,1]),([0,1,0],[1,1,0]),([0,1,0],[1,1,1]),
        ([0,1,1],[1,0,0]),([0,1,1],[1,0,1]),([0,1,1],[1,1,0]),([0,1,1],[1,1,1]),
        ([1,0,0],[1,0,1]),([1,0,0],[1,1,0]),([1,0,0],[1,1,1]),([1,0,1],[1,1,0]),([1,0,1],[1,1,1]),([1,1,0],[1,1,1])] := by decide +kernel
      rw [e]
      simp only [List.mem_cons, List.not_mem_nil, or_false, forall_eq_or_imp, forall_eq]
      simp [bentV, andR, orR]
      omega
theorem mul01 {x : Int} {M : Int} (h : -M ≤ x ∧ x ≤ M) {v : Int} (hv : v = 0 ∨ v = 1) : -M ≤ x * v ∧ x * v ≤ M := by
  rcases hv with rfl | rfl
  · rw [Int.mul_zero]
    omega
  · rw [Int.mul_one]
    exact h
theorem getD_bd {xs : List Int} {P : Int → Prop} (h0 : P 0) (h : ∀ x ∈ xs, P x) (i : Nat) : P (xs.getD i 0) := by
  rw [List.getD_eq_getElem?_getD]
  cases hi : xs[i]? with
  | none => exact h0
  | some v => exact h v (List.mem_of_getElem? hi)
theorem zsum_bd : ∀ {ss r : List Int}, (∀ s ∈ ss, -99 ≤ s ∧ s ≤ 99) → (∀ v ∈ r, v = 0 ∨ v = 1) → -(99 * (ss.length : Int)) ≤ ((ss.zip r).map fun p => p.1 * p.2).sum ∧ ((ss.zip r).map fun p => p.1 * p.2).sum ≤ 99 * (ss.length : Int)
  | [], _, _, _ => by simp
  | s :: ss, [], _, _ => by
    rw [List.zip_nil_right, List.map_nil, List.sum_nil]
    omega
  | s :: ss, v :: r, h1, h2 => by
    rw [List.zip_cons_cons, List.map_cons, List.sum_cons, List.length_cons]
    have a := mul01 (h1 s (.head _)) (h2 v (.head _))
    have b := zsum_bd (ss := ss) (r := r) (fun x hx => h1 x (.tail _ hx)) (fun x hx => h2 x (.tail _ hx))
    dsimp only
    omega
theorem bent_bd {n : Nat} {b : Int} {ss ps : List Int} {t : Int} (h3 : n ≤ 3) (h : BentC n b ss ps t) {r : List Int} (hr : Row r n) : -2000 ≤ bentV n b ss ps t r ∧ bentV n b ss ps t r ≤ 2000 := by
  obtain ⟨hl, _, hb, ht, hs, hp⟩ := h
  have z := zsum_bd hs hr.2
  have hp' : ∀ i, -102 ≤ ps.getD i 0 ∧ ps.getD i 0 ≤ 102 := getD_bd (P := fun x => -102 ≤ x ∧ x ≤ 102) (by decide) fun x hx => by have := hp x hx; omega
  have hr' : ∀ i, r.getD i 0 = 0 ∨ r.getD i 0 = 1 := row_getD hr
  have a0 := mul01 (mul01 (hp' 0) (hr' 0)) (hr' 1)
  have a1 := mul01 (mul01 (hp' 1) (hr' 0)) (hr' 2)
  have a2 := mul01 (mul01 (hp' 2) (hr' 1)) (hr' 2)
  have a3 := mul01 (mul01 (mul01 ht (hr' 0)) (hr' 1)) (hr' 2)
  unfold bentV
  split <;> split <;> omega
/-! ### drawn prices are of their kind: the others -/
def und (n i j : Nat) : Bool := leB ((rows n).getD i []) ((rows n).getD j [])
theorem leB_num {n : Nat} (h1 : 1 ≤ n) (h3 : n ≤ 3) : ((rows n).all fun r => (rows n).all fun s => !leB r s || decide (num r ≤ num s)) = true := by
  match n, h1, h3 with
  | 1, _, _ => decide +kernel
  | 2, _, _ => decide +kernel
  | 3, _, _ => decide +kernel
theorem le_num {n : Nat} (h1 : 1 ≤ n) (h3 : n ≤ 3) {r s : List Int} (hr : Row r n) (hs : Row s n) (h : LeR r s) : num r ≤ num s := by
  have h4 := List.all_eq_true.mp (List.all_eq_true.mp (leB_num h1 h3) r (mem_rows n r hr)) s (mem_rows n s hs)
  rw [le_leB h] at h4
  simpa using h4
structure KInv (w : Str) (n : Nat) (am : List Int) (j i : Nat) : Prop where
  len : am.length = 2 ^ n
  bd : ∀ v ∈ am, -101 ≤ v ∧ v ≤ 99
  no : w = "all no" → ∀ v ∈ am, am.getD 0 0 ≤ v
  yes : w = "all yes" → ∀ v ∈ am, am.getD (2 ^ n - 1) 0 ≤ v
  ris : w = "rising" → (∀ j' < j, ∀ i' < j', und n i' j' = true → am.getD i' 0 ≤ am.getD j' 0) ∧ ∀ i' < i, und n i' j = true → am.getD i' 0 ≤ am.getD j 0
  fal : w = "falling" → (∀ j' < j, ∀ i' < j', und n i' j' = true → am.getD j' 0 ≤ am.getD i' 0) ∧ ∀ i' < i, und n i' j = true → am.getD j 0 ≤ am.getD i' 0
theorem KInv.pr {w : Str} {n : Nat} {am : List Int} {j i : Nat} (h : KInv w n am j i) (h1 : 1 ≤ n) (h3 : n ≤ 3) : PrOk (n, am) ∧ BdP (n, am) := ⟨⟨h1, h3, h.len⟩, fun v hv => by have := h.bd v hv; omega⟩
theorem KInv.done {w : Str} {n : Nat} {am : List Int} (h : KInv w n am (2 ^ n) 0) (h1 : 1 ≤ n) (h3 : n ≤ 3) (hw : w = "all no" ∨ w = "all yes" ∨ w = "rising" ∨ w = "falling") : KindP (n, am) w := by
  have hp := (h.pr h1 h3).1
  have at_ : ∀ r, Row r n → cost (n, am) r = am.getD (num r).toNat 0 := fun r hr => rfl
  have mem : ∀ r, Row r n → cost (n, am) r ∈ am := fun r hr => List.mem_of_getElem? (cost_get hp hr)
  have key : ∀ (P : Int → Int → Prop), (∀ x, P x x) → (∀ j' < 2 ^ n, ∀ i' < j', und n i' j' = true → P (am.getD i' 0) (am.getD j' 0)) → ∀ r s, Row r n → Row s n → LeR r s → P (cost (n, am) r) (cost (n, am) s) := fun P hP hh r s hr hs hl => by
    have a := le_num h1 h3 hr hs hl
    have b1 := num_bound _ _ hr
    have b2 := num_bound _ _ hs
    have e4 : ((2 ^ n : Nat) : Int) = (2 : Int) ^ n := by rw [Int.natCast_pow] <;> rfl
    rw [at_ r hr, at_ s hs]
    by_cases c : num r = num s
    · rw [c]
      exact hP _
    · refine hh _ (by omega) _ (by omega) ?_
      unfold und
      rw [getD_of (row_num hr), getD_of (row_num hs)]
      exact le_leB hl
  rcases hw with rfl | rfl | rfl | rfl
  · refine .inl ⟨rfl, fun r hr => ?_⟩
    have e : cost (n, am) (List.replicate n 0) = am.getD 0 0 := by
      rw [at_ _ (rep_row n (.inl rfl)), num_rep0 h1 h3] <;> rfl
    rw [e]
    exact h.no rfl _ (mem r hr)
  · refine .inr (.inl ⟨rfl, fun r hr => ?_⟩)
    have e : cost (n, am) (List.replicate n 1) = am.getD (2 ^ n - 1) 0 := by
      rw [at_ _ (rep_row n (.inr rfl)), num_rep1 h1 h3]
      congr 1
      have := Nat.one_le_two_pow (n := n)
      omega
    rw [e]
    exact h.yes rfl _ (mem r hr)
  · exact .inr (.inr (.inr (.inl ⟨rfl, key (· ≤ ·) (fun x => Int.le_refl x) (h.ris rfl).1⟩)))
  · exact .inr (.inr (.inr (.inr ⟨rfl, key (fun x y => y ≤ x) (fun x => Int.le_refl x) (h.fal rfl).1⟩)))
theorem KInv.next {w : Str} {n : Nat} {am : List Int} {j : Nat} (h : KInv w n am j j) : KInv w n am (j + 1) 0 where
  len := h.len
  bd := h.bd
  no := h.no
  yes := h.yes
  ris := fun e => ⟨fun j' hj i' hi hu => by
    by_cases c : j' < j
    · exact (h.ris e).1 j' c i' hi hu
    · have : j' = j := by omega
      subst this
      exact (h.ris e).2 i' hi hu, fun _ hi => absurd hi (Nat.not_lt_zero _)⟩
  fal := fun e => ⟨fun j' hj i' hi hu => by
    by_cases c : j' < j
    · exact (h.fal e).1 j' c i' hi hu
    · have : j' = j := by omega
      subst this
      exact (h.fal e).2 i' hi hu, fun _ hi => absurd hi (Nat.not_lt_zero _)⟩
theorem set_getD {am : List Int} {j : Nat} (hj : j < am.length) (v : Int) (k : Nat) : (am.set j v).getD k 0 = if k = j then v else am.getD k 0 := by
  rw [List.getD_eq_getElem?_getD, List.getD_eq_getElem?_getD, List.getElem?_set]
  by_cases c : j = k
  · subst c
    rw [if_pos rfl, if_pos hj, if_pos rfl] <;> rfl
  · rw [if_neg c, if_neg (Ne.symm c)]
/-- nothing is to be done -/
theorem KInv.skip {w : Str} {n : Nat} {am : List Int} {j i : Nat} (h : KInv w n am j i) (hr : ¬ (und n i j = true ∧ w = "rising")) (hf : ¬ (und n i j = true ∧ w = "falling")) : KInv w n am j (i + 1) where
  len := h.len
  bd := h.bd
  no := h.no
  yes := h.yes
  ris := fun e => ⟨(h.ris e).1, fun i' hi hu => by
    by_cases c : i' < i
    · exact (h.ris e).2 i' c hu
    · have : i' = i := by omega
      subst this
      exact absurd ⟨hu, e⟩ hr⟩
  fal := fun e => ⟨(h.fal e).1, fun i' hi hu => by
    by_cases c : i' < i
    · exact (h.fal e).2 i' c hu
    · have : i' = i := by omega
      subst this
      exact absurd ⟨hu, e⟩ hf⟩
theorem KInv.up {n : Nat} {am : List Int} {j i : Nat} (h : KInv "rising" n am j i) (hi : i < j) (hj : j < am.length) {v : Int} (h1 : am.getD j 0 ≤ v) (h2 : am.getD i 0 ≤ v) (h3 : v = am.getD j 0 ∨ v = am.getD i 0) : KInv "rising" n (am.set j v) j (i + 1) where
  len := by rw [List.length_set]; exact h.len
  bd := fun u hu => by
    have hb : ∀ k, k < am.length → -101 ≤ am.getD k 0 ∧ am.getD k 0 ≤ 99 := fun k hk => h.bd _ (by rw [getD_of (List.getElem?_eq_getElem hk)]; exact List.getElem_mem hk)
    rcases List.mem_or_eq_of_mem_set hu with hu | rfl
    · exact h.bd u hu
    · rcases h3 with e | e
      · rw [e]; exact hb j hj
      · rw [e]; exact hb i (by omega)
  no := fun e => absurd e (by decide)
  yes := fun e => absurd e (by decide)
  ris := fun _ => ⟨fun j' hj' i' hi' hu => by
    rw [set_getD hj, set_getD hj, if_neg (by omega), if_neg (by omega)]
    exact (h.ris rfl).1 j' hj' i' hi' hu, fun i' hi' hu => by
    rw [set_getD hj, set_getD hj, if_neg (by omega), if_pos rfl]
    by_cases c : i' < i
    · have := (h.ris rfl).2 i' c hu
      omega
    · have : i' = i := by omega
      subst this
      exact h2⟩
  fal := fun e => absurd e (by decide)
theorem KInv.down {n : Nat} {am : List Int} {j i : Nat} (h : KInv "falling" n am j i) (hi : i < j) (hj : j < am.length) {v : Int} (h1 : v ≤ am.getD j 0) (h2 : v ≤ am.getD i 0) (h3 : v = am.getD j 0 ∨ v = am.getD i 0) : KInv "falling" n (am.set j v) j (i + 1) where
  len := by rw [List.length_set]; exact h.len
  bd := fun u hu => by
    have hb : ∀ k, k < am.length → -101 ≤ am.getD k 0 ∧ am.getD k 0 ≤ 99 := fun k hk => h.bd _ (by rw [getD_of (List.getElem?_eq_getElem hk)]; exact List.getElem_mem hk)
    rcases List.mem_or_eq_of_mem_set hu with hu | rfl
    · exact h.bd u hu
    · rcases h3 with e | e
      · rw [e]; exact hb j hj
      · rw [e]; exact hb i (by omega)
  no := fun e => absurd e (by decide)
  yes := fun e => absurd e (by decide)
  ris := fun e => absurd e (by decide)
  fal := fun _ => ⟨fun j' hj' i' hi' hu => by
    rw [set_getD hj, set_getD hj, if_neg (by omega), if_neg (by omega)]
    exact (h.fal rfl).1 j' hj' i' hi' hu, fun i' hi' hu => by
    rw [set_getD hj, set_getD hj, if_pos rfl, if_neg (by omega)]
    by_cases c : i' < i
    · have := (h.fal rfl).2 i' c hu
      omega
    · have : i' = i := by omega
      subst this
      exact h2⟩
/-- the first, the last made least -/
theorem kinv0 {w : Str} {n : Nat} {am : List Int} (hl : am.length = 2 ^ n) (hb : ∀ v ∈ am, -99 ≤ v ∧ v ≤ 99) {m : Int} (hm : m ∈ am) (hmin : ∀ v ∈ am, m ≤ v) {k : Int} (k0 : 0 ≤ k) (k1 : k < 2) :
    KInv w n (if w = "all yes" then (if w = "all no" then am.set 0 (m - k) else am).set (2 ^ n - 1) (m - k) else if w = "all no" then am.set 0 (m - k) else am) 0 0 := by
  have hbm := hb m hm
  have hpos : 0 < 2 ^ n := Nat.pow_pos (by decide)
  by_cases c1 : w = "all yes"
  · have c2 : ¬ w = "all no" := fun z => by rw [z] at c1; exact absurd c1 (by decide)
    rw [if_pos c1, if_neg c2]
    refine ⟨by rw [List.length_set]; exact hl, fun v hv => ?_, fun z => absurd z c2, fun _ v hv => ?_, fun z => ?_, fun z => ?_⟩
    · rcases List.mem_or_eq_of_mem_set hv with h | h
      · have := hb v h; omega
      · omega
    · rw [set_getD (by omega), if_pos rfl]
      rcases List.mem_or_eq_of_mem_set hv with h | h
      · have := hmin v h; omega
      · omega
    · rw [z] at c1; exact absurd c1 (by decide)
    · rw [z] at c1; exact absurd c1 (by decide)
  · rw [if_neg c1]
    by_cases c2 : w = "all no"
    · rw [if_pos c2]
      refine ⟨by rw [List.length_set]; exact hl, fun v hv => ?_, fun _ v hv => ?_, fun z => absurd z c1, fun z => ?_, fun z => ?_⟩
      · rcases List.mem_or_eq_of_mem_set hv with h | h
        · have := hb v h; omega
        · omega
      · rw [set_getD (by omega), if_pos rfl]
        rcases List.mem_or_eq_of_mem_set hv with h | h
        · have := hmin v h; omega
        · omega
      · rw [z] at c2; exact absurd c2 (by decide)
      · rw [z] at c2; exact absurd c2 (by decide)
    · rw [if_neg c2]
      exact ⟨hl, fun v hv => by have := hb v hv; omega, fun z => absurd z c2, fun z => absurd z c1, fun _ => ⟨fun _ h => absurd h (Nat.not_lt_zero _), fun _ h => absurd h (Nat.not_lt_zero _)⟩, fun _ => ⟨fun _ h => absurd h (Nat.not_lt_zero _), fun _ h => absurd h (Nat.not_lt_zero _)⟩⟩
end Cut
end

section
set_option maxHeartbeats 4000000
namespace Cut
open PySem PySem.Spec L2
local macro_rules | `(tactic| walk_at "rd") => `(tactic| dsimp only [tFor_eq, tLc_eq, tLc2_eq, iTup, iList, iRng1, iRng2, iSeq, RZ.iZipA, iEnum, iZipX, iEnumT, iKeys, tTupZip, tLenSet, gFld_app, tLock, tLockE, tCallN, tTup0F, tAsg, tVar, tC, tCmp, tIsN, tNotN, tB, tAnd, tOr, tNot, tAndV, tOrV, tNotV, tIf, tNext, tSeq, tBreak, tCont, tDrop, tRet, tRetN, tIfS, gName_app, gTup_app, gCons_app, gNil_app, gSub_app, tAsg, tAug, tCall, tMeth, tMake, tCons, tNil, tTup, tLst, tCB, tOp, tUn, tTest, tChain, tFld, sFld, sFldAug, tBM, tBM0, tSl, tPart, tNoPart, tDGet, tDIn, tDNotIn, sDPut, sDAug, tDNewK, tDNewT, tDGet2, L2.rI, L2.rI0, L2.rU, rEq, rNe, t2I, ipI, rAdd, rSub, rAppend, tAugS, cxOf, Cx.nox, Cx.wish])
local macro_rules | `(tactic| walk_at "ex") => `(tactic| simp only [L2.start, List.map_cons, List.map_nil, List.length_cons, List.length_nil, List.replicate_succ, List.replicate_zero, List.cons_append, List.nil_append, List.append_nil, List.getElem?_cons_zero, List.getElem?_cons_succ, List.set_cons_zero, List.set_cons_succ, L2.wipe, Option.some.injEq, V.int.injEq, V.bl.injEq, V.ref.injEq, V.str.injEq, V.ty.injEq, List.cons.injEq, exists_eq_left', exists_eq_left, exists_eq_right, and_true, true_and, and_self, exists_and_left, exists_and_right, exists_const, and_assoc, exists_eq, exists_eq', eq_self_iff_true, if_true, if_false, Bool.false_eq_true, decide_eq_true_eq, ne_eq, reduceCtorEq, not_false_eq_true, Nat.reduceAdd, Nat.reduceSub, Bool.not_true, Bool.not_false, Option.map_some, Option.map_none, Option.isSome_some, Option.isSome_none, Option.getD_some, Option.getD_none])
local macro_rules | `(tactic| walk_at "st") => `(tactic| ((try walk_at "rd"); (try walk_at "ex")))

theorem Hx.back {a d p : Addr} {H H' : Hp} (k : Hx a d H H') (h : H' p = none) (hp : p ≠ a) : H p = none := by
  cases e : H p with
  | none => rfl
  | some o =>
    rw [k.1 _ _ hp e] at h
    cases h
theorem Hx.but {a d M : Addr} {H H1 H2 : Hp} (k : Hx a d H H1) (b : But M H1 H2) (hM : H M = none) (n : M ≠ a) : Hx a d H H2 := by
  obtain ⟨k1, i, h0, h1⟩ := k
  exact ⟨fun x o nx hx => b x o (ne_of_none hx hM) (k1 x o nx hx), i, h0, b _ _ n.symm h1⟩
/-! ### a bent price is drawn -/
def sp_law_bent (K : PySem.W.Frag) : Sp := fun vs H Q _ => ∃ (a d : Addr) (ds : List Int) (n : Nat), vs = [.ref a, .int n] ∧ 1 ≤ n ∧ n ≤ 3 ∧ Hd a d ds H ∧ ∀ p v H', PrOk p → BdP p → Bent p → Hx a d H H' → rPl p H' v → Q v H'
abbrev nN_law_bent : List Str := ["_law_hand", "_law_size", "_law_base", "_law_k", "_law_singles", "_law_triple", "_law_amounts", "_law_pairs", "_law_row", "_law_x", "_law_y", "_law_total_here"]
theorem sc_law_bent : FnScope nN_law_bent ["_law_hand", "_law_size"] (defScope s_law_bent) := ⟨rfl, rfl, rfl, by decide +kernel, rfl, by decide +kernel, by decide +kernel⟩
theorem ok_law_bent {P : Program} {w : World} {K : PySem.W.Frag} {mg : Str → Option Value} {base : Heap} {fd : FuncData} (T : GG K w mg) (F : FunD K "_law_bent" "_law_bent" (defArgs s_law_bent) (defBody s_law_bent) (defScope s_law_bent) [] [] (He.fAd K ("_law_bent", none)) fd) (c_law_rows : Cal P w K mg base "_law_rows" 1 ["_law_many"] (sp_law_rows K)) (c_law_take : Cal P w K mg base "_law_take" 1 ["_law_hand", "_law_many"] (sp_law_take K)) (c_law_amount : Cal P w K mg base "_law_amount" 2 ["_law_hand"] (sp_law_amount K)) : Cal P w K mg base "_law_bent" 3 ["_law_hand", "_law_size"] (sp_law_bent K) := by
  have nd := sc_law_bent.nd
  refine cal_of F T.g_law_bent (fun _ _ _ _ _ _ us hl => match us, hl with | [_, _], _ => rfl) (FunD.ok F sc_law_bent (fun vs H Q E h => ?_) (fun cdv A outer s H vs Q E hr h => ?_))
  · obtain ⟨a, d, ds, n, rfl, h1, h3, hh, q⟩ := h
    rfl
  obtain ⟨a, d, ds, n, rfl, h1, h3, hh, q⟩ := h
  have hu := hu_of hr
  refine ⟨_, PSs.nox (pss_cons (ps_set (i := 2) nd rfl (Or.inl rfl) (pe_cal c_law_amount hr (pa_cons (pv 0) pa_nil))) (pss_cons (ps_setLc (i := 4) (own := [("_law_k", 3)]) rfl nd rfl rfl (sw_true rfl rfl rfl (by decide +kernel)) (pi_range1 rfl T.f_range (pa_cons (pv 1) pa_nil)) (blkOk_by (own := [("_law_k", 3)]) (N := nN_law_bent) (sc := defScope s_law_bent) (by decide +kernel)) (fun _ _ _ _ _ => (pg_name (i := 3) nd rfl (Or.inl rfl))) (fun _ _ _ _ _ => pts_nil) (fun _ _ _ _ _ => (pe_cal c_law_amount hr (pa_cons (pv 0) pa_nil)))) (pss_cons (ps_set (i := 5) nd rfl (Or.inr rfl) (pe_op op_mul (pe_cal c_law_amount hr (pa_cons (pv 0) pa_nil)) (pe_b_int T.f_int call_int1 (pa_cons (pe_cmpR op_eq (pv 1) pe_int (nomark _)) pa_nil)))) (pss_cons (ps_set (i := 6) nd rfl (Or.inl rfl) (pe_lst pa_nil)) (pss_cons (ps_setLc (i := 7) (own := [("_law_k", 3)]) rfl nd rfl rfl (sw_true rfl rfl rfl (by decide +kernel)) (pi_range1 rfl T.f_range (pa_cons pe_int pa_nil)) (blkOk_by (own := [("_law_k", 3)]) (N := nN_law_bent) (sc := defScope s_law_bent) (by decide +kernel)) (fun _ _ _ _ _ => (pg_name (i := 3) nd rfl (Or.inl rfl))) (fun _ _ _ _ _ => pts_nil) (fun _ _ _ _ _ => (pe_op op_sub (pe_un un_neg (pe_b_max T.f_max (call_max2 rfl) (pa_cons (pe_b_int T.f_int call_int1 (pa_cons (pv 5) pa_nil)) (pa_cons pe_int pa_nil)))) (pe_cal c_law_take hr (pa_cons (pv 0) (pa_cons pe_int pa_nil)))))) (pss_cons (ps_for PassesOwn.never rfl (pi_listK (K := K) rfl (pe_cal c_law_rows hr (pa_cons (pv 1) pa_nil))) (pg_name (i := 8) nd rfl (Or.inl rfl)) (pss_cons (ps_set (i := 11) nd rfl (Or.inl rfl) (pe_op op_add (pv 2) (pe_b_sum T.f_sum (cr_sum rfl) (pa_cons (pe_lc (own := [("_law_x", 9), ("_law_y", 10)]) rfl nd (pi_zipX (by rfl) T.f_zip (pa_cons (pv 4) (pa_cons (pv 8) pa_nil))) (blkOk_by (own := [("_law_x", 9), ("_law_y", 10)]) (N := nN_law_bent) (sc := defScope s_law_bent) (by decide +kernel)) (fun _ _ _ _ _ => (pg_tupK (n := 2) (K := K) rfl rfl (pgs_cons (pg_name (i := 9) nd rfl (Or.inl rfl)) (pgs_cons (pg_name (i := 10) nd rfl (Or.inl rfl)) pgs_nil)))) (fun _ _ _ _ _ => pts_nil) (fun _ _ _ _ _ => (pe_op op_mul (pv 9) (pv 10)))) pa_nil)))) (pss_cons (ps_if (pt_cmpR op_gt (pv 1) pe_int (nomark _)) (pss_one (ps_set (i := 11) nd rfl (Or.inl rfl) (pe_op op_add (pv 11) (pe_op op_mul (pe_op op_mul (pe_ix (ix_listK (K := K) rfl) (pv 7) pe_int (fun _ _ => rfl)) (pe_ix (ix_tupK (K := K) rfl) (pv 8) pe_int (fun _ _ => rfl))) (pe_ix (ix_tupK (K := K) rfl) (pv 8) pe_int (fun _ _ => rfl)))))) pss_nil) (pss_cons (ps_if (pt_cmpR op_gt (pv 1) pe_int (nomark _)) (pss_one (ps_set (i := 11) nd rfl (Or.inl rfl) (pe_op op_add (pe_op op_add (pe_op op_add (pv 11) (pe_op op_mul (pe_op op_mul (pe_ix (ix_listK (K := K) rfl) (pv 7) pe_int (fun _ _ => rfl)) (pe_ix (ix_tupK (K := K) rfl) (pv 8) pe_int (fun _ _ => rfl))) (pe_ix (ix_tupK (K := K) rfl) (pv 8) pe_int (fun _ _ => rfl)))) (pe_op op_mul (pe_op op_mul (pe_ix (ix_listK (K := K) rfl) (pv 7) pe_int (fun _ _ => rfl)) (pe_ix (ix_tupK (K := K) rfl) (pv 8) pe_int (fun _ _ => rfl))) (pe_ix (ix_tupK (K := K) rfl) (pv 8) pe_int (fun _ _ => rfl)))) (pe_op op_mul (pe_op op_mul (pe_op op_mul (pv 5) (pe_ix (ix_tupK (K := K) rfl) (pv 8) pe_int (fun _ _ => rfl))) (pe_ix (ix_tupK (K := K) rfl) (pv 8) pe_int (fun _ _ => rfl))) (pe_ix (ix_tupK (K := K) rfl) (pv 8) pe_int (fun _ _ => rfl)))))) pss_nil) (pss_one (ps_expr (pe_bm PySem.F.plainAttrs_list PySem.F.slot_list_append PySem.F.type_list_append mt_append (pv 6) (pa_cons (pv 11) pa_nil)))))))) (pss_one (ps_ret (pe_tup (pa_cons (pv 1) (pa_cons (pe_b_tuple T.f_tuple call_tuple_of (pa_cons (pv 6) pa_nil)) pa_nil))))))))))), ?_⟩
  refine seq_gen fun P hP => ?_
  walk_at "st"
  refine amount_of hh fun b H1 b0 b1 x1 => hP _ _ ?_
  clear hP P
  have hh1 := hh.x x1
  refine seq_gen fun P hP => ?_
  walk_at "st"
  refine ⟨by omega, by omega, ?_⟩
  rw [Int.toNat_natCast]
  refine lc_take (f := fun (k : Nat) => rI (k : Int)) (xs := List.range n) (rb := rI) hh1 (fun c => -99 ≤ c ∧ c ≤ 99) wk_rng0 (by rw [List.length_range]; omega) (fun _ => rfl) ?_ ?_
  · rintro v H4 K1 h4 hK
    walk_at "st"
    exact amount_of (hh1.x h4) fun c H5 c0 c1 h5 => hK c _ _ ⟨c0, c1⟩ h5 rfl
  rintro S H2 ss nSa hSn x2 hsl hss hrl
  rw [List.length_range] at hsl
  obtain ⟨_, ws, hz, hS2, al2⟩ := hrl
  cases hz
  rw [al_ints al2] at hS2
  have x02 := x1.tr x2
  have hh2 := hh.x x02
  walk_at "st"
  refine hP _ _ ?_
  clear hP P
  refine seq_gen fun P hP => ?_
  walk_at "st"
  refine amount_of hh2 fun t0 H3 t00 t01 x3 => ⟨rfl, .inr ⟨t0, rfl, .inl ⟨by omega, by omega⟩, hP _ _ ?_⟩⟩
  clear hP P
  have tb : -99 ≤ t0 * (if (n : Int) = 3 then 1 else 0) ∧ t0 * (if (n : Int) = 3 then 1 else 0) ≤ 99 := by split <;> omega
  generalize t0 * (if (n : Int) = 3 then 1 else 0) = t at tb ⊢
  have x03 := x02.tr x3
  have hh3 := hh.x x03
  have hS3 := x3.1 _ _ nSa hS2
  refine seq_gen fun P hP => ?_
  walk_at "st"
  refine ⟨by decide, fun M hM => hP _ _ ?_⟩
  clear hP P
  have nMa := hh3.at_ hM
  have e4 := Ex.new (o := .lst []) hM
  have hM4 : (upd H3 M (.lst [])) M = some (.lst []) := upd_same
  have nSM : S ≠ M := ne_of_none hS3 hM
  generalize upd H3 M (.lst []) = H4 at e4 hM4 ⊢
  have x34 := hh3.ex e4
  have x04 := x03.tr x34
  have hh4 := hh.x x04
  have hS4 := e4 _ _ hS3
  refine seq_gen fun P hP => ?_
  walk_at "st"
  refine ⟨by decide, by decide, ?_⟩
  refine lc_take (f := fun (k : Nat) => rI (k : Int)) (xs := List.range 3) (rb := rI) hh4 (fun p => -102 ≤ p ∧ p ≤ 0 ∧ p + t ≤ 0) wk_rng0 (by decide) (fun _ => rfl) ?_ ?_
  · rintro v H5 K1 h5 hK
    walk_at "st"
    exact .inl (take_of (by decide) (hh4.x h5) fun k H6 k0 k1 h6 => ⟨k, rfl, hK _ _ _ (by split <;> omega) h6 rfl⟩)
  rintro L H5 ps nLa hLn x5 hpl hps hrl
  obtain ⟨_, ws, hz, hL5, al5⟩ := hrl
  cases hz
  rw [al_ints al5] at hL5
  have x05 := x04.tr x5
  have hh5 := hh.x x05
  have hS5 := x5.1 _ _ nSa hS4
  have hM5 := x5.1 _ _ nMa hM4
  have nLM : L ≠ M := ne_of_none' hLn hM4
  have hc : BentC n b ss ps t := ⟨hsl, hpl, ⟨b0, b1⟩, tb, hss, hps⟩
  walk_at "st"
  refine hP _ _ ?_
  clear hP P
  refine seq_gen fun P hP => ?_
  walk_at "st"
  refine ⟨n, rfl, by omega, fun R H6 hR e6 hrr => ?_⟩
  obtain ⟨_, us, hz, hR6, alr⟩ := hrr
  cases hz
  have x56 := hh5.ex e6
  have x06 := x05.tr x56
  have hh6 := hh.x x06
  have hS6 := e6 _ _ hS5
  have hM6 := e6 _ _ hM5
  have hL6 := e6 _ _ hL5
  have nRM : R ≠ M := ne_of_none' hR hM5
  have hMH : H M = none := x03.back hM nMa
  have h8 := pow8 h3
  have hrl := rows_len n
  obtain ⟨p0, p1, p2, rfl⟩ : ∃ p0 p1 p2, ps = [p0, p1, p2] := by
    match ps, hpl with
    | [x, y, z], _ => exact ⟨x, y, z, rfl⟩
  have q0 := hps p0 (by simp)
  have q1 := hps p1 (by simp)
  have q2 := hps p2 (by simp)
  refine ⟨R, rfl, ⟨_, sq_l hR6⟩, ?_⟩
  refine for_gen (f := rIs) (xs := rows n) (G := fun H' => But M H6 H') (wk_lst fun H' g => ⟨us, sq_l (g _ _ nRM hR6), alr.upZ (g.zx hM6 (fun q => q))⟩) (fun i σ' H' => But M H6 H' ∧ ∃ x8 x9 x10 x11 : Option V, σ' = [some (.ref a), some (.int (n : Int)), some (.int b), none, some (.ref S), some (.int t), some (.ref M), some (.ref L), x8, x9, x10, x11] ∧ H' M = some (.lst ((((rows n).take i).map (bentV n b ss [p0, p1, p2] t)).map V.int))) ⟨But.rf _ _, _, _, _, _, rfl, hM6⟩ (fun _ _ _ _ h => h.1) ?_ ?_
  · rintro i r v σ' H7 H8 hi ⟨b7, x8, x9, x10, x11, rfl, hM7⟩ e8 hv
    obtain ⟨c, rfl, hc8⟩ := hv.of
    have hrow := rows_at hi
    have hM8 := e8 _ _ hM7
    have b8 := b7.tr e8.but
    have hS8 := b8 _ _ nSM hS6
    have hL8 := b8 _ _ nLM hL6
    have hr01 : ∀ k, r.getD k 0 = 0 ∨ r.getD k 0 = 1 := row_getD hrow
    have hrk : ∀ k, k < n → (r.map V.int)[k]? = some (V.int (r.getD k 0)) := fun k hk => by
      have hk' : k < r.length := by rw [hrow.1]; exact hk
      rw [getD_of (List.getElem?_eq_getElem hk')]
      exact map_at (List.getElem?_eq_getElem hk')
    rw [gName_app]
    refine seq_gen fun P hP => ?_
    walk_at "st"
    refine .inr (.inr ⟨⟨_, sq_l hS8⟩, ⟨_, sq_t hc8⟩, ?_⟩)
    refine lc_map (rb := rI) (F := fun p : Int × Int => p.1 * p.2) (wk_zipM (f := rI) (g := rI) (xs := ss) (ys := r) fun H' e => ⟨_, _, sq_l (e _ _ hS8), sq_t (e _ _ hc8), ints_al ss, ints_al r⟩) (by rw [List.length_zip]; omega) ?_ ?_ gm_pair
    · rintro k q v H' K1 hq e4 ⟨T, y1, y2, rfl, hT, hy1, hy2⟩ hK
      cases hy1
      cases hy2
      have hq1 := hss q.1 (List.of_mem_zip (List.mem_of_getElem? hq)).1
      walk_at "st"
      refine ⟨_, sq_t hT, rfl, ?_⟩
      walk_at "st"
      exact ⟨.inl ⟨by omega, by omega⟩, hK _ _ (Ex.rf _) rfl⟩
    rintro c9 H9 hc9n e9 hr9
    obtain ⟨_, ws9, hz9, hc9, al9⟩ := hr9
    cases hz9
    rw [al_ints al9] at hc9
    walk_at "st"
    refine ⟨c9, _, rfl, sq_l hc9, _, rfl, hP _ _ ?_⟩
    clear hP P
    have hM9 := e9 _ _ hM8
    have b9 := b8.tr e9.but
    have hL9 := e9 _ _ hL8
    have hc89 := e9 _ _ hc8
    have fin : ∀ v, v = bentV n b ss [p0, p1, p2] t r → But M H6 (upd H9 M (.lst ((((rows n).take i).map (bentV n b ss [p0, p1, p2] t)).map V.int ++ [V.int v]))) ∧ (upd H9 M (.lst ((((rows n).take i).map (bentV n b ss [p0, p1, p2] t)).map V.int ++ [V.int v]))) M = some (.lst ((((rows n).take (i + 1)).map (bentV n b ss [p0, p1, p2] t)).map V.int)) := fun v hv => by
      refine ⟨b9.tr But.mut, ?_⟩
      rw [upd_same, List.take_add_one, hi, List.map_append, List.map_append, hv] <;> rfl
    have cm : ∀ (x : Int) (k : Nat), CMul x (r.getD k 0) := fun x k => .inr (by have := hr01 k; omega)
    have rx : ∀ {k : Nat} {R : V → Hp → Prop}, k < n → R (.int (r.getD k 0)) H9 → rIxT K (.ref c) (.int (k : Int)) H9 R := fun hk h => ixT (sq_t hc89) (by omega) (by rw [Int.toNat_natCast]; exact hrk _ hk) h
    refine seq_gen fun P hP => ?_
    have step1 : ∀ s1, s1 = (if 1 < n then b + ((ss.zip r).map fun p => p.1 * p.2).sum + p0 * r.getD 0 0 * r.getD 1 0 else b + ((ss.zip r).map fun p => p.1 * p.2).sum) → P [some (.ref a), some (.int (n : Int)), some (.int b), none, some (.ref S), some (.int t), some (.ref M), some (.ref L), some (.ref c), x9, x10, some (.int s1)] H9 := fun s1 hs1 => by
      refine hP _ _ ?_
      clear hP P
      refine seq_gen fun P hP => ?_
      have step2 : ∀ s2, s2 = bentV n b ss [p0, p1, p2] t r → P [some (.ref a), some (.int (n : Int)), some (.int b), none, some (.ref S), some (.int t), some (.ref M), some (.ref L), some (.ref c), x9, x10, some (.int s2)] H9 := fun s2 hs2 => by
        refine hP _ _ ?_
        clear hP P
        walk_at "st"
        refine ⟨.inl ⟨rfl, _, sq_l hM9⟩, _, hM9, ?_, fin _ hs2⟩
        rw [List.length_map, List.length_map]
        have h5 := List.length_take_le i (rows n)
        have h6 := (List.getElem?_eq_some_iff.mp hi).1
        exact szl (by omega)
      walk_at "st"
      split
      · rename_i hn2
        refine ixL (sq_l hL9) (by decide) rfl (rx (k := 0) (by omega) ⟨_, rfl, _, rfl, cm _ 0, rx (k := 2) (by omega) ⟨_, rfl, cm _ 2, ?_⟩⟩)
        refine ixL (sq_l hL9) (by decide) rfl (rx (k := 1) (by omega) ⟨_, rfl, _, rfl, cm _ 1, rx (k := 2) (by omega) ⟨_, rfl, cm _ 2, ?_⟩⟩)
        refine rx (k := 0) (by omega) ⟨_, rfl, cm _ 0, rx (k := 1) (by omega) ⟨_, rfl, cm _ 1, rx (k := 2) (by omega) ⟨_, rfl, cm _ 2, ?_⟩⟩⟩
        refine step2 _ ?_
        rw [hs1]
        unfold bentV
        rw [if_pos (show 2 < n by omega)] <;> rfl
      · rename_i hn2
        refine step2 _ ?_
        rw [hs1]
        unfold bentV
        rw [if_neg (show ¬ 2 < n by omega)] <;> rfl
    walk_at "st"
    split
    · rename_i hn1
      refine ixL (sq_l hL9) (by decide) rfl (rx (k := 0) (by omega) ⟨_, rfl, _, rfl, cm _ 0, rx (k := 1) (by omega) ⟨_, rfl, cm _ 1, ?_⟩⟩)
      exact step1 _ (by rw [if_pos (show 1 < n by omega)])
    · rename_i hn1
      exact step1 _ (by rw [if_neg (show ¬ 1 < n by omega)])
  · rintro σ' H7 ⟨b7, x8, x9, x10, x11, rfl, hM7⟩
    rw [List.take_length] at hM7
    refine hP _ _ ?_
    walk_at "st"
    refine ⟨_, .inl ⟨sq_l hM7, fun l hl => ⟨by decide, fun pp hpp => ?_⟩⟩⟩
    have e8 := Ex.new (o := .tup (((rows n).map (bentV n b ss [p0, p1, p2] t)).map V.int)) hl
    have e9 := Ex.new (o := .tup [V.int (n : Int), V.ref l]) hpp
    have x07 := x06.but b7 hMH nMa
    refine q (n, (rows n).map (bentV n b ss [p0, p1, p2] t)) _ _ ⟨h1, h3, by rw [List.length_map]; exact hrl⟩ (fun v hv => ?_) (bent_drawn h1 h3 hc) (x07.tr ((hh.x x07).ex (e8.tr e9))) ⟨pp, _, _, rfl, upd_same, rfl, rIs.mk (e9 _ _ upd_same)⟩
    obtain ⟨r, hr, rfl⟩ := List.mem_map.mp hv
    exact bent_bd h3 hc (rows_row n r hr)
end Cut
end

section
set_option maxHeartbeats 4000000
namespace Cut
open PySem PySem.Spec L2
local macro_rules | `(tactic| walk_at "rd") => `(tactic| dsimp only [tFor_eq, tLc_eq, tLc2_eq, iTup, iList, iRng1, iRng2, iSeq, RZ.iZipA, iEnum, iZipX, iEnumT, iKeys, tTupZip, tLenSet, gFld_app, tLock, tLockE, tCallN, tTup0F, tAsg, tVar, tC, tCmp, tIsN, tNotN, tB, tAnd, tOr, tNot, tAndV, tOrV, tNotV, tIf, tNext, tSeq, tBreak, tCont, tDrop, tRet, tRetN, tIfS, gName_app, gTup_app, gCons_app, gNil_app, gSub_app, tAsg, tAug, tCall, tMeth, tMake, tCons, tNil, tTup, tLst, tCB, tOp, tUn, tTest, tChain, tFld, sFld, sFldAug, tBM, tBM0, tSl, tPart, tNoPart, tDGet, tDIn, tDNotIn, sDPut, sDAug, tDNewK, tDNewT, tDGet2, L2.rI, L2.rI0, L2.rU, rEq, rNe, t2I, ipI, rAdd, rSub, rAppend, tAugS, cxOf, Cx.nox, Cx.wish])
local macro_rules | `(tactic| walk_at "ex") => `(tactic| simp only [L2.start, List.map_cons, List.map_nil, List.length_cons, List.length_nil, List.replicate_succ, List.replicate_zero, List.cons_append, List.nil_append, List.append_nil, List.getElem?_cons_zero, List.getElem?_cons_succ, List.set_cons_zero, List.set_cons_succ, L2.wipe, Option.some.injEq, V.int.injEq, V.bl.injEq, V.ref.injEq, V.str.injEq, V.ty.injEq, List.cons.injEq, exists_eq_left', exists_eq_left, exists_eq_right, and_true, true_and, and_self, exists_and_left, exists_and_right, exists_const, and_assoc, exists_eq, exists_eq', eq_self_iff_true, if_true, if_false, Bool.false_eq_true, decide_eq_true_eq, ne_eq, reduceCtorEq, not_false_eq_true, Nat.reduceAdd, Nat.reduceSub, Bool.not_true, Bool.not_false, Option.map_some, Option.map_none, Option.isSome_some, Option.isSome_none, Option.getD_some, Option.getD_none])
local macro_rules | `(tactic| walk_at "st") => `(tactic| ((try walk_at "rd"); (try walk_at "ex")))

/-! ### a price of a kind is drawn -/
def W5 (w : Str) : Prop := w = "all no" ∨ w = "all yes" ∨ w = "bent" ∨ w = "rising" ∨ w = "falling"
theorem cnt_le : ∀ (r s : List Int), decide (((((r.zip s).filterMap fun p : Int × Int => if p.1 > p.2 then some (1 : Int) else none).length : Nat) : Int) = 0) = leB r s := fun r s => by
  unfold leB
  generalize r.zip s = l
  induction l with
  | nil => rfl
  | cons p l ih =>
    rw [List.filterMap_cons, List.all_cons]
    by_cases h : p.1 > p.2
    · have h2 : ¬ p.1 ≤ p.2 := by omega
      simp only [h, if_true, List.length_cons, h2, decide_false, Bool.false_and]
      rw [decide_eq_false]
      omega
    · have h2 : p.1 ≤ p.2 := by omega
      simp only [h, if_false, h2, decide_true, Bool.true_and]
      exact ih
def KpO (H5 : Hp) (a R M : Addr) (w : Str) (n : Nat) (lv : Int) (j : Nat) (σ' : L2.St) (H' : Hp) : Prop := But M H5 H' ∧ ∃ (am : List Int) (x4 x6 x8 x9 x10 x11 x12 : Option V), σ' = [some (.ref a), some (.str w), some (.int (n : Int)), some (.ref R), x4, some (.ref M), x6, some (.int lv), x8, x9, x10, x11, x12] ∧ H' M = some (.lst (am.map V.int)) ∧ KInv w n am j 0
def KpI (H5 : Hp) (a R M : Addr) (w : Str) (n : Nat) (lv : Int) (j i : Nat) (σ' : L2.St) (H' : Hp) : Prop := But M H5 H' ∧ ∃ (am : List Int) (x4 x6 x9 x10 x11 x12 : Option V), σ' = [some (.ref a), some (.str w), some (.int (n : Int)), some (.ref R), x4, some (.ref M), x6, some (.int lv), some (.int (j : Int)), x9, x10, x11, x12] ∧ H' M = some (.lst (am.map V.int)) ∧ KInv w n am j i
def sp_law_kind_price (K : PySem.W.Frag) : Sp := fun vs H Q _ => ∃ (a d : Addr) (ds : List Int) (w : Str), vs = [.ref a, .str w] ∧ W5 w ∧ Hd a d ds H ∧ ∀ p v H', PrOk p → BdP p → KindP p w → Hx a d H H' → rPl p H' v → Q v H'
abbrev nN_law_kind_price : List Str := ["_law_hand", "_law_word", "_law_size", "_law_rows_here", "_law_row", "_law_amounts", "_law_one", "_law_least", "_law_j", "_law_i", "_law_x", "_law_y", "_law_under"]
theorem sc_law_kind_price : FnScope nN_law_kind_price ["_law_hand", "_law_word"] (defScope s_law_kind_price) := ⟨rfl, rfl, rfl, by decide +kernel, rfl, by decide +kernel, by decide +kernel⟩
theorem ok_law_kind_price {P : Program} {w : World} {K : PySem.W.Frag} {mg : Str → Option Value} {base : Heap} {fd : FuncData} (T : GG K w mg) (F : FunD K "_law_kind_price" "_law_kind_price" (defArgs s_law_kind_price) (defBody s_law_kind_price) (defScope s_law_kind_price) [] [] (He.fAd K ("_law_kind_price", none)) fd) (c_law_take : Cal P w K mg base "_law_take" 1 ["_law_hand", "_law_many"] (sp_law_take K)) (c_law_amount : Cal P w K mg base "_law_amount" 2 ["_law_hand"] (sp_law_amount K)) (c_law_rows : Cal P w K mg base "_law_rows" 1 ["_law_many"] (sp_law_rows K)) (c_law_bent : Cal P w K mg base "_law_bent" 3 ["_law_hand", "_law_size"] (sp_law_bent K)) : Cal P w K mg base "_law_kind_price" 4 ["_law_hand", "_law_word"] (sp_law_kind_price K) := by
  have nd := sc_law_kind_price.nd
  refine cal_of F T.g_law_kind_price (fun _ _ _ _ _ _ us hl => match us, hl with | [_, _], _ => rfl) (FunD.ok F sc_law_kind_price (fun vs H Q E h => ?_) (fun cdv A outer s H vs Q E hr h => ?_))
  · obtain ⟨a, d, ds, w, rfl, hw, hh, q⟩ := h
    rfl
  obtain ⟨a, d, ds, w, rfl, hw, hh, q⟩ := h
  have hu := hu_of hr
  refine ⟨_, PSs.nox (pss_cons (ps_set (i := 2) nd rfl (Or.inl rfl) (pe_ix (ix_listK (K := K) rfl) (pe_lst (pa_cons pe_int (pa_cons pe_int (pa_cons pe_int (pa_cons pe_int pa_nil))))) (pe_cal c_law_take hr (pa_cons (pv 0) (pa_cons pe_int pa_nil))) (fun _ _ => rfl))) (pss_cons (ps_if (pt_cmpR op_eq (pv 1) pe_str (nomark _)) (pss_one (ps_ret (pe_cal c_law_bent hr (pa_cons (pv 0) (pa_cons (pv 2) pa_nil))))) pss_nil) (pss_cons (ps_set (i := 3) nd rfl (Or.inl rfl) (pe_cal c_law_rows hr (pa_cons (pv 2) pa_nil))) (pss_cons (ps_setLc (i := 5) (own := [("_law_row", 4)]) rfl nd rfl rfl (sw_true rfl rfl rfl (by decide +kernel)) (pi_listK (K := K) rfl (pv 3)) (blkOk_by (own := [("_law_row", 4)]) (N := nN_law_kind_price) (sc := defScope s_law_kind_price) (by decide +kernel)) (fun _ _ _ _ _ => (pg_name (i := 4) nd rfl (Or.inl rfl))) (fun _ _ _ _ _ => pts_nil) (fun _ _ _ _ _ => (pe_cal c_law_amount hr (pa_cons (pv 0) pa_nil)))) (pss_cons (ps_set (i := 7) nd rfl (Or.inl rfl) (pe_op op_sub (pe_b_min T.f_min (cr_min rfl) (pa_cons (pe_lc (own := [("_law_one", 6)]) rfl nd (pi_listK (K := K) rfl (pv 5)) (blkOk_by (own := [("_law_one", 6)]) (N := nN_law_kind_price) (sc := defScope s_law_kind_price) (by decide +kernel)) (fun _ _ _ _ _ => (pg_name (i := 6) nd rfl (Or.inl rfl))) (fun _ _ _ _ _ => pts_nil) (fun _ _ _ _ _ => (pe_b_int T.f_int call_int1 (pa_cons (pv 6) pa_nil)))) pa_nil)) (pe_cal c_law_take hr (pa_cons (pv 0) (pa_cons pe_int pa_nil))))) (pss_cons (ps_if (pt_cmpR op_eq (pv 1) pe_str (nomark _)) (pss_one (ps_asg (pv 7) (pg_sub (pv 5) pe_int set_list))) pss_nil) (pss_cons (ps_if (pt_cmpR op_eq (pv 1) pe_str (nomark _)) (pss_one (ps_asg (pv 7) (pg_sub (pv 5) (pe_un un_neg pe_int) set_list))) pss_nil) (pss_cons (ps_for PassesOwn.never rfl (pi_range1 rfl T.f_range (pa_cons (pe_b_len T.f_len call_len_seq (pa_cons (pv 3) pa_nil)) pa_nil)) (pg_name (i := 8) nd rfl (Or.inl rfl)) (pss_one (ps_for PassesOwn.never rfl (pi_range1 rfl T.f_range (pa_cons (pv 8) pa_nil)) (pg_name (i := 9) nd rfl (Or.inl rfl)) (pss_cons (ps_set (i := 12) nd rfl (Or.inl rfl) (pe_cmpR op_eq (pe_b_len T.f_len call_len_seq (pa_cons (pe_lc (own := [("_law_x", 10), ("_law_y", 11)]) rfl nd (pi_zipX (by rfl) T.f_zip (pa_cons (pe_ix (ix_listK (K := K) rfl) (pv 3) (pv 9) (fun _ _ => rfl)) (pa_cons (pe_ix (ix_listK (K := K) rfl) (pv 3) (pv 8) (fun _ _ => rfl)) pa_nil))) (blkOk_by (own := [("_law_x", 10), ("_law_y", 11)]) (N := nN_law_kind_price) (sc := defScope s_law_kind_price) (by decide +kernel)) (fun _ _ _ _ _ => (pg_tupK (n := 2) (K := K) rfl rfl (pgs_cons (pg_name (i := 10) nd rfl (Or.inl rfl)) (pgs_cons (pg_name (i := 11) nd rfl (Or.inl rfl)) pgs_nil)))) (fun _ _ _ _ _ => pts_one (pt_cmpR op_gt (pv 10) (pv 11) (nomark _))) (fun _ _ _ _ _ => pe_int)) pa_nil)) pe_int (nomark _))) (pss_cons (ps_if (PW.pt (pw_and (pt_val (pv 12)) (pw_and1 (pt_cmpR op_eq (pv 1) pe_str (nomark _))))) (pss_one (ps_asg (pe_b_max T.f_max (call_max2 rfl) (pa_cons (pe_b_int T.f_int call_int1 (pa_cons (pe_ix (ix_listK (K := K) rfl) (pv 5) (pv 8) (fun _ _ => rfl)) pa_nil)) (pa_cons (pe_b_int T.f_int call_int1 (pa_cons (pe_ix (ix_listK (K := K) rfl) (pv 5) (pv 9) (fun _ _ => rfl)) pa_nil)) pa_nil))) (pg_sub (pv 5) (pv 8) set_list))) pss_nil) (pss_one (ps_if (PW.pt (pw_and (pt_val (pv 12)) (pw_and1 (pt_cmpR op_eq (pv 1) pe_str (nomark _))))) (pss_one (ps_asg (pe_b_min T.f_min (call_min2 rfl) (pa_cons (pe_b_int T.f_int call_int1 (pa_cons (pe_ix (ix_listK (K := K) rfl) (pv 5) (pv 8) (fun _ _ => rfl)) pa_nil)) (pa_cons (pe_b_int T.f_int call_int1 (pa_cons (pe_ix (ix_listK (K := K) rfl) (pv 5) (pv 9) (fun _ _ => rfl)) pa_nil)) pa_nil))) (pg_sub (pv 5) (pv 8) set_list))) pss_nil))))))) (pss_one (ps_ret (pe_tup (pa_cons (pv 2) (pa_cons (pe_b_tuple T.f_tuple call_tuple_of (pa_cons (pv 5) pa_nil)) pa_nil))))))))))))), ?_⟩
  refine seq_gen fun P hP => ?_
  walk_at "st"
  refine ⟨by decide, fun z0 hz0 => take_of (by decide) (hh.up (Ex.new hz0)) fun k H1 k0 k1 x1' => ?_⟩
  have nz0 := hh.at_ hz0
  have hq1 := x1'.1 _ _ nz0 upd_same
  have x1 := (hh.ex (Ex.new hz0)).tr x1'
  clear x1'
  have hh1 := hh.x x1
  obtain ⟨n, hn, h1, h3⟩ : ∃ n : Nat, ([V.int 1, V.int 2, V.int 3, V.int 3] : List V)[k.toNat]? = some (.int (n : Int)) ∧ 1 ≤ n ∧ n ≤ 3 := by
    have hk : k = 0 ∨ k = 1 ∨ k = 2 ∨ k = 3 := by omega
    rcases hk with rfl | rfl | rfl | rfl
    · exact ⟨1, rfl, by omega, by omega⟩
    · exact ⟨2, rfl, by omega, by omega⟩
    · exact ⟨3, rfl, by omega, by omega⟩
    · exact ⟨3, rfl, by omega, by omega⟩
  refine ixL (sq_l hq1) k0 hn (hP _ _ ?_)
  clear hP P
  refine seq_gen fun P hP => ?_
  walk_at "st"
  refine ⟨rfl, ?_⟩
  split
  · rename_i hb
    subst hb
    exact ⟨a, d, ds, n, rfl, h1, h3, hh1, fun p v H2 p1 p2 p3 x2 hv => q p v H2 p1 p2 (.inr (.inr (.inl ⟨rfl, p3⟩))) (x1.tr x2) hv⟩
  rename_i hnb
  have hw4 : w = "all no" ∨ w = "all yes" ∨ w = "rising" ∨ w = "falling" := by
    rcases hw with e | e | e | e | e
    · exact .inl e
    · exact .inr (.inl e)
    · exact absurd e hnb
    · exact .inr (.inr (.inl e))
    · exact .inr (.inr (.inr e))
  refine hP _ _ ?_
  clear hP P
  have h8 := pow8 h3
  have hrl := rows_len n
  refine seq_gen fun P hP => ?_
  walk_at "st"
  refine ⟨n, rfl, by omega, fun R H2 hR e2 hrr => hP _ _ ?_⟩
  clear hP P
  obtain ⟨_, us, hz, hR2, alr⟩ := hrr
  cases hz
  have x02 := x1.tr (hh1.ex e2)
  have hh2 := hh.x x02
  have nRa : R ≠ a := hh1.at_ hR
  refine seq_gen fun P hP => ?_
  walk_at "st"
  refine ⟨⟨_, sq_l hR2⟩, ?_⟩
  refine lc_take (f := rIs) (xs := rows n) (rb := rI) hh2 (fun c => -99 ≤ c ∧ c ≤ 99) (wk_lst fun H' g => ⟨us, sq_l (g.1 _ _ nRa hR2), alr.upZ (hh2.zx g)⟩) (by omega) (fun _ => rfl) ?_ ?_
  · rintro v H4 K1 h4 hK
    walk_at "st"
    exact amount_of (hh2.x h4) fun c H5 c0 c1 h5 => hK c _ _ ⟨c0, c1⟩ h5 rfl
  rintro M H3 am nMa hMn x3 hal hab hrm
  obtain ⟨_, ws, hz, hM3, alm⟩ := hrm
  cases hz
  rw [al_ints alm] at hM3
  have x03 := x02.tr x3
  have hh3 := hh.x x03
  have hR3 := x3.1 _ _ nRa hR2
  have nMR : M ≠ R := ne_of_none' hMn hR2
  have hMH : H M = none := x02.back hMn nMa
  have hlen : am.length = 2 ^ n := by rw [hal, hrl]
  refine hP _ _ ?_
  clear hP P
  refine seq_gen fun P hP => ?_
  walk_at "st"
  refine ⟨⟨_, sq_l hM3⟩, ?_⟩
  refine lc_mapN (f := rI) (xs := am) (rb := rI) (F := fun v => v) (wk_lst fun H' g => ⟨_, sq_l (g _ _ hM3), ints_al _⟩) (by omega) (fun _ => rfl) ?_ ?_
  · rintro i c v H4 K1 hi e4 hv hK
    cases hv
    walk_at "st"
    exact .inl (hK _ _ (Ex.rf _) rfl)
  rintro c4 H4 hc4n e4 hr4
  rw [List.map_id'] at hr4
  obtain ⟨_, us4, hz, hc4, al4⟩ := hr4
  cases hz
  rw [al_ints al4] at hc4
  walk_at "st"
  refine ⟨c4, am, rfl, sq_l hc4, by omega, fun m hm hmin => ?_⟩
  have hh4 := hh3.up e4
  refine take_of (by decide) hh4 fun kk H5 kk0 kk1 x5 => ⟨_, rfl, kk, rfl, hP _ _ ?_⟩
  clear hP P
  have x05 := (x03.tr (hh3.ex e4)).tr x5
  have hh5 := hh.x x05
  have hM5 := x5.1 _ _ nMa (e4 _ _ hM3)
  have hR5 := x5.1 _ _ nRa (e4 _ _ hR3)
  have ki := kinv0 (w := w) hlen hab hm hmin kk0 kk1
  generalize hlv : m - kk = lv at ki
  refine seq_gen fun P hP => ?_
  have next : ∀ H6 am1, am1 = (if w = "all no" then am.set 0 lv else am) → But M H5 H6 → H6 M = some (.lst (am1.map V.int)) → P [some (.ref a), some (.str w), some (.int (n : Int)), some (.ref R), none, some (.ref M), none, some (.int lv), none, none, none, none, none] H6 := fun H6 am1 he1 b6 hM6 => by
    have hl1 : am1.length = 2 ^ n := by
      rw [he1]
      split
      · rw [List.length_set]
        exact hlen
      · exact hlen
    refine hP _ _ ?_
    clear hP P
    refine seq_gen fun P hP => ?_
    have next : ∀ H7 am2, am2 = (if w = "all yes" then am1.set (2 ^ n - 1) lv else am1) → But M H5 H7 → H7 M = some (.lst (am2.map V.int)) → P [some (.ref a), some (.str w), some (.int (n : Int)), some (.ref R), none, some (.ref M), none, some (.int lv), none, none, none, none, none] H7 := fun H7 am2 he2 b7 hM7 => by
      rw [← he1, ← he2] at ki
      refine hP _ _ ?_
      clear hP P
      have hR7 := b7 _ _ nMR.symm hR5
      have alr7 := (alr.upZ (hh2.zx x3)).upZ (e4.zx.tr ((hh3.up e4).zx x5))
      have alr8 := alr7.upZ (b7.zx hM5 (fun q => q))
      refine seq_gen fun P hP => ?_
      walk_at "st"
      have usl := alr.len
      refine ⟨us, .inl (sq_l hR7), by omega, by omega, ?_⟩
      rw [Int.toNat_natCast]
      refine for_s (ws_rng0 (n := us.length) (G := fun _ => True)) (KpO H7 a R M w n lv) ⟨But.rf _ _, am2, _, _, _, _, _, _, _, rfl, hM7, ki⟩ (fun _ _ _ _ _ => True.intro) ?_ ?_
      · rintro j x v σ' H8 hx ⟨b8, am3, x4, x6, x8, x9, x10, x11, x12, rfl, hM8, kj⟩ hv
        cases hv
        have hj : j < us.length := by
          have q := (List.getElem?_eq_some_iff.mp hx).1
          rw [List.length_range] at q
          exact q
        have hxj : x = j := by
          rw [List.getElem?_range hj] at hx
          exact (Option.some.inj hx).symm
        subst hxj
        walk_at "st"
        refine ⟨by omega, by omega, ?_⟩
        rw [Int.toNat_natCast]
        refine for_s (ws_rng0 (n := x) (G := fun _ => True)) (KpI H7 a R M w n lv x) ⟨b8, am3, _, _, _, _, _, _, rfl, hM8, kj⟩ (fun _ _ _ _ _ => True.intro) ?_ ?_
        · rintro i y v σ' H9 hy ⟨b9, am4, x4, x6, x9, x10, x11, x12, rfl, hM9, kk⟩ hv
          cases hv
          have hi : i < x := by
            have q := (List.getElem?_eq_some_iff.mp hy).1
            rw [List.length_range] at q
            exact q
          have hyi : y = i := by
            rw [List.getElem?_range hi] at hy
            exact (Option.some.inj hy).symm
          subst hyi
          have hR9 := b9 _ _ nMR.symm hR7
          have alr9 := alr8.upZ (b9.zx hM7 (fun q => q))
          have hri := List.getElem?_eq_getElem (show y < (rows n).length by omega)
          have hrj := List.getElem?_eq_getElem (show x < (rows n).length by omega)
          have hund : und n y x = leB ((rows n)[y]'(by omega)) ((rows n)[x]'(by omega)) := by
            unfold und
            rw [getD_of hri, getD_of hrj]
          generalize (rows n)[y]'(by omega) = ri at hri hund
          generalize (rows n)[x]'(by omega) = rj at hrj hund
          have hrowi := rows_at hri
          have hrowj := rows_at hrj
          obtain ⟨ui, hui, hai⟩ := alr9.get hri
          obtain ⟨uj, huj, haj⟩ := alr9.get hrj
          obtain ⟨ci, rfl, hci⟩ := hai.of
          obtain ⟨cj, rfl, hcj⟩ := haj.of
          rw [gName_app]
          refine seq_gen fun P hP => ?_
          walk_at "st"
          refine ixL (sq_l hR9) (by omega) (get_toNat hui) (ixL (sq_l hR9) (by omega) (get_toNat huj) ?_)
          refine ⟨ci, rfl, cj, rfl, .inr (.inl ⟨⟨_, sq_t hci⟩, ⟨_, sq_t hcj⟩, ?_⟩)⟩
          refine lc_gen (f := fun p : Int × Int => r2 (rI p.1) (rI p.2)) (rb := rI) (F := fun p : Int × Int => if p.1 > p.2 then some (1 : Int) else none) (wk_zipT (f := rI) (g := rI) (xs := ri) (ys := rj) fun H' e => ⟨_, _, sq_t (e _ _ hci), sq_t (e _ _ hcj), ints_al ri, ints_al rj⟩) (by rw [List.length_zip, hrowi.1]; omega) ?_ ?_
          · rintro k q v H' K1 K2 hq e4 ⟨T, y1, y2, rfl, hT, hy1, hy2⟩ k1 k2
            cases hy1
            cases hy2
            walk_at "st"
            refine ⟨_, sq_t hT, rfl, ?_⟩
            walk_at "st"
            by_cases hq : q.2 < q.1
            · rw [if_pos hq]
              rw [if_pos (show q.1 > q.2 from hq)] at k1
              exact k1 _ _ _ rfl (Ex.rf _) rfl
            · rw [if_neg hq]
              rw [if_neg (show ¬ q.1 > q.2 from hq)] at k2
              exact k2 _ rfl (Ex.rf _)
          · rintro cc HA hcn eA hrA
            obtain ⟨_, wsA, hz, hcA, alA⟩ := hrA
            cases hz
            have hcl := alA.len
            refine ⟨cc, rfl, _, .inl (sq_l hcA), rfl, ?_⟩
            rw [hcl, cnt_le, ← hund]
            refine hP _ _ ?_
            clear hP P
            have bA := b9.tr eA.but
            have hMA := eA _ _ hM9
            have hxl : x < am4.length := by rw [kk.len]; omega
            have hyl : y < am4.length := by omega
            have gx : am4[x]? = some (am4.getD x 0) := by rw [getD_of (List.getElem?_eq_getElem hxl)]; exact List.getElem?_eq_getElem hxl
            have gy : am4[y]? = some (am4.getD y 0) := by rw [getD_of (List.getElem?_eq_getElem hyl)]; exact List.getElem?_eq_getElem hyl
            have hix : ixN (am4.map V.int).length (x : Int) = some x := by
              unfold ixN
              rw [if_pos (by omega), if_pos (by rw [ints_len]; omega), Int.toNat_natCast]
            refine seq_gen fun P hP => ?_
            have next : ∀ HB am5, But M H7 HB → HB M = some (.lst (am5.map V.int)) → ((und n y x = true ∧ w = "falling" ∧ am5 = am4) ∨ (¬ (und n y x = true ∧ w = "falling") ∧ KInv w n am5 x (y + 1))) → P [some (.ref a), some (.str w), some (.int (n : Int)), some (.ref R), x4, some (.ref M), x6, some (.int lv), some (.int (x : Int)), some (.int (y : Int)), x10, x11, some (.bl (und n y x))] HB := fun HB am5 bB hMB hc => by
              refine hP _ _ ?_
              clear hP P
              walk_at "st"
              have out : ¬ (und n y x = true ∧ w = "falling") → KpI H7 a R M w n lv x (y + 1) [some (.ref a), some (.str w), some (.int (n : Int)), some (.ref R), x4, some (.ref M), x6, some (.int lv), some (.int (x : Int)), some (.int (y : Int)), x10, x11, some (.bl (und n y x))] HB := fun hne => by
                rcases hc with ⟨g1, g2, _⟩ | ⟨_, g⟩
                · exact absurd ⟨g1, g2⟩ hne
                · exact ⟨bB, am5, _, _, _, _, _, _, rfl, hMB, g⟩
              by_cases hu1 : und n y x = true
              · rw [if_pos hu1]
                refine ⟨rfl, ?_⟩
                by_cases hf : w = "falling"
                · rw [if_pos hf]
                  rcases hc with ⟨_, _, g⟩ | ⟨g, _⟩
                  · rw [g] at hMB
                    refine ixL (sq_l hMB) (by omega) (get_toNat (map_at gx)) (.inl ⟨_, rfl, ixL (sq_l hMB) (by omega) (get_toNat (map_at gy)) (.inl ⟨_, rfl, M, _, (x : Int), x, rfl, rfl, hMB, hix, ?_⟩)⟩)
                    rw [hf] at kk
                    refine ⟨bB.tr But.mut, am4.set x _, _, _, _, _, _, _, rfl, by rw [upd_same, List.map_set], ?_⟩
                    rw [hf]
                    exact kk.down (by omega) hxl (by split <;> omega) (by split <;> omega) (by split <;> simp)
                  · exact absurd ⟨hu1, hf⟩ g
                · rw [if_neg hf]
                  exact out fun z => hf z.2
              · rw [if_neg hu1]
                exact out fun z => hu1 z.1
            walk_at "st"
            have out : ¬ (und n y x = true ∧ w = "rising") → P [some (.ref a), some (.str w), some (.int (n : Int)), some (.ref R), x4, some (.ref M), x6, some (.int lv), some (.int (x : Int)), some (.int (y : Int)), x10, x11, some (.bl (und n y x))] HA := fun hne => by
              refine next HA am4 bA hMA ?_
              by_cases g : und n y x = true ∧ w = "falling"
              · exact .inl ⟨g.1, g.2, rfl⟩
              · exact .inr ⟨g, kk.skip hne g⟩
            by_cases hu1 : und n y x = true
            · rw [if_pos hu1]
              refine ⟨rfl, ?_⟩
              by_cases hf : w = "rising"
              · rw [if_pos hf]
                refine ixL (sq_l hMA) (by omega) (get_toNat (map_at gx)) (.inl ⟨_, rfl, ixL (sq_l hMA) (by omega) (get_toNat (map_at gy)) (.inl ⟨_, rfl, M, _, (x : Int), x, rfl, rfl, hMA, hix, ?_⟩)⟩)
                rw [hf] at kk
                refine next _ (am4.set x _) (bA.tr But.mut) (by rw [upd_same, List.map_set]) (.inr ⟨fun z => by rw [hf] at z; exact absurd z.2 (by decide), ?_⟩)
                rw [hf]
                exact kk.up (by omega) hxl (by split <;> omega) (by split <;> omega) (by split <;> simp)
              · rw [if_neg hf]
                exact out fun z => hf z.2
            · rw [if_neg hu1]
              exact out fun z => hu1 z.1
        · rintro σ' H9 ⟨b9, am4, x4, x6, x9, x10, x11, x12, rfl, hM9, kk⟩
          rw [List.length_range] at kk
          exact ⟨b9, am4, _, _, _, _, _, _, _, rfl, hM9, kk.next⟩
      · rintro σ' H8 ⟨b8, am3, x4, x6, x8, x9, x10, x11, x12, rfl, hM8, kj⟩
        rw [List.length_range, usl, hrl] at kj
        refine hP _ _ ?_
        walk_at "st"
        refine ⟨_, .inl ⟨sq_l hM8, fun l hl => ⟨by decide, fun pp hpp => ?_⟩⟩⟩
        have e8 := Ex.new (o := .tup (am3.map V.int)) hl
        have e9 := Ex.new (o := .tup [V.int (n : Int), V.ref l]) hpp
        have x08 := (x05.but b7 hMH nMa).but b8 hMH nMa
        obtain ⟨p1, p2⟩ := kj.pr h1 h3
        exact q (n, am3) _ _ p1 p2 (kj.done h1 h3 hw4) (x08.tr ((hh.x x08).ex (e8.tr e9))) ⟨pp, _, _, rfl, upd_same, rfl, rIs.mk (e9 _ _ upd_same)⟩
    walk_at "st"
    refine ⟨rfl, ?_⟩
    split
    · rename_i c
      refine ⟨M, _, -1, 2 ^ n - 1, rfl, rfl, hM6, ?_, next _ _ (by rw [if_pos c]) (b6.tr But.mut) (by rw [upd_same, List.map_set])⟩
      unfold ixN
      rw [if_neg (by decide), if_pos (by rw [ints_len]; omega), ints_len, hl1]
      congr 1
      omega
    · rename_i c
      exact next _ _ (by rw [if_neg c]) b6 hM6
  walk_at "st"
  refine ⟨rfl, ?_⟩
  split
  · rename_i c
    refine ⟨M, _, 0, 0, rfl, rfl, hM5, ?_, next _ _ (by rw [if_pos c]) But.mut (by rw [upd_same, List.map_set])⟩
    unfold ixN
    rw [if_pos (by decide), if_pos (by rw [ints_len]; omega)] <;> rfl
  · rename_i c
    exact next _ _ (by rw [if_neg c]) (But.rf _ _) hM5
end Cut
end

section
set_option maxHeartbeats 4000000
namespace Cut
open PySem PySem.Spec L2
local macro_rules | `(tactic| walk_at "rd") => `(tactic| dsimp only [tFor_eq, tLc_eq, tLc2_eq, iTup, iList, iRng1, iRng2, iSeq, RZ.iZipA, iEnum, iZipX, iEnumT, iKeys, tTupZip, tLenSet, gFld_app, tLock, tLockE, tCallN, tTup0F, tAsg, tVar, tC, tCmp, tIsN, tNotN, tB, tAnd, tOr, tNot, tAndV, tOrV, tNotV, tIf, tNext, tSeq, tBreak, tCont, tDrop, tRet, tRetN, tIfS, gName_app, gTup_app, gCons_app, gNil_app, gSub_app, tAsg, tAug, tCall, tMeth, tMake, tCons, tNil, tTup, tLst, tCB, tOp, tUn, tTest, tChain, tFld, sFld, sFldAug, tBM, tBM0, tSl, tPart, tNoPart, tDGet, tDIn, tDNotIn, sDPut, sDAug, tDNewK, tDNewT, tDGet2, L2.rI, L2.rI0, L2.rU, rEq, rNe, t2I, ipI, rAdd, rSub, rAppend, tAugS, cxOf, Cx.nox, Cx.wish])
local macro_rules | `(tactic| walk_at "ex") => `(tactic| simp only [L2.start, List.map_cons, List.map_nil, List.length_cons, List.length_nil, List.replicate_succ, List.replicate_zero, List.cons_append, List.nil_append, List.append_nil, List.getElem?_cons_zero, List.getElem?_cons_succ, List.set_cons_zero, List.set_cons_succ, L2.wipe, Option.some.injEq, V.int.injEq, V.bl.injEq, V.ref.injEq, V.str.injEq, V.ty.injEq, List.cons.injEq, exists_eq_left', exists_eq_left, exists_eq_right, and_true, true_and, and_self, exists_and_left, exists_and_right, exists_const, and_assoc, exists_eq, exists_eq', eq_self_iff_true, if_true, if_false, Bool.false_eq_true, decide_eq_true_eq, ne_eq, reduceCtorEq, not_false_eq_true, Nat.reduceAdd, Nat.reduceSub, Bool.not_true, Bool.not_false, Option.map_some, Option.map_none, Option.isSome_some, Option.isSome_none, Option.getD_some, Option.getD_none])
local macro_rules | `(tactic| walk_at "st") => `(tactic| ((try walk_at "rd"); (try walk_at "ex")))

/-! ### the law -/
/-- what stands behind the drawing of the puzzle -/
structure LSt (K : PySem.W.Frag) (a d B : Addr) (ds : List Int) (us : List V) (z : Pz) (tv pv : V) (H : Hp) : Prop where
  hh : Hd a d ds H
  hB : H B = some (.lst us)
  al : Al (fun w x => rPl x H w) us z.book
  hT : rTu rTi z.ties H tv
  hp : rPz K z H pv
theorem LSt.ex {K : PySem.W.Frag} {a d B : Addr} {ds : List Int} {us : List V} {z : Pz} {tv pv : V} {H H' : Hp} (s : LSt K a d B ds us z tv pv H) (e : Ex H H') : LSt K a d B ds us z tv pv H' := ⟨s.hh.up e, e _ _ s.hB, s.al.up e, Mo.up e s.hT, Mo.up e s.hp⟩
theorem LSt.hx {K : PySem.W.Frag} {a d B : Addr} {ds : List Int} {us : List V} {z : Pz} {tv pv : V} {H H' : Hp} (s : LSt K a d B ds us z tv pv H) (n : B ≠ a) (e : Hx a d H H') : LSt K a d B ds us z tv pv H' := ⟨s.hh.x e, e.1 _ _ n s.hB, s.al.upZ (s.hh.zx e), Iz.upZ (s.hh.zx e) s.hT, Iz.upZ (s.hh.zx e) s.hp⟩
theorem gt_zip_take {cs row : List Int} (nd : cs.Nodup) (hl : cs.length = row.length) {i : Nat} {p : Int × Int} (h : (cs.zip row)[i]? = some p) : gt ((cs.zip row).take i) p.1 = none := by
  have h1 : ((cs.zip row).take (i + 1)).map (·.1) = cs.take (i + 1) := by
    rw [List.map_take, zip_fst hl]
  have h2 : (cs.take (i + 1)).Nodup := nd.sublist (List.take_sublist _ _)
  rw [← h1, List.take_add_one, h, List.map_append, List.nodup_append] at h2
  cases hg : gt ((cs.zip row).take i) p.1 with
  | none => rfl
  | some v => exact absurd rfl (h2.2.2 p.1 (List.mem_map.mpr ⟨_, gt_mem hg, rfl⟩) p.1 (by simp))
def mosts (t : List (Int × Int)) (n : Nat) : List (Int × Int) := (List.range n).filterMap fun (k : Nat) => (gt t (k : Int)).map fun v => ((k : Int), v)
theorem mem_mosts {t : List (Int × Int)} {n : Nat} {p : Int × Int} : p ∈ mosts t n ↔ 0 ≤ p.1 ∧ p.1 < (n : Int) ∧ gt t p.1 = some p.2 := by
  unfold mosts
  rw [List.mem_filterMap]
  constructor
  · rintro ⟨k, hk, h⟩
    obtain ⟨v, hv, rfl⟩ := Option.map_eq_some_iff.mp h
    have := List.mem_range.mp hk
    exact ⟨by show (0 : Int) ≤ (k : Int); omega, by show (k : Int) < _; omega, hv⟩
  · rintro ⟨h0, h1, h2⟩
    refine ⟨p.1.toNat, List.mem_range.mpr (by omega), ?_⟩
    rw [Int.toNat_of_nonneg h0, h2] <;> rfl
theorem keeps_mosts {n : Nat} {st : List (Int × Int)} {cs row f : List Int} (hst : StOk n st) (hf : FreeOk n st cs) (hr : Row row cs.length) (hF : Row f n) : keepsB (mosts (st ++ cs.zip row) n) f = true ↔ KZ st cs row f := by
  have nd := (st_with hst hf hr (.refl _)).1
  have two : ∀ p ∈ st ++ cs.zip row, 0 ≤ p.1 ∧ p.1 < (n : Int) ∧ (p.2 = 0 ∨ p.2 = 1) := fun p hp => by
    rcases List.mem_append.mp hp with h | h
    · exact hst.2 p h
    · have h1 := hf.2.2.2 p.1 (List.of_mem_zip h).1
      exact ⟨h1.1, h1.2.1, hr.2 p.2 (List.of_mem_zip h).2⟩
  rw [← kz_iff hst hr hF, keeps_iff hF fun p hp => (two p hp).2.2]
  unfold keepsB
  rw [List.all_eq_true]
  constructor
  · intro h p hp
    have h1 := two p hp
    have := h p (mem_mosts.mpr ⟨h1.1, h1.2.1, gt_of_mem nd (show (p.1, p.2) ∈ _ from hp)⟩)
    exact of_decide_eq_true this
  · intro h p hp
    obtain ⟨_, _, hg⟩ := mem_mosts.mp hp
    exact decide_eq_true (h (p.1, p.2) (gt_mem hg))
theorem log_small {i : Int} (h0 : -120000000 ≤ i) (h1 : i ≤ 120000000) : i.natAbs.log2 < 1920 := by
  by_cases c : i.natAbs = 0
  · rw [c]
    decide
  · refine Nat.lt_of_lt_of_le ((Nat.log2_lt c).mpr (show i.natAbs < 2 ^ 27 by omega)) (by decide)
def sp_law (K : PySem.W.Frag) : Sp := fun vs H Q _ => ∃ (sc : Addr) (ns : List Int), vs = [.ref sc] ∧ SqL K H sc (ns.map V.int) ∧ ns.length ≤ 100 ∧ ∀ H', Q (.bl true) H'
abbrev nN_law : List Str := ["_law_script", "_law_hand", "_law_word", "_law_k", "_law_book", "_law_cells", "_law_ties_here", "_law_puzzle", "_law_start_here", "_law_places", "_law_price", "_law_cell", "_law_row", "_law_told", "_law_value", "_law_most", "_law_filling", "_law_total_here", "_law_due"]
theorem sc_law : FnScope nN_law ["_law_script"] (defScope s_law) := ⟨rfl, rfl, rfl, by decide +kernel, rfl, by decide +kernel, by decide +kernel⟩
theorem ok_law {P : Program} {w : World} {K : PySem.W.Frag} {mg : Str → Option Value} {base : Heap} {fd : FuncData} (T : GG K w mg) (F : FunD K "law" "law" (defArgs s_law) (defBody s_law) (defScope s_law) [] [] (He.fAd K ("law", none)) fd) (c_law_at : Cal P w K mg base "_law_at" 1 ["_law_row"] (sp_law_at K)) (c_law_totals : Cal P w K mg base "_law_totals" 3 ["_law_book", "_law_cells", "_law_ties_here", "_law_start_here"] (sp_law_totals K)) (c_law_take : Cal P w K mg base "_law_take" 1 ["_law_hand", "_law_many"] (sp_law_take K)) (c_law_is : Cal P w K mg base "_law_is" 2 ["_law_price", "_law_word"] (sp_law_is K)) (c_written_price : Cal P w K mg base "written_price" 14 ["puzzle", "cells", "start"] (sp_written_price K)) (c_law_free : Cal P w K mg base "_law_free" 2 ["_law_hand", "_law_cells", "_law_start_here", "_law_many"] (sp_law_free K)) (c_law_start : Cal P w K mg base "_law_start" 2 ["_law_hand", "_law_cells", "_law_share"] (sp_law_start K)) (c_Puzzle : CalC P w K mg base "Puzzle" (He.ga K "Puzzle") 5 ["self", "book", "cell_count", "ties"] (sp_Puzzle_init K)) (c_law_made_book : Cal P w K mg base "_law_made_book" 5 ["_law_book"] (sp_law_made_book K)) (c_law_ties : Cal P w K mg base "_law_ties" 2 ["_law_hand", "_law_book", "_law_cells", "_law_many"] (sp_law_ties K)) (c_law_kind_price : Cal P w K mg base "_law_kind_price" 4 ["_law_hand", "_law_word"] (sp_law_kind_price K)) (c_law_draws : Cal P w K mg base "_law_draws" 1 ["_law_script", "_law_many"] (sp_law_draws K)) : FnOk P w K mg base CX0 15 (He.fAd K ("law", none)) fd ["_law_script"] (sp_law K) := by
  have nd := sc_law.nd
  refine FunD.ok F sc_law (fun vs H Q E h => ?_) (fun cdv A outer s H vs Q E hr h => ?_)
  · obtain ⟨sc, ns, rfl, hsc, hns, q⟩ := h
    rfl
  obtain ⟨sc, ns, rfl, hsc, hns, q⟩ := h
  have hu := hu_of hr
  refine ⟨_, PSs.nox (pss_cons (ps_set (i := 1) nd rfl (Or.inr rfl) (pe_lst (pa_cons (pe_cal c_law_draws hr (pa_cons (pv 0) (pa_cons pe_int pa_nil))) (pa_cons pe_int pa_nil)))) (pss_cons (ps_set (i := 2) nd rfl (Or.inr rfl) (pe_ix (ix_listK (K := K) rfl) (pe_lst (pa_cons pe_str (pa_cons pe_str (pa_cons pe_str (pa_cons pe_str (pa_cons pe_str pa_nil)))))) (pe_cal c_law_take hr (pa_cons (pv 1) (pa_cons pe_int pa_nil))) (fun _ _ => rfl))) (pss_cons (ps_setLc (i := 4) (own := [("_law_k", 3)]) rfl nd rfl rfl (sw_true rfl rfl rfl (by decide +kernel)) (pi_range1 rfl T.f_range (pa_cons (pe_op op_add pe_int (pe_cal c_law_take hr (pa_cons (pv 1) (pa_cons pe_int pa_nil)))) pa_nil)) (blkOk_by (own := [("_law_k", 3)]) (N := nN_law) (sc := defScope s_law) (by decide +kernel)) (fun _ _ _ _ _ => (pg_name (i := 3) nd rfl (Or.inl rfl))) (fun _ _ _ _ _ => pts_nil) (fun _ _ _ _ _ => (pe_cal c_law_kind_price hr (pa_cons (pv 1) (pa_cons (pv 2) pa_nil))))) (pss_cons (ps_set (i := 5) nd rfl (Or.inl rfl) (pe_op op_add pe_int (pe_cal c_law_take hr (pa_cons (pv 1) (pa_cons pe_int pa_nil))))) (pss_cons (ps_set (i := 6) nd rfl (Or.inl rfl) (pe_cal c_law_ties hr (pa_cons (pv 1) (pa_cons (pv 4) (pa_cons (pv 5) (pa_cons (pe_op op_add pe_int (pe_cal c_law_take hr (pa_cons (pv 1) (pa_cons pe_int pa_nil)))) pa_nil)))))) (pss_cons (ps_set (i := 7) nd rfl (Or.inl rfl) (pe_calC c_Puzzle hr (pa_cons (pe_cal c_law_made_book hr (pa_cons (pv 4) pa_nil)) (pa_cons (pv 5) (pa_cons (pv 6) pa_nil))))) (pss_cons (ps_set (i := 8) nd rfl (Or.inl rfl) pe_tup0F) (pss_cons (ps_if (PW.pt (pw_and (pt_cmpR op_notIn_seq (pv 2) (pe_lst (pa_cons pe_str (pa_cons pe_str pa_nil))) (by rfl)) (pw_and1 (pt_cmpR op_gt (pe_cal c_law_take hr (pa_cons (pv 1) (pa_cons pe_int pa_nil))) pe_int (nomark _))))) (pss_one (ps_set (i := 8) nd rfl (Or.inl rfl) (pe_cal c_law_start hr (pa_cons (pv 1) (pa_cons (pv 5) (pa_cons pe_int pa_nil)))))) pss_nil) (pss_cons (ps_set (i := 9) nd rfl (Or.inl rfl) (pe_cal c_law_free hr (pa_cons (pv 1) (pa_cons (pv 5) (pa_cons (pv 8) (pa_cons (pe_op op_add pe_int (pe_cal c_law_take hr (pa_cons (pv 1) (pa_cons pe_int pa_nil)))) pa_nil)))))) (pss_cons (ps_if (pt_cmpR op_eq (pe_b_len T.f_len call_len_seq (pa_cons (pv 9) pa_nil)) pe_int (nomark _)) (pss_cons (ps_set (i := 8) nd rfl (Or.inl rfl) (pe_slice (sl_tupFK' (K := K) rfl) (pv 8) (po_some pe_int) po_none)) (pss_one (ps_set (i := 9) nd rfl (Or.inl rfl) (pe_cal c_law_free hr (pa_cons (pv 1) (pa_cons (pv 5) (pa_cons (pv 8) (pa_cons pe_int pa_nil)))))))) pss_nil) (pss_cons (ps_set (i := 10) nd rfl (Or.inl rfl) (pe_cal c_written_price hr (pa_cons (pv 7) (pa_cons (pv 9) (pa_cons (pv 8) pa_nil))))) (pss_cons (ps_if (PW.pt (pw_or (pt_not (pt_val (pe_bI T.f_isinstance call_isi (pa_cons (pv 10) (pa_cons (pe_gR T.g_Price) pa_nil))))) (pw_or (pt_cmpR op_ne (pe_fldK (K := K) rfl (pv 10) rfl) (pe_b_len T.f_len call_len_seq (pa_cons (pv 9) pa_nil)) (nomark _)) (pw_or1 (pt_not (pt_val (pe_cal c_law_is hr (pa_cons (pe_tup (pa_cons (pe_fldK (K := K) rfl (pv 10) rfl) (pa_cons (pe_fldK (K := K) rfl (pv 10) rfl) pa_nil))) (pa_cons (pv 2) pa_nil))))))))) (pss_one (ps_ret pe_bl)) pss_nil) (pss_cons (ps_set (i := 12) nd rfl (Or.inl rfl) (pe_b_tuple T.f_tuple call_tuple_of (pa_cons (pe_lc (own := [("_law_cell", 11)]) rfl nd (pi_tupK (K := K) rfl (pv 9)) (blkOk_by (own := [("_law_cell", 11)]) (N := nN_law) (sc := defScope s_law) (by decide +kernel)) (fun _ _ _ _ _ => (pg_name (i := 11) nd rfl (Or.inl rfl))) (fun _ _ _ _ _ => pts_nil) (fun _ _ _ _ _ => (pe_cal c_law_take hr (pa_cons (pv 1) (pa_cons pe_int pa_nil))))) pa_nil))) (pss_cons (ps_set (i := 13) nd rfl (Or.inr rfl) (pe_b_dict T.f_dict (call_dictT rfl) (pa_cons (pv 8) pa_nil))) (pss_cons (ps_for PassesOwn.never rfl (pi_zipX (by rfl) T.f_zip (pa_cons (pv 9) (pa_cons (pv 12) pa_nil))) (pg_tupK (n := 2) (K := K) rfl rfl (pgs_cons (pg_name (i := 11) nd rfl (Or.inl rfl)) (pgs_cons (pg_name (i := 14) nd rfl (Or.inl rfl)) pgs_nil))) (pss_one (ps_dput hu (pv 13) (pv 11) (pv 14) rfl))) (pss_cons (ps_set (i := 15) nd rfl (Or.inl rfl) (pe_b_tuple T.f_tuple call_tuple_of (pa_cons (pe_lc (own := [("_law_cell", 11)]) rfl nd (pi_range1 rfl T.f_range (pa_cons (pv 5) pa_nil)) (blkOk_by (own := [("_law_cell", 11)]) (N := nN_law) (sc := defScope s_law) (by decide +kernel)) (fun _ _ _ _ _ => (pg_name (i := 11) nd rfl (Or.inl rfl))) (fun _ _ _ _ _ => pts_one (pt_cmp (pc_din hu (pv 11) (pv 13)) rfl)) (fun _ _ _ _ _ => (pe_tup (pa_cons (pv 11) (pa_cons (pe_dget hu (pv 13) (pv 11) (fun _ _ => rfl)) pa_nil))))) pa_nil))) (pss_cons (ps_set (i := 18) nd rfl (Or.inl rfl) (pe_b_min T.f_min (cr_min rfl) (pa_cons (pe_lc (own := [("_law_filling", 16), ("_law_total_here", 17)]) rfl nd (pi_listK (K := K) rfl (pe_cal c_law_totals hr (pa_cons (pv 4) (pa_cons (pv 5) (pa_cons (pv 6) (pa_cons (pv 15) pa_nil)))))) (blkOk_by (own := [("_law_filling", 16), ("_law_total_here", 17)]) (N := nN_law) (sc := defScope s_law) (by decide +kernel)) (fun _ _ _ _ _ => (pg_tupK (n := 2) (K := K) rfl rfl (pgs_cons (pg_name (i := 16) nd rfl (Or.inl rfl)) (pgs_cons (pg_name (i := 17) nd rfl (Or.inl rfl)) pgs_nil)))) (fun _ _ _ _ _ => pts_nil) (fun _ _ _ _ _ => (pe_b_int T.f_int call_int1 (pa_cons (pv 17) pa_nil)))) pa_nil))) (pss_one (ps_ret (pe_cmpR op_eq (pe_b_repr T.f_repr SkE.call_repr_int (pa_cons (pe_ix (ix_tupK (K := K) rfl) (pe_fldK (K := K) rfl (pv 10) rfl) (pe_cal c_law_at hr (pa_cons (pv 12) pa_nil)) (fun _ _ => rfl)) pa_nil)) (pe_b_repr T.f_repr SkE.call_repr_int (pa_cons (pv 18) pa_nil)) (nomark _))))))))))))))))))))), ?_⟩
  refine seq_gen fun P hP => ?_
  walk_at "st"
  refine ⟨sc, ns, 260, rfl, hsc, hns, by decide, fun d ds H1 e1 hd => ⟨by decide, fun a ha => hP _ _ ?_⟩⟩
  clear hP P
  have hd2 := Ex.new (o := .lst [V.ref d, V.int 0]) ha _ _ hd
  have ha2 : (upd H1 a (.lst [V.ref d, V.int 0])) a = some (.lst [V.ref d, V.int 0]) := upd_same
  generalize upd H1 a (.lst [V.ref d, V.int 0]) = H2 at hd2 ha2 ⊢
  have hh : Hd a d ds H2 := ⟨⟨0, Int.le_refl _, ha2⟩, hd2⟩
  clear hd2 ha2 ha e1 hd hsc
  refine seq_gen fun P hP => ?_
  walk_at "st"
  refine ⟨by decide, fun z0 hz0 => take_of (by decide) (hh.up (Ex.new hz0)) fun k H3 k0 k1 x3 => ?_⟩
  have hq3 := x3.1 _ _ (hh.at_ hz0) upd_same
  have hh3 := (hh.up (Ex.new hz0)).x x3
  obtain ⟨w, hw, hw5⟩ : ∃ w : Str, ([V.str "all no", V.str "all yes", V.str "bent", V.str "rising", V.str "falling"] : List V)[k.toNat]? = some (.str w) ∧ W5 w := by
    have hk : k = 0 ∨ k = 1 ∨ k = 2 ∨ k = 3 ∨ k = 4 := by omega
    rcases hk with rfl | rfl | rfl | rfl | rfl
    · exact ⟨_, rfl, .inl rfl⟩
    · exact ⟨_, rfl, .inr (.inl rfl)⟩
    · exact ⟨_, rfl, .inr (.inr (.inl rfl))⟩
    · exact ⟨_, rfl, .inr (.inr (.inr (.inl rfl)))⟩
    · exact ⟨_, rfl, .inr (.inr (.inr (.inr rfl)))⟩
  refine ixL (sq_l hq3) k0 hw (hP _ _ ?_)
  clear hP P hq3 x3 hz0 hh hw k0 k1
  refine seq_gen fun P hP => ?_
  walk_at "st"
  refine take_of (by decide) hh3 fun k H4 k0 k1 x4 => ⟨k, rfl, by omega, by omega, ?_⟩
  have hh4 := hh3.x x4
  refine lc_take (f := fun (k : Nat) => rI (k : Int)) (xs := List.range (1 + k).toNat) (rb := rPl) hh4 (fun p => PrOk p ∧ BdP p ∧ KindP p w) wk_rng0 (by rw [List.length_range]; omega) (fun _ => rfl) ?_ ?_
  · rintro v H5 K1 h5 hK
    walk_at "st"
    exact ⟨a, d, ds, w, rfl, hw5, hh4.x h5, fun p v H6 p1 p2 p3 x6 hv => hK p _ _ ⟨p1, p2, p3⟩ x6 hv⟩
  rintro B H5 book nBa hBn x5 hbl hbk hrb
  rw [List.length_range] at hbl
  obtain ⟨_, us, hz, hB5, alb⟩ := hrb
  cases hz
  have hh5 := hh4.x x5
  refine hP _ _ ?_
  clear hP P
  have hBk : BkOk book := ⟨by omega, by omega, fun p hp => (hbk p hp).1⟩
  refine seq_gen fun P hP => ?_
  walk_at "st"
  refine take_of (by decide) hh5 fun kc H6 c0 c1 x6 => ?_
  obtain ⟨n, hn, n3, n8⟩ : ∃ n : Nat, 3 + kc = (n : Int) ∧ 3 ≤ n ∧ n ≤ 8 := ⟨(3 + kc).toNat, by omega, by omega, by omega⟩
  refine ⟨kc, rfl, hP _ _ ?_⟩
  rw [hn]
  clear hP P
  have hh6 := hh5.x x6
  have hB6 := x6.1 _ _ nBa hB5
  have alb6 := alb.upZ (hh5.zx x6)
  refine seq_gen fun P hP => ?_
  walk_at "st"
  refine take_of (by decide) hh6 fun km H7 m0 m1 x7 => ⟨km, rfl, ?_⟩
  have hh7 := hh6.x x7
  obtain ⟨m, hm, mb⟩ : ∃ m : Nat, 1 + km = (m : Int) ∧ m ≤ 6 := ⟨(1 + km).toNat, by omega, by omega⟩
  rw [hm]
  refine ⟨a, B, d, ds, us, book, n, m, rfl, hh7, nBa, x7.1 _ _ nBa hB6, alb6.upZ (hh6.zx x7), hBk, by omega, by omega, fun ts tv H8 htl hts x8 hTv => hP _ _ ?_⟩
  clear hP P
  have hh8 := hh7.x x8
  have hB8 := x8.1 _ _ nBa (x7.1 _ _ nBa hB6)
  have alb8 := (alb6.upZ (hh6.zx x7)).upZ (hh7.zx x8)
  obtain ⟨z, hzb, hzn, hzt⟩ : ∃ z : Pz, z.book = book ∧ z.n = n ∧ z.ties = ts := ⟨⟨book, n, ts⟩, rfl, rfl, rfl⟩
  have hz : PzOk z := ⟨by rw [hzb]; exact hBk, by omega, by rw [hzt]; omega, by rw [hzt, hzb, hzn]; exact hts⟩
  have hk : ∀ p ∈ z.book, KindP p w := fun p hp => (hbk p (by rw [← hzb]; exact hp)).2.2
  have hbd : ∀ p ∈ z.book, BdP p := fun p hp => (hbk p (by rw [← hzb]; exact hp)).2.1
  subst hzb hzn hzt
  clear hbk hBk hts htl hBn hbl
  clear x8 x7 x6 x5 x4 alb alb6 hB5 hB6 hh3 hh4 hh5 hh6 hh7
  refine seq_gen fun P hP => ?_
  walk_at "st"
  refine ⟨_, ⟨_, z.book, rfl, ⟨B, us, rfl, hB8, alb8⟩, hz.1, rfl⟩, fun bv H9 e9 hbv => ?_⟩
  refine mk_Puzzle (Q := fun pv H' => P [some (.ref sc), some (.ref a), some (.str w), none, some (.ref B), some (.int (z.n : Int)), some tv, some pv, none, none, none, none, none, none, none, none, none, none, none] H') hbv (Mo.up e9 hTv) hz fun pv H10 e10 hpv => hP _ _ ?_
  clear hP P
  have e810 := e9.tr e10
  have hh10 := hh8.up e810
  have hB10 := e810 _ _ hB8
  have alb10 := alb8.up e810
  have hT10 := Mo.up e810 hTv
  clear e810 e10 e9 hbv hB8 alb8 hTv hh8
  refine seq_gen fun P hP => ?_
  walk_at "st"
  refine fun l0 o0 ho0 hl0 => hP _ _ ?_
  clear hP P
  have e11 := Ex.new (o := .frz o0 (.tup [])) hl0
  have hs11 : rFr rPp [] (upd H10 l0 (.frz o0 (.tup []))) (.ref l0) := ⟨l0, o0, [], rfl, upd_same, ho0, .nil⟩
  generalize upd H10 l0 (.frz o0 (.tup [])) = H11 at e11 hs11 ⊢
  have S11 : LSt K a d B ds us z tv pv H11 := ⟨hh10.up e11, e11 _ _ hB10, alb10.up e11, Mo.up e11 hT10, Mo.up e11 hpv⟩
  clear e11 hpv hT10 alb10 hB10 hh10
  refine seq_gen fun P hP => ?_
  have next : ∀ (H12 : Hp) (y : V) (st : List (Int × Int)), LSt K a d B ds us z tv pv H12 → rFr rPp st H12 y → StOk z.n st → (w = "all no" ∨ w = "all yes" → st = []) → P [some (.ref sc), some (.ref a), some (.str w), none, some (.ref B), some (.int (z.n : Int)), some tv, some pv, some y, none, none, none, none, none, none, none, none, none, none] H12 := fun H12 y st S12 hy hst h0 => by
    refine hP _ _ ?_
    clear hP P hs11 S11
    refine seq_gen fun P hP => ?_
    walk_at "st"
    refine take_of (by decide) S12.hh fun k H13 k0 k1 x13 => ⟨k, rfl, ?_⟩
    have S13 := S12.hx nBa x13
    have hy13 := Iz.upZ (S12.hh.zx x13) hy
    obtain ⟨m2, hm2, m20, m23⟩ : ∃ m : Nat, 1 + k = (m : Int) ∧ 1 ≤ m ∧ m ≤ 3 := ⟨(1 + k).toNat, by omega, by omega, by omega⟩
    rw [hm2]
    refine ⟨a, d, ds, y, z.n, m2, st, rfl, S13.hh, hy13, hst, hz.2.1, m20, m23, fun cs cv H14 cnd cfr cl ce x14 hcv => hP _ _ ?_⟩
    clear hP P
    have S14 := S13.hx nBa x14
    have hy14 := Iz.upZ (S13.hh.zx x14) hy13
    refine seq_gen fun P hP => ?_
    have next : ∀ (H15 : Hp) (y cv : V) (st : List (Int × Int)) (cs : List Int), LSt K a d B ds us z tv pv H15 → rFr rPp st H15 y → StOk z.n st → FreeOk z.n st cs → (w = "all no" ∨ w = "all yes" → st = []) → rIs cs H15 cv → P [some (.ref sc), some (.ref a), some (.str w), none, some (.ref B), some (.int (z.n : Int)), some tv, some pv, some y, some cv, none, none, none, none, none, none, none, none, none] H15 := fun H15 y cv st cs S15 hy hst hf h0 hcw => by
      refine hP _ _ ?_
      clear hP P hy14 S14 hcv x14 hy13 S13 x13 S12
      refine seq_gen fun P hP => ?_
      walk_at "st"
      refine ⟨_, ⟨pv, y, cv, z, st, cs, rfl, S15.hp, hz, hy, hst, hcw, hf, rfl⟩, fun prv H16 e16 hpr => hP _ _ ?_⟩
      clear hP P
      obtain ⟨p, hw, hpr⟩ := hpr
      have S16 := S15.ex e16
      have hy16 := Mo.up e16 hy
      have hcv16 := Mo.up e16 hcw
      have hkp := written_kind hz hst hf hw hk h0
      clear hcw hy S15
      obtain ⟨pa, pdx, am, rfl, hpa, ham⟩ := id hpr
      obtain ⟨ca, rfl, hca⟩ := hcv16.of
      refine seq_gen fun P hP => ?_
      walk_at "st"
      refine isi_own T.s_Price hpa ⟨true, rfl, ?_⟩
      rw [if_neg (by simp)]
      refine ⟨_, _, _, hpa, T.c_Price, T.n_Price_size, _, rfl, _, .inr (sq_t hca), rfl, ?_⟩
      rw [ints_len, if_neg (by rw [hw.1]; simp)]
      refine ⟨_, _, _, hpa, T.c_Price, T.n_Price_size, _, rfl, _, _, _, hpa, T.c_Price, T.n_Price_amounts, _, rfl, by decide, fun tp htp => ?_⟩
      have e17 := Ex.new (o := .tup [V.int (p.1 : Int), am]) htp
      refine ⟨_, ⟨.ref tp, p, w, rfl, ⟨tp, _, _, rfl, upd_same, rfl, Mo.up e17 ham⟩, hw.2.1, hkp, rfl⟩, fun v H18 e18 hv => ?_⟩
      cases hv
      refine ⟨_, rfl, ?_⟩
      rw [if_neg (by simp)]
      refine hP _ _ ?_
      clear hP P
      have e618 := e17.tr e18
      have S18 := S16.ex e618
      have hy18 := Mo.up e618 hy16
      have hpr18 := Mo.up e618 hpr
      have hca18 := e618 _ _ hca
      clear hpr hpa ham hca hy16 S16 e17 e18 e618 htp
      have nca : ca ≠ a := by
        obtain ⟨⟨_, _, h⟩, _⟩ := S18.hh
        exact ne_of hca18 h (fun z => nomatch z)
      have hf3 := hf.2.1
      refine seq_gen fun P hP => ?_
      walk_at "st"
      refine ⟨⟨_, sq_t hca18⟩, ?_⟩
      refine lc_take (f := rI) (xs := cs) (rb := rI) S18.hh (fun c => 0 ≤ c ∧ c < 2) (wk_tup fun H' g => ⟨_, sq_t (g.1 _ _ nca hca18), ints_al cs⟩) (by omega) (fun _ => rfl) ?_ ?_
      · rintro v H4 K1 h4 hK
        walk_at "st"
        exact take_of (by decide) (S18.hh.x h4) fun c H5 c0 c1 h5 => hK c _ _ ⟨c0, c1⟩ h5 rfl
      rintro l H19 row nla hln x19 hrl hrv hrr
      obtain ⟨_, ws, hz', hl19, alr⟩ := hrr
      cases hz'
      rw [al_ints alr] at hl19
      have hrow : Row row cs.length := ⟨hrl, fun v hv => by have := hrv v hv; omega⟩
      have S19 := S18.hx nBa x19
      have hy19 := Iz.upZ (S18.hh.zx x19) hy18
      have hpr19 := Iz.upZ (S18.hh.zx x19) hpr18
      have hca19 := x19.1 _ _ nca hca18
      refine ⟨l, rfl, _, .inl ⟨sq_l hl19, fun ra hra => hP _ _ ?_⟩⟩
      clear hP P
      have e20 := Ex.new (o := .tup (row.map V.int)) hra
      have hra20 : (upd H19 ra (.tup (row.map V.int))) ra = some (.tup (row.map V.int)) := upd_same
      generalize upd H19 ra (.tup (row.map V.int)) = H20 at e20 hra20 ⊢
      have S20 := S19.ex e20
      have hy20 := Mo.up e20 hy19
      have hpr20 := Mo.up e20 hpr19
      have hca20 := e20 _ _ hca19
      clear hpr19 hpr18 hy18 hy19 S18 S19 hca18 hca19 e20 x19 hl19 alr hra
      obtain ⟨ya, yo, ss, rfl, hya, hyd, als⟩ := id hy20
      refine seq_gen fun P hP => ?_
      walk_at "st"
      obtain ⟨qs, e1', p1⟩ := paired_st (K := K) als
      refine ⟨qs, ⟨yo, by rw [← e1']; exact hya, hyd⟩, dk st, p1, fun Tt hTt => hP _ _ ?_⟩
      clear hP P
      have em : mergeK [] (dk st) = dk st := mergeK_dk st [] (by simpa using st_nodup hst)
      rw [em]
      have e21 := Ex.new (o := .dK (dk st)) hTt
      have hT21 : (upd H20 Tt (.dK (dk st))) Tt = some (.dK (dk st)) := upd_same
      generalize upd H20 Tt (.dK (dk st)) = H21 at e21 hT21 ⊢
      have hnT : H20 Tt = none := hTt
      clear hTt
      refine seq_gen fun P hP => ?_
      walk_at "st"
      refine .inr (.inl ⟨⟨_, sq_t (e21 _ _ hca20)⟩, ⟨_, sq_t (e21 _ _ hra20)⟩, ?_⟩)
      have nTc : ca ≠ Tt := ne_of_none hca20 hnT
      have nTr : ra ≠ Tt := ne_of_none hra20 hnT
      refine for_gen (G := fun H' => But Tt H21 H') (wk_zipT (f := rI) (g := rI) (xs := cs) (ys := row) fun H' g => ⟨_, _, sq_t (g _ _ nTc (e21 _ _ hca20)), sq_t (g _ _ nTr (e21 _ _ hra20)), ints_al cs, ints_al row⟩) (fun i σ' H' => But Tt H21 H' ∧ ∃ x11 x14 : Option V, σ' = [some (.ref sc), some (.ref a), some (.str w), none, some (.ref B), some (.int (z.n : Int)), some tv, some pv, some (.ref ya), some (.ref ca), some (.ref pa), x11, some (.ref ra), some (.ref Tt), x14, none, none, none, none] ∧ H' Tt = some (.dK (dk (st ++ (cs.zip row).take i)))) ⟨But.rf _ _, _, _, rfl, by rw [List.take_zero, List.append_nil]; exact hT21⟩ (fun _ _ _ _ h => h.1) ?_ ?_
      · rintro i pp v σ' H22 H23 hi ⟨b22, x11, x14, rfl, hT22⟩ e23 ⟨t, y1, y2, rfl, ht, h1, h2⟩
        cases h1
        cases h2
        walk_at "st"
        refine ⟨_, sq_t ht, rfl, ?_⟩
        walk_at "st"
        have hg : gt (st ++ (cs.zip row).take i) pp.1 = none := by
          rw [gt_app, (hf.2.2.2 pp.1 (List.of_mem_zip (List.mem_of_getElem? hi)).1).2.2, gt_zip_take hf.2.2.1 hrow.1.symm hi] <;> rfl
        have hln : (st ++ (cs.zip row).take i).length ≤ 100000 := by
          have g1 := st_len hst
          have g2 := List.length_take_le i (cs.zip row)
          have g3 : (cs.zip row).length ≤ 3 := by rw [List.length_zip]; omega
          have g4 := (List.getElem?_eq_some_iff.mp hi).1
          rw [List.length_append]
          omega
        have hdp := dput_k (e23 _ _ hT22) pp.1 pp.2 hln
        rw [pt_new _ hg] at hdp
        refine ⟨_, hdp, (b22.tr e23.but).tr But.mut, ?_⟩
        rw [upd_same, List.take_add_one, hi, ← List.append_assoc] <;> rfl
      · rintro σ' H22 ⟨b22, x11, x14, rfl, hT22⟩
        rw [List.take_length] at hT22
        refine hP _ _ ?_
        clear hP P
        have nTH := hnT
        have S22 : LSt K a d B ds us z tv pv H22 := by
          have e : Ex H20 H22 := But.ex e21 b22 hnT
          exact S20.ex e
        have e2022 : Ex H20 H22 := But.ex e21 b22 hnT
        have hpr22 := Mo.up e2022 hpr20
        have hra22 := e2022 _ _ hra20
        clear b22 e21 hT21 S20 hpr20 hca20 hra20 hnT nTH e2022 hyd hya als hy20 p1 e1'
        refine seq_gen fun P hP => ?_
        walk_at "st"
        refine ⟨by omega, by omega, ?_⟩
        rw [Int.toNat_natCast]
        refine lc_gen (f := fun (k : Nat) => rI (k : Int)) (xs := List.range z.n) (rb := rPp) (F := fun (k : Nat) => (gt (st ++ cs.zip row) (k : Int)).map fun v => ((k : Int), v)) wk_rng0 (by rw [List.length_range]; omega) ?_ ?_
        · rintro i k v H' K1 K2 hi e1 hv k1 k2
          cases hv
          walk_at "st"
          have hdg := dget_k (e1 _ _ hT22) (k : Int)
          refine ⟨_, hdg, ?_⟩
          cases hg : gt (st ++ cs.zip row) (k : Int) with
          | none => exact k2 _ (by show Option.map _ _ = _; rw [hg]; rfl) (Ex.rf _)
          | some v =>
            rw [hg] at hdg
            exact ⟨.int v, hdg, by decide, fun t ht => k1 ((k : Int), v) _ _ (by show Option.map _ _ = _; rw [hg]; rfl) (Ex.new ht) ⟨t, _, _, rfl, upd_same, rfl, rfl⟩⟩
        · rintro Ml H23 hMl e23 hrM
          obtain ⟨_, mss, hz', hM23, alM⟩ := hrM
          cases hz'
          refine ⟨Ml, rfl, mss, .inl ⟨sq_l hM23, fun ma hma => hP _ _ ?_⟩⟩
          clear hP P
          have e24 := Ex.new (o := .tup mss) hma
          have hma24 : (upd H23 ma (.tup mss)) ma = some (.tup mss) := upd_same
          have al24 : Al (fun w p => rPp p (upd H23 ma (.tup mss)) w) mss (mosts (st ++ cs.zip row) z.n) := alM.up e24
          generalize upd H23 ma (.tup mss) = H24 at e24 hma24 al24 ⊢
          have e2224 := e23.tr e24
          have S24 := S22.ex e2224
          have hpr24 := Mo.up e2224 hpr22
          have hra24 := e2224 _ _ hra22
          clear alM hM23 e23 e24 e2224 hma S22 hpr22 hra22 hT22 hMl
          refine seq_gen fun P hP => ?_
          walk_at "st"
          have hml : (mosts (st ++ cs.zip row) z.n).length ≤ 100 := Nat.le_trans (List.length_filterMap_le _ _) (by rw [List.length_range]; omega)
          refine ⟨.ref B, tv, .ref ma, z, mosts (st ++ cs.zip row) z.n, rfl, ⟨B, us, rfl, S24.hB, S24.al⟩, S24.hT, hz, ⟨ma, mss, rfl, hma24, al24⟩, fun p hp => ⟨(mem_mosts.mp hp).1, (mem_mosts.mp hp).2.1⟩, hml, fun v H25 e25 hv => ?_⟩
          obtain ⟨va, vs, rfl, hva, alv⟩ := hv
          obtain ⟨⟨f, f1, f2, f3⟩, hleast⟩ := wr_least hst hw hrow
          have hfm : (f, total z f) ∈ totL z (mosts (st ++ cs.zip row) z.n) := List.mem_map.mpr ⟨f, List.mem_filter.mpr ⟨mem_rows _ _ f1, (keeps_mosts hst hf hrow f1).mpr f2⟩, rfl⟩
          have htl : (totL z (mosts (st ++ cs.zip row) z.n)).length ≤ 256 := by
            unfold totL
            rw [List.length_map]
            exact Nat.le_trans (List.length_filter_le _ _) (rows_lenB n8)
          refine ⟨va, rfl, ⟨_, sq_l hva⟩, ?_⟩
          refine lc_map (f := rRt) (xs := totL z (mosts (st ++ cs.zip row) z.n)) (rb := rI) (F := fun p => p.2) (wk_lst fun H' g => ⟨vs, sq_l (g _ _ hva), alv.up g⟩) (by omega) ?_ ?_ gm_pair
          · rintro i pp v H' K1 hi e1 ⟨t, y1, y2, rfl, ht, h1, h2⟩ hK
            cases h2
            walk_at "st"
            refine ⟨_, sq_t ht, rfl, ?_⟩
            walk_at "st"
            exact .inl (hK _ _ (Ex.rf _) rfl)
          rintro c6 H26 hc6 e26 hr6
          obtain ⟨_, ws6, hz', hc26, al6⟩ := hr6
          cases hz'
          rw [al_ints al6] at hc26
          walk_at "st"
          refine ⟨c6, _, rfl, sq_l hc26, List.length_pos_of_mem (List.mem_map.mpr ⟨_, hfm, rfl⟩), fun m hm hmin => hP _ _ ?_⟩
          clear hP P
          have hmc : m = cost p row := by
            have g1 := hmin _ (List.mem_map.mpr ⟨_, hfm, rfl⟩)
            obtain ⟨q, hq, rfl⟩ := List.mem_map.mp hm
            obtain ⟨r, hr, rfl⟩ := List.mem_map.mp hq
            obtain ⟨r1, r2⟩ := List.mem_filter.mp hr
            have r3 := rows_row _ r r1
            have g2 := hleast r r3 ((keeps_mosts hst hf hrow r3).mp r2)
            dsimp only at g1 ⊢
            omega
          subst hmc
          have hbc := total_bd hz hbd f
          rw [f3] at hbc
          have e2426 := e25.tr e26
          obtain ⟨_, pdx, am, hpe, hpa, ham⟩ := Mo.up e2426 hpr24
          cases hpe
          obtain ⟨ama, rfl, hama⟩ := ham.of
          have hra26 := e2426 _ _ hra24
          walk_at "st"
          have hrp : Row row p.1 := row_of hw.1.symm hrow
          refine ⟨_, _, _, hpa, T.c_Price, T.n_Price_amounts, _, rfl, _, ⟨ra, row, rfl, .inr hra26, rfl⟩, ?_⟩
          refine ixT (sq_t hama) (num_bound _ _ hrp).1 (map_at (cost_get hw.2.1 hrp)) ⟨_, rfl, log_small hbc.1 hbc.2, log_small hbc.1 hbc.2, rfl, ?_⟩
          rw [decide_eq_true rfl]
          exact q _
    obtain ⟨ca, rfl, hca⟩ := hcv.of
    obtain ⟨ya, yo, ss, rfl, hya, hyd, als⟩ := id hy14
    walk_at "st"
    refine ⟨_, .inr (sq_t hca), rfl, ?_⟩
    rw [ints_len]
    by_cases hc0 : (cs.length : Int) = 0
    · rw [if_pos hc0]
      have full := ce (List.eq_nil_of_length_eq_zero (by omega))
      cases st with
      | nil => exact absurd rfl (full 0 (by omega) (by omega))
      | cons p st' =>
        cases als with
        | cons hu0 als' =>
          have pw := List.pairwise_cons.mp hst.1
          refine ⟨ya, _, rfl, sq_f hya, ?_, fun pp oo hoo hpp => ?_⟩
          · rintro ⟨g, _⟩
            rw [show (1 : Int) = ((1 : Nat) : Int) from rfl, HT.sIx_nat, List.length_cons] at g
            omega
          rw [show (1 : Int) = ((0 : Nat) : Int) + 1 from rfl, cut_from] at *
          rename_i u0 us'
          have e15 := Ex.new (o := .frz oo (.tup (List.drop (0 + 1) (u0 :: us')))) hpp
          have S15 := S14.ex e15
          have hst' : StOk z.n st' := ⟨pw.2, fun q hq => hst.2 q (.tail _ hq)⟩
          have hy15 : rFr rPp st' (upd H14 pp (.frz oo (.tup (List.drop (0 + 1) (u0 :: us'))))) (.ref pp) := ⟨pp, oo, us', rfl, upd_same, hoo, als'.up e15⟩
          refine ⟨a, d, ds, .ref pp, z.n, 1, st', rfl, S15.hh, hy15, hst', hz.2.1, by decide, by decide, fun cs' cv' H16 cnd' cfr' cl' ce' x16 hcv' => next _ _ _ st' cs' (S15.hx nBa x16) (Iz.upZ (S15.hh.zx x16) hy15) hst' ⟨?_, by omega, cnd', cfr'⟩ (fun h => absurd (h0 h) (by simp)) hcv'⟩
          cases hcs : cs' with
          | cons c l => rw [List.length_cons]; omega
          | nil =>
            have hp0 := hst.2 p (.head _)
            refine absurd ?_ (ce' hcs p.1 hp0.1 hp0.2.1)
            cases hg : gt st' p.1 with
            | none => rfl
            | some v =>
              have := pw.1 _ (gt_mem hg)
              dsimp only at this
              omega
    · rw [if_neg hc0]
      exact next _ _ _ st cs S14 ⟨ya, yo, ss, rfl, hya, hyd, als⟩ hst ⟨by omega, by omega, cnd, cfr⟩ h0 (rIs.mk hca)
  walk_at "st"
  refine ⟨by decide, fun p hp => ?_⟩
  have e12 := Ex.new (o := .lst [V.str "all no", V.str "all yes"]) hp
  refine ⟨p, _, rfl, .inl (sq_l upd_same), rfl, rfl, _, rfl, ?_⟩
  have S12 := S11.ex e12
  by_cases hw2 : w = "all no" ∨ w = "all yes"
  · rw [if_neg (by rcases hw2 with e | e <;> subst e <;> decide +kernel)]
    exact next _ _ [] S12 (Mo.up e12 hs11) ⟨.nil, fun _ h => nomatch h⟩ fun _ => rfl
  · rw [if_pos (by
      rcases hw5 with e | e | e | e | e
      · exact absurd (.inl e) hw2
      · exact absurd (.inr e) hw2
      · subst e; decide +kernel
      · subst e; decide +kernel
      · subst e; decide +kernel)]
    refine take_of (by decide) S12.hh fun k H13 k0 k1 x13 => ⟨k, rfl, ?_⟩
    have S13 := S12.hx nBa x13
    split
    · exact ⟨a, d, ds, z.n, 3, rfl, S13.hh, by omega, by decide, fun st v H14 hst x14 hv => next _ _ st (S13.hx nBa x14) hv hst fun h => absurd h hw2⟩
    · exact next _ _ [] S13 (Iz.upZ (S12.hh.zx x13) (Mo.up e12 hs11)) ⟨.nil, fun _ h => nomatch h⟩ fun _ => rfl
end Cut
end

section
set_option maxHeartbeats 4000000
namespace Cut
open PySem PySem.W PySem.Spec PyProof.Rows L2
theorem insB_ok {K : PySem.W.Frag} {x : Str} (h : insB K x = true) (c : Cls K (He.ga K x)) : C8.InsC K (He.ga K x) := by
  unfold insB at h
  obtain ⟨h, h5⟩ := He.ba h
  obtain ⟨h, h4⟩ := He.ba h
  obtain ⟨h, h3⟩ := He.ba h
  obtain ⟨h1, h2⟩ := He.ba h
  exact ⟨c, He.eqO_ok h1, He.eqO_ok h2, of_decide_eq_true h3, of_decide_eq_true h4, of_decide_eq_true h5⟩
theorem gg_of {w : World} {K : PySem.W.Frag} {h : Heap} {mg : Str → Option Value} (X : K.In h) (G : h.Ns mainGlobals mg) (c : SaysY w K) : GG K w mg := by
  have cd := c.1.d
  have ce : (((((He.tupB K "FREE_KINDS" [.str "all no", .str "all yes", .str "bent"] && He.tupB K "FIXED_KINDS" [.str "rising", .str "falling", .str "bent"]) && He.tupB K "KINDS" [.str "all no", .str "all yes", .str "bent", .str "rising", .str "falling"]) && He.valsB K (He.ga K "KIND_VALUES") kvs) && insB K "Price") && insB K "Book") = true := c.2
  obtain ⟨ce, c6⟩ := He.ba ce
  obtain ⟨ce, c5⟩ := He.ba ce
  obtain ⟨ce, c4⟩ := He.ba ce
  obtain ⟨ce, c3⟩ := He.ba ce
  obtain ⟨c1, c2⟩ := He.ba ce
  have kv : ∀ (x : Str) (i : Int), (x, He.Dv.int i) ∈ kvs → ∃ t, PySem.W.nsIn K (He.ga K "KIND_VALUES") x = some (some (.int i t)) := fun x i hx => by
    obtain ⟨u, hu, t, rfl⟩ := He.valsB_ok c4 hx
    exact ⟨t, hu⟩
  exact {
    f_len := He.free_ok X G (cd.fact 115),
    f_range := He.free_ok X G (cd.fact 116),
    f_isinstance := He.free_ok X G (cd.fact 117),
    f_tuple := He.free_ok X G (cd.fact 118),
    f_list := He.free_ok X G (cd.fact 119),
    f_int := He.free_ok X G (cd.fact 120),
    f_bool := He.free_ok X G (cd.fact 121),
    f_dict := He.free_ok X G (cd.fact 122),
    f_set := He.free_ok X G (cd.fact 123),
    f_sorted := He.free_ok X G (cd.fact 124),
    f_zip := He.free_ok X G (cd.fact 125),
    f_enumerate := He.free_ok X G (cd.fact 126),
    f_sum := He.free_ok X G (cd.fact 127),
    f_min := He.free_ok X G (cd.fact 128),
    f_max := He.free_ok X G (cd.fact 129),
    f_any := He.free_ok X G (cd.fact 130),
    f_all := He.free_ok X G (cd.fact 131),
    f_abs := He.free_ok X G (cd.fact 132),
    f_repr := He.free_ok X G (cd.fact 133),
    i_MOST_SIZE := He.int_ok X G (cd.fact 104),
    i_MOST_PRICES := He.int_ok X G (cd.fact 105),
    i_MOST_LETTERS := He.int_ok X G (cd.fact 106),
    i_YES_END := He.int_ok X G (cd.fact 107),
    i_NO_END := He.int_ok X G (cd.fact 108),
    i_FIRST_LETTER := He.int_ok X G (cd.fact 109),
    i_MOST_CELLS := He.int_ok X G (cd.fact 110),
    g_FREE_KINDS := He.glo_ok X G (cd.fact 111),
    t_FREE_KINDS := fun H => He.tupB_ok c1 H,
    g_FIXED_KINDS := He.glo_ok X G (cd.fact 112),
    t_FIXED_KINDS := fun H => He.tupB_ok c2 H,
    g_KINDS := He.glo_ok X G (cd.fact 113),
    t_KINDS := fun H => He.tupB_ok c3 H,
    g_KIND_VALUES := He.glo_ok X G (cd.fact 114),
    d_KIND_VALUES := c.1.tab 0,
    k_an := kv "all no" 0 (by unfold kvs; simp),
    k_ri := kv "rising" 0 (by unfold kvs; simp),
    k_ay := kv "all yes" 1 (by unfold kvs; simp),
    k_fa := kv "falling" 1 (by unfold kvs; simp),
    g_Price := He.glo_ok X G (cd.fact 64),
    c_Price := He.cls_ok (cd.fact (f := .cls "Price") 65),
    m_Price := He.mkr_ok (cd.fact (f := .mkr "Price") 66),
    n_Price_size := He.noat_ok (cd.fact (f := .noat "Price" "size") 67),
    n_Price_amounts := He.noat_ok (cd.fact (f := .noat "Price" "amounts") 68),
    g_Book := He.glo_ok X G (cd.fact 69),
    c_Book := He.cls_ok (cd.fact (f := .cls "Book") 70),
    m_Book := He.mkr_ok (cd.fact (f := .mkr "Book") 71),
    n_Book_prices := He.noat_ok (cd.fact (f := .noat "Book" "prices") 72),
    n_Book_plain := He.noat_ok (cd.fact (f := .noat "Book" "plain") 73),
    g_Puzzle := He.glo_ok X G (cd.fact 74),
    c_Puzzle := He.cls_ok (cd.fact (f := .cls "Puzzle") 75),
    m_Puzzle := He.mkr_ok (cd.fact (f := .mkr "Puzzle") 76),
    n_Puzzle_book := He.noat_ok (cd.fact (f := .noat "Puzzle" "book") 77),
    n_Puzzle_cell_count := He.noat_ok (cd.fact (f := .noat "Puzzle" "cell_count") 78),
    n_Puzzle_ties := He.noat_ok (cd.fact (f := .noat "Puzzle" "ties") 79),
    g_Maker := He.glo_ok X G (cd.fact 80),
    c_Maker := He.cls_ok (cd.fact (f := .cls "Maker") 81),
    m_Maker := He.mkr_ok (cd.fact (f := .mkr "Maker") 82),
    n_Maker_base := He.noat_ok (cd.fact (f := .noat "Maker" "base") 83),
    n_Maker_single := He.noat_ok (cd.fact (f := .noat "Maker" "single") 84),
    n_Maker_pairs := He.noat_ok (cd.fact (f := .noat "Maker" "pairs") 85),
    n_Maker_triples := He.noat_ok (cd.fact (f := .noat "Maker" "triples") 86),
    n_Maker_arcs := He.noat_ok (cd.fact (f := .noat "Maker" "arcs") 87),
    g_Flowing := He.glo_ok X G (cd.fact 88),
    c_Flowing := He.cls_ok (cd.fact (f := .cls "Flowing") 89),
    m_Flowing := He.mkr_ok (cd.fact (f := .mkr "Flowing") 90),
    n_Flowing_arcs := He.noat_ok (cd.fact (f := .noat "Flowing" "arcs") 91),
    n_Flowing_sent := He.noat_ok (cd.fact (f := .noat "Flowing" "sent") 92),
    n_Flowing_ways := He.noat_ok (cd.fact (f := .noat "Flowing" "ways") 93),
    s_Price := insB_ok c5 (He.cls_ok (cd.fact (f := .cls "Price") 65)),
    s_Book := insB_ok c6 (He.cls_ok (cd.fact (f := .cls "Book") 70)),
    e_Price_cost := He.meth_ok (cd.fact (f := .meth "Price" "cost") 94),
    e_Maker_put_triple := He.meth_ok (cd.fact (f := .meth "Maker" "put_triple") 95),
    e_Maker_put_pairs := He.meth_ok (cd.fact (f := .meth "Maker" "put_pairs") 96),
    e_Maker_put_singles := He.meth_ok (cd.fact (f := .meth "Maker" "put_singles") 97),
    e_Maker_network := He.meth_ok (cd.fact (f := .meth "Maker" "network") 98),
    e_Flowing_room := He.meth_ok (cd.fact (f := .meth "Flowing" "room") 99),
    e_Flowing_walk := He.meth_ok (cd.fact (f := .meth "Flowing" "walk") 100),
    e_Flowing_send := He.meth_ok (cd.fact (f := .meth "Flowing" "send") 101),
    e_Flowing_fill := He.meth_ok (cd.fact (f := .meth "Flowing" "fill") 102),
    e_Book_len := He.meth_ok (cd.fact (f := .meth "Book" "__len__") 103),
    g_is_below_prices := He.glo_ok X G (cd.fact 0),
    g_is_below_sides := He.glo_ok X G (cd.fact 1),
    g_is_integer := He.glo_ok X G (cd.fact 2),
    g_is_size := He.glo_ok X G (cd.fact 3),
    g_is_row := He.glo_ok X G (cd.fact 4),
    g_are_integers := He.glo_ok X G (cd.fact 5),
    g_number_of := He.glo_ok X G (cd.fact 6),
    g_are_prices := He.glo_ok X G (cd.fact 7),
    g_rows_of := He.glo_ok X G (cd.fact 8),
    g_and_of := He.glo_ok X G (cd.fact 9),
    g_or_of := He.glo_ok X G (cd.fact 10),
    g_has_one_more := He.glo_ok X G (cd.fact 11),
    g_shows_row := He.glo_ok X G (cd.fact 12),
    g_shows_pair := He.glo_ok X G (cd.fact 13),
    g_shown_by := He.glo_ok X G (cd.fact 14),
    g_fault_of := He.glo_ok X G (cd.fact 15),
    g_is_kind := He.glo_ok X G (cd.fact 16),
    g_free_kinds := He.glo_ok X G (cd.fact 17),
    g_fixed_kinds := He.glo_ok X G (cd.fact 18),
    g_are_cells := He.glo_ok X G (cd.fact 19),
    g_is_tie := He.glo_ok X G (cd.fact 20),
    g_is_filling := He.glo_ok X G (cd.fact 21),
    g_sum_of_ties := He.glo_ok X G (cd.fact 22),
    g_total_of := He.glo_ok X G (cd.fact 23),
    g_is_start := He.glo_ok X G (cd.fact 24),
    g_rows_with := He.glo_ok X G (cd.fact 25),
    g_all_cheapest := He.glo_ok X G (cd.fact 26),
    g_side := He.glo_ok X G (cd.fact 27),
    g_is_rising := He.glo_ok X G (cd.fact 28),
    g_is_member := He.glo_ok X G (cd.fact 29),
    g_is_sum := He.glo_ok X G (cd.fact 30),
    g_worth_at := He.glo_ok X G (cd.fact 31),
    g_sum_told := He.glo_ok X G (cd.fact 32),
    g_sum_of_price := He.glo_ok X G (cd.fact 33),
    g_letters_read := He.glo_ok X G (cd.fact 34),
    g_sum_of := He.glo_ok X G (cd.fact 35),
    g_pairs_of := He.glo_ok X G (cd.fact 36),
    g_is_bent := He.glo_ok X G (cd.fact 37),
    g_network_of := He.glo_ok X G (cd.fact 38),
    g_least_side := He.glo_ok X G (cd.fact 39),
    g_filled_with := He.glo_ok X G (cd.fact 40),
    g_bent_network := He.glo_ok X G (cd.fact 41),
    g_kind_for := He.glo_ok X G (cd.fact 42),
    g_filling_by_side := He.glo_ok X G (cd.fact 43),
    g_some_cheapest := He.glo_ok X G (cd.fact 44),
    g_least_total := He.glo_ok X G (cd.fact 45),
    g_are_free_cells := He.glo_ok X G (cd.fact 46),
    g_written_price := He.glo_ok X G (cd.fact 47),
    g_law_draws := He.glo_ok X G (cd.fact 48),
    g_law_take := He.glo_ok X G (cd.fact 49),
    g_law_rows := He.glo_ok X G (cd.fact 50),
    g_law_at := He.glo_ok X G (cd.fact 51),
    g_law_is := He.glo_ok X G (cd.fact 52),
    g_law_amount := He.glo_ok X G (cd.fact 53),
    g_law_ties := He.glo_ok X G (cd.fact 54),
    g_law_made_book := He.glo_ok X G (cd.fact 55),
    g_law_total := He.glo_ok X G (cd.fact 56),
    g_law_keeps := He.glo_ok X G (cd.fact 57),
    g_law_totals := He.glo_ok X G (cd.fact 58),
    g_law_start := He.glo_ok X G (cd.fact 59),
    g_law_free := He.glo_ok X G (cd.fact 60),
    g_law_bent := He.glo_ok X G (cd.fact 61),
    g_law_kind_price := He.glo_ok X G (cd.fact 62),
    g_law := He.glo_ok X G (cd.fact 63) }
end Cut
end

section
set_option maxHeartbeats 4000000
namespace Cut
open PySem PySem.Spec PyProof.Rows L2
theorem law_fn {P : Program} {w : World} {K : PySem.W.Frag} {h : Heap} {mg : Str → Option Value} (X : K.In h) (G : h.Ns mainGlobals mg) (c : SaysY w K) : ∃ fd, FunD K "law" "law" (defArgs s_law) (defBody s_law) (defScope s_law) [] [] (He.fAd K ("law", none)) fd ∧ ∀ base : Heap, FnOk P w K mg base CX0 15 (He.fAd K ("law", none)) fd ["_law_script"] (sp_law K) := by
  have T := gg_of X G c
  have cd := c.1.d
  obtain ⟨fd_law_at, F_law_at⟩ := cd.def_ 51 (d := d_law_at) rfl
  obtain ⟨fd_law_rows, F_law_rows⟩ := cd.def_ 50 (d := d_law_rows) rfl
  obtain ⟨fd_law_keeps, F_law_keeps⟩ := cd.def_ 57 (d := d_law_keeps) rfl
  obtain ⟨fd_law_total, F_law_total⟩ := cd.def_ 56 (d := d_law_total) rfl
  obtain ⟨fd_law_totals, F_law_totals⟩ := cd.def_ 58 (d := d_law_totals) rfl
  obtain ⟨fd_law_take, F_law_take⟩ := cd.def_ 49 (d := d_law_take) rfl
  obtain ⟨fd_law_is, F_law_is⟩ := cd.def_ 52 (d := d_law_is) rfl
  obtain ⟨fd_is_integer, F_is_integer⟩ := cd.def_ 2 (d := d_is_integer) rfl
  obtain ⟨fd_are_integers, F_are_integers⟩ := cd.def_ 5 (d := d_are_integers) rfl
  obtain ⟨fd_is_size, F_is_size⟩ := cd.def_ 3 (d := d_is_size) rfl
  obtain ⟨fd_Price_init, F_Price_init⟩ := cd.def_ 64 (d := d_Price_init) rfl
  obtain ⟨fd_rows_of, F_rows_of⟩ := cd.def_ 8 (d := d_rows_of) rfl
  obtain ⟨fd_number_of, F_number_of⟩ := cd.def_ 6 (d := d_number_of) rfl
  obtain ⟨fd_sum_of_ties, F_sum_of_ties⟩ := cd.def_ 22 (d := d_sum_of_ties) rfl
  obtain ⟨fd_is_below_prices, F_is_below_prices⟩ := cd.def_ 0 (d := d_is_below_prices) rfl
  obtain ⟨fd_is_row, F_is_row⟩ := cd.def_ 4 (d := d_is_row) rfl
  obtain ⟨fd_is_filling, F_is_filling⟩ := cd.def_ 21 (d := d_is_filling) rfl
  obtain ⟨fd_total_of, F_total_of⟩ := cd.def_ 23 (d := d_total_of) rfl
  obtain ⟨fd_rows_with, F_rows_with⟩ := cd.def_ 25 (d := d_rows_with) rfl
  obtain ⟨fd_is_start, F_is_start⟩ := cd.def_ 24 (d := d_is_start) rfl
  obtain ⟨fd_all_cheapest, F_all_cheapest⟩ := cd.def_ 26 (d := d_all_cheapest) rfl
  obtain ⟨fd_filled_with, F_filled_with⟩ := cd.def_ 40 (d := d_filled_with) rfl
  obtain ⟨fd_Price_cost, F_Price_cost⟩ := cd.def_ 65 (d := d_Price_cost) rfl
  obtain ⟨fd_shows_row, F_shows_row⟩ := cd.def_ 12 (d := d_shows_row) rfl
  obtain ⟨fd_and_of, F_and_of⟩ := cd.def_ 9 (d := d_and_of) rfl
  obtain ⟨fd_has_one_more, F_has_one_more⟩ := cd.def_ 11 (d := d_has_one_more) rfl
  obtain ⟨fd_or_of, F_or_of⟩ := cd.def_ 10 (d := d_or_of) rfl
  obtain ⟨fd_shows_pair, F_shows_pair⟩ := cd.def_ 13 (d := d_shows_pair) rfl
  obtain ⟨fd_shown_by, F_shown_by⟩ := cd.def_ 14 (d := d_shown_by) rfl
  obtain ⟨fd_fault_of, F_fault_of⟩ := cd.def_ 15 (d := d_fault_of) rfl
  obtain ⟨fd_is_kind, F_is_kind⟩ := cd.def_ 16 (d := d_is_kind) rfl
  obtain ⟨fd_fixed_kinds, F_fixed_kinds⟩ := cd.def_ 18 (d := d_fixed_kinds) rfl
  obtain ⟨fd_free_kinds, F_free_kinds⟩ := cd.def_ 17 (d := d_free_kinds) rfl
  obtain ⟨fd_side, F_side⟩ := cd.def_ 27 (d := d_side) rfl
  obtain ⟨fd_kind_for, F_kind_for⟩ := cd.def_ 42 (d := d_kind_for) rfl
  obtain ⟨fd_Flowing_room, F_Flowing_room⟩ := cd.def_ 75 (d := d_Flowing_room) rfl
  obtain ⟨fd_Flowing_walk, F_Flowing_walk⟩ := cd.def_ 76 (d := d_Flowing_walk) rfl
  obtain ⟨fd_Flowing_send, F_Flowing_send⟩ := cd.def_ 77 (d := d_Flowing_send) rfl
  obtain ⟨fd_Flowing_fill, F_Flowing_fill⟩ := cd.def_ 78 (d := d_Flowing_fill) rfl
  obtain ⟨fd_Flowing_init, F_Flowing_init⟩ := cd.def_ 74 (d := d_Flowing_init) rfl
  obtain ⟨fd_least_side, F_least_side⟩ := cd.def_ 39 (d := d_least_side) rfl
  obtain ⟨fd_filling_by_side, F_filling_by_side⟩ := cd.def_ 43 (d := d_filling_by_side) rfl
  obtain ⟨fd_pairs_of, F_pairs_of⟩ := cd.def_ 36 (d := d_pairs_of) rfl
  obtain ⟨fd_is_bent, F_is_bent⟩ := cd.def_ 37 (d := d_is_bent) rfl
  obtain ⟨fd_Maker_put_singles, F_Maker_put_singles⟩ := cd.def_ 72 (d := d_Maker_put_singles) rfl
  obtain ⟨fd_Maker_put_pairs, F_Maker_put_pairs⟩ := cd.def_ 71 (d := d_Maker_put_pairs) rfl
  obtain ⟨fd_Maker_put_triple, F_Maker_put_triple⟩ := cd.def_ 70 (d := d_Maker_put_triple) rfl
  obtain ⟨fd_Maker_network, F_Maker_network⟩ := cd.def_ 73 (d := d_Maker_network) rfl
  obtain ⟨fd_Maker_init, F_Maker_init⟩ := cd.def_ 69 (d := d_Maker_init) rfl
  obtain ⟨fd_is_rising, F_is_rising⟩ := cd.def_ 28 (d := d_is_rising) rfl
  obtain ⟨fd_is_below_sides, F_is_below_sides⟩ := cd.def_ 1 (d := d_is_below_sides) rfl
  obtain ⟨fd_is_member, F_is_member⟩ := cd.def_ 29 (d := d_is_member) rfl
  obtain ⟨fd_is_sum, F_is_sum⟩ := cd.def_ 30 (d := d_is_sum) rfl
  obtain ⟨fd_network_of, F_network_of⟩ := cd.def_ 38 (d := d_network_of) rfl
  obtain ⟨fd_sum_told, F_sum_told⟩ := cd.def_ 32 (d := d_sum_told) rfl
  obtain ⟨fd_letters_read, F_letters_read⟩ := cd.def_ 34 (d := d_letters_read) rfl
  obtain ⟨fd_worth_at, F_worth_at⟩ := cd.def_ 31 (d := d_worth_at) rfl
  obtain ⟨fd_sum_of_price, F_sum_of_price⟩ := cd.def_ 33 (d := d_sum_of_price) rfl
  obtain ⟨fd_sum_of, F_sum_of⟩ := cd.def_ 35 (d := d_sum_of) rfl
  obtain ⟨fd_bent_network, F_bent_network⟩ := cd.def_ 41 (d := d_bent_network) rfl
  obtain ⟨fd_some_cheapest, F_some_cheapest⟩ := cd.def_ 44 (d := d_some_cheapest) rfl
  obtain ⟨fd_least_total, F_least_total⟩ := cd.def_ 45 (d := d_least_total) rfl
  obtain ⟨fd_are_free_cells, F_are_free_cells⟩ := cd.def_ 46 (d := d_are_free_cells) rfl
  obtain ⟨fd_written_price, F_written_price⟩ := cd.def_ 47 (d := d_written_price) rfl
  obtain ⟨fd_law_free, F_law_free⟩ := cd.def_ 60 (d := d_law_free) rfl
  obtain ⟨fd_law_start, F_law_start⟩ := cd.def_ 59 (d := d_law_start) rfl
  obtain ⟨fd_are_cells, F_are_cells⟩ := cd.def_ 19 (d := d_are_cells) rfl
  obtain ⟨fd_Book_len, F_Book_len⟩ := cd.def_ 67 (d := d_Book_len) rfl
  obtain ⟨fd_is_tie, F_is_tie⟩ := cd.def_ 20 (d := d_is_tie) rfl
  obtain ⟨fd_Puzzle_init, F_Puzzle_init⟩ := cd.def_ 68 (d := d_Puzzle_init) rfl
  obtain ⟨fd_are_prices, F_are_prices⟩ := cd.def_ 7 (d := d_are_prices) rfl
  obtain ⟨fd_Book_init, F_Book_init⟩ := cd.def_ 66 (d := d_Book_init) rfl
  obtain ⟨fd_law_made_book, F_law_made_book⟩ := cd.def_ 55 (d := d_law_made_book) rfl
  obtain ⟨fd_law_ties, F_law_ties⟩ := cd.def_ 54 (d := d_law_ties) rfl
  obtain ⟨fd_law_amount, F_law_amount⟩ := cd.def_ 53 (d := d_law_amount) rfl
  obtain ⟨fd_law_bent, F_law_bent⟩ := cd.def_ 61 (d := d_law_bent) rfl
  obtain ⟨fd_law_kind_price, F_law_kind_price⟩ := cd.def_ 62 (d := d_law_kind_price) rfl
  obtain ⟨fd_law_draws, F_law_draws⟩ := cd.def_ 48 (d := d_law_draws) rfl
  obtain ⟨fd_law, F_law⟩ := cd.def_ 63 (d := d_law) rfl
  refine ⟨fd_law, F_law, fun base => ?_⟩
  have c_law_at : Cal P w K mg base "_law_at" 1 ["_law_row"] (sp_law_at K) := ok_law_at T F_law_at 
  have c_law_rows : Cal P w K mg base "_law_rows" 1 ["_law_many"] (sp_law_rows K) := ok_law_rows T F_law_rows 
  have c_law_keeps : Cal P w K mg base "_law_keeps" 1 ["_law_filling", "_law_start_here"] (sp_law_keeps K) := ok_law_keeps T F_law_keeps 
  have c_law_total : Cal P w K mg base "_law_total" 2 ["_law_book", "_law_ties_here", "_law_filling"] (sp_law_total K) := ok_law_total T F_law_total c_law_at
  have c_law_totals : Cal P w K mg base "_law_totals" 3 ["_law_book", "_law_cells", "_law_ties_here", "_law_start_here"] (sp_law_totals K) := ok_law_totals T F_law_totals c_law_rows c_law_keeps c_law_total
  have c_law_take : Cal P w K mg base "_law_take" 1 ["_law_hand", "_law_many"] (sp_law_take K) := ok_law_take T F_law_take 
  have c_law_is : Cal P w K mg base "_law_is" 2 ["_law_price", "_law_word"] (sp_law_is K) := ok_law_is T F_law_is c_law_at c_law_rows
  have c_is_integer : Cal P w K mg base "is_integer" 1 ["value"] (sp_is_integer K) := ok_is_integer T F_is_integer 
  have c_are_integers : Cal P w K mg base "are_integers" 2 ["value", "count"] (sp_are_integers K) := ok_are_integers T F_are_integers c_is_integer
  have c_is_size : Cal P w K mg base "is_size" 2 ["value"] (sp_is_size K) := ok_is_size T F_is_size c_is_integer
  have c_Price : CalC P w K mg base "Price" (He.ga K "Price") 3 ["self", "size", "amounts"] (sp_Price_init K) := ok_Price_init T F_Price_init c_are_integers c_is_size
  have c_rows_of : Cal P w K mg base "rows_of" 1 ["size"] (sp_rows_of K) := ok_rows_of T F_rows_of 
  have c_number_of : Cal P w K mg base "number_of" 1 ["row"] (sp_number_of K) := ok_number_of T F_number_of 
  have c_sum_of_ties : Cal P w K mg base "sum_of_ties" 2 ["puzzle", "filling"] (sp_sum_of_ties K) := ok_sum_of_ties T F_sum_of_ties c_number_of
  have c_is_below_prices : Cal P w K mg base "is_below_prices" 2 ["value", "limit"] (sp_is_below_prices K) := ok_is_below_prices T F_is_below_prices c_is_integer
  have c_is_row : Cal P w K mg base "is_row" 3 ["value", "size"] (sp_is_row K) := ok_is_row T F_is_row c_is_below_prices
  have c_is_filling : Cal P w K mg base "is_filling" 4 ["puzzle", "value"] (sp_is_filling K) := ok_is_filling T F_is_filling c_is_row
  have c_total_of : Cal P w K mg base "total_of" 5 ["puzzle", "filling"] (sp_total_of K) := ok_total_of T F_total_of c_sum_of_ties c_is_filling
  have c_rows_with : Cal P w K mg base "rows_with" 1 ["puzzle", "start"] (sp_rows_with K) := ok_rows_with T F_rows_with 
  have c_is_start : Cal P w K mg base "is_start" 3 ["puzzle", "value"] (sp_is_start K) := ok_is_start T F_is_start c_is_below_prices
  have c_all_cheapest : Cal P w K mg base "all_cheapest" 4 ["puzzle", "start"] (sp_all_cheapest K) := ok_all_cheapest T F_all_cheapest c_sum_of_ties c_rows_with c_is_start
  have c_filled_with : Cal P w K mg base "filled_with" 1 ["puzzle", "start", "value"] (sp_filled_with K) := ok_filled_with T F_filled_with 
  have m_cost : CalM P w K mg base (He.ga K "Price") "cost" 4 ["self", "row"] (sp_Price_cost K) := ok_Price_cost T F_Price_cost c_number_of c_is_row
  have c_shows_row : Cal P w K mg base "shows_row" 1 ["price", "word", "row"] (sp_shows_row K) := ok_shows_row T F_shows_row 
  have c_and_of : Cal P w K mg base "and_of" 1 ["one", "other"] (sp_and_of K) := ok_and_of T F_and_of 
  have c_has_one_more : Cal P w K mg base "has_one_more" 2 ["one", "other"] (sp_has_one_more K) := ok_has_one_more T F_has_one_more c_and_of
  have c_or_of : Cal P w K mg base "or_of" 1 ["one", "other"] (sp_or_of K) := ok_or_of T F_or_of 
  have c_shows_pair : Cal P w K mg base "shows_pair" 5 ["price", "word", "one", "other"] (sp_shows_pair K) := ok_shows_pair T F_shows_pair m_cost c_has_one_more c_and_of c_or_of
  have c_shown_by : Cal P w K mg base "shown_by" 6 ["price", "word"] (sp_shown_by K) := ok_shown_by T F_shown_by c_shows_row c_shows_pair c_rows_of
  have c_fault_of : Cal P w K mg base "fault_of" 7 ["book", "word"] (sp_fault_of K) := ok_fault_of T F_fault_of c_shown_by
  have c_is_kind : Cal P w K mg base "is_kind" 8 ["book", "word"] (sp_is_kind K) := ok_is_kind T F_is_kind c_fault_of
  have c_fixed_kinds : Cal P w K mg base "fixed_kinds" 9 ["book"] (sp_fixed_kinds K) := ok_fixed_kinds T F_fixed_kinds c_is_kind
  have c_free_kinds : Cal P w K mg base "free_kinds" 1 ["book"] (sp_free_kinds K) := ok_free_kinds T F_free_kinds 
  have c_side : CalK P w K mg base "side" 10 ["book", "fixed"] ["fixed"] (sp_side K) := ok_side T F_side c_fixed_kinds c_free_kinds
  have c_kind_for : Cal P w K mg base "kind_for" 11 ["puzzle", "start"] (sp_kind_for K) := ok_kind_for T F_kind_for c_side
  have m_room : CalM P w K mg base (He.ga K "Flowing") "room" 1 ["self", "at", "sign"] (sp_Flowing_room K) := ok_Flowing_room T F_Flowing_room 
  have m_walk : CalM P w K mg base (He.ga K "Flowing") "walk" 2 ["self"] (sp_Flowing_walk K) := ok_Flowing_walk T F_Flowing_walk m_room
  have m_send : CalM P w K mg base (He.ga K "Flowing") "send" 2 ["self", "reached"] (sp_Flowing_send K) := ok_Flowing_send T F_Flowing_send m_room
  have m_fill : CalM P w K mg base (He.ga K "Flowing") "fill" 3 ["self"] (sp_Flowing_fill K) := ok_Flowing_fill T F_Flowing_fill m_walk m_send
  have c_Flowing : CalC P w K mg base "Flowing" (He.ga K "Flowing") 1 ["self", "network"] (sp_Flowing_init K) := ok_Flowing_init T F_Flowing_init 
  have c_least_side : Cal P w K mg base "least_side" 4 ["network"] (sp_least_side K) := ok_least_side T F_least_side m_fill c_Flowing
  have c_filling_by_side : Cal P w K mg base "filling_by_side" 5 ["puzzle", "start", "network"] (sp_filling_by_side K) := ok_filling_by_side T F_filling_by_side c_least_side
  have c_pairs_of : Cal P w K mg base "pairs_of" 1 ["letters"] (sp_pairs_of K) := ok_pairs_of T F_pairs_of 
  have c_is_bent : Cal P w K mg base "is_bent" 2 ["told"] (sp_is_bent K) := ok_is_bent T F_is_bent c_pairs_of
  have m_put_singles : CalM P w K mg base (He.ga K "Maker") "put_singles" 1 ["self"] (sp_Maker_put_singles K) := ok_Maker_put_singles T F_Maker_put_singles 
  have m_put_pairs : CalM P w K mg base (He.ga K "Maker") "put_pairs" 1 ["self"] (sp_Maker_put_pairs K) := ok_Maker_put_pairs T F_Maker_put_pairs 
  have m_put_triple : CalM P w K mg base (He.ga K "Maker") "put_triple" 1 ["self", "nodes", "number", "helper"] (sp_Maker_put_triple K) := ok_Maker_put_triple T F_Maker_put_triple 
  have m_network : CalM P w K mg base (He.ga K "Maker") "network" 2 ["self"] (sp_Maker_network K) := ok_Maker_network T F_Maker_network m_put_singles m_put_pairs m_put_triple
  have c_Maker : CalC P w K mg base "Maker" (He.ga K "Maker") 1 ["self", "told", "letter_count"] (sp_Maker_init K) := ok_Maker_init T F_Maker_init 
  have c_is_rising : Cal P w K mg base "is_rising" 1 ["letters"] (sp_is_rising K) := ok_is_rising T F_is_rising 
  have c_is_below_sides : Cal P w K mg base "is_below_sides" 1 ["value", "many"] (sp_is_below_sides K) := ok_is_below_sides T F_is_below_sides 
  have c_is_member : Cal P w K mg base "is_member" 2 ["value", "letter_count"] (sp_is_member K) := ok_is_member T F_is_member c_is_rising c_is_below_sides
  have c_is_sum : Cal P w K mg base "is_sum" 3 ["value", "letter_count"] (sp_is_sum K) := ok_is_sum T F_is_sum c_is_rising c_is_member
  have c_network_of : Cal P w K mg base "network_of" 4 ["told", "letter_count"] (sp_network_of K) := ok_network_of T F_network_of m_network c_Maker c_is_bent c_is_sum
  have c_sum_told : Cal P w K mg base "sum_told" 1 ["numbers"] (sp_sum_told K) := ok_sum_told T F_sum_told 
  have c_letters_read : Cal P w K mg base "letters_read" 1 ["places", "cells", "fixed"] (sp_letters_read K) := ok_letters_read T F_letters_read 
  have c_worth_at : Cal P w K mg base "worth_at" 1 ["told", "row"] (sp_worth_at K) := ok_worth_at T F_worth_at 
  have c_sum_of_price : Cal P w K mg base "sum_of_price" 5 ["price"] (sp_sum_of_price K) := ok_sum_of_price T F_sum_of_price c_sum_told c_rows_of m_cost c_worth_at
  have c_sum_of : Cal P w K mg base "sum_of" 6 ["puzzle", "start"] (sp_sum_of K) := ok_sum_of T F_sum_of c_sum_told c_letters_read c_sum_of_price c_is_start
  have c_bent_network : Cal P w K mg base "bent_network" 7 ["puzzle", "start"] (sp_bent_network K) := ok_bent_network T F_bent_network c_is_bent c_network_of c_sum_of
  have c_some_cheapest : Cal P w K mg base "some_cheapest" 12 ["puzzle", "start"] (sp_some_cheapest K) := ok_some_cheapest T F_some_cheapest c_all_cheapest c_filled_with c_kind_for c_filling_by_side c_bent_network c_is_start
  have c_least_total : Cal P w K mg base "least_total" 13 ["puzzle", "start"] (sp_least_total K) := ok_least_total T F_least_total c_total_of c_some_cheapest
  have c_are_free_cells : Cal P w K mg base "are_free_cells" 2 ["puzzle", "start", "value"] (sp_are_free_cells K) := ok_are_free_cells T F_are_free_cells c_is_below_sides
  have c_written_price : Cal P w K mg base "written_price" 14 ["puzzle", "cells", "start"] (sp_written_price K) := ok_written_price T F_written_price c_Price c_rows_of c_least_total c_are_free_cells c_is_start
  have c_law_free : Cal P w K mg base "_law_free" 2 ["_law_hand", "_law_cells", "_law_start_here", "_law_many"] (sp_law_free K) := ok_law_free T F_law_free c_law_take
  have c_law_start : Cal P w K mg base "_law_start" 2 ["_law_hand", "_law_cells", "_law_share"] (sp_law_start K) := ok_law_start T F_law_start c_law_take
  have c_are_cells : Cal P w K mg base "are_cells" 3 ["value", "count", "cell_count"] (sp_are_cells K) := ok_are_cells T F_are_cells c_is_below_prices
  have m_len : CalM P w K mg base (He.ga K "Book") "__len__" 1 ["self"] (sp_Book_len K) := ok_Book_len T F_Book_len 
  have c_is_tie : Cal P w K mg base "is_tie" 4 ["book", "cell_count", "value"] (sp_is_tie K) := ok_is_tie T F_is_tie c_are_cells c_is_integer c_is_below_prices m_len
  have c_Puzzle : CalC P w K mg base "Puzzle" (He.ga K "Puzzle") 5 ["self", "book", "cell_count", "ties"] (sp_Puzzle_init K) := ok_Puzzle_init T F_Puzzle_init c_is_tie c_is_integer
  have c_are_prices : Cal P w K mg base "are_prices" 1 ["prices"] (sp_are_prices K) := ok_are_prices T F_are_prices 
  have c_Book : CalC P w K mg base "Book" (He.ga K "Book") 2 ["self", "prices"] (sp_Book_init K) := ok_Book_init T F_Book_init c_are_prices
  have c_law_made_book : Cal P w K mg base "_law_made_book" 5 ["_law_book"] (sp_law_made_book K) := ok_law_made_book T F_law_made_book c_Book c_Price
  have c_law_ties : Cal P w K mg base "_law_ties" 2 ["_law_hand", "_law_book", "_law_cells", "_law_many"] (sp_law_ties K) := ok_law_ties T F_law_ties c_law_take
  have c_law_amount : Cal P w K mg base "_law_amount" 2 ["_law_hand"] (sp_law_amount K) := ok_law_amount T F_law_amount c_law_take
  have c_law_bent : Cal P w K mg base "_law_bent" 3 ["_law_hand", "_law_size"] (sp_law_bent K) := ok_law_bent T F_law_bent c_law_rows c_law_take c_law_amount
  have c_law_kind_price : Cal P w K mg base "_law_kind_price" 4 ["_law_hand", "_law_word"] (sp_law_kind_price K) := ok_law_kind_price T F_law_kind_price c_law_take c_law_amount c_law_rows c_law_bent
  have c_law_draws : Cal P w K mg base "_law_draws" 1 ["_law_script", "_law_many"] (sp_law_draws K) := ok_law_draws T F_law_draws 
  exact ok_law T F_law c_law_at c_law_totals c_law_take c_law_is c_written_price c_law_free c_law_start c_Puzzle c_law_made_book c_law_ties c_law_kind_price c_law_draws
/-- what the end asks of the law's def -/
theorem facts {P : Program} {w : World} {K : PySem.W.Frag} {h : Heap} {mg : Str → Option Value} {f : Addr} (X : K.In h) (G : h.Ns mainGlobals mg) (hfa : mg ("law" : Str) = some (.ref f)) (c : SaysY w K) :
    ∃ fd : FuncData, (∀ (s : Shared) (v : Value), BindsTo s fd ⟨[v], []⟩ [("_law_script", v)]) ∧ ∀ base : Heap, FnOk P w K mg base CX0 15 f fd ["_law_script"] (sp_law K) := by
  obtain ⟨fd, F, ok⟩ := law_fn (P := P) X G c
  have e := hfa.symm.trans (gg_of X G c).g_law
  cases e
  have b := FunD.bindsA (ps := ["_law_script"]) F fun _ _ _ _ _ _ us hl => match us, hl with | [_], _ => rfl
  exact ⟨fd, fun s v => b s [v] rfl, ok⟩
end Cut
end

set_option maxHeartbeats 4000000
open PySem PySem.W PySem.Calls PyProof.Rows
set_option maxHeartbeats 0 in
theorem PySem.Challenge.cw_cutorall_k49_whole_kinds_kept_by_writing_holds : PySem.Challenge.rw_cutorall_k49_whole_kinds_kept_by_writing.Holds := by
  w_on; o_law
  refine HandSHeadRun.head_any (r := OpenLaw.row PySem.Challenge.rw_cutorall_k49_whole_kinds_kept_by_writing) (q := view (OpenLaw.row PySem.Challenge.rw_cutorall_k49_whole_kinds_kept_by_writing).prog [106]) (H := Cut.hk) (ob := Cut.ob) (M := 6500) (loose := Cut.loose) (d := HandSHeadRun.topDef (OpenLaw.row PySem.Challenge.rw_cutorall_k49_whole_kinds_kept_by_writing).prog 106) (kwd := []) Cut.ob_eq
    (by kernel_rfl) (fun s => by kernel_rfl) Cut.run (by kernel_rfl) (by kernel_rfl) (by kernel_rfl) (by rfl) (by first | assumption | decide +kernel) (by decide +kernel) ⟨rfl, rfl, rfl, rfl, rfl, by decide +kernel⟩ ?hw ?hc
  case hw => w_witness2
  case hc =>
    refine L2.walk_ofE (l := PySem.Challenge.rw_cutorall_k49_whole_kinds_kept_by_writing) (n := 63) (k := 15) (x := "_law_script") (CX := L2.CX0) rfl (by decide) (by kernel_rfl) ⟨rfl, by decide, by decide⟩ ?F (fun _ _ _ _ z => z)
    intro w mg fa h Y G hmg0
    obtain ⟨K, KX, c⟩ := Y
    have hmg : mg ("law" : PySem.Str) = some (.ref fa) := by
      have e : (HandSHeadRun.topDef (OpenLaw.row PySem.Challenge.rw_cutorall_k49_whole_kinds_kept_by_writing).prog 106).name = ("law" : PySem.Str) := by kernel_rfl
      rw [← e]
      exact hmg0
    obtain ⟨fd, hb, hF⟩ := Cut.facts (P := (PySem.Challenge.rw_cutorall_k49_whole_kinds_kept_by_writing).prog) (w := w) KX G hmg c
    exact ⟨K, fd, Cut.sp_law K, KX, hb, fun H a ns hl _ hS => ⟨a, ns, rfl, hS, Nat.le_trans hl (by decide), fun _ => rfl⟩, fun base _ _ => hF base⟩
#print axioms PySem.Challenge.cw_cutorall_k49_whole_kinds_kept_by_writing_holds
